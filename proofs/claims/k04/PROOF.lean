import PyProof.Rows.All
import PySem.PyData
import PyProof.EqLayable
import Wide.All
import OpenK.AllK
import Wide.FinOn
import HandS.Dict
import HandS.Conv
import HandS.Walk
import HandS.Lambda
import HandS.Words
import HandS.ForMost
import HandS.ForExc
import HandS.Deep
import HandS.IsInst
import KE.GoesNew
import HandS.ExcInit
import HandS.ClsMeth
import HandS.TupAny
import HandS.SortInts
import HandS.Style
import KE.KIndexOf
import HandS.SetFor
import HandS.Strs
import HandS.ExcField
import HandS.TryOnly
import PyProof.ReprReads
import HandS.Call
import HandS.ExcOwn
import HandS.DictComp
import HandS.More
import HandS.EndBits
import PyProof.StrLaws
import PyProof.ReprLoop
import HandS.ExcIs
import PySem.Challenge.RW_reslot_k04_invalid_timetables
set_option Elab.async false
section
set_option linter.all false
/-! The mirror: values, results, and the combinators that a def's mirror is made of. -/
namespace Mi
open PySem
noncomputable section

inductive D where
  | non | bl (b : Bool) | int (i : Int) | str (x : Str)
  | lst (xs : List D) | tup (xs : List D) | dic (kvs : List (D × D)) | dit (kvs : List (D × D)) | obj (c : Str) (fs : List (Str × D))

mutual
/-- as plain data; what is none stands as a dict (no rule of == takes a dict) -/
def D.py : D → PyData
  | .non => .none | .bl b => .bool b | .int i => .int i | .str x => .str x
  | .lst xs => .list (D.pys xs) | .tup xs => .tuple (D.pys xs) | .dic _ => .dict [] | .dit _ => .dict [] | .obj _ _ => .dict []
def D.pys : List D → List PyData
  | [] => []
  | x :: xs => x.py :: D.pys xs
end
abbrev Env := List (Option D)
inductive Res (α : Type) where
  | ok (a : α) (δ : Env) | exc (c : Str) (d : D) (δ : Env) | bad
def Res.bind {α β : Type} (x : Res α) (f : α → Env → Res β) : Res β := match x with
  | .ok a δ => f a δ
  | .exc c d δ => .exc c d δ
  | .bad => .bad
@[simp] theorem Res.bind_ok {α β : Type} (a : α) (δ : Env) (f : α → Env → Res β) : (Res.ok a δ).bind f = f a δ := rfl
@[simp] theorem Res.bind_exc {α β : Type} (c : Str) (d : D) (δ : Env) (f : α → Env → Res β) : (Res.exc c d δ : Res α).bind f = .exc c d δ := rfl
@[simp] theorem Res.bind_bad {α β : Type} (f : α → Env → Res β) : (Res.bad : Res α).bind f = .bad := rfl
def Res.opt {α : Type} (o : Option α) (δ : Env) : Res α := match o with
  | some a => .ok a δ
  | none => .bad
@[simp] theorem Res.opt_some {α : Type} (a : α) (δ : Env) : Res.opt (some a) δ = .ok a δ := rfl
@[simp] theorem Res.opt_none {α : Type} (δ : Env) : Res.opt (none : Option α) δ = .bad := rfl
abbrev Ex := Env → Res D
abbrev ItE := Env → Res (List D)
/-- a def's result: what it returns and what its own lists hold then; an exception; none told -/
inductive Fr where
  | ok (d : D) (outs : List D) | exc (c : Str) (d : D) | bad
/-- a statement's end -/
inductive Out where
  | nx (δ : Env) | rt (d : D) (δ : Env) | bk (δ : Env) | ct (δ : Env) | exc (c : Str) (d : D) (δ : Env) | bad
abbrev Sm := Env → Out
def Res.out {α : Type} (x : Res α) (f : α → Env → Out) : Out := match x with
  | .ok a δ => f a δ
  | .exc c d δ => .exc c d δ
  | .bad => .bad
@[simp] theorem Res.out_ok {α : Type} (a : α) (δ : Env) (f : α → Env → Out) : (Res.ok a δ).out f = f a δ := rfl
@[simp] theorem Res.out_exc {α : Type} (c : Str) (d : D) (δ : Env) (f : α → Env → Out) : (Res.exc c d δ : Res α).out f = .exc c d δ := rfl
@[simp] theorem Res.out_bad {α : Type} (f : α → Env → Out) : (Res.bad : Res α).out f = .bad := rfl

/-! ### expressions -/
def eV (i : Nat) : Ex := fun δ => match δ[i]? with
  | some (some d) => .ok d δ
  | _ => .bad
def eC (d : D) : Ex := fun δ => .ok d δ
def e1 (op : D → Option D) (a : Ex) : Ex := fun δ => (a δ).bind fun x δ1 => Res.opt (op x) δ1
def e2 (op : D → D → Option D) (a b : Ex) : Ex := fun δ => (a δ).bind fun x δ1 => (b δ1).bind fun y δ2 => Res.opt (op x y) δ2
/-- the left side is the def's own list (or dict) in slot i -/
def eO2 (op : D → D → Option D) (i : Nat) (b : Ex) : Ex := fun δ => (b δ).bind fun y δ1 => (eV i δ1).bind fun x δ2 => Res.opt (op x y) δ2
/-- a part that may be left out, else an int -/
def eP (l : Option Ex) : Env → Res (Option Int) := fun δ => match l with
  | none => .ok none δ
  | some f => (f δ).bind fun y δ1 => match y with
    | .int i => .ok (some i) δ1
    | _ => .bad
def e3 (op : D → Option Int → Option Int → Option D) (a : Ex) (l h : Option Ex) : Ex := fun δ => (a δ).bind fun x δ1 => (eP l δ1).bind fun y δ2 => (eP h δ2).bind fun z δ3 => Res.opt (op x y z) δ3
def eO3 (op : D → Option Int → Option Int → Option D) (i : Nat) (l h : Option Ex) : Ex := fun δ => (eP l δ).bind fun y δ1 => (eP h δ1).bind fun z δ2 => (eV i δ2).bind fun x δ3 => Res.opt (op x y z) δ3
def truth (d : D) : Option Bool := match d with
  | .bl b => some b
  | _ => none
def eT (a : Ex) (f : Bool → Env → Res D) : Ex := fun δ => (a δ).bind fun x δ1 => (Res.opt (truth x) δ1).bind f
def eAnd (a b : Ex) : Ex := eT a fun c δ => if c = true then b δ else .ok (.bl false) δ
def eOr (a b : Ex) : Ex := eT a fun c δ => if c = true then .ok (.bl true) δ else b δ
def eNot (a : Ex) : Ex := eT a fun c δ => .ok (.bl (!c)) δ
def eIf (c a b : Ex) : Ex := eT c fun k δ => if k = true then a δ else b δ
def eL : List Ex → ItE
  | [] => fun δ => .ok [] δ
  | a :: r => fun δ => (a δ).bind fun x δ1 => (eL r δ1).bind fun xs δ2 => .ok (x :: xs) δ2
def eTup (as : List Ex) : Ex := fun δ => (eL as δ).bind fun xs δ1 => .ok (.tup xs) δ1
def eLst (as : List Ex) : Ex := fun δ => (eL as δ).bind fun xs δ1 => .ok (.lst xs) δ1
/-- a < b < c -/
def eCh (o1 o2 : D → D → Option D) (a b c : Ex) : Ex := fun δ => (a δ).bind fun x δ1 => (b δ1).bind fun y δ2 => (Res.opt ((o1 x y).bind truth) δ2).bind fun k δ2 =>
  if k = true then (c δ2).bind fun z δ3 => Res.opt (o2 y z) δ3 else .ok (.bl false) δ2
/-- a call whose arguments are values -/
def eCall (f : List D → Fr) (as : List Ex) : Ex := fun δ => (eL as δ).bind fun ds δ1 => match f ds with
  | .ok d _ => .ok d δ1
  | .exc c d => .exc c d δ1
  | .bad => .bad
/-- .. whose first argument is the def's own list in slot i, which the callee changes -/
def eCallO (f : List D → Fr) (i : Nat) (as : List Ex) : Ex := fun δ => (eL as δ).bind fun ds δ1 => (eV i δ1).bind fun w δ2 => match f (w :: ds) with
  | .ok d [w'] => .ok d (δ2.set i (some w'))
  | _ => .bad
/-- .. whose second argument is it -/
def eCallP (f : List D → Fr) (a : Ex) (i : Nat) (as : List Ex) : Ex := fun δ => (a δ).bind fun x δ0 => (eL as δ0).bind fun ds δ1 => (eV i δ1).bind fun w δ2 => match f (x :: w :: ds) with
  | .ok d [w'] => .ok d (δ2.set i (some w'))
  | _ => .bad

/-- .. whose first argument is a new list, forgotten behind the call -/
def eCallN (f : List D → Fr) (a : Ex) (as : List Ex) : Ex := fun δ => (a δ).bind fun w δ0 => (eL as δ0).bind fun ds δ1 => match f (w :: ds) with
  | .ok d [_] => .ok d δ1
  | .exc c d => .exc c d δ1
  | _ => .bad
/-- x.f of an object -/
def fldD (c f : Str) (x : D) : Option D := match x with
  | .obj c' fs => if c' = c then fs.lookup f else none
  | _ => none
/-! ### targets and comprehensions -/
/-- one name, or names of a tuple's items -/
inductive Tg where
  | n (i : Nat) | t (is : List Nat)
def setN : List Nat → List D → Env → Option Env
  | [], [], δ => some δ
  | i :: is, d :: ds, δ => setN is ds (δ.set i (some d))
  | _, _, _ => none
def Tg.put (t : Tg) (d : D) (δ : Env) : Option Env := match t with
  | .n i => some (δ.set i (some d))
  | .t is => match d with
    | .tup ds => setN is ds δ
    | _ => none
def wipeE (δ : Env) : List Nat → Env
  | [] => δ
  | v :: vs => (wipeE δ vs).set v none
/-- what no one unfolds; the most items that a list is asked to have -/
def hide {α : Type} (x : α) : α := Classical.choose (⟨x, rfl⟩ : ∃ y, y = x)
theorem hide_eq {α : Type} (x : α) : hide x = x := Classical.choose_spec (⟨x, rfl⟩ : ∃ y, y = x)
def cap : Nat := hide 16000000
theorem cap_eq : cap = 16000000 := hide_eq _
theorem cap_of {n : Nat} (h : n ≤ 1000000) : n ≤ cap := by rw [cap_eq]; omega
theorem cap_lt {n : Nat} (h : n ≤ 1000000) : n < cap := by rw [cap_eq]; omega
/-- the slots at vs as they were in δ0 -/
def restE (δ0 : Env) : List Nat → Env → Env
  | [], δ => δ
  | v :: vs, δ => (restE δ0 vs δ).set v ((δ0[v]?).getD none)
def tstC (c : Option Ex) : Ex := fun δ => match c with
  | none => .ok (.bl true) δ
  | some c => c δ
/-- the turns of a comprehension: no turn raises -/
def lcL (t : Tg) (own : List Nat) (c : Option Ex) (e : Ex) : List D → ItE
  | [] => fun δ => .ok [] δ
  | d :: ds => fun δ => match t.put d (wipeE δ own) with
    | none => .bad
    | some δ1 => match tstC c δ1 with
      | .ok (.bl true) δ2 => (match e δ2 with
        | .ok x δ3 => (lcL t own c e ds δ3).bind fun xs δ4 => .ok (x :: xs) δ4
        | _ => .bad)
      | .ok (.bl false) δ2 => lcL t own c e ds δ2
      | _ => .bad
def eLc (it : ItE) (t : Tg) (own : List Nat) (c : Option Ex) (e : Ex) : Ex := fun δ => (it δ).bind fun ds δ1 => if ds.length ≤ cap then
    (match lcL t own c e ds δ1 with
    | .ok xs δ2 => .ok (.lst xs) (restE δ1 own δ2)
    | _ => .bad)
  else .bad

/-! ### what is walked -/
def seqOf (d : D) : Option (List D) := match d with
  | .lst xs => some xs
  | .tup xs => some xs
  | _ => none
def iSeq (a : Ex) : ItE := fun δ => (a δ).bind fun x δ1 => Res.opt (seqOf x) δ1
def b62 : Int := hide (2 ^ 62)
theorem b62_eq : b62 = 2 ^ 62 := hide_eq _
/-- a number that a range may have -/
def smInt (d : D) : Option Int := match d with
  | .int i => if -b62 ≤ i ∧ i < b62 then some i else none
  | _ => none
theorem smInt_of {d : D} {i : Int} (h : smInt d = some i) : d = .int i ∧ -(2 ^ 62) ≤ i ∧ i < 2 ^ 62 := by
  unfold smInt at h
  split at h
  · split at h
    · cases h
      rename_i h2
      rw [b62_eq] at h2
      exact ⟨rfl, h2⟩
    · cases h
  · cases h
theorem smInt_iff {i : Int} (h : -(2 ^ 62) ≤ i ∧ i < 2 ^ 62) : smInt (.int i) = some i := by
  rw [← b62_eq] at h
  exact if_pos h
def rng (lo : Int) (n : Nat) : List D := (List.range n).map fun (k : Nat) => D.int (lo + (k : Int))
def iRng (a : Ex) : ItE := fun δ => (a δ).bind fun x δ1 => Res.opt ((smInt x).map fun j => rng 0 j.toNat) δ1
def iRng2 (a b : Ex) : ItE := fun δ => (a δ).bind fun x δ1 => (b δ1).bind fun y δ2 => Res.opt ((smInt x).bind fun i => (smInt y).map fun j => rng i (j - i).toNat) δ2
def enumD (k : Nat) : List D → List D
  | [] => []
  | x :: xs => D.tup [.int k, x] :: enumD (k + 1) xs
def iEnum (a : Ex) : ItE := fun δ => (a δ).bind fun x δ1 => Res.opt ((seqOf x).map (enumD 0)) δ1
def zip2 : List D → List D → List D
  | x :: xs, y :: ys => D.tup [x, y] :: zip2 xs ys
  | _, _ => []
def zip3 : List D → List D → List D → List D
  | x :: xs, y :: ys, z :: zs => D.tup [x, y, z] :: zip3 xs ys zs
  | _, _, _ => []
def iZip (a b : Ex) : ItE := fun δ => (a δ).bind fun x δ1 => (b δ1).bind fun y δ2 => Res.opt ((seqOf x).bind fun xs => (seqOf y).map fun ys => zip2 xs ys) δ2
def iZip3 (a b c : Ex) : ItE := fun δ => (a δ).bind fun x δ1 => (b δ1).bind fun y δ2 => (c δ2).bind fun z δ3 => Res.opt ((seqOf x).bind fun xs => (seqOf y).bind fun ys => (seqOf z).map fun zs => zip3 xs ys zs) δ3

/-! ### statements -/
def sPass : Sm := fun δ => .nx δ
def sSeq (a b : Sm) : Sm := fun δ => match a δ with
  | .nx δ1 => b δ1
  | o => o
def sAsg (t : Tg) (e : Ex) : Sm := fun δ => (e δ).out fun d δ1 => match t.put d δ1 with
  | some δ2 => .nx δ2
  | none => .bad
def sDo (e : Ex) : Sm := fun δ => (e δ).out fun _ δ1 => .nx δ1
def sRet (e : Ex) : Sm := fun δ => (e δ).out fun d δ1 => .rt d δ1
def sRaise (c : Str) (e : Ex) : Sm := fun δ => (e δ).out fun d δ1 => .exc c d δ1
def sIf (c : Ex) (a b : Sm) : Sm := fun δ => (c δ).out fun x δ1 => match x with
  | .bl true => a δ1
  | .bl false => b δ1
  | _ => .bad
def sBk : Sm := fun δ => .bk δ
def sCt : Sm := fun δ => .ct δ
def forL (t : Tg) (b : Sm) : List D → Sm
  | [] => fun δ => .nx δ
  | d :: ds => fun δ => match t.put d δ with
    | none => .bad
    | some δ1 => match b δ1 with
      | .nx δ2 => forL t b ds δ2
      | .ct δ2 => forL t b ds δ2
      | .bk δ2 => .nx δ2
      | o => o
def sFor (it : ItE) (t : Tg) (b : Sm) : Sm := fun δ => (it δ).out fun ds δ1 => forL t b ds δ1
/-- n turns at most -/
def whN (c : Ex) (b : Sm) : Nat → Env → Option Out
  | 0, _ => none
  | n + 1, δ => match c δ with
    | .ok (.bl true) δ1 => (match b δ1 with
      | .nx δ2 => whN c b n δ2
      | .ct δ2 => whN c b n δ2
      | .bk δ2 => some (.nx δ2)
      | o => some o)
    | .ok (.bl false) δ1 => some (.nx δ1)
    | .exc k d δ1 => some (.exc k d δ1)
    | _ => some .bad
open Classical in
def sWhile (c : Ex) (b : Sm) : Sm := fun δ => if h : ∃ n o, whN c b n δ = some o then Classical.choose (Classical.choose_spec h) else .bad
theorem whN_mono (c : Ex) (b : Sm) : ∀ (n : Nat) (δ : Env) (o : Out), whN c b n δ = some o → ∀ k, whN c b (n + k) δ = some o
  | 0, _, _, h, _ => by simp [whN] at h
  | n + 1, δ, o, h, k => by
    rw [Nat.add_right_comm]
    simp only [whN] at h ⊢
    split at h
    · split at h <;> first | exact whN_mono c b n _ o h k | exact h
    · exact h
    · exact h
    · exact h
theorem whN_det {c : Ex} {b : Sm} {n m : Nat} {δ : Env} {o p : Out} (h : whN c b n δ = some o) (h' : whN c b m δ = some p) : o = p := by
  have a := whN_mono c b n δ o h m
  have a' := whN_mono c b m δ p h' n
  rw [Nat.add_comm] at a'
  rw [a] at a'
  exact Option.some.inj a'
theorem sWhile_of {c : Ex} {b : Sm} {n : Nat} {δ : Env} {o : Out} (h : whN c b n δ = some o) : sWhile c b δ = o := by
  have hx : ∃ n o, whN c b n δ = some o := ⟨n, o, h⟩
  unfold sWhile
  rw [dif_pos hx]
  exact whN_det (Classical.choose_spec (Classical.choose_spec hx)) h
theorem sWhile_run {c : Ex} {b : Sm} {δ : Env} (h : sWhile c b δ ≠ .bad) : ∃ n, whN c b n δ = some (sWhile c b δ) := by
  unfold sWhile at h ⊢
  by_cases hx : ∃ n o, whN c b n δ = some o
  · rw [dif_pos hx]
    exact ⟨_, Classical.choose_spec (Classical.choose_spec hx)⟩
  · rw [dif_neg hx] at h
    exact absurd rfl h
/-- slot i holds a list -/
def isL (i : Nat) (δ : Env) : Bool := match δ[i]? with
  | some (some (.lst _)) => true
  | _ => false
/-- x.append(e), x in slot i the def's own -/
def sApp (i : Nat) (e : Ex) : Sm := fun δ => if isL i δ then (e δ).out fun d δ1 => (eV i δ1).out fun x δ2 => match x with
  | .lst xs => if xs.length < cap then .nx (δ2.set i (some (.lst (xs ++ [d])))) else .bad
  | _ => .bad
  else .bad
/-- x.extend(e) -/
def sExt (i : Nat) (e : Ex) : Sm := fun δ => if isL i δ then (e δ).out fun d δ1 => (eV i δ1).out fun x δ2 => match x, d with
  | .lst xs, .lst ys => if xs.length + ys.length ≤ cap then .nx (δ2.set i (some (.lst (xs ++ ys)))) else .bad
  | _, _ => .bad
  else .bad
/-- x.pop() -/
def ePop (i : Nat) : Ex := fun δ => (eV i δ).bind fun x δ1 => match x with
  | .lst xs => (match xs[xs.length - 1]? with
    | some y => .ok y (δ1.set i (some (.lst xs.dropLast)))
    | none => .bad)
  | _ => .bad
/-- the place of an index -/
def ixD (n : Nat) (i : Int) : Option Nat := if 0 ≤ i then (if i < n then some i.toNat else none) else if -(n : Int) ≤ i then some (i + n).toNat else none
/-- x.pop(e) -/
def ePopAt (i : Nat) (e : Ex) : Ex := fun δ => if isL i δ then (e δ).bind fun k δ1 => (eV i δ1).bind fun x δ2 => match x, k with
  | .lst xs, .int j => if xs.length ≤ cap then (match ixD xs.length j with
    | some m => (match xs[m]? with
      | some y => .ok y (δ2.set i (some (.lst (xs.eraseIdx m))))
      | none => .bad)
    | none => .bad) else .bad
  | _, _ => .bad
  else .bad
/-- x[k] = e -/
def sSetI (i : Nat) (k e : Ex) : Sm := fun δ => (e δ).out fun v δ1 => (k δ1).out fun kk δ2 => (eV i δ2).out fun x δ3 => match x, kk with
  | .lst xs, .int j => (match ixD xs.length j with
    | some m => .nx (δ3.set i (some (.lst (xs.set m v))))
    | none => .bad)
  | _, _ => .bad
/-! ### defs -/
def startE (n : Nat) (ds : List D) : Env := ds.map some ++ List.replicate (n - ds.length) none
def outsOf (own : List Nat) (δ : Env) : Option (List D) := match own with
  | [] => some []
  | i :: is => match δ[i]? with
    | some (some d) => (outsOf is δ).map (d :: ·)
    | _ => none
/-- a def with n names, p parameters, those at own its own -/
def fnM (n p : Nat) (own : List Nat) (b : Sm) : List D → Fr := fun ds => if ds.length = p then
    (match b (startE n ds) with
    | .nx δ => (match outsOf own δ with | some o => .ok .non o | none => .bad)
    | .rt d δ => (match outsOf own δ with | some o => .ok d o | none => .bad)
    | .exc c d _ => .exc c d
    | _ => .bad)
  else .bad
end
end Mi

end
section
set_option Elab.async false
set_option linter.all false
set_option maxRecDepth 100000
set_option autoImplicit false
set_option maxHeartbeats 4000000
/-! dicts whose keys are tuples of ints that are known by their own object: the object itself is told -/
namespace Mi
open PySem PySem.Spec PyProof.Rows L2
abbrev KVI := List (List Int × Addr × V)
def entI (x : List Int × Addr × Value) : DictEntry := ⟨reduceHash (Builtin.Tuple.tupleHashOf (x.1.map hashInt)), .ref x.2.1, x.2.2⟩
def KR : KVI → List (List Int × Addr × Value) → Prop := Paired fun p q => p.1 = q.1 ∧ p.2.1 = q.2.1 ∧ RelV p.2.2 q.2.2
def DTF (a : Addr) (o : Obj) (kvs : KVI) : Prop := (a == sysModules) = false ∧ kvs.length ≤ sizeLine ∧ ∃ xs : List (List Int × Addr × Value), KR kvs xs ∧
  ∃ es ep, o.ExactDict ∧ o.data = .dict es ep ∧ es.toList = xs.map entI ∧ (xs.map (·.1)).Nodup
def DTO (a : Addr) (o : Obj) (kvs : KVI) : HO := .ext fun h => h.get? a = some o ∧ DTF a o kvs
theorem entI_eq (P : Program) (w : World) : entI = entryOfKey (tupleKind (PySem.intKind P w)) := rfl
section
variable {P : Program} {w : World} {H : Hp} {h : Heap} {a : Addr} {o : Obj} {kvs : KVI}
theorem dto_ok (e : h.get? a = some o) (f : DTF a o kvs) : ObjOk P w H h a (DTO a o kvs) := ⟨⟨e, f⟩, ⟨o, e⟩, fun _ _ z k => ⟨k _ z.1, z.2⟩⟩
theorem dto_rd (ok : HOk P w H h) (e : Rd H a (DTO a o kvs)) : h.get? a = some o ∧ DTF a o kvs := (show ObjOk P w H h a (DTO a o kvs) from rd_of ok e).1
/-- the value at a key -/
def valI : KVI → List Int → Option V
  | [], _ => none
  | (q, _, v) :: r, k => if q = k then some v else valI r k
def putI (kvs : KVI) (k : List Int) (b : Addr) (v : V) : KVI := if (valI kvs k).isSome = true then kvs.map (fun p => if p.1 = k then (p.1, p.2.1, v) else p) else kvs ++ [(k, b, v)]
theorem KR.val {k : List Int} : ∀ {kvs : KVI} {xs : List (List Int × Addr × Value)}, KR kvs xs → RelO (valI kvs k) ((atKey xs k).map (·.2))
  | _, _, .nil => True.intro
  | _, _, .cons (a := p) (b := q) h t => by
    obtain ⟨h1, _, h2⟩ := h
    obtain ⟨p1, p2, p3⟩ := p
    simp only at h1 h2
    unfold valI
    by_cases e : p1 = k
    · have e' : q.1 = k := h1.symm.trans e
      rw [if_pos e]
      simp [atKey, List.find?_cons, e']
      exact h2
    · have e' : ¬ q.1 = k := fun z => e (h1.trans z)
      rw [if_neg e]
      have ih := KR.val (k := k) t
      simpa [atKey, List.find?_cons, e'] using ih
theorem KR.length : ∀ {kvs : KVI} {xs : List (List Int × Addr × Value)}, KR kvs xs → kvs.length = xs.length := fun r => Paired.length r
theorem KR.put {k : List Int} {b : Addr} {y : V} {u : Value} (ry : RelV y u) {kvs : KVI} {xs : List (List Int × Addr × Value)} (r : KR kvs xs) : KR (putI kvs k b y) (storedH xs k b u) := by
  have e : (valI kvs k).isSome = (atKey xs k).isSome := by rw [(r.val (k := k)).isSome_eq, Option.isSome_map]
  unfold putI storedH
  rw [e]
  by_cases q : (atKey xs k).isSome = true
  · rw [if_pos q, if_pos q]
    unfold KR at r ⊢
    clear e q
    induction r with
    | nil => exact .nil
    | @cons p q ps qs h t ih =>
      rw [List.map_cons, List.map_cons]
      refine .cons ?_ ih
      obtain ⟨h1, h2, h3⟩ := h
      unfold putAt
      by_cases e : p.1 = k
      · rw [if_pos e, if_pos (h1.symm.trans e)]; exact ⟨h1, h2, ry⟩
      · rw [if_neg e, if_neg (fun z => e (h1.trans z))]; exact ⟨h1, h2, h3⟩
  · rw [if_neg q, if_neg q]
    exact Paired.snoc r ⟨rfl, rfl, ry⟩
theorem putI_len (kvs : KVI) (k : List Int) (b : Addr) (v : V) : (putI kvs k b v).length ≤ kvs.length + 1 := by
  unfold putI
  split
  · rw [List.length_map]; omega
  · rw [List.length_append]; simp
end
section
variable {X : Cx} {pins : List (Addr × Obj)} {σ : L2.St} {H : Hp} {s : Shared} {a b : Addr} {o : Obj} {kvs : KVI} {ns : List Int} {A : Around} {E : Value → Shared → Prop}
theorem ints_are {P : Program} {w : World} : ∀ {ks : List Int} {us : List Value}, Vals (ks.map V.int) us → ItemsAre (PySem.intKind P w) ks us
  | [], _, r => by rw [List.map_nil] at r; cases r; exact .nil
  | k :: ks, _, r => by
    rw [List.map_cons] at r
    cases r with
    | cons h t =>
      obtain ⟨t', rfl⟩ := (show ∃ t, _ = Value.int k t from h)
      exact .cons (by simp [PySem.intKind, Value.isInt]) (ints_are t)
theorem keyI_of (I : Inv X pins σ H s) (h : SqT X.K H b (ns.map V.int)) : (tupleKind (PySem.intKind X.prog X.w)).is s.heap ns b := by
  obtain ⟨its, r, ⟨o, h1, h2, n, h3⟩, _⟩ := I.tuple h
  exact ⟨o, its.toArray, n, h1, h2, h3, by simpa using ints_are r⟩
/-- what is at the keys of a dict -/
def KsI (K : PySem.W.Frag) (H : Hp) (kvs : KVI) : Prop := ∀ p ∈ kvs, SqT K H p.2.1 (p.1.map V.int)
theorem dti_rd (I : Inv X pins σ H s) (e : Rd H a (DTO a o kvs)) (hk : KsI X.K H kvs) : ∃ xs, KR kvs xs ∧ kvs.length ≤ sizeLine ∧ (a == sysModules) = false ∧ s.heap.DictOfH (tupleKind (PySem.intKind X.prog X.w)) a xs := by
  obtain ⟨ho, hs, z, xs, r, es, ep, hx, hd, he, hn⟩ := dto_rd I.hok e
  refine ⟨xs, r, z, hs, o, es, ep, ho, hx, hd, he, ?_, hn⟩
  have all : ∀ {l : KVI} {m : List (List Int × Addr × Value)}, KR l m → KsI X.K H l → ∀ x ∈ m, (tupleKind (PySem.intKind X.prog X.w)).is s.heap x.1 x.2.1 := by
    intro l m q
    unfold KR at q
    induction q with
    | nil => intro _ x hx; exact nomatch hx
    | @cons p q ps qs hq t ih =>
      intro hk x hx
      rcases List.mem_cons.mp hx with e | hx
      · subst e
        rw [← hq.1, ← hq.2.1]
        exact keyI_of I (hk p (List.mem_cons_self ..))
      · exact ih (fun p hp => hk p (List.mem_cons_of_mem _ hp)) x hx
  exact all r hk
theorem ti_in {Q : Value → Shared → Prop} (hu : A.units + 1 < cLine) (I : Inv X pins σ H s) (e : Rd H a (DTO a o kvs)) (hk : KsI X.K H kvs) (hb : SqT X.K H b (ns.map V.int)) (h : ∀ s', Inv X pins σ H s' → Q (.bool (valI kvs ns).isSome) s') :
    wpAny (model X.prog X.w) A (compareOp .In (.ref b) (.ref a)) Q E s := by
  obtain ⟨xs, rel, z, hd, dd⟩ := dti_rd I e hk
  refine wpAny_in_heap (tupleKind_room_in1 hu) (keyI_of I hb) hd dd ?_
  have q := (rel.val (k := ns)).isSome_eq
  rw [Option.isSome_map] at q
  rw [← q]
  exact h _ (I.tok _)
theorem ti_notIn {Q : Value → Shared → Prop} (hu : A.units + 1 < cLine) (I : Inv X pins σ H s) (e : Rd H a (DTO a o kvs)) (hk : KsI X.K H kvs) (hb : SqT X.K H b (ns.map V.int)) (h : ∀ s', Inv X pins σ H s' → Q (.bool (!(valI kvs ns).isSome)) s') :
    wpAny (model X.prog X.w) A (compareOp .NotIn (.ref b) (.ref a)) Q E s := by
  obtain ⟨xs, rel, z, hd, dd⟩ := dti_rd I e hk
  refine wpAny_notIn_heap (tupleKind_room_in1 hu) (keyI_of I hb) hd dd ?_
  have q := (rel.val (k := ns)).isSome_eq
  rw [Option.isSome_map] at q
  rw [← q]
  exact h _ (I.tok _)
theorem ti_get {v : V} {Q : Value → Shared → Prop} (hu : A.units + 1 < cLine) (I : Inv X pins σ H s) (e : Rd H a (DTO a o kvs)) (hk : KsI X.K H kvs) (hb : SqT X.K H b (ns.map V.int)) (hv : valI kvs ns = some v) (h : ∀ w' s', Inv X pins σ H s' → RelV v w' → Q w' s') :
    wpAny (model X.prog X.w) A (getItem (.ref a) (.ref b)) Q E s := by
  obtain ⟨xs, rel, z, hd, dd⟩ := dti_rd I e hk
  obtain ⟨w', hw, rw'⟩ := RelO.some_of (v := v) (o := (atKey xs ns).map (·.2)) (by rw [← hv]; exact rel.val)
  obtain ⟨p, hp, hp2⟩ := Option.map_eq_some_iff.mp hw
  refine wpAny_getItem_heap (tupleKind_room_in1 hu) (keyI_of I hb) dd hp ?_
  rw [hp2]
  exact h w' _ (I.tok _) rw'
theorem dtf_of {P : Program} {w : World} {h : Heap} {kvs : KVI} {xs : List (List Int × Addr × Value)} (z : kvs.length ≤ sizeLine) (hd : (a == sysModules) = false) (r : KR kvs xs) (dd : h.DictOfH (tupleKind (PySem.intKind P w)) a xs) : ∃ o, h.get? a = some o ∧ DTF a o kvs := by
  obtain ⟨q, es, ep, hq, h2, h3, h4, _, h5⟩ := dd
  exact ⟨q, hq, hd, z, xs, r, es, ep, h2, h3, h4, h5⟩
theorem ti_set {v : V} {r : Value} {Q : Unit → Shared → Prop} (hu : A.units + 1 < cLine) (I : Inv X pins σ H s) (e : H a = some (DTO a o kvs)) (hk : KsI X.K H kvs) (hb : SqT X.K H b (ns.map V.int)) (hl : kvs.length < sizeLine) (rv : RelV v r)
    (h : ∀ o' s', Inv X pins σ (upd H a (DTO a o' (putI kvs ns b v))) s' → Q () s') : wpAny (model X.prog X.w) A (setItem (.ref a) (.ref b) r) Q E s := by
  obtain ⟨xs, rel, z, hd, dd⟩ := dti_rd I (.inl e) hk
  have hz : xs.length ≤ sizeLine := by rw [← rel.length]; exact z
  have hl' : (putI kvs ns b v).length ≤ sizeLine := by have := putI_len kvs ns b v; omega
  refine wpAny_setItem_heap (hsz := hz) (tupleKind_room_in1 hu) (keyI_of I hb) dd fun h' dd' hs => ?_
  obtain ⟨o', e', f'⟩ := dtf_of hl' hd (rel.put rv) dd'
  exact h o' _ (d_write I (by rw [e]; exact True.intro) hs ⟨o', e'⟩ (dto_ok e' f'))
end
/-- {k: v} -/
theorem disp1 {prog : Program} {w : World} {A : Around} {E : Value → Shared → Prop} {s : Shared} {env : PySem.Env} {k v : Expr} {pos : Pos} {Q : Value → Shared → Prop}
    (h : wpAny (model prog w) A (eval k env) (fun kv s1 => wpAny (model prog w) A (eval v env) (fun vv s2 => wpAny (model prog w) A (dictSet s.heap.objs.size kv vv) (fun _ s3 => Q (.ref s.heap.objs.size) s3) E s2) E s1) E { s with heap := s.heap.push { cls := .type "dict", data := .dict #[] } }) :
    wpAny (model prog w) A (eval (.Dict [some k] [v] pos) env) Q E s := by
  rw [arm_eval_Dict]
  have hsh : (evalEachOpt [some k] env).zip ((evalEach [v] env).map fun v => do let x ← v; standAt pos; pure x) = (pairTrees [some k] [v] env pos).map fun p => (some p.1, p.2) := rfl
  rw [hsh, dictDisplay_pairs _ (by simp [pairTrees]) (by simp [pairTrees])]
  refine wpAny_bind (wpAny_standAt (wpAny_bind ?_))
  unfold subDict
  refine wpAny_bind (wpAny_alloc ?_)
  refine wpAny_bind (wpAny_holding ?_)
  rw [if_pos (by simp [pairTrees])]
  refine wpAny_bind (pairTrees_cons_walk (wpAny_mono h (fun kv s1 h1 => wpAny_mono h1 (fun vv s2 h2 => pairTrees_nil_walk ?_) fun _ _ e => e) fun _ _ e => e))
  refine wpAny_holding ?_
  refine wpAny_bind ?_
  rw [List.forIn_cons]
  refine wpAny_bind (wpAny_bind (wpAny_mono h2 (fun _ s3 h3 => wpAny_pure ?_) fun _ _ e => e))
  show wpAny _ _ (forIn [] PUnit.unit _) _ _ _
  rw [List.forIn_nil]
  exact wpAny_pure (wpAny_pure (wpAny_pure (wpAny_pure h3)))
theorem dto_new {P : Program} {w : World} {H : Hp} (h : Heap) (hb : sysModules < h.objs.size) : ∃ o, ObjOk P w H (h.push { cls := .type "dict", data := .dict #[] }) h.objs.size (DTO h.objs.size o []) := by
  refine ⟨_, dto_ok (Heap.get?_push_size _ rfl) ⟨beq_eq_false_iff_ne.mpr (Ne.symm (Nat.ne_of_lt hb)), Nat.zero_le _, [], .nil, #[], 0, ⟨rfl, rfl, rfl⟩, rfl, rfl, List.nodup_nil⟩⟩
/-- {k: v}, k a tuple of ints -/
def tDispT (tk tv : TE) (K : PySem.W.Frag) : TE := fun σ H Q => ∀ p o, H p = none → tk σ (upd H p (DTO p o [])) fun x H1 => tv σ H1 fun v H2 => ∃ b ns, x = .ref b ∧ SqT K H2 b (ns.map V.int) ∧ H2 p = some (DTO p o []) ∧
  ∀ o', Q (.ref p) (upd H2 p (DTO p o' [(ns, b, v)]))
theorem pe_dispT {X : Cx} {k v : Expr} {tk tv : TE} {pos : Pos} (hu : X.A.units + 1 < cLine) (hk : PE X k tk) (hv : PE X v tv) : PE X (.Dict [some k] [v] pos) (tDispT tk tv X.K) := by
  refine ⟨fun pins s σ H Q I q => ?_⟩
  have hn := I.hok.fresh (Nat.le_refl s.heap.objs.size)
  obtain ⟨o, ho⟩ := dto_new (P := X.prog) (w := X.w) (H := upd H s.heap.objs.size (DTO s.heap.objs.size ⟨.type "dict", none, .dict #[], #[]⟩ [])) s.heap I.big
  have eo : o = { cls := .type "dict", data := .dict #[] } := by
    have h1 := ho.1.1
    rw [Heap.get?_push_size _ rfl] at h1
    exact (Option.some.inj h1).symm
  subst eo
  have I1 := I.laid (a := s.heap.objs.size) (o := DTO s.heap.objs.size _ []) (h' := s.heap.push { cls := .type "dict", data := .dict #[] }) (t' := s.toks) (fun _ _ q => Heap.get?_push_of_some _ q) (Nat.le_refl _) ho
  refine disp1 (thn (hk.run pins _ σ _ _ I1 (q _ _ hn)) fun u s1 ⟨x, H1, I2, rx, q1⟩ => thn (hv.run pins s1 σ H1 _ I2 q1) fun vv s2 ⟨y, H2, I3, ry, b, ns, ex, hb, hp, q2⟩ => ?_)
  subst ex
  obtain rfl : u = Value.ref b := rx
  obtain ⟨xs, rel, z, hd, dd⟩ := dti_rd I3 (.inl hp) (fun _ h => nomatch h)
  have rel0 : xs = [] := by
    have := rel.length
    cases xs with
    | nil => rfl
    | cons _ _ => simp at this
  subst rel0
  refine wpAny_dictSet_heap (hsz := Nat.zero_le _) (show (tupleKind (PySem.intKind X.prog X.w)).room X.A by show X.A.units < cLine; omega) (keyI_of I3 hb) dd fun h' dd' hs => ?_
  obtain ⟨o', e', f'⟩ := dtf_of (kvs := [(ns, b, y)]) (by rw [sizeLine_eq]; show 1 ≤ 16777216; decide) hd (.cons ⟨rfl, rfl, ry⟩ .nil) dd'
  exact ⟨.ref s.heap.objs.size, _, d_write I3 (by rw [hp]; exact True.intro) hs ⟨o', e'⟩ (dto_ok e' f'), rfl, q2 o'⟩
end Mi
namespace Mi
open PySem PySem.Spec PyProof.Rows L2
theorem call_listI {X : Cx} (hc : X.calm = true) : CallR X (.type "list") (fun xs H Q => ∃ d o kvs, xs = [V.ref d] ∧ Rd H d (DTO d o kvs) ∧ ∀ p, H p = none → Q (.ref p) (upd H p (.lst (kvs.map fun p => V.ref p.2.1)))) := by
  intro pins s σ H xs us Q I r h
  obtain ⟨d, o, kvs, rfl, hd, q⟩ := h
  obtain ⟨u, rfl, rx⟩ := r.one
  cases rx
  obtain ⟨ho, hs, z, ks, pr, es, ep, hx, hdt, he, hn⟩ := dto_rd I.hok hd
  have l1 : es.size = ks.length := size_of_entries (knd := tupleKind (PySem.intKind X.prog X.w)) he
  have l2 : kvs.length = ks.length := pr.length
  refine PySem.W.kdl_call (kdl_raw hs hx hdt) (I.ok.hd hc) ho (by omega) fun h' tk acc' c' kp e it => ?_
  have ea : acc'.toList = ks.map fun x => Value.ref x.2.1 := by
    have hl : acc'.toList.length = ks.length := by rw [Array.length_toList, it.1]; exact l1
    apply List.ext_getElem?
    intro j
    rw [List.getElem?_map]
    cases hj : acc'.toList[j]? with
    | none =>
      have h1 := List.getElem?_eq_none_iff.mp hj
      rw [List.getElem?_eq_none (by omega)]
      all_goals rfl
    | some v =>
      obtain ⟨en, hen, hv⟩ := it.2 j v (by rw [← Array.getElem?_toList]; exact hj)
      have qe := entry_at (knd := tupleKind (PySem.intKind X.prog X.w)) he j
      rw [hen] at qe
      cases hb : ks[j]? with
      | none =>
        rw [hb] at qe
        exact nomatch (show some en = none from qe)
      | some b =>
        rw [hb] at qe
        have e2 : en = entryOfKey (tupleKind (PySem.intKind X.prog X.w)) b := Option.some.inj qe
        rw [hv, e2]
        all_goals rfl
  have ek : kvs.map (fun p => p.2.1) = ks.map (fun x => x.2.1) := by
    unfold KR at pr
    clear ea hn he l1 l2 q hd z
    induction pr with
    | nil => rfl
    | cons h t ih => rw [List.map_cons, List.map_cons, ih, h.2.1]
  have eb : acc'.toList = (kvs.map fun x => x.2.1).map Value.ref := by rw [ea, ek, List.map_map]; all_goals rfl
  have rv : Vals (kvs.map fun p => V.ref p.2.1) acc'.toList := by
    rw [eb]
    have := vals_refs (kvs.map fun x => x.2.1)
    rw [List.map_map] at this
    exact this
  refine ⟨.ref s.heap.objs.size, _, I.laid (t' := tk) (o := .lst (kvs.map fun p => V.ref p.2.1)) kp (Nat.le_refl _) ?_, rfl, q _ (I.hok.fresh (Nat.le_refl _))⟩
  exact ⟨by rw [List.length_map]; exact z, acc'.toList, c', rv, by rw [Array.toArray_toList]; exact e⟩
end Mi

end
section
set_option Elab.async false
set_option linter.all false
set_option maxRecDepth 100000
set_option autoImplicit false
set_option maxHeartbeats 4000000
/-! tables of code objects: they grow where a lambda is made; nothing that is told of values rests on them -/
namespace Mi
open PySem PySem.Spec PyProof.Rows L2
/-- no table -/
def NT (o : HO) : Prop := ∀ ps, o ≠ .tbl ps
/-- a part of H without tables -/
structure Sg (G H : Hp) : Prop where
  s : Same G H
  nt : ∀ b o, G b = some o → NT o
instance {G H : Hp} : Coe (Sg G H) (Same G H) := ⟨Sg.s⟩
instance {G H : Hp} : CoeFun (Sg G H) (fun _ => ∀ b o, G b = some o → H b = some o) := ⟨Sg.s⟩
theorem Sg.free {G H : Hp} (e : Sg G H) {l : Addr} (h : H l = Option.none) : G l = Option.none := e.s.free h
theorem Sg.seq {K : PySem.W.Frag} {G H : Hp} {a : Addr} {xs : List V} (e : Sg G H) (h : SqL K G a xs) : SqL K H a xs := e.s.seq h
theorem Sg.know {G H : Hp} (e : Sg G H) {p : Addr} {u : HO} (hu : H p = some u) (nu : NT u) : Sg (upd G p u) H := ⟨fun b o h => by
  by_cases q : b = p
  · subst q; rw [upd_same] at h; cases h; exact hu
  · rw [upd_ne q] at h; exact e.s b o h, fun b o h => by
  by_cases q : b = p
  · subst q; rw [upd_same] at h; cases h; exact nu
  · rw [upd_ne q] at h; exact e.nt b o h⟩
theorem Sg.up {G H : Hp} (e : Sg G H) {p : Addr} {u : HO} (n : H p = Option.none) : Sg G (upd H p u) := ⟨fun b o h => by rw [upd_ne (ne_of_none (e.s b o h) n)]; exact e.s b o h, e.nt⟩
theorem Sg.own {G H : Hp} (e : Sg G H) {p : Addr} {u : HO} (n : G p = Option.none) : Sg G (upd H p u) := ⟨fun b o h => by rw [upd_ne (ne_of_none h n)]; exact e.s b o h, e.nt⟩
/-- tables stay tables, and none is new -/
structure TbS (H H' : Hp) : Prop where
  k : ∀ P q, LamX.TabS H P q → LamX.TabS H' P q
  n : ∀ b ps, H' b = some (.tbl ps) → ∃ ps', H b = some (.tbl ps')
theorem TbS.refl (H : Hp) : TbS H H := ⟨fun _ _ h => h, fun _ ps h => ⟨ps, h⟩⟩
theorem TbS.trans {H H1 H2 : Hp} (a : TbS H H1) (b : TbS H1 H2) : TbS H H2 := ⟨fun P q h => b.k P q (a.k P q h), fun c ps h => by
  obtain ⟨ps', h⟩ := b.n c ps h
  exact a.n c ps' h⟩
theorem TbS.push {H : Hp} {p : Addr} {o : HO} (n : H p = none) (no : NT o) : TbS H (upd H p o) := ⟨fun P q h => h.ext fun b u h => by rw [upd_ne (fun e => by rw [e, n] at h; cases h)]; exact h, fun b ps h => by
  by_cases e : b = p
  · subst e
    rw [upd_same] at h
    exact absurd (Option.some.inj h) (no ps)
  · rw [upd_ne e] at h
    exact ⟨ps, h⟩⟩
/-- no table and no code object -/
def NC (a : Addr) (o : HO) : Prop := NT o ∧ ∀ q, o ≠ LamX.CodeO a q
theorem TbS.upd {H : Hp} {a : Addr} {o u : HO} (h : H a = some o) (n : NC a o) (nu : NT u := by intro _ h; cases h) : TbS H (upd H a u) := ⟨fun P q ⟨ps, h1, h2, h3⟩ => by
  refine ⟨ps, by rw [upd_ne (fun e => by rw [e, h] at h1; cases h1; exact n.1 _ rfl)]; exact h1, h2, fun pos cv hc => ?_⟩
  obtain ⟨c, e1, e2⟩ := h3 pos cv hc
  exact ⟨c, e1, by rw [upd_ne (fun e => by rw [e, h] at e2; cases e2; exact n.2 _ rfl)]; exact e2⟩, fun b ps h => by
  by_cases e : b = a
  · subst e
    rw [upd_same] at h
    exact absurd (Option.some.inj h) (nu ps)
  · rw [upd_ne e] at h
    exact ⟨ps, h⟩⟩
/-- the tables are those at T -/
def TbO (T : List (Addr × Str)) (H : Hp) : Prop := LamX.Tabs T H ∧ ∀ b ps, H b = some (.tbl ps) → ∃ p ∈ T, p.1 = b
theorem TbO.go0 {T : List (Addr × Str)} {H H' : Hp} (t : TbO T H) (k : TbS H H') : TbO T H' := ⟨fun p hp => k.k _ _ (t.1 p hp), fun b ps h => by
  obtain ⟨ps', h⟩ := k.n b ps h
  exact t.2 b ps' h⟩
/-- the tables stay those at T -/
def TabK (T : List (Addr × Str)) (H H' : Hp) : Prop := TbO T H → TbO T H'
section
variable {T : List (Addr × Str)}
theorem TbO.go {H H' : Hp} (t : TbO T H) (k : TabK T H H') : TbO T H' := k t
theorem TabK.refl (H : Hp) : TabK T H H := fun h => h
theorem TabK.trans {H H1 H2 : Hp} (a : TabK T H H1) (b : TabK T H1 H2) : TabK T H H2 := fun h => b (a h)
theorem TabK.push {H : Hp} {p : Addr} {o : HO} (n : H p = none) (no : NT o) : TabK T H (upd H p o) := fun t => t.go0 (.push n no)
theorem TabK.upd {H : Hp} {a : Addr} {o u : HO} (h : H a = some o) (n : NC a o) (nu : NT u := by intro _ h; cases h) : TabK T H (upd H a u) := fun t => t.go0 (.upd h n nu)
end
theorem nc_lst {a : Addr} {xs : List V} : NC a (.lst xs) := ⟨fun _ h => (nomatch h), fun q h => by unfold LamX.CodeO at h; cases h⟩
theorem nc_dK {a : Addr} {xs : List (Key × V)} : NC a (.dK xs) := ⟨fun _ h => (nomatch h), fun q h => by unfold LamX.CodeO at h; cases h⟩
theorem nc_ins {a C dx : Addr} {fs : List (Str × V)} : NC a (.ins C dx fs) := ⟨fun _ h => (nomatch h), fun q h => by unfold LamX.CodeO at h; cases h⟩
theorem nc_dto {a : Addr} {o : Obj} {kvs : KVI} : NC a (DTO a o kvs) := by
  refine ⟨fun _ h => (by unfold DTO at h; cases h), fun q h => ?_⟩
  unfold DTO LamX.CodeO at h
  injection h with h
  let oc : Obj := { cls := .none, data := .fields #[.none, .str q 0] }
  let h0 : Heap := { objs := Array.replicate (a + 1) oc }
  have g0 : h0.get? a = some oc := by
    simp [h0, Heap.get?]
    rfl
  have z := congrFun h h0
  have r : (∃ (oc : Obj) (vs : Array Value) (t : Tok), h0.get? a = some oc ∧ oc.data = .fields vs ∧ vs[1]? = some (.str q t)) := ⟨oc, _, 0, g0, rfl, rfl⟩
  obtain ⟨w1, w2⟩ := z.mpr r
  have w3 : oc = o := Option.some.inj (g0.symm.trans w1)
  obtain ⟨_, _, xs, _, es, ep, _, e2, _⟩ := w2
  rw [← w3] at e2
  cases e2
end Mi

end
section
set_option Elab.async false
set_option linter.all false
set_option maxRecDepth 100000
set_option autoImplicit false
set_option maxHeartbeats 4000000
namespace Mi
open PySem PySem.Spec PyProof.Rows L2

/-! ### a value that stands for data -/
structure CM where
  f : Str → Addr
  /-- the tables of code objects, with the names of what they hold -/
  T : List (Addr × Str)
instance : CoeFun CM (fun _ => Str → Addr) := ⟨CM.f⟩
def kD : Key → D
  | .inl i => .int i
  | .inr x => .str x
/-- a tuple whose object is known to have no dict -/
def TqT (K : PySem.W.Frag) (H : Hp) (a : Addr) (xs : List V) : Prop := (∃ o : Obj, H a = some (.frz o (.tup xs)) ∧ o.dict = none) ∨
  ∃ (o : Obj) (its : Array Value) (n : Nat), K.lookup a = some o ∧ o.cls = .type "tuple" ∧ o.dict = none ∧ o.data = .seq its n ∧ its.size ≤ sizeLine ∧ Vals xs its.toList
theorem TqT.sq {K : PySem.W.Frag} {H : Hp} {a : Addr} {xs : List V} (h : TqT K H a xs) : SqT K H a xs := by
  rcases h with ⟨o, h, _⟩ | ⟨o, its, n, h1, h2, _, h3, h4, h5⟩
  · exact .inl (.inr ⟨o, h⟩)
  · exact .inr ⟨o, its, n, h1, h2, h3, h4, h5⟩
theorem TqT.of {K : PySem.W.Frag} {H : Hp} {a : Addr} {xs : List V} {o : Obj} (h : H a = some (.frz o (.tup xs))) (e : o.dict = none) : TqT K H a xs := .inl ⟨o, h, e⟩
mutual
inductive Rp (K : PySem.W.Frag) (cm : CM) (G : Hp) : V → D → Prop
  | non : Rp K cm G .non .non
  | bl (b : Bool) : Rp K cm G (.bl b) (.bl b)
  | int (i : Int) : Rp K cm G (.int i) (.int i)
  | str (x : Str) : Rp K cm G (.str x) (.str x)
  | lst {a : Addr} {xs : List V} {ds : List D} : SqL K G a xs → Rps K cm G xs ds → Rp K cm G (.ref a) (.lst ds)
  | tup {a : Addr} {xs : List V} {ds : List D} : TqT K G a xs → Rps K cm G xs ds → Rp K cm G (.ref a) (.tup ds)
  | dic {a : Addr} {kvs : List (Key × V)} {ds : List (D × D)} : Rd G a (.dK kvs) → Rks K cm G kvs ds → Rp K cm G (.ref a) (.dic ds)
  | dit {a : Addr} {o : Obj} {kvs : KVI} {ds : List (D × D)} : Rd G a (DTO a o kvs) → Rts K cm G kvs ds → Rp K cm G (.ref a) (.dit ds)
  | obj {a dx : Addr} {fs : List (Str × V)} {c : Str} {ds : List (Str × D)} : G a = some (.ins (cm c) dx fs) → G dx = some (.own a) → Rfs K cm G fs ds → Rp K cm G (.ref a) (.obj c ds)
inductive Rps (K : PySem.W.Frag) (cm : CM) (G : Hp) : List V → List D → Prop
  | nil : Rps K cm G [] []
  | cons {v : V} {vs : List V} {d : D} {ds : List D} : Rp K cm G v d → Rps K cm G vs ds → Rps K cm G (v :: vs) (d :: ds)
inductive Rks (K : PySem.W.Frag) (cm : CM) (G : Hp) : List (Key × V) → List (D × D) → Prop
  | nil : Rks K cm G [] []
  | cons {k : Key} {v : V} {vs : List (Key × V)} {d : D} {ds : List (D × D)} : Rp K cm G v d → Rks K cm G vs ds → Rks K cm G ((k, v) :: vs) ((kD k, d) :: ds)
inductive Rts (K : PySem.W.Frag) (cm : CM) (G : Hp) : KVI → List (D × D) → Prop
  | nil : Rts K cm G [] []
  | cons {k : List Int} {b : Addr} {v : V} {vs : KVI} {d : D} {ds : List (D × D)} : TqT K G b (k.map V.int) → Rp K cm G v d → Rts K cm G vs ds → Rts K cm G ((k, b, v) :: vs) ((.tup (k.map D.int), d) :: ds)
inductive Rfs (K : PySem.W.Frag) (cm : CM) (G : Hp) : List (Str × V) → List (Str × D) → Prop
  | nil : Rfs K cm G [] []
  | cons {f : Str} {v : V} {vs : List (Str × V)} {d : D} {ds : List (Str × D)} : Rp K cm G v d → Rfs K cm G vs ds → Rfs K cm G ((f, v) :: vs) ((f, d) :: ds)
end
section
variable {K : PySem.W.Frag} {cm : CM} {G G' : Hp}
theorem same_sqT {a : Addr} {xs : List V} (e : Same G G') (h : SqT K G a xs) : SqT K G' a xs := by
  rcases h with (h | ⟨o, h⟩) | h
  · exact .inl (.inl (e _ _ h))
  · exact .inl (.inr ⟨o, e _ _ h⟩)
  · exact .inr h
theorem same_tqT {a : Addr} {xs : List V} (e : Same G G') (h : TqT K G a xs) : TqT K G' a xs := by
  rcases h with ⟨o, h, hd⟩ | h
  · exact .inl ⟨o, e _ _ h, hd⟩
  · exact .inr h
theorem same_rd {a : Addr} {o : HO} (e : Same G G') (h : Rd G a o) : Rd G' a o := by
  rcases h with h | ⟨u, h⟩
  · exact .inl (e _ _ h)
  · exact .inr ⟨u, e _ _ h⟩
mutual
theorem Rp.mono (e : Same G G') : ∀ {v : V} {d : D}, Rp K cm G v d → Rp K cm G' v d
  | _, _, .non => .non
  | _, _, .bl b => .bl b
  | _, _, .int i => .int i
  | _, _, .str x => .str x
  | _, _, .lst h r => .lst (e.seq h) (Rps.mono e r)
  | _, _, .tup h r => .tup (same_tqT e h) (Rps.mono e r)
  | _, _, .dic h r => .dic (same_rd e h) (Rks.mono e r)
  | _, _, .dit h r => .dit (same_rd e h) (Rts.mono e r)
  | _, _, .obj h h' r => .obj (e _ _ h) (e _ _ h') (Rfs.mono e r)
theorem Rps.mono (e : Same G G') : ∀ {v : List V} {d : List D}, Rps K cm G v d → Rps K cm G' v d
  | _, _, .nil => .nil
  | _, _, .cons a b => .cons (Rp.mono e a) (Rps.mono e b)
theorem Rks.mono (e : Same G G') : ∀ {v : List (Key × V)} {d : List (D × D)}, Rks K cm G v d → Rks K cm G' v d
  | _, _, .nil => .nil
  | _, _, .cons a b => .cons (Rp.mono e a) (Rks.mono e b)
theorem Rts.mono (e : Same G G') : ∀ {v : KVI} {d : List (D × D)}, Rts K cm G v d → Rts K cm G' v d
  | _, _, .nil => .nil
  | _, _, .cons t a b => .cons (same_tqT e t) (Rp.mono e a) (Rts.mono e b)
theorem Rfs.mono (e : Same G G') : ∀ {v : List (Str × V)} {d : List (Str × D)}, Rfs K cm G v d → Rfs K cm G' v d
  | _, _, .nil => .nil
  | _, _, .cons a b => .cons (Rp.mono e a) (Rfs.mono e b)
end
theorem Rps.length : ∀ {v : List V} {d : List D}, Rps K cm G v d → v.length = d.length
  | _, _, .nil => rfl
  | _, _, .cons _ b => congrArg (· + 1) b.length
theorem Rps.get : ∀ {vs : List V} {ds : List D} {i : Nat} {d : D}, Rps K cm G vs ds → ds[i]? = some d → ∃ v, vs[i]? = some v ∧ Rp K cm G v d
  | _, _, _, _, .nil, e => by simp at e
  | _, _, 0, _, .cons r _, e => by simp at e; subst e; exact ⟨_, rfl, r⟩
  | _, _, i + 1, _, .cons _ t, e => by
    obtain ⟨v, h1, h2⟩ := Rps.get (i := i) t (by simpa using e)
    exact ⟨v, by simpa using h1, h2⟩
theorem Rps.app : ∀ {vs ws : List V} {ds es : List D}, Rps K cm G vs ds → Rps K cm G ws es → Rps K cm G (vs ++ ws) (ds ++ es)
  | _, _, _, _, .nil, s => s
  | _, _, _, _, .cons r t, s => .cons r (t.app s)
theorem Rps.take : ∀ {vs : List V} {ds : List D} (n : Nat), Rps K cm G vs ds → Rps K cm G (vs.take n) (ds.take n)
  | _, _, 0, _ => .nil
  | _, _, _ + 1, .nil => .nil
  | _, _, n + 1, .cons r t => .cons r (t.take n)
theorem Rps.drop : ∀ {vs : List V} {ds : List D} (n : Nat), Rps K cm G vs ds → Rps K cm G (vs.drop n) (ds.drop n)
  | _, _, 0, r => r
  | _, _, _ + 1, .nil => .nil
  | _, _, n + 1, .cons r t => t.drop n
mutual
/-- data as the layer's rules of == take it -/
theorem Rp.dp : ∀ {v : V} {d : D}, Rp K cm G v d → d.py.canLay0 = true → Dp K G v d.py
  | _, _, .non, _ => .non
  | _, _, .bl b, _ => .bl b
  | _, _, .int i, _ => .int i
  | _, _, .str x, _ => .str x
  | _, _, .lst h r, c => .lst h (Rps.dp r c)
  | _, _, .tup h r, c => .tup h.sq (Rps.dp r c)
  | _, _, .dic h r, c => by cases c
  | _, _, .dit h r, c => by cases c
  | _, _, .obj h h' r, c => by cases c
theorem Rps.dp : ∀ {v : List V} {d : List D}, Rps K cm G v d → PyData.canLayAll0 (D.pys d) = true → DpAll K G v (D.pys d)
  | _, _, .nil, _ => .nil
  | _, _, .cons a b, c => by
    simp only [D.pys, PyData.canLayAll0, Bool.and_eq_true] at c
    exact .cons (Rp.dp a c.1) (Rps.dp b c.2)
end
end

/-! ### the frame's state -/
/-- what stands at the def's own object -/
def OwnAt (K : PySem.W.Frag) (cm : CM) (G H : Hp) (a : Addr) : D → Prop
  | .lst ds => ∃ xs, H a = some (.lst xs) ∧ Rps K cm G xs ds
  | .dic ds => ∃ kvs, H a = some (.dK kvs) ∧ Rks K cm G kvs ds
  | .dit ds => ∃ o kvs, H a = some (DTO a o kvs) ∧ Rts K cm G kvs ds
  | .obj c ds => ∃ dx fs, H a = some (.ins (cm c) dx fs) ∧ G dx = some (.own a) ∧ Rfs K cm G fs ds
  | _ => False
structure Ext (T : List (Addr × Str)) (S : List Addr) (G H G' H' : Hp) : Prop where
  g : Same G G'
  gh : Sg G' H'
  keep : ∀ b o, H b = some o → b ∉ S → NT o → H' b = some o
  new : ∀ b, H b ≠ none → G' b = G b
  dom : ∀ b, H b ≠ none → H' b ≠ none
  tab : TabK T H H'
/-- the entry of a def: what is known there, the lists that are its own -/
structure Fm where
  K : PySem.W.Frag
  cm : CM
  G : Hp
  H : Hp
  n : Nat
  ns : List Nat
  as : List Addr
abbrev Fm.own (F : Fm) : List (Nat × Addr) := F.ns.zip F.as
abbrev Fm.S (F : Fm) : List Addr := F.own.map (·.2)
theorem Fm.no {F : Fm} {ns : List Nat} {i : Nat} (h : F.ns = ns) (hi : i ∉ ns) : ∀ p ∈ F.own, p.1 ≠ i := fun p hp e => hi (by rw [← h, ← e]; exact (List.of_mem_zip hp).1)
structure Stt (F : Fm) (O : List Nat) (G H : Hp) (σ : L2.St) (δ : Env) : Prop where
  ext : Ext F.cm.T F.S F.G F.H G H
  ln : σ.length = F.n
  le : δ.length = F.n
  sh : ∀ (i : Nat) d, i ∉ O → δ[i]? = some (some d) → ∃ v, σ[i]? = some (some v) ∧ Rp F.K F.cm G v d
  ow : ∀ i ∈ O, ∃ a d, σ[i]? = some (some (.ref a)) ∧ δ[i]? = some (some d) ∧ G a = none ∧ OwnAt F.K F.cm G H a d ∧ (F.H a = none ∨ a ∈ F.S)
  dis : ∀ i ∈ O, ∀ j ∈ O, ∀ a, σ[i]? = some (some (.ref a)) → σ[j]? = some (some (.ref a)) → i = j
  fix : ∀ p ∈ F.own, p.1 ∈ O ∧ σ[p.1]? = some (some (.ref p.2))
  tabs : TbO F.cm.T H
theorem Stt.len {F : Fm} {O : List Nat} {G H : Hp} {σ : L2.St} {δ : Env} (s : Stt F O G H σ δ) : σ.length = δ.length := s.ln.trans s.le.symm
theorem OwnAt.at {K : PySem.W.Frag} {cm : CM} {G H : Hp} {a : Addr} {d : D} (o : OwnAt K cm G H a d) : H a ≠ none := by
  cases d with
  | lst ds => obtain ⟨xs, h, _⟩ := o; rw [h]; simp
  | dic ds =>
    obtain ⟨_, h, _⟩ := o; rw [h]; simp
  | dit ds => obtain ⟨_, _, h, _⟩ := o; rw [h]; simp
  | obj c ds => obtain ⟨_, _, h, _⟩ := o; rw [h]; simp
  | _ => exact o.elim
theorem OwnAt.nc {K : PySem.W.Frag} {cm : CM} {G H : Hp} {a : Addr} {d : D} {u : HO} (o : OwnAt K cm G H a d) (h : H a = some u) : NC a u := by
  cases d with
  | lst ds => obtain ⟨xs, q, _⟩ := o; rw [h] at q; cases q; exact nc_lst
  | dic ds => obtain ⟨xs, q, _⟩ := o; rw [h] at q; cases q; exact nc_dK
  | dit ds => obtain ⟨_, _, q, _⟩ := o; rw [h] at q; cases q; exact nc_dto
  | obj c ds => obtain ⟨_, _, q, _⟩ := o; rw [h] at q; cases q; exact nc_ins
  | _ => exact o.elim
theorem OwnAt.mono {K : PySem.W.Frag} {cm : CM} {G H G' H' : Hp} {a : Addr} {d : D} (o : OwnAt K cm G H a d) (e : Same G G') (h : H' a = H a) : OwnAt K cm G' H' a d := by
  cases d with
  | lst ds => obtain ⟨xs, q, r⟩ := o; exact ⟨xs, h.trans q, r.mono e⟩
  | dic ds =>
    obtain ⟨kvs, q, r⟩ := o; exact ⟨kvs, h.trans q, r.mono e⟩
  | dit ds => obtain ⟨ob, kvs, q, r⟩ := o; exact ⟨ob, kvs, h.trans q, r.mono e⟩
  | obj c ds => obtain ⟨dx, fs, q, w, r⟩ := o; exact ⟨dx, fs, h.trans q, e _ _ w, r.mono e⟩
  | _ => exact o.elim
theorem Ext.trans {T : List (Addr × Str)} {S S' : List Addr} {G H G1 H1 G2 H2 : Hp} (a : Ext T S G H G1 H1) (b : Ext T S' G1 H1 G2 H2) (hs : ∀ x ∈ S', H x = none ∨ x ∈ S) : Ext T S G H G2 H2 where
  g := a.g.trans b.g
  gh := b.gh
  keep := fun x o h n t => b.keep x o (a.keep x o h n t) (fun z => (hs x z).elim (fun q => by rw [q] at h; cases h) n) t
  new := fun x h => (b.new x (a.dom x h)).trans (a.new x h)
  dom := fun x h => b.dom x (a.dom x h)
  tab := a.tab.trans b.tab
theorem Ext.thn {T : List (Addr × Str)} {S : List Addr} {G H G1 H1 G2 H2 : Hp} (a : Ext T S G H G1 H1) (b : Ext T S G1 H1 G2 H2) : Ext T S G H G2 H2 := a.trans b fun _ z => .inr z
theorem Ext.and {T : List (Addr × Str)} {S : List Addr} {G H G1 H1 G2 H2 : Hp} (a : Ext T S G H G1 H1) (b : Ext T [] G1 H1 G2 H2) : Ext T S G H G2 H2 := a.trans b fun _ z => by cases z
theorem Ext.back {T : List (Addr × Str)} {S : List Addr} {G H G1 H1 : Hp} (a : Ext T S G H G1 H1) {p : Addr} (h : H1 p = none) : H p = none := by
  cases q : H p with
  | none => rfl
  | some o => exact absurd h (a.dom p (by rw [q]; simp))
/-- a new thing becomes known -/
theorem Ext.know {T : List (Addr × Str)} {S : List Addr} {G H G1 H1 : Hp} (a : Ext T S G H G1 H1) {p : Addr} {u : HO} (n : G1 p = none) (hp : H p = none) (hu : H1 p = some u) (nu : NT u) : Ext T S G H (upd G1 p u) H1 where
  g := a.g.trans fun b o h => by rw [upd_ne (fun e => by rw [e, n] at h; cases h)]; exact h
  gh := a.gh.know hu nu
  keep := a.keep
  new := fun b h => by rw [upd_ne (fun e => h (by rw [e]; exact hp))]; exact a.new b h
  dom := a.dom
  tab := a.tab
theorem Ext.refl {T : List (Addr × Str)} {S : List Addr} {G H : Hp} (gh : Sg G H) : Ext T S G H G H := ⟨.refl G, gh, fun _ _ h _ _ => h, fun _ _ => rfl, fun _ h => h, .refl H⟩
/-- the addresses of the own slots -/
def ownS (O : List Nat) (σ : L2.St) : List Addr := O.filterMap fun i => match σ[i]? with
  | some (some (V.ref a)) => some a
  | _ => none
theorem mem_ownS {O : List Nat} {σ : L2.St} {a : Addr} : a ∈ ownS O σ ↔ ∃ i ∈ O, σ[i]? = some (some (.ref a)) := by
  unfold ownS
  rw [List.mem_filterMap]
  constructor
  · rintro ⟨i, hi, e⟩
    refine ⟨i, hi, ?_⟩
    split at e
    · rename_i b q
      cases e
      exact q
    · cases e
  · rintro ⟨i, hi, e⟩
    exact ⟨i, hi, by rw [e]⟩
section
variable {F : Fm} {O : List Nat} {G H G' H' : Hp} {σ : L2.St} {δ : Env}
theorem Stt.inS (s : Stt F O G H σ δ) : ∀ x ∈ ownS O σ, F.H x = none ∨ x ∈ F.S := fun x hx => by
  obtain ⟨i, hi, e⟩ := mem_ownS.mp hx
  obtain ⟨a, d, e1, _, _, _, z⟩ := s.ow i hi
  rw [e] at e1
  cases e1
  exact z
theorem Stt.gh (s : Stt F O G H σ δ) : Sg G H := s.ext.gh
/-- the stable part grows; the own objects stay -/
theorem Stt.step (s : Stt F O G H σ δ) (e : Ext F.cm.T [] G H G' H') : Stt F O G' H' σ δ where
  ext := s.ext.trans e fun _ z => by cases z
  ln := s.ln
  le := s.le
  sh := fun i d hi h => by
    obtain ⟨v, e1, r⟩ := s.sh i d hi h
    exact ⟨v, e1, r.mono e.g⟩
  ow := fun i hi => by
    obtain ⟨a, d, e1, e2, n, o, z⟩ := s.ow i hi
    refine ⟨a, d, e1, e2, (e.new a o.at).trans n, o.mono e.g ?_, z⟩
    cases q : H a with
    | none => exact absurd q o.at
    | some u => exact e.keep a u q (by simp) (o.nc q).1
  dis := s.dis
  fix := s.fix
  tabs := s.tabs.go e.tab
end
/-- a new object that is never changed -/
theorem Ext.push {T : List (Addr × Str)} {G H : Hp} {p : Addr} {o : HO} (gh : Sg G H) (n : H p = none) (no : NT o := by intro _ h; cases h) : Ext T [] G H (upd G p o) (upd H p o) where
  g := fun b u h => by rw [upd_ne (ne_of_none (gh b u h) n)]; exact h
  gh := (gh.up (u := o) n).know upd_same no
  keep := fun b u h _ _ => by rw [upd_ne (ne_of_none h n)]; exact h
  new := fun b h => by rw [upd_ne (fun e => h (by rw [e]; exact n))]
  dom := fun b h => by rw [upd_ne (fun e => h (by rw [e]; exact n))]; exact h
  tab := .push n no
/-- a new object that is one's own -/
theorem Ext.fresh {T : List (Addr × Str)} {G H : Hp} {p : Addr} {o : HO} (gh : Sg G H) (n : H p = none) (no : NT o := by intro _ h; cases h) : Ext T [] G H G (upd H p o) where
  g := .refl G
  gh := gh.up n
  keep := fun b u h _ _ => by rw [upd_ne (ne_of_none h n)]; exact h
  new := fun b h => rfl
  dom := fun b h => by rw [upd_ne (fun e => h (by rw [e]; exact n))]; exact h
  tab := .push n no

/-! ### readings by the mirror -/
/-- an exception's one field -/
structure Sc where
  F : Fm
  W : WX
  fld : Str → Str
  XO : List Nat → Prop
  L : List Nat
  /-- it returns a list of its own making -/
  fr : Bool
def XRp (C : Sc) (G : Hp) (c : Str) (d : D) (cls : Value) (dd : Option Addr) : Prop :=
  cls = .ref (C.F.cm c) ∧ ∃ e v, dd = some e ∧ G e = some (.xd [(C.fld c, v)]) ∧ Rp C.F.K C.F.cm G v d
def tD (C : Sc) (O : List Nat) (f : Ex) : TE := fun σ H Q => ∃ G δ, Stt C.F O G H σ δ ∧ match f δ with
  | .ok d δ' => ∀ v G' H', Ext C.F.cm.T (ownS O σ) G H G' H' → Stt C.F O G' H' σ δ' → Rp C.F.K C.F.cm G' v d → Q v H'
  | .exc c d δ' => ∀ G' H' cls dd, Stt C.F O G' H' σ δ' → XRp C G' c d cls dd → C.W cls dd σ H'
  | .bad => False
/-- items -/
def tA (C : Sc) (O : List Nat) (f : ItE) : TA := fun σ H Q => ∃ G δ, Stt C.F O G H σ δ ∧ match f δ with
  | .ok ds δ' => ∀ vs G' H', Ext C.F.cm.T (ownS O σ) G H G' H' → Stt C.F O G' H' σ δ' → Rps C.F.K C.F.cm G' vs ds → Q vs H'
  | .exc c d δ' => ∀ G' H' cls dd, Stt C.F O G' H' σ δ' → XRp C G' c d cls dd → C.W cls dd σ H'
  | .bad => False
theorem pe_imp {X : Cx} {e : Expr} {t t' : TE} (h : PE X e t) (i : ∀ σ H Q, t' σ H Q → t σ H Q) : PE X e t' := ⟨fun pins s σ H Q I w => h.run pins s σ H Q I (i _ _ _ w)⟩
theorem pt_imp {X : Cx} {e : Expr} {t t' : TT} (h : PT X e t) (i : ∀ σ H Q, t' σ H Q → t σ H Q) : PT X e t' := ⟨fun pins s σ H Q I w => h.run pins s σ H Q I (i _ _ _ w)⟩
theorem pa_imp {X : Cx} {e : List Expr} {t t' : TA} (h : PA X e t) (i : ∀ σ H Q, t' σ H Q → t σ H Q) : PA X e t' := ⟨fun pos pins s σ H Q I w => h.run pos pins s σ H Q I (i _ _ _ w)⟩
theorem ps_imp {X : Cx} {e : Stmt} {t t' : TS} (h : PS X e t) (i : ∀ D σ H, t' D σ H → t D σ H) : PS X e t' := ⟨fun pins s σ H D I w => h.run pins s σ H D I (i _ _ _ w)⟩
theorem pss_imp {X : Cx} {e : List Stmt} {t t' : TS} (h : PSs X e t) (i : ∀ D σ H, t' D σ H → t D σ H) : PSs X e t' := ⟨fun pins s σ H D I w => h.run pins s σ H D I (i _ _ _ w)⟩

/-! ### what may be read: stable data, or the def's own list as it stands -/
def Vw (K : PySem.W.Frag) (cm : CM) (G H : Hp) (v : V) (d : D) : Prop := Rp K cm G v d ∨ ∃ a, v = .ref a ∧ OwnAt K cm G H a d
section
variable {K : PySem.W.Frag} {cm : CM} {G H : Hp} {v : V} {d : D}
theorem Vw.full (gh : Same G H) (h : Vw K cm G H v d) : Rp K cm H v d := by
  rcases h with h | ⟨a, rfl, h⟩
  · exact h.mono gh
  · cases d with
    | lst ds => obtain ⟨xs, q, r⟩ := h; exact .lst (SqL.of q) (r.mono gh)
    | dic ds =>
      obtain ⟨kvs, q, r⟩ := h
      exact .dic (Rd.of q) (r.mono gh)
    | dit ds =>
      obtain ⟨ob, kvs, q, r⟩ := h
      exact .dit (Rd.of q) (r.mono gh)
    | obj c ds => obtain ⟨dx, fs, q, w, r⟩ := h; exact .obj q (gh _ _ w) (r.mono gh)
    | _ => exact h.elim
theorem Vw.lst {ds : List D} (gh : Same G H) (h : Vw K cm G H v (.lst ds)) : ∃ a xs, v = .ref a ∧ SqL K H a xs ∧ Rps K cm G xs ds := by
  rcases h with h | ⟨a, rfl, h⟩
  · cases h with
    | lst q r => exact ⟨_, _, rfl, gh.seq q, r⟩
  · obtain ⟨xs, q, r⟩ := h
    exact ⟨a, xs, rfl, SqL.of q, r⟩
theorem Vw.tup {ds : List D} (gh : Same G H) (h : Vw K cm G H v (.tup ds)) : ∃ a xs, v = .ref a ∧ SqT K H a xs ∧ Rps K cm G xs ds := by
  rcases h with h | ⟨a, rfl, h⟩
  · cases h with
    | tup q r => exact ⟨_, _, rfl, same_sqT gh q.sq, r⟩
  · exact h.elim
theorem Vw.int {i : Int} (h : Vw K cm G H v (.int i)) : v = .int i := by
  rcases h with h | ⟨a, rfl, h⟩
  · cases h; rfl
  · exact h.elim
theorem Vw.bl {b : Bool} (h : Vw K cm G H v (.bl b)) : v = .bl b := by
  rcases h with h | ⟨a, rfl, h⟩
  · cases h; rfl
  · exact h.elim
theorem Vw.non (h : Vw K cm G H v .non) : v = .non := by
  rcases h with h | ⟨a, rfl, h⟩
  · cases h; rfl
  · exact h.elim
theorem Vw.str {x : Str} (h : Vw K cm G H v (.str x)) : v = .str x := by
  rcases h with h | ⟨a, rfl, h⟩
  · cases h; rfl
  · exact h.elim
theorem Vw.of (h : Rp K cm G v d) : Vw K cm G H v d := .inl h
end
/-- a weak reading: the value may be the def's own list -/
def tW (C : Sc) (O : List Nat) (f : Ex) : TE := fun σ H Q => ∃ G δ, Stt C.F O G H σ δ ∧ match f δ with
  | .ok d δ' => ∀ v G' H', Ext C.F.cm.T (ownS O σ) G H G' H' → Stt C.F O G' H' σ δ' → Vw C.F.K C.F.cm G' H' v d → Q v H'
  | .exc c d δ' => ∀ G' H' cls dd, Stt C.F O G' H' σ δ' → XRp C G' c d cls dd → C.W cls dd σ H'
  | .bad => False
/-- a new list -/
def tN (C : Sc) (O : List Nat) (f : Ex) : TE := fun σ H Q => ∃ G δ, Stt C.F O G H σ δ ∧ match f δ with
  | .ok d δ' => ∀ p G' H', Ext C.F.cm.T (ownS O σ) G H G' H' → Stt C.F O G' H' σ δ' → G' p = none → H p = none → OwnAt C.F.K C.F.cm G' H' p d → Q (.ref p) H'
  | .exc c d δ' => ∀ G' H' cls dd, Stt C.F O G' H' σ δ' → XRp C G' c d cls dd → C.W cls dd σ H'
  | .bad => False

section
variable {F : Fm} {O : List Nat} {G H : Hp} {σ : L2.St} {δ : Env}
/-- an own object of this frame becomes known: never changed from now on -/
theorem same_upd {p : Addr} {u : HO} (n : G p = none) : Same G (upd G p u) := fun b o h => by
  rw [upd_ne (fun e => by rw [e, n] at h; cases h)]; exact h
theorem Stt.know {p : Addr} {u : HO} (s : Stt F O G H σ δ) (n : G p = none) (nf : F.H p = none) (no : ∀ i ∈ O, σ[i]? ≠ some (some (V.ref p))) (hu : H p = some u) (nu : NT u) : Stt F O (upd G p u) H σ δ where
  ext := ⟨s.ext.g.trans (same_upd n), s.gh.know hu nu, s.ext.keep, fun b h => by
      rw [upd_ne (fun e => h (by rw [e]; exact nf))]; exact s.ext.new b h, s.ext.dom, s.ext.tab⟩
  tabs := s.tabs
  ln := s.ln
  le := s.le
  sh := fun i d hi h => by
    obtain ⟨v, e1, r⟩ := s.sh i d hi h
    exact ⟨v, e1, r.mono (same_upd n)⟩
  ow := fun i hi => by
    obtain ⟨a, d, e1, e2, na, o, z⟩ := s.ow i hi
    exact ⟨a, d, e1, e2, by rw [upd_ne (fun e => no i hi (by rw [e1, e]))]; exact na, o.mono (same_upd n) rfl, z⟩
  dis := s.dis
  fix := s.fix
theorem rp_known {K : PySem.W.Frag} {cm : CM} {p : Addr} {d : D} (o : OwnAt K cm G H p d) (n : G p = none) : ∃ u, H p = some u ∧ Rp K cm (upd G p u) (.ref p) d := by
  cases d with
  | lst ds =>
    obtain ⟨xs, q, r⟩ := o
    exact ⟨_, q, .lst (SqL.of upd_same) (r.mono (same_upd n))⟩
  | dic ds =>
    obtain ⟨kvs, q, r⟩ := o
    exact ⟨_, q, .dic (Rd.of upd_same) (r.mono (same_upd n))⟩
  | dit ds =>
    obtain ⟨ob, kvs, q, r⟩ := o
    exact ⟨_, q, .dit (Rd.of upd_same) (r.mono (same_upd n))⟩
  | obj c ds => obtain ⟨dx, fs, q, w, r⟩ := o; exact ⟨_, q, .obj upd_same (same_upd n _ _ w) (r.mono (same_upd n))⟩
  | _ => exact o.elim
/-- slot i is no longer the def's own -/
theorem Stt.freeze (s : Stt F O G H σ δ) {i : Nat} (hi : i ∈ O) (hno : ∀ p ∈ F.own, p.1 ≠ i) : ∃ G', Same G G' ∧ Stt F (O.filter (· ≠ i)) G' H σ δ := by
  obtain ⟨a, d, e1, e2, na, o, z⟩ := s.ow i hi
  have nf : F.H a = none := by
    rcases z with z | z
    · exact z
    · obtain ⟨p, hp, rfl⟩ := List.mem_map.mp z
      obtain ⟨h1, h2⟩ := s.fix p hp
      exact absurd (s.dis p.1 h1 i hi p.2 h2 e1) (hno p hp)
  obtain ⟨u, hu, rp⟩ := rp_known o na
  have mem : ∀ {j}, j ∈ O.filter (· ≠ i) ↔ j ∈ O ∧ j ≠ i := fun {j} => by simp [List.mem_filter]
  refine ⟨upd G a u, same_upd na, ?_⟩
  have s2 : Stt F (O.filter (· ≠ i)) (upd G a u) H σ δ := {
    ext := ⟨s.ext.g.trans (same_upd na), s.gh.know hu (o.nc hu).1, s.ext.keep, fun b h => by
      rw [upd_ne (fun e => h (by rw [e]; exact nf))]; exact s.ext.new b h, s.ext.dom, s.ext.tab⟩
    tabs := s.tabs
    ln := s.ln
    le := s.le
    sh := fun j dj hj h => by
      by_cases e : j = i
      · subst e
        rw [e2] at h
        cases h
        exact ⟨_, e1, rp⟩
      · obtain ⟨v, q, r⟩ := s.sh j dj (fun z => hj (mem.mpr ⟨z, e⟩)) h
        exact ⟨v, q, r.mono (same_upd na)⟩
    ow := fun j hj => by
      obtain ⟨hj, ne⟩ := mem.mp hj
      obtain ⟨b, dj, q1, q2, nb, oj, z⟩ := s.ow j hj
      refine ⟨b, dj, q1, q2, ?_, oj.mono (same_upd na) rfl, z⟩
      rw [upd_ne (fun e => ne (s.dis j hj i hi a (by rw [← e]; exact q1) e1))]
      exact nb
    dis := fun j hj k hk => s.dis j (mem.mp hj).1 k (mem.mp hk).1
    fix := fun p hp => ⟨mem.mpr ⟨(s.fix p hp).1, hno p hp⟩, (s.fix p hp).2⟩ }
  exact s2
end
theorem fresh_facts {F : Fm} {O : List Nat} {G H : Hp} {σ : L2.St} {δ : Env} {p : Addr} {u : HO} (st : Stt F O G H σ δ) (n : H p = none) (no : NT u := by intro _ h; cases h) : Stt F O G (upd H p u) σ δ ∧ G p = none ∧ F.H p = none ∧ ∀ i ∈ O, σ[i]? ≠ some (some (V.ref p)) := by
  refine ⟨st.step (Ext.fresh st.gh n no), st.gh.free n, ?_, fun i hi e => ?_⟩
  · cases q : F.H p with
    | none => rfl
    | some o => exact absurd n (st.ext.dom p (by rw [q]; simp))
  · obtain ⟨a, d, e1, _, _, o, _⟩ := st.ow i hi
    rw [e] at e1
    cases e1
    exact o.at n
section
variable {X : Cx} {C : Sc} {O : List Nat} {a b c : Expr} {fa fb fc : Ex} {pos : Pos}
theorem wk (h : PE X a (tD C O fa)) : PE X a (tW C O fa) := pe_imp h fun σ H Q ⟨G, δ, st, m⟩ => by
  refine ⟨G, δ, st, ?_⟩
  cases e : fa δ with
  | ok d δ' => rw [e] at m; exact fun v G' H' s1 st1 r => m v G' H' s1 st1 (.inl r)
  | exc c d δ' => rw [e] at m; exact m
  | bad => rw [e] at m; exact m
/-- a new list that is known from now on -/
theorem kn (h : PE X a (tN C O fa)) : PE X a (tD C O fa) := pe_imp h fun σ H Q ⟨G, δ, st, m⟩ => by
  refine ⟨G, δ, st, ?_⟩
  cases e : fa δ with
  | ok d δ' =>
    rw [e] at m
    intro p G' H' s1 st1 n hp o
    obtain ⟨u, hu, rp⟩ := rp_known o n
    obtain ⟨_, _, nf, no⟩ := fresh_facts (u := .own p) st hp
    exact m (.ref p) (upd G' p u) H' (s1.know n hp hu (o.nc hu).1) (st1.know n nf no hu (o.nc hu).1) rp
  | exc c d δ' => rw [e] at m; exact m
  | bad => rw [e] at m; exact m

/-! ### names, constants -/
theorem eV_cases (i : Nat) (δ : Env) : (∃ d, δ[i]? = some (some d) ∧ eV i δ = .ok d δ) ∨ eV i δ = .bad := by
  unfold eV
  cases e : δ[i]? with
  | none => exact .inr rfl
  | some o =>
    cases o with
    | none => exact .inr rfl
    | some d => exact .inl ⟨d, rfl, rfl⟩
theorem d_v {i : Nat} {x : Str} {p : Pos} (h : PE X (.Name x p) (tVar i)) (hi : i ∉ O) : PE X (.Name x p) (tD C O (eV i)) := pe_imp h fun σ H Q ⟨G, δ, st, m⟩ => by
  rcases eV_cases i δ with ⟨d, e, q⟩ | q
  · rw [q] at m
    obtain ⟨v, e1, r⟩ := st.sh i d hi e
    exact ⟨v, e1, m v G H (.refl st.gh) st r⟩
  · rw [q] at m
    exact m.elim
/-- the def's own list, read -/
theorem w_v {i : Nat} {x : Str} {p : Pos} (h : PE X (.Name x p) (tVar i)) (hi : i ∈ O) : PE X (.Name x p) (tW C O (eV i)) := pe_imp h fun σ H Q ⟨G, δ, st, m⟩ => by
  obtain ⟨a, d, e1, e2, n, o, z⟩ := st.ow i hi
  unfold eV at m
  rw [e2] at m
  exact ⟨_, e1, m _ G H (.refl st.gh) st (.inr ⟨a, rfl, o⟩)⟩
theorem d_c {e : Expr} {v : V} {d : D} (h : PE X e (tC v)) (r : ∀ G, Rp C.F.K C.F.cm G v d) : PE X e (tD C O (eC d)) := pe_imp h fun σ H Q ⟨G, δ, st, m⟩ => m v G H (.refl st.gh) st (r G)
theorem d_int {i : Int} {j p} : PE X (.Constant (.int i) j p) (tD C O (eC (.int i))) := d_c pe_int fun _ => .int i
theorem d_bl {i : Bool} {j p} : PE X (.Constant (.bool i) j p) (tD C O (eC (.bl i))) := d_c pe_bl fun _ => .bl i
theorem d_str {i : Str} {j p} : PE X (.Constant (.str i) j p) (tD C O (eC (.str i))) := d_c pe_str fun _ => .str i
theorem d_non {j p} : PE X (.Constant .none j p) (tD C O (eC .non)) := d_c pe_non fun _ => .non

/-! ### operators by values -/
/-- what an operator's reading asks, answered by the mirror's operator -/
def S1 (K : PySem.W.Frag) (cm : CM) (r : V → Hp → VK → Prop) (op : D → Option D) : Prop := ∀ (G H : Hp) (v : V) (d d' : D) (Q : VK), Sg G H → Vw K cm G H v d → op d = some d' →
  (∀ v' G' H', Ext cm.T [] G H G' H' → Rp K cm G' v' d' → Q v' H') → r v H Q
def S2 (K : PySem.W.Frag) (cm : CM) (r : R2) (op : D → D → Option D) : Prop := ∀ (G H : Hp) (v w : V) (d e d' : D) (Q : VK), Sg G H → Vw K cm G H v d → Vw K cm G H w e → op d e = some d' →
  (∀ v' G' H', Ext cm.T [] G H G' H' → Rp K cm G' v' d' → Q v' H') → r v w H Q
/-- .. that makes a new list -/
def N1 (K : PySem.W.Frag) (cm : CM) (r : V → Hp → VK → Prop) (op : D → Option D) : Prop := ∀ (G H : Hp) (v : V) (d d' : D) (Q : VK), Sg G H → Vw K cm G H v d → op d = some d' →
  (∀ p u, H p = none → OwnAt K cm G (upd H p u) p d' → Q (.ref p) (upd H p u)) → r v H Q
def N2 (K : PySem.W.Frag) (cm : CM) (r : R2) (op : D → D → Option D) : Prop := ∀ (G H : Hp) (v w : V) (d e d' : D) (Q : VK), Sg G H → Vw K cm G H v d → Vw K cm G H w e → op d e = some d' →
  (∀ p u, H p = none → OwnAt K cm G (upd H p u) p d' → Q (.ref p) (upd H p u)) → r v w H Q
theorem d_1 {e : Expr} {r : V → Hp → VK → Prop} {op : D → Option D} (s : S1 C.F.K C.F.cm r op) (h : PE X e (tUn r (tW C O fa))) : PE X e (tD C O (e1 op fa)) := pe_imp h fun σ H Q ⟨G, δ, st, m⟩ => by
  refine ⟨G, δ, st, ?_⟩
  unfold e1 at m
  cases e : fa δ with
  | ok d δ' =>
    rw [e] at m
    intro v G1 H1 s1 st1 vw
    cases eo : op d with
    | none => rw [Res.bind_ok, eo] at m; exact m.elim
    | some d' =>
      rw [Res.bind_ok, eo] at m
      exact s G1 H1 v d d' Q st1.gh vw eo fun v' G' H' ex rp => m v' G' H' (s1.and ex) (st1.step ex) rp
  | exc c d δ' => rw [e] at m; exact m
  | bad => rw [e] at m; exact m
theorem n_1 {e : Expr} {r : V → Hp → VK → Prop} {op : D → Option D} (s : N1 C.F.K C.F.cm r op) (h : PE X e (tUn r (tW C O fa))) : PE X e (tN C O (e1 op fa)) := pe_imp h fun σ H Q ⟨G, δ, st, m⟩ => by
  refine ⟨G, δ, st, ?_⟩
  unfold e1 at m
  cases e : fa δ with
  | ok d δ' =>
    rw [e] at m
    intro v G1 H1 s1 st1 vw
    cases eo : op d with
    | none => rw [Res.bind_ok, eo] at m; exact m.elim
    | some d' =>
      rw [Res.bind_ok, eo] at m
      refine s G1 H1 v d d' Q st1.gh vw eo fun p u n o => ?_
      obtain ⟨f1, f2, f3, f4⟩ := fresh_facts (u := u) st1 n (o.nc upd_same).1
      exact m p G1 (upd H1 p u) (s1.and (Ext.fresh st1.gh n (o.nc upd_same).1)) f1 f2 (s1.back n) o
  | exc c d δ' => rw [e] at m; exact m
  | bad => rw [e] at m; exact m
theorem r_2 {r : R2} {op : D → D → Option D} (s : S2 C.F.K C.F.cm r op) : ∀ (σ : L2.St) (H : Hp) (Q : VK), tD C O (e2 op fa fb) σ H Q → tOp r (tD C O fa) (tW C O fb) σ H Q := fun σ H Q ⟨G, δ, st, m⟩ => by
  refine ⟨G, δ, st, ?_⟩
  unfold e2 at m
  cases e : fa δ with
  | ok d δ' =>
    rw [e, Res.bind_ok] at m
    intro v G1 H1 s1 st1 rv
    refine ⟨G1, δ', st1, ?_⟩
    cases eb : fb δ' with
    | ok d2 δ2 =>
      rw [eb, Res.bind_ok] at m
      intro w G2 H2 s2 st2 vw
      cases eo : op d d2 with
      | none => rw [eo] at m; exact m.elim
      | some d' =>
        rw [eo] at m
        exact s G2 H2 v w d d2 d' Q st2.gh (.inl (rv.mono s2.g)) vw eo fun v' G' H' ex rp => m v' G' H' ((s1.thn s2).and ex) (st2.step ex) rp
    | exc c d δ' => rw [eb] at m; exact m
    | bad => rw [eb] at m; exact m
  | exc c d δ' => rw [e] at m; exact m
  | bad => rw [e] at m; exact m
theorem d_2 {e : Expr} {r : R2} {op : D → D → Option D} (s : S2 C.F.K C.F.cm r op) (h : PE X e (tOp r (tD C O fa) (tW C O fb))) : PE X e (tD C O (e2 op fa fb)) := pe_imp h (r_2 s)
theorem n_2 {e : Expr} {r : R2} {op : D → D → Option D} (s : N2 C.F.K C.F.cm r op) (h : PE X e (tOp r (tD C O fa) (tW C O fb))) : PE X e (tN C O (e2 op fa fb)) := pe_imp h fun σ H Q ⟨G, δ, st, m⟩ => by
  refine ⟨G, δ, st, ?_⟩
  unfold e2 at m
  cases e : fa δ with
  | ok d δ' =>
    rw [e, Res.bind_ok] at m
    intro v G1 H1 s1 st1 rv
    refine ⟨G1, δ', st1, ?_⟩
    cases eb : fb δ' with
    | ok d2 δ2 =>
      rw [eb, Res.bind_ok] at m
      intro w G2 H2 s2 st2 vw
      cases eo : op d d2 with
      | none => rw [eo] at m; exact m.elim
      | some d' =>
        rw [eo] at m
        refine s G2 H2 v w d d2 d' Q st2.gh (.inl (rv.mono s2.g)) vw eo fun p u n o => ?_
        obtain ⟨f1, f2, f3, f4⟩ := fresh_facts (u := u) st2 n (o.nc upd_same).1
        exact m p G2 (upd H2 p u) ((s1.thn s2).and (Ext.fresh st2.gh n (o.nc upd_same).1)) f1 f2 ((s1.thn s2).back n) o
    | exc c d δ' => rw [eb] at m; exact m
    | bad => rw [eb] at m; exact m
  | exc c d δ' => rw [e] at m; exact m
  | bad => rw [e] at m; exact m
/-- the left side is the def's own list -/
theorem own_2 {r : R2} {op : D → D → Option D} {i : Nat} (hi : i ∈ O) {σ : L2.St} {H : Hp} {Q : VK} {G : Hp} {δ : Env} {P : Res D → Prop} (st : Stt C.F O G H σ δ) (m : P ((fb δ).bind fun y δ1 => (eV i δ1).bind fun x δ2 => Res.opt (op x y) δ2))
    (hbad : ¬ P .bad) (hexc : ∀ c d δ', P (.exc c d δ') → ∀ G' H' cls dd, Stt C.F O G' H' σ δ' → XRp C G' c d cls dd → C.W cls dd σ H')
    (hok : ∀ v w d d2 d' G2 H2 δ2, op d d2 = some d' → Ext C.F.cm.T (ownS O σ) G H G2 H2 → Stt C.F O G2 H2 σ δ2 → Vw C.F.K C.F.cm G2 H2 v d → Vw C.F.K C.F.cm G2 H2 w d2 → P (.ok d' δ2) → r v w H2 Q) :
    tVar i σ H fun x H1 => tW C O fb σ H1 fun y H2 => r x y H2 Q := by
  obtain ⟨a, d0, e1, _, _, _, _⟩ := st.ow i hi
  refine ⟨_, e1, G, δ, st, ?_⟩
  cases eb : fb δ with
  | ok d2 δ2 =>
    rw [eb, Res.bind_ok] at m
    intro w G2 H2 s2 st2 vw
    obtain ⟨a', d, q1, q2, _, o, _⟩ := st2.ow i hi
    rw [e1] at q1
    cases q1
    have ev : eV i δ2 = .ok d δ2 := by unfold eV; rw [q2]
    rw [ev, Res.bind_ok] at m
    cases eo : op d d2 with
    | none => rw [eo] at m; exact (hbad m).elim
    | some d' =>
      rw [eo] at m
      exact hok _ _ d d2 d' G2 H2 δ2 eo s2 st2 (.inr ⟨_, rfl, o⟩) vw m
  | exc c d δ' => rw [eb] at m; exact hexc c d δ' m
  | bad => rw [eb] at m; exact (hbad m).elim
theorem r_o2 {r : R2} {op : D → D → Option D} {i : Nat} (hi : i ∈ O) (s : S2 C.F.K C.F.cm r op) : ∀ (σ : L2.St) (H : Hp) (Q : VK), tD C O (eO2 op i fb) σ H Q → tOp r (tVar i) (tW C O fb) σ H Q := fun σ H Q ⟨G, δ, st, m⟩ => by
  refine own_2 (op := op) hi (P := fun x => match x with
    | .ok d δ' => ∀ v G' H', Ext C.F.cm.T (ownS O σ) G H G' H' → Stt C.F O G' H' σ δ' → Rp C.F.K C.F.cm G' v d → Q v H'
    | .exc c d δ' => ∀ G' H' cls dd, Stt C.F O G' H' σ δ' → XRp C G' c d cls dd → C.W cls dd σ H'
    | .bad => False) st m (fun z => z) (fun _ _ _ z => z) fun v w d d2 d' G2 H2 δ2 eo s2 st2 v1 v2 m => ?_
  exact s G2 H2 v w d d2 d' Q st2.gh v1 v2 eo fun v' G' H' ex rp => m v' G' H' (s2.and ex) (st2.step ex) rp
theorem d_o2 {e : Expr} {r : R2} {op : D → D → Option D} {i : Nat} (hi : i ∈ O) (s : S2 C.F.K C.F.cm r op) (h : PE X e (tOp r (tVar i) (tW C O fb))) : PE X e (tD C O (eO2 op i fb)) := pe_imp h (r_o2 hi s)
theorem n_o2 {e : Expr} {r : R2} {op : D → D → Option D} {i : Nat} (hi : i ∈ O) (s : N2 C.F.K C.F.cm r op) (h : PE X e (tOp r (tVar i) (tW C O fb))) : PE X e (tN C O (eO2 op i fb)) := pe_imp h fun σ H Q ⟨G, δ, st, m⟩ => by
  refine own_2 (op := op) hi (P := fun x => match x with
    | .ok d δ' => ∀ p G' H', Ext C.F.cm.T (ownS O σ) G H G' H' → Stt C.F O G' H' σ δ' → G' p = none → H p = none → OwnAt C.F.K C.F.cm G' H' p d → Q (.ref p) H'
    | .exc c d δ' => ∀ G' H' cls dd, Stt C.F O G' H' σ δ' → XRp C G' c d cls dd → C.W cls dd σ H'
    | .bad => False) st m (fun z => z) (fun _ _ _ z => z) fun v w d d2 d' G2 H2 δ2 eo s2 st2 v1 v2 m => ?_
  refine s G2 H2 v w d d2 d' Q st2.gh v1 v2 eo fun p u n o => ?_
  obtain ⟨f1, f2, f3, f4⟩ := fresh_facts (u := u) st2 n (o.nc upd_same).1
  exact m p G2 (upd H2 p u) (s2.and (Ext.fresh st2.gh n (o.nc upd_same).1)) f1 f2 (s2.back n) o
/-! ### lists of parts, displays -/
theorem a_nil : PA X [] (tA C O (eL [])) := pa_imp pa_nil fun σ H Q ⟨G, δ, st, m⟩ => m [] G H (.refl st.gh) st .nil
theorem a_cons {e : Expr} {es : List Expr} {fs : List Ex} (h : PA X (e :: es) (tCons (tD C O fa) (tA C O (eL fs)))) : PA X (e :: es) (tA C O (eL (fa :: fs))) := pa_imp h fun σ H Q ⟨G, δ, st, m⟩ => by
  refine ⟨G, δ, st, ?_⟩
  unfold eL at m
  cases e : fa δ with
  | ok d δ' =>
    rw [e, Res.bind_ok] at m
    intro v G1 H1 s1 st1 rv
    refine ⟨G1, δ', st1, ?_⟩
    cases eb : eL fs δ' with
    | ok ds δ2 =>
      rw [eb, Res.bind_ok] at m
      intro vs G2 H2 s2 st2 rvs
      exact m (v :: vs) G2 H2 (s1.thn s2) st2 (.cons (rv.mono s2.g) rvs)
    | exc c d δ' => rw [eb] at m; exact m
    | bad => rw [eb] at m; exact m
  | exc c d δ' => rw [e] at m; exact m
  | bad => rw [e] at m; exact m
theorem eL_length : ∀ {fs : List Ex} {δ : Env} {ds : List D} {δ' : Env}, eL fs δ = .ok ds δ' → ds.length = fs.length
  | [], δ, ds, δ', h => by
    have h' : Res.ok [] δ = Res.ok ds δ' := h
    cases h'
    rfl
  | f :: fs, δ, ds, δ', h => by
    unfold eL at h
    cases e : f δ with
    | ok d δ1 =>
      rw [e, Res.bind_ok] at h
      cases e2 : eL fs δ1 with
      | ok xs δ2 =>
        rw [e2, Res.bind_ok] at h
        cases h
        exact congrArg (· + 1) (eL_length e2)
      | exc c d δ' => rw [e2] at h; cases h
      | bad => rw [e2] at h; cases h
    | exc c d δ' => rw [e] at h; cases h
    | bad => rw [e] at h; cases h
/-- a tuple that is written, its object known -/
def tTupF (t : TA) : TE := fun σ H Q => t σ H fun xs H1 => xs.length ≤ sizeLine ∧ ∀ p (o : Obj), H1 p = none → o.dict = none → Q (.ref p) (upd H1 p (.frz o (.tup xs)))
theorem pe_tupF {es : List Expr} {k : Nat} {t : TA} (h : PA X es t) : PE X (.Tuple es k pos) (tTupF t) := by
  refine ⟨fun pins s σ H Q I hq => wpAny_Tuple_spliced (thn (h.run pos pins s σ H _ I hq) fun us s1 ⟨xs, H1, I1, r, z, q⟩ => ⟨by rw [← r.length]; exact z, ?_⟩)⟩
  have e := Heap.get?_push_size s1.heap (o := { cls := .type "tuple", data := .seq us.toArray }) rfl
  exact ⟨.ref _, _, I1.laid (t' := s1.toks) (o := .frz { cls := .type "tuple", data := .seq us.toArray } (.tup xs)) (fun b u q => Heap.get?_push_of_some _ q) (Nat.le_refl _) ⟨e, z, us, r, _, e, rfl, _, rfl⟩, rfl, q _ _ (I1.hok.fresh (Nat.le_refl _)) rfl⟩
theorem d_tup {es : List Expr} {k : Nat} {fs : List Ex} (h : PA X es (tA C O (eL fs))) (hl : fs.length ≤ sizeLine := by decide) : PE X (.Tuple es k pos) (tD C O (eTup fs)) := pe_imp (pe_tupF h) fun σ H Q ⟨G, δ, st, m⟩ => by
  refine ⟨G, δ, st, ?_⟩
  unfold eTup at m
  cases e : eL fs δ with
  | ok ds δ' =>
    rw [e, Res.bind_ok] at m
    intro vs G1 H1 s1 st1 rv
    refine ⟨by rw [rv.length, eL_length e]; exact hl, fun p o hp hd => ?_⟩
    have ex := Ext.push (T := C.F.cm.T) (o := .frz o (.tup vs)) st1.gh hp
    exact m (.ref p) _ _ (s1.and ex) (st1.step ex) (.tup (.of upd_same hd) (rv.mono ex.g))
  | exc c d δ' => rw [e] at m; exact m
  | bad => rw [e] at m; exact m
theorem n_lst {es : List Expr} {fs : List Ex} (h : PA X es (tA C O (eL fs))) (hl : fs.length ≤ sizeLine := by decide) : PE X (.List es pos) (tN C O (eLst fs)) := pe_imp (pe_lst h) fun σ H Q ⟨G, δ, st, m⟩ => by
  refine ⟨G, δ, st, ?_⟩
  unfold eLst at m
  cases e : eL fs δ with
  | ok ds δ' =>
    rw [e, Res.bind_ok] at m
    intro vs G1 H1 s1 st1 rv
    refine ⟨by rw [rv.length, eL_length e]; exact hl, fun p hp => ?_⟩
    obtain ⟨f1, f2, f3, f4⟩ := fresh_facts (u := .lst vs) st1 hp
    exact m p G1 _ (s1.and (Ext.fresh st1.gh hp)) f1 f2 (s1.back hp) ⟨vs, upd_same, rv⟩
  | exc c d δ' => rw [e] at m; exact m
  | bad => rw [e] at m; exact m

/-! ### tests -/
def tDT (C : Sc) (O : List Nat) (f : Ex) : TT := fun σ H Q => ∃ G δ, Stt C.F O G H σ δ ∧ match f δ with
  | .ok d δ' => ∃ b, d = .bl b ∧ ∀ G' H', Ext C.F.cm.T (ownS O σ) G H G' H' → Stt C.F O G' H' σ δ' → Q b H'
  | .exc c d δ' => ∀ G' H' cls dd, Stt C.F O G' H' σ δ' → XRp C G' c d cls dd → C.W cls dd σ H'
  | .bad => False
theorem dt_of {f : Ex} {σ : L2.St} {H : Hp} {Q : Bool → Hp → Prop} (h : tDT C O f σ H Q) : tD C O f σ H fun x H' => ∃ k, x = .bl k ∧ Q k H' := by
  obtain ⟨G, δ, st, m⟩ := h
  refine ⟨G, δ, st, ?_⟩
  cases e : f δ with
  | ok d δ' =>
    rw [e] at m
    obtain ⟨b, rfl, m⟩ := m
    intro v G' H' s1 st1 r
    cases r
    exact ⟨b, rfl, m G' H' s1 st1⟩
  | exc c d δ' => rw [e] at m; exact m
  | bad => rw [e] at m; exact m
theorem t_val {e : Expr} {f : Ex} (h : PE X e (tD C O f)) (he : ∀ whole, isTrue e X.env whole = (do let v ← whole; standAt e.pos; holding [v] (truthy v)) := by intro _; rfl) : PT X e (tDT C O f) :=
  pt_imp (pt_val h he) fun _ _ _ h => dt_of h
theorem t_2 {e : Expr} {r : R2} {op : D → D → Option D} (s : S2 C.F.K C.F.cm r op) (h : PT X e (tTest (tOp r (tD C O fa) (tW C O fb)))) : PT X e (tDT C O (e2 op fa fb)) := pt_imp h fun _ _ _ h => r_2 s _ _ _ (dt_of h)
theorem t_o2 {e : Expr} {r : R2} {op : D → D → Option D} {i : Nat} (hi : i ∈ O) (s : S2 C.F.K C.F.cm r op) (h : PT X e (tTest (tOp r (tVar i) (tW C O fb)))) : PT X e (tDT C O (eO2 op i fb)) := pt_imp h fun _ _ _ h => r_o2 hi s _ _ _ (dt_of h)
theorem r_ch {r r' : R2} {op op' : D → D → Option D} (s : S2 C.F.K C.F.cm r op) (s' : S2 C.F.K C.F.cm r' op') : ∀ (σ : L2.St) (H : Hp) (Q : VK), tD C O (eCh op op' fa fb fc) σ H Q → tChain r r' (tD C O fa) (tD C O fb) (tW C O fc) σ H Q := fun σ H Q ⟨G, δ, st, m⟩ => by
  refine ⟨G, δ, st, ?_⟩
  unfold eCh at m
  cases e : fa δ with
  | ok d δ' =>
    rw [e, Res.bind_ok] at m
    intro v G1 H1 s1 st1 rv
    refine ⟨G1, δ', st1, ?_⟩
    cases eb : fb δ' with
    | ok d2 δ2 =>
      rw [eb, Res.bind_ok] at m
      intro w G2 H2 s2 st2 rw2
      cases eo : op d d2 with
      | none => rw [eo] at m; exact m.elim
      | some k =>
        rw [eo] at m
        cases k with
        | bl k =>
          refine s G2 H2 v w d d2 (.bl k) _ st2.gh (.inl (rv.mono s2.g)) (.inl rw2) eo fun v' G3 H3 ex rp => ?_
          cases rp
          refine ⟨k, rfl, ?_⟩
          have st3 := st2.step ex
          cases k with
          | true =>
            rw [if_pos rfl]
            have m' : match (fc δ2).bind fun z δ3 => Res.opt (op' d2 z) δ3 with
              | .ok d δ' => ∀ v G' H', Ext C.F.cm.T (ownS O σ) G H G' H' → Stt C.F O G' H' σ δ' → Rp C.F.K C.F.cm G' v d → Q v H'
              | .exc c d δ' => ∀ G' H' cls dd, Stt C.F O G' H' σ δ' → XRp C G' c d cls dd → C.W cls dd σ H'
              | .bad => False := m
            refine ⟨G3, δ2, st3, ?_⟩
            cases ec : fc δ2 with
            | ok d3 δ3 =>
              rw [ec, Res.bind_ok] at m'
              intro z G4 H4 s4 st4 vz
              cases eo' : op' d2 d3 with
              | none => rw [eo'] at m'; exact m'.elim
              | some d' =>
                rw [eo'] at m'
                exact s' G4 H4 w z d2 d3 d' Q st4.gh (.inl (rw2.mono (ex.g.trans s4.g))) vz eo' fun v' G' H' ex' rp => m' v' G' H' ((((s1.thn s2).and ex).thn s4).and ex') (st4.step ex') rp
            | exc c d δ' => rw [ec] at m'; exact m'
            | bad => rw [ec] at m'; exact m'
          | false =>
            rw [if_neg Bool.false_ne_true]
            exact m (.bl false) G3 H3 ((s1.thn s2).and ex) st3 (.bl false)
        | _ => exact m.elim
    | exc c d δ' => rw [eb] at m; exact m
    | bad => rw [eb] at m; exact m
  | exc c d δ' => rw [e] at m; exact m
  | bad => rw [e] at m; exact m
theorem d_ch {e : Expr} {r r' : R2} {op op' : D → D → Option D} (s : S2 C.F.K C.F.cm r op) (s' : S2 C.F.K C.F.cm r' op') (h : PE X e (tChain r r' (tD C O fa) (tD C O fb) (tW C O fc))) : PE X e (tD C O (eCh op op' fa fb fc)) := pe_imp h (r_ch s s')
theorem t_ch {e : Expr} {r r' : R2} {op op' : D → D → Option D} (s : S2 C.F.K C.F.cm r op) (s' : S2 C.F.K C.F.cm r' op') (h : PT X e (tTest (tChain r r' (tD C O fa) (tD C O fb) (tW C O fc)))) : PT X e (tDT C O (eCh op op' fa fb fc)) := pt_imp h fun _ _ _ h => r_ch s s' _ _ _ (dt_of h)
/-- what a result must give, from G on -/
def Pt (C : Sc) (O : List Nat) (G H : Hp) (σ : L2.St) (Q : VK) (r : Res D) : Prop := match r with
  | .ok d δ' => ∀ v G' H', Ext C.F.cm.T (ownS O σ) G H G' H' → Stt C.F O G' H' σ δ' → Rp C.F.K C.F.cm G' v d → Q v H'
  | .exc c d δ' => ∀ G' H' cls dd, Stt C.F O G' H' σ δ' → XRp C G' c d cls dd → C.W cls dd σ H'
  | .bad => False
theorem Pt.mono {G H G1 H1 : Hp} {σ : L2.St} {Q : VK} {r : Res D} (h : Pt C O G H σ Q r) (s : Ext C.F.cm.T (ownS O σ) G H G1 H1) : Pt C O G1 H1 σ Q r := by
  cases r with
  | ok d δ' => exact fun v G' H' s1 => h v G' H' (s.thn s1)
  | exc c d δ' => exact h
  | bad => exact h
theorem Pt.td {G H : Hp} {σ : L2.St} {δ : Env} {Q : VK} {f : Ex} (st : Stt C.F O G H σ δ) (h : Pt C O G H σ Q (f δ)) : tD C O f σ H Q := ⟨G, δ, st, h⟩
/-- a test, then what follows from its answer -/
theorem r_T {k : Bool → Env → Res D} {σ : L2.St} {H : Hp} {Q : VK} (h : tD C O (eT fa k) σ H Q) {R : Bool → Hp → Prop} (hR : ∀ b G δ' H', Stt C.F O G H' σ δ' → Pt C O G H' σ Q (k b δ') → R b H') : tDT C O fa σ H R := by
  obtain ⟨G, δ, st, m⟩ := h
  refine ⟨G, δ, st, ?_⟩
  unfold eT at m
  cases e : fa δ with
  | ok d δ' =>
    rw [e, Res.bind_ok] at m
    cases d with
    | bl b =>
      have m' : Pt C O G H σ Q (k b δ') := m
      exact ⟨b, rfl, fun G' H' s1 st1 => hR b G' δ' H' st1 (m'.mono s1)⟩
    | _ => exact m.elim
  | exc c d δ' => rw [e] at m; exact m
  | bad => rw [e] at m; exact m
theorem d_and {rest : List Expr} (h : PE X (.BoolOp .And (a :: b :: rest) pos) (tAndV (tD C O fa) (tD C O fb))) : PE X (.BoolOp .And (a :: b :: rest) pos) (tD C O (eAnd fa fb)) := pe_imp h fun σ H Q hw => by
  refine dt_of (r_T hw fun b G δ' H' st m => ?_)
  cases b with
  | true => exact iteT (Pt.td st m)
  | false => exact iteF (m (.bl false) G H' (.refl st.gh) st (.bl false))
theorem d_or {rest : List Expr} (h : PE X (.BoolOp .Or (a :: b :: rest) pos) (tOrV (tD C O fa) (tD C O fb))) : PE X (.BoolOp .Or (a :: b :: rest) pos) (tD C O (eOr fa fb)) := pe_imp h fun σ H Q hw => by
  refine dt_of (r_T hw fun b G δ' H' st m => ?_)
  cases b with
  | false => exact iteF (Pt.td st m)
  | true => exact iteT (m (.bl true) G H' (.refl st.gh) st (.bl true))
theorem d_not (h : PE X (.UnaryOp .Not a pos) (tNotV (tD C O fa))) : PE X (.UnaryOp .Not a pos) (tD C O (eNot fa)) := pe_imp h fun σ H Q hw => by
  refine dt_of (r_T hw fun b G δ' H' st m => ?_)
  exact m (.bl (!b)) G H' (.refl st.gh) st (.bl (!b))
theorem d_if {c : Expr} (hc : PT X c (tDT C O fc)) (ha : PE X a (tD C O fa)) (hb : PE X b (tD C O fb)) : PE X (.IfExp c a b pos) (tD C O (eIf fc fa fb)) := pe_imp (pe_ifExp hc ha hb) fun σ H Q hw => by
  refine r_T hw fun b G δ' H' st m => ?_
  cases b with
  | true => exact iteT (Pt.td st m)
  | false => exact iteF (Pt.td st m)
/-- and, or, not as tests -/
def Pb (C : Sc) (O : List Nat) (G H : Hp) (σ : L2.St) (Q : Bool → Hp → Prop) (r : Res D) : Prop := match r with
  | .ok d δ' => ∃ b, d = .bl b ∧ ∀ G' H', Ext C.F.cm.T (ownS O σ) G H G' H' → Stt C.F O G' H' σ δ' → Q b H'
  | .exc c d δ' => ∀ G' H' cls dd, Stt C.F O G' H' σ δ' → XRp C G' c d cls dd → C.W cls dd σ H'
  | .bad => False
theorem Pb.mono {G H G1 H1 : Hp} {σ : L2.St} {Q : Bool → Hp → Prop} {r : Res D} (h : Pb C O G H σ Q r) (s : Ext C.F.cm.T (ownS O σ) G H G1 H1) : Pb C O G1 H1 σ Q r := by
  cases r with
  | ok d δ' =>
    obtain ⟨b, e, h⟩ := h
    exact ⟨b, e, fun G' H' s1 => h G' H' (s.thn s1)⟩
  | exc c d δ' => exact h
  | bad => exact h
theorem Pb.td {G H : Hp} {σ : L2.St} {δ : Env} {Q : Bool → Hp → Prop} {f : Ex} (st : Stt C.F O G H σ δ) (h : Pb C O G H σ Q (f δ)) : tDT C O f σ H Q := ⟨G, δ, st, h⟩
theorem rt_T {k : Bool → Env → Res D} {σ : L2.St} {H : Hp} {Q : Bool → Hp → Prop} (h : tDT C O (eT fa k) σ H Q) {R : Bool → Hp → Prop} (hR : ∀ b G δ' H', Stt C.F O G H' σ δ' → Pb C O G H' σ Q (k b δ') → R b H') : tDT C O fa σ H R := by
  obtain ⟨G, δ, st, m⟩ := h
  refine ⟨G, δ, st, ?_⟩
  unfold eT at m
  cases e : fa δ with
  | ok d δ' =>
    rw [e, Res.bind_ok] at m
    cases d with
    | bl b =>
      have m' : Pb C O G H σ Q (k b δ') := m
      exact ⟨b, rfl, fun G' H' s1 st1 => hR b G' δ' H' st1 (m'.mono s1)⟩
    | _ => exact m.elim
  | exc c d δ' => rw [e] at m; exact m
  | bad => rw [e] at m; exact m
theorem pw_imp {e : Expr} {t t' : TT} (h : PW X e t) (i : ∀ σ H Q, t' σ H Q → t σ H Q) : PW X e t' := ⟨fun wh pins s σ H Q I w => h.run wh pins s σ H Q I (i _ _ _ w)⟩
theorem t_and {rest : List Expr} (ha : PT X a (tDT C O fa)) (hb : PW X (.BoolOp .And (b :: rest) pos) (tDT C O fb)) : PW X (.BoolOp .And (a :: b :: rest) pos) (tDT C O (eAnd fa fb)) := pw_imp (pw_and ha hb) fun σ H Q hw => by
  refine rt_T hw fun b G δ' H' st m => ?_
  cases b with
  | true => exact iteT (Pb.td st m)
  | false =>
    obtain ⟨b, e, m⟩ := m
    cases e
    exact iteF (m G H' (.refl st.gh) st)
theorem t_or {rest : List Expr} (ha : PT X a (tDT C O fa)) (hb : PW X (.BoolOp .Or (b :: rest) pos) (tDT C O fb)) : PW X (.BoolOp .Or (a :: b :: rest) pos) (tDT C O (eOr fa fb)) := pw_imp (pw_or ha hb) fun σ H Q hw => by
  refine rt_T hw fun b G δ' H' st m => ?_
  cases b with
  | false => exact iteF (Pb.td st m)
  | true =>
    obtain ⟨b, e, m⟩ := m
    cases e
    exact iteT (m G H' (.refl st.gh) st)
theorem t_not (ha : PT X a (tDT C O fa)) : PT X (.UnaryOp .Not a pos) (tDT C O (eNot fa)) := pt_imp (pt_not ha) fun σ H Q hw => by
  refine rt_T hw fun b G δ' H' st m => ?_
  obtain ⟨b', e, m⟩ := m
  cases e
  exact m G H' (.refl st.gh) st
end

/-! ### statements -/
/-- the end of a def, as seen from its entry -/
def RetS (F : Fm) (G H : Hp) (δ : Env) : Prop := Ext F.cm.T F.S F.G F.H G H ∧ ∀ p ∈ F.own, ∃ d, δ[p.1]? = some (some d) ∧ G p.2 = none ∧ OwnAt F.K F.cm G H p.2 d
theorem Stt.ret {F : Fm} {O : List Nat} {G H : Hp} {σ : L2.St} {δ : Env} (s : Stt F O G H σ δ) : RetS F G H δ := ⟨s.ext, fun p hp => by
  obtain ⟨h1, h2⟩ := s.fix p hp
  obtain ⟨a, d, e1, e2, n, o, _⟩ := s.ow p.1 h1
  rw [h2] at e1
  cases e1
  exact ⟨d, e2, n, o⟩⟩
/-- what is returned is new -/
def FrR (C : Sc) (H' : Hp) (δ' : Env) (v : V) (d : D) : Prop := C.fr = true → ∃ p G0, v = .ref p ∧ C.F.H p = none ∧ RetS C.F G0 H' δ' ∧ G0 p = none ∧ OwnAt C.F.K C.F.cm G0 H' p d
theorem FrR.no {C : Sc} {H' : Hp} {δ' : Env} {v : V} {d : D} (h : C.fr = false) : FrR C H' δ' v d := fun z => by rw [h] at z; cases z
/-- what a statement's end must give: O' the own slots behind it, C.L those of the loop around -/
def Ps (C : Sc) (O' : List Nat) (G : Hp) (D : Ends) (o : Out) : Prop := match o with
  | .nx δ' => ∀ σ' G' H', Same G G' → Stt C.F O' G' H' σ' δ' → D.nx σ' H'
  | .rt d δ' => ∀ v G' H', RetS C.F G' H' δ' → Rp C.F.K C.F.cm G' v d → FrR C H' δ' v d → D.rt v H'
  | .bk δ' => ∀ σ' G' H', Same G G' → Stt C.F C.L G' H' σ' δ' → D.bk σ' H'
  | .ct δ' => ∀ σ' G' H', Same G G' → Stt C.F C.L G' H' σ' δ' → D.ct σ' H'
  | .exc c d δ' => ∀ O'' σ' G' H' cls dd, C.XO O'' → Stt C.F O'' G' H' σ' δ' → XRp C G' c d cls dd → C.W cls dd σ' H'
  | .bad => False
def tS (C : Sc) (O O' : List Nat) (g : Sm) : TS := fun D σ H => ∃ G δ, Stt C.F O G H σ δ ∧ Ps C O' G D (g δ)
theorem Ps.mono {C : Sc} {O' : List Nat} {G G1 : Hp} {D : Ends} {o : Out} (h : Ps C O' G D o) (s : Same G G1) : Ps C O' G1 D o := by
  cases o with
  | nx δ' => exact fun σ' G' H' s1 => h σ' G' H' (s.trans s1)
  | bk δ' => exact fun σ' G' H' s1 => h σ' G' H' (s.trans s1)
  | ct δ' => exact fun σ' G' H' s1 => h σ' G' H' (s.trans s1)
  | rt d δ' => exact h
  | exc c d δ' => exact h
  | bad => exact h
section
variable {X : Cx} {C : Sc} {O O1 O2 : List Nat} {a b c : Expr} {fa fb fc : Ex} {ga gb : Sm} {pos : Pos}
theorem r_seq {ta tb : TS} (ha : ∀ D σ H, tS C O O1 ga D σ H → ta D σ H) (hb : ∀ D σ H, tS C O1 O2 gb D σ H → tb D σ H) : ∀ D σ H, tS C O O2 (sSeq ga gb) D σ H → tSeq ta tb D σ H := fun D σ H ⟨G, δ, st, m⟩ => by
  refine ha _ σ H ⟨G, δ, st, ?_⟩
  unfold sSeq at m
  cases e : ga δ with
  | nx δ1 =>
    rw [e] at m
    have m' : Ps C O2 G D (gb δ1) := m
    intro σ' G' H' s1 st1
    exact hb _ _ _ ⟨G', δ1, st1, m'.mono s1⟩
  | rt d δ' => rw [e] at m; exact m
  | bk δ' => rw [e] at m; exact m
  | ct δ' => rw [e] at m; exact m
  | exc c d δ' => rw [e] at m; exact m
  | bad => rw [e] at m; exact m
theorem s_seq {s : Stmt} {rest : List Stmt} (ha : PS X s (tS C O O1 ga)) (hb : PSs X rest (tS C O1 O2 gb)) : PSs X (s :: rest) (tS C O O2 (sSeq ga gb)) := pss_imp (pss_cons ha hb) (r_seq (fun _ _ _ h => h) fun _ _ _ h => h)
theorem s_one {s : Stmt} (ha : PS X s (tS C O O1 ga)) : PSs X [s] (tS C O O1 ga) := pss_one ha
theorem s_nil : PSs X [] (tS C O O sPass) := pss_imp pss_nil fun D σ H ⟨G, δ, st, m⟩ => m σ G H (.refl G) st
theorem s_pass : PS X (.Pass pos) (tS C O O sPass) := ps_imp ps_pass fun D σ H ⟨G, δ, st, m⟩ => m σ G H (.refl G) st
theorem s_break : PS X (.Break pos) (tS C C.L O1 sBk) := ps_imp ps_break fun D σ H ⟨G, δ, st, m⟩ => m σ G H (.refl G) st
theorem s_continue : PS X (.Continue pos) (tS C C.L O1 sCt) := ps_imp ps_continue fun D σ H ⟨G, δ, st, m⟩ => m σ G H (.refl G) st
/-- an expression first -/
theorem r_out {f : Ex} {k : D → Env → Out} {O' : List Nat} {G H : Hp} {σ : L2.St} {δ : Env} {D : Ends} (hx : C.XO O) (st : Stt C.F O G H σ δ) (m : Ps C O' G D ((f δ).out k)) {Q : VK}
    (hQ : ∀ d v G1 H1 δ1, Ext C.F.cm.T (ownS O σ) G H G1 H1 → Stt C.F O G1 H1 σ δ1 → Rp C.F.K C.F.cm G1 v d → Ps C O' G1 D (k d δ1) → Q v H1) : tD C O f σ H Q := by
  refine ⟨G, δ, st, ?_⟩
  cases e : f δ with
  | ok d δ1 =>
    rw [e] at m
    have m' : Ps C O' G D (k d δ1) := m
    exact fun v G1 H1 s1 st1 rv => hQ d v G1 H1 δ1 s1 st1 rv (m'.mono s1.g)
  | exc c d δ1 => rw [e] at m; exact fun G' H' cls dd st' x => m O σ G' H' cls dd hx st' x
  | bad => rw [e] at m; exact m
theorem s_do (h : PS X (.Expr a pos) (tDrop (tD C O fa))) (hx : C.XO O := by trivial) : PS X (.Expr a pos) (tS C O O (sDo fa)) := ps_imp h fun D σ H ⟨G, δ, st, m⟩ =>
  r_out hx st m fun d v G1 H1 δ1 s1 st1 rv m1 => m1 σ G1 H1 (.refl G1) st1
theorem s_ret (ha : PE X a (tD C O fa)) (hx : C.XO O := by trivial) (hf : C.fr = false := by rfl) : PS X (.Return (some a) pos) (tS C O O1 (sRet fa)) := ps_imp (ps_ret ha) fun D σ H ⟨G, δ, st, m⟩ =>
  r_out hx st m fun d v G1 H1 δ1 s1 st1 rv m1 => m1 v G1 H1 st1.ret rv (.no hf)
theorem s_retN (hf : C.fr = false := by rfl) : PS X (.Return none pos) (tS C O O1 (sRet (eC .non))) := ps_imp ps_retN fun D σ H ⟨G, δ, st, m⟩ => m .non G H st.ret .non (.no hf)
theorem s_if {bs cs : List Stmt} (hc : PT X c (tDT C O fc)) (ha : PSs X bs (tS C O O1 ga)) (hb : PSs X cs (tS C O O1 gb)) (hx : C.XO O := by trivial) : PS X (.If c bs cs pos) (tS C O O1 (sIf fc ga gb)) := ps_imp (ps_if hc ha hb) fun D σ H ⟨G, δ, st, m⟩ => by
  refine ⟨G, δ, st, ?_⟩
  unfold sIf at m
  cases e : fc δ with
  | ok d δ1 =>
    rw [e] at m
    cases d with
    | bl b =>
      refine ⟨b, rfl, fun G' H' s1 st1 => ?_⟩
      cases b with
      | true =>
        have m' : Ps C O1 G D (ga δ1) := m
        exact iteT ⟨G', δ1, st1, m'.mono s1.g⟩
      | false =>
        have m' : Ps C O1 G D (gb δ1) := m
        exact iteF ⟨G', δ1, st1, m'.mono s1.g⟩
    | _ => exact m.elim
  | exc c d δ1 => rw [e] at m; exact fun G' H' cls dd st' x => m O σ G' H' cls dd hx st' x
  | bad => rw [e] at m; exact m
/-- slots that are set anew -/
theorem Stt.put {F : Fm} {G H : Hp} {σ : L2.St} {δ : Env} (s : Stt F O G H σ δ) {i : Nat} {v : V} {d : D} (r : Rp F.K F.cm G v d) (hi : i < σ.length) (hno : ∀ p ∈ F.own, p.1 ≠ i) : Stt F (O.filter (· ≠ i)) G H (σ.set i (some v)) (δ.set i (some d)) := by
  have mem : ∀ {j}, j ∈ O.filter (· ≠ i) ↔ j ∈ O ∧ j ≠ i := fun {j} => by simp [List.mem_filter]
  have ge : ∀ {j : Nat}, j ≠ i → (σ.set i (some v))[j]? = σ[j]? := fun {j} e => List.getElem?_set_ne (Ne.symm e)
  have gd : ∀ {j : Nat}, j ≠ i → (δ.set i (some d))[j]? = δ[j]? := fun {j} e => List.getElem?_set_ne (Ne.symm e)
  exact {
    ext := s.ext
    tabs := s.tabs
    ln := by simpa using s.ln
    le := by simpa using s.le
    sh := fun j dj hj h => by
      by_cases e : j = i
      · subst e
        rw [List.getElem?_set_self (by rw [← s.len]; exact hi)] at h
        cases h
        exact ⟨v, List.getElem?_set_self hi, r⟩
      · rw [gd e] at h
        rw [ge e]
        exact s.sh j dj (fun z => hj (mem.mpr ⟨z, e⟩)) h
    ow := fun j hj => by
      obtain ⟨hj, ne⟩ := mem.mp hj
      rw [ge ne, gd ne]
      exact s.ow j hj
    dis := fun j hj k hk a => by
      obtain ⟨hj, nj⟩ := mem.mp hj
      obtain ⟨hk, nk⟩ := mem.mp hk
      rw [ge nj, ge nk]
      exact s.dis j hj k hk a
    fix := fun p hp => ⟨mem.mpr ⟨(s.fix p hp).1, hno p hp⟩, by rw [ge (hno p hp)]; exact (s.fix p hp).2⟩ }
theorem filter_id {O : List Nat} {i : Nat} (h : i ∉ O) : O.filter (· ≠ i) = O := List.filter_eq_self.mpr fun j hj => by simp; rintro rfl; exact h hj

theorem Stt.perm {F : Fm} {G H : Hp} {σ : L2.St} {δ : Env} (s : Stt F O G H σ δ) (h : ∀ j, j ∈ O ↔ j ∈ O1) : Stt F O1 G H σ δ :=
  ⟨s.ext, s.ln, s.le, fun i d hi => s.sh i d fun z => hi ((h i).mp z), fun i hi => s.ow i ((h i).mpr hi), fun i hi j hj => s.dis i ((h i).mpr hi) j ((h j).mpr hj), fun p hp => ⟨(h _).mp (s.fix p hp).1, (s.fix p hp).2⟩, s.tabs⟩
theorem Stt.putOwn {F : Fm} {G H : Hp} {σ : L2.St} {δ : Env} (s : Stt F O G H σ δ) {i : Nat} {p : Addr} {d : D} (n : G p = none) (nf : F.H p = none) (no : ∀ j ∈ O, σ[j]? ≠ some (some (V.ref p))) (o : OwnAt F.K F.cm G H p d) (hi : i < σ.length) (hno : ∀ p ∈ F.own, p.1 ≠ i) :
    Stt F (i :: O.filter (· ≠ i)) G H (σ.set i (some (.ref p))) (δ.set i (some d)) := by
  have mem : ∀ {j}, j ∈ i :: O.filter (· ≠ i) ↔ j = i ∨ (j ∈ O ∧ j ≠ i) := fun {j} => by simp [List.mem_filter]
  have ge : ∀ {j : Nat} {v : Option V}, j ≠ i → (σ.set i v)[j]? = σ[j]? := fun {j _} e => List.getElem?_set_ne (Ne.symm e)
  have gd : ∀ {j : Nat} {v : Option D}, j ≠ i → (δ.set i v)[j]? = δ[j]? := fun {j _} e => List.getElem?_set_ne (Ne.symm e)
  have hs : (σ.set i (some (.ref p)))[i]? = some (some (V.ref p)) := List.getElem?_set_self hi
  exact {
    ext := s.ext
    tabs := s.tabs
    ln := by simpa using s.ln
    le := by simpa using s.le
    sh := fun j dj hj h => by
      have ne : j ≠ i := fun e => hj (mem.mpr (.inl e))
      rw [gd ne] at h
      rw [ge ne]
      exact s.sh j dj (fun z => hj (mem.mpr (.inr ⟨z, ne⟩))) h
    ow := fun j hj => by
      rcases mem.mp hj with rfl | ⟨hj, ne⟩
      · exact ⟨p, d, hs, List.getElem?_set_self (by rw [← s.len]; exact hi), n, o, .inl nf⟩
      · rw [ge ne, gd ne]
        exact s.ow j hj
    dis := fun j hj0 k hk0 a hja hka => by
      rcases mem.mp hj0 with rfl | ⟨hj, nj⟩
      · rcases mem.mp hk0 with rfl | ⟨hk, nk⟩
        · rfl
        · rw [hs] at hja
          cases hja
          rw [ge nk] at hka
          exact absurd hka (no k hk)
      · rw [ge nj] at hja
        rcases mem.mp hk0 with e | ⟨hk, nk⟩
        · subst e
          rw [hs] at hka
          cases hka
          exact absurd hja (no j hj)
        · rw [ge nk] at hka
          exact s.dis j hj k hk a hja hka
    fix := fun q hq => ⟨mem.mpr (.inr ⟨(s.fix q hq).1, hno q hq⟩), by rw [ge (hno q hq)]; exact (s.fix q hq).2⟩ }
/-- slot i, the def's own until here, is known from now on -/
theorem ts_frz {i : Nat} {ns : List Nat} (hi : i ∈ O) (hn : C.F.ns = ns) (hno : i ∉ ns) (hO : O1 = O.filter (· ≠ i)) : ∀ D σ H, tS C O O2 ga D σ H → tS C O1 O2 ga D σ H := fun D σ H ⟨G, δ, st, m⟩ => by
  obtain ⟨G', s1, st'⟩ := st.freeze hi (Fm.no hn hno)
  subst hO
  exact ⟨G', δ, st', m.mono s1⟩
theorem s_frz {s : Stmt} {i : Nat} {ns : List Nat} (h : PS X s (tS C O1 O2 ga)) (hn : C.F.ns = ns) (hi : i ∈ O) (hno : i ∉ ns) (hO : O1 = O.filter (· ≠ i)) : PS X s (tS C O O2 ga) := ps_imp h (ts_frz hi hn hno hO)
theorem ss_frz {s : List Stmt} {i : Nat} {ns : List Nat} (h : PSs X s (tS C O1 O2 ga)) (hn : C.F.ns = ns) (hi : i ∈ O) (hno : i ∉ ns) (hO : O1 = O.filter (· ≠ i)) : PSs X s (tS C O O2 ga) := pss_imp h (ts_frz hi hn hno hO)
theorem ts_post {i : Nat} {ns : List Nat} (hi : i ∈ O1) (hn : C.F.ns = ns) (hno : i ∉ ns) (hO : O2 = O1.filter (· ≠ i)) : ∀ D σ H, tS C O O2 ga D σ H → tS C O O1 ga D σ H := fun D σ H ⟨G, δ, st, m⟩ => by
  refine ⟨G, δ, st, ?_⟩
  cases e : ga δ with
  | nx δ1 =>
    rw [e] at m
    intro σ' G' H' s1 st1
    obtain ⟨G2, s2, st2⟩ := st1.freeze hi (Fm.no hn hno)
    subst hO
    exact m σ' G2 H' (s1.trans s2) st2
  | rt d δ' => rw [e] at m; exact m
  | bk δ' => rw [e] at m; exact m
  | ct δ' => rw [e] at m; exact m
  | exc c d δ' => rw [e] at m; exact m
  | bad => rw [e] at m; exact m
/-- behind the statement slot i is known -/
theorem s_post {s : Stmt} {i : Nat} {ns : List Nat} (h : PS X s (tS C O O1 ga)) (hn : C.F.ns = ns) (hi : i ∈ O1) (hno : i ∉ ns) (hO : O2 = O1.filter (· ≠ i)) : PS X s (tS C O O2 ga) := ps_imp h (ts_post hi hn hno hO)
theorem ss_post {s : List Stmt} {i : Nat} {ns : List Nat} (h : PSs X s (tS C O O1 ga)) (hn : C.F.ns = ns) (hi : i ∈ O1) (hno : i ∉ ns) (hO : O2 = O1.filter (· ≠ i)) : PSs X s (tS C O O2 ga) := pss_imp h (ts_post hi hn hno hO)
theorem ts_perm (h : ∀ j, j ∈ O1 ↔ j ∈ O2) : ∀ D σ H, tS C O O2 ga D σ H → tS C O O1 ga D σ H := fun D σ H ⟨G, δ, st, m⟩ => by
  refine ⟨G, δ, st, ?_⟩
  cases e : ga δ with
  | nx δ1 => rw [e] at m; exact fun σ' G' H' s1 st1 => m σ' G' H' s1 (st1.perm h)
  | rt d δ' => rw [e] at m; exact m
  | bk δ' => rw [e] at m; exact m
  | ct δ' => rw [e] at m; exact m
  | exc c d δ' => rw [e] at m; exact m
  | bad => rw [e] at m; exact m
theorem perm_of (h : (O1.all fun j => O2.contains j) && (O2.all fun j => O1.contains j) = true) : ∀ j, j ∈ O1 ↔ j ∈ O2 := fun j => by
  simp only [Bool.and_eq_true, List.all_eq_true, decide_eq_true_eq, List.contains_iff_mem] at h
  exact ⟨h.1 j, h.2 j⟩
theorem s_perm {s : Stmt} (h : PS X s (tS C O O1 ga)) (hO : (O1.all fun j => O2.contains j) && (O2.all fun j => O1.contains j) = true) : PS X s (tS C O O2 ga) := ps_imp h (ts_perm (perm_of hO))

/-! ### targets -/
/-- data, or (b) a tuple of data, any tuple object -/
def Rq (b : Bool) (K : PySem.W.Frag) (cm : CM) (G : Hp) (v : V) (d : D) : Prop := Rp K cm G v d ∨ (b = true ∧ ∃ a xs ds, v = .ref a ∧ d = .tup ds ∧ SqT K G a xs ∧ Rps K cm G xs ds)
/-- g puts data where t says -/
def GT (b : Bool) (C : Sc) (O : List Nat) (t : Tg) (g : TG) : Prop := ∀ (v : V) (d : D) (σ : L2.St) (H G : Hp) (δ δ' : Env) (Q : L2.St → Hp → Prop), Stt C.F O G H σ δ → Rq b C.F.K C.F.cm G v d → t.put d δ = some δ' →
  (∀ σ', Stt C.F O G H σ' δ' → Q σ' H) → g v σ H Q
def GTs (C : Sc) (O : List Nat) (is : List Nat) (g : TGs) : Prop := ∀ (vs : List V) (ds : List D) (σ : L2.St) (H G : Hp) (δ δ' : Env) (Q : L2.St → Hp → Prop), Stt C.F O G H σ δ → Rps C.F.K C.F.cm G vs ds → setN is ds δ = some δ' →
  (∀ σ', Stt C.F O G H σ' δ' → Q σ' H) → g vs σ H Q
theorem own_in {F : Fm} {G H : Hp} {σ : L2.St} {δ : Env} (s : Stt F O G H σ δ) {i : Nat} (hi : i ∉ O) : ∀ p ∈ F.own, p.1 ≠ i := fun p hp e => hi (e ▸ (s.fix p hp).1)
/-- names beyond the frame's list are not there -/
def nLt (C : Sc) (n : Nat) : Prop := ∀ {O : List Nat} {G H : Hp} {σ : L2.St} {δ : Env}, Stt C.F O G H σ δ → σ.length = n
theorem put_keeps {F : Fm} {G H : Hp} {σ : L2.St} {δ : Env} (s : Stt F O G H σ δ) {i : Nat} {v : V} {d : D} (r : Rp F.K F.cm G v d) (hi : i ∉ O) : Stt F O G H (σ.set i (some v)) (δ.set i (some d)) := by
  by_cases hl : i < σ.length
  · have h := s.put r hl (own_in s hi)
    rw [filter_id hi] at h
    exact h
  · rw [List.set_eq_of_length_le (by omega), List.set_eq_of_length_le (by rw [← s.len]; omega)]
    exact s
theorem gt_n {i : Nat} (hi : i ∉ O) : GT false C O (.n i) (gName i) := fun v d σ H G δ δ' Q st r e k => by
  cases e
  rcases r with r | ⟨z, _⟩
  · exact k _ (put_keeps st r hi)
  · cases z
theorem gts_nil : GTs C O [] gNil := fun vs ds σ H G δ δ' Q st r e k => by
  cases r with
  | nil => cases e; exact ⟨rfl, k σ st⟩
  | cons _ _ => cases e
theorem gts_cons {i : Nat} {is : List Nat} {g : TGs} (hi : i ∉ O) (h : GTs C O is g) : GTs C O (i :: is) (gCons (gName i) g) := fun vs ds σ H G δ δ' Q st r e k => by
  cases r with
  | nil => cases e
  | cons r1 r2 => exact ⟨_, _, rfl, h _ _ _ _ _ _ _ _ (put_keeps st r1 hi) r2 e k⟩
theorem setN_length : ∀ {is : List Nat} {ds : List D} {δ δ' : Env}, setN is ds δ = some δ' → ds.length = is.length
  | [], [], _, _, _ => rfl
  | [], _ :: _, _, _, e => by cases e
  | _ :: _, [], _, _, e => by cases e
  | i :: is, d :: ds, δ, δ', e => congrArg (· + 1) (setN_length (δ := δ.set i (some d)) (δ' := δ') e)
theorem gt_t {b : Bool} {is : List Nat} {g : TGs} {n : Nat} (h : GTs C O is g) (hn : is.length = n) : GT b C O (.t is) (gTup C.F.K n g) := fun v d σ H G δ δ' Q st r e k => by
  have go : ∀ {a : Addr} {xs : List V} {ds : List D}, SqT C.F.K G a xs → Rps C.F.K C.F.cm G xs ds → setN is ds δ = some δ' → gTup C.F.K n g (.ref a) σ H Q := fun {a xs ds} q rs e' =>
    ⟨_, _, rfl, same_sqT st.gh q, by rw [rs.length, setN_length e', hn], h _ _ _ _ _ _ _ _ st rs e' k⟩
  rcases r with r | ⟨_, a, xs, ds, rfl, rfl, q, rs⟩
  · cases r with
    | tup q rs => exact go q.sq rs e
    | _ => cases e
  · exact go q rs e
/-- x = e -/
theorem s_asg {tg : Expr} {t : Tg} {g : TG} (h : PS X (.Assign [tg] a pos) (tAsg (tD C O fa) g)) (ht : GT false C O t g) (hx : C.XO O := by trivial) : PS X (.Assign [tg] a pos) (tS C O O (sAsg t fa)) := ps_imp h fun D σ H ⟨G, δ, st, m⟩ =>
  r_out hx st m fun d v G1 H1 δ1 s1 st1 rv m1 => by
    cases e : t.put d δ1 with
    | none => rw [e] at m1; exact m1.elim
    | some δ2 =>
      rw [e] at m1
      exact ht v d σ H1 G1 δ1 δ2 _ st1 (.inl rv) e fun σ' st2 => m1 σ' G1 H1 (.refl G1) st2
/-- x = a new list, x the def's own from here on -/
theorem s_asgN {tg : Expr} {i n : Nat} {ns : List Nat} (h : PS X (.Assign [tg] a pos) (tAsg (tN C O fa) (gName i))) (hn : C.F.ns = ns) (hno : i ∉ ns) (hm : C.F.n = n) (hl : i < n) (hO : O1 = i :: O.filter (· ≠ i)) (hx : C.XO O := by trivial) :
    PS X (.Assign [tg] a pos) (tS C O O1 (sAsg (.n i) fa)) := ps_imp h fun D σ H ⟨G, δ, st, m⟩ => by
  subst hO
  refine ⟨G, δ, st, ?_⟩
  unfold sAsg at m
  cases e : fa δ with
  | ok d δ1 =>
    rw [e] at m
    have m' : Ps C (i :: O.filter (· ≠ i)) G D (.nx (δ1.set i (some d))) := m
    intro p G1 H1 s1 st1 n hp o
    obtain ⟨_, _, nf, no⟩ := fresh_facts (u := .own p) st hp
    exact m' _ G1 H1 s1.g (st1.putOwn n nf no o (by rw [st1.ln, hm]; exact hl) (Fm.no hn hno))
  | exc c d δ1 => rw [e] at m; exact fun G' H' cls dd st' x => m O σ G' H' cls dd hx st' x
  | bad => rw [e] at m; exact m
end
end Mi

end
section
set_option Elab.async false
set_option linter.all false
set_option maxRecDepth 100000
set_option autoImplicit false
set_option maxHeartbeats 4000000
namespace Mi
open PySem PySem.Spec PyProof.Rows L2

/-! ### iterators that give out new tuples -/
/-- n turns over sources that Src tells; turn i gives a new tuple of values that Yv i tells -/
def Jt (Src : Hp → Prop) (n : Nat) (Yv : Nat → List V → Prop) : It :=
  ⟨fun i H => Src H ∧ i < n, fun i H v H' => ∃ T vals, v = .ref T ∧ H T = none ∧ H' = upd H T (.tup vals) ∧ Yv i vals, fun i H => Src H ∧ i = n⟩
/-- such an iterator by the library's GoesN, given anew at each state -/
theorem turn_of {P : Program} {w : World} {K : PySem.W.Frag} {elts : List Expr} {kk : Nat} {tpos : Pos} {Src : Hp → Prop} {n : Nat} {Yv : Nat → List V → Prop} {I : Addr} {fp : List Addr} {tn : Nat → Heap → Prop}
    (mem : I ∈ fp) (obj : ∀ i h, tn i h → ∀ b ∈ fp, ∃ o, h.get? b = some o ∧ ∀ v, o.data ≠ .cell v) (keep : ∀ i h h', tn i h → (∀ b ∈ fp, ∀ o, h.get? b = some o → h'.get? b = some o) → tn i h')
    (self : ∀ (A : Around) (i : Nat) (s : Shared) (Q : Value → Shared → Prop) (E : Value → Shared → Prop), tn i s.heap → Q (.ref I) s → wpAny (model P w) A (pyIter (.ref I)) Q E s)
    (mk : ∀ (X : Cx), X.prog = P → X.w = w → X.K = K → X.calm = true → ∀ (pins : List (Addr × Obj)) (s : Shared) (σ : L2.St) (H : Hp), Inv X pins σ H s → Src H →
      ∃ (fp' wr : List Addr) (St' : Nat → Heap → Prop) (Y : Nat → Heap → Value → Heap → Prop), GoesN P w X.A (.Tuple elts kk tpos) I fp' wr n Y St' ∧ (∀ b ∈ wr, b ∈ fp) ∧ (∀ i, tn i s.heap → St' i s.heap) ∧ (∀ i h, St' i h → tn i h) ∧
        ∀ i h0 v h, Y i h0 v h → ∃ T vals us, v = .ref T ∧ h0.objs.size ≤ T ∧ h.IsTuple T us ∧ Vals vals us.toList ∧ vals.length ≤ sizeLine ∧ Yv i vals) :
    Turn P w K (.Tuple elts kk tpos) (Jt Src n Yv) fp I tn where
  mem := mem
  obj := obj
  keep := keep
  item := by
    intro X hP hw hK hc i pins s σ H E J hf st hg
    obtain ⟨src, hi⟩ := hg
    obtain ⟨fp', wr, St', Y, W, hwr, t1, t2, hY⟩ := mk X hP hw hK hc pins s σ H J src
    refine W.goes i s (fun v s2 => ∃ x H', Inv X pins σ H' s2 ∧ RelV x v ∧ (Jt Src n Yv).yld i H x H' ∧ tn (i + 1) s2.heap ∧ ∀ b ∈ fp, H' b = none) E hi (t1 i st) fun v h' tk y st' hk _ => ?_
    obtain ⟨T, vals, us, ev, hT, tup, rv, hz, yv⟩ := hY i _ v h' y
    subst ev hP hw
    have hn : H T = none := J.hok.fresh hT
    have new : ObjOk X.prog X.w (upd H T (.tup vals)) h' T (.tup vals) := ⟨hz, us.toList, rv, by simpa using (show IsTup h' T us from tup)⟩
    refine ⟨.ref T, upd H T (.tup vals), J.turnedNew (fun b o hb e => hk b o (fun z => hb (hwr b z)) e) hf hT new, rfl, ⟨T, vals, rfl, hn, rfl, yv⟩, t2 _ _ st', fun b hb => ?_⟩
    obtain ⟨o, ho, _⟩ := obj i _ st b hb
    rw [upd_ne (Nat.ne_of_lt (Nat.lt_of_lt_of_le (Heap.lt_size ho) hT))]
    exact (hf b hb).1
  done := by
    intro X hP hw hK hc i pins s σ H E J hf st hg
    obtain ⟨src, hi⟩ := hg
    subst hi
    obtain ⟨fp', wr, St', Y, W, hwr, t1, t2, hY⟩ := mk X hP hw hK hc pins s σ H J src
    refine W.stops s (fun s1 => Inv X pins σ H s1) E (t1 _ st) fun h' tk hk _ => ?_
    exact J.turnedL (fun b o hb e => hk b o (fun z => hb (hwr b z)) e) hf
  self := self
theorem walk_jt {Src : Hp → Prop} {n : Nat} {Yv : Nat → List V → Prop} : Walk (Jt Src n Yv) n Src (fun i H v H' => ∃ T vals, v = .ref T ∧ H T = none ∧ H' = upd H T (.tup vals) ∧ Yv i vals) :=
  ⟨fun _ _ hi g => ⟨g, hi⟩, fun _ g => ⟨g, rfl⟩, fun _ _ _ _ _ _ y => y⟩

/-! ### a list or a tuple as a source -/
def SqA (K : PySem.W.Frag) (H : Hp) (a : Addr) (xs : List V) : Bool → Prop
  | true => SqL K H a xs
  | false => SqT K H a xs
theorem SqA.mono {K : PySem.W.Frag} {H H' : Hp} {a : Addr} {xs : List V} {b : Bool} (e : Same H H') (h : SqA K H a xs b) : SqA K H' a xs b := by
  cases b with
  | true => exact e.seq h
  | false => exact same_sqT e h
/-- the iterator at it over it, behind i items -/
def ItAt (h : Heap) (it a : Addr) (i : Nat) : Bool → Prop
  | true => h.IsListIter it a i
  | false => h.IsTupleIter it a i
def itObj (a : Addr) : Bool → Obj
  | true => { cls := .type "list_iterator", data := .fields #[.ref a, .int 0 0] }
  | false => { cls := .type "tuple_iterator", data := .fields #[.ref a, .int 0 0] }
theorem ItAt.at {h h' : Heap} {it a : Addr} {i : Nat} {b : Bool} (x : ItAt h it a i b) (k : ∀ o, h.get? it = some o → h'.get? it = some o) : ItAt h' it a i b := by
  cases b with
  | true => exact Heap.IsListIter.at x k
  | false => exact Heap.IsTupleIter.at x k
theorem ItAt.ob {h : Heap} {it a : Addr} {i : Nat} {b : Bool} (x : ItAt h it a i b) : ∃ o, h.get? it = some o ∧ ∀ v, o.data ≠ .cell v := by
  cases b with
  | true =>
    obtain ⟨o, e, c, d⟩ := x
    exact ⟨o, e, fun v z => by rw [d] at z; cases z⟩
  | false =>
    obtain ⟨o, e, c, d⟩ := x
    exact ⟨o, e, fun v z => by rw [d] at z; cases z⟩
section
variable {X : Cx} {pins : List (Addr × Obj)} {σ : L2.St} {H : Hp} {s : Shared}
/-- what is drawn from it -/
theorem draws_of (I : Inv X pins σ H s) (hc : X.calm = true) {a it : Addr} {xs : List V} {b : Bool} (h : SqA X.K H a xs b) (hne : a ≠ it) :
    ∃ (us : List Value) (fp : List Addr) (St' : Nat → Heap → Prop), Vals xs us ∧ us.length = xs.length ∧ a < s.heap.objs.size ∧ fp = [it, a] ∧ Draws X.prog X.w X.A.in1 it fp us.length (fun i v => us[i]? = some v) St' ∧
      (∀ i h', ItAt h' it a i b → (∀ o, s.heap.get? a = some o → h'.get? a = some o) → St' i h') ∧ ∀ i h', St' i h' → ItAt h' it a i b := by
  have hd : X.A.in1.handled = none := I.ok.hd hc
  cases b with
  | true =>
    obtain ⟨us, rv, p, _⟩ := I.list h
    have D := Draws.list (prog := X.prog) (w := X.w) hd it a hne us.toArray
    have hl : a < s.heap.objs.size := by obtain ⟨o, _, e, _⟩ := p; exact Heap.lt_size e
    rw [show us.toArray.size = us.length from by simp] at D
    exact ⟨us, [it, a], fun i h => h.IsListIter it a i ∧ h.IsList a us.toArray, rv, rv.length.symm, hl, rfl, by simpa using D, fun i h' x k => ⟨x, p.isList.at k⟩, fun i h' x => x.1⟩
  | false =>
    obtain ⟨us, rv, p, _⟩ := I.tuple h
    have D := Draws.tuple (prog := X.prog) (w := X.w) hd it a hne us.toArray
    have hl : a < s.heap.objs.size := p.lt
    rw [show us.toArray.size = us.length from by simp] at D
    exact ⟨us, [it, a], fun i h => h.IsTupleIter it a i ∧ h.IsTuple a us.toArray, rv, rv.length.symm, hl, rfl, by simpa using D, fun i h' x k => ⟨x, Heap.IsTuple.at (show s.heap.IsTuple a us.toArray from p) k⟩, fun i h' x => x.1⟩
theorem begins_of (I : Inv X pins σ H s) {a : Addr} {xs : List V} {b : Bool} (h : SqA X.K H a xs b) : ∃ Hb : Heap → Prop, Begins (.ref a) (itObj a b) Hb ∧ Hb s.heap := by
  cases b with
  | true =>
    obtain ⟨us, rv, p, _⟩ := I.list h
    exact ⟨_, begins_list a us.toArray, p.isList⟩
  | false =>
    obtain ⟨us, rv, p, _⟩ := I.tuple h
    exact ⟨_, begins_tuple a us.toArray, (show s.heap.IsTuple a us.toArray from p)⟩
theorem itAt_new {h : Heap} {it a : Addr} {b : Bool} (e : h.get? it = some (itObj a b)) : ItAt h it a 0 b := by
  cases b with
  | true => exact ⟨_, e, rfl, rfl⟩
  | false => exact ⟨_, e, rfl, rfl⟩

/-! ### enumerate(list or tuple) -/
set_option maxHeartbeats 4000000 in
theorem meets_enum1 {v : Value} {ob : Obj} {Hb : Heap → Prop} (B : Begins v ob Hb) :
    Meets (Builtin.«enumerate.__new__» ⟨[.type "enumerate", v], []⟩) (fun _ R s => Hb s.heap ∧ R (.ok (.ret (.ref (s.heap.push ob).objs.size)))
        { s with heap := (s.heap.push ob).push { cls := .type "enumerate", data := .fields #[.none, .bool false, .ref s.heap.objs.size, rawInt 0, .none, .none] } }) :=
  .of_wp fun prog w A R s hx => by
    obtain ⟨hp, gg, dd, tk, os⟩ := s
    obtain ⟨hb1, hx⟩ := hx
    have hsub := sub_enumerate
    have q1 : ∀ {A' : Around} {E' : Value → Shared → Prop} {Q' : Value → Shared → Prop}, Q' (.ref hp.objs.size) ⟨hp.push ob, gg, dd, tk, os⟩ → wpAny (model prog w) A' (pyIter v) Q' E' ⟨hp, gg, dd, tk, os⟩ :=
      fun q => B.iter prog w _ _ ⟨hp, gg, dd, tk, os⟩ _ hb1 q
    wp_walk using q1
    refine wpAny_stack_any fun stk => wpAny_pure ?_
    split
    · rename_i cc _ _ _ _ _
      cases (cc == Value.type "enumerate")
      all_goals
        wp_walk using q1
        exact ⟨_, rfl, hx⟩
    · wp_walk using q1
      exact ⟨_, rfl, hx⟩
theorem call_enum1 {prog : Program} {w : World} {A : Around} {E : Value → Shared → Prop} {s : Shared} {v : Value} {ob : Obj} {Hb : Heap → Prop} {Q : Value → Shared → Prop} (B : Begins v ob Hb) (h1 : Hb s.heap)
    (h : ∀ h', IsEnum h' (s.heap.objs.size + 1) s.heap.objs.size 0 .none → h'.get? s.heap.objs.size = some ob → (∀ b o, s.heap.get? b = some o → h'.get? b = some o) → Q (.ref (s.heap.objs.size + 1)) { s with heap := h' }) :
    wpAny (model prog w) A (call (.type "enumerate") [v]) Q E s := by
  refine callType_new F.called_enumerate (by decide) (F.typeCall_enumerate_1 _) (F.newCall_enumerate_1 _) (fun obj => F.args_object_init_2 obj _) F.entry_enumerate_new (meets_enum1 B) ⟨h1, ?_⟩
  have hz : (s.heap.push ob).objs.size = s.heap.objs.size + 1 := Heap.size_push ..
  show _ ∧ _
  rw [hz]
  have he : IsEnum ((s.heap.push ob).push { cls := .type "enumerate", data := .fields #[.none, .bool false, .ref s.heap.objs.size, rawInt 0, .none, .none] }) (s.heap.objs.size + 1) s.heap.objs.size 0 .none := by
    have := Heap.get?_push_size (s.heap.push ob) (o := { cls := .type "enumerate", data := .fields #[.none, .bool false, .ref s.heap.objs.size, rawInt 0, .none, .none] }) rfl
    rw [hz] at this
    exact this
  exact ⟨⟨_, he, rfl⟩, h _ he (Heap.get?_push_of_some _ (Heap.get?_push_size _ B.free)) fun b o x => Heap.get?_push_of_some _ (Heap.get?_push_of_some _ x)⟩
def Jenum (K : PySem.W.Frag) (a : Addr) (xs : List V) (b : Bool) : It := Jt (fun H => SqA K H a xs b) xs.length fun i vals => ∃ x, xs[i]? = some x ∧ vals = [.int (i : Nat), x]
theorem turn_enum1 {P : Program} {w : World} {K : PySem.W.Frag} {elts : List Expr} {kk : Nat} {tpos : Pos} {a e it : Addr} {xs : List V} {b : Bool} {base : Heap} (hei : e ≠ it) (hae : a ≠ e) (hai : a ≠ it) :
    Turn P w K (.Tuple elts kk tpos) (Jenum K a xs b) [e, it] e (fun i h => (∃ old, IsEnum h e it ((i : Nat) : Int) old) ∧ ItAt h it a i b) := by
  refine turn_of (by simp) (fun i h st c hc => ?_) (fun i h h' st k => ?_) (fun A i s Q E st h => ?_) fun X hP hw hK hc pins s σ H I src => ?_
  · obtain ⟨⟨old, he⟩, hi⟩ := st
    have e' : c = e ∨ c = it := by simpa using hc
    rcases e' with z | z
    · rw [z]; exact ⟨_, he, fun v q => nomatch q⟩
    · rw [z]; exact hi.ob
  · obtain ⟨⟨old, he⟩, hi⟩ := st
    exact ⟨⟨old, k e (by simp) _ he⟩, hi.at fun o q => k it (by simp) o q⟩
  · obtain ⟨⟨_, he⟩, _⟩ := st
    exact wpAny_pyIter_enum he h
  · subst hP hw hK
    obtain ⟨us, fp, St', rv, hl, hlt, efp, Dr, s1, s2⟩ := draws_of I hc src hai
    subst efp
    have W := GoesN.enumFrom (elts := elts) (x1 := kk) (pos := tpos) 0 Dr e hei (by simp [hei]; exact fun z => hae z.symm) (by simp)
    rw [hl] at W
    refine ⟨_, _, _, _, W, fun _ z => z, fun i st => ?_, fun i h st => ?_, fun i h0 v h y => ?_⟩
    · obtain ⟨⟨old, he⟩, hi⟩ := st
      exact ⟨⟨old, by simpa using he⟩, s1 i _ hi fun o q => q⟩
    · obtain ⟨⟨old, he⟩, hi⟩ := st
      exact ⟨⟨old, by simpa using he⟩, s2 i _ hi⟩
    · obtain ⟨T, t, x, ev, hT, hx, tup⟩ := y
      have hlen : i < xs.length := by
        rw [← hl]
        exact (List.getElem?_eq_some_iff.mp hx).1
      obtain ⟨u, hu, ru⟩ := rv.get (List.getElem?_eq_getElem hlen)
      rw [hx] at hu
      cases hu
      refine ⟨T, [.int (i : Nat), xs[i]], _, ev, hT, tup, .cons ⟨t, by simp⟩ (.cons ru .nil), (by show 2 ≤ sizeLine; decide), _, List.getElem?_eq_getElem hlen, rfl⟩

def iEn (K : PySem.W.Frag) (ta : TA) : TI := fun σ H R => ta σ H fun vs H1 => ∃ a xs b, vs = [.ref a] ∧ SqA K H1 a xs b ∧ R (Jenum K a xs b) H1
theorem pi_en {X : Cx} {e : Expr} {ta : TA} {p pos tpos : Pos} {elts : List Expr} {kk : Nat} (hg : Gl X "enumerate") (hm : X.mg "enumerate" = none) (ha : PA X [e] ta) (hs : starEach [e] X.env = [(false, eval e X.env)] := by rfl) :
    PI X (.Tuple elts kk tpos) (.Call (.Name "enumerate" p) [e] [] pos) (iEn X.K ta) := by
  refine ⟨fun pins s σ H R I h => ?_⟩
  refine Call_ (ld_blt I hg hm boot_enumerate (PyProof.Rows.callWith_type1 (thn (ha.run pos pins s σ H _ I h) fun us s1 ⟨vs, H1, I1, r1, q1⟩ => ?_) hs rfl))
  obtain ⟨a, xs, b, ex, hq, q⟩ := q1
  subst ex
  cases r1 with
  | cons r rr =>
    cases rr
    cases r
    obtain ⟨Hb, B, hb⟩ := begins_of I1 hq
    have hlt : a < s1.heap.objs.size := by
      cases b with
      | true => obtain ⟨_, _, p, _⟩ := I1.list hq; obtain ⟨o, _, e, _⟩ := p; exact Heap.lt_size e
      | false => obtain ⟨_, _, p, _⟩ := I1.tuple hq; exact p.lt
    refine call_enum1 B hb fun h' he hit hk => wpAny_pyIter_enum he ?_
    have I2 : Inv X pins σ H1 { s1 with heap := h' } := I1.kept (t' := s1.toks) hk
    refine ⟨s1.heap.objs.size + 1, [s1.heap.objs.size + 1, s1.heap.objs.size], _, _, H1, rfl, I2, turn_enum1 (base := X.base) (Nat.succ_ne_self _) (Nat.ne_of_lt (Nat.lt_succ_of_lt hlt)) (Nat.ne_of_lt hlt), ⟨⟨.none, he⟩, itAt_new hit⟩, fun c hc => ?_, q⟩
    have e' : c = s1.heap.objs.size + 1 ∨ c = s1.heap.objs.size := by simpa using hc
    have hle : s1.heap.objs.size ≤ c := by
      rcases e' with z | z
      · rw [z]; exact Nat.le_add_right _ _
      · rw [z]; exact Nat.le_refl _
    exact I1.fpOk hle (I1.hok.fresh hle)

/-! ### zip of two, of three, lists and tuples -/
theorem lt_of_sq {X : Cx} {pins : List (Addr × Obj)} {σ : L2.St} {H : Hp} {s : Shared} (I : Inv X pins σ H s) {a : Addr} {xs : List V} {b : Bool} (hq : SqA X.K H a xs b) : a < s.heap.objs.size := by
  cases b with
  | true => obtain ⟨_, _, p, _⟩ := I.list hq; obtain ⟨o, _, e, _⟩ := p; exact Heap.lt_size e
  | false => obtain ⟨_, _, p, _⟩ := I.tuple hq; exact p.lt
theorem val_at {xs : List V} {us : List Value} (rv : Vals xs us) (hl : us.length = xs.length) {i : Nat} {x : Value} (hx : us[i]? = some x) : ∃ v, xs[i]? = some v ∧ RelV v x := by
  have hlen : i < xs.length := by
    rw [← hl]
    exact (List.getElem?_eq_some_iff.mp hx).1
  obtain ⟨u, hu, ru⟩ := rv.get (List.getElem?_eq_getElem hlen)
  rw [hx] at hu
  cases hu
  exact ⟨_, List.getElem?_eq_getElem hlen, ru⟩
def Jz2 (K : PySem.W.Frag) (a1 a2 : Addr) (x1 x2 : List V) (b1 b2 : Bool) : It := Jt (fun H => SqA K H a1 x1 b1 ∧ SqA K H a2 x2 b2) (min x1.length x2.length) fun i vals => ∃ x y, x1[i]? = some x ∧ x2[i]? = some y ∧ vals = [x, y]
theorem turn_z2 {P : Program} {w : World} {K : PySem.W.Frag} {elts : List Expr} {kk : Nat} {tpos : Pos} {a1 a2 : Addr} {x1 x2 : List V} {b1 b2 : Bool} {N : Nat} (l1 : a1 < N) (l2 : a2 < N) :
    Turn P w K (.Tuple elts kk tpos) (Jz2 K a1 a2 x1 x2 b1 b2) [N + 4, N + 2, N + 3, N, N + 1] (N + 4) (fun i h => IsZip h (N + 4) (N + 2) (N + 3) .none ∧ IsTupOf2 h (N + 2) (.ref N) (.ref (N + 1)) ∧ (∃ c1 c2, IsTupOf2 h (N + 3) c1 c2) ∧ ItAt h N a1 i b1 ∧ ItAt h (N + 1) a2 i b2) := by
  refine turn_of (by simp) (fun i h st c hc => ?_) (fun i h h' st k => ?_) (fun A i s Q E st h => ?_) fun X hP hw hK hc pins s σ H I src => ?_
  · obtain ⟨hz, hTI, ⟨c1, c2, hTO⟩, h1, h2⟩ := st
    have e' : c = N + 4 ∨ c = N + 2 ∨ c = N + 3 ∨ c = N ∨ c = N + 1 := by simpa using hc
    rcases e' with z | z | z | z | z
    · rw [z]; exact ⟨_, hz, fun v q => nomatch q⟩
    · rw [z]; exact ⟨_, hTI, fun v q => nomatch q⟩
    · rw [z]; exact ⟨_, hTO, fun v q => nomatch q⟩
    · rw [z]; exact h1.ob
    · rw [z]; exact h2.ob
  · obtain ⟨hz, hTI, ⟨c1, c2, hTO⟩, h1, h2⟩ := st
    exact ⟨k _ (by simp) _ hz, k _ (by simp) _ hTI, ⟨c1, c2, k _ (by simp) _ hTO⟩, h1.at fun o q => k _ (by simp) o q, h2.at fun o q => k _ (by simp) o q⟩
  · exact wpAny_pyIter_zip st.1 h
  · subst hP hw hK
    obtain ⟨us1, fp1, St1, rv1, hl1, hlt1, efp1, D1, s11, s12⟩ := draws_of I hc src.1 (it := N) (Nat.ne_of_lt l1)
    obtain ⟨us2, fp2, St2, rv2, hl2, hlt2, efp2, D2, s21, s22⟩ := draws_of I hc src.2 (it := (N + 1 : Nat)) (Nat.ne_of_lt (Nat.lt_succ_of_lt l2))
    subst efp1 efp2
    have S := zip_sep2 (N := N) (fp1 := [a1]) (fp2 := [a2]) (by simpa using l1) (by simpa using l2)
    have W := GoesN.zip2 (elts := elts) (x1 := kk) (pos := tpos) S D1 D2
    rw [hl1, hl2] at W
    refine ⟨_, _, _, _, W, fun b hb => ?_, fun i st => ?_, fun i h st => ?_, fun i h0 v h y => ?_⟩
    · simp only [List.mem_cons, List.not_mem_nil, or_false] at hb ⊢
      rcases hb with z | z | z | z <;> simp [z]
    · obtain ⟨hz, hTI, hTO, h1, h2⟩ := st
      exact ⟨hz, hTI, hTO, s11 i _ h1 fun o q => q, s21 i _ h2 fun o q => q⟩
    · obtain ⟨hz, hTI, hTO, h1, h2⟩ := st
      exact ⟨hz, hTI, hTO, s12 i _ h1, s22 i _ h2⟩
    · obtain ⟨T, x, y, ev, hT, hx, hy, tup⟩ := y
      obtain ⟨v1, e1, r1⟩ := val_at rv1 hl1 hx
      obtain ⟨v2, e2, r2⟩ := val_at rv2 hl2 hy
      exact ⟨T, [v1, v2], _, ev, hT, tup, .cons r1 (.cons r2 .nil), (by show 2 ≤ sizeLine; decide), _, _, e1, e2, rfl⟩
def iZ2 (K : PySem.W.Frag) (ta : TA) : TI := fun σ H R => ta σ H fun vs H1 => ∃ a1 a2 x1 x2 b1 b2, vs = [.ref a1, .ref a2] ∧ SqA K H1 a1 x1 b1 ∧ SqA K H1 a2 x2 b2 ∧ R (Jz2 K a1 a2 x1 x2 b1 b2) H1
theorem pi_z2 {X : Cx} {e e2 : Expr} {ta : TA} {p pos tpos : Pos} {elts : List Expr} {kk : Nat} (hg : Gl X "zip") (hm : X.mg "zip" = none) (ha : PA X [e, e2] ta)
    (hs : starEach [e, e2] X.env = (false, eval e X.env) :: starEach [e2] X.env := by rfl) (hpl : (backTo pos (starEach [e2] X.env)).any (·.1) = false := by rfl) : PI X (.Tuple elts kk tpos) (.Call (.Name "zip" p) [e, e2] [] pos) (iZ2 X.K ta) := by
  refine ⟨fun pins s σ H R I h => ?_⟩
  refine Call_ (ld_blt I hg hm PyProof.Rows.boot_zip (PyProof.Rows.callWith_type1 (thn (ha.run pos pins s σ H _ I h) fun us s1 ⟨vs, H1, I1, r1, q1⟩ => ?_) hs hpl))
  obtain ⟨a1, a2, x1, x2, b1, b2, ex, hq1, hq2, q⟩ := q1
  subst ex
  cases r1 with
  | cons r rr =>
    cases rr with
    | cons r' rr =>
      cases rr
      cases r
      cases r'
      obtain ⟨Hb1, B1, hb1⟩ := begins_of I1 hq1
      obtain ⟨Hb2, B2, hb2⟩ := begins_of I1 hq2
      refine zip_begins2 B1 B2 hb1 hb2 fun h' hz hTI hTO g1 g2 hsz hk => wpAny_pyIter_zip hz ?_
      have I2 : Inv X pins σ H1 { s1 with heap := h' } := I1.kept (t' := s1.toks) hk
      refine ⟨s1.heap.objs.size + 4, [s1.heap.objs.size + 4, s1.heap.objs.size + 2, s1.heap.objs.size + 3, s1.heap.objs.size, s1.heap.objs.size + 1], _, _, H1, rfl, I2, turn_z2 (lt_of_sq I1 hq1) (lt_of_sq I1 hq2), ⟨hz, hTI, ⟨_, _, hTO⟩, itAt_new g1, itAt_new g2⟩, fun c hcm => ?_, q⟩
      have e' : c = s1.heap.objs.size + 4 ∨ c = s1.heap.objs.size + 2 ∨ c = s1.heap.objs.size + 3 ∨ c = s1.heap.objs.size ∨ c = s1.heap.objs.size + 1 := by simpa using hcm
      have hle : s1.heap.objs.size ≤ c := by
        rcases e' with z | z | z | z | z <;> rw [z] <;> first | exact Nat.le_refl _ | exact Nat.le_add_right _ _
      exact I1.fpOk hle (I1.hok.fresh hle)
def Jz3 (K : PySem.W.Frag) (a1 a2 a3 : Addr) (x1 x2 x3 : List V) (b1 b2 b3 : Bool) : It :=
  Jt (fun H => SqA K H a1 x1 b1 ∧ SqA K H a2 x2 b2 ∧ SqA K H a3 x3 b3) (min (min x1.length x2.length) x3.length) fun i vals => ∃ x y z, x1[i]? = some x ∧ x2[i]? = some y ∧ x3[i]? = some z ∧ vals = [x, y, z]
theorem turn_z3 {P : Program} {w : World} {K : PySem.W.Frag} {elts : List Expr} {kk : Nat} {tpos : Pos} {a1 a2 a3 : Addr} {x1 x2 x3 : List V} {b1 b2 b3 : Bool} {N : Nat} (l1 : a1 < N) (l2 : a2 < N) (l3 : a3 < N) :
    Turn P w K (.Tuple elts kk tpos) (Jz3 K a1 a2 a3 x1 x2 x3 b1 b2 b3) [N + 5, N + 3, N + 4, N, N + 1, N + 2] (N + 5) (fun i h => IsZip h (N + 5) (N + 3) (N + 4) .none ∧ IsTupOf3 h (N + 3) (.ref N) (.ref (N + 1)) (.ref (N + 2)) ∧ (∃ c1 c2 c3, IsTupOf3 h (N + 4) c1 c2 c3) ∧
      ItAt h N a1 i b1 ∧ ItAt h (N + 1) a2 i b2 ∧ ItAt h (N + 2) a3 i b3) := by
  refine turn_of (by simp) (fun i h st c hc => ?_) (fun i h h' st k => ?_) (fun A i s Q E st h => ?_) fun X hP hw hK hc pins s σ H I src => ?_
  · obtain ⟨hz, hTI, ⟨c1, c2, c3, hTO⟩, h1, h2, h3⟩ := st
    have e' : c = N + 5 ∨ c = N + 3 ∨ c = N + 4 ∨ c = N ∨ c = N + 1 ∨ c = N + 2 := by simpa using hc
    rcases e' with z | z | z | z | z | z
    · rw [z]; exact ⟨_, hz, fun v q => nomatch q⟩
    · rw [z]; exact ⟨_, hTI, fun v q => nomatch q⟩
    · rw [z]; exact ⟨_, hTO, fun v q => nomatch q⟩
    · rw [z]; exact h1.ob
    · rw [z]; exact h2.ob
    · rw [z]; exact h3.ob
  · obtain ⟨hz, hTI, ⟨c1, c2, c3, hTO⟩, h1, h2, h3⟩ := st
    exact ⟨k _ (by simp) _ hz, k _ (by simp) _ hTI, ⟨c1, c2, c3, k _ (by simp) _ hTO⟩, h1.at fun o q => k _ (by simp) o q, h2.at fun o q => k _ (by simp) o q, h3.at fun o q => k _ (by simp) o q⟩
  · exact wpAny_pyIter_zip st.1 h
  · subst hP hw hK
    obtain ⟨us1, fp1, St1, rv1, hl1, hlt1, efp1, D1, s11, s12⟩ := draws_of I hc src.1 (it := N) (Nat.ne_of_lt l1)
    obtain ⟨us2, fp2, St2, rv2, hl2, hlt2, efp2, D2, s21, s22⟩ := draws_of I hc src.2.1 (it := (N + 1 : Nat)) (Nat.ne_of_lt (Nat.lt_succ_of_lt l2))
    obtain ⟨us3, fp3, St3, rv3, hl3, hlt3, efp3, D3, s31, s32⟩ := draws_of I hc src.2.2 (it := (N + 2 : Nat)) (Nat.ne_of_lt (Nat.lt_succ_of_lt (Nat.lt_succ_of_lt l3)))
    subst efp1 efp2 efp3
    have S := zip_sep3 (N := N) (fp1 := [a1]) (fp2 := [a2]) (fp3 := [a3]) (by simpa using l1) (by simpa using l2) (by simpa using l3)
    have W := GoesN.zip3 (elts := elts) (x1 := kk) (pos := tpos) S D1 D2 D3
    rw [hl1, hl2, hl3] at W
    refine ⟨_, _, _, _, W, fun b hb => ?_, fun i st => ?_, fun i h st => ?_, fun i h0 v h y => ?_⟩
    · simp only [List.mem_cons, List.not_mem_nil, or_false] at hb ⊢
      rcases hb with z | z | z | z | z <;> simp [z]
    · obtain ⟨hz, hTI, hTO, h1, h2, h3⟩ := st
      exact ⟨hz, hTI, hTO, s11 i _ h1 fun o q => q, s21 i _ h2 fun o q => q, s31 i _ h3 fun o q => q⟩
    · obtain ⟨hz, hTI, hTO, h1, h2, h3⟩ := st
      exact ⟨hz, hTI, hTO, s12 i _ h1, s22 i _ h2, s32 i _ h3⟩
    · obtain ⟨T, x, y, z, ev, hT, hx, hy, hz, tup⟩ := y
      obtain ⟨v1, e1, r1⟩ := val_at rv1 hl1 hx
      obtain ⟨v2, e2, r2⟩ := val_at rv2 hl2 hy
      obtain ⟨v3, e3, r3⟩ := val_at rv3 hl3 hz
      exact ⟨T, [v1, v2, v3], _, ev, hT, tup, .cons r1 (.cons r2 (.cons r3 .nil)), (by show 3 ≤ sizeLine; decide), _, _, _, e1, e2, e3, rfl⟩
def iZ3 (K : PySem.W.Frag) (ta : TA) : TI := fun σ H R => ta σ H fun vs H1 => ∃ a1 a2 a3 x1 x2 x3 b1 b2 b3, vs = [.ref a1, .ref a2, .ref a3] ∧ SqA K H1 a1 x1 b1 ∧ SqA K H1 a2 x2 b2 ∧ SqA K H1 a3 x3 b3 ∧ R (Jz3 K a1 a2 a3 x1 x2 x3 b1 b2 b3) H1
theorem pi_z3 {X : Cx} {e e2 e3 : Expr} {ta : TA} {p pos tpos : Pos} {elts : List Expr} {kk : Nat} (hg : Gl X "zip") (hm : X.mg "zip" = none) (ha : PA X [e, e2, e3] ta)
    (hs : starEach [e, e2, e3] X.env = (false, eval e X.env) :: starEach [e2, e3] X.env := by rfl) (hpl : (backTo pos (starEach [e2, e3] X.env)).any (·.1) = false := by rfl) : PI X (.Tuple elts kk tpos) (.Call (.Name "zip" p) [e, e2, e3] [] pos) (iZ3 X.K ta) := by
  refine ⟨fun pins s σ H R I h => ?_⟩
  refine Call_ (ld_blt I hg hm PyProof.Rows.boot_zip (PyProof.Rows.callWith_type1 (thn (ha.run pos pins s σ H _ I h) fun us s1 ⟨vs, H1, I1, r1, q1⟩ => ?_) hs hpl))
  obtain ⟨a1, a2, a3, x1, x2, x3, b1, b2, b3, ex, hq1, hq2, hq3, q⟩ := q1
  subst ex
  cases r1 with
  | cons r rr =>
    cases rr with
    | cons r' rr =>
      cases rr with
      | cons r'' rr =>
        cases rr
        cases r
        cases r'
        cases r''
        obtain ⟨Hb1, B1, hb1⟩ := begins_of I1 hq1
        obtain ⟨Hb2, B2, hb2⟩ := begins_of I1 hq2
        obtain ⟨Hb3, B3, hb3⟩ := begins_of I1 hq3
        refine zip_begins3 B1 B2 B3 hb1 hb2 hb3 fun h' hz hTI hTO g1 g2 g3 hsz hk => wpAny_pyIter_zip hz ?_
        have I2 : Inv X pins σ H1 { s1 with heap := h' } := I1.kept (t' := s1.toks) hk
        refine ⟨s1.heap.objs.size + 5, [s1.heap.objs.size + 5, s1.heap.objs.size + 3, s1.heap.objs.size + 4, s1.heap.objs.size, s1.heap.objs.size + 1, s1.heap.objs.size + 2], _, _, H1, rfl, I2, turn_z3 (lt_of_sq I1 hq1) (lt_of_sq I1 hq2) (lt_of_sq I1 hq3), ⟨hz, hTI, ⟨_, _, _, hTO⟩, itAt_new g1, itAt_new g2, itAt_new g3⟩, fun c hcm => ?_, q⟩
        have e' : c = s1.heap.objs.size + 5 ∨ c = s1.heap.objs.size + 3 ∨ c = s1.heap.objs.size + 4 ∨ c = s1.heap.objs.size ∨ c = s1.heap.objs.size + 1 ∨ c = s1.heap.objs.size + 2 := by simpa using hcm
        have hle : s1.heap.objs.size ≤ c := by
          rcases e' with z | z | z | z | z | z <;> rw [z] <;> first | exact Nat.le_refl _ | exact Nat.le_add_right _ _
        exact I1.fpOk hle (I1.hok.fresh hle)
end
end Mi

end
section
set_option Elab.async false
set_option linter.all false
set_option maxRecDepth 100000
set_option autoImplicit false
set_option maxHeartbeats 4000000
namespace Mi
open PySem PySem.Spec PyProof.Rows L2

/-! ### what is walked, as data -/
/-- J yields the items ds, from the known heap Gb on -/
def YD (b : Bool) (K : PySem.W.Frag) (cm : CM) (Gb : Hp) (ds : List D) : Nat → Hp → V → Hp → Prop := fun i H x H' => ∀ G, Same Gb G → Sg G H → ∃ G' d, ds[i]? = some d ∧ Ext cm.T [] G H G' H' ∧ Rq b K cm G' x d
def WkD (b : Bool) (K : PySem.W.Frag) (cm : CM) (J : It) (ds : List D) (Gb : Hp) : Prop := Walk J ds.length (fun H => Same Gb H) (YD b K cm Gb ds)
section
variable {K : PySem.W.Frag} {cm : CM} {Gb : Hp}
theorem wk_list {a : Addr} {xs : List V} {ds : List D} (h : SqL K Gb a xs) (r : Rps K cm Gb xs ds) : WkD false K cm (Itl K a) ds Gb where
  goes := fun i H hi g => ⟨xs, xs[i]'(by rw [r.length]; exact hi), g.seq h, by simp⟩
  stops := fun H g => ⟨xs, g.seq h, by rw [r.length]; exact Nat.le_refl _⟩
  yields := fun i H x H' hi g y G s1 s2 => by
    obtain ⟨e, y⟩ := y
    subst e
    obtain ⟨v, hv, rv⟩ := r.get (List.getElem?_eq_getElem hi)
    have := y xs (g.seq h)
    rw [hv] at this
    cases this
    exact ⟨G, _, List.getElem?_eq_getElem hi, Ext.refl s2, .inl (rv.mono s1)⟩
theorem wk_tup {a : Addr} {xs : List V} {ds : List D} (h : SqT K Gb a xs) (r : Rps K cm Gb xs ds) : WkD false K cm (Itt K a) ds Gb where
  goes := fun i H hi g => ⟨xs, xs[i]'(by rw [r.length]; exact hi), same_sqT g h, by simp⟩
  stops := fun H g => ⟨xs, same_sqT g h, by rw [r.length]; exact Nat.le_refl _⟩
  yields := fun i H x H' hi g y G s1 s2 => by
    obtain ⟨e, y⟩ := y
    subst e
    obtain ⟨v, hv, rv⟩ := r.get (List.getElem?_eq_getElem hi)
    have := y xs (same_sqT g h)
    rw [hv] at this
    cases this
    exact ⟨G, _, List.getElem?_eq_getElem hi, Ext.refl s2, .inl (rv.mono s1)⟩
theorem rng_length (lo : Int) (n : Nat) : (rng lo n).length = n := by unfold rng; simp
theorem rng_get {lo : Int} {n i : Nat} (h : i < n) : (rng lo n)[i]? = some (.int (lo + i)) := by
  unfold rng
  rw [List.getElem?_map, List.getElem?_range h]
  rfl
theorem wk_rng {lo : Int} {n : Nat} : WkD false K cm (Itr lo n) (rng lo n) Gb where
  goes := fun i H hi g => by rw [rng_length] at hi; exact hi
  stops := fun H g => by rw [rng_length]; exact Nat.le_refl _
  yields := fun i H x H' hi g y G s1 s2 => by
    obtain ⟨e, y⟩ := y
    subst e y
    rw [rng_length] at hi
    exact ⟨G, _, rng_get hi, Ext.refl s2, .inl (.int _)⟩
theorem wk_jt {Src : Hp → Prop} {n : Nat} {Yv : Nat → List V → Prop} {ds : List D} (hn : ds.length = n) (src : ∀ H, Same Gb H → Src H) (hY : ∀ i vals, Yv i vals → ∃ dd, ds[i]? = some (.tup dd) ∧ Rps K cm Gb vals dd) : WkD true K cm (Jt Src n Yv) ds Gb where
  goes := fun i H hi g => ⟨src H g, by rw [← hn]; exact hi⟩
  stops := fun H g => ⟨src H g, hn⟩
  yields := fun i H x H' hi g y G s1 s2 => by
    obtain ⟨T, vals, ev, hT, eH, yv⟩ := y
    subst ev eH
    obtain ⟨dd, hd, r⟩ := hY i vals yv
    have ex := Ext.push (T := cm.T) (o := .tup vals) s2 hT
    exact ⟨_, _, hd, ex, .inr ⟨rfl, _, _, _, rfl, rfl, SqT.of upd_same, r.mono (s1.trans ex.g)⟩⟩
theorem enumD_length : ∀ (ds : List D) (k : Nat), (enumD k ds).length = ds.length
  | [], _ => rfl
  | _ :: ds, k => congrArg (· + 1) (enumD_length ds (k + 1))
theorem enumD_get : ∀ {ds : List D} {k i : Nat} {d : D}, ds[i]? = some d → (enumD k ds)[i]? = some (.tup [.int ((k + i : Nat) : Int), d])
  | [], _, _, _, h => by simp at h
  | x :: ds, k, 0, d, h => by
    simp at h
    subst h
    rfl
  | x :: ds, k, i + 1, d, h => by
    have := enumD_get (ds := ds) (k := k + 1) (i := i) (d := d) (by simpa using h)
    rw [show k + 1 + i = k + (i + 1) by omega] at this
    simpa [enumD] using this
theorem zip2_length : ∀ (xs ys : List D), (zip2 xs ys).length = min xs.length ys.length
  | [], _ => by simp [zip2]
  | _ :: _, [] => by simp [zip2]
  | x :: xs, y :: ys => by simp [zip2, zip2_length xs ys]
theorem zip2_get : ∀ {xs ys : List D} {i : Nat} {x y : D}, xs[i]? = some x → ys[i]? = some y → (zip2 xs ys)[i]? = some (.tup [x, y])
  | [], _, _, _, _, h, _ => by simp at h
  | _ :: _, [], _, _, _, _, h => by simp at h
  | _ :: _, _ :: _, 0, _, _, h, h' => by simp at h h'; subst h; subst h'; rfl
  | _ :: xs, _ :: ys, i + 1, x, y, h, h' => by
    have := zip2_get (xs := xs) (ys := ys) (i := i) (x := x) (y := y) (by simpa using h) (by simpa using h')
    simpa [zip2] using this
theorem zip3_length : ∀ (xs ys zs : List D), (zip3 xs ys zs).length = min (min xs.length ys.length) zs.length
  | [], _, _ => by simp [zip3]
  | _ :: _, [], _ => by simp [zip3]
  | _ :: _, _ :: _, [] => by simp [zip3]
  | x :: xs, y :: ys, z :: zs => by simp [zip3, zip3_length xs ys zs]
theorem zip3_get : ∀ {xs ys zs : List D} {i : Nat} {x y z : D}, xs[i]? = some x → ys[i]? = some y → zs[i]? = some z → (zip3 xs ys zs)[i]? = some (.tup [x, y, z])
  | [], _, _, _, _, _, _, h, _, _ => by simp at h
  | _ :: _, [], _, _, _, _, _, _, h, _ => by simp at h
  | _ :: _, _ :: _, [], _, _, _, _, _, _, h => by simp at h
  | _ :: _, _ :: _, _ :: _, 0, _, _, _, h, h', h'' => by simp at h h' h''; subst h; subst h'; subst h''; rfl
  | _ :: xs, _ :: ys, _ :: zs, i + 1, x, y, z, h, h', h'' => by
    have := zip3_get (xs := xs) (ys := ys) (zs := zs) (i := i) (x := x) (y := y) (z := z) (by simpa using h) (by simpa using h') (by simpa using h'')
    simpa [zip3] using this
theorem Rps.at' : ∀ {vs : List V} {ds : List D} {i : Nat} {v : V}, Rps K cm Gb vs ds → vs[i]? = some v → ∃ d, ds[i]? = some d ∧ Rp K cm Gb v d
  | _, _, _, _, .nil, e => by simp at e
  | _, _, 0, _, .cons r _, e => by simp at e; subst e; exact ⟨_, rfl, r⟩
  | _, _, i + 1, _, .cons _ t, e => by
    obtain ⟨v, h1, h2⟩ := Rps.at' (i := i) t (by simpa using e)
    exact ⟨v, by simpa using h1, h2⟩
/-- a list or a tuple, as data -/
theorem seq_of {v : V} {d : D} {ds : List D} (r : Rp K cm Gb v d) (h : seqOf d = some ds) : ∃ a xs b, v = .ref a ∧ SqA K Gb a xs b ∧ Rps K cm Gb xs ds := by
  cases r with
  | lst q r => cases h; exact ⟨_, _, true, rfl, q, r⟩
  | tup q r => cases h; exact ⟨_, _, false, rfl, q.sq, r⟩
  | _ => cases h
theorem wk_enum {a : Addr} {xs : List V} {b : Bool} {ds : List D} (h : SqA K Gb a xs b) (r : Rps K cm Gb xs ds) : WkD true K cm (Jenum K a xs b) (enumD 0 ds) Gb :=
  wk_jt (by rw [enumD_length, r.length]) (fun H s => h.mono s) fun i vals ⟨x, hx, e⟩ => by
    subst e
    obtain ⟨d, hd, rd⟩ := r.at' hx
    exact ⟨_, enumD_get hd, .cons (by simpa using Rp.int _) (.cons rd .nil)⟩
theorem wk_z2 {a1 a2 : Addr} {x1 x2 : List V} {b1 b2 : Bool} {d1 d2 : List D} (h1 : SqA K Gb a1 x1 b1) (h2 : SqA K Gb a2 x2 b2) (r1 : Rps K cm Gb x1 d1) (r2 : Rps K cm Gb x2 d2) : WkD true K cm (Jz2 K a1 a2 x1 x2 b1 b2) (zip2 d1 d2) Gb :=
  wk_jt (by rw [zip2_length, r1.length, r2.length]) (fun H s => ⟨h1.mono s, h2.mono s⟩) fun i vals ⟨x, y, hx, hy, e⟩ => by
    subst e
    obtain ⟨d, hd, rd⟩ := r1.at' hx
    obtain ⟨d', hd', rd'⟩ := r2.at' hy
    exact ⟨_, zip2_get hd hd', .cons rd (.cons rd' .nil)⟩
theorem wk_z3 {a1 a2 a3 : Addr} {x1 x2 x3 : List V} {b1 b2 b3 : Bool} {d1 d2 d3 : List D} (h1 : SqA K Gb a1 x1 b1) (h2 : SqA K Gb a2 x2 b2) (h3 : SqA K Gb a3 x3 b3) (r1 : Rps K cm Gb x1 d1) (r2 : Rps K cm Gb x2 d2) (r3 : Rps K cm Gb x3 d3) :
    WkD true K cm (Jz3 K a1 a2 a3 x1 x2 x3 b1 b2 b3) (zip3 d1 d2 d3) Gb :=
  wk_jt (by rw [zip3_length, r1.length, r2.length, r3.length]) (fun H s => ⟨h1.mono s, h2.mono s, h3.mono s⟩) fun i vals ⟨x, y, z, hx, hy, hz, e⟩ => by
    subst e
    obtain ⟨d, hd, rd⟩ := r1.at' hx
    obtain ⟨d', hd', rd'⟩ := r2.at' hy
    obtain ⟨d'', hd'', rd''⟩ := r3.at' hz
    exact ⟨_, zip3_get hd hd' hd'', .cons rd (.cons rd' (.cons rd'' .nil))⟩
end
def tI (b : Bool) (C : Sc) (O : List Nat) (f : ItE) : TI := fun σ H R => ∃ G δ, Stt C.F O G H σ δ ∧ match f δ with
  | .ok ds δ' => ∀ J G' H', Ext C.F.cm.T (ownS O σ) G H G' H' → Stt C.F O G' H' σ δ' → WkD b C.F.K C.F.cm J ds G' → R J H'
  | .exc c d δ' => ∀ G' H' cls dd, Stt C.F O G' H' σ δ' → XRp C G' c d cls dd → C.W cls dd σ H'
  | .bad => False
theorem pi_imp {X : Cx} {tg e : Expr} {t t' : TI} (h : PI X tg e t) (i : ∀ σ H Q, t' σ H Q → t σ H Q) : PI X tg e t' := ⟨fun pins s σ H Q I w => h.run pins s σ H Q I (i _ _ _ w)⟩
theorem pi_or {X : Cx} {tg e : Expr} {t t' : TI} (h : PI X tg e t) (h' : PI X tg e t') : PI X tg e (fun σ H R => t σ H R ∨ t' σ H R) := ⟨fun pins s σ H Q I w => w.elim (fun w => h.run pins s σ H Q I w) fun w => h'.run pins s σ H Q I w⟩
section
variable {X : Cx} {C : Sc} {O : List Nat} {a b c tg : Expr} {fa fb fc : Ex} {pos p : Pos}
/-- for x in a list or a tuple -/
theorem i_seq (hK : C.F.K = X.K) (h : PE X a (tD C O fa)) : PI X tg a (tI false C O (iSeq fa)) := pi_imp (pi_or (pi_list h) (pi_tup h)) fun σ H R ⟨G, δ, st, m⟩ => by
  unfold iSeq at m
  cases e : fa δ with
  | ok d δ1 =>
    rw [e, Res.bind_ok] at m
    cases es : seqOf d with
    | none => rw [es] at m; exact m.elim
    | some ds =>
      rw [es] at m
      have m' : ∀ J G' H', Ext C.F.cm.T (ownS O σ) G H G' H' → Stt C.F O G' H' σ δ1 → WkD false C.F.K C.F.cm J ds G' → R J H' := m
      cases d with
      | lst ds' =>
        cases es
        refine .inl ⟨G, δ, st, ?_⟩
        rw [e]
        intro v G1 H1 s1 st1 rv
        cases rv with
        | lst q r => exact ⟨_, rfl, ⟨_, hK ▸ st1.gh.seq q⟩, hK ▸ m' _ G1 H1 s1 st1 (wk_list q r)⟩
      | tup ds' =>
        cases es
        refine .inr ⟨G, δ, st, ?_⟩
        rw [e]
        intro v G1 H1 s1 st1 rv
        cases rv with
        | tup q r => exact ⟨_, rfl, ⟨_, hK ▸ same_sqT st1.gh q.sq⟩, hK ▸ m' _ G1 H1 s1 st1 (wk_tup q.sq r)⟩
      | _ => cases es
  | exc c d δ' =>
    rw [e] at m
    exact .inl ⟨G, δ, st, by rw [e]; exact m⟩
  | bad => rw [e] at m; exact m.elim
theorem a_one {f : Ex} {σ : L2.St} {H : Hp} {Q : List V → Hp → Prop} (h : tD C O f σ H fun x H' => Q [x] H') : tCons (tD C O f) tNil σ H Q := h
/-- range(a): the number below 2^62 -/
theorem i_rng (hg : Gl X "range") (hm : X.mg "range" = none) (h : PA X [a] (tCons (tD C O fa) tNil)) (hs : starEach [a] X.env = [(false, eval a X.env)] := by rfl) : PI X tg (.Call (.Name "range" p) [a] [] pos) (tI false C O (iRng fa)) :=
  pi_imp (pi_range1 hg hm h hs) fun σ H R ⟨G, δ, st, m⟩ => by
    refine a_one ⟨G, δ, st, ?_⟩
    unfold iRng at m
    cases e : fa δ with
    | ok d δ1 =>
      rw [e, Res.bind_ok] at m
      intro v G1 H1 s1 st1 rv
      cases rv with
      | int i =>
        by_cases hi : -(2 ^ 62) ≤ i ∧ i < 2 ^ 62
        · refine ⟨i, rfl, hi.1, hi.2, ?_⟩
          have e2 : smInt (.int i) = some i := smInt_iff hi
          rw [e2] at m
          exact m _ G1 H1 s1 st1 wk_rng
        · have e2 : smInt (.int i) = none := by rw [← b62_eq] at hi; unfold smInt; simp only; rw [if_neg hi]
          rw [e2] at m
          exact m.elim
      | _ => exact m.elim
    | exc c d δ' => rw [e] at m; exact m
    | bad => rw [e] at m; exact m
theorem i_rng2 (hg : Gl X "range") (hm : X.mg "range" = none) (h : PA X [a, b] (tCons (tD C O fa) (tCons (tD C O fb) tNil))) (hs : starEach [a, b] X.env = [(false, eval a X.env), (false, eval b X.env)] := by rfl) (hs2 : starEach [b] X.env = [(false, eval b X.env)] := by rfl) :
    PI X tg (.Call (.Name "range" p) [a, b] [] pos) (tI false C O (iRng2 fa fb)) :=
  pi_imp (pi_range2 hg hm h hs hs2) fun σ H R ⟨G, δ, st, m⟩ => by
    show tD C O fa σ H _
    refine ⟨G, δ, st, ?_⟩
    unfold iRng2 at m
    cases e : fa δ with
    | ok d δ1 =>
      rw [e, Res.bind_ok] at m
      intro v G1 H1 s1 st1 rv
      refine ⟨G1, δ1, st1, ?_⟩
      cases eb : fb δ1 with
      | ok d2 δ2 =>
        rw [eb, Res.bind_ok] at m
        intro w G2 H2 s2 st2 rw2
        cases e1 : smInt d with
        | none => rw [e1] at m; exact m.elim
        | some i =>
          cases e3 : smInt d2 with
          | none => rw [e1, e3] at m; exact m.elim
          | some j =>
            rw [e1, e3] at m
            obtain ⟨rfl, l1, l2⟩ := smInt_of e1
            obtain ⟨rfl, l3, l4⟩ := smInt_of e3
            cases rv
            cases rw2
            exact ⟨i, j, rfl, ⟨l1, l2, l3, l4⟩, m _ G2 H2 (s1.thn s2) st2 wk_rng⟩
      | exc c d δ' => rw [eb] at m; exact m
      | bad => rw [eb] at m; exact m
    | exc c d δ' => rw [e] at m; exact m
    | bad => rw [e] at m; exact m
theorem i_enum {elts : List Expr} {kk : Nat} {tpos : Pos} (hK : C.F.K = X.K) (hg : Gl X "enumerate") (hm : X.mg "enumerate" = none) (h : PA X [a] (tCons (tD C O fa) tNil)) (hs : starEach [a] X.env = [(false, eval a X.env)] := by rfl) :
    PI X (.Tuple elts kk tpos) (.Call (.Name "enumerate" p) [a] [] pos) (tI true C O (iEnum fa)) :=
  pi_imp (pi_en hg hm h hs) fun σ H R ⟨G, δ, st, m⟩ => by
    refine a_one ⟨G, δ, st, ?_⟩
    unfold iEnum at m
    cases e : fa δ with
    | ok d δ1 =>
      rw [e, Res.bind_ok] at m
      intro v G1 H1 s1 st1 rv
      cases es : seqOf d with
      | none => rw [es] at m; exact m.elim
      | some ds =>
        rw [es] at m
        obtain ⟨l, xs, b, ev, q, r⟩ := seq_of rv es
        subst ev
        exact ⟨l, xs, b, rfl, hK ▸ q.mono st1.gh, hK ▸ m _ G1 H1 s1 st1 (wk_enum q r)⟩
    | exc c d δ' => rw [e] at m; exact m
    | bad => rw [e] at m; exact m
theorem i_zip {elts : List Expr} {kk : Nat} {tpos : Pos} (hK : C.F.K = X.K) (hg : Gl X "zip") (hm : X.mg "zip" = none) (h : PA X [a, b] (tCons (tD C O fa) (tCons (tD C O fb) tNil)))
    (hs : starEach [a, b] X.env = (false, eval a X.env) :: starEach [b] X.env := by rfl) (hpl : (backTo pos (starEach [b] X.env)).any (·.1) = false := by rfl) : PI X (.Tuple elts kk tpos) (.Call (.Name "zip" p) [a, b] [] pos) (tI true C O (iZip fa fb)) :=
  pi_imp (pi_z2 hg hm h hs hpl) fun σ H R ⟨G, δ, st, m⟩ => by
    show tD C O fa σ H _
    refine ⟨G, δ, st, ?_⟩
    unfold iZip at m
    cases e : fa δ with
    | ok d δ1 =>
      rw [e, Res.bind_ok] at m
      intro v G1 H1 s1 st1 rv
      refine ⟨G1, δ1, st1, ?_⟩
      cases eb : fb δ1 with
      | ok d2 δ2 =>
        rw [eb, Res.bind_ok] at m
        intro w G2 H2 s2 st2 rw2
        cases e1 : seqOf d with
        | none => rw [e1] at m; exact m.elim
        | some xs =>
          cases e3 : seqOf d2 with
          | none => rw [e1, e3] at m; exact m.elim
          | some ys =>
            rw [e1, e3] at m
            obtain ⟨l1, x1, b1, ev, q1, r1⟩ := seq_of (rv.mono s2.g) e1
            obtain ⟨l2, x2, b2, ev2, q2, r2⟩ := seq_of rw2 e3
            subst ev ev2
            exact ⟨l1, l2, x1, x2, b1, b2, rfl, hK ▸ q1.mono st2.gh, hK ▸ q2.mono st2.gh, hK ▸ m _ G2 H2 (s1.thn s2) st2 (wk_z2 q1 q2 r1 r2)⟩
      | exc c d δ' => rw [eb] at m; exact m
      | bad => rw [eb] at m; exact m
    | exc c d δ' => rw [e] at m; exact m
    | bad => rw [e] at m; exact m
theorem i_zip3 {elts : List Expr} {kk : Nat} {tpos : Pos} (hK : C.F.K = X.K) (hg : Gl X "zip") (hm : X.mg "zip" = none) (h : PA X [a, b, c] (tCons (tD C O fa) (tCons (tD C O fb) (tCons (tD C O fc) tNil))))
    (hs : starEach [a, b, c] X.env = (false, eval a X.env) :: starEach [b, c] X.env := by rfl) (hpl : (backTo pos (starEach [b, c] X.env)).any (·.1) = false := by rfl) : PI X (.Tuple elts kk tpos) (.Call (.Name "zip" p) [a, b, c] [] pos) (tI true C O (iZip3 fa fb fc)) :=
  pi_imp (pi_z3 hg hm h hs hpl) fun σ H R ⟨G, δ, st, m⟩ => by
    show tD C O fa σ H _
    refine ⟨G, δ, st, ?_⟩
    unfold iZip3 at m
    cases e : fa δ with
    | ok d δ1 =>
      rw [e, Res.bind_ok] at m
      intro v G1 H1 s1 st1 rv
      refine ⟨G1, δ1, st1, ?_⟩
      cases eb : fb δ1 with
      | ok d2 δ2 =>
        rw [eb, Res.bind_ok] at m
        intro w G2 H2 s2 st2 rw2
        refine ⟨G2, δ2, st2, ?_⟩
        cases ec : fc δ2 with
        | ok d3 δ3 =>
          rw [ec, Res.bind_ok] at m
          intro u G3 H3 s3 st3 rw3
          cases e1 : seqOf d with
          | none => rw [e1] at m; exact m.elim
          | some xs =>
            cases e3 : seqOf d2 with
            | none => rw [e1, e3] at m; exact m.elim
            | some ys =>
              cases e4 : seqOf d3 with
              | none => rw [e1, e3, e4] at m; exact m.elim
              | some zs =>
                rw [e1, e3, e4] at m
                obtain ⟨l1, x1, b1, ev, q1, r1⟩ := seq_of (rv.mono (s2.g.trans s3.g)) e1
                obtain ⟨l2, x2, b2, ev2, q2, r2⟩ := seq_of (rw2.mono s3.g) e3
                obtain ⟨l3, x3, b3, ev3, q3, r3⟩ := seq_of rw3 e4
                subst ev ev2 ev3
                exact ⟨l1, l2, l3, x1, x2, x3, b1, b2, b3, rfl, hK ▸ q1.mono st3.gh, hK ▸ q2.mono st3.gh, hK ▸ q3.mono st3.gh, hK ▸ m _ G3 H3 ((s1.thn s2).thn s3) st3 (wk_z3 q1 q2 q3 r1 r2 r3)⟩
        | exc c d δ' => rw [ec] at m; exact m
        | bad => rw [ec] at m; exact m
      | exc c d δ' => rw [eb] at m; exact m
      | bad => rw [eb] at m; exact m
    | exc c d δ' => rw [e] at m; exact m
    | bad => rw [e] at m; exact m

/-! ### loops -/
/-- the scope within a loop whose own slots are O -/
abbrev Sc.loop (C : Sc) (O : List Nat) : Sc := { C with L := O }
theorem ps_loop {O' : List Nat} {G : Hp} {D : Ends} {o : Out} {nx' bk' ct' : L2.St → Hp → Prop} (h : match o with
    | .nx δ' => ∀ σ' G' H', Same G G' → Stt C.F O' G' H' σ' δ' → nx' σ' H'
    | .ct δ' => ∀ σ' G' H', Same G G' → Stt C.F O G' H' σ' δ' → ct' σ' H'
    | .bk δ' => ∀ σ' G' H', Same G G' → Stt C.F O G' H' σ' δ' → bk' σ' H'
    | .rt d δ' => ∀ v G' H', RetS C.F G' H' δ' → Rp C.F.K C.F.cm G' v d → FrR C H' δ' v d → D.rt v H'
    | .exc c d δ' => ∀ O'' σ' G' H' cls dd, C.XO O'' → Stt C.F O'' G' H' σ' δ' → XRp C G' c d cls dd → C.W cls dd σ' H'
    | .bad => False) : Ps (C.loop O) O' G { D with nx := nx', ct := ct', bk := bk' } o := by
  cases o <;> exact h
theorem s_for {bq : Bool} {g : TG} {t : Tg} {gb : Sm} {it : ItE} {iter : Expr} {body : List Stmt} (hp : PassesOwn (model X.prog X.w) X.A X.env X.xe) (hc : X.calm = true) (hi : PI X tg iter (tI bq C O it)) (hg : PG X tg g) (ht : GT bq C O t g)
    (hb : PSs X body (tS (C.loop O) O O gb)) (hs : ∀ x, foldedSetIterable iter X.env x = pure x := by intro _; rfl) (hx : C.XO O := by trivial) : PS X (.For tg iter body [] pos) (tS C O O (sFor it t gb)) :=
  ps_imp (ps_for hp hc hi hg hb hs) fun D σ H ⟨G, δ, st, m⟩ => by
    refine ⟨G, δ, st, ?_⟩
    unfold sFor at m
    cases e : it δ with
    | ok ds δ1 =>
      rw [e] at m
      have m' : Ps C O G D (forL t gb ds δ1) := m
      intro J G1 H1 s1 st1 wk
      refine for_it wk (fun i σ H => ∃ G δ, Stt C.F O G H σ δ ∧ Same G1 G ∧ Ps C O G D (forL t gb (ds.drop i) δ)) ⟨G1, δ1, st1, .refl G1, m'.mono s1.g⟩ (fun i σ H _ ⟨G, δ, st, s, _⟩ => s.trans st.gh) ?_ ?_
      · rintro i x σ2 H2 H3 hlt ⟨G2, δ2, st2, s2, m2⟩ y
        obtain ⟨G3, d, hd, ex, rv⟩ := y G2 s2 st2.gh
        have hdrop : ds.drop i = d :: ds.drop (i + 1) := by
          rw [List.drop_eq_getElem_cons hlt]
          congr
          have := List.getElem?_eq_getElem hlt
          rw [hd] at this
          exact (Option.some.inj this).symm
        rw [hdrop] at m2
        unfold forL at m2
        have st3 := st2.step ex
        cases et : t.put d δ2 with
        | none => rw [et] at m2; exact m2.elim
        | some δ3 =>
          rw [et] at m2
          refine ht x d σ2 H3 G3 δ2 δ3 _ st3 rv et fun σ' st4 => ?_
          refine ⟨G3, δ3, st4, ps_loop ?_⟩
          have sG : Same G2 G3 := ex.g
          have m3 : Ps C O G2 D (match gb δ3 with | .nx δ2 => forL t gb (ds.drop (i + 1)) δ2 | .ct δ2 => forL t gb (ds.drop (i + 1)) δ2 | .bk δ2 => .nx δ2 | o => o) := m2
          cases eb : gb δ3 with
          | nx δ4 => rw [eb] at m3; exact fun σ5 G5 H5 s5 st5 => ⟨G5, δ4, st5, (s2.trans sG).trans s5, m3.mono (sG.trans s5)⟩
          | ct δ4 => rw [eb] at m3; exact fun σ5 G5 H5 s5 st5 => ⟨G5, δ4, st5, (s2.trans sG).trans s5, m3.mono (sG.trans s5)⟩
          | bk δ4 => rw [eb] at m3; exact fun σ5 G5 H5 s5 st5 => m3 σ5 G5 H5 (sG.trans s5) st5
          | rt d δ4 => rw [eb] at m3; exact m3
          | exc c d δ4 => rw [eb] at m3; exact m3
          | bad => rw [eb] at m3; exact m3
      · rintro σ2 H2 ⟨G2, δ2, st2, s2, m2⟩
        rw [List.drop_length] at m2
        exact m2 σ2 G2 H2 (.refl G2) st2
    | exc c d δ1 => rw [e] at m; exact fun G' H' cls dd st' x => m O σ G' H' cls dd hx st' x
    | bad => rw [e] at m; exact m
theorem s_while {gb : Sm} {body : List Stmt} (hp : PassesOwn (model X.prog X.w) X.A X.env X.xe) (hc : PT X c (tDT C O fc)) (hb : PSs X body (tS (C.loop O) O O gb)) (hx : C.XO O := by trivial) : PS X (.While c body [] pos) (tS C O O (sWhile fc gb)) :=
  ps_imp (ps_while hp hc hb) fun D σ H ⟨G, δ, st, m⟩ => by
    have nb : sWhile fc gb δ ≠ .bad := fun e => by rw [e] at m; exact m
    obtain ⟨n, hn⟩ := sWhile_run nb
    refine ⟨fun k σ H => ∃ G δ o, Stt C.F O G H σ δ ∧ whN fc gb k δ = some o ∧ Ps C O G D o, ⟨n, G, δ, _, st, hn, m⟩, ?_⟩
    rintro k σ H ⟨G, δ, o, st, hk, m⟩
    cases k with
    | zero => cases hk
    | succ k =>
      refine ⟨G, δ, st, ?_⟩
      simp only [whN] at hk
      cases e : fc δ with
      | ok d δ1 =>
        rw [e] at hk
        cases d with
        | bl b =>
          refine ⟨b, rfl, fun G1 H1 s1 st1 => ?_⟩
          cases b with
          | true =>
            rw [if_pos rfl]
            refine ⟨fun σ' H' => ∃ G δ o, Stt C.F O G H' σ' δ ∧ whN fc gb k δ = some o ∧ Ps C O G D o, fun σ' H' z => ⟨k, Nat.lt_succ_self k, z⟩, G1, δ1, st1, ps_loop ?_⟩
            simp only at hk
            cases eb : gb δ1 with
            | nx δ2 => rw [eb] at hk; exact fun σ5 G5 H5 s5 st5 => ⟨G5, δ2, o, st5, hk, m.mono (s1.g.trans s5)⟩
            | ct δ2 => rw [eb] at hk; exact fun σ5 G5 H5 s5 st5 => ⟨G5, δ2, o, st5, hk, m.mono (s1.g.trans s5)⟩
            | bk δ2 => rw [eb] at hk; cases hk; exact fun σ5 G5 H5 s5 st5 => m σ5 G5 H5 (s1.g.trans s5) st5
            | rt d δ2 => rw [eb] at hk; cases hk; exact m
            | exc c d δ2 => rw [eb] at hk; cases hk; exact m
            | bad => rw [eb] at hk; cases hk; exact m
          | false =>
            rw [if_neg Bool.false_ne_true]
            cases hk
            exact m σ G1 H1 s1.g st1
        | _ => cases hk; exact m.elim
      | exc c d δ1 => rw [e] at hk; cases hk; exact fun G' H' cls dd st' x => m O σ G' H' cls dd hx st' x
      | bad => rw [e] at hk; cases hk; exact m
end
end Mi

end
section
set_option Elab.async false
set_option linter.all false
set_option maxRecDepth 100000
set_option autoImplicit false
set_option maxHeartbeats 4000000
namespace Mi
open PySem PySem.Spec PyProof.Rows L2

theorem cap_line : cap < sizeLine := by rw [sizeLine_eq, cap_eq]; decide
/-! ### comprehensions -/
theorem wipeE_length (δ : Env) : ∀ vs : List Nat, (wipeE δ vs).length = δ.length
  | [] => rfl
  | v :: vs => by unfold wipeE; rw [List.length_set, wipeE_length δ vs]
theorem restE_length (δ0 : Env) : ∀ (vs : List Nat) (δ : Env), (restE δ0 vs δ).length = δ.length
  | [], _ => rfl
  | v :: vs, δ => by unfold restE; rw [List.length_set, restE_length δ0 vs]
theorem wipeE_at {δ : Env} {i : Nat} {x : D} : ∀ {vs : List Nat}, (wipeE δ vs)[i]? = some (some x) → δ[i]? = some (some x) ∧ i ∉ vs
  | [], h => ⟨h, by simp⟩
  | v :: vs, h => by
    unfold wipeE at h
    by_cases hi : v = i
    · subst hi
      by_cases hv : v < (wipeE δ vs).length
      · rw [List.getElem?_set_self hv] at h; cases h
      · rw [List.getElem?_eq_none (by simpa using hv)] at h; cases h
    · rw [List.getElem?_set_ne hi] at h
      obtain ⟨h1, h2⟩ := wipeE_at h
      exact ⟨h1, by simp only [List.mem_cons, not_or]; exact ⟨fun e => hi e.symm, h2⟩⟩
theorem wipeE_out {δ : Env} {i : Nat} : ∀ {vs : List Nat}, i ∉ vs → (wipeE δ vs)[i]? = δ[i]?
  | [], _ => rfl
  | v :: vs, h => by
    simp only [List.mem_cons, not_or] at h
    unfold wipeE
    rw [List.getElem?_set_ne (fun e => h.1 e.symm)]
    exact wipeE_out h.2
theorem wipeS_out {σ : L2.St} {i : Nat} : ∀ {vs : List Nat}, i ∉ vs → (wipe σ vs)[i]? = σ[i]?
  | [], _ => rfl
  | v :: vs, h => by
    simp only [List.mem_cons, not_or] at h
    unfold wipe
    rw [List.getElem?_set_ne (fun e => h.1 e.symm)]
    exact wipeS_out h.2
theorem restE_out {δ0 δ : Env} {i : Nat} : ∀ {vs : List Nat}, i ∉ vs → (restE δ0 vs δ)[i]? = δ[i]?
  | [], _ => rfl
  | v :: vs, h => by
    simp only [List.mem_cons, not_or] at h
    unfold restE
    rw [List.getElem?_set_ne (fun e => h.1 e.symm)]
    exact restE_out h.2
theorem restE_in {δ0 δ : Env} {i : Nat} (hl : i < δ.length) : ∀ {vs : List Nat}, i ∈ vs → (restE δ0 vs δ)[i]? = some ((δ0[i]?).getD none)
  | [], h => by simp at h
  | v :: vs, h => by
    unfold restE
    by_cases e : v = i
    · subst e
      rw [List.getElem?_set_self (by rw [restE_length]; exact hl)]
    · rw [List.getElem?_set_ne e]
      rcases List.mem_cons.mp h with z | z
      · exact absurd z.symm e
      · exact restE_in hl z
section
variable {F : Fm} {O : List Nat} {G H G1 H1 : Hp} {σ : L2.St} {δ δ1 δ2 : Env}
theorem Stt.wipe {vs : List Nat} (s : Stt F O G H σ δ) (hd : ∀ v ∈ vs, v ∉ O) : Stt F O G H (wipe σ vs) (wipeE δ vs) where
  ext := s.ext
  tabs := s.tabs
  ln := by rw [wipe_length]; exact s.ln
  le := by rw [wipeE_length]; exact s.le
  sh := fun i d hi h => by
    obtain ⟨h1, h2⟩ := wipeE_at h
    rw [wipeS_out h2]
    exact s.sh i d hi h1
  ow := fun i hi => by
    have hv : i ∉ vs := fun z => hd i z hi
    rw [wipeS_out hv, wipeE_out hv]
    exact s.ow i hi
  dis := fun i hi j hj a => by
    rw [wipeS_out (fun z => hd i z hi), wipeS_out (fun z => hd j z hj)]
    exact s.dis i hi j hj a
  fix := fun p hp => ⟨(s.fix p hp).1, by rw [wipeS_out (fun z => hd p.1 z (s.fix p hp).1)]; exact (s.fix p hp).2⟩
theorem Stt.unwipe {vs : List Nat} (s : Stt F O G1 H1 σ δ1) (s2 : Stt F O G H (L2.wipe σ vs) (wipeE δ2 vs)) (hs : Same G1 G) (hd : ∀ v ∈ vs, v ∉ O) : Stt F O G H σ (restE δ1 vs δ2) where
  ext := s2.ext
  tabs := s2.tabs
  ln := s.ln
  le := by rw [restE_length, ← s2.le, wipeE_length]
  sh := fun i d hi h => by
    by_cases hv : i ∈ vs
    · have hl : i < δ2.length := by
        have h1 := (List.getElem?_eq_some_iff.mp h).1
        rw [restE_length] at h1
        exact h1
      rw [restE_in hl hv] at h
      have h' : δ1[i]? = some (some d) := by
        cases q : δ1[i]? with
        | none => rw [q] at h; cases h
        | some o => rw [q] at h; exact h
      obtain ⟨v, e, r⟩ := s.sh i d hi h'
      exact ⟨v, e, r.mono hs⟩
    · rw [restE_out hv] at h
      have := s2.sh i d hi (by rw [wipeE_out hv]; exact h)
      rw [wipeS_out hv] at this
      exact this
  ow := fun i hi => by
    have hv : i ∉ vs := fun z => hd i z hi
    rw [restE_out hv]
    have := s2.ow i hi
    rw [wipeS_out hv, wipeE_out hv] at this
    exact this
  dis := s.dis
  fix := s.fix
end
/-- the scope of a comprehension's block: nothing is raised there -/
abbrev Sc.blk (C : Sc) : Sc := { C with W := fun _ _ _ _ => False }
section
variable {X : Cx} {C : Sc} {O : List Nat} {elt tg iter : Expr} {fe : Ex} {pos p : Pos}
theorem wipeS_in {σ : L2.St} {i : Nat} (hl : i < σ.length) : ∀ {vs : List Nat}, i ∈ vs → (L2.wipe σ vs)[i]? = some none
  | [], h => by simp at h
  | v :: vs, h => by
    unfold L2.wipe
    by_cases e : v = i
    · subst e
      rw [List.getElem?_set_self (by rw [wipe_length]; exact hl)]
    · rw [List.getElem?_set_ne e]
      rcases List.mem_cons.mp h with z | z
      · exact absurd z.symm e
      · exact wipeS_in hl z
theorem wipeS_ext {σ τ : L2.St} {vs : List Nat} (hl : σ.length = τ.length) (h : ∀ i, i ∉ vs → σ[i]? = τ[i]?) : L2.wipe σ vs = L2.wipe τ vs := by
  apply List.ext_getElem?
  intro i
  by_cases hv : i ∈ vs
  · by_cases hi : i < σ.length
    · rw [wipeS_in hi hv, wipeS_in (by rw [← hl]; exact hi) hv]
    · rw [List.getElem?_eq_none (by rw [wipe_length]; omega), List.getElem?_eq_none (by rw [wipe_length]; omega)]
  · rw [wipeS_out hv, wipeS_out hv]
    exact h i hv
theorem wipeS_idem (σ : L2.St) (vs : List Nat) : L2.wipe (L2.wipe σ vs) vs = L2.wipe σ vs := wipeS_ext (by rw [wipe_length]) fun i hi => wipeS_out hi
/-- g stores at the block's own names alone -/
def GW (vs : List Nat) (g : TG) : Prop := ∀ (v : V) (σ : L2.St) (H : Hp) (Q : L2.St → Hp → Prop), g v σ H (fun σ' H' => L2.wipe σ' vs = L2.wipe σ vs → Q σ' H') → g v σ H fun σ' H' => L2.wipe σ' vs = L2.wipe σ vs ∧ Q σ' H'
def GWs (vs : List Nat) (g : TGs) : Prop := ∀ (v : List V) (σ : L2.St) (H : Hp) (Q : L2.St → Hp → Prop), g v σ H (fun σ' H' => L2.wipe σ' vs = L2.wipe σ vs → Q σ' H') → g v σ H fun σ' H' => L2.wipe σ' vs = L2.wipe σ vs ∧ Q σ' H'
theorem wipe_set {σ : L2.St} {vs : List Nat} {i : Nat} {x : Option V} (hi : i ∈ vs) : L2.wipe (σ.set i x) vs = L2.wipe σ vs := wipeS_ext (by simp) fun j hj => List.getElem?_set_ne (fun e => hj (by rw [← e]; exact hi))
theorem gw_n {vs : List Nat} {i : Nat} (hi : i ∈ vs) : GW vs (gName i) := fun v σ H Q h => ⟨wipe_set hi, h (wipe_set hi)⟩
theorem gws_nil {vs : List Nat} : GWs vs gNil := fun v σ H Q ⟨e, h⟩ => ⟨e, rfl, h rfl⟩
theorem gws_cons {vs : List Nat} {i : Nat} {g : TGs} (hi : i ∈ vs) (h : GWs vs g) : GWs vs (gCons (gName i) g) := fun v σ H Q ⟨x, r, e, hq⟩ => by
  have e2 : L2.wipe (σ.set i (some x)) vs = L2.wipe σ vs := wipe_set hi
  refine ⟨x, r, e, ?_⟩
  have h2 := h r (σ.set i (some x)) H Q
  rw [e2] at h2
  exact h2 hq
theorem gw_t {vs : List Nat} {K : PySem.W.Frag} {n : Nat} {g : TGs} (h : GWs vs g) : GW vs (gTup K n g) := fun v σ H Q ⟨a, xs, e, q, l, hq⟩ => ⟨a, xs, e, q, l, h xs σ H Q hq⟩
theorem n_lc_r {bq : Bool} {wi : TI} {g : TG} {tt : TT} {te : TE} {t : Tg} {vs : List Nat} {c : Option Ex} {it : ItE} (hi : ∀ σ H R, tI bq C O it σ H R → wi σ H R) (ht : GT bq C O t g) (hd : ∀ v ∈ vs, v ∉ O) (hg : GW vs g)
    (htt : ∀ (σ : L2.St) (H : Hp) (Q : Bool → Hp → Prop) (G : Hp) (δ : Env), Stt C.F O G H σ δ → Pb C.blk O G H σ Q (tstC c δ) → tt σ H Q)
    (hte : ∀ (σ : L2.St) (H : Hp) (Q : VK), tD C.blk O fe σ H Q → te σ H Q) : ∀ (σ : L2.St) (H : Hp) (Q : VK), tN C O (eLc it t vs c fe) σ H Q → tLc wi g tt te vs σ H Q := fun σ H Q ⟨G, δ, st, m⟩ => by
  refine hi _ _ _ ⟨G, δ, st, ?_⟩
  unfold eLc at m
  cases e : it δ with
  | exc c d δ1 => rw [e] at m; exact m
  | bad => rw [e] at m; exact m
  | ok ds δ1 =>
    rw [e, Res.bind_ok] at m
    by_cases hcap : ds.length ≤ cap
    case neg => rw [if_neg hcap] at m; exact m.elim
    rw [if_pos hcap] at m
    intro J G1 H1 s1 st1 wk Dn hDn
    obtain ⟨f1, f2, f3, f4⟩ := fresh_facts (u := .lst []) st1 hDn
    have hpn : H Dn = none := s1.back hDn
    -- the end, told of what is made so far
    let Fin : Hp → Hp → List D → Res (List D) → Prop := fun G H ys r => match r with
      | .ok xs δ2 => ∀ G' H', Ext C.F.cm.T (ownS O σ) G1 H1 G' H' → Stt C.F O G' H' (L2.wipe σ vs) (wipeE δ2 vs) → G' Dn = none → OwnAt C.F.K C.F.cm G' H' Dn (.lst (ys ++ xs)) → Q (.ref Dn) H'
      | _ => False
    have fin0 : Fin G1 H1 [] (lcL t vs c fe ds δ1) := by
      show match lcL t vs c fe ds δ1 with | .ok xs δ2 => _ | _ => _
      cases er : lcL t vs c fe ds δ1 with
      | ok xs δ2 =>
        rw [er] at m
        exact fun G' H' s2 st2 n o => m Dn G' H' (s1.thn s2) (st1.unwipe st2 s2.g hd) n hpn o
      | exc c d δ2 => rw [er] at m; exact m
      | bad => rw [er] at m; exact m
    have sig : ∀ {σ' : L2.St}, L2.wipe σ' vs = L2.wipe σ vs → ownS O σ' = ownS O σ := fun {σ'} h => by
      have key : ∀ O' : List Nat, (∀ i ∈ O', i ∈ O) → ownS O' σ' = ownS O' σ := by
        intro O'
        induction O' with
        | nil => intro _; rfl
        | cons i r ih =>
          intro hr
          have hv : i ∉ vs := fun z => hd i z (hr i List.mem_cons_self)
          have e : σ'[i]? = σ[i]? := by rw [← wipeS_out (σ := σ') hv, h, wipeS_out hv]
          have ih := ih fun j hj => hr j (List.mem_cons_of_mem _ hj)
          unfold ownS at ih ⊢
          rw [List.filterMap_cons, List.filterMap_cons, e, ih]
      exact key O fun _ h => h
    have hDo : Dn ∉ ownS O σ := fun z => by
      obtain ⟨i, hi, e⟩ := mem_ownS.mp z
      exact f4 i hi e
    refine lc_it wk (fun i H => ∃ G δ ys acc, Stt C.F O G H (L2.wipe σ vs) (wipeE δ vs) ∧ Ext C.F.cm.T (ownS O σ) G1 H1 G H ∧ G Dn = none ∧ H Dn = some (.lst acc) ∧ Rps C.F.K C.F.cm G acc ys ∧ ys.length ≤ i ∧ Fin G H ys (lcL t vs c fe (ds.drop i) δ))
      ⟨G1, δ1, [], [], f1.wipe hd, (Ext.refl st1.gh).and (Ext.fresh st1.gh hDn), f2, upd_same, .nil, Nat.le_refl _, fin0⟩ (fun i H _ ⟨G, _, _, _, st, s, _⟩ => s.g.trans st.gh) ?_ ?_
    · rintro i x H2 H3 hlt ⟨G2, δ2, ys, acc, st2, s2, n2, hD2, ra, hys, fin⟩ y
      obtain ⟨G3, d, hdi, ex, rv⟩ := y G2 s2.g st2.gh
      have hdrop : ds.drop i = d :: ds.drop (i + 1) := by
        rw [List.drop_eq_getElem_cons hlt]
        congr
        have := List.getElem?_eq_getElem hlt
        rw [hdi] at this
        exact (Option.some.inj this).symm
      rw [hdrop] at fin
      unfold lcL at fin
      have st3 := st2.step ex
      have n3 : G3 Dn = none := (ex.new Dn (by rw [hD2]; simp)).trans n2
      have hD3 : H3 Dn = some (.lst acc) := ex.keep Dn _ hD2 (by simp) (nc_lst (a := Dn)).1
      have s3 := s2.and ex
      cases et : t.put d (wipeE δ2 vs) with
      | none => simp only [et] at fin; exact fin.elim
      | some δ3 =>
        simp only [et] at fin
        have turn : g x (L2.wipe σ vs) H3 (fun σ' H' => L2.wipe σ' vs = L2.wipe (L2.wipe σ vs) vs → tt σ' H' fun b H5 =>
            if b = true then te σ' H5 fun y H6 => ∃ acc, H6 Dn = some (.lst acc) ∧ acc.length < sizeLine ∧ ∃ G δ ys acc', Stt C.F O G (upd H6 Dn (.lst (acc ++ [y]))) (L2.wipe σ vs) (wipeE δ vs) ∧ Ext C.F.cm.T (ownS O σ) G1 H1 G (upd H6 Dn (.lst (acc ++ [y]))) ∧ G Dn = none ∧
              (upd H6 Dn (.lst (acc ++ [y]))) Dn = some (.lst acc') ∧ Rps C.F.K C.F.cm G acc' ys ∧ ys.length ≤ i + 1 ∧ Fin G (upd H6 Dn (.lst (acc ++ [y]))) ys (lcL t vs c fe (ds.drop (i + 1)) δ)
            else ∃ G δ ys acc, Stt C.F O G H5 (L2.wipe σ vs) (wipeE δ vs) ∧ Ext C.F.cm.T (ownS O σ) G1 H1 G H5 ∧ G Dn = none ∧ H5 Dn = some (.lst acc) ∧ Rps C.F.K C.F.cm G acc ys ∧ ys.length ≤ i + 1 ∧ Fin G H5 ys (lcL t vs c fe (ds.drop (i + 1)) δ)) := by
          refine ht x d _ H3 G3 _ δ3 _ st3 rv et fun σ' st4 wz => ?_
          rw [wipeS_idem] at wz
          have so := sig wz
          have back : ∀ {G' H' : Hp} {δ' : Env}, Stt C.F O G' H' σ' δ' → Stt C.F O G' H' (L2.wipe σ vs) (wipeE δ' vs) := fun {G' H' δ'} z => by rw [← wz]; exact z.wipe hd
          refine htt σ' H3 _ G3 δ3 st4 ?_
          cases ec : tstC c δ3 with
          | exc _ _ _ => rw [ec] at fin; exact fin.elim
          | bad => rw [ec] at fin; exact fin.elim
          | ok db δ4 =>
            rw [ec] at fin
            cases db with
            | bl b =>
              refine ⟨b, rfl, fun G5 H5 s5 st5 => ?_⟩
              rw [so] at s5
              have n5 : G5 Dn = none := (s5.new Dn (by rw [hD3]; simp)).trans n3
              have hD5 : H5 Dn = some (.lst acc) := s5.keep Dn _ hD3 hDo (nc_lst (a := Dn)).1
              cases b with
              | false =>
                rw [if_neg Bool.false_ne_true]
                exact ⟨G5, δ4, ys, acc, back st5, s3.thn s5, n5, hD5, ra.mono (ex.g.trans s5.g), Nat.le_succ_of_le hys, fin⟩
              | true =>
                rw [if_pos rfl]
                simp only at fin
                refine hte _ _ _ ⟨G5, δ4, st5, ?_⟩
                cases ee : fe δ4 with
                | exc _ _ _ => rw [ee] at fin; exact fin.elim
                | bad => rw [ee] at fin; exact fin.elim
                | ok z δ5 =>
                  rw [ee] at fin
                  simp only at fin
                  intro v6 G6 H6 s6 st6 rv6
                  rw [so] at s6
                  have n6 : G6 Dn = none := (s6.new Dn (by rw [hD5]; simp)).trans n5
                  have hD6 : H6 Dn = some (.lst acc) := s6.keep Dn _ hD5 hDo (nc_lst (a := Dn)).1
                  have hal : acc.length = ys.length := ra.length
                  have ext6 := (s3.thn s5).thn s6
                  have hs6 : ∀ b, b ≠ Dn → upd H6 Dn (.lst (acc ++ [v6])) b = H6 b := fun b hb => upd_ne hb
                  have gh' : Sg G6 (upd H6 Dn (.lst (acc ++ [v6]))) := st6.gh.own n6
                  have st7 : Stt C.F O G6 (upd H6 Dn (.lst (acc ++ [v6]))) σ' δ5 := {
                    ext := ⟨st6.ext.g, gh', fun b o hb hn ht => by
                      rw [upd_ne (fun q => by rw [q, f3] at hb; cases hb)]
                      exact st6.ext.keep b o hb hn ht, st6.ext.new, fun b hb => by
                      rw [upd_ne (fun q => hb (by rw [q]; exact f3))]
                      exact st6.ext.dom b hb, st6.ext.tab.trans (.upd hD6 nc_lst)⟩
                    tabs := st6.tabs.go (.upd hD6 nc_lst)
                    ln := st6.ln
                    le := st6.le
                    sh := st6.sh
                    ow := fun j hj => by
                      obtain ⟨a, dj, e1, e2, na, o, z⟩ := st6.ow j hj
                      refine ⟨a, dj, e1, e2, na, o.mono (.refl G6) (upd_ne fun q => hDo ?_), z⟩
                      rw [← so]
                      exact mem_ownS.mpr ⟨j, hj, by rw [e1, q]⟩
                    dis := st6.dis
                    fix := st6.fix }
                  have ext7 : Ext _ (ownS O σ) G1 H1 G6 (upd H6 Dn (.lst (acc ++ [v6]))) := ⟨ext6.g, gh', fun b o hb hn ht => by
                      rw [upd_ne (fun q => by rw [q, hDn] at hb; cases hb)]
                      exact ext6.keep b o hb hn ht, ext6.new, fun b hb => by
                      rw [upd_ne (fun q => hb (by rw [q]; exact hDn))]
                      exact ext6.dom b hb, ext6.tab.trans (.upd hD6 nc_lst)⟩
                  refine ⟨acc, hD6, ?_, G6, δ5, ys ++ [z], acc ++ [v6], back st7, ext7, n6, upd_same, (ra.mono ((ex.g.trans s5.g).trans s6.g)).app (.cons rv6 .nil), by simp; omega, ?_⟩
                  · have := cap_line
                    omega
                  · show match lcL t vs c fe (ds.drop (i + 1)) δ5 with | .ok xs δ2 => _ | _ => _
                    cases er : lcL t vs c fe (ds.drop (i + 1)) δ5 with
                    | ok xs δ6 =>
                      rw [er] at fin
                      simp only [Res.bind_ok] at fin
                      intro G' H' q1 q2 q3 q4
                      refine fin G' H' q1 q2 q3 ?_
                      rw [show ys ++ z :: xs = ys ++ [z] ++ xs by simp]
                      exact q4
                    | exc _ _ _ => rw [er] at fin; exact fin
                    | bad => rw [er] at fin; exact fin
            | _ => exact fin.elim
        have h := hg x (L2.wipe σ vs) H3 _ turn
        rw [wipeS_idem] at h
        exact h
    · rintro H2 ⟨G2, δ2, ys, acc, st2, s2, n2, hD2, ra, hys, fin⟩
      rw [List.drop_length] at fin
      exact fin G2 H2 s2 st2 n2 ⟨acc, hD2, by simpa using ra⟩
end
end Mi

end
section
set_option Elab.async false
set_option linter.all false
set_option maxRecDepth 100000
set_option autoImplicit false
set_option maxHeartbeats 4000000
namespace Mi
open PySem PySem.Spec PyProof.Rows L2

/-! ### what a def promises: its mirror -/
def OutsAt (K : PySem.W.Frag) (cm : CM) (G H : Hp) : List Addr → List D → Prop
  | [], [] => True
  | a :: as, d :: ds => (G a = none ∧ OwnAt K cm G H a d) ∧ OutsAt K cm G H as ds
  | _, _ => False
def XR (K : PySem.W.Frag) (cm : CM) (fld : Str → Str) (G : Hp) (c : Str) (d : D) (cls : Value) (dd : Option Addr) : Prop :=
  cls = .ref (cm c) ∧ ∃ e v, dd = some e ∧ G e = some (.xd [(fld c, v)]) ∧ Rp K cm G v d
/-- called with values that stand for ds, it does what f tells; own: the places of its own lists among the parameters -/
def spM (K : PySem.W.Frag) (cm : CM) (fld : Str → Str) (n : Nat) (own : List Nat) (f : List D → Fr) : Sp := fun vs H Q E => ∃ G ds as, vs.length = n ∧ as.length = own.length ∧ Stt ⟨K, cm, G, H, n, own, as⟩ own G H (vs.map some) (ds.map some) ∧ match f ds with
  | .ok d outs => ∀ v G' H', Ext cm.T as G H G' H' → OutsAt K cm G' H' as outs → Rp K cm G' v d → Q v H'
  | .exc c d => ∀ G' H' cls dd, Ext cm.T as G H G' H' → XR K cm fld G' c d cls dd → E cls dd H'
  | .bad => False
theorem zip_snd : ∀ {ns : List Nat} {as : List Addr}, as.length = ns.length → (ns.zip as).map (·.2) = as
  | [], [], _ => rfl
  | n :: ns, a :: as, h => by
    have := zip_snd (ns := ns) (as := as) (by simpa using h)
    simp [this]
  | [], a :: as, h => by simp at h
  | n :: ns, [], h => by simp at h
theorem outs_of {K : PySem.W.Frag} {cm : CM} {G H : Hp} {δ : Env} : ∀ {ns : List Nat} {as : List Addr} {o : List D}, as.length = ns.length → (∀ p ∈ ns.zip as, ∃ d, δ[p.1]? = some (some d) ∧ G p.2 = none ∧ OwnAt K cm G H p.2 d) → outsOf ns δ = some o → OutsAt K cm G H as o
  | [], [], o, _, _, e => by cases e; trivial
  | n :: ns, a :: as, o, hl, h, e => by
    obtain ⟨d, e1, n1, o1⟩ := h (n, a) (by simp)
    unfold outsOf at e
    simp only [e1] at e
    cases e2 : outsOf ns δ with
    | none => rw [e2] at e; cases e
    | some o' =>
      rw [e2] at e
      cases e
      exact ⟨⟨n1, o1⟩, outs_of (by simpa using hl) (fun p hp => h p (by simp [hp])) e2⟩
  | [], a :: as, _, h, _, _ => by simp at h
  | n :: ns, [], _, h, _, _ => by simp at h
theorem start_at {N : List Str} {vs : List V} {i : Nat} {v : Option V} (h : (L2.start N vs)[i]? = some v) : (vs.map some)[i]? = some v ∨ v = none := by
  unfold L2.start at h
  by_cases hi : i < vs.length
  · rw [List.getElem?_append_left (by simpa using hi)] at h
    exact .inl h
  · rw [List.getElem?_append_right (by simpa using hi), List.getElem?_replicate] at h
    split at h
    · cases h; exact .inr rfl
    · cases h
theorem start_in {N : List Str} {vs : List V} {i : Nat} {v : Option V} (h : (vs.map some)[i]? = some v) : (L2.start N vs)[i]? = some v := by
  have hi := (List.getElem?_eq_some_iff.mp h).1
  unfold L2.start
  rw [List.getElem?_append_left hi]
  exact h
theorem startE_at {n : Nat} {ds : List D} {i : Nat} {d : D} (h : (startE n ds)[i]? = some (some d)) : (ds.map some)[i]? = some (some d) := by
  unfold startE at h
  by_cases hi : i < ds.length
  · rw [List.getElem?_append_left (by simpa using hi)] at h
    exact h
  · rw [List.getElem?_append_right (by simpa using hi), List.getElem?_replicate] at h
    split at h
    · cases h
    · cases h
theorem startE_in {n : Nat} {ds : List D} {i : Nat} {d : D} (h : (ds.map some)[i]? = some (some d)) : (startE n ds)[i]? = some (some d) := by
  have hi := (List.getElem?_eq_some_iff.mp h).1
  unfold startE
  rw [List.getElem?_append_left hi]
  exact h
theorem Stt.start {K : PySem.W.Frag} {cm : CM} {G H : Hp} {n : Nat} {own : List Nat} {as : List Addr} {vs : List V} {ds : List D} {N : List Str} (hl : as.length = own.length) (hn : n ≤ N.length) (s : Stt ⟨K, cm, G, H, n, own, as⟩ own G H (vs.map some) (ds.map some)) :
    Stt ⟨K, cm, G, H, N.length, own, as⟩ own G H (L2.start N vs) (startE N.length ds) where
  ext := s.ext
  tabs := s.tabs
  ln := by
    have h1 : vs.length = n := by simpa using s.ln
    show (L2.start N vs).length = N.length
    unfold L2.start
    simp
    omega
  le := by
    have h1 : ds.length = n := by simpa using s.le
    show (startE N.length ds).length = N.length
    unfold startE
    simp
    omega
  sh := fun i d hi h => by
    obtain ⟨v, e, r⟩ := s.sh i d hi (startE_at h)
    exact ⟨v, start_in e, r⟩
  ow := fun i hi => by
    obtain ⟨a, d, e1, e2, n1, o, z⟩ := s.ow i hi
    exact ⟨a, d, start_in e1, startE_in e2, n1, o, z⟩
  dis := fun i hi j hj a h1 h2 => by
    rcases start_at h1 with h1 | h1
    · rcases start_at h2 with h2 | h2
      · exact s.dis i hi j hj a h1 h2
      · cases h2
    · cases h1
  fix := fun p hp => ⟨(s.fix p hp).1, start_in (s.fix p hp).2⟩
section
variable {P : Program} {w : World} {K : PySem.W.Frag} {mg : Str → Option Value} {base : Heap} {cm : CM} {fld : Str → Str}
/-- a def by its body, where it is known which code object it has -/
theorem fun_okC {x qual : Str} {st : Stmt} {f : Addr} {fd : FuncData} {N ps : List Str} {k : Nat} {sp : Sp} (F : Fun K x qual st f fd) (S : FnScope N ps (defScope st)) (len : ∀ vs H Q E, sp vs H Q E → vs.length = ps.length)
    (hbody : ∀ (cdv : Value) (cd : fd.code = cdv) (A : Around) (outer : List PySem.Env) (s : Shared) (H : Hp) (vs : List V) (Q : VK) (E : XK), Room k (A.deeper (envOfC qual (defScope st) s.heap.objs.size f cdv)) → sp vs H Q E →
      ∃ t, PSs (cxOf (L2.CX P w) P w K mg base N qual (defScope st) f cdv A outer s H E) (defBody st) t ∧ t { nx := fun _ H' => Q .non H', rt := Q } (L2.start N vs) H) : FnOk P w K mg base (L2.CX P w) (k + 1) f fd ps sp := by
  obtain ⟨oc, od, kV, doc, pm, an, cdv, ct, osl, rfl, lk, code⟩ := F.ex
  exact fn_of lk code S len fun A outer s H vs Q E hr hsp => hbody cdv rfl A outer s H vs Q E hr hsp
/-- THE RULE: a def keeps its mirror's promise, by its body -/
theorem fn_mir {x qual : Str} {st : Stmt} {f : Addr} {fd : FuncData} {N ps : List Str} {k n p : Nat} {own : List Nat} {g : Sm} (F : Fun K x qual st f fd) (S : FnScope N ps (defScope st)) (hn : N.length = n) (hp : ps.length = p) (hpn : p ≤ n) (O' : List Nat)
    (hbody : ∀ (cdv : Value) (cd : fd.code = cdv) (A : Around) (outer : List PySem.Env) (s : Shared) (H G : Hp) (E : XK) (as : List Addr), Room k (A.deeper (envOfC qual (defScope st) s.heap.objs.size f cdv)) →
      PSs (cxOf (L2.CX P w) P w K mg base N qual (defScope st) f cdv A outer s H E) (defBody st) (tS ⟨⟨K, cm, G, H, n, own, as⟩, fun cls d _ H => E cls d H, fld, fun _ => True, [], false⟩ own O' g)) :
    FnOk P w K mg base (L2.CX P w) (k + 1) f fd ps (spM K cm fld p own (fnM n p own g)) := by
  subst hn hp
  refine fun_okC F S (fun vs H Q E h => ?_) (fun cdv cd A outer s H vs Q E hr h => ?_)
  · obtain ⟨G, ds, as, hl, _⟩ := h
    exact hl
  · obtain ⟨G, ds, as, hl, hla, st0, m⟩ := h
    refine ⟨_, hbody cdv cd A outer s H G E as hr, G, startE N.length ds, st0.start hla hpn, ?_⟩
    have hld : ds.length = ps.length := by simpa using st0.le
    have hS : (Fm.S ⟨K, cm, G, H, N.length, own, as⟩) = as := zip_snd hla
    unfold fnM at m
    rw [if_pos hld] at m
    cases e : g (startE N.length ds) with
    | nx δ' =>
      rw [e] at m
      cases eo : outsOf own δ' with
      | none => simp only [eo] at m
      | some o =>
        simp only [eo] at m
        intro σ' G' H' s1 st1
        have rs := st1.ret
        have ex := rs.1
        rw [hS] at ex
        exact m .non G' H' ex (outs_of hla rs.2 eo) .non
    | rt d δ' =>
      rw [e] at m
      cases eo : outsOf own δ' with
      | none => simp only [eo] at m
      | some o =>
        simp only [eo] at m
        intro v G' H' rs rv _
        have ex := rs.1
        rw [hS] at ex
        exact m v G' H' ex (outs_of hla rs.2 eo) rv
    | exc c d δ' =>
      rw [e] at m
      intro O'' σ' G' H' cls dd _ st1 x
      have ex := st1.ext
      rw [hS] at ex
      exact m G' H' cls dd ex x
    | bk δ' => rw [e] at m; exact m.elim
    | ct δ' => rw [e] at m; exact m.elim
    | bad => rw [e] at m; exact m.elim
end
/-! ### calls -/
section
variable {C : Sc} {O : List Nat} {G H : Hp} {σ : L2.St} {δ : Env} {f : List D → Fr} {n : Nat}
theorem map_some_get {α : Type} {l : List α} {i : Nat} {x : α} (h : (l.map some)[i]? = some (some x)) : l[i]? = some x := by
  rw [List.getElem?_map] at h
  cases e : l[i]? with
  | none => rw [e] at h; cases h
  | some y => rw [e] at h; cases h; rfl
theorem get_map_some {α : Type} {l : List α} {i : Nat} {x : α} (h : l[i]? = some x) : (l.map some)[i]? = some (some x) := by rw [List.getElem?_map, h]; rfl
/-- values alone are handed over -/
theorem callee0 {K : PySem.W.Frag} {cm : CM} {vs : List V} {ds : List D} (gh : Sg G H) (ht : TbO cm.T H) (r : Rps K cm G vs ds) (hl : vs.length = n) : Stt ⟨K, cm, G, H, n, [], []⟩ [] G H (vs.map some) (ds.map some) where
  ext := Ext.refl gh
  tabs := ht
  ln := by simpa using hl
  le := by simp [← r.length, hl]
  sh := fun i d _ h => by
    obtain ⟨v, e, rv⟩ := r.get (map_some_get h)
    exact ⟨v, get_map_some e, rv⟩
  ow := fun i hi => by cases hi
  dis := fun i hi => by cases hi
  fix := fun p hp => by cases hp
/-- the own list at a goes in at place j -/
theorem callee1 {K : PySem.W.Frag} {cm : CM} {vs : List V} {ds : List D} {j : Nat} {a : Addr} {d0 : D} (gh : Sg G H) (ht : TbO cm.T H) (hl : vs.length = n) (hd : ds.length = n) (r : ∀ (i : Nat) d, i ≠ j → ds[i]? = some d → ∃ v, vs[i]? = some v ∧ Rp K cm G v d) (hj : vs[j]? = some (.ref a)) (hd0 : ds[j]? = some d0) (na : G a = none) (o : OwnAt K cm G H a d0) :
    Stt ⟨K, cm, G, H, n, [j], [a]⟩ [j] G H (vs.map some) (ds.map some) where
  ext := Ext.refl gh
  tabs := ht
  ln := by simpa using hl
  le := by simpa using hd
  sh := fun i d hi h => by
    obtain ⟨v, e, rv⟩ := r i d (by simpa using hi) (map_some_get h)
    exact ⟨v, get_map_some e, rv⟩
  ow := fun i hi => by
    have e : i = j := by simpa using hi
    subst e
    exact ⟨a, d0, get_map_some hj, get_map_some hd0, na, o, .inr (by simp [Fm.S, Fm.own])⟩
  dis := fun i hi k hk b _ _ => by
    have e1 : i = j := by simpa using hi
    have e2 : k = j := by simpa using hk
    rw [e1, e2]
  fix := fun p hp => by
    have e : p = (j, a) := by simpa [Fm.own] using hp
    subst e
    exact ⟨by simp, get_map_some hj⟩
/-- behind a call that changed the own list of slot i alone -/
theorem Stt.after1 {F : Fm} {G' H' : Hp} (s : Stt F O G H σ δ) {i : Nat} {a : Addr} {w : D} (hi : i ∈ O) (ha : σ[i]? = some (some (.ref a))) (e : Ext F.cm.T [a] G H G' H') (na : G' a = none) (o : OwnAt F.K F.cm G' H' a w) : Stt F O G' H' σ (δ.set i (some w)) := by
  have hx : F.H a = none ∨ a ∈ F.S := s.inS a (mem_ownS.mpr ⟨i, hi, ha⟩)
  have hil : i < δ.length := by
    obtain ⟨_, d, _, e2, _⟩ := s.ow i hi
    exact (List.getElem?_eq_some_iff.mp e2).1
  have gd : ∀ {j : Nat}, j ≠ i → (δ.set i (some w))[j]? = δ[j]? := fun {j} e => List.getElem?_set_ne (Ne.symm e)
  exact {
    ext := s.ext.trans e fun x hx' => by
      have ex : x = a := by simpa using hx'
      rw [ex]
      exact hx
    ln := s.ln
    le := by simpa using s.le
    sh := fun j d hj h => by
      rw [gd (fun z => hj (by rw [z]; exact hi))] at h
      obtain ⟨v, e1, r⟩ := s.sh j d hj h
      exact ⟨v, e1, r.mono e.g⟩
    ow := fun j hj => by
      by_cases z : j = i
      · subst z
        exact ⟨a, w, ha, List.getElem?_set_self hil, na, o, hx⟩
      · rw [gd z]
        obtain ⟨b, d, e1, e2, nb, ob, zb⟩ := s.ow j hj
        have nab : b ≠ a := fun q => z (s.dis j hj i hi a (by rw [← q]; exact e1) ha)
        refine ⟨b, d, e1, e2, (e.new b ob.at).trans nb, ob.mono e.g ?_, zb⟩
        cases q : H b with
        | none => exact absurd q ob.at
        | some u => exact e.keep b u q (by simpa using nab) (ob.nc q).1
    dis := s.dis
    fix := s.fix
    tabs := s.tabs.go e.tab }
end
section
variable {X : Cx} {C : Sc} {O : List Nat} {e : Expr} {es : List Expr} {fs : List Ex} {fa : Ex} {f : List D → Fr} {pos p : Pos}
theorem xr_of {C : Sc} {G : Hp} {c : Str} {d : D} {cls : Value} {dd : Option Addr} (h : XR C.F.K C.F.cm C.fld G c d cls dd) : XRp C G c d cls dd := h
/-- the reading of a call's arguments, then the callee's promise -/
theorem r_call {n : Nat} {σ : L2.St} {H : Hp} {Q : VK} (hn : fs.length = n) (h : tD C O (eCall f fs) σ H Q) : tA C O (eL fs) σ H fun vs H1 => spM C.F.K C.F.cm C.fld n [] f vs H1 Q (WE C.W σ) := by
  obtain ⟨G, δ, st, m⟩ := h
  refine ⟨G, δ, st, ?_⟩
  unfold eCall at m
  cases e : eL fs δ with
  | ok ds δ1 =>
    rw [e, Res.bind_ok] at m
    intro vs G1 H1 s1 st1 rv
    have hl : vs.length = n := by rw [rv.length, eL_length e, hn]
    refine ⟨G1, ds, [], hl, rfl, callee0 st1.gh st1.tabs rv hl, ?_⟩
    cases ef : f ds with
    | ok d outs =>
      rw [ef] at m
      exact fun v G2 H2 ex _ r => m v G2 H2 (s1.and ex) (st1.step ex) r
    | exc c d =>
      rw [ef] at m
      exact fun G2 H2 cls dd ex x => m G2 H2 cls dd (st1.step ex) x
    | bad => rw [ef] at m; exact m.elim
  | exc c d δ1 => rw [e] at m; exact m
  | bad => rw [e] at m; exact m
theorem d_call {x : Str} {k n : Nat} {g : Addr} {fd : FuncData} {ps : List Str} (F : FnOk X.prog X.w X.K X.mg X.base (L2.CX X.prog X.w) k g fd ps (spM C.F.K C.F.cm C.fld n [] f)) (hr : Room k X.A) (hg : Gl X x) (hm : X.mg x = some (.ref g)) (hk : PySem.W.keepIn X.K (.ref g) = true) (hb : Binds X.K fd ps [])
    (tk : Takes X C.W) (ha : PA X (e :: es) (tA C O (eL fs))) (hn : fs.length = n) (hdb : (x == ("__debug__" : Str)) = false := by decide) (he : starEach (e :: es) X.env = (false, eval e X.env) :: starEach es X.env := by rfl) (hpl : (backTo pos (starEach es X.env)).any (·.1) = false := by rfl) :
    PE X (.Call (.Name x p) (e :: es) [] pos) (tD C O (eCall f fs)) := pe_imp (pe_callS F hr hg hm hk hb (fun σ => passAt tk σ) ha hdb he hpl) fun σ H Q h => r_call hn h
/-- f(own, e, ..) -/
theorem r_callO {n i : Nat} {σ : L2.St} {H : Hp} {Q : VK} (hi : i ∈ O) (hn : fs.length + 1 = n) (h : tD C O (eCallO f i fs) σ H Q) : tCons (tVar i) (tA C O (eL fs)) σ H fun vs H1 => spM C.F.K C.F.cm C.fld n [0] f vs H1 Q (WE C.W σ) := by
  obtain ⟨G, δ, st, m⟩ := h
  obtain ⟨a, d0, e1, _, _, _, _⟩ := st.ow i hi
  refine ⟨_, e1, G, δ, st, ?_⟩
  unfold eCallO at m
  cases e : eL fs δ with
  | ok ds δ1 =>
    rw [e, Res.bind_ok] at m
    intro vs G1 H1 s1 st1 rv
    obtain ⟨a', w, q1, q2, na, o, _⟩ := st1.ow i hi
    rw [e1] at q1
    cases q1
    have ev : eV i δ1 = .ok w δ1 := by unfold eV; rw [q2]
    rw [ev, Res.bind_ok] at m
    have hl : (V.ref a :: vs).length = n := by rw [List.length_cons, rv.length, eL_length e, hn]
    refine ⟨G1, w :: ds, [a], hl, rfl, callee1 (j := 0) st1.gh st1.tabs hl (by rw [List.length_cons, eL_length e, hn]) (fun i d hi h => ?_) rfl rfl na o, ?_⟩
    · cases i with
      | zero => exact absurd rfl hi
      | succ i => exact rv.get (by simpa using h)
    · cases ef : f (w :: ds) with
      | ok d outs =>
        rw [ef] at m
        match outs, m with
        | [w'], m =>
          intro v G2 H2 ex oa r
          have es : Ext _ (ownS O σ) G1 H1 G2 H2 := ⟨ex.g, ex.gh, fun b u hb hn ht => ex.keep b u hb (fun z => hn (by rw [show b = a by simpa using z]; exact mem_ownS.mpr ⟨i, hi, e1⟩)) ht, ex.new, ex.dom, ex.tab⟩
          exact m v G2 H2 (s1.thn es) (st1.after1 hi e1 ex oa.1.1 oa.1.2) r
        | [], m => exact m.elim
        | _ :: _ :: _, m => exact m.elim
      | exc c d => rw [ef] at m; exact m.elim
      | bad => rw [ef] at m; exact m.elim
  | exc c d δ1 => rw [e] at m; exact m
  | bad => rw [e] at m; exact m
theorem d_callO {x : Str} {k n i : Nat} {g : Addr} {fd : FuncData} {ps : List Str} (F : FnOk X.prog X.w X.K X.mg X.base (L2.CX X.prog X.w) k g fd ps (spM C.F.K C.F.cm C.fld n [0] f)) (hr : Room k X.A) (hg : Gl X x) (hm : X.mg x = some (.ref g)) (hk : PySem.W.keepIn X.K (.ref g) = true) (hb : Binds X.K fd ps [])
    (tk : Takes X C.W) (hi : i ∈ O) (ha : PA X (e :: es) (tCons (tVar i) (tA C O (eL fs)))) (hn : fs.length + 1 = n) (hdb : (x == ("__debug__" : Str)) = false := by decide) (he : starEach (e :: es) X.env = (false, eval e X.env) :: starEach es X.env := by rfl) (hpl : (backTo pos (starEach es X.env)).any (·.1) = false := by rfl) :
    PE X (.Call (.Name x p) (e :: es) [] pos) (tD C O (eCallO f i fs)) := pe_imp (pe_callS F hr hg hm hk hb (fun σ => passAt tk σ) ha hdb he hpl) fun σ H Q h => r_callO hi hn h
/-- f(e1, own, e, ..) -/
theorem r_callP {n i : Nat} {σ : L2.St} {H : Hp} {Q : VK} (hi : i ∈ O) (hn : fs.length + 2 = n) (h : tD C O (eCallP f fa i fs) σ H Q) : tCons (tD C O fa) (tCons (tVar i) (tA C O (eL fs))) σ H fun vs H1 => spM C.F.K C.F.cm C.fld n [1] f vs H1 Q (WE C.W σ) := by
  obtain ⟨G, δ, st, m⟩ := h
  refine ⟨G, δ, st, ?_⟩
  unfold eCallP at m
  cases e0 : fa δ with
  | exc c d δ1 => rw [e0] at m; exact m
  | bad => rw [e0] at m; exact m
  | ok x δ0 =>
    rw [e0, Res.bind_ok] at m
    intro v0 G0 H0 s0 st0 rv0
    obtain ⟨a, d0, e1, _, _, _, _⟩ := st0.ow i hi
    refine ⟨_, e1, G0, δ0, st0, ?_⟩
    cases e : eL fs δ0 with
    | ok ds δ1 =>
      rw [e, Res.bind_ok] at m
      intro vs G1 H1 s1 st1 rv
      obtain ⟨a', w, q1, q2, na, o, _⟩ := st1.ow i hi
      rw [e1] at q1
      cases q1
      have ev : eV i δ1 = .ok w δ1 := by unfold eV; rw [q2]
      rw [ev, Res.bind_ok] at m
      have hl : (v0 :: V.ref a :: vs).length = n := by rw [List.length_cons, List.length_cons, rv.length, eL_length e, hn]
      refine ⟨G1, x :: w :: ds, [a], hl, rfl, callee1 (j := 1) st1.gh st1.tabs hl (by rw [List.length_cons, List.length_cons, eL_length e, hn]) (fun i d hi h => ?_) rfl rfl na o, ?_⟩
      · match i, hi, h with
        | 0, hi, h =>
          cases h
          exact ⟨v0, rfl, rv0.mono s1.g⟩
        | 1, hi, h => exact absurd rfl hi
        | i + 2, hi, h => exact rv.get (by simpa using h)
      · cases ef : f (x :: w :: ds) with
        | ok d outs =>
          rw [ef] at m
          match outs, m with
          | [w'], m =>
            intro v G2 H2 ex oa r
            have es : Ext _ (ownS O σ) G1 H1 G2 H2 := ⟨ex.g, ex.gh, fun b u hb hn ht => ex.keep b u hb (fun z => hn (by rw [show b = a by simpa using z]; exact mem_ownS.mpr ⟨i, hi, e1⟩)) ht, ex.new, ex.dom, ex.tab⟩
            exact m v G2 H2 ((s0.thn s1).thn es) (st1.after1 hi e1 ex oa.1.1 oa.1.2) r
          | [], m => exact m.elim
          | _ :: _ :: _, m => exact m.elim
        | exc c d => rw [ef] at m; exact m.elim
        | bad => rw [ef] at m; exact m.elim
    | exc c d δ1 => rw [e] at m; exact m
    | bad => rw [e] at m; exact m
theorem d_callP {x : Str} {k n i : Nat} {g : Addr} {fd : FuncData} {ps : List Str} (F : FnOk X.prog X.w X.K X.mg X.base (L2.CX X.prog X.w) k g fd ps (spM C.F.K C.F.cm C.fld n [1] f)) (hr : Room k X.A) (hg : Gl X x) (hm : X.mg x = some (.ref g)) (hk : PySem.W.keepIn X.K (.ref g) = true) (hb : Binds X.K fd ps [])
    (tk : Takes X C.W) (hi : i ∈ O) (ha : PA X (e :: es) (tCons (tD C O fa) (tCons (tVar i) (tA C O (eL fs))))) (hn : fs.length + 2 = n) (hdb : (x == ("__debug__" : Str)) = false := by decide) (he : starEach (e :: es) X.env = (false, eval e X.env) :: starEach es X.env := by rfl) (hpl : (backTo pos (starEach es X.env)).any (·.1) = false := by rfl) :
    PE X (.Call (.Name x p) (e :: es) [] pos) (tD C O (eCallP f fa i fs)) := pe_imp (pe_callS F hr hg hm hk hb (fun σ => passAt tk σ) ha hdb he hpl) fun σ H Q h => r_callP hi hn h
end
end Mi

end
section
set_option Elab.async false
set_option linter.all false
set_option maxRecDepth 100000
set_option autoImplicit false
/-! The operators of the mirror. -/
namespace Mi
open PySem PySem.Spec

def okD (d : D) : Bool := SeqAt.shaped d.py
noncomputable def addD : D → D → Option D
  | .int i, .int j => some (.int (i + j))
  | .tup a, .tup b => if a.length + b.length ≤ cap then some (.tup (a ++ b)) else none
  | .lst a, .lst b => if a.length + b.length ≤ cap then some (.lst (a ++ b)) else none
  | .str a, .str b => if a.length + b.length ≤ cap then some (.str (a ++ b)) else none
  | _, _ => none
noncomputable def addL : D → D → Option D
  | .lst a, .lst b => if a.length + b.length ≤ cap then some (.lst (a ++ b)) else none
  | _, _ => none
def subD : D → D → Option D
  | .int i, .int j => some (.int (i - j))
  | _, _ => none
def mulD : D → D → Option D
  | .int i, .int j => if (-(2 ^ 64) < i ∧ i < 2 ^ 64) ∨ (-(2 ^ 64) < j ∧ j < 2 ^ 64) then some (.int (i * j)) else none
  | _, _ => none
def modD : D → D → Option D
  | .int i, .int j => if 0 < j then some (.int (i % j)) else none
  | _, _ => none
def fdivD : D → D → Option D
  | .int i, .int j => if 0 < j ∧ j < 1073741824 then some (.int (i / j)) else none
  | _, _ => none
def powD : D → D → Option D
  | .int i, .int j => if 0 ≤ j ∧ j ≤ 1000000 ∧ i.natAbs < 2 ^ 64 then some (.int (i ^ j.toNat)) else none
  | _, _ => none
def negD : D → Option D
  | .int i => some (.int (-i))
  | _ => none
def cmpD (p : Int → Int → Bool) : D → D → Option D
  | .int i, .int j => some (.bl (p i j))
  | _, _ => none
abbrev ltD := cmpD fun i j => decide (i < j)
abbrev leD := cmpD fun i j => decide (i ≤ j)
abbrev gtD := cmpD fun i j => decide (j < i)
abbrev geD := cmpD fun i j => decide (j ≤ i)
def eqD (x y : D) : Option D := if okD x && okD y then some (.bl (PyData.eqv x.py y.py)) else none
def neD (x y : D) : Option D := if okD x && okD y then some (.bl (!PyData.eqv x.py y.py)) else none
def inB (x : D) (ys : List D) : Bool := ys.any fun y => PyData.eqv y.py x.py
def inO (x y : D) : Option Bool := match y with
  | .lst ys => if okD x && okD (.lst ys) then some (inB x ys) else none
  | .tup ys => if okD x && okD (.tup ys) then some (inB x ys) else none
  | _ => none
def inD (x y : D) : Option D := (inO x y).map .bl
def ninD (x y : D) : Option D := (inO x y).map fun b => .bl (!b)
def isNon : D → Bool
  | .non => true
  | _ => false
def isND (x y : D) : Option D := match y with
  | .non => some (.bl (isNon x))
  | _ => none
def nisND (x y : D) : Option D := match y with
  | .non => some (.bl (!isNon x))
  | _ => none
def idxD (x y : D) : Option D := match y with
  | .int i => (seqOf x).bind fun xs => (ixD xs.length i).bind fun j => xs[j]?
  | _ => none
def cutD {α : Type} (xs : List α) (lo hi : Option Int) : List α := (xs.drop (HT.sIx xs.length 0 lo)).take (HT.sIx xs.length xs.length hi - HT.sIx xs.length 0 lo)
def slD (x : D) (l h : Option Int) : Option D := match x with
  | .lst xs => some (.lst (cutD xs l h))
  | .tup xs => some (.tup (cutD xs l h))
  | _ => none
def slL (x : D) (l h : Option Int) : Option D := match x with
  | .lst xs => some (.lst (cutD xs l h))
  | _ => none
def lenD : D → Option D
  | .lst xs => some (.int xs.length)
  | .tup xs => some (.int xs.length)
  | _ => none
def tyN : D → Option String
  | .non => some "NoneType"
  | .bl _ => some "bool"
  | .int _ => some "int"
  | .str _ => some "str"
  | .lst _ => some "list"
  | .tup _ => some "tuple"
  | .dic _ => some "dict"
  | _ => none
def tyB (n T : String) : Bool := n == T || (n == "bool" && T == "int")
def isD (T : String) (d : D) : Option D := (tyN d).map fun n => .bl (tyB n T)
def listD (d : D) : Option D := (seqOf d).map .lst
def tupleD (d : D) : Option D := (seqOf d).map .tup
def intD : D → Option D
  | .int i => some (.int i)
  | .bl b => some (.int (if b then 1 else 0))
  | _ => none
def absD : D → Option D
  | .int i => some (.int (if i < 0 then -i else i))
  | _ => none
def max2D : D → D → Option D
  | .int i, .int j => some (.int (if j > i then j else i))
  | _, _ => none
def min2D : D → D → Option D
  | .int i, .int j => some (.int (if j < i then j else i))
  | _, _ => none
def intsO : List D → Option (List Int)
  | [] => some []
  | .int i :: r => (intsO r).map (i :: ·)
  | _ :: _ => none
def blsO : List D → Option (List Bool)
  | [] => some []
  | .bl i :: r => (blsO r).map (i :: ·)
  | _ :: _ => none
def isort (l : List Int) : List Int := l.mergeSort (fun a b => decide (a ≤ b))
def sortD : D → Option D
  | .lst xs => (intsO xs).map fun ns => .lst ((isort ns).map .int)
  | _ => none
def allD : D → Option D
  | .lst xs => (blsO xs).map fun bs => .bl (bs.all id)
  | _ => none
def anyD : D → Option D
  | .lst xs => (blsO xs).map fun bs => .bl (bs.any id)
  | _ => none
def udup : List Int → List Int
  | [] => []
  | a :: r => if a ∈ udup r then udup r else a :: udup r
/-- sorted(set(xs)) -/
def ssetD : D → Option D
  | .lst xs => (intsO xs).bind fun ns => if ns.length < 64 ∨ (ns.length < 4000 ∧ (udup ns).length < 64) then some (.lst ((isort (udup ns)).map .int)) else none
  | _ => none
/-- x.index(y), ints -/
def ixOfD (x y : D) : Option D := match y with
  | .int k => (seqOf x).bind fun xs => (intsO xs).bind fun ns => if k ∈ ns then some (.int (ns.idxOf k : Nat)) else none
  | _ => none
/-- list(range(a)) -/
noncomputable def eLrg (a : Ex) : Ex := fun δ => (a δ).bind fun x δ1 => match x with
  | .int i => if -cap ≤ i ∧ i ≤ cap then .ok (.lst (rng 0 i.toNat)) δ1 else .bad
  | _ => .bad
def addI : D → D → Option D
  | .int i, .int j => some (.int (i + j))
  | _, _ => none
def eIx (a b : Ex) : Ex := fun δ => (a δ).bind fun x δ1 => match seqOf x with
  | none => .bad
  | some _ => (b δ1).bind fun y δ2 => Res.opt (ixOfD x y) δ2
end Mi

end
section
set_option Elab.async false
set_option linter.all false
set_option maxRecDepth 100000
set_option autoImplicit false
set_option maxHeartbeats 4000000
namespace Mi
open PySem PySem.Spec PyProof.Rows L2

/-! ### rules for operators -/
def rCatS (K : PySem.W.Frag) : R2 := fun x y H Q => ∃ a b xs ys, x = .ref a ∧ y = .ref b ∧ SqL K H a xs ∧ SqL K H b ys ∧ xs.length + ys.length ≤ sizeLine ∧ ∀ p, H p = none → Q (.ref p) (upd H p (.lst (xs ++ ys)))
theorem op_catS {X : Cx} : OpR X (binaryOp .Add) (rCatS X.K) := by
  intro pins s σ H x y v u Q I rx ry ⟨a, b, xs, ys, ex, ey, ha, hb, hz, q⟩
  subst ex ey
  cases rx
  cases ry
  obtain ⟨i1, r1, p1, _⟩ := I.list ha
  obtain ⟨i2, r2, p2, _⟩ := I.list hb
  obtain ⟨⟨c1, d1, t1, s1⟩, n1, e1, hc1, hd1, hs1⟩ := p1
  obtain ⟨⟨c2, d2, t2, s2⟩, n2, e2, hc2, hd2, hs2⟩ := p2
  simp only at hc1 hs1 hc2 hs2
  subst hc1 hs1 hc2 hs2
  have l1 := r1.length
  have l2 := r2.length
  refine concat_meets ⟨_, e1, rfl⟩ ⟨_, e2, rfl⟩ noFill_list_add seq_list_add PySem.F.slot_list_add PySem.F.entry_list_add
    (PySem.F.args_list_add_2 _ _) (list_addW a b i1.toArray i2.toArray n1 n2 d1 d2 s1 s2 (by simp only [List.size_toArray]; omega)) ⟨e1, e2, ?_⟩
  have ea : i1.toArray ++ i2.toArray = (i1 ++ i2).toArray := by simp
  rw [ea]
  exact ⟨.ref _, _, I.lnew (t' := s.toks) (r1.append r2) (by rw [List.length_append]; omega), rfl, q _ I.fresh⟩
/-- a new tuple whose object is known -/
abbrev NewT (H : Hp) (xs : List V) (Q : VK) : Prop := ∀ p (o : Obj), H p = none → o.dict = none → Q (.ref p) (upd H p (.frz o (.tup xs)))
theorem new_tup {X : Cx} {pins : List (Addr × Obj)} {s : Shared} {σ : L2.St} {H : Hp} {h' : Heap} {its : List Value} {xs : List V} {Q : VK} {t' : Nat} (I : Inv X pins σ H s) (k : ∀ b o, s.heap.get? b = some o → h'.get? b = some o) (hs : s.heap.objs.size ≤ h'.objs.size) (r : Vals xs its) (hz : xs.length ≤ sizeLine) (q : NewT H xs Q) :
    EP X pins σ Q (.ref h'.objs.size) { s with heap := h'.push { cls := .type "tuple", data := .seq its.toArray }, toks := t' } := by
  have e := Heap.get?_push_size h' (o := { cls := .type "tuple", data := .seq its.toArray }) rfl
  exact ⟨.ref _, _, I.laid (t' := t') (o := .frz { cls := .type "tuple", data := .seq its.toArray } (.tup xs)) (fun b o z => Heap.get?_push_of_some _ (k b o z)) hs ⟨e, hz, its, r, _, e, rfl, _, rfl⟩, rfl, q _ _ (I.hok.fresh hs) rfl⟩
def rCatF (K : PySem.W.Frag) : R2 := fun x y H Q => ∃ a b xs ys, x = .ref a ∧ y = .ref b ∧ SqT K H a xs ∧ SqT K H b ys ∧ xs.length + ys.length ≤ sizeLine ∧
  (xs = [] → Q (.ref b) H) ∧ (xs ≠ [] → ys = [] → Q (.ref a) H) ∧ (xs ≠ [] → ys ≠ [] → NewT H (xs ++ ys) Q)
theorem op_catF {X : Cx} : OpR X (binaryOp .Add) (rCatF X.K) := by
  intro pins s σ H x y v u Q I rx ry ⟨a, b, xs, ys, ex, ey, ha, hb, hz, q0, q1, q2⟩
  subst ex ey
  cases rx
  cases ry
  obtain ⟨i1, r1, p1, _⟩ := I.tuple ha
  obtain ⟨i2, r2, p2, _⟩ := I.tuple hb
  by_cases hx : xs = []
  · subst hx
    cases r1
    exact L2.cat_tup0 p1 p2 ⟨.ref b, H, I, rfl, q0 rfl⟩
  · refine HT.cat_tup p1 p2 (fun z => hx (r1.nil_iff.mp z)) (fun z => ⟨.ref a, H, I, rfl, q1 hx (r2.nil_iff.mp z)⟩) (fun z => ?_) (by rw [← r1.length, ← r2.length]; exact hz)
    exact new_tup (t' := s.toks) I (fun _ _ z => z) (Nat.le_refl _) (r1.append r2) (by rw [List.length_append]; exact hz) (q2 hx fun w => z (r2.nil_iff.mpr w))
def rSlF (K : PySem.W.Frag) : V → Option Int → Option Int → Hp → VK → Prop := fun x lo hi H Q => ∃ a xs, x = .ref a ∧ SqT K H a xs ∧
  (HT.sIx xs.length 0 lo = 0 ∧ HT.sIx xs.length xs.length hi = xs.length → Q (.ref a) H) ∧ (¬ (HT.sIx xs.length 0 lo = 0 ∧ HT.sIx xs.length xs.length hi = xs.length) → NewT H (cutV xs lo hi) Q)
theorem sl_tupF {X : Cx} : SlR X (rSlF X.K) := by
  intro pins s σ H x v vl vu lo hi sl Q I rx hs pl pu ⟨a, xs, ex, hx, q1, q2⟩
  subst ex
  cases rx
  obtain ⟨its, r, ht, hz⟩ := I.tuple hx
  have hlen : its.toArray.size = xs.length := by rw [List.size_toArray]; exact r.length.symm
  refine ⟨"tuple", _, PyProof.Rows.slot_tuple_getitem.lookup, ht.typeIs, ?_⟩
  by_cases hw : HT.sIx xs.length 0 lo = 0 ∧ HT.sIx xs.length xs.length hi = xs.length
  · exact L2.getItem_tuple_whole ht hs pl pu (by rw [hlen]; exact hw) ⟨.ref a, H, I, rfl, q1 hw⟩
  · refine HT.getItem_tuple_cut ht hs pl pu (by rw [hlen]; exact hw) ?_ (by rw [hlen]; exact hz)
    rw [hlen]
    exact new_tup (t' := s.toks) I (fun _ _ z => z) (Nat.le_refl _) ((r.drop (HT.sIx xs.length 0 lo)).take _) (Nat.le_trans (cutV_length xs lo hi) hz) (q2 hw)
def rTupF (K : PySem.W.Frag) : List V → Hp → VK → Prop := fun xs H Q => ∃ p ys, xs = [.ref p] ∧ ((SqL K H p ys ∧ NewT H ys Q) ∨ (SqT K H p ys ∧ Q (.ref p) H))
theorem call_tupF {X : Cx} : CallR X (.type "tuple") (rTupF X.K) := by
  intro pins s σ H xs us Q I r ⟨p, ys, ex, h⟩
  subst ex
  obtain ⟨u, rfl, rx⟩ := vals1 r
  cases rx
  rcases h with ⟨hq, q⟩ | ⟨hq, q⟩
  · obtain ⟨its, r', pl, hz⟩ := I.list hq
    have hlen := r'.length
    refine call_tuple_list pl.isList (fun h' kp => ?_) (by simp only [List.size_toArray]; omega)
    have I1 : Inv X pins σ H { s with heap := h' } := I.kept (t' := s.toks) kp
    exact new_tup (s := { s with heap := h' }) (h' := h') (t' := s.toks) I1 (fun _ _ z => z) (Nat.le_refl _) r' hz q
  · obtain ⟨its, _, p1, _⟩ := I.tuple hq
    exact call_tuple_same (items := its.toArray) p1 ⟨.ref p, H, I, rfl, q⟩
def rSlS (K : PySem.W.Frag) : V → Option Int → Option Int → Hp → VK → Prop := fun x lo hi H Q => rSlL K x lo hi H Q ∨ rSlF K x lo hi H Q
theorem sl_S {X : Cx} : SlR X (rSlS X.K) := sl_list.or sl_tupF
def rStrS : R2 := fun x y H Q => ∃ i j, x = .str i ∧ y = .str j ∧ i.length + j.length ≤ sizeLine ∧ Q (.str (i ++ j)) H
def rAdd (K : PySem.W.Frag) : R2 := fun x y H Q => rI0 (fun i j => .int (i + j)) x y H Q ∨ rCatF K x y H Q ∨ rCatS K x y H Q ∨ rStrS x y H Q
theorem op_addD {X : Cx} : OpR X (binaryOp .Add) (rAdd X.K) := op_add.or (op_catF.or (op_catS.or op_add_str))
/-- in, deep, lists and tuples -/
def rInS (K : PySem.W.Frag) (f : Bool → Bool) : R2 := fun x y H Q => ∃ d ds, Dp K H x d ∧ (Dp K H y (.list ds) ∨ Dp K H y (.tuple ds)) ∧ SeqAt.shaped d = true ∧ PyData.canLayAll0 ds = true ∧ Q (.bl (f (ds.any fun z => PyData.eqv z d))) H
theorem op_inS {X : Cx} (hu : X.A.units + 65 < cLine) : OpR X (compareOp .In) (rInS X.K id) := by
  intro pins s σ H x y v u Q I rx ry ⟨d, ds, hd, he, sd, se, q⟩
  obtain ⟨as, r1⟩ := Dp.reads I d x v hd rx
  rcases he with he | he
  · obtain ⟨bs, r2⟩ := Dp.reads I (.list ds) y u he ry
    exact SeqAt.in_list_reads r2 r1 se (SeqAt.canLay_of_shaped sd) (room_in_shaped sd hu) ⟨.bl _, H, I, rfl, q⟩
  · obtain ⟨bs, r2⟩ := Dp.reads I (.tuple ds) y u he ry
    exact SeqAt.in_tuple_reads r2 r1 se (SeqAt.canLay_of_shaped sd) (room_in_shaped sd hu) ⟨.bl _, H, I, rfl, q⟩
theorem op_ninS {X : Cx} (hu : X.A.units + 65 < cLine) : OpR X (compareOp .NotIn) (rInS X.K not) := by
  intro pins s σ H x y v u Q I rx ry ⟨d, ds, hd, he, sd, se, q⟩
  obtain ⟨as, r1⟩ := Dp.reads I d x v hd rx
  rcases he with he | he
  · obtain ⟨bs, r2⟩ := Dp.reads I (.list ds) y u he ry
    exact SeqAt.notIn_list_reads r2 r1 se (SeqAt.canLay_of_shaped sd) (room_in_shaped sd hu) ⟨.bl _, H, I, rfl, q⟩
  · obtain ⟨bs, r2⟩ := Dp.reads I (.tuple ds) y u he ry
    exact SeqAt.notIn_tuple_reads r2 r1 se (SeqAt.canLay_of_shaped sd) (room_in_shaped sd hu) ⟨.bl _, H, I, rfl, q⟩

/-! ### they answer as the mirror's operators do -/
section
variable {K : PySem.W.Frag} {cm : CM} {G H : Hp} {v w : V} {d e : D}
theorem cap_le : cap ≤ sizeLine := Nat.le_of_lt cap_line
/-- the answer stands for data -/
abbrev Ans (K : PySem.W.Frag) (cm : CM) (G H : Hp) (d : D) (Q : VK) : Prop := ∀ v' G' H', Ext cm.T [] G H G' H' → Rp K cm G' v' d → Q v' H'
theorem Ans.now {Q : VK} (gh : Sg G H) (a : Ans K cm G H d Q) (r : Rp K cm G v d) : Q v H := a v G H (.refl gh) r
/-- .. a new list that is never changed -/
theorem Ans.lst {Q : VK} (gh : Sg G H) {ds : List D} {xs : List V} (a : Ans K cm G H (.lst ds) Q) (r : Rps K cm G xs ds) {p : Addr} (n : H p = none) : Q (.ref p) (upd H p (.lst xs)) :=
  a _ _ _ (Ext.push gh n) (.lst (SqL.of upd_same) (r.mono (Ext.push (T := cm.T) (o := .lst xs) gh n).g))
theorem Ans.tup {Q : VK} (gh : Sg G H) {ds : List D} {xs : List V} (a : Ans K cm G H (.tup ds) Q) (r : Rps K cm G xs ds) : NewT H xs Q := fun p o n e =>
  a _ _ _ (Ext.push gh n) (.tup (.of upd_same e) (r.mono (Ext.push (T := cm.T) (o := .frz o (.tup xs)) gh n).g))
theorem Vw.str' {x : Str} (h : Vw K cm G H v (.str x)) : v = .str x := h.str
theorem Vw.rtup {ds : List D} (h : Vw K cm G H v (.tup ds)) : Rp K cm G v (.tup ds) := by
  rcases h with h | ⟨a, rfl, h⟩
  · exact h
  · exact h.elim
theorem a_addD : S2 K cm (rAdd K) addD := fun G H v w d e d' Q gh v1 v2 ho (a : Ans K cm G H d' Q) => by
  unfold addD at ho
  split at ho
  · cases ho
    exact .inl ⟨_, _, v1.int, v2.int, a.now gh (.int _)⟩
  · split at ho
    · rename_i x y hl
      cases ho
      obtain ⟨a1, x1, rfl, q1, r1⟩ := v1.tup gh
      obtain ⟨a2, x2, rfl, q2, r2⟩ := v2.tup gh
      have l1 := r1.length
      have l2 := r2.length
      have rr := r1.app r2
      refine .inr (.inl ⟨_, _, _, _, rfl, rfl, q1, q2, by rw [l1, l2]; exact Nat.le_trans hl cap_le, fun e => ?_, fun _ e => ?_, fun _ _ => a.tup gh rr⟩)
      · subst e
        cases r1
        exact a.now gh v2.rtup
      · subst e
        cases r2
        rw [List.append_nil] at a
        exact a.now gh v1.rtup
    · cases ho
  · split at ho
    · rename_i x y hl
      cases ho
      obtain ⟨a1, x1, rfl, q1, r1⟩ := v1.lst gh
      obtain ⟨a2, x2, rfl, q2, r2⟩ := v2.lst gh
      have l1 := r1.length
      have l2 := r2.length
      exact .inr (.inr (.inl ⟨_, _, _, _, rfl, rfl, q1, q2, by rw [l1, l2]; exact Nat.le_trans hl cap_le, fun p n => a.lst gh (r1.app r2) n⟩))
    · cases ho
  · split at ho
    · rename_i x y hl
      cases ho
      exact .inr (.inr (.inr ⟨_, _, v1.str, v2.str, Nat.le_trans hl cap_le, a.now gh (.str _)⟩))
    · cases ho
  · cases ho
theorem a_addL : N2 K cm (rAdd K) addL := fun G H v w d e d' Q gh v1 v2 ho a => by
  unfold addL at ho
  split at ho
  · split at ho
    · rename_i x y hl
      cases ho
      obtain ⟨a1, x1, rfl, q1, r1⟩ := v1.lst gh
      obtain ⟨a2, x2, rfl, q2, r2⟩ := v2.lst gh
      have l1 := r1.length
      have l2 := r2.length
      exact .inr (.inr (.inl ⟨_, _, _, _, rfl, rfl, q1, q2, by rw [l1, l2]; exact Nat.le_trans hl cap_le, fun p n => a p _ n ⟨_, upd_same, r1.app r2⟩⟩))
    · cases ho
  · cases ho
theorem a_subD : S2 K cm (rI0 fun i j => .int (i - j)) subD := fun G H v w d e d' Q gh v1 v2 ho (a : Ans K cm G H d' Q) => by
  unfold subD at ho
  split at ho
  · cases ho
    exact ⟨_, _, v1.int, v2.int, a.now gh (.int _)⟩
  · cases ho
theorem a_mulD : S2 K cm (rI CMul fun i j => .int (i * j)) mulD := fun G H v w d e d' Q gh v1 v2 ho (a : Ans K cm G H d' Q) => by
  unfold mulD at ho
  split at ho
  · split at ho
    · cases ho
      exact ⟨_, _, v1.int, v2.int, by assumption, a.now gh (.int _)⟩
    · cases ho
  · cases ho
theorem a_modD : S2 K cm (rI (fun _ j => 0 < j) fun i j => .int (i % j)) modD := fun G H v w d e d' Q gh v1 v2 ho (a : Ans K cm G H d' Q) => by
  unfold modD at ho
  split at ho
  · split at ho
    · cases ho
      exact ⟨_, _, v1.int, v2.int, by assumption, a.now gh (.int _)⟩
    · cases ho
  · cases ho
theorem a_fdivD : S2 K cm (rI CDiv fun i j => .int (i / j)) fdivD := fun G H v w d e d' Q gh v1 v2 ho (a : Ans K cm G H d' Q) => by
  unfold fdivD at ho
  split at ho
  · split at ho
    · cases ho
      exact ⟨_, _, v1.int, v2.int, by assumption, a.now gh (.int _)⟩
    · cases ho
  · cases ho
theorem a_powD : S2 K cm (rI CPow fun i j => .int (i ^ j.toNat)) powD := fun G H v w d e d' Q gh v1 v2 ho (a : Ans K cm G H d' Q) => by
  unfold powD at ho
  split at ho
  · split at ho
    · cases ho
      exact ⟨_, _, v1.int, v2.int, by assumption, a.now gh (.int _)⟩
    · cases ho
  · cases ho
theorem a_negD : S1 K cm (rU fun i => .int (-i)) negD := fun G H v d d' Q gh v1 ho (a : Ans K cm G H d' Q) => by
  unfold negD at ho
  split at ho
  · cases ho
    exact ⟨_, v1.int, a.now gh (.int _)⟩
  · cases ho
theorem a_cmpD {p : Int → Int → Bool} : S2 K cm (rI0 fun i j => .bl (p i j)) (cmpD p) := fun G H v w d e d' Q gh v1 v2 ho (a : Ans K cm G H d' Q) => by
  unfold cmpD at ho
  split at ho
  · cases ho
    exact ⟨_, _, v1.int, v2.int, a.now gh (.bl _)⟩
  · cases ho
theorem Vw.dp (gh : Same G H) (h : Vw K cm G H v d) (o : okD d = true) : Dp K H v d.py := (h.full gh).dp (SeqAt.canLay_of_shaped o)
theorem a_eqD : S2 K cm (rEqD K) eqD := fun G H v w d e d' Q gh v1 v2 ho (a : Ans K cm G H d' Q) => by
  unfold eqD at ho
  split at ho
  · rename_i h
    cases ho
    simp only [Bool.and_eq_true] at h
    exact ⟨_, _, v1.dp gh h.1, v2.dp gh h.2, h.1, h.2, a.now gh (.bl _)⟩
  · cases ho
theorem a_neD : S2 K cm (rNeD K) neD := fun G H v w d e d' Q gh v1 v2 ho (a : Ans K cm G H d' Q) => by
  unfold neD at ho
  split at ho
  · rename_i h
    cases ho
    simp only [Bool.and_eq_true] at h
    exact ⟨_, _, v1.dp gh h.1, v2.dp gh h.2, h.1, h.2, a.now gh (.bl _)⟩
  · cases ho
theorem inB_py {x : D} : ∀ ys : List D, inB x ys = (D.pys ys).any fun z => PyData.eqv z x.py
  | [] => rfl
  | y :: ys => by
    have := inB_py (x := x) ys
    unfold inB at this ⊢
    simp only [D.pys, List.any_cons, this]
theorem inO_py {x y : D} {b : Bool} (h : inO x y = some b) (v2 : Rp K cm H w y) (v1 : Rp K cm H v x) : ∃ ds, Dp K H v x.py ∧ (Dp K H w (.list ds) ∨ Dp K H w (.tuple ds)) ∧ SeqAt.shaped x.py = true ∧ PyData.canLayAll0 ds = true ∧ b = ds.any fun z => PyData.eqv z x.py := by
  unfold inO at h
  split at h
  · rename_i ys
    split at h
    · rename_i c
      cases h
      simp only [Bool.and_eq_true] at c
      exact ⟨_, v1.dp (SeqAt.canLay_of_shaped c.1), .inl (v2.dp (SeqAt.canLay_of_shaped c.2)), c.1, SeqAt.canLay_of_shaped c.2, inB_py ys⟩
    · cases h
  · rename_i ys
    split at h
    · rename_i c
      cases h
      simp only [Bool.and_eq_true] at c
      exact ⟨_, v1.dp (SeqAt.canLay_of_shaped c.1), .inr (v2.dp (SeqAt.canLay_of_shaped c.2)), c.1, SeqAt.canLay_of_shaped c.2, inB_py ys⟩
    · cases h
  · cases h
theorem a_inD : S2 K cm (rInS K id) inD := fun G H v w d e d' Q gh v1 v2 ho (a : Ans K cm G H d' Q) => by
  unfold inD at ho
  cases h : inO d e with
  | none => rw [h] at ho; cases ho
  | some b =>
    rw [h] at ho
    cases ho
    obtain ⟨ds, h1, h2, h3, h4, rfl⟩ := inO_py h (v2.full gh) (v1.full gh)
    exact ⟨_, ds, h1, h2, h3, h4, a.now gh (.bl _)⟩
theorem a_ninD : S2 K cm (rInS K not) ninD := fun G H v w d e d' Q gh v1 v2 ho (a : Ans K cm G H d' Q) => by
  unfold ninD at ho
  cases h : inO d e with
  | none => rw [h] at ho; cases ho
  | some b =>
    rw [h] at ho
    cases ho
    obtain ⟨ds, h1, h2, h3, h4, rfl⟩ := inO_py h (v2.full gh) (v1.full gh)
    exact ⟨_, ds, h1, h2, h3, h4, a.now gh (.bl _)⟩
theorem isNon_of (h : Vw K cm G H v d) : decide (v = V.non) = isNon d := by
  rcases h with h | ⟨a, rfl, h⟩
  · cases h <;> simp [isNon]
  · cases d <;> first | exact h.elim | simp [isNon]
theorem a_isND : S2 K cm (fun x y H Q => y = .non ∧ Q (.bl (decide (x = .non))) H) isND := fun G H v w d e d' Q gh v1 v2 ho (a : Ans K cm G H d' Q) => by
  unfold isND at ho
  split at ho
  · cases ho
    refine ⟨v2.non, ?_⟩
    rw [isNon_of v1]
    exact a.now gh (.bl _)
  · cases ho
theorem a_nisND : S2 K cm (fun x y H Q => y = .non ∧ Q (.bl (!decide (x = .non))) H) nisND := fun G H v w d e d' Q gh v1 v2 ho (a : Ans K cm G H d' Q) => by
  unfold nisND at ho
  split at ho
  · cases ho
    refine ⟨v2.non, ?_⟩
    rw [isNon_of v1]
    exact a.now gh (.bl _)
  · cases ho
theorem ixD_eq : ixD = ixN := rfl
theorem Rps.atI {xs : List V} {ds : List D} {i : Int} (r : Rps K cm G xs ds) (h : L2.atI ds i = some d) : ∃ v, L2.atI xs i = some v ∧ Rp K cm G v d := by
  unfold L2.atI at h ⊢
  rw [r.length]
  cases e : ixN ds.length i with
  | none => rw [e] at h; cases h
  | some j =>
    rw [e] at h
    exact r.get h
theorem a_idxD : S2 K cm (rIx K) idxD := fun G H v w d e d' Q gh v1 v2 ho (a : Ans K cm G H d' Q) => by
  unfold idxD at ho
  split at ho
  · cases es : seqOf d with
    | none => rw [es] at ho; cases ho
    | some xs =>
      rw [es] at ho
      have ho' : L2.atI xs _ = some d' := ho
      cases d with
      | lst ds =>
        cases es
        obtain ⟨p, ys, rfl, q, r⟩ := v1.lst gh
        obtain ⟨z, e1, rz⟩ := r.atI ho'
        exact .inl ⟨p, ys, _, z, rfl, v2.int, q, e1, a.now gh rz⟩
      | tup ds =>
        cases es
        obtain ⟨p, ys, rfl, q, r⟩ := v1.tup gh
        obtain ⟨z, e1, rz⟩ := r.atI ho'
        exact .inr (.inl ⟨p, ys, _, z, rfl, v2.int, q, e1, a.now gh rz⟩)
      | _ => cases es
  · cases ho
theorem kit_tab : (["NoneType", "bool", "int", "str", "list", "tuple", "dict"].all fun n => ["bool", "int", "str", "list", "tuple", "dict"].all fun T => kitB n T == some (tyB n T)) = true := by decide +kernel
theorem kit_at {n T : String} (hn : n ∈ ["NoneType", "bool", "int", "str", "list", "tuple", "dict"]) (hT : T ∈ ["bool", "int", "str", "list", "tuple", "dict"]) : kitB n T = some (tyB n T) := by
  have h := List.all_eq_true.mp (List.all_eq_true.mp kit_tab n hn) T hT
  exact eq_of_beq h
theorem tyx_of {n : String} (gh : Same G H) (h : Vw K cm G H v d) (e : tyN d = some n) : TyX K H v (.type n) ∧ n ∈ ["NoneType", "bool", "int", "str", "list", "tuple", "dict"] := by
  have sq : ∀ {a : Addr} {xs : List V}, SqL K H a xs → TyX K H (.ref a) (.type "list") := fun {a xs} h => by
    rcases h with (h | ⟨o, h⟩) | ⟨o, its, n, hk, hc, _⟩
    · exact .base (.lst h)
    · exact .base (.frz h)
    · exact .kList hk hc
  have sqt : ∀ {a : Addr} {xs : List V}, SqT K H a xs → TyX K H (.ref a) (.type "tuple") := fun {a xs} h => by
    rcases h with (h | ⟨o, h⟩) | ⟨o, its, n, hk, hc, _⟩
    · exact .base (.tup h)
    · exact .fTuple h
    · exact .kTuple hk hc
  cases d with
  | non => cases e; rw [h.non]; exact ⟨.base .non, by decide⟩
  | bl b => cases e; rw [h.bl]; exact ⟨.base (.bl b), by decide⟩
  | int i => cases e; rw [h.int]; exact ⟨.base (.int i), by decide⟩
  | str x => cases e; rw [h.str]; exact ⟨.base (.str x), by decide⟩
  | lst ds =>
    cases e
    obtain ⟨p, ys, rfl, q, r⟩ := h.lst gh
    exact ⟨sq q, by decide⟩
  | tup ds =>
    cases e
    obtain ⟨p, ys, rfl, q, r⟩ := h.tup gh
    exact ⟨sqt q, by decide⟩
  | dic ds =>
    cases e
    rcases h with h | ⟨a, rfl, kvs, q, _⟩
    · cases h with
      | dic q r =>
        rcases same_rd gh q with q | ⟨o, q⟩
        · exact ⟨.base (.dK q), by decide⟩
        · exact ⟨.fDict q, by decide⟩
    · exact ⟨.base (.dK q), by decide⟩
  | _ => cases e
theorem a_isD {T : String} (hT : T ∈ ["bool", "int", "str", "list", "tuple", "dict"]) : S1 K cm (fun v H Q => rIsi K [v, .ty T] H Q) (isD T) := fun G H v d d' Q gh v1 ho (a : Ans K cm G H d' Q) => by
  unfold isD at ho
  cases e : tyN d with
  | none => rw [e] at ho; cases ho
  | some n =>
    rw [e] at ho
    cases ho
    obtain ⟨t, hn⟩ := tyx_of gh v1 e
    exact ⟨v, .ty T, _, _, _, rfl, .ty T, t, kit_ty (kit_at hn hT), a.now gh (.bl _)⟩
theorem a_lenD : S1 K cm (fun v H Q => ∃ x n, [v] = [x] ∧ LenV K x H n ∧ Q (.int n) H) lenD := fun G H v d d' Q gh v1 ho (a : Ans K cm G H d' Q) => by
  unfold lenD at ho
  split at ho
  · cases ho
    obtain ⟨p, ys, rfl, q, r⟩ := v1.lst gh
    exact ⟨_, ys.length, rfl, .inl ⟨ys, q, rfl⟩, by rw [r.length]; exact a.now gh (.int _)⟩
  · cases ho
    obtain ⟨p, ys, rfl, q, r⟩ := v1.tup gh
    exact ⟨_, ys.length, rfl, .inr ⟨ys, q, rfl⟩, by rw [r.length]; exact a.now gh (.int _)⟩
  · cases ho
theorem a_listD : S1 K cm (fun v H Q => ∃ p ys, [v] = [.ref p] ∧ (SqL K H p ys ∨ SqT K H p ys) ∧ ∀ l, H l = none → Q (.ref l) (upd H l (.lst ys))) listD := fun G H v d d' Q gh v1 ho (a : Ans K cm G H d' Q) => by
  cases d with
  | lst ds => cases ho; obtain ⟨p, ys, rfl, q, r⟩ := v1.lst gh; exact ⟨p, ys, rfl, .inl q, fun l n => a.lst gh r n⟩
  | tup ds => cases ho; obtain ⟨p, ys, rfl, q, r⟩ := v1.tup gh; exact ⟨p, ys, rfl, .inr q, fun l n => a.lst gh r n⟩
  | _ => cases ho
theorem a_listN : N1 K cm (fun v H Q => ∃ p ys, [v] = [.ref p] ∧ (SqL K H p ys ∨ SqT K H p ys) ∧ ∀ l, H l = none → Q (.ref l) (upd H l (.lst ys))) listD := fun G H v d d' Q gh v1 ho a => by
  cases d with
  | lst ds => cases ho; obtain ⟨p, ys, rfl, q, r⟩ := v1.lst gh; exact ⟨p, ys, rfl, .inl q, fun l n => a l _ n ⟨ys, upd_same, r⟩⟩
  | tup ds => cases ho; obtain ⟨p, ys, rfl, q, r⟩ := v1.tup gh; exact ⟨p, ys, rfl, .inr q, fun l n => a l _ n ⟨ys, upd_same, r⟩⟩
  | _ => cases ho
theorem a_tupleD : S1 K cm (fun v H Q => rTupF K [v] H Q) tupleD := fun G H v d d' Q gh v1 ho (a : Ans K cm G H d' Q) => by
  cases d with
  | lst ds => cases ho; obtain ⟨p, ys, rfl, q, r⟩ := v1.lst gh; exact ⟨p, ys, rfl, .inl ⟨q, a.tup gh r⟩⟩
  | tup ds => cases ho; have r0 := v1.rtup; obtain ⟨p, ys, rfl, q, r⟩ := v1.tup gh; exact ⟨p, ys, rfl, .inr ⟨q, a.now gh r0⟩⟩
  | _ => cases ho
theorem a_intD : S1 K cm (fun v H Q => (∃ i, [v] = [.int i] ∧ Q (.int i) H) ∨ ∃ k, [v] = [.bl k] ∧ Q (.int (if k then 1 else 0)) H) intD := fun G H v d d' Q gh v1 ho (a : Ans K cm G H d' Q) => by
  unfold intD at ho
  split at ho
  · cases ho; exact .inl ⟨_, by rw [v1.int], a.now gh (.int _)⟩
  · cases ho; exact .inr ⟨_, by rw [v1.bl], a.now gh (.int _)⟩
  · cases ho
theorem a_absD : S1 K cm (fun v H Q => ∃ i, [v] = [.int i] ∧ Q (.int (if i < 0 then -i else i)) H) absD := fun G H v d d' Q gh v1 ho (a : Ans K cm G H d' Q) => by
  unfold absD at ho
  split at ho
  · cases ho; exact ⟨_, by rw [v1.int], a.now gh (.int _)⟩
  · cases ho
theorem a_max2D : S2 K cm (fun v w H Q => ∃ i j, [v, w] = [.int i, .int j] ∧ Q (.int (if j > i then j else i)) H) max2D := fun G H v w d e d' Q gh v1 v2 ho (a : Ans K cm G H d' Q) => by
  unfold max2D at ho
  split at ho
  · cases ho; exact ⟨_, _, by rw [v1.int, v2.int], a.now gh (.int _)⟩
  · cases ho
theorem a_min2D : S2 K cm (fun v w H Q => ∃ i j, [v, w] = [.int i, .int j] ∧ Q (.int (if j < i then j else i)) H) min2D := fun G H v w d e d' Q gh v1 v2 ho (a : Ans K cm G H d' Q) => by
  unfold min2D at ho
  split at ho
  · cases ho; exact ⟨_, _, by rw [v1.int, v2.int], a.now gh (.int _)⟩
  · cases ho
theorem Rps.ints : ∀ {xs : List V} {ds : List D} {ns : List Int}, Rps K cm G xs ds → intsO ds = some ns → xs = ns.map .int
  | _, _, _, .nil, h => by cases h; rfl
  | _, _, _, .cons (ds := ds) r t, h => by
    unfold intsO at h
    split at h
    · rename_i z; cases z
    · rename_i i r' e
      cases e
      cases q : intsO ds with
      | none => rw [q] at h; cases h
      | some ns =>
        rw [q] at h
        cases h
        cases r
        rw [Rps.ints t q]
        rfl
    · cases h
theorem Rps.bls : ∀ {xs : List V} {ds : List D} {ns : List Bool}, Rps K cm G xs ds → blsO ds = some ns → xs = ns.map .bl
  | _, _, _, .nil, h => by cases h; rfl
  | _, _, _, .cons (ds := ds) r t, h => by
    unfold blsO at h
    split at h
    · rename_i z; cases z
    · rename_i i r' e
      cases e
      cases q : blsO ds with
      | none => rw [q] at h; cases h
      | some ns =>
        rw [q] at h
        cases h
        cases r
        rw [Rps.bls t q]
        rfl
    · cases h
theorem rps_ints : ∀ ns : List Int, Rps K cm G (ns.map V.int) (ns.map D.int)
  | [] => .nil
  | i :: r => .cons (.int i) (rps_ints r)
theorem isort_unique {l l' : List Int} (p : l'.Perm l) (s : l'.Pairwise (· ≤ ·)) : l' = isort l := by
  have h1 : (isort l).Pairwise (fun a b => decide (a ≤ b) = true) := List.pairwise_mergeSort (fun a b c h1 h2 => by simp at h1 h2 ⊢; omega) (fun a b => by simp; omega) l
  refine List.Perm.eq_of_pairwise (le := (· ≤ ·)) (fun a b _ _ h1 h2 => Int.le_antisymm h1 h2) s (h1.imp fun h => by simpa using h) (p.trans (List.mergeSort_perm l _).symm)
theorem a_sortD : S1 K cm (fun v H Q => rSortedI K [v] H Q) sortD := fun G H v d d' Q gh v1 ho (a : Ans K cm G H d' Q) => by
  unfold sortD at ho
  split at ho
  · rename_i xs
    cases q : intsO xs with
    | none => rw [q] at ho; cases ho
    | some ns =>
      rw [q] at ho
      cases ho
      obtain ⟨p, ys, rfl, hq, r⟩ := v1.lst gh
      have e := r.ints q
      subst e
      exact ⟨p, ns, rfl, hq, fun ns' l h1 h2 n => by rw [isort_unique h1 h2]; exact a.lst gh (rps_ints _) n⟩
  · cases ho
theorem a_sortN : N1 K cm (fun v H Q => rSortedI K [v] H Q) sortD := fun G H v d d' Q gh v1 ho a => by
  unfold sortD at ho
  split at ho
  · rename_i xs
    cases q : intsO xs with
    | none => rw [q] at ho; cases ho
    | some ns =>
      rw [q] at ho
      cases ho
      obtain ⟨p, ys, rfl, hq, r⟩ := v1.lst gh
      have e := r.ints q
      subst e
      exact ⟨p, ns, rfl, hq, fun ns' l h1 h2 n => by rw [isort_unique h1 h2]; exact a l _ n ⟨_, upd_same, rps_ints _⟩⟩
  · cases ho
theorem a_allD : S1 K cm (fun v H Q => rAll K [v] H Q) allD := fun G H v d d' Q gh v1 ho (a : Ans K cm G H d' Q) => by
  unfold allD at ho
  split at ho
  · rename_i xs
    cases q : blsO xs with
    | none => rw [q] at ho; cases ho
    | some ns =>
      rw [q] at ho
      cases ho
      obtain ⟨p, ys, rfl, hq, r⟩ := v1.lst gh
      have e := r.bls q
      subst e
      exact ⟨p, ns, rfl, hq, a.now gh (.bl _)⟩
  · cases ho
theorem a_anyD : S1 K cm (fun v H Q => rAny K [v] H Q) anyD := fun G H v d d' Q gh v1 ho (a : Ans K cm G H d' Q) => by
  unfold anyD at ho
  split at ho
  · rename_i xs
    cases q : blsO xs with
    | none => rw [q] at ho; cases ho
    | some ns =>
      rw [q] at ho
      cases ho
      obtain ⟨p, ys, rfl, hq, r⟩ := v1.lst gh
      have e := r.bls q
      subst e
      exact ⟨p, ns, rfl, hq, a.now gh (.bl _)⟩
  · cases ho
theorem Rps.cut {xs : List V} {ds : List D} (r : Rps K cm G xs ds) (lo hi : Option Int) : Rps K cm G (cutV xs lo hi) (cutD ds lo hi) := by
  unfold cutV cutD
  rw [r.length]
  exact (r.drop _).take _
/-- slices -/
def S3 (K : PySem.W.Frag) (cm : CM) (r : V → Option Int → Option Int → Hp → VK → Prop) (op : D → Option Int → Option Int → Option D) : Prop := ∀ (G H : Hp) (v : V) (d d' : D) (lo hi : Option Int) (Q : VK), Sg G H → Vw K cm G H v d → op d lo hi = some d' →
  (∀ v' G' H', Ext cm.T [] G H G' H' → Rp K cm G' v' d' → Q v' H') → r v lo hi H Q
def N3 (K : PySem.W.Frag) (cm : CM) (r : V → Option Int → Option Int → Hp → VK → Prop) (op : D → Option Int → Option Int → Option D) : Prop := ∀ (G H : Hp) (v : V) (d d' : D) (lo hi : Option Int) (Q : VK), Sg G H → Vw K cm G H v d → op d lo hi = some d' →
  (∀ p u, H p = none → OwnAt K cm G (upd H p u) p d' → Q (.ref p) (upd H p u)) → r v lo hi H Q
theorem a_slD : S3 K cm (rSlS K) slD := fun G H v d d' lo hi Q gh v1 ho (a : Ans K cm G H d' Q) => by
  cases d with
  | lst ds => cases ho; obtain ⟨p, ys, rfl, q, r⟩ := v1.lst gh; exact .inl ⟨p, ys, rfl, q, fun p n => a.lst gh (r.cut lo hi) n⟩
  | tup ds =>
    cases ho
    have r0 := v1.rtup
    obtain ⟨p, ys, rfl, q, r⟩ := v1.tup gh
    refine .inr ⟨p, ys, rfl, q, fun ⟨h1, h2⟩ => ?_, fun _ => a.tup gh (r.cut lo hi)⟩
    have e : cutD ds lo hi = ds := by
      unfold cutD
      rw [← r.length, h1, h2, Nat.sub_zero, List.drop_zero, r.length, List.take_length]
    rw [e] at a
    exact a.now gh r0
  | _ => cases ho
theorem a_slL : N3 K cm (rSlS K) slL := fun G H v d d' lo hi Q gh v1 ho a => by
  cases d with
  | lst ds => cases ho; obtain ⟨p, ys, rfl, q, r⟩ := v1.lst gh; exact .inl ⟨p, ys, rfl, q, fun p n => a p _ n ⟨_, upd_same, r.cut lo hi⟩⟩
  | _ => cases ho
end
end Mi

end
section
set_option Elab.async false
set_option linter.all false
set_option maxRecDepth 100000
set_option autoImplicit false
set_option maxHeartbeats 4000000
namespace Mi
open PySem PySem.Spec PyProof.Rows L2

/-! ### own objects change -/
section
variable {F : Fm} {O : List Nat} {G H : Hp} {σ : L2.St} {δ : Env}
theorem ext_upd {T : List (Addr × Str)} {a : Addr} {u w : HO} (gh : Sg G H) (na : G a = none) (hH : H a = some w) (nc : NC a w) (nu : NT u) : Ext T [a] G H G (upd H a u) := ⟨.refl G, gh.own na, fun b o h n _ => by
    rw [upd_ne (by simpa using n)]; exact h, fun _ _ => rfl, fun b h => by
    by_cases e : b = a
    · subst e; rw [upd_same]; simp
    · rw [upd_ne e]; exact h, .upd hH nc nu⟩
theorem Stt.mut (s : Stt F O G H σ δ) {i : Nat} {a : Addr} {u : HO} {d : D} (hi : i ∈ O) (ha : σ[i]? = some (some (.ref a))) (na : G a = none) (hH : H a ≠ none) (o : OwnAt F.K F.cm G (upd H a u) a d) :
    Stt F O G (upd H a u) σ (δ.set i (some d)) ∧ Ext F.cm.T (ownS O σ) G H G (upd H a u) := by
  obtain ⟨a', d', e1, _, _, o', _⟩ := s.ow i hi
  rw [ha] at e1
  cases e1
  cases q : H a with
  | none => exact absurd q hH
  | some w =>
    have e := ext_upd (T := F.cm.T) (u := u) s.gh na q (o'.nc q) (o.nc upd_same).1
    exact ⟨s.after1 hi ha e na o, e.g, e.gh, fun b w h n t => e.keep b w h (fun z => n (by rw [show b = a by simpa using z]; exact mem_ownS.mpr ⟨i, hi, ha⟩)) t, e.new, e.dom, e.tab⟩
/-- an own list as it stands -/
theorem Stt.ownL (s : Stt F O G H σ δ) {i : Nat} (hi : i ∈ O) : ∃ a d, σ[i]? = some (some (.ref a)) ∧ eV i δ = .ok d δ ∧ G a = none ∧ OwnAt F.K F.cm G H a d := by
  obtain ⟨a, d, e1, e2, n, o, _⟩ := s.ow i hi
  exact ⟨a, d, e1, by unfold eV; rw [e2], n, o⟩
end
theorem Rps.dropLast {K : PySem.W.Frag} {cm : CM} {G : Hp} : ∀ {vs : List V} {ds : List D}, Rps K cm G vs ds → Rps K cm G vs.dropLast ds.dropLast
  | _, _, .nil => .nil
  | _, _, .cons _ .nil => .nil
  | _, _, .cons r (.cons r2 t) => .cons r (Rps.dropLast (.cons r2 t))
theorem Rps.eraseIdx {K : PySem.W.Frag} {cm : CM} {G : Hp} : ∀ {vs : List V} {ds : List D} (i : Nat), Rps K cm G vs ds → Rps K cm G (vs.eraseIdx i) (ds.eraseIdx i)
  | _, _, _, .nil => .nil
  | _, _, 0, .cons _ t => t
  | _, _, i + 1, .cons r t => .cons r (t.eraseIdx i)
theorem Rps.setAt {K : PySem.W.Frag} {cm : CM} {G : Hp} {v : V} {d : D} (q : Rp K cm G v d) : ∀ {vs : List V} {ds : List D} (i : Nat), Rps K cm G vs ds → Rps K cm G (vs.set i v) (ds.set i d)
  | _, _, _, .nil => .nil
  | _, _, 0, .cons _ t => .cons q t
  | _, _, i + 1, .cons r t => .cons r (Rps.setAt q i t)
theorem tyl {K : PySem.W.Frag} {H : Hp} {a : Addr} {xs : List V} (h : H a = some (.lst xs)) : tyV K "list" (.ref a) H := .inl ⟨rfl, xs, SqL.of h⟩
section
variable {X : Cx} {C : Sc} {O O1 : List Nat} {a b c : Expr} {fa fb fc : Ex} {pos p p2 : Pos} {i : Nat} {x : Str}
/-- x.pop() -/
theorem d_pop {ap : Pos} (hK : C.F.K = X.K) (hi : i ∈ O) (h : PE X (.Call (.Attribute (.Name x p) "pop" ap) [] [] pos) (tBM0 X.K "list" rPop (tVar i))) : PE X (.Call (.Attribute (.Name x p) "pop" ap) [] [] pos) (tD C O (ePop i)) := pe_imp h fun σ H Q ⟨G, δ, st, m⟩ => by
  obtain ⟨a, d, e1, ev, na, o⟩ := st.ownL hi
  unfold ePop at m
  rw [ev, Res.bind_ok] at m
  cases d with
  | lst ds =>
    obtain ⟨xs, q, r⟩ := o
    cases e : ds[ds.length - 1]? with
    | none => simp only [e] at m
    | some y =>
      simp only [e] at m
      obtain ⟨v, hv, rv⟩ := r.get e
      obtain ⟨st2, ex⟩ := st.mut (u := .lst xs.dropLast) hi e1 na (by rw [q]; simp) (d := .lst ds.dropLast) ⟨_, upd_same, r.dropLast⟩
      exact ⟨_, e1, tyl q, a, xs, v, rfl, rfl, q, by rw [r.length]; exact hv, m v G _ ex st2 rv⟩
  | _ => exact m.elim
theorem isL_of {F : Fm} {G H : Hp} {σ : L2.St} {δ : Env} (s : Stt F O G H σ δ) {i : Nat} (hi : i ∈ O) (h : isL i δ = true) : ∃ a ds xs, σ[i]? = some (some (.ref a)) ∧ eV i δ = .ok (.lst ds) δ ∧ G a = none ∧ H a = some (.lst xs) ∧ Rps F.K F.cm G xs ds := by
  obtain ⟨a, d, e1, e2, n, o, _⟩ := s.ow i hi
  unfold isL at h
  rw [e2] at h
  cases d with
  | lst ds =>
    obtain ⟨xs, q, r⟩ := o
    exact ⟨a, ds, xs, e1, by unfold eV; rw [e2], n, q, r⟩
  | _ => cases h
/-- x.pop(e) -/
theorem d_popAt {ap : Pos} (hK : C.F.K = X.K) (hi : i ∈ O) (h : PE X (.Call (.Attribute (.Name x p) "pop" ap) [a] [] pos) (tBM X.K "list" rPopAt (tVar i) (tCons (tD C O fa) tNil))) :
    PE X (.Call (.Attribute (.Name x p) "pop" ap) [a] [] pos) (tD C O (ePopAt i fa)) := pe_imp h fun σ H Q ⟨G, δ, st, m⟩ => by
  unfold ePopAt at m
  by_cases hL : isL i δ = true
  case neg => rw [if_neg hL] at m; exact m.elim
  rw [if_pos hL] at m
  obtain ⟨l, ds0, xs0, e1, ev0, _, q0, _⟩ := isL_of st hi hL
  refine ⟨_, e1, tyl q0, G, δ, st, ?_⟩
  cases e : fa δ with
  | exc c d δ' => rw [e] at m; exact m
  | bad => rw [e] at m; exact m.elim
  | ok k δ1 =>
    rw [e, Res.bind_ok] at m
    intro v G1 H1 s1 st1 rv
    obtain ⟨l', d, e1', ev, na, o⟩ := st1.ownL hi
    rw [e1] at e1'
    cases e1'
    rw [ev, Res.bind_ok] at m
    cases d with
    | lst ds =>
      cases rv with
      | int j =>
        simp only at m
        obtain ⟨xs, q, r⟩ := o
        by_cases hc : ds.length ≤ cap
        case neg => rw [if_neg hc] at m; exact m.elim
        rw [if_pos hc] at m
        cases em : ixD ds.length j with
        | none => simp only [em] at m
        | some mm =>
          cases ey : ds[mm]? with
          | none => simp only [em, ey] at m
          | some y =>
            simp only [em, ey] at m
            obtain ⟨w, hw, rw'⟩ := r.get ey
            obtain ⟨sx, h1, h2, h3⟩ := ixN_seq (n := ds.length) em
            have c1 : (cap : Int) < 2 ^ 63 := by rw [cap_eq]; decide
            obtain ⟨st2, ex⟩ := st1.mut (u := .lst (xs.eraseIdx mm)) hi e1 na (by rw [q]; simp) (d := .lst (ds.eraseIdx mm)) ⟨_, upd_same, r.eraseIdx mm⟩
            exact ⟨l, xs, j, mm, w, rfl, rfl, q, by omega, by omega, by rw [r.length]; exact sx, hw, m w G1 _ (s1.thn ex) st2 rw'⟩
      | _ => exact m.elim
    | _ => exact m.elim
/-- x.append(e) -/
theorem s_app {ap : Pos} (hi : i ∈ O) (h : PS X (.Expr (.Call (.Attribute (.Name x p) "append" ap) [a] [] pos) p2) (tDrop (tBM X.K "list" rAppend (tVar i) (tCons (tD C O fa) tNil)))) (hx : C.XO O := by trivial) :
    PS X (.Expr (.Call (.Attribute (.Name x p) "append" ap) [a] [] pos) p2) (tS C O O (sApp i fa)) := ps_imp h fun D σ H ⟨G, δ, st, m⟩ => by
  unfold sApp at m
  by_cases hL : isL i δ = true
  case neg => rw [if_neg hL] at m; exact m.elim
  rw [if_pos hL] at m
  obtain ⟨l, ds0, xs0, e1, ev0, _, q0, _⟩ := isL_of st hi hL
  refine ⟨_, e1, tyl q0, ?_⟩
  refine r_out hx st m fun k v G1 H1 δ1 s1 st1 rv m1 => ?_
  obtain ⟨l', d, e1', ev, na, o⟩ := st1.ownL hi
  rw [e1] at e1'
  cases e1'
  rw [ev, Res.out_ok] at m1
  cases d with
  | lst ds =>
    simp only at m1
    obtain ⟨xs, q, r⟩ := o
    by_cases hc : ds.length < cap
    case neg => rw [if_neg hc] at m1; exact m1.elim
    rw [if_pos hc] at m1
    obtain ⟨st2, ex⟩ := st1.mut (u := .lst (xs ++ [v])) hi e1 na (by rw [q]; simp) (d := .lst (ds ++ [k])) ⟨_, upd_same, r.app (.cons rv .nil)⟩
    exact ⟨l, xs, v, rfl, rfl, q, by rw [r.length]; exact Nat.lt_trans hc cap_line, m1 σ G1 _ (.refl G1) st2⟩
  | _ => exact m1.elim
/-- x[k] = e -/
theorem s_setI {sp : Pos} (hi : i ∈ O) (h : PS X (.Assign [.Subscript (.Name x p) b sp] a pos) (tAsg (tD C O fa) (gSub (tVar i) (tD C O fb) rSetL))) (hx : C.XO O := by trivial) :
    PS X (.Assign [.Subscript (.Name x p) b sp] a pos) (tS C O O (sSetI i fb fa)) := ps_imp h fun D σ H ⟨G, δ, st, m⟩ => by
  unfold sSetI at m
  refine r_out hx st m fun d v G1 H1 δ1 s1 st1 rv m1 => ?_
  obtain ⟨l, _, e1, _, _, _⟩ := st1.ownL hi
  refine ⟨_, e1, ?_⟩
  refine r_out hx st1 m1 fun k w G2 H2 δ2 s2 st2 rw2 m2 => ?_
  obtain ⟨l', d', e1', ev, na, o⟩ := st2.ownL hi
  rw [e1] at e1'
  cases e1'
  rw [ev, Res.out_ok] at m2
  cases d' with
  | lst ds =>
    cases rw2 with
    | int j =>
      simp only at m2
      obtain ⟨xs, q, r⟩ := o
      cases em : ixD ds.length j with
      | none => simp only [em] at m2; exact m2.elim
      | some mm =>
        simp only [em] at m2
        obtain ⟨st3, ex⟩ := st2.mut (u := .lst (xs.set mm v)) hi e1 na (by rw [q]; simp) (d := .lst (ds.set mm d)) ⟨_, upd_same, Rps.setAt (rv.mono s2.g) mm r⟩
        exact ⟨l, xs, j, mm, rfl, rfl, q, by rw [r.length]; exact em, m2 σ G2 _ (.refl G2) st3⟩
    | _ => exact m2.elim
  | _ => exact m2.elim

/-! ### x.index(y) -/
def tIxOf (K : PySem.W.Frag) (to : TE) (t : TA) : TE := fun σ H Q => to σ H fun x H1 => ∃ (l : Bool) (p : Addr) (vs : List V), x = .ref p ∧ SqA K H1 p vs l ∧ (l = true ∨ TqT K H1 p vs) ∧ t σ H1 fun ys H2 =>
  ∃ (ns : List Int) (k : Int), ys = [.int k] ∧ SqA K H2 p (ns.map V.int) l ∧ k ∈ ns ∧ Q (.int (ns.idxOf k : Nat)) H2
theorem tqt_ty {pins : List (Addr × Obj)} {s : Shared} {σ : L2.St} {H : Hp} {q : Addr} {vs : List V} (I : Inv X pins σ H s) (h : TqT X.K H q vs) : s.TypeIs (.ref q) "tuple" ∧ ∀ a, Value.ref q = .ref a → ∃ ob, s.heap.get? a = some ob ∧ ob.dict = none := by
  rcases h with ⟨o, h, hd⟩ | ⟨o, its, n, hk, hc, hd, _⟩
  · obtain ⟨e, _, _, _, o', e', hc, _⟩ := (show s.heap.get? q = some o ∧ ObjOk X.prog X.w H s.heap q (.tup vs) from I.hok q _ h)
    rw [e] at e'
    cases e'
    exact ⟨⟨o, e, hc⟩, fun a z => by cases z; exact ⟨o, e, hd⟩⟩
  · exact ⟨⟨o, I.kIn q o hk, hc⟩, fun a z => by cases z; exact ⟨o, I.kIn _ o hk, hd⟩⟩
theorem pe_ixOf {to : TE} {t : TA} {ap : Pos} (ho : PE X b to) (ha : PA X [a] t)
    (hbase : attributeBase b "index" X.env (eval b X.env) = eval b X.env := by rfl)
    (hfew : ((backTo pos (starEach [a] X.env)).all (fun x => !x.1) && (backToKw pos (keywordEach [] X.env)).all (fun x => x.1.isSome) && decide ([a].length + ([] : List Keyword).length + (if ([] : List Keyword).isEmpty then 0 else 1) < 30)) = true := by rfl)
    (hline : (ap.endLine == pos.line) = true := by rfl) (hs : starEach [a] X.env = (false, eval a X.env) :: starEach [] X.env := by rfl) (hp : (backTo pos (starEach [] X.env)).any (·.1) = false := by rfl) :
    PE X (.Call (.Attribute b "index" ap) [a] [] pos) (tIxOf X.K to t) := by
  refine ⟨fun pins s σ H Q I h => wpAny_Call_method_late hbase hfew hline rfl (thn (ho.run pins s σ H _ I h) fun v s1 ⟨x, H1, I1, r1, l, p0, vs0, ex, sq, ty, q1⟩ => ?_)⟩
  subst ex
  cases r1
  have fin : ∀ (id : String), (∀ (s2 : Shared) (H2 : Hp) (k : Int) (t : Tok) (ns : List Int), Inv X pins σ H2 s2 → SqA X.K H2 p0 (ns.map V.int) l → k ∈ ns → Q (.int (ns.idxOf k : Nat)) H2 → wpAny (model X.prog X.w) X.A (call (.builtin id) [.ref p0, .int k t]) (EP X pins σ Q) X.xe s2) →
      wpAny (model X.prog X.w) X.A (spliced (backTo pos (starEach [a] X.env))) (fun vs s₂ => wpAny (model X.prog X.w) X.A (call (.builtin id) (.ref p0 :: vs)) (EP X pins σ Q) X.xe s₂) X.xe s1 := fun id hc => by
    refine thn (ha.run pos pins s1 σ H1 _ I1 q1) fun us s2 ⟨ys, H2, I2, r2, ns, k, ek, hq, hk, q2⟩ => ?_
    subst ek
    cases r2 with
    | cons r r' =>
      cases r'
      obtain ⟨t, rfl⟩ := r
      exact hc s2 H2 k t ns I2 hq hk q2
  cases l with
  | true =>
    obtain ⟨h1, h2⟩ := tyV_is (x := V.ref p0) I1 (v := .ref p0) rfl (show tyV X.K "list" (.ref p0) H1 from .inl ⟨rfl, _, sq⟩)
    refine ⟨"list", "list.index", PySem.F.plainAttrs_list, PySem.F.slot_list_index, PySem.F.type_list_index, h1, h2, ?_⟩
    have hA := fin "list.index" fun s2 H2 k t ns I2 hq hk q2 => by
      obtain ⟨its, r, pl, hz⟩ := I2.list hq
      exact SeqAt.list_index_ints pl.isList (intsAre_of r) (by simpa using hz) hk ⟨.int _, H2, I2.tok _, ⟨_, rfl⟩, q2⟩
    rw [hs] at hA ⊢
    exact Calls.callWith_builtin (by show (false || (backTo pos (starEach [] X.env)).any (·.1)) = false; rw [hp]; rfl) (Calls.evalArgs_plain hA)
  | false =>
    obtain ⟨h1, h2⟩ := tqt_ty I1 (ty.resolve_left (fun z => Bool.noConfusion z))
    refine ⟨"tuple", "tuple.index", PySem.F.plainAttrs_tuple, PySem.F.slot_tuple_index, PySem.F.type_tuple_index, h1, h2, ?_⟩
    have hA := fin "tuple.index" fun s2 H2 k t ns I2 hq hk q2 => by
      obtain ⟨its, r, pl, hz⟩ := I2.tuple hq
      exact SeqAt.tuple_index_ints pl (intsAre_of r) hk ⟨.int _, H2, I2.tok _, ⟨_, rfl⟩, q2⟩
    rw [hs] at hA ⊢
    exact Calls.callWith_builtin (by show (false || (backTo pos (starEach [] X.env)).any (·.1)) = false; rw [hp]; rfl) (Calls.evalArgs_plain hA)
theorem seqOf_sq {F : Fm} {G H : Hp} {v : V} {d : D} {ds : List D} (gh : Sg G H) (r : Rp F.K F.cm G v d) (h : seqOf d = some ds) : ∃ (l : Bool) (q : Addr) (vs : List V), v = .ref q ∧ SqA F.K G q vs l ∧ (l = true ∨ TqT F.K G q vs) ∧ Rps F.K F.cm G vs ds := by
  cases r with
  | lst q r => cases h; exact ⟨true, _, _, rfl, q, .inl rfl, r⟩
  | tup q r => cases h; exact ⟨false, _, _, rfl, q.sq, .inr q, r⟩
  | _ => cases h
theorem d_ix {ap : Pos} (hK : C.F.K = X.K) (h : PE X (.Call (.Attribute b "index" ap) [a] [] pos) (tIxOf X.K (tD C O fb) (tCons (tD C O fa) tNil))) : PE X (.Call (.Attribute b "index" ap) [a] [] pos) (tD C O (eIx fb fa)) := pe_imp h fun σ H Q ⟨G, δ, st, m⟩ => by
  refine ⟨G, δ, st, ?_⟩
  unfold eIx at m
  cases e : fb δ with
  | exc c d δ' => rw [e] at m; exact m
  | bad => rw [e] at m; exact m
  | ok d δ1 =>
    rw [e, Res.bind_ok] at m
    intro v G1 H1 s1 st1 rv
    cases es : seqOf d with
    | none => rw [es] at m; exact m.elim
    | some ds =>
      rw [es] at m
      obtain ⟨l, q, vs, ev, sq, ty, rs⟩ := seqOf_sq st1.gh rv es
      subst ev
      have ty' : l = true ∨ TqT X.K H1 q vs := ty.imp id fun z => hK ▸ same_tqT st1.gh z
      refine ⟨l, q, vs, rfl, hK ▸ sq.mono st1.gh, ty', G1, δ1, st1, ?_⟩
      simp only at m
      cases e2 : fa δ1 with
      | exc c d δ' => rw [e2] at m; exact m
      | bad => rw [e2] at m; exact m
      | ok k δ2 =>
        rw [e2, Res.bind_ok] at m
        intro w G2 H2 s2 st2 rw2
        unfold ixOfD at m
        cases rw2 with
        | int kk =>
          simp only [es, Option.bind_some] at m
          cases ei : intsO ds with
          | none => rw [ei] at m; exact m.elim
          | some ns =>
            rw [ei, Option.bind_some] at m
            by_cases hk : kk ∈ ns
            case neg => rw [if_neg hk] at m; exact m.elim
            rw [if_pos hk] at m
            have evs := rs.ints ei
            subst evs
            exact ⟨ns, kk, rfl, hK ▸ (sq.mono (s2.g.trans st2.gh)), hk, m _ G2 H2 (s1.thn s2) st2 (.int _)⟩
        | _ => exact m.elim
end
end Mi

end
section
set_option Elab.async false
set_option linter.all false
set_option maxRecDepth 100000
set_option autoImplicit false
set_option maxHeartbeats 4000000
namespace Mi
open PySem PySem.Spec PyProof.Rows L2

section
variable {X : Cx} {C : Sc} {O O1 : List Nat} {a b c : Expr} {fa fb fc : Ex} {pos p p2 : Pos} {i : Nat} {x : Str}
/-! ### slices -/
def pO (C : Sc) (O : List Nat) (l : Option Ex) : TO := match l with
  | none => tNoPart
  | some f => tPart (tD C O f)
theorem po_n : PO X none (pO C O none) := po_none
theorem po_s (h : PE X a (tD C O fa)) : PO X (some a) (pO C O (some fa)) := po_some h
/-- a part, then what follows -/
theorem r_P {l : Option Ex} {P : Res D → Prop} {k : Option Int → Env → Res D} {G H : Hp} {σ : L2.St} {δ : Env} {R : Option Int → Hp → Prop} (st : Stt C.F O G H σ δ) (m : P ((eP l δ).bind k)) (hbad : ¬ P .bad) (hexc : ∀ c d δ', P (.exc c d δ') → ∀ G' H' cls dd, Stt C.F O G' H' σ δ' → XRp C G' c d cls dd → C.W cls dd σ H')
    (hR : ∀ lo G1 H1 δ1, Ext C.F.cm.T (ownS O σ) G H G1 H1 → Stt C.F O G1 H1 σ δ1 → P (k lo δ1) → R lo H1) : pO C O l σ H R := by
  unfold eP at m
  cases l with
  | none => exact hR none G H δ (.refl st.gh) st m
  | some f =>
    refine ⟨G, δ, st, ?_⟩
    cases e : f δ with
    | exc c d δ' => simp only [e] at m; exact hexc c d δ' m
    | bad => simp only [e] at m; exact (hbad m).elim
    | ok d δ1 =>
      simp only [e, Res.bind_ok] at m
      intro v G1 H1 s1 st1 rv
      cases d with
      | int j => cases rv; exact ⟨j, rfl, hR _ G1 H1 δ1 s1 st1 m⟩
      | _ => exact (hbad m).elim
/-- what a result that is a new list must give -/
def Pn (C : Sc) (O : List Nat) (G H : Hp) (σ : L2.St) (Q : VK) (r : Res D) : Prop := match r with
  | .ok d δ' => ∀ p G' H', Ext C.F.cm.T (ownS O σ) G H G' H' → Stt C.F O G' H' σ δ' → G' p = none → H p = none → OwnAt C.F.K C.F.cm G' H' p d → Q (.ref p) H'
  | .exc c d δ' => ∀ G' H' cls dd, Stt C.F O G' H' σ δ' → XRp C G' c d cls dd → C.W cls dd σ H'
  | .bad => False
section
variable {r : V → Option Int → Option Int → Hp → VK → Prop} {op : D → Option Int → Option Int → Option D} {l h : Option Ex}
theorem r_sl (s : S3 C.F.K C.F.cm r op) : ∀ (σ : L2.St) (H : Hp) (Q : VK), tD C O (e3 op fa l h) σ H Q → tSl r (tD C O fa) (pO C O l) (pO C O h) σ H Q := fun σ H Q ⟨G, δ, st, m⟩ => by
  refine ⟨G, δ, st, ?_⟩
  have m : Pt C O G H σ Q ((fa δ).bind fun x δ1 => (eP l δ1).bind fun y δ2 => (eP h δ2).bind fun z δ3 => Res.opt (op x y z) δ3) := m
  cases e : fa δ with
  | exc c d δ' => rw [e] at m; exact m
  | bad => rw [e] at m; exact m
  | ok d δ1 =>
    rw [e, Res.bind_ok] at m
    intro v G1 H1 s1 st1 rv
    refine r_P st1 m (fun z => z) (fun _ _ _ z => z) fun lo G2 H2 δ2 s2 st2 m2 => r_P st2 m2 (fun z => z) (fun _ _ _ z => z) fun hi G3 H3 δ3 s3 st3 m3 => ?_
    cases eo : op d lo hi with
    | none => rw [eo] at m3; exact m3.elim
    | some d' =>
      rw [eo] at m3
      exact s G3 H3 v d d' lo hi Q st3.gh (.inl (rv.mono (s2.g.trans s3.g))) eo fun v' G' H' ex rp => m3 v' G' H' (((s1.thn s2).thn s3).and ex) (st3.step ex) rp
theorem rn_sl (s : N3 C.F.K C.F.cm r op) : ∀ (σ : L2.St) (H : Hp) (Q : VK), tN C O (e3 op fa l h) σ H Q → tSl r (tD C O fa) (pO C O l) (pO C O h) σ H Q := fun σ H Q ⟨G, δ, st, m⟩ => by
  refine ⟨G, δ, st, ?_⟩
  have m : Pn C O G H σ Q ((fa δ).bind fun x δ1 => (eP l δ1).bind fun y δ2 => (eP h δ2).bind fun z δ3 => Res.opt (op x y z) δ3) := m
  cases e : fa δ with
  | exc c d δ' => rw [e] at m; exact m
  | bad => rw [e] at m; exact m
  | ok d δ1 =>
    rw [e, Res.bind_ok] at m
    intro v G1 H1 s1 st1 rv
    refine r_P st1 m (fun z => z) (fun _ _ _ z => z) fun lo G2 H2 δ2 s2 st2 m2 => r_P st2 m2 (fun z => z) (fun _ _ _ z => z) fun hi G3 H3 δ3 s3 st3 m3 => ?_
    cases eo : op d lo hi with
    | none => rw [eo] at m3; exact m3.elim
    | some d' =>
      rw [eo] at m3
      refine s G3 H3 v d d' lo hi Q st3.gh (.inl (rv.mono (s2.g.trans s3.g))) eo fun p u n o => ?_
      obtain ⟨f1, f2, f3, f4⟩ := fresh_facts (u := u) st3 n (o.nc upd_same).1
      have s13 := (s1.thn s2).thn s3
      exact m3 p G3 (upd H3 p u) (s13.and (Ext.fresh st3.gh n (o.nc upd_same).1)) f1 f2 (s13.back n) o
/-- the base is the def's own list -/
theorem own_sl {P : Res D → Prop} {G H : Hp} {σ : L2.St} {δ : Env} {Q : VK} (hi : i ∈ O) (st : Stt C.F O G H σ δ) (m : P ((eP l δ).bind fun y δ1 => (eP h δ1).bind fun z δ2 => (eV i δ2).bind fun x δ3 => Res.opt (op x y z) δ3)) (hbad : ¬ P .bad) (hexc : ∀ c d δ', P (.exc c d δ') → ∀ G' H' cls dd, Stt C.F O G' H' σ δ' → XRp C G' c d cls dd → C.W cls dd σ H')
    (hok : ∀ v d d' lo hi G2 H2 δ2, op d lo hi = some d' → Ext C.F.cm.T (ownS O σ) G H G2 H2 → Stt C.F O G2 H2 σ δ2 → Vw C.F.K C.F.cm G2 H2 v d → P (.ok d' δ2) → r v lo hi H2 Q) : tSl r (tVar i) (pO C O l) (pO C O h) σ H Q := by
  obtain ⟨a, d0, e1, _, _, _⟩ := st.ownL hi
  refine ⟨_, e1, ?_⟩
  refine r_P st m hbad hexc fun lo G2 H2 δ2 s2 st2 m2 => r_P st2 m2 hbad hexc fun hi' G3 H3 δ3 s3 st3 m3 => ?_
  obtain ⟨a', d, q1, ev, _, o⟩ := st3.ownL hi
  rw [e1] at q1
  cases q1
  rw [ev, Res.bind_ok] at m3
  cases eo : op d lo hi' with
  | none => rw [eo] at m3; exact (hbad m3).elim
  | some d' =>
    rw [eo] at m3
    exact hok _ d d' lo hi' G3 H3 δ3 eo (s2.thn s3) st3 (.inr ⟨_, rfl, o⟩) m3
theorem r_slO (hi : i ∈ O) (s : S3 C.F.K C.F.cm r op) : ∀ (σ : L2.St) (H : Hp) (Q : VK), tD C O (eO3 op i l h) σ H Q → tSl r (tVar i) (pO C O l) (pO C O h) σ H Q := fun σ H Q ⟨G, δ, st, m⟩ =>
  own_sl (P := Pt C O G H σ Q) hi st m (fun z => z) (fun _ _ _ z => z) fun v d d' lo hi' G2 H2 δ2 eo s2 st2 vw m2 => s G2 H2 v d d' lo hi' Q st2.gh vw eo fun v' G' H' ex rp => m2 v' G' H' (s2.and ex) (st2.step ex) rp
theorem rn_slO (hi : i ∈ O) (s : N3 C.F.K C.F.cm r op) : ∀ (σ : L2.St) (H : Hp) (Q : VK), tN C O (eO3 op i l h) σ H Q → tSl r (tVar i) (pO C O l) (pO C O h) σ H Q := fun σ H Q ⟨G, δ, st, m⟩ =>
  own_sl (P := Pn C O G H σ Q) hi st m (fun z => z) (fun _ _ _ z => z) fun v d d' lo hi' G2 H2 δ2 eo s2 st2 vw m2 => s G2 H2 v d d' lo hi' Q st2.gh vw eo fun p u n o => by
    obtain ⟨f1, f2, f3, f4⟩ := fresh_facts (u := u) st2 n (o.nc upd_same).1
    exact m2 p G2 (upd H2 p u) (s2.and (Ext.fresh st2.gh n (o.nc upd_same).1)) f1 f2 (s2.back n) o
end

/-! ### calls that are handed a new list -/
theorem Stt.stepX {F : Fm} {G H G' H' : Hp} {σ : L2.St} {δ : Env} {q : Addr} (s : Stt F O G H σ δ) (e : Ext F.cm.T [q] G H G' H') (nf : F.H q = none) (no : ∀ i ∈ O, σ[i]? ≠ some (some (V.ref q))) : Stt F O G' H' σ δ where
  ext := s.ext.trans e fun x z => .inl (by rw [show x = q by simpa using z]; exact nf)
  ln := s.ln
  le := s.le
  sh := fun i d hi h => by
    obtain ⟨v, e1, r⟩ := s.sh i d hi h
    exact ⟨v, e1, r.mono e.g⟩
  ow := fun i hi => by
    obtain ⟨a, d, e1, e2, n, o, z⟩ := s.ow i hi
    refine ⟨a, d, e1, e2, (e.new a o.at).trans n, o.mono e.g ?_, z⟩
    cases w : H a with
    | none => exact absurd w o.at
    | some u => exact e.keep a u w (fun k => no i hi (by rw [e1, show a = q by simpa using k])) (o.nc w).1
  dis := s.dis
  fix := s.fix
  tabs := s.tabs.go e.tab
theorem ext_X {T : List (Addr × Str)} {S : List Addr} {G H G1 H1 G2 H2 : Hp} {q : Addr} (a : Ext T S G H G1 H1) (b : Ext T [q] G1 H1 G2 H2) (n : H q = none) : Ext T S G H G2 H2 := a.trans b fun x z => .inl (by rw [show x = q by simpa using z]; exact n)
theorem r_callN {es : List Expr} {fs : List Ex} {f : List D → Fr} {n : Nat} {σ : L2.St} {H : Hp} {Q : VK} (hn : fs.length + 1 = n) (h : tD C O (eCallN f fa fs) σ H Q) : tCons (tN C O fa) (tA C O (eL fs)) σ H fun vs H1 => spM C.F.K C.F.cm C.fld n [0] f vs H1 Q (WE C.W σ) := by
  obtain ⟨G, δ, st, m⟩ := h
  refine ⟨G, δ, st, ?_⟩
  unfold eCallN at m
  cases e0 : fa δ with
  | exc c d δ1 => rw [e0] at m; exact m
  | bad => rw [e0] at m; exact m
  | ok w δ0 =>
    rw [e0, Res.bind_ok] at m
    intro q G0 H0 s0 st0 nG nH o
    have nf : C.F.H q = none := by
      cases z : C.F.H q with
      | none => rfl
      | some u => exact absurd nH (st.ext.dom q (by rw [z]; simp))
    have no : ∀ i ∈ O, σ[i]? ≠ some (some (V.ref q)) := fun i hi e => by
      obtain ⟨a, d, e1, _, _, oo, _⟩ := st.ow i hi
      rw [e] at e1
      cases e1
      exact oo.at nH
    have nS : q ∉ ownS O σ := fun z => by
      obtain ⟨i, hi, e⟩ := mem_ownS.mp z
      exact no i hi e
    refine ⟨G0, δ0, st0, ?_⟩
    cases e : eL fs δ0 with
    | exc c d δ1 => rw [e] at m; exact m
    | bad => rw [e] at m; exact m
    | ok ds δ1 =>
      rw [e, Res.bind_ok] at m
      intro vs G1 H1 s1 st1 rv
      have o1 : OwnAt C.F.K C.F.cm G1 H1 q w := o.mono s1.g (by
        cases z : H0 q with
        | none => exact absurd z o.at
        | some u => exact s1.keep q u z nS (o.nc z).1)
      have n1 : G1 q = none := (s1.new q o.at).trans nG
      have hl : (V.ref q :: vs).length = n := by rw [List.length_cons, rv.length, eL_length e, hn]
      have sAll : Ext _ (ownS O σ) G H G1 H1 := s0.thn s1
      refine ⟨G1, w :: ds, [q], hl, rfl, callee1 (j := 0) st1.gh st1.tabs hl (by rw [List.length_cons, eL_length e, hn]) (fun i d hi h => ?_) rfl rfl n1 o1, ?_⟩
      · cases i with
        | zero => exact absurd rfl hi
        | succ i => exact rv.get (by simpa using h)
      · cases ef : f (w :: ds) with
        | ok d outs =>
          rw [ef] at m
          match outs, m with
          | [w'], m => exact fun v G2 H2 ex _ r => m v G2 H2 (ext_X sAll ex nH) (st1.stepX ex nf no) r
          | [], m => exact m.elim
          | _ :: _ :: _, m => exact m.elim
        | exc c d =>
          rw [ef] at m
          exact fun G2 H2 cls dd ex x => m G2 H2 cls dd (st1.stepX ex nf no) x
        | bad => rw [ef] at m; exact m.elim
theorem d_callN {es : List Expr} {fs : List Ex} {f : List D → Fr} {x : Str} {k n : Nat} {g : Addr} {fd : FuncData} {ps : List Str} (F : FnOk X.prog X.w X.K X.mg X.base (L2.CX X.prog X.w) k g fd ps (spM C.F.K C.F.cm C.fld n [0] f)) (hr : Room k X.A) (hg : Gl X x) (hm : X.mg x = some (.ref g)) (hk : PySem.W.keepIn X.K (.ref g) = true) (hb : Binds X.K fd ps [])
    (tk : Takes X C.W) (ha : PA X (a :: es) (tCons (tN C O fa) (tA C O (eL fs)))) (hn : fs.length + 1 = n) (hdb : (x == ("__debug__" : Str)) = false := by decide) (he : starEach (a :: es) X.env = (false, eval a X.env) :: starEach es X.env := by rfl) (hpl : (backTo pos (starEach es X.env)).any (·.1) = false := by rfl) :
    PE X (.Call (.Name x p) (a :: es) [] pos) (tD C O (eCallN f fa fs)) := pe_imp (pe_callS F hr hg hm hk hb (fun σ => passAt tk σ) ha hdb he hpl) fun σ H Q h => r_callN (es := es) hn h
end
end Mi

end
section
set_option Elab.async false
set_option linter.all false
set_option maxRecDepth 100000
set_option autoImplicit false
set_option maxHeartbeats 4000000
namespace Mi
open PySem PySem.Spec PyProof.Rows L2

theorem u64 {k : Nat} {A : Around} (r : Room k A) : A.units + 64 < cLine := r.units
theorem u65 {k : Nat} {A : Around} (r : Room k A) : A.units + 65 < cLine := by have := r.un; omega
section
variable {X : Cx} {C : Sc} {O O1 : List Nat} {a b c tg iter : Expr} {fa fb fc fe : Ex} {pos p p2 : Pos} {i : Nat} {x : Str}
theorem r_kn : ∀ (σ : L2.St) (H : Hp) (Q : VK), tD C O fa σ H Q → tN C O fa σ H Q := fun σ H Q ⟨G, δ, st, m⟩ => by
  refine ⟨G, δ, st, ?_⟩
  cases e : fa δ with
  | exc c d δ' => rw [e] at m; exact m
  | bad => rw [e] at m; exact m
  | ok d δ' =>
    rw [e] at m
    intro q G1 H1 s1 st1 n hn o
    obtain ⟨u, hu, rp⟩ := rp_known o n
    have nf : C.F.H q = none := by
      cases z : C.F.H q with
      | none => rfl
      | some w => exact absurd hn (st.ext.dom q (by rw [z]; simp))
    have no : ∀ i ∈ O, σ[i]? ≠ some (some (V.ref q)) := fun i hi e => by
      obtain ⟨a, d, e1, _, _, oo, _⟩ := st.ow i hi
      rw [e] at e1
      cases e1
      exact oo.at hn
    exact m _ _ H1 (s1.know n hn hu (o.nc hu).1) (st1.know n nf no hu (o.nc hu).1) rp
/-- a list comprehension -/
theorem n_lc0 {bq : Bool} {it : ItE} {t : Tg} {g : TG} {vs : List Nat} {elt : Expr} {scope : Scope} (own : List (Str × Nat)) (hc : X.calm = true) (hN : X.N.Nodup) (hi : PI X tg iter (tI bq C O it)) (ok : BlkOk X.N X.env.scope scope own) (hvs : own.map (·.2) = vs)
    (hg : ∀ (s : Shared) (H : Hp) (Ca : Addr) (cl : List (Str × Addr)) (fp : List Addr), PG (X.blk s H scope (compEnvC scope cl Ca X.env) fp) tg g) (ht : GT bq C O t g) (hd : ∀ v ∈ vs, v ∉ O) (hw : GW vs g)
    (he : ∀ (s : Shared) (H : Hp) (Ca : Addr) (cl : List (Str × Addr)) (fp : List Addr), PE (X.blk s H scope (compEnvC scope cl Ca X.env) fp) elt (tD C.blk O fe)) (hs : ∀ x, foldedSetIterable iter X.env x = pure x := by intro _; rfl) :
    PE X (.ListComp elt [⟨tg, iter, [], 0⟩] scope pos) (tN C O (eLc it t vs none fe)) := by
  subst hvs
  exact pe_imp (pe_lc hc hN hi ok hg (fun _ _ _ _ _ => pts_nil) he hs) (n_lc_r (fun _ _ _ h => h) ht hd hw (fun σ H Q G δ st h => by
    obtain ⟨b, e, q⟩ := h
    cases e
    exact q G H (.refl st.gh) st) (fun _ _ _ h => h))
theorem n_lc1 {bq : Bool} {it : ItE} {t : Tg} {g : TG} {vs : List Nat} {elt : Expr} {scope : Scope} (own : List (Str × Nat)) (hc : X.calm = true) (hN : X.N.Nodup) (hi : PI X tg iter (tI bq C O it)) (ok : BlkOk X.N X.env.scope scope own) (hvs : own.map (·.2) = vs)
    (hg : ∀ (s : Shared) (H : Hp) (Ca : Addr) (cl : List (Str × Addr)) (fp : List Addr), PG (X.blk s H scope (compEnvC scope cl Ca X.env) fp) tg g) (ht : GT bq C O t g) (hd : ∀ v ∈ vs, v ∉ O) (hw : GW vs g)
    (hp : ∀ (s : Shared) (H : Hp) (Ca : Addr) (cl : List (Str × Addr)) (fp : List Addr), PT (X.blk s H scope (compEnvC scope cl Ca X.env) fp) c (tDT C.blk O fc))
    (he : ∀ (s : Shared) (H : Hp) (Ca : Addr) (cl : List (Str × Addr)) (fp : List Addr), PE (X.blk s H scope (compEnvC scope cl Ca X.env) fp) elt (tD C.blk O fe)) (hs : ∀ x, foldedSetIterable iter X.env x = pure x := by intro _; rfl) :
    PE X (.ListComp elt [⟨tg, iter, [c], 0⟩] scope pos) (tN C O (eLc it t vs (some fc) fe)) := by
  subst hvs
  exact pe_imp (pe_lc hc hN hi ok hg (fun s H Ca cl fp => pts_one (hp s H Ca cl fp)) he hs) (n_lc_r (c := some fc) (fun _ _ _ h => h) ht hd hw (fun σ H Q G δ st h => (show tDT C.blk O fc σ H Q from ⟨G, δ, st, h⟩)) (fun _ _ _ h => h))
/-- name = [..] on one line -/
theorem l_lc0 {bq : Bool} {it : ItE} {t : Tg} {g : TG} {vs : List Nat} {elt : Expr} {scope : Scope} {y : Str} {py spos : Pos} (own : List (Str × Nat)) (hc : X.calm = true) (hN : X.N.Nodup) (hi : PI X tg iter (tI bq C O it)) (ok : BlkOk X.N X.env.scope scope own) (hvs : own.map (·.2) = vs)
    (hg : ∀ (s : Shared) (H : Hp) (Ca : Addr) (cl : List (Str × Addr)) (fp : List Addr), PG (X.blk s H scope (compEnvC scope cl Ca X.env) fp) tg g) (ht : GT bq C O t g) (hd : ∀ v ∈ vs, v ∉ O) (hw : GW vs g)
    (he : ∀ (s : Shared) (H : Hp) (Ca : Addr) (cl : List (Str × Addr)) (fp : List Addr), PE (X.blk s H scope (compEnvC scope cl Ca X.env) fp) elt (tD C.blk O fe))
    (hy : X.N[i]? = some y) (hyl : X.env.scope.names.lookup y = some .local) (hsw : swapsWith (.ListComp elt [⟨tg, iter, [], 0⟩] scope pos) (some (.Name y py)) spos.line X.env = pure true) (hs : ∀ x, foldedSetIterable iter X.env x = pure x := by intro _; rfl) :
    PS X (.Assign [.Name y py] (.ListComp elt [⟨tg, iter, [], 0⟩] scope pos) spos) (tAsg (tN C O (eLc it t vs none fe)) (gName i)) := by
  subst hvs
  exact ps_imp (ps_setLc hc hN hy hyl hsw hi ok hg (fun _ _ _ _ _ => pts_nil) he hs) fun D σ H h => n_lc_r (fun _ _ _ h => h) ht hd hw (fun σ H Q G δ st h => by
    obtain ⟨b, e, q⟩ := h
    cases e
    exact q G H (.refl st.gh) st) (fun _ _ _ h => h) _ _ _ h
theorem l_lc1 {bq : Bool} {it : ItE} {t : Tg} {g : TG} {vs : List Nat} {elt : Expr} {scope : Scope} {y : Str} {py spos : Pos} (own : List (Str × Nat)) (hc : X.calm = true) (hN : X.N.Nodup) (hi : PI X tg iter (tI bq C O it)) (ok : BlkOk X.N X.env.scope scope own) (hvs : own.map (·.2) = vs)
    (hg : ∀ (s : Shared) (H : Hp) (Ca : Addr) (cl : List (Str × Addr)) (fp : List Addr), PG (X.blk s H scope (compEnvC scope cl Ca X.env) fp) tg g) (ht : GT bq C O t g) (hd : ∀ v ∈ vs, v ∉ O) (hw : GW vs g)
    (hp : ∀ (s : Shared) (H : Hp) (Ca : Addr) (cl : List (Str × Addr)) (fp : List Addr), PT (X.blk s H scope (compEnvC scope cl Ca X.env) fp) c (tDT C.blk O fc))
    (he : ∀ (s : Shared) (H : Hp) (Ca : Addr) (cl : List (Str × Addr)) (fp : List Addr), PE (X.blk s H scope (compEnvC scope cl Ca X.env) fp) elt (tD C.blk O fe))
    (hy : X.N[i]? = some y) (hyl : X.env.scope.names.lookup y = some .local) (hsw : swapsWith (.ListComp elt [⟨tg, iter, [c], 0⟩] scope pos) (some (.Name y py)) spos.line X.env = pure true) (hs : ∀ x, foldedSetIterable iter X.env x = pure x := by intro _; rfl) :
    PS X (.Assign [.Name y py] (.ListComp elt [⟨tg, iter, [c], 0⟩] scope pos) spos) (tAsg (tN C O (eLc it t vs (some fc) fe)) (gName i)) := by
  subst hvs
  exact ps_imp (ps_setLc hc hN hy hyl hsw hi ok hg (fun s H Ca cl fp => pts_one (hp s H Ca cl fp)) he hs) fun D σ H h => n_lc_r (c := some fc) (fun _ _ _ h => h) ht hd hw (fun σ H Q G δ st h => (show tDT C.blk O fc σ H Q from ⟨G, δ, st, h⟩)) (fun _ _ _ h => h) _ _ _ h
theorem asg_kn {s : Stmt} {g : TG} (h : PS X s (tAsg (tN C O fa) g)) : PS X s (tAsg (tD C O fa) g) := ps_imp h fun D σ H h => r_kn _ _ _ h
/-- x op= e -/
theorem s_aug {op : Operator} {r : R2} {f : D → D → Option D} {px : Pos} (hi : i ∉ O) (s : S2 C.F.K C.F.cm r f) (h : PS X (.AugAssign (.Name x px) op a pos) (tAug i (tW C O fa) r)) (hx : C.XO O := by trivial) :
    PS X (.AugAssign (.Name x px) op a pos) (tS C O O (sAsg (.n i) (e2 f (eV i) fa))) := ps_imp h fun D σ H ⟨G, δ, st, m⟩ => by
  unfold sAsg e2 at m
  rcases eV_cases i δ with ⟨d, e, q⟩ | q
  · obtain ⟨v, e1, rv⟩ := st.sh i d hi e
    rw [q, Res.bind_ok] at m
    refine ⟨v, e1, G, δ, st, ?_⟩
    cases eb : fa δ with
    | exc c d δ1 => rw [eb] at m; exact fun G' H' cls dd st' x => m O σ G' H' cls dd hx st' x
    | bad => rw [eb] at m; exact m
    | ok d2 δ2 =>
      rw [eb, Res.bind_ok] at m
      intro w G1 H1 s1 st1 vw
      cases eo : f d d2 with
      | none => rw [eo] at m; exact m.elim
      | some d' =>
        rw [eo] at m
        exact s G1 H1 v w d d2 d' _ st1.gh (.inl (rv.mono s1.g)) vw eo fun v' G' H' ex rp => m _ G' H' (s1.g.trans ex.g) (put_keeps (st1.step ex) rp hi)
  · rw [q] at m
    exact m.elim
/-- fields -/
theorem Rfs.at {K : PySem.W.Frag} {cm : CM} {G : Hp} {f : Str} {d : D} : ∀ {fs : List (Str × V)} {ds : List (Str × D)}, Rfs K cm G fs ds → ds.lookup f = some d → ∃ v, fs.lookup f = some v ∧ Rp K cm G v d
  | _, _, .nil, h => by cases h
  | _, _, .cons (f := f') r t, h => by
    rw [List.lookup_cons] at h ⊢
    by_cases e : (f == f') = true
    · rw [e] at h ⊢
      cases h
      exact ⟨_, rfl, r⟩
    · simp only [Bool.not_eq_true] at e
      rw [e] at h ⊢
      exact Rfs.at t h
theorem a_fldD {K : PySem.W.Frag} {cm : CM} {c f : Str} (hc : Cls K (cm c)) (hn : NoAttr K (cm c) f) : S1 K cm (fun x H1 Q => ∃ a C dx fs v, x = .ref a ∧ H1 a = some (.ins C dx fs) ∧ Cls K C ∧ NoAttr K C f ∧ fs.lookup f = some v ∧ Q v H1) (fldD c f) := fun G H v d d' Q gh v1 ho (a : Ans K cm G H d' Q) => by
  unfold fldD at ho
  split at ho
  · split at ho
    · rename_i c' fs e
      subst e
      rcases v1 with r | ⟨_, rfl, dx, fs, h1, h2, rf⟩
      · cases r with
        | obj h1 h2 rf =>
          obtain ⟨w, hw, rw'⟩ := rf.at ho
          exact ⟨_, _, _, _, w, rfl, gh _ _ h1, hc, hn, hw, a.now gh rw'⟩
      · obtain ⟨w, hw, rw'⟩ := rf.at ho
        exact ⟨_, _, _, _, w, rfl, h1, hc, hn, hw, a.now gh rw'⟩
    · cases ho
  · cases ho
end
/-! ### a def that may be called -/
structure Cal (P : Program) (w : World) (K : PySem.W.Frag) (mg : Str → Option Value) (base : Heap) (cm : CM) (fld : Str → Str) (x : Str) (k n : Nat) (own : List Nat) (f : List D → Fr) : Prop where
  ex : ∃ g fd ps, FnOk P w K mg base (L2.CX P w) k g fd ps (spM K cm fld n own f) ∧ mg x = some (.ref g) ∧ PySem.W.keepIn K (.ref g) = true ∧ Binds K fd ps []
section
variable {X : Cx} {C : Sc} {O O1 : List Nat} {a b c tg iter : Expr} {fa fb fc fe : Ex} {pos p p2 : Pos} {i : Nat} {x : Str} {es : List Expr} {fs : List Ex} {f : List D → Fr} {k j n : Nat} {fld : Str → Str}
theorem d_cal (c : Cal X.prog X.w X.K X.mg X.base C.F.cm C.fld x k n [] f) (hK : C.F.K = X.K) (hr : Room j X.A) (hk : k ≤ j) (tk : Takes X C.W) (ha : PA X (a :: es) (tA C O (eL fs))) (hn : fs.length = n) (hg : Gl X x := by rfl) (hdb : (x == ("__debug__" : Str)) = false := by decide)
    (he : starEach (a :: es) X.env = (false, eval a X.env) :: starEach es X.env := by rfl) (hpl : (backTo pos (starEach es X.env)).any (·.1) = false := by rfl) : PE X (.Call (.Name x p) (a :: es) [] pos) (tD C O (eCall f fs)) := by
  obtain ⟨g, fd, ps, F, hm, kp, hb⟩ := c.ex
  rw [← hK] at F
  exact d_call (hK ▸ F) (hr.mono hk) hg hm kp hb tk ha hn hdb he hpl
theorem d_calO (c : Cal X.prog X.w X.K X.mg X.base C.F.cm C.fld x k n [0] f) (hK : C.F.K = X.K) (hr : Room j X.A) (hk : k ≤ j) (tk : Takes X C.W) (hi : i ∈ O) (ha : PA X (a :: es) (tCons (tVar i) (tA C O (eL fs)))) (hn : fs.length + 1 = n) (hg : Gl X x := by rfl) (hdb : (x == ("__debug__" : Str)) = false := by decide)
    (he : starEach (a :: es) X.env = (false, eval a X.env) :: starEach es X.env := by rfl) (hpl : (backTo pos (starEach es X.env)).any (·.1) = false := by rfl) : PE X (.Call (.Name x p) (a :: es) [] pos) (tD C O (eCallO f i fs)) := by
  obtain ⟨g, fd, ps, F, hm, kp, hb⟩ := c.ex
  rw [← hK] at F
  exact d_callO (hK ▸ F) (hr.mono hk) hg hm kp hb tk hi ha hn hdb he hpl
theorem d_calP (c : Cal X.prog X.w X.K X.mg X.base C.F.cm C.fld x k n [1] f) (hK : C.F.K = X.K) (hr : Room j X.A) (hk : k ≤ j) (tk : Takes X C.W) (hi : i ∈ O) (ha : PA X (a :: es) (tCons (tD C O fa) (tCons (tVar i) (tA C O (eL fs))))) (hn : fs.length + 2 = n) (hg : Gl X x := by rfl) (hdb : (x == ("__debug__" : Str)) = false := by decide)
    (he : starEach (a :: es) X.env = (false, eval a X.env) :: starEach es X.env := by rfl) (hpl : (backTo pos (starEach es X.env)).any (·.1) = false := by rfl) : PE X (.Call (.Name x p) (a :: es) [] pos) (tD C O (eCallP f fa i fs)) := by
  obtain ⟨g, fd, ps, F, hm, kp, hb⟩ := c.ex
  rw [← hK] at F
  exact d_callP (hK ▸ F) (hr.mono hk) hg hm kp hb tk hi ha hn hdb he hpl
theorem d_calN (c : Cal X.prog X.w X.K X.mg X.base C.F.cm C.fld x k n [0] f) (hK : C.F.K = X.K) (hr : Room j X.A) (hk : k ≤ j) (tk : Takes X C.W) (ha : PA X (a :: es) (tCons (tN C O fa) (tA C O (eL fs)))) (hn : fs.length + 1 = n) (hg : Gl X x := by rfl) (hdb : (x == ("__debug__" : Str)) = false := by decide)
    (he : starEach (a :: es) X.env = (false, eval a X.env) :: starEach es X.env := by rfl) (hpl : (backTo pos (starEach es X.env)).any (·.1) = false := by rfl) : PE X (.Call (.Name x p) (a :: es) [] pos) (tD C O (eCallN f fa fs)) := by
  obtain ⟨g, fd, ps, F, hm, kp, hb⟩ := c.ex
  rw [← hK] at F
  exact d_callN (hK ▸ F) (hr.mono hk) hg hm kp hb tk ha hn hdb he hpl
end
theorem cal_mk {P : Program} {w : World} {K : PySem.W.Frag} {mg : Str → Option Value} {base : Heap} {cm : CM} {fld : Str → Str} {x qual : Str} {st : Stmt} {g : Addr} {fd : FuncData} {N ps : List Str} {k n p : Nat} {own : List Nat} {m : Sm} (F : Fun K x qual st g fd) (hm : mg x = some (.ref g)) (hb : Binds K fd ps [])
    (S : FnScope N ps (defScope st)) (hn : N.length = n) (hp : ps.length = p) (hpn : p ≤ n) (O' : List Nat)
    (hbody : ∀ (cdv : Value) (cd : fd.code = cdv) (A : Around) (outer : List PySem.Env) (s : Shared) (H G : Hp) (E : XK) (as : List Addr), Room k (A.deeper (envOfC qual (defScope st) s.heap.objs.size g cdv)) →
      PSs (cxOf (L2.CX P w) P w K mg base N qual (defScope st) g cdv A outer s H E) (defBody st) (tS ⟨⟨K, cm, G, H, n, own, as⟩, fun cls d _ H => E cls d H, fld, fun _ => True, [], false⟩ own O' m)) :
    Cal P w K mg base cm fld x (k + 1) p own (fnM n p own m) := ⟨g, fd, ps, fn_mir F S hn hp hpn O' hbody, hm, F.kp, hb⟩
end Mi

end
section
set_option Elab.async false
set_option linter.all false
set_option maxRecDepth 100000
set_option autoImplicit false
set_option maxHeartbeats 4000000
namespace Mi
open PySem PySem.Spec PyProof.Rows L2

section
variable {X : Cx} {C : Sc} {O O1 : List Nat} {a b c e : Expr} {fa fb fc : Ex} {pos p p2 : Pos} {x : Str} {r : List V → Hp → VK → Prop}
theorem d_glob {i : Int} (hm : ∃ t, X.mg x = some (.int i t)) (hg : Gl X x := by rfl) (hd : (x == ("__debug__" : Str)) = false := by decide) : PE X (.Name x p) (tD C O (eC (.int i))) := by
  obtain ⟨t, hm⟩ := hm
  exact d_c (pe_glob (v := .int i) hg hm ⟨t, rfl⟩ hd) fun _ => .int i
theorem b_1 {op : D → Option D} (s : S1 C.F.K C.F.cm (fun v H Q => r [v] H Q) op) (h : PE X e (tCB r (tCons (tW C O fa) tNil))) : PE X e (tD C O (e1 op fa)) := d_1 s h
theorem bn_1 {op : D → Option D} (s : N1 C.F.K C.F.cm (fun v H Q => r [v] H Q) op) (h : PE X e (tCB r (tCons (tW C O fa) tNil))) : PE X e (tN C O (e1 op fa)) := n_1 s h
theorem b_2 {op : D → D → Option D} (s : S2 C.F.K C.F.cm (fun v w H Q => r [v, w] H Q) op) (h : PE X e (tCB r (tCons (tD C O fa) (tCons (tW C O fb) tNil)))) : PE X e (tD C O (e2 op fa fb)) := d_2 s h
theorem b_isi {T : String} (hT : T ∈ ["bool", "int", "str", "list", "tuple", "dict"]) (h : PE X e (tCB (rIsi C.F.K) (tCons (tW C O fa) (tCons (tC (.ty T)) tNil)))) : PE X e (tD C O (e1 (isD T) fa)) := d_1 (a_isD hT) h
theorem rps_map {K : PySem.W.Frag} {cm : CM} {G : Hp} : ∀ l : List Nat, Rps K cm G (l.map fun i => V.int (0 + (i : Nat))) (l.map fun (k : Nat) => D.int (0 + (k : Int)))
  | [] => .nil
  | i :: l => .cons (.int _) (rps_map l)
theorem a_addI {K : PySem.W.Frag} {cm : CM} : S2 K cm (rI0 fun i j => .int (i + j)) addI := fun G H v w d e d' Q gh v1 v2 ho (a : Ans K cm G H d' Q) => by
  unfold addI at ho
  split at ho
  · cases ho
    exact ⟨_, _, v1.int, v2.int, a.now gh (.int _)⟩
  · cases ho
/-- list(range(n)) -/
theorem n_lrg (hc : X.calm = true) (hg : Gl X "list") (hm : X.mg "list" = none) (hg2 : Gl X "range") (hm2 : X.mg "range" = none) (ha : PE X a (tD C O fa)) (na : starEach [.Call (.Name "range" p2) [a] [] pos] X.env = (false, eval (.Call (.Name "range" p2) [a] [] pos) X.env) :: starEach [] X.env := by rfl) (na2 : starEach [a] X.env = (false, eval a X.env) :: starEach [] X.env := by rfl) {pos2 : Pos} :
    PE X (.Call (.Name "list" p) [.Call (.Name "range" p2) [a] [] pos] [] pos2) (tN C O (eLrg fa)) := pe_imp (pe_listRg hc hg hm (prg_1 hg2 hm2 ha na2) na) fun σ H Q ⟨G, δ, st, m⟩ => by
  refine ⟨G, δ, st, ?_⟩
  unfold eLrg at m
  cases e : fa δ with
  | exc c d δ' => rw [e] at m; exact m
  | bad => rw [e] at m; exact m
  | ok d δ1 =>
    rw [e, Res.bind_ok] at m
    intro v G1 H1 s1 st1 rv
    cases d with
    | int i =>
      cases rv
      simp only at m
      by_cases hi : -(cap : Int) ≤ i ∧ i ≤ cap
      case neg => rw [if_neg hi] at m; exact m.elim
      rw [if_pos hi] at m
      have hc0 : (cap : Int) = 16000000 := by rw [cap_eq]; rfl
      refine ⟨i, rfl, ⟨by omega, by omega, by omega, by omega, by omega⟩, fun q n => ?_⟩
      obtain ⟨f1, f2, f3, f4⟩ := fresh_facts (u := .lst (rgV 0 i)) st1 n
      refine m q G1 _ (s1.and (Ext.fresh st1.gh n)) f1 f2 (s1.back n) ⟨_, upd_same, ?_⟩
      unfold rgV rng
      rw [Int.sub_zero]
      exact rps_map _
    | _ => exact m.elim
end
end Mi

end
section
set_option Elab.async false
set_option linter.all false
set_option maxRecDepth 100000
set_option autoImplicit false
set_option maxHeartbeats 4000000
/-! set(xs) of a list of ints; sorted(set(xs)) -/
namespace Mi
open PySem PySem.Spec PyProof.Rows L2
/-- a set's object, just made -/
abbrev so (w : World) : Obj := { cls := .type "set", dict := none, data := .set #[] 0 (.fresh 0 0 (!w.params.followText "set-order")) }
abbrev so1 (w : World) (h : Heap) : Heap := h.push (so w)
section
variable {P : Program} {w : World} {A : Around} {E : Value → Shared → Prop} {s : Shared}
theorem set_init_list {l : Addr} {items : Array Value} (ns : List Int) {B : Around} {R : Value → Shared → Prop} (hh : B.handled = none) (hl : s.heap.IsList l items) (hit : IntsAre items.toList ns) (hb : ns.length + 1 < scanBound)
    (h : ∀ (h' : Heap) (tk c : Nat), SetR w h' s.heap.objs.size (fun j => decide (j ∈ ns)) c → c ≤ ns.length → (∀ b o, s.heap.get? b = some o → h'.get? b = some o) → R .none { s with heap := h', toks := tk }) :
    wpAny (model P w) B (Builtin.«set.__init__» ⟨[.ref s.heap.objs.size, .ref l], []⟩) (fun fin s' => ∃ r, fin = .done (.ret r) ∧ R r s') E { s with heap := so1 w s.heap } := by
  have hn : items.size = ns.length := by
    have q := hit.length
    rwa [Array.length_toList] at q
  obtain ⟨⟨c0, d0, t0, sl0⟩, e0, k1, nl, k2⟩ := hl
  simp only at k1 k2
  subst k1 k2
  have e1 : (so1 w s.heap).get? l = some ⟨.type "list", d0, .seq items nl, sl0⟩ := Heap.get?_push_of_some _ e0
  have f1 := F.sub_list_set
  have f2 := F.sub_list_frozenset
  have f3 : (Value.type "list" == Value.type "dict") = false := by decide
  have L1 : (so1 w s.heap).IsList l items := ⟨_, e1, rfl, nl, rfl⟩
  unfold Builtin.«set.__init__» noKeywords Builtin.Frozenset.updateFrom
  generalize hI : pyIter = PI
  wp_walk
  subst hI
  refine wpAny_pyIter_list L1 (wpAny_bind (wpAny_runValue ?_))
  have lt : l < s.heap.objs.size := Heap.lt_size e0
  have z1 : (so1 w s.heap).objs.size = s.heap.objs.size + 1 := Heap.size_push ..
  have ne : l ≠ (so1 w s.heap).objs.size := by rw [z1]; exact Nat.ne_of_lt (Nat.lt_succ_of_lt lt)
  have hS : (so1 w s.heap).get? s.heap.objs.size = some (so w) := Heap.get?_push_size _ rfl
  have nS : s.heap.objs.size ∉ [(so1 w s.heap).objs.size, l] := by
    rw [z1]
    simp only [List.mem_cons, List.not_mem_nil, or_false, not_or]
    exact ⟨Nat.ne_of_lt (Nat.lt_succ_self _), Nat.ne_of_gt lt⟩
  have hv : ∀ (i : Nat) (v : Value), items[i]? = some v → ∃ k t, ns[i]? = some k ∧ v = .int k t := fun i v e => by
    have hi : i < ns.length := hn ▸ (Array.getElem?_eq_some_iff.mp e).1
    obtain ⟨t, q⟩ := PyProof.Rows.IntsAre.int_at hit i v (by rw [Array.getElem?_toList]; exact e)
    exact ⟨ns[i], t, List.getElem?_eq_getElem hi, by rw [q, List.getD_eq_getElem?_getD, List.getElem?_eq_getElem hi]; rfl⟩
  have hh3 : B.in1.handled = none := by simp [hh]
  refine set_update_ints ((Walks.list hh3 _ l ne items).toS) s.heap.objs.size nS ns hn hb hv (items.size - 0) 0 _ (by omega) (Nat.zero_le _) ⟨⟨_, Heap.get?_push_size _ rfl, rfl, rfl⟩, L1.push _⟩
    ⟨0, Nat.le_refl 0, setR_new_at (Heap.get?_push_of_some _ hS)⟩ fun s' c hm hc hR => ?_
  obtain ⟨h', g2, d', tk, os'⟩ := s'
  obtain rfl : g2 = s.gens := hm.gens
  obtain rfl : d' = s.drawn := hm.drawn
  obtain rfl : os' = s.os := hm.os
  rw [hn] at hc
  refine wpAny_pure (wpAny_pure ⟨_, rfl, h h' tk c hR hc fun b o e => ?_⟩)
  have b0 : b < s.heap.objs.size := Heap.lt_size e
  refine hm.heap b o ?_ (Heap.get?_push_of_some _ (Heap.get?_push_of_some _ e))
  simp only [List.mem_cons, List.not_mem_nil, or_false, not_or]
  exact ⟨Nat.ne_of_lt b0, by rw [z1]; exact Nat.ne_of_lt (Nat.lt_succ_of_lt b0)⟩
theorem call_setL {l : Addr} {items : Array Value} (ns : List Int) {Q : Value → Shared → Prop} (hh : A.handled = none) (hl : s.heap.IsList l items) (hit : IntsAre items.toList ns) (hb : ns.length + 1 < scanBound)
    (h : ∀ (h' : Heap) (tk c : Nat), SetR w h' s.heap.objs.size (fun j => decide (j ∈ ns)) c → c ≤ ns.length → (∀ b o, s.heap.get? b = some o → h'.get? b = some o) → Q (.ref s.heap.objs.size) { s with heap := h', toks := tk }) :
    wpAny (model P w) A (call (.type "set") [.ref l]) Q E s := by
  obtain ⟨c, tl, hmro⟩ := F.called_set.mro
  have hmade := F.called_set.made
  have hsub := F.called_set.sub
  refine wpAny_call (codeAny_of_tree (wpAny_pure ⟨Code.quiet_builtin _ (by decide +kernel), codeAny_builtin F.entry_type_call ?_⟩))
  rw [Around.under_plain (weight_type_call_type "set" [.ref l] []) rfl]
  have h1 := F.called_set.notType
  have h2 := F.called_set.canCreate
  have h3 := F.typeCall_set_1 (.ref l)
  repeat (any_goals (first | assumption | wp_step))
  refine codeAny_mono (code_set_led1 (.ref l) (E := E) (Q₁ := fun o s₁ => o = .ref s.heap.objs.size ∧ s₁ = { s with heap := so1 w s.heap }) ⟨rfl, rfl⟩) fun r s₁ hr => ?_
  rcases r with e | fl
  · exact hr
  cases fl with
  | ret obj =>
    obtain ⟨rfl, rfl⟩ := hr
    have hS : (so1 w s.heap).get? s.heap.objs.size = some (so w) := Heap.get?_push_size _ rfl
    have hT : Shared.TypeIs { s with heap := so1 w s.heap } (.ref s.heap.objs.size) "set" := ⟨_, hS, rfl⟩
    have h4 := F.called_set.init.lookup
    have h5 := F.called_set.init.bind (.ref s.heap.objs.size)
    repeat (any_goals (first | assumption | wp_step))
    refine codeAny_mono (codeAny_call_builtin (R := wants (fun r s₂ => r = .none ∧ ∃ h' tk c, s₂ = { s with heap := h', toks := tk } ∧ SetR w h' s.heap.objs.size (fun j => decide (j ∈ ns)) c ∧ c ≤ ns.length ∧ ∀ b o, s.heap.get? b = some o → h'.get? b = some o) E)
      F.called_set.init.plain F.entry_set_init (check_set_init_1 hT ?_)) fun r s₂ h₂ => ?_
    · exact wpAny_mono (set_init_list (B := A.in1.in1) (E := fun e s' => wants (fun r s₂ => r = .none ∧ ∃ h' tk c, s₂ = { s with heap := h', toks := tk } ∧ SetR w h' s.heap.objs.size (fun j => decide (j ∈ ns)) c ∧ c ≤ ns.length ∧ ∀ b o, s.heap.get? b = some o → h'.get? b = some o) E (.error e) s')
        (R := fun r s₂ => r = .none ∧ ∃ h' tk c, s₂ = { s with heap := h', toks := tk } ∧ SetR w h' s.heap.objs.size (fun j => decide (j ∈ ns)) c ∧ c ≤ ns.length ∧ ∀ b o, s.heap.get? b = some o → h'.get? b = some o) ns (by simp [hh]) hl hit hb
        fun h' tk c q1 q2 q3 => ⟨rfl, h', tk, c, rfl, q1, q2, q3⟩) (fun fin s' ⟨r, e, q⟩ => by subst e; exact q) fun _ _ z => z
    · rcases r with e | fl
      · exact h₂
      cases fl with
      | ret r =>
        obtain ⟨rfl, h', tk, c, rfl, q1, q2, q3⟩ := h₂
        repeat (any_goals (first | assumption | wp_step))
        exact h _ _ _ q1 q2 q3
      | _ => exact h₂.elim
  | _ => exact hr.elim
end
theorem mem_udup {k : Int} : ∀ l : List Int, k ∈ udup l ↔ k ∈ l
  | [] => Iff.rfl
  | a :: r => by
    unfold udup
    split
    · rename_i h
      rw [mem_udup r] at h ⊢
      constructor
      · exact fun z => List.mem_cons_of_mem _ z
      · intro z
        rcases List.mem_cons.mp z with e | e
        · rw [e]; exact h
        · exact e
    · rw [List.mem_cons, List.mem_cons, mem_udup r]
theorem nodup_udup : ∀ l : List Int, (udup l).Nodup
  | [] => List.nodup_nil
  | a :: r => by
    unfold udup
    split
    · exact nodup_udup r
    · exact List.nodup_cons.mpr ⟨by assumption, nodup_udup r⟩
theorem udup_le : ∀ l : List Int, (udup l).length ≤ l.length
  | [] => Nat.le_refl _
  | a :: r => by
    unfold udup
    have := udup_le r
    split <;> simp <;> omega
theorem setR_size {w : World} {h : Heap} {a : Addr} {ns : List Int} {c : Nat} (R : SetR w h a (fun j => decide (j ∈ ns)) c) : c = (udup ns).length := by
  obtain ⟨o, es, ep, t, _, _, _, _, nd, hm, _, _, hn, _, _⟩ := R
  have p : (es.toList.map keyOf).Perm (udup ns) := (List.perm_ext_iff_of_nodup nd (nodup_udup ns)).mpr fun k => by rw [← hm k, mem_udup, decide_eq_true_eq]
  have := p.length_eq
  rw [List.length_map, Array.length_toList] at this
  omega
def rSset (K : PySem.W.Frag) : V → Hp → VK → Prop := fun v H Q => ∃ (a : Addr) (ns : List Int), v = .ref a ∧ SqL K H a (ns.map V.int) ∧ (ns.length < 4000 ∧ (udup ns).length < 64) ∧ ∀ (ns' : List Int) (p : Addr), ns'.Pairwise (· < ·) → (∀ k, k ∈ ns' ↔ k ∈ ns) → H p = none → Q (.ref p) (upd H p (.lst (ns'.map V.int)))
theorem pe_sset {X : Cx} {a : Expr} {te : TE} {p p2 q pos : Pos} (hc : X.calm = true) (hg : Gl X "sorted") (hm : X.mg "sorted" = none) (hg2 : Gl X "set") (hm2 : X.mg "set" = none) (ha : PE X a te) (na : starEach [a] X.env = (false, eval a X.env) :: starEach [] X.env := by rfl) :
    PE X (.Call (.Name "sorted" p) [.Call (.Name "set" p2) [a] [] q] [] pos) (tUn (rSset X.K) te) := by
  refine ⟨fun pins s σ H Q I h => Call_ (ld_blt I hg hm PyProof.Rows.boot_sorted (PyProof.Rows.callWith_builtin1 (PyProof.Rows.args_cons ?_ rfl) rfl rfl))⟩
  refine Call_ (ld_blt I hg2 hm2 PyProof.Rows.boot_set (PyProof.Rows.callWith_type1 (PyProof.Rows.args_cons (thn (ha.run pins s σ H _ I h) fun v s1 ⟨x, H1, I1, r1, l, ns, ex, hq, h64, q1⟩ => PyProof.Rows.args_nil ?_) na) na rfl))
  subst ex
  cases r1
  obtain ⟨its, r, pl, hz⟩ := I1.list hq
  have hd := I1.ok.hd hc
  refine call_setL ns hd pl.isList (by simpa using intsAre_of r) (by unfold scanBound; have := h64.1; omega) fun h' tk c R hcn k => PyProof.Rows.args_nil ?_
  have I2 : Inv X pins σ H1 { s1 with heap := h', toks := tk } := I1.kept k
  refine sorted_set (s := { s1 with heap := h', toks := tk }) R hd (by rw [setR_size R]; exact h64.2) fun s' b out cc ns' kp g o hp hg' hi hs hm hl => ?_
  have hlen : (ns'.map V.int).length ≤ sizeLine := by rw [List.length_map, hl, sizeLine_eq]; omega
  have hn : H1 b = none := I2.hok.fresh hp
  have J : Inv X pins σ (upd H1 b (.lst (ns'.map V.int))) { ({ s1 with heap := h', toks := tk } : Shared) with heap := s'.heap, gens := s'.gens, drawn := s'.drawn, toks := s'.toks } :=
    I2.call (ch := []) (Un.laid kp hp hn) (I2.hok.laid kp hp ⟨hlen, out.toList, cc, vals_of_ints hi, hg'⟩) (by rw [g]; exact I2.bare) (fun _ z => nomatch z)
  have e : s' = { s1 with heap := s'.heap, gens := s'.gens, drawn := s'.drawn, toks := s'.toks } := by
    cases s'
    cases s1
    cases o
    rfl
  rw [e]
  exact ⟨.ref b, _, J, rfl, q1 ns' b hs (fun j => by rw [hm j, decide_eq_true_eq]) hn⟩
theorem sset_unique {l l' : List Int} (s : l'.Pairwise (· < ·)) (m : ∀ k, k ∈ l' ↔ k ∈ l) : l' = isort (udup l) :=
  isort_unique ((List.perm_ext_iff_of_nodup (s.imp fun h => Int.ne_of_lt h) (nodup_udup l)).mpr fun k => by rw [m k, mem_udup]) (s.imp fun h => Int.le_of_lt h)
theorem a_sset {K : PySem.W.Frag} {cm : CM} : N1 K cm (rSset K) ssetD := fun G H v d d' Q gh v1 ho a => by
  unfold ssetD at ho
  split at ho
  · rename_i xs
    cases q : intsO xs with
    | none => rw [q] at ho; cases ho
    | some ns =>
      rw [q, Option.bind_some] at ho
      split at ho
      · rename_i h64
        cases ho
        obtain ⟨p, ys, rfl, hq, r⟩ := v1.lst gh
        have e := r.ints q
        subst e
        exact ⟨p, ns, rfl, hq, h64.elim (fun z => ⟨by omega, Nat.lt_of_le_of_lt (udup_le ns) z⟩) id, fun ns' l h1 h2 n => by rw [sset_unique h1 h2]; exact a l _ n ⟨_, upd_same, rps_ints _⟩⟩
      · cases ho
  · cases ho
theorem n_sset {X : Cx} {C : Sc} {O : List Nat} {fa : Ex} {a : Expr} {p p2 q pos : Pos} (hK : C.F.K = X.K) (hc : X.calm = true) (hm : X.mg "sorted" = none) (hm2 : X.mg "set" = none) (ha : PE X a (tW C O fa)) (hg : Gl X "sorted" := by rfl) (hg2 : Gl X "set" := by rfl) (na : starEach [a] X.env = (false, eval a X.env) :: starEach [] X.env := by rfl) :
    PE X (.Call (.Name "sorted" p) [.Call (.Name "set" p2) [a] [] q] [] pos) (tN C O (e1 ssetD fa)) := n_1 a_sset (hK ▸ pe_sset hc hg hm hg2 hm2 ha na)
end Mi

end
section
set_option Elab.async false
set_option linter.all false
set_option maxRecDepth 100000
set_option autoImplicit false
set_option maxHeartbeats 4000000
/-! exceptions of own classes: made, raised, caught -/
namespace Mi
open PySem PySem.Spec PyProof.Rows L2

/-- Base.__init__(self, ..) where Base is an own class whose __init__ is ValueError's -/
structure SBase (K : PySem.W.Frag) (mg : Str → Option Value) (b : Str) (CS : Addr) : Prop where
  m : mg b = some (.ref CS)
  rd : PySem.W.readsIn K CS (.type "type") = true
  ga : PySem.W.specialIn K (.ref CS) "__getattribute__" = some (some (.builtin "type.__getattribute__"))
  ini : PySem.W.findCls K (.ref CS) (.type "type") "__init__" = some (.val (.builtin "ValueError.__init__"))
section
variable {X : Cx} {e : Expr} {es : List Expr} {ta : TA} {p1 p2 pos : Pos}
theorem pe_sinit {b : Str} {CS : Addr} {pl : Sem Bool} (B : SBase X.K X.mg b CS) (hg : Gl X b) (ha : PA X (e :: es) ta) (hdb : (b == ("__debug__" : Str)) = false := by decide)
    (hc : eval (.Call (.Attribute (.Name b p1) "__init__" p2) (e :: es) [] pos) X.env = (do
      let ov ← eval (.Name b p1) X.env
      standAt p2.atName
      let (f, first) ← holding [ov] (getMethod ov "__init__" pl)
      callWith pos f first (backTo pos (starEach (e :: es) X.env)) (backToKw pos (keywordEach [] X.env))) := by rfl)
    (he : starEach (e :: es) X.env = (false, eval e X.env) :: starEach es X.env := by rfl) (hpl : (backTo pos (starEach es X.env)).any (·.1) = false := by rfl) :
    PE X (.Call (.Attribute (.Name b p1) "__init__" p2) (e :: es) [] pos) (tVeI X.K ta) := by
  refine ⟨fun pins s σ H Q I h => PySem.W.methodCall_KW (ld_glob I hg B.m ?_ hdb) hc⟩
  refine PySem.W.method_cls I.kIn B.ga (PySem.W.cls_value I.kIn B.rd B.ini (by decide +kernel) ?_)
  show wpAny _ _ (callWith pos (Value.builtin "ValueError.__init__") [] (backTo pos (starEach (e :: es) X.env)) []) _ _ _
  refine PyProof.Rows.callWith_method1 (thn (ha.run pos pins _ σ H _ (I.tok _) h) fun us s1 ⟨vs, H1, I1, r1, a, C, ws, ev, hl, T, ea, q⟩ => ?_) he hpl
  subst ev
  cases r1 with
  | @cons _ u0 _ ur ra rw' =>
    obtain rfl : u0 = Value.ref a := ra
    exact oinit_ok T I1 ea (by rw [← Paired.length rw', sizeLine_eq]; omega) fun s' J => ⟨.non, H1, J, rfl, q⟩
end
/-- what an exception class's __init__ promises: its one field -/
def spI (C : Addr) (f : Str) : Sp := fun vs H Q _ => ∃ (a : Addr) (y : V), vs = [.ref a, y] ∧ H a = some (exo a C none) ∧ ∀ dx, H dx = none → dx ≠ a → Q .non (upd (upd H dx (exd dx [(f, y)])) a (exo a C (some dx)))
/-- what is known of an exception class -/
structure ExK (K : PySem.W.Frag) (mg : Str → Option Value) (cm : CM) (fld : Str → Str) (c : Str) : Prop where
  T : OexC K (cm c)
  no : PySem.W.findIn K (.ref (cm c)) (fld c) = some none
  m : mg c = some (.ref (cm c))
  xf : XfC K (cm c)
/-- .. and its __init__ -/
structure ExI (P : Program) (w : World) (K : PySem.W.Frag) (mg : Str → Option Value) (base : Heap) (cm : CM) (fld : Str → Str) (c : Str) : Prop where
  k : ExK K mg cm fld c
  i : ∃ fI fd ps, PySem.W.findIn K (.ref (cm c)) "__init__" = some (some (.ref fI)) ∧ PySem.W.typeIn K (.ref fI) = some (.type "function") ∧ FnOk P w K mg base (L2.CX P w) 1 fI fd ps (spI (cm c) (fld c)) ∧ Binds K fd ps []
theorem spI_run {K : PySem.W.Frag} {C : Addr} {f : Str} {t : Str} {vs : List V} {H : Hp} {Q : VK} {E : XK} {N : List Str} (T : OexC K C) (no : PySem.W.findIn K (.ref C) f = some none) (h : spI C f vs H Q E) (hN : N.length = 2) :
    tSeq (tDrop (tVeI K (tCons (tVar 0) (tCons (tC (.str t)) tNil)))) (tOst K f (tVar 0) (tVar 1)) { nx := fun _ H' => Q .non H', rt := Q } (L2.start N vs) H := by
  obtain ⟨a, y, rfl, ha, q⟩ := h
  have e0 : (L2.start N [V.ref a, y])[0]? = some (some (V.ref a)) := rfl
  have e1 : (L2.start N [V.ref a, y])[1]? = some (some y) := rfl
  exact ⟨_, e0, a, C, _, rfl, (by show 1 ≤ 1000; decide), T, ha, _, e1, _, e0, a, C, rfl, T, no, .inl ⟨ha, fun dx n ne => q dx n ne⟩⟩
theorem exi_mk {f : Str} {P : Program} {w : World} {K : PySem.W.Frag} {mg : Str → Option Value} {base : Heap} {cm : CM} {fld : Str → Str} {c qual t : Str} {st : Stmt} {fI : Addr} {fd : FuncData} {N : List Str} (k : ExK K mg cm fld c) (hf : fld c = f) (F : Fun K "__init__" qual st fI fd)
    (iC : PySem.W.findIn K (.ref (cm c)) "__init__" = some (some (.ref fI))) (tI : PySem.W.typeIn K (.ref fI) = some (.type "function")) (hb : Binds K fd N []) (S : FnScope N N (defScope st)) (hN : N.length = 2)
    (hbody : ∀ (cdv : Value) (A : Around) (outer : List PySem.Env) (s : Shared) (H : Hp) (E : XK), PSs (cxOf (L2.CX P w) P w K mg base N qual (defScope st) fI cdv A outer s H E) (defBody st) (tSeq (tDrop (tVeI K (tCons (tVar 0) (tCons (tC (.str t)) tNil)))) (tOst K f (tVar 0) (tVar 1)))) :
    ExI P w K mg base cm fld c := by
  subst hf
  exact ⟨k, fI, fd, N, iC, tI, F.okX S (fun vs H Q E h => by
    obtain ⟨a, y, rfl, _⟩ := h
    exact hN.symm) (fun cdv A outer s H vs Q E hr h => ⟨_, hbody cdv A outer s H E, spI_run k.T k.no h hN⟩), hb⟩
section
variable {X : Cx} {C : Sc} {O O1 : List Nat} {a b c : Expr} {fa fb fc : Ex} {pos p p2 p3 : Pos} {i j : Nat} {x n cls : Str} {ga gb : Sm}
theorem passN {X : Cx} : Passes (L2.CX X.prog X.w) X (fun _ _ _ => False) := fun pins σ H s e s' I c => passAt (W := fun _ _ _ _ => False) takes0 σ pins H s e s' I c
/-- raise c(e) -/
theorem s_raise {k : Nat} (x : ExI X.prog X.w X.K X.mg X.base C.F.cm C.fld cls) (hK : C.F.K = X.K) (hc : X.calm = true) (hr : Room k X.A) (hk : 2 ≤ k) (tk : Takes X C.W) (ha : PE X a (tD C O fa)) (hx : C.XO O := by trivial) (hg : Gl X cls := by rfl) (hdb : (cls == ("__debug__" : Str)) = false := by decide)
    (he : starEach [a] X.env = (false, eval a X.env) :: starEach [] X.env := by rfl) (hpl : (backTo p2 (starEach [] X.env)).any (·.1) = false := by rfl) :
    PS X (.Raise (some (.Call (.Name cls p) [a] [] p2)) none pos) (tS C O O1 (sRaise cls fa)) := by
  obtain ⟨fI, fd, ps, iC, tI, F, hb⟩ := x.i
  refine ps_imp (ps_raise hc tk (pmk_oex (dvs := []) x.k.T iC tI F (hr.mono hk) hb .nil passN hg x.k.m (pa_cons ha pa_nil he) hdb he hpl)) fun D σ H ⟨G, δ, st, m⟩ => ?_
  show tD C O fa σ H _
  refine r_out hx st m fun d v G1 H1 δ1 s1 st1 rv m1 => ?_
  refine ⟨by simp, fun q hq => ?_⟩
  refine ⟨q, v, rfl, upd_same, fun dx n ne => ⟨rfl, dx, [(C.fld cls, v)], upd_same, ?_, ?_, ?_⟩⟩
  · rw [upd_ne ne, upd_same]
  · rwa [upd_ne ne] at n
  · have n1 : H1 dx = none := by rwa [upd_ne ne] at n
    have eq : upd (del (upd (upd (upd H1 q (exo q (C.F.cm cls) none)) dx (exd dx [(C.fld cls, v)])) q (exo q (C.F.cm cls) (some dx))) q) dx (.xd [(C.fld cls, v)]) = upd H1 dx (.xd [(C.fld cls, v)]) := by
      funext y
      by_cases h1 : y = dx
      · rw [h1, upd_same, upd_same]
      · rw [upd_ne h1, upd_ne h1]
        by_cases h2 : y = q
        · rw [h2, del_same, hq]
        · rw [del_ne h2, upd_ne h2, upd_ne h1, upd_ne h2]
    rw [eq]
    have ex := Ext.push (T := C.F.cm.T) (o := .xd [(C.fld cls, v)]) st1.gh n1
    exact m1 O σ _ _ _ _ hx (st1.step ex) ⟨rfl, dx, v, rfl, upd_same, rv.mono ex.g⟩
/-! ### try -/
def clr (i : Nat) : Out → Out
  | .nx δ => .nx (δ.set i none)
  | .bk δ => .bad
  | .ct δ => .bad
  | o => o
/-- try: gb except ..: gh; cs the classes that are caught, os others that may pass -/
def sTry (cs os : List Str) (i : Nat) (gb : Sm) (gh : D → Sm) : Sm := fun δ => match gb δ with
  | .exc c d δ' => if c ∈ cs then clr i (gh d (δ'.set i none)) else if c ∈ os then .exc c d δ' else .bad
  | .bk _ => .bad
  | .ct _ => .bad
  | o => o
theorem Stt.hide {F : Fm} {G H : Hp} {σ : L2.St} {δ : Env} (s : Stt F O G H σ δ) {i : Nat} {x : Option V} (hi : i ∉ O) : Stt F O G H (σ.set i x) (δ.set i none) where
  ext := s.ext
  tabs := s.tabs
  ln := by simpa using s.ln
  le := by simpa using s.le
  sh := fun j d hj h => by
    by_cases e : i = j
    · subst e
      by_cases hl : i < δ.length
      · rw [List.getElem?_set_self hl] at h; cases h
      · rw [List.getElem?_eq_none (by simpa using hl)] at h; cases h
    · rw [List.getElem?_set_ne e] at h ⊢
      exact s.sh j d hj h
  ow := fun j hj => by
    have e : i ≠ j := fun e => hi (e ▸ hj)
    rw [List.getElem?_set_ne e, List.getElem?_set_ne e]
    exact s.ow j hj
  dis := fun j hj k hk a => by
    have e1 : i ≠ j := fun e => hi (by rw [e]; exact hj)
    have e2 : i ≠ k := fun e => hi (by rw [e]; exact hk)
    rw [List.getElem?_set_ne e1, List.getElem?_set_ne e2]
    exact s.dis j hj k hk a
  fix := fun q hq => by
    have e1 : i ≠ q.1 := fun e => hi (by rw [e]; exact (s.fix q hq).1)
    refine ⟨(s.fix q hq).1, ?_⟩
    rw [List.getElem?_set_ne e1]
    exact (s.fix q hq).2
/-- the scope of a try's body: its entry is where it begins -/
abbrev Sc.try_ (C : Sc) (W : WX) (O : List Nat) (G H : Hp) (as : List Addr) : Sc := ⟨⟨C.F.K, C.F.cm, G, H, C.F.n, O, as⟩, W, C.fld, fun O' => O' = O, C.L, C.fr⟩
theorem zip_ownS {σ : L2.St} : ∀ {O : List Nat}, (∀ i ∈ O, ∃ a, σ[i]? = some (some (V.ref a))) → (∀ q ∈ O.zip (ownS O σ), q.1 ∈ O ∧ σ[q.1]? = some (some (.ref q.2))) ∧ (∀ i ∈ O, ∀ a, σ[i]? = some (some (V.ref a)) → (i, a) ∈ O.zip (ownS O σ)) ∧ (O.zip (ownS O σ)).map (·.2) = ownS O σ
  | [], _ => ⟨fun q hq => by simp at hq, fun i hi => by simp at hi, rfl⟩
  | j :: O, h => by
    obtain ⟨b, hb⟩ := h j List.mem_cons_self
    obtain ⟨h1, h2, h3⟩ := zip_ownS (O := O) fun i hi => h i (List.mem_cons_of_mem _ hi)
    have e : ownS (j :: O) σ = b :: ownS O σ := by
      unfold ownS
      rw [List.filterMap_cons, hb]
    rw [e]
    refine ⟨fun q hq => ?_, fun i hi a ha => ?_, by rw [List.zip_cons_cons, List.map_cons, h3]⟩
    · rw [List.zip_cons_cons] at hq
      rcases List.mem_cons.mp hq with z | z
      · rw [z]; exact ⟨List.mem_cons_self, hb⟩
      · exact ⟨List.mem_cons_of_mem _ (h1 q z).1, (h1 q z).2⟩
    · rw [List.zip_cons_cons]
      rcases List.mem_cons.mp hi with z | z
      · subst z
        rw [hb] at ha
        cases ha
        exact List.mem_cons_self
      · exact List.mem_cons_of_mem _ (h2 i z a ha)
section
variable {F : Fm} {G H G' H' : Hp} {σ σ' : L2.St} {δ δ' : Env}
theorem Stt.refs (s : Stt F O G H σ δ) : ∀ i ∈ O, ∃ a, σ[i]? = some (some (V.ref a)) := fun i hi => by
  obtain ⟨a, _, e, _⟩ := s.ow i hi
  exact ⟨a, e⟩
theorem Stt.enter (s : Stt F O G H σ δ) : Stt ⟨F.K, F.cm, G, H, F.n, O, ownS O σ⟩ O G H σ δ where
  ext := Ext.refl s.gh
  tabs := s.tabs
  ln := s.ln
  le := s.le
  sh := s.sh
  ow := fun i hi => by
    obtain ⟨a, d, e1, e2, n, o, _⟩ := s.ow i hi
    exact ⟨a, d, e1, e2, n, o, .inr (by
      show a ∈ (O.zip (ownS O σ)).map (·.2)
      rw [(zip_ownS s.refs).2.2]
      exact mem_ownS.mpr ⟨i, hi, e1⟩)⟩
  dis := s.dis
  fix := fun q hq => (zip_ownS s.refs).1 q hq
theorem ext_leave (s : Stt F O G H σ δ) (e : Ext F.cm.T (Fm.S ⟨F.K, F.cm, G, H, F.n, O, ownS O σ⟩) G H G' H') : Ext F.cm.T F.S F.G F.H G' H' := s.ext.trans e fun x hx => s.inS x (by
  have hx : x ∈ (O.zip (ownS O σ)).map (·.2) := hx
  rw [(zip_ownS s.refs).2.2] at hx
  exact hx)
theorem Stt.leave (s : Stt F O G H σ δ) (t : Stt ⟨F.K, F.cm, G, H, F.n, O, ownS O σ⟩ O G' H' σ' δ') : Stt F O G' H' σ' δ' where
  ext := ext_leave s t.ext
  tabs := t.tabs
  ln := t.ln
  le := t.le
  sh := t.sh
  ow := fun i hi => by
    obtain ⟨b, d, e1, e2, n, o, _⟩ := t.ow i hi
    obtain ⟨a0, _, q1, _, _, _, z⟩ := s.ow i hi
    have e3 := (t.fix (i, a0) ((zip_ownS s.refs).2.1 i hi a0 q1)).2
    rw [e1] at e3
    cases e3
    exact ⟨_, d, e1, e2, n, o, z⟩
  dis := t.dis
  fix := fun q hq => by
    obtain ⟨h1, h2⟩ := s.fix q hq
    exact ⟨h1, (t.fix q ((zip_ownS s.refs).2.1 q.1 h1 q.2 h2)).2⟩
theorem ret_leave (s : Stt F O G H σ δ) (r : RetS ⟨F.K, F.cm, G, H, F.n, O, ownS O σ⟩ G' H' δ') : RetS F G' H' δ' :=
  ⟨ext_leave s r.1, fun q hq => by
    obtain ⟨h1, h2⟩ := s.fix q hq
    exact r.2 q ((zip_ownS s.refs).2.1 q.1 h1 q.2 h2)⟩
end
theorem fr_leave {C : Sc} {W : WX} {G H H' : Hp} {σ : L2.St} {δ δ' : Env} {v : V} {d : D} (s : Stt C.F O G H σ δ) (f : FrR (C.try_ W O G H (ownS O σ)) H' δ' v d) : FrR C H' δ' v d := fun z => by
  obtain ⟨p, G0, ev, hp, r, n, o⟩ := f z
  exact ⟨p, G0, ev, s.ext.back hp, ret_leave s r, n, o⟩
theorem pss_ex {α : Type} {X : Cx} {ss : List Stmt} {t : α → TS} (h : ∀ z, PSs X ss (t z)) : PSs X ss (fun D σ H => ∃ z, t z D σ H) := ⟨fun pins s σ H D I ⟨z, w⟩ => (h z).run pins s σ H D I w⟩
theorem s_try_as {cs os : List Str} {gh : D → Sm} {body suite : List Stmt} {b₀ : Stmt} {np pos' : Pos} {ts : Addr → Value → Option Addr → TS} (hs : X.stack = X.env :: X.outer) (hf : X.env.frame = some X.env.locals) (hN : X.N.Nodup) (hi : X.N[i]? = some n) (hln : X.env.kindOf n = some .local) (hK : C.F.K = X.K) {vc : Value} (hc : Names X x vc) (tk : Takes X C.W)
    (hcs : ∀ c ∈ cs, PySem.W.exmOne X.K (.ref (C.F.cm c)) vc = some true) (hos : ∀ c ∈ os, PySem.W.exmOne X.K (.ref (C.F.cm c)) vc = some false) (hiO : i ∉ O)
    (hb : ∀ (W : WX) (pn : List (Addr × Obj)) (xe : Value → Shared → Prop), Takes (X.tr pn xe) W → PassesOwn (model X.prog X.w) X.A X.env xe → ∀ (z : Hp × Hp × List Addr), PSs (X.tr pn xe) body (tS (C.try_ W O z.1 z.2.1 z.2.2) O O gb))
    (hsu : ∀ (a : Addr) (oe : Obj) (cl : Value) (d : Option Addr) (pn : List (Addr × Obj)), Zc cl d oe → (∃ vs, oe.data = .fields vs) → PSs (X.suite a ((a, oe) :: pn)) (b₀ :: suite) (ts a cl d))
    (hrun : ∀ (a : Addr) (cl : Value) (d : Option Addr) (c : Str) (dv : D) (σ : L2.St) (G H : Hp) (δ : Env) (D : Ends), c ∈ cs → Stt C.F O G H σ δ → (i < σ.length → σ[i]? = some (some (.ref a))) → XRp C G c dv cl d → Ps C O G D (gh dv δ) → ts a cl d D σ H) (hx : C.XO O := by trivial) :
    PS X (.Try body [.ExceptHandler (some (.Name x np)) (some n) (b₀ :: suite) pos'] [] [] pos) (tS C O O (sTry cs os i gb gh)) :=
  ps_imp (ps_try_as (Wout := C.W) (tb := fun W D σ H => ∃ z : Hp × Hp × List Addr, tS (C.try_ W O z.1 z.2.1 z.2.2) O O gb D σ H) hs hf hN hi hln hc tk (fun W pn xe t q => pss_ex fun z => hb W pn xe t q z) hsu) fun D σ H ⟨G, δ, st, m⟩ => by
    refine ⟨(G, H, ownS O σ), G, δ, st.enter, ?_⟩
    have m : Ps C O G D (match gb δ with | .exc c d δ' => if c ∈ cs then clr i (gh d (δ'.set i none)) else if c ∈ os then .exc c d δ' else .bad | .bk _ => .bad | .ct _ => .bad | o => o) := m
    cases e : gb δ with
    | nx δ' => rw [e] at m; exact fun σ' G' H' s' t => m σ' G' H' s' (st.leave t)
    | rt d δ' => rw [e] at m; exact fun v G' H' r rv fq => m v G' H' (ret_leave st r) rv (fr_leave st fq)
    | bk δ' => rw [e] at m; exact m.elim
    | ct δ' => rw [e] at m; exact m.elim
    | bad => rw [e] at m; exact m
    | exc c dv δ' =>
      rw [e] at m
      simp only at m
      intro O'' σ' G' H' cl d hO t xr
      have hO : O'' = O := hO
      subst hO
      have ecl : cl = .ref (C.F.cm c) := xr.1
      have sg : Same G G' := t.ext.g
      have st' := st.leave t
      by_cases h1 : c ∈ cs
      · rw [if_pos h1] at m
        refine ⟨true, by rw [ecl]; exact hcs c h1, fun _ a ha => ?_, fun z => Bool.noConfusion z⟩
        have st2 := st'.hide (x := some (.ref a)) hiO
        refine hrun a cl d c dv _ G' H' _ _ h1 st2 (fun hl => List.getElem?_set_self (by simpa using hl)) xr ?_
        cases eg : gh dv (δ'.set i none) with
        | nx δ2 => rw [eg] at m; exact fun σ3 G3 H3 s3 st3 => m _ G3 H3 (sg.trans s3) (st3.hide hiO)
        | rt d δ2 => rw [eg] at m; exact m
        | bk δ2 => rw [eg] at m; exact m.elim
        | ct δ2 => rw [eg] at m; exact m.elim
        | exc c2 d2 δ2 => rw [eg] at m; exact m
        | bad => rw [eg] at m; exact m
      · rw [if_neg h1] at m
        by_cases h2 : c ∈ os
        · rw [if_pos h2] at m
          exact ⟨false, by rw [ecl]; exact hos c h2, fun z => Bool.noConfusion z, fun _ => m O'' σ' G' H' cl d hx st' xr⟩
        · rw [if_neg h2] at m
          exact m.elim
/-- the suite x = n.f -/
theorem run_fld {F' : Str} {cs : List Str} (hj : j ∉ O) (hil : i < C.F.n) (hcs : ∀ c ∈ cs, C.fld c = F' ∧ c = cls) : ∀ (a : Addr) (cl : Value) (d : Option Addr) (c : Str) (dv : D) (σ : L2.St) (G H : Hp) (δ : Env) (D : Ends), c ∈ cs → Stt C.F O G H σ δ → (i < σ.length → σ[i]? = some (some (.ref a))) → XRp C G c dv cl d → Ps C O G D (sAsg (.n j) (eC dv) δ) →
    tAsg (tXf a cl d (C.F.cm cls) F' (tVar i)) (gName j) D σ H := fun a cl d c dv σ G H δ D hc st hs xr m => by
  obtain ⟨h1, h2⟩ := hcs c hc
  subst h2
  obtain ⟨ecl, dd, v, ed, hg, rv⟩ := xr
  refine ⟨_, hs (by rw [st.ln]; exact hil), rfl, ecl, dd, _, v, ed, st.gh _ _ hg, ?_, ?_⟩
  · rw [h1]; simp [List.lookup]
  · exact m _ G H (.refl G) (put_keeps st rv hj)
/-- the suite x = (word, n.f) -/
theorem run_fldT {F' : Str} {cs : List Str} {wd : Str} (hj : j ∉ O) (hil : i < C.F.n) (hcs : ∀ c ∈ cs, C.fld c = F' ∧ c = cls) : ∀ (a : Addr) (cl : Value) (d : Option Addr) (c : Str) (dv : D) (σ : L2.St) (G H : Hp) (δ : Env) (D : Ends), c ∈ cs → Stt C.F O G H σ δ → (i < σ.length → σ[i]? = some (some (.ref a))) → XRp C G c dv cl d → Ps C O G D (sAsg (.n j) (eC (.tup [.str wd, dv])) δ) →
    tAsg (tTupF (tCons (tC (.str wd)) (tCons (tXf a cl d (C.F.cm cls) F' (tVar i)) tNil))) (gName j) D σ H := fun a cl d c dv σ G H δ D hc st hs xr m => by
  obtain ⟨h1, h2⟩ := hcs c hc
  subst h2
  obtain ⟨ecl, dd, v, ed, hg, rv⟩ := xr
  refine ⟨_, hs (by rw [st.ln]; exact hil), rfl, ecl, dd, _, v, ed, st.gh _ _ hg, ?_, (by show 2 ≤ sizeLine; decide), fun q o n e => ?_⟩
  · rw [h1]; simp [List.lookup]
  · have ex := Ext.push (T := C.F.cm.T) (o := .frz o (.tup [.str wd, v])) st.gh n
    exact m _ _ _ ex.g (put_keeps (st.step ex) (.tup (.of upd_same e) (.cons (.str wd) (.cons (rv.mono ex.g) .nil))) hj)
end
end Mi

end
section
set_option Elab.async false
set_option linter.all false
set_option maxRecDepth 100000
set_option autoImplicit false
set_option maxHeartbeats 4000000
/-! len(x), x an instance with an own __len__ -/
namespace Mi
open PySem PySem.Spec PyProof.Rows L2
structure Spc (K : PySem.W.Frag) (C : Addr) (m : Str) (f : Addr) : Prop where
  at_ : PySem.W.findIn K (.ref C) m = some (some (.ref f))
  ty : PySem.W.typeIn K (.ref f) = some (.type "function")
section
variable {X : Cx} {CX : CXT} {k : Nat} {f C : Addr} {fd : FuncData} {ps : List Str} {sp : Sp} {E : XK}
theorem run_at {A : Around} {pins : List (Addr × Obj)} {σ : L2.St} {H : Hp} {s : Shared} {Q : VK} {us : List Value} {vs : List V} (F : FnOk X.prog X.w X.K X.mg X.base CX k f fd ps sp) (hr : Room k A) (hA : A.frames = X.A.frames) (hb : Binds X.K fd ps []) (hx : Passes CX X E)
    (I : Inv X pins σ H s) (r : Vals vs us) (h : sp vs H Q E) : wpAny (model X.prog X.w) A (call (.ref f) us) (EP X pins σ Q) X.xe s := by
  have e := I.env0
  have hl : us.length = ps.length := by rw [← r.length]; exact F.len _ _ _ _ h
  refine wpAny_call (codeAny_mono (F.run A X.stack s H ⟨us, []⟩ us vs Q E hr ⟨by rw [hA]; exact e.frames, e.mod, e.bs, e.bsz, e.funs, e.frf, e.hok, e.bare⟩ (by simpa using hb s us I.kIn (by simpa using hl)) r h) fun r s' hq => ?_)
  rcases r with e | fl
  · exact hx pins σ H s e s' I hq
  · cases fl with
    | ret u => exact I.after hq
    | next => exact False.elim hq
    | brk => exact False.elim hq
    | cont => exact False.elim hq
theorem call_lenO (F : FnOk X.prog X.w X.K X.mg X.base CX k f fd ps sp) (hr : Room (k + 1) X.A) (hb : Binds X.K fd ps []) (hx : Passes CX X E) (hs : Spc X.K C "__len__" f) :
    CallR X (.builtin "len") (fun xs H Q => ∃ a dx fs, xs = [.ref a] ∧ H a = some (.ins C dx fs) ∧ sp [.ref a] H (fun v H' => ∃ n : Int, v = .int n ∧ 0 ≤ n ∧ n < 2 ^ 63 ∧ Q (.int n) H') E) := by
  intro pins s σ H xs us Q I r ⟨a, dx, fs, ex, ha, q⟩
  subst ex
  rw [Vals.ref1 r]
  obtain ⟨mA, J, _⟩ := ins_get I.hok ha
  obtain ⟨od, J, _⟩ := J.look
  have L : PySem.W.Looks (model X.prog X.w) s.heap (specialOf (.ref a) "__len__") (some (.ref f)) := J.type.andThen (PySem.W.looks_findIn I.kIn hs.at_)
  refine Calls.call_function_entry kind_len plain_len entry_len (args_len1 _) ?_
  unfold Builtin.«len»
  refine wpAny_bind (m := oneArg "len" _) (wpAny_pure ?_)
  have key : wpAny (model X.prog X.w) X.A.in1 (callSpecial? (.ref a) (Str.ofString "__len__")) (fun o s' => ∃ (n : Int) (t : Tok), o = some (.int n t) ∧ 0 ≤ n ∧ n < 2 ^ 63 ∧ ∃ H', Inv X pins σ H' s' ∧ Q (.int n) H') X.xe s := by
    unfold callSpecial?
    refine wpAny_bind (L.here ?_)
    refine wpAny_holding (wpAny_bind ((PySem.W.bind_fn I.kIn (.ref a) hs.ty).here ?_))
    have hrun := run_at (A := X.A.in1) F hr.in1 rfl hb hx I (.cons rfl .nil : Vals [V.ref a] [Value.ref a]) q
    have fin : wpAny (model X.prog X.w) X.A.in1 (call (.ref f) [.ref a]) (fun v s' => wpAny (model X.prog X.w) X.A.in1 (pure (some v)) (fun o s' => ∃ (n : Int) (t : Tok), o = some (.int n t) ∧ 0 ≤ n ∧ n < 2 ^ 63 ∧ ∃ H', Inv X pins σ H' s' ∧ Q (.int n) H') X.xe s') X.xe s := by
      refine wpAny_mono hrun (fun v s' ⟨x, H', J', rx, n, ex, h0, h1, q'⟩ => wpAny_pure ?_) fun _ _ z => z
      subst ex
      obtain ⟨t, rfl⟩ := rx
      exact ⟨n, t, rfl, h0, h1, H', J', q'⟩
    first
      | exact wpAny_bind fin
      | exact wpAny_pure (wpAny_bind fin)
  refine wpAny_bind (m := callSpecial? (.ref a) (Str.ofString "__len__")) (wpAny_mono key (fun o s' hq => ?_) fun _ _ z => z)
  obtain ⟨n, t, rfl, h0, h1, H', J', q'⟩ := hq
  refine wpAny_bind (wpAny_holding (wpAny_pure ?_))
  refine wpAny_bind (wpAny_letGo ?_)
  show wpAny _ _ (if n < 0 then _ else _) _ _ _
  rw [if_neg (by omega)]
  show wpAny _ _ (if n ≥ 2 ^ 63 then _ else _) _ _ _
  rw [if_neg (by omega)]
  exact wpAny_bind (wpAny_mkInt (wpAny_pure ⟨_, rfl, .int n, H', J'.tok _, ⟨_, rfl⟩, q'⟩))
end
/-- len(x) by its class's mirror -/
def lenO (c : Str) (f : List D → Fr) (x : D) : Option D := match x with
  | .obj c' _ => if c' = c then (match f [x] with
    | .ok (.int n) [] => if 0 ≤ n ∧ n < 2 ^ 63 then some (.int n) else none
    | _ => none) else none
  | _ => none
theorem d_lenO {X : Cx} {C : Sc} {O : List Nat} {a : Expr} {fa : Ex} {pos p : Pos} {j k : Nat} {c : Str} {g : Addr} {fd : FuncData} {ps : List Str} {f : List D → Fr} (F : FnOk X.prog X.w X.K X.mg X.base (L2.CX X.prog X.w) k g fd ps (spM C.F.K C.F.cm C.fld 1 [] f)) (hr : Room j X.A) (hk : k + 1 ≤ j) (hb : Binds X.K fd ps [])
    (hs : Spc X.K (C.F.cm c) "__len__" g) (hm : X.mg "len" = none) (ha : PE X a (tD C O fa)) (hg : Gl X "len" := by rfl) (he : starEach [a] X.env = (false, eval a X.env) :: starEach [] X.env := by rfl) (hpl : (backTo pos (starEach [] X.env)).any (·.1) = false := by rfl) :
    PE X (.Call (.Name "len" p) [a] [] pos) (tD C O (e1 (lenO c f) fa)) := pe_imp (pe_callB (call_lenO F (hr.mono hk) hb passN hs) hg hm PySem.boot_len (pa_cons ha pa_nil he) (by decide) (by decide) he hpl) fun σ H Q ⟨G, δ, st, m⟩ => by
  refine ⟨G, δ, st, ?_⟩
  unfold e1 at m
  cases e : fa δ with
  | exc c d δ' => rw [e] at m; exact m
  | bad => rw [e] at m; exact m
  | ok d δ1 =>
    rw [e, Res.bind_ok] at m
    intro v G1 H1 s1 st1 rv
    cases rv with
    | @obj a dx fs c' ds h1 h2 rf =>
      have rv : Rp C.F.K C.F.cm G1 (.ref a) (.obj c' ds) := .obj h1 h2 rf
      unfold lenO at m
      simp only at m
      by_cases hc : c' = c
      case neg => rw [if_neg hc] at m; exact m.elim
      rw [if_pos hc] at m
      subst hc
      refine ⟨a, dx, fs, rfl, st1.gh _ _ h1, G1, [.obj c' ds], [], rfl, rfl, callee0 st1.gh st1.tabs (.cons rv .nil) rfl, ?_⟩
      cases ef : f [.obj c' ds] with
      | exc _ _ => simp only [ef] at m; exact m.elim
      | bad => simp only [ef] at m; exact m.elim
      | ok dn outs =>
        cases dn with
        | int n =>
          cases outs with
          | nil =>
            simp only [ef] at m
            by_cases hn : 0 ≤ n ∧ n < 2 ^ 63
            case neg => rw [if_neg hn] at m; exact m.elim
            rw [if_pos hn] at m
            exact fun v G2 H2 ex _ r => by
              cases r
              exact ⟨n, rfl, hn.1, hn.2, m _ G2 H2 (s1.and ex) (st1.step ex) (.int n)⟩
          | cons _ _ => simp only [ef] at m; exact m.elim
        | _ => simp only [ef] at m; exact m.elim
    | _ => exact m.elim
end Mi

end
section
set_option Elab.async false
set_option linter.all false
set_option maxRecDepth 100000
set_option autoImplicit false
set_option maxHeartbeats 4000000
/-! stores to fields of an own object; Book's lists of users, by hand -/
namespace Mi
open PySem PySem.Spec PyProof.Rows L2
def putD (f : Str) (v : D) : List (Str × D) → List (Str × D)
  | [] => [(f, v)]
  | (g, x) :: r => if g = f then (g, v) :: r else (g, x) :: putD f v r
/-- x.f = e, x the def's own object -/
def sSetF (i : Nat) (c f : Str) (e : Ex) : Sm := fun δ => (e δ).out fun v δ1 => (eV i δ1).out fun x δ2 => match x with
  | .obj c' fs => if c' = c ∧ fs.length < 900 then .nx (δ2.set i (some (.obj c (putD f v fs)))) else .bad
  | _ => .bad
theorem Rfs.put {K : PySem.W.Frag} {cm : CM} {G : Hp} {f : Str} {v : V} {d : D} (q : Rp K cm G v d) : ∀ {fs : List (Str × V)} {ds : List (Str × D)}, Rfs K cm G fs ds → Rfs K cm G (putF f v fs) (putD f d ds)
  | _, _, .nil => .cons q .nil
  | _, _, .cons (f := g) r t => by
    unfold putF putD
    by_cases e : g = f
    · rw [if_pos e, if_pos e]; exact .cons q t
    · rw [if_neg e, if_neg e]; exact .cons r (Rfs.put q t)
theorem Rfs.length {K : PySem.W.Frag} {cm : CM} {G : Hp} : ∀ {fs : List (Str × V)} {ds : List (Str × D)}, Rfs K cm G fs ds → fs.length = ds.length
  | _, _, .nil => rfl
  | _, _, .cons _ t => congrArg (· + 1) (Rfs.length t)
theorem s_setF {X : Cx} {C : Sc} {O : List Nat} {i : Nat} {x f c : Str} {a : Expr} {fa : Ex} {p p' pos : Pos} (hK : C.F.K = X.K) (hi : i ∈ O) (hc : Cls X.K (C.F.cm c)) (hn : NoAttr X.K (C.F.cm c) f) (h : PS X (.Assign [.Attribute (.Name x p) f p'] a pos) (sFld X.K (tVar i) (tD C O fa) f)) (hx : C.XO O := by trivial) :
    PS X (.Assign [.Attribute (.Name x p) f p'] a pos) (tS C O O (sSetF i c f fa)) := ps_imp h fun D σ H ⟨G, δ, st, m⟩ => by
  unfold sSetF at m
  refine r_out hx st m fun d v G1 H1 δ1 s1 st1 rv m1 => ?_
  obtain ⟨l, dd, e1, ev, na, o⟩ := st1.ownL hi
  rw [ev, Res.out_ok] at m1
  cases dd with
  | obj c' fs =>
    simp only at m1
    by_cases hcc : c' = c ∧ fs.length < 900
    case neg => rw [if_neg hcc] at m1; exact m1.elim
    rw [if_pos hcc] at m1
    obtain ⟨rfl, hl⟩ := hcc
    obtain ⟨dx, vs, q, w, r⟩ := o
    obtain ⟨st2, ex⟩ := st1.mut (u := .ins (C.F.cm c') dx (putF f v vs)) hi e1 na (by rw [q]; simp) (d := .obj c' (putD f d fs)) ⟨dx, _, upd_same, w, r.put rv⟩
    exact ⟨_, e1, l, _, dx, vs, rfl, q, hc, hn, by rw [r.length]; omega, m1 σ G1 _ (.refl G1) st2⟩
  | _ => exact m1.elim
/-! ### the users -/
def addU (us : List (List Int)) (s ix : Int) : Option (List (List Int)) := (ixD us.length s).bind fun j => (us[j]?).bind fun l => if l.length < 1000000 then some (us.set j (l ++ [ix])) else none
def rowU (ix : Int) : List D → List (List Int) → Option (List (List Int))
  | [], us => some us
  | .int s :: r, us => (addU us s ix).bind (rowU ix r)
  | _ :: _, _ => none
def allU : Nat → List D → List (List Int) → Option (List (List Int))
  | _, [], us => some us
  | k, d :: r, us => (seqOf d).bind fun xs => (rowU k xs us).bind (allU (k + 1) r)
def usD (us : List (List Int)) : D := .lst (us.map fun l => .lst (l.map .int))
/-- the lists at ls hold us; they are the object's own -/
structure UsAt (H0 G H : Hp) (u : Addr) (ls : List Addr) (us : List (List Int)) : Prop where
  at_ : H u = some (.lst (ls.map V.ref))
  len : ls.length = us.length
  nd : ls.Nodup
  nu : u ∉ ls
  each : ∀ (j : Nat) l, ls[j]? = some l → ∃ ns : List Int, us[j]? = some ns ∧ H l = some (.lst (ns.map V.int))
  un : ∀ l, l = u ∨ l ∈ ls → G l = none ∧ H0 l = none
theorem UsAt.on {H0 G H : Hp} {u : Addr} {ls : List Addr} {us : List (List Int)} (a : UsAt H0 G H u ls us) {l : Addr} (h : l = u ∨ l ∈ ls) : H l ≠ none := by
  rcases h with h | h
  · rw [h, a.at_]; simp
  · obtain ⟨j, hj⟩ := List.mem_iff_getElem?.mp h
    obtain ⟨ns, _, q⟩ := a.each j l hj
    rw [q]; simp
theorem UsAt.step {T : List (Addr × Str)} {H0 G H G' H' : Hp} {u : Addr} {ls : List Addr} {us : List (List Int)} (a : UsAt H0 G H u ls us) (e : Ext T [] G H G' H') : UsAt H0 G' H' u ls us where
  at_ := e.keep _ _ a.at_ (by simp) (nc_lst (a := u)).1
  len := a.len
  nd := a.nd
  nu := a.nu
  each := fun j l h => by
    obtain ⟨ns, h1, h2⟩ := a.each j l h
    exact ⟨ns, h1, e.keep _ _ h2 (by simp) (nc_lst (a := l)).1⟩
  un := fun l h => by
    obtain ⟨h1, h2⟩ := a.un l h
    exact ⟨(e.new l (a.on h)).trans h1, h2⟩
/-- self.users[s].append(ix) -/
theorem UsAt.put {H0 G H : Hp} {u : Addr} {ls : List Addr} {us us' : List (List Int)} {s ix : Int} (a : UsAt H0 G H u ls us) (h : addU us s ix = some us') : ∃ (l : Addr) (ns : List Int), L2.atI (ls.map V.ref) s = some (.ref l) ∧ H l = some (.lst (ns.map V.int)) ∧ ns.length < 1000000 ∧ l ∈ ls ∧ l ≠ u ∧
    UsAt H0 G (upd H l (.lst (ns.map V.int ++ [.int ix]))) u ls us' := by
  unfold addU at h
  cases ej : ixD us.length s with
  | none => rw [ej] at h; cases h
  | some j =>
    rw [ej, Option.bind_some] at h
    cases en : us[j]? with
    | none => rw [en] at h; cases h
    | some ns =>
      rw [en, Option.bind_some] at h
      by_cases hz : ns.length < 1000000
      case neg => rw [if_neg hz] at h; cases h
      rw [if_pos hz] at h
      cases h
      have hj : j < ls.length := by rw [a.len]; exact (List.getElem?_eq_some_iff.mp en).1
      have el : ls[j]? = some ls[j] := List.getElem?_eq_getElem hj
      obtain ⟨ns', e1, e2⟩ := a.each j _ el
      rw [en] at e1
      cases e1
      have hm : ls[j] ∈ ls := List.getElem_mem hj
      have hlu : ls[j] ≠ u := fun z => a.nu (z ▸ hm)
      refine ⟨ls[j], ns, ?_, e2, hz, hm, hlu, ?_⟩
      · unfold L2.atI
        rw [List.length_map, a.len]
        show (ixD us.length s).bind _ = _
        rw [ej]
        simp [el]
      · refine ⟨by rw [upd_ne (fun z => hlu z.symm)]; exact a.at_, by rw [List.length_set]; exact a.len, a.nd, a.nu, fun i l hl => ?_, a.un⟩
        by_cases hij : j = i
        · subst hij
          rw [el] at hl
          cases hl
          exact ⟨ns ++ [ix], by rw [List.getElem?_set_self (by rw [← a.len]; exact hj)], by rw [upd_same, List.map_append]; rfl⟩
        · obtain ⟨ns2, q1, q2⟩ := a.each i l hl
          refine ⟨ns2, by rw [List.getElem?_set_ne hij]; exact q1, ?_⟩
          rw [upd_ne]
          · exact q2
          · intro z
            subst z
            obtain ⟨h1, h2⟩ := List.getElem?_eq_some_iff.mp hl
            exact hij ((List.getElem_inj a.nd).mp h2.symm)
/-- all of them known from now on -/
theorem UsAt.frz {K : PySem.W.Frag} {cm : CM} {H0 G H : Hp} {u : Addr} {ls : List Addr} {us : List (List Int)} (a : UsAt H0 G H u ls us) (gh : Sg G H) : ∃ G', Same G G' ∧ Sg G' H ∧ (∀ b, b ≠ u → b ∉ ls → G' b = G b) ∧ Rp K cm G' (.ref u) (usD us) := by
  refine ⟨fun b => if b = u ∨ b ∈ ls then H b else G b, fun b o h => ?_, ⟨fun b o h => ?_, fun b o h => ?_⟩, fun b h1 h2 => if_neg (by simp [h1, h2]), ?_⟩
  · have hn : ¬ (b = u ∨ b ∈ ls) := fun z => by rw [(a.un b z).1] at h; cases h
    show (if b = u ∨ b ∈ ls then H b else G b) = some o
    rw [if_neg hn]
    exact h
  · by_cases z : b = u ∨ b ∈ ls
    · simp only [if_pos z] at h; exact h
    · simp only [if_neg z] at h; exact gh b o h
  · by_cases z : b = u ∨ b ∈ ls
    · simp only [if_pos z] at h
      rcases z with z | z
      · rw [z, a.at_] at h
        cases h
        exact (nc_lst (a := u)).1
      · obtain ⟨j, hj⟩ := List.getElem?_of_mem z
        obtain ⟨ns, _, e2⟩ := a.each j b hj
        rw [e2] at h
        cases h
        exact (nc_lst (a := u)).1
    · simp only [if_neg z] at h; exact gh.nt b o h
  · refine .lst (xs := ls.map V.ref) (SqL.of (by simp only [true_or, if_true]; exact a.at_)) ?_
    have key : ∀ (ls0 : List Addr) (us0 : List (List Int)), ls0.length = us0.length → (∀ (j : Nat) l, ls0[j]? = some l → l ∈ ls ∧ ∃ ns : List Int, us0[j]? = some ns ∧ H l = some (.lst (ns.map V.int))) →
        Rps K cm (fun b => if b = u ∨ b ∈ ls then H b else G b) (ls0.map V.ref) (us0.map fun l => D.lst (l.map .int)) := by
      intro ls0
      induction ls0 with
      | nil =>
        intro us0 hl h
        cases us0 with
        | nil => exact .nil
        | cons _ _ => cases hl
      | cons l ls0 ih =>
        intro us0 hl h
        cases us0 with
        | nil => cases hl
        | cons ns us0 =>
          obtain ⟨hm, ns', e1, e2⟩ := h 0 l rfl
          cases e1
          refine .cons (.lst (xs := ns.map V.int) (SqL.of ?_) (rps_ints ns)) (ih us0 (by simpa using hl) fun j l' hj => h (j + 1) l' (by simpa using hj))
          show (if l = u ∨ l ∈ ls then H l else G l) = _
          rw [if_pos (.inr hm)]
          exact e2
    exact key ls us a.len fun j l hj => ⟨List.mem_of_getElem? hj, a.each j l hj⟩
end Mi

end
section
set_option Elab.async false
set_option linter.all false
set_option maxRecDepth 100000
set_option autoImplicit false
set_option maxHeartbeats 4000000
namespace Mi
open PySem PySem.Spec PyProof.Rows L2
/-- self.users = [[] for slot in range(slots)]; for index, some in enumerate(allowed): for slot in some: self.users[slot].append(index) -/
def gUsers : Sm := fun δ => match eV 0 δ, eV 1 δ, eV 2 δ with
  | .ok (.obj c fs) _, .ok (.int N) _, .ok al _ => (match seqOf al with
    | some as => if c = "Book" ∧ 0 ≤ N ∧ N ≤ 1000 ∧ fs.length < 900 then (match allU 0 as (List.replicate N.toNat []) with
      | some us => .nx ((wipeE δ [3, 4, 5]).set 0 (some (.obj "Book" (putD "users" (usD us) fs))))
      | none => .bad) else .bad
    | none => .bad)
  | _, _, _ => .bad
def tUs1 (C : Sc) : TS := sFld C.F.K (tVar 0) (tLc (tI false C [0] (iRng (eV 1))) (gName 5) tYes (tLst tNil) [5]) "users"
abbrev uC (K : PySem.W.Frag) (cm : CM) (fld : Str → Str) (n : Nat) (z : Hp × Hp) : Sc := ⟨⟨K, cm, z.1, z.2, n, [], []⟩, fun _ _ _ _ => False, fld, fun _ => True, [], false⟩
def tUsB (K : PySem.W.Frag) : TS := tDrop (tBM K "list" rAppend (tOp (rIx K) (tFld K (tVar 0) "users") (tVar 5)) (tCons (tVar 3) tNil))
def tUs2 (K : PySem.W.Frag) (cm : CM) (fld : Str → Str) (n : Nat) (z : Hp × Hp) : TS := tFor (tI true (uC K cm fld n z) [] (iEnum (eV 2))) (gTup K 2 (gCons (gName 3) (gCons (gName 4) gNil))) (tFor (tI false (uC K cm fld n z) [] (iSeq (eV 4))) (gName 5) (tUsB K))
theorem Ext.poke {T : List (Addr × Str)} {S : List Addr} {G0 H0 G H : Hp} {x : Addr} {u : HO} (e : Ext T S G0 H0 G H) (hx : G x = none) (h0 : H0 x = none) {w : HO} (hw : H x = some w) (nc : NC x w) (nu : NT u := by intro _ h; cases h) : Ext T S G0 H0 G (upd H x u) where
  g := e.g
  gh := e.gh.own hx
  tab := e.tab.trans (.upd hw nc nu)
  keep := fun b o h n t => by rw [upd_ne (fun z => by rw [z, h0] at h; cases h)]; exact e.keep b o h n t
  new := e.new
  dom := fun b h => by rw [upd_ne (fun z => h (by rw [z]; exact h0))]; exact e.dom b h
theorem Stt.poke {F : Fm} {G H : Hp} {σ : L2.St} {δ : Env} {x : Addr} {u : HO} (s : Stt F [] G H σ δ) (hx : G x = none) (h0 : F.H x = none) {w : HO} (hw : H x = some w) (nc : NC x w) (nu : NT u := by intro _ h; cases h) : Stt F [] G (upd H x u) σ δ where
  ext := s.ext.poke hx h0 hw nc nu
  tabs := s.tabs.go (.upd hw nc nu)
  ln := s.ln
  le := s.le
  sh := s.sh
  ow := fun i hi => by cases hi
  dis := fun i hi => by cases hi
  fix := fun p hp => by cases (s.fix p hp).1
/-- between two turns: x the object, its dict dx, its fields vs; D its lists of users -/
structure UInv (K : PySem.W.Frag) (cm : CM) (n : Nat) (G1 Hb : Hp) (x C dx D : Addr) (vs : List (Str × V)) (ls : List Addr) (δ0 : Env) (us : List (List Int)) (G : Hp) (σ : L2.St) (H : Hp) (δ : Env) : Prop where
  st : Stt ⟨K, cm, G1, Hb, n, [], []⟩ [] G H σ δ
  gx : G x = none
  s0 : σ[0]? = some (some (.ref x))
  hx : H x = some (.ins C dx vs)
  ua : UsAt Hb G H D ls us
  xd : x ≠ D ∧ x ∉ ls
  dl : ∀ (j : Nat) d, j ≠ 3 → j ≠ 4 → j ≠ 5 → δ0[j]? = some (some d) → δ[j]? = some (some d)
section
variable {K : PySem.W.Frag} {cm : CM} {n : Nat} {G1 Hb : Hp} {x C dx Dn : Addr} {vs : List (Str × V)} {ls : List Addr} {δ0 : Env} {us : List (List Int)} {G H : Hp} {σ : L2.St} {δ : Env} {fld : Str → Str}
theorem UInv.step {G' H' : Hp} (I : UInv K cm n G1 Hb x C dx Dn vs ls δ0 us G σ H δ) (e : Ext cm.T [] G H G' H') : UInv K cm n G1 Hb x C dx Dn vs ls δ0 us G' σ H' δ :=
  ⟨I.st.step e, (e.new x (by rw [I.hx]; simp)).trans I.gx, I.s0, e.keep _ _ I.hx (by simp) (nc_ins (a := x)).1, I.ua.step e, I.xd, I.dl⟩
theorem UInv.put {v : V} {d : D} {i : Nat} (I : UInv K cm n G1 Hb x C dx Dn vs ls δ0 us G σ H δ) (r : Rp K cm G v d) (hi : i = 3 ∨ i = 4 ∨ i = 5) : UInv K cm n G1 Hb x C dx Dn vs ls δ0 us G (σ.set i (some v)) H (δ.set i (some d)) :=
  ⟨put_keeps I.st r (by simp), I.gx, by rw [List.getElem?_set_ne (by omega)]; exact I.s0, I.hx, I.ua, I.xd, fun j d' h3 h4 h5 h => by
    rw [List.getElem?_set_ne (by omega)]; exact I.dl j d' h3 h4 h5 h⟩
/-- one append -/
theorem r_usB {us' : List (List Int)} {s ix : Int} {D : Ends} (I : UInv K cm n G1 Hb x C dx Dn vs ls δ0 us G σ H δ) (hc : Cls K C) (hno : NoAttr K C "users") (hl : vs.lookup ("users" : Str) = some (V.ref Dn)) (h5 : σ[5]? = some (some (.int s))) (h3 : σ[3]? = some (some (.int ix))) (ha : addU us s ix = some us')
    (k : ∀ H', UInv K cm n G1 Hb x C dx Dn vs ls δ0 us' G σ H' δ → D.nx σ H') : tUsB K D σ H := by
  obtain ⟨l, ns, e1, e2, hz, hm, hlu, ua⟩ := I.ua.put ha
  have nl := I.ua.un l (.inr hm)
  refine ⟨_, I.s0, x, C, dx, vs, _, rfl, I.hx, hc, hno, hl, _, h5, .inl ⟨Dn, _, s, _, rfl, rfl, SqL.of I.ua.at_, e1, tyl e2, _, h3, l, _, _, rfl, rfl, e2, ?_, k _ ⟨I.st.poke nl.1 nl.2 e2 nc_lst, I.gx, I.s0, ?_, ua, I.xd, I.dl⟩⟩⟩
  · rw [List.length_map]
    exact Nat.lt_of_lt_of_le hz (by decide)
  · rw [upd_ne (fun z => I.xd.2 (by rw [z]; exact hm))]
    exact I.hx
/-- for slot in some -/
theorem r_usRow {us' : List (List Int)} {ix : Int} {xs : List D} {d4 : D} {D : Ends} (I : UInv K cm n G1 Hb x C dx Dn vs ls δ0 us G σ H δ) (hc : Cls K C) (hno : NoAttr K C "users") (hl : vs.lookup ("users" : Str) = some (V.ref Dn)) (hn : 6 ≤ n) (h3 : σ[3]? = some (some (.int ix))) (h4 : eV 4 δ = .ok d4 δ) (hs : seqOf d4 = some xs) (ha : rowU ix xs us = some us')
    (k : ∀ G' σ' H' δ', Same G G' → UInv K cm n G1 Hb x C dx Dn vs ls δ0 us' G' σ' H' δ' → D.nx σ' H') : tFor (tI false (uC K cm fld n (G1, Hb)) [] (iSeq (eV 4))) (gName 5) (tUsB K) D σ H := by
  refine ⟨G, δ, I.st, ?_⟩
  have e : iSeq (eV 4) δ = .ok xs δ := by unfold iSeq; rw [h4, Res.bind_ok, hs]; rfl
  rw [e]
  intro J G2 H2 s2 st2 wk
  have s2' : Ext _ [] G H G2 H2 := s2
  refine for_it wk (fun i σ' H' => ∃ G' δ' us2, UInv K cm n G1 Hb x C dx Dn vs ls δ0 us2 G' σ' H' δ' ∧ Same G2 G' ∧ σ'[3]? = some (some (.int ix)) ∧ rowU ix (xs.drop i) us2 = some us') ⟨G2, δ, us, I.step s2', .refl G2, h3, ha⟩
    (fun i σ' H' _ ⟨G', _, _, I', s', _⟩ => s'.trans I'.st.gh) ?_ ?_
  · rintro i v σ' H' H3 hlt ⟨G', δ', us2, I', s', h3', ha'⟩ y
    obtain ⟨G3, d, hd, ex, rq⟩ := y G' s' I'.st.gh
    have hdrop : xs.drop i = d :: xs.drop (i + 1) := by
      rw [List.drop_eq_getElem_cons hlt]
      congr
      have := List.getElem?_eq_getElem hlt
      rw [hd] at this
      exact (Option.some.inj this).symm
    rw [hdrop] at ha'
    rcases rq with rv | ⟨z, _⟩
    · cases rv with
      | int s =>
        unfold rowU at ha'
        cases eu : addU us2 s ix with
        | none => rw [eu] at ha'; cases ha'
        | some us3 =>
          rw [eu, Option.bind_some] at ha'
          have I3 := (I'.step ex).put (i := 5) (.int s) (.inr (.inr rfl))
          have hl5 : 5 < σ'.length := by
            have := I'.st.ln
            have : σ'.length = n := this
            omega
          refine r_usB I3 hc hno hl (List.getElem?_set_self hl5) (by rw [List.getElem?_set_ne (by decide)]; exact h3') eu fun H4 I4 => ⟨G3, _, us3, I4, s'.trans ex.g, by rw [List.getElem?_set_ne (by decide)]; exact h3', ha'⟩
      | _ => cases ha'
    · cases z
  · rintro σ' H' ⟨G', δ', us2, I', s', h3', ha'⟩
    rw [List.drop_length] at ha'
    cases ha'
    exact k G' σ' H' δ' (s2'.g.trans s') I'
/-- for index, some in enumerate(allowed) -/
theorem r_usAll {us' : List (List Int)} {as : List D} {d2 : D} {D : Ends} (I : UInv K cm n G1 Hb x C dx Dn vs ls δ0 us G σ H δ) (hc : Cls K C) (hno : NoAttr K C "users") (hl : vs.lookup ("users" : Str) = some (V.ref Dn)) (hn : 6 ≤ n) (h2 : eV 2 δ = .ok d2 δ) (hs : seqOf d2 = some as) (ha : allU 0 as us = some us')
    (k : ∀ G' σ' H' δ', Same G G' → UInv K cm n G1 Hb x C dx Dn vs ls δ0 us' G' σ' H' δ' → D.nx σ' H') : tUs2 K cm fld n (G1, Hb) D σ H := by
  refine ⟨G, δ, I.st, ?_⟩
  have e : iEnum (eV 2) δ = .ok (enumD 0 as) δ := by unfold iEnum; rw [h2, Res.bind_ok, hs]; rfl
  rw [e]
  intro J G2 H2 s2 st2 wk
  have s2' : Ext _ [] G H G2 H2 := s2
  refine for_it wk (fun i σ' H' => ∃ G' δ' us2, UInv K cm n G1 Hb x C dx Dn vs ls δ0 us2 G' σ' H' δ' ∧ Same G2 G' ∧ allU i (as.drop i) us2 = some us') ⟨G2, δ, us, I.step s2', .refl G2, ha⟩
    (fun i σ' H' _ ⟨G', _, _, I', s', _⟩ => s'.trans I'.st.gh) ?_ ?_
  · rintro i v σ' H' H3 hlt ⟨G', δ', us2, I', s', ha'⟩ y
    obtain ⟨G3, d, hd, ex, rq⟩ := y G' s' I'.st.gh
    have hlt' : i < as.length := by rw [enumD_length] at hlt; exact hlt
    have hd' := enumD_get (ds := as) (k := 0) (List.getElem?_eq_getElem hlt')
    rw [hd] at hd'
    cases hd'
    rw [List.drop_eq_getElem_cons hlt'] at ha'
    unfold allU at ha'
    cases es : seqOf as[i] with
    | none => rw [es] at ha'; cases ha'
    | some xs =>
      rw [es, Option.bind_some] at ha'
      cases er : rowU ((i : Nat) : Int) xs us2 with
      | none => rw [er] at ha'; cases ha'
      | some us3 =>
        rw [er, Option.bind_some] at ha'
        obtain ⟨ta, xv, ev, hq, rs⟩ : ∃ ta xv, v = .ref ta ∧ SqT K G3 ta xv ∧ Rps K cm G3 xv [.int ((0 + i : Nat) : Int), as[i]] := by
          rcases rq with rv | ⟨_, ta, xv, ds, e1, e2, e3, e4⟩
          · cases rv with
            | tup q rs => exact ⟨_, _, rfl, q.sq, rs⟩
          · cases e2
            exact ⟨ta, xv, e1, e3, e4⟩
        cases rs with
        | cons r3 rs =>
          cases rs with
          | cons r4 rs =>
            cases rs
            cases r3
            rename_i v4
            have I3 := ((I'.step ex).put (i := 3) (.int ((0 + i : Nat) : Int)) (.inl rfl)).put (i := 4) r4 (.inr (.inl rfl))
            have hln : σ'.length = n := I'.st.ln
            have hle : δ'.length = n := I'.st.le
            refine ⟨ta, _, ev, same_sqT (I'.step ex).st.gh hq, rfl, _, _, rfl, _, _, rfl, rfl, ?_⟩
            refine r_usRow (d4 := as[i]) (ix := ((0 + i : Nat) : Int)) I3 hc hno hl hn ?_ ?_ es (by simpa using er) fun G4 σ4 H4 δ4 s4 I4 => ⟨G4, δ4, us3, I4, s'.trans (ex.g.trans s4), ha'⟩
            · rw [List.getElem?_set_ne (by decide), List.getElem?_set_self (by omega)]
            · unfold eV
              rw [List.getElem?_set_self (by rw [List.length_set]; omega)]
  · rintro σ' H' ⟨G', δ', us2, I', s', ha'⟩
    rw [enumD_length, List.drop_length] at ha'
    cases ha'
    exact k G' σ' H' δ' (s2'.g.trans s') I'
theorem lookup_putF_self {f : Str} {v : V} (fs : List (Str × V)) : (putF f v fs).lookup f = some v := by rw [lookup_putF, if_pos rfl]
theorem r_users {C : Sc} (hn6 : 6 ≤ C.F.n) (hc : Cls C.F.K (C.F.cm "Book")) (hno : NoAttr C.F.K (C.F.cm "Book") "users") : ∀ D σ H, tS C [0] [0] gUsers D σ H → tSeq (tUs1 C) (fun D σ H => ∃ z, tUs2 C.F.K C.F.cm C.fld C.F.n z D σ H) D σ H := fun D σ H ⟨G, δ, st, m⟩ => by
  unfold gUsers at m
  rcases eV_cases 0 δ with ⟨d0, h0, q0⟩ | q0
  case inr => rw [q0] at m; exact m.elim
  rcases eV_cases 1 δ with ⟨d1, h1, q1⟩ | q1
  case inr => rw [q0, q1] at m; cases d0 <;> exact m.elim
  rcases eV_cases 2 δ with ⟨d2, h2, q2⟩ | q2
  case inr => rw [q0, q1, q2] at m; cases d0 <;> cases d1 <;> exact m.elim
  rw [q0, q1, q2] at m
  cases d0 with
  | obj c fs =>
    cases d1 with
    | int N =>
      simp only at m
      cases es : seqOf d2 with
      | none => simp only [es] at m; exact m.elim
      | some as =>
        simp only [es] at m
        by_cases hcond : c = "Book" ∧ 0 ≤ N ∧ N ≤ 1000 ∧ fs.length < 900
        case neg => rw [if_neg hcond] at m; exact m.elim
        rw [if_pos hcond] at m
        obtain ⟨rfl, hN0, hN1, hfs⟩ := hcond
        cases ea : allU 0 as (List.replicate N.toNat []) with
        | none => simp only [ea] at m; exact m.elim
        | some us =>
          simp only [ea] at m
          have m' : ∀ σ' G' H', Same G G' → Stt C.F [0] G' H' σ' ((wipeE δ [3, 4, 5]).set 0 (some (.obj "Book" (putD "users" (usD us) fs)))) → D.nx σ' H' := m
          refine ⟨G, δ, st, ?_⟩
          have e : iRng (eV 1) δ = .ok (rng 0 N.toNat) δ := by
            unfold iRng
            rw [q1, Res.bind_ok]
            have : smInt (.int N) = some N := smInt_iff ⟨by omega, by omega⟩
            rw [this]
            rfl
          rw [e]
          intro J G1 H1 s1 st1 wk Dn hDn
          obtain ⟨x, dd, ex, ev, nx, o⟩ := st1.ownL (i := 0) (by simp)
          rw [q0] at ev
          cases ev
          obtain ⟨dx, vs, hx, hdx, rf⟩ := o
          have hDx : Dn ≠ x := fun z => by rw [z, hx] at hDn; cases hDn
          refine lc_it wk (fun i H' => ∃ ls : List Addr, H' Dn = some (.lst (ls.map V.ref)) ∧ ls.length = i ∧ ls.Nodup ∧ Dn ∉ ls ∧ (∀ l ∈ ls, H' l = some (.lst []) ∧ H1 l = none) ∧ Ext C.F.cm.T [] G1 H1 G1 H')
            ⟨[], upd_same, rfl, List.nodup_nil, by simp, by simp, Ext.fresh st1.gh hDn⟩ (fun i H' _ ⟨ls, _, _, _, _, _, kp⟩ => kp.gh.s) ?_ ?_
          · rintro i v H2 H3 hlt ⟨ls, hD, hl, nd, nD, hz, kp⟩ y
            obtain ⟨G3, d, _, ex3, _⟩ := y G1 (.refl G1) kp.gh
            have k3 : ∀ b o, H2 b = some o → NT o → H3 b = some o := fun b o h t => ex3.keep b o h (by simp) t
            have ntl : ∀ xs, NT (.lst xs) := fun xs => (nc_lst (a := Dn)).1
            have e13 : Ext _ [] G1 H1 G1 H3 := ⟨.refl G1, ⟨ex3.g.trans ex3.gh.s, st1.gh.nt⟩, (kp.and ex3).keep, fun _ _ => rfl, (kp.and ex3).dom, (kp.and ex3).tab⟩
            refine ⟨by rw [wipe_set (by simp), wipeS_idem], ?_⟩
            unfold tYes
            simp only [if_true]
            refine ⟨by simp, fun p np => ?_⟩
            have hDp : Dn ≠ p := fun z => by
              have := k3 _ _ hD (ntl _)
              rw [z, np] at this
              cases this
            have n1p : H1 p = none := e13.back np
            have hpl : p ∉ ls := fun z => by
              rw [k3 _ _ (hz p z).1 (ntl _)] at np
              cases np
            rw [rng_length] at hlt
            refine ⟨ls.map V.ref, by rw [upd_ne hDp]; exact k3 _ _ hD (ntl _), by rw [List.length_map, hl, sizeLine_eq]; omega, ls ++ [p], by rw [upd_same]; simp, by simp [hl], ?_, ?_, fun l hm => ?_, ?_⟩
            · rw [List.nodup_append]
              exact ⟨nd, by simp, fun a ha b hb => by
                have : b = p := by simpa using hb
                rw [this]
                exact fun z => hpl (z ▸ ha)⟩
            · simp only [List.mem_append, List.mem_singleton, not_or]
              exact ⟨nD, hDp⟩
            · rcases List.mem_append.mp hm with z | z
              · have hlD : l ≠ Dn := fun q => nD (q ▸ z)
                have hlp : l ≠ p := fun q => hpl (q ▸ z)
                rw [upd_ne hlD, upd_ne hlp]
                exact ⟨k3 _ _ (hz l z).1 (ntl _), (hz l z).2⟩
              · have : l = p := by simpa using z
                subst this
                rw [upd_ne (fun q => hDp q.symm), upd_same]
                exact ⟨rfl, n1p⟩
            · exact (e13.and (Ext.fresh (o := .lst []) e13.gh np)).poke (st1.gh.free hDn) hDn (by rw [upd_ne hDp]; exact k3 _ _ hD (ntl _)) nc_lst
          · rintro H2 ⟨ls, hD, hl, nd, nD, hz, kp⟩
            rw [rng_length] at hl
            have hx2 : H2 x = some (.ins (C.F.cm "Book") dx vs) := kp.keep _ _ hx (by simp) (nc_ins (a := x)).1
            have hxl : x ∉ ls := fun z => by
              have := (hz x z).2
              rw [hx] at this
              cases this
            refine ⟨_, ex, x, _, dx, vs, rfl, hx2, hc, hno, by rw [rf.length]; omega, ?_⟩
            let Hb : Hp := fun b => if b = x then none else H1 b
            have Hbx : Hb x = none := if_pos rfl
            have Hbn : ∀ b, b ≠ x → Hb b = H1 b := fun b h => if_neg h
            have Hb0 : ∀ b, H1 b = none → Hb b = none := fun b h => by
              by_cases z : b = x
              · rw [z]; exact Hbx
              · rw [Hbn b z]; exact h
            refine ⟨(G1, Hb), ?_⟩
            have I : UInv C.F.K C.F.cm C.F.n G1 Hb x (C.F.cm "Book") dx Dn (putF "users" (.ref Dn) vs) ls (δ.set 0 none) (List.replicate N.toNat []) G1 σ (upd H2 x (.ins (C.F.cm "Book") dx (putF "users" (.ref Dn) vs))) (δ.set 0 none) := {
              st := {
                tabs := (st1.tabs.go kp.tab).go (.upd hx2 nc_ins)
                ext := ⟨.refl G1, kp.gh.own nx, fun b o h _ ht => by
                    have h : Hb b = some o := h
                    have hb : b ≠ x := fun z => by rw [z, Hbx] at h; cases h
                    rw [Hbn b hb] at h
                    rw [upd_ne hb]
                    exact kp.keep _ _ h (by simp) ht, fun _ _ => rfl, fun b h => by
                    have h : Hb b ≠ none := h
                    have hb : b ≠ x := fun z => h (by rw [z]; exact Hbx)
                    rw [Hbn b hb] at h
                    rw [upd_ne hb]
                    exact kp.dom b h, fun t => (kp.tab.trans (.upd hx2 nc_ins)) ⟨fun p hp => (t.1 p hp).ext fun b o h => by
                    have h : Hb b = some o := h
                    have hb : b ≠ x := fun z => by rw [z, Hbx] at h; cases h
                    rw [Hbn b hb] at h
                    exact h, fun b ps h => t.2 b ps ((Hbn b (fun z => by rw [z, hx] at h; cases h)).trans h)⟩⟩
                ln := st1.ln
                le := by rw [List.length_set]; exact st1.le
                sh := fun i d _ h => by
                  by_cases hi : 0 = i
                  · subst hi
                    by_cases hl0 : 0 < δ.length
                    · rw [List.getElem?_set_self hl0] at h; cases h
                    · rw [List.getElem?_eq_none (by simpa using hl0)] at h; cases h
                  · rw [List.getElem?_set_ne hi] at h
                    exact st1.sh i d (by simp; omega) h
                ow := fun i hi => by cases hi
                dis := fun i hi => by cases hi
                fix := fun p hp => by cases hp }
              gx := nx
              s0 := ex
              hx := upd_same
              ua := ⟨by rw [upd_ne hDx]; exact hD, by rw [hl, List.length_replicate], nd, nD, fun j l hj => by
                  have hm := List.mem_of_getElem? hj
                  have hj' : j < N.toNat := by rw [← hl]; exact (List.getElem?_eq_some_iff.mp hj).1
                  refine ⟨[], by rw [List.getElem?_replicate, if_pos hj'], ?_⟩
                  rw [upd_ne (fun z => hxl (by rw [← z]; exact hm))]
                  exact (hz l hm).1, fun l hl' => by
                  have n1 : H1 l = none := by
                    rcases hl' with z | z
                    · rw [z]; exact hDn
                    · exact (hz l z).2
                  exact ⟨st1.gh.free n1, Hb0 l n1⟩⟩
              xd := ⟨hDx.symm, hxl⟩
              dl := fun j d _ _ _ h => h }
            have l0 : 0 < δ.length := (List.getElem?_eq_some_iff.mp h0).1
            refine r_usAll (us' := us) I hc hno (lookup_putF_self _) hn6 (d2 := d2) (by unfold eV; rw [List.getElem?_set_ne (by decide), h2]) es ea fun G' σ' H' δ' sG I' => ?_
            obtain ⟨G9, g1, g2, g3, rp⟩ := I'.ua.frz (K := C.F.K) (cm := C.F.cm) I'.st.gh
            have xu : G9 x = G' x := g3 x I'.xd.1 I'.xd.2
            have e5 : Ext _ [x] G1 H1 G9 H' := ⟨sG.trans g1, g2, fun b o h n ht => I'.st.ext.keep b o (by
                show Hb b = some o
                rw [Hbn b (by simpa using n)]
                exact h) (by simp [Fm.S, Fm.own]) ht, fun b h => by
                by_cases z : b = x
                · rw [z, xu, I'.gx, nx]
                · have hb : Hb b ≠ none := by rw [Hbn b z]; exact h
                  have n1 : b ≠ Dn := fun q => hb (by rw [q]; exact (I'.ua.un Dn (.inl rfl)).2)
                  have n2 : b ∉ ls := fun q => hb ((I'.ua.un b (.inr q)).2)
                  rw [g3 b n1 n2]
                  exact I'.st.ext.new b hb, fun b h => by
                by_cases z : b = x
                · rw [z, I'.hx]; simp
                · exact I'.st.ext.dom b (by
                    show Hb b ≠ none
                    rw [Hbn b z]
                    exact h), fun t => I'.st.ext.tab ⟨fun p hp => (by
                  obtain ⟨ps, t1, t2, t3⟩ := t.1 p hp
                  refine ⟨ps, (Hbn p.1 (fun z => by rw [z, hx] at t1; cases t1)).trans t1, t2, fun pos cv hc => ?_⟩
                  obtain ⟨c, c1, c2⟩ := t3 pos cv hc
                  exact ⟨c, c1, (Hbn c (fun z => by rw [z, hx] at c2; exact (nc_ins (a := x)).2 _ (Option.some.inj c2))).trans c2⟩), fun b ps h => by
                have h : Hb b = some (.tbl ps) := h
                exact t.2 b ps ((Hbn b (fun z => by rw [z, Hbx] at h; cases h)).symm.trans h)⟩⟩
            refine m' σ' G9 H' (s1.g.trans (sG.trans g1)) {
              tabs := st1.tabs.go e5.tab
              ext := st1.ext.trans e5 fun y hy => by
                rw [show y = x by simpa using hy]
                exact st1.inS x (mem_ownS.mpr ⟨0, by simp, ex⟩)
              ln := I'.st.ln
              le := by rw [List.length_set, wipeE_length]; exact st1.le
              sh := fun i d hi h => by
                have hi0 : 0 ≠ i := fun z => hi (by simp [← z])
                rw [List.getElem?_set_ne hi0] at h
                obtain ⟨h3, h4⟩ := wipeE_at h
                simp only [List.mem_cons, List.not_mem_nil, or_false, not_or] at h4
                have h5 := I'.dl i d h4.1 h4.2.1 h4.2.2 (by rw [List.getElem?_set_ne hi0]; exact h3)
                obtain ⟨v, e1, r⟩ := I'.st.sh i d (by simp) h5
                exact ⟨v, e1, r.mono g1⟩
              ow := fun i hi => by
                have : i = 0 := by simpa using hi
                subst this
                obtain ⟨a0, _, q1', _, _, _, z⟩ := st1.ow 0 (by simp)
                rw [ex] at q1'
                cases q1'
                exact ⟨x, _, I'.s0, List.getElem?_set_self (by rw [wipeE_length]; exact l0), xu.trans I'.gx, ⟨dx, _, I'.hx, (sG.trans g1) _ _ hdx, (rf.mono (sG.trans g1)).put rp⟩, z⟩
              dis := fun i hi j hj a _ _ => by
                have h1 : i = 0 := by simpa using hi
                have h2 : j = 0 := by simpa using hj
                rw [h1, h2]
              fix := fun p hp => by
                obtain ⟨h1, h2⟩ := st1.fix p hp
                have h3 : p.1 = 0 := by simpa using h1
                rw [h3] at h2 ⊢
                rw [ex] at h2
                cases h2
                exact ⟨by simp, I'.s0⟩ }
    | _ => exact m.elim
  | _ => exact m.elim
end
end Mi

end
section
set_option Elab.async false
set_option linter.all false
set_option maxRecDepth 100000
set_option autoImplicit false
set_option maxHeartbeats 4000000
/-! an instance is made: C(e, ..) -/
namespace Mi
open PySem PySem.Spec PyProof.Rows L2
def eMake (c : Str) (f : List D → Fr) (as : List Ex) : Ex := fun δ => (eL as δ).bind fun ds δ1 => match f (.obj c [] :: ds) with
  | .ok .non [w] => .ok w δ1
  | .exc c' d => .exc c' d δ1
  | _ => .bad
theorem d_make {X : Cx} {C : Sc} {O : List Nat} {a : Expr} {es : List Expr} {fs : List Ex} {pos p : Pos} {c : Str} {f : List D → Fr} {k j n : Nat} {g : Addr} {fd : FuncData} {ps : List Str} (F : FnOk X.prog X.w X.K X.mg X.base (L2.CX X.prog X.w) k g fd ps (spM C.F.K C.F.cm C.fld n [0] f)) (hK : C.F.K = X.K) (M : Mk X.K (C.F.cm c) g) (hr : Room j X.A) (hk : k + 1 ≤ j)
    (hm : X.mg c = some (.ref (C.F.cm c))) (hb : Binds X.K fd ps []) (tk : Takes X C.W) (E : XK) (hW : ∀ cls d σ H, C.W cls d σ H = E cls d H) (ha : PA X (a :: es) (tA C O (eL fs))) (hn : fs.length + 1 = n) (hg : Gl X c := by rfl) (hdb : (c == ("__debug__" : Str)) = false := by decide)
    (he : starEach (a :: es) X.env = (false, eval a X.env) :: starEach es X.env := by rfl) (hpl : (backTo pos (starEach es X.env)).any (·.1) = false := by rfl) : PE X (.Call (.Name c p) (a :: es) [] pos) (tD C O (eMake c f fs)) :=
  pe_imp (pe_make M F (hr.mono hk) hg hm hb .nil (fun pins σ H s e s' I q => by
    have eW : E = WE C.W σ := by funext cls d H; exact (hW cls d σ H).symm
    exact passAt tk σ pins H s e s' I (by rw [← eW]; exact q)) ha hdb he hpl) fun σ H Q ⟨G, δ, st, m⟩ => by
    refine ⟨G, δ, st, ?_⟩
    unfold eMake at m
    cases e : eL fs δ with
    | exc c d δ' => rw [e] at m; exact m
    | bad => rw [e] at m; exact m
    | ok ds δ1 =>
      rw [e, Res.bind_ok] at m
      intro vs G1 H1 s1 st1 rv x dx nx ndx ne
      have ep := Ext.push (T := C.F.cm.T) (o := .own x) st1.gh ndx
      have nx1 : (upd H1 dx (.own x)) x = none := by rw [upd_ne ne.symm]; exact nx
      have ef := Ext.fresh (T := C.F.cm.T) (o := .ins (C.F.cm c) dx []) ep.gh nx1
      have e1 : Ext _ [] G1 H1 (upd G1 dx (.own x)) (upd (upd H1 dx (.own x)) x (.ins (C.F.cm c) dx [])) := ep.and ef
      have ng : (upd G1 dx (.own x)) x = none := by rw [upd_ne ne.symm]; exact st1.gh.free nx
      have hl : (V.ref x :: (vs ++ [])).length = n := by rw [List.append_nil, List.length_cons, rv.length, eL_length e, hn]
      have o : OwnAt C.F.K C.F.cm (upd G1 dx (.own x)) (upd (upd H1 dx (.own x)) x (.ins (C.F.cm c) dx [])) x (.obj c []) := ⟨dx, [], upd_same, upd_same, .nil⟩
      refine ⟨_, .obj c [] :: ds, [x], hl, rfl, callee1 (j := 0) e1.gh (st1.step e1).tabs hl (by rw [List.length_cons, eL_length e, hn]) (fun i d hi h => ?_) rfl rfl ng o, ?_⟩
      · cases i with
        | zero => exact absurd rfl hi
        | succ i =>
          rw [List.append_nil]
          exact (rv.mono e1.g).get (by simpa using h)
      · cases ef : f (.obj c [] :: ds) with
        | bad => rw [ef] at m; exact m.elim
        | exc c' d =>
          rw [ef] at m
          intro G2 H2 cls dd ex xr
          rw [← hW cls dd σ H2]
          exact m G2 H2 cls dd (st1.step (ext_X e1 ex nx)) xr
        | ok d outs =>
          rw [ef] at m
          cases d with
          | non =>
            match outs, m with
            | [w], m =>
              intro v G2 H2 ex oa r
              cases r
              refine ⟨rfl, ?_⟩
              have ea := ext_X e1 ex nx
              obtain ⟨u, hu, rp⟩ := rp_known oa.1.2 oa.1.1
              have ek := ea.know oa.1.1 nx hu (oa.1.2.nc hu).1
              exact m _ _ H2 (s1.and ek) (st1.step ek) rp
            | [], m => exact m.elim
            | _ :: _ :: _, m => exact m.elim
          | _ => exact m.elim
end Mi

end
section
set_option Elab.async false
set_option linter.all false
set_option maxRecDepth 100000
set_option autoImplicit false
set_option maxHeartbeats 4000000
namespace Mi
open PySem PySem.Spec PyProof.Rows L2
theorem all1 {α : Type} {p : α → Prop} {a : α} (h : p a) : ∀ c ∈ [a], p c := fun c hc => by
  rw [show c = a by simpa using hc]
  exact h
theorem all0 {α : Type} {p : α → Prop} : ∀ c ∈ ([] : List α), p c := fun c hc => by cases hc
/-- a class that is made by calling it -/
structure MkC (P : Program) (w : World) (K : PySem.W.Frag) (mg : Str → Option Value) (base : Heap) (cm : CM) (fld : Str → Str) (c : Str) (k n : Nat) (f : List D → Fr) : Prop where
  ex : ∃ g fd ps, FnOk P w K mg base (L2.CX P w) k g fd ps (spM K cm fld n [0] f) ∧ Mk K (cm c) g ∧ mg c = some (.ref (cm c)) ∧ Binds K fd ps []
/-- a method -/
structure MtC (P : Program) (w : World) (K : PySem.W.Frag) (mg : Str → Option Value) (base : Heap) (cm : CM) (fld : Str → Str) (c m : Str) (k n : Nat) (own : List Nat) (f : List D → Fr) : Prop where
  ex : ∃ g fd ps, FnOk P w K mg base (L2.CX P w) k g fd ps (spM K cm fld n own f) ∧ PySem.W.findIn K (.ref (cm c)) m = some (some (.ref g)) ∧ PySem.W.isFn K (.ref g) = true ∧ PySem.W.keepIn K (.ref g) = true ∧ PySem.W.typeIn K (.ref g) = some (.type "function") ∧ Binds K fd ps []
section
variable {X : Cx} {C : Sc} {O O1 : List Nat} {a b e : Expr} {fa fb : Ex} {pos p p2 : Pos} {i : Nat} {c m : Str} {es : List Expr} {fs : List Ex} {f : List D → Fr} {k j n : Nat}
theorem d_mk (x : MkC X.prog X.w X.K X.mg X.base C.F.cm C.fld c k n f) (hK : C.F.K = X.K) (hr : Room j X.A) (hk : k + 1 ≤ j) (tk : Takes X C.W) (E : XK) (hW : ∀ cls d σ H, C.W cls d σ H = E cls d H) (ha : PA X (a :: es) (tA C O (eL fs))) (hn : fs.length + 1 = n) (hg : Gl X c := by rfl) (hdb : (c == ("__debug__" : Str)) = false := by decide)
    (he : starEach (a :: es) X.env = (false, eval a X.env) :: starEach es X.env := by rfl) (hpl : (backTo pos (starEach es X.env)).any (·.1) = false := by rfl) : PE X (.Call (.Name c p) (a :: es) [] pos) (tD C O (eMake c f fs)) := by
  obtain ⟨g, fd, ps, F, M, hm, hb⟩ := x.ex
  rw [← hK] at F
  exact d_make (hK ▸ F) hK M hr hk hm hb tk E hW ha hn hg hdb he hpl
theorem d_len (x : MtC X.prog X.w X.K X.mg X.base C.F.cm C.fld c "__len__" k 1 [] f) (hK : C.F.K = X.K) (hr : Room j X.A) (hk : k + 1 ≤ j) (hm : X.mg "len" = none) (ha : PE X a (tD C O fa)) (hg : Gl X "len" := by rfl) (he : starEach [a] X.env = (false, eval a X.env) :: starEach [] X.env := by rfl) (hpl : (backTo pos (starEach [] X.env)).any (·.1) = false := by rfl) :
    PE X (.Call (.Name "len" p) [a] [] pos) (tD C O (e1 (lenO c f) fa)) := by
  obtain ⟨g, fd, ps, F, h1, h2, h3, h4, hb⟩ := x.ex
  rw [← hK] at F
  exact d_lenO (hK ▸ F) hr hk hb ⟨h1, h4⟩ hm ha hg he hpl
end
theorem mt_mk {P : Program} {w : World} {K : PySem.W.Frag} {mg : Str → Option Value} {base : Heap} {cm : CM} {fld : Str → Str} {c mth x qual : Str} {st : Stmt} {g : Addr} {fd : FuncData} {N ps : List Str} {k n p : Nat} {own : List Nat} {m : Sm} (F : Fun K x qual st g fd)
    (h1 : PySem.W.findIn K (.ref (cm c)) mth = some (some (.ref g))) (h2 : PySem.W.isFn K (.ref g) = true) (h4 : PySem.W.typeIn K (.ref g) = some (.type "function")) (hb : Binds K fd ps []) (S : FnScope N ps (defScope st)) (hn : N.length = n) (hp : ps.length = p) (hpn : p ≤ n) (O' : List Nat)
    (hbody : ∀ (cdv : Value) (cd : fd.code = cdv) (A : Around) (outer : List PySem.Env) (s : Shared) (H G : Hp) (E : XK) (as : List Addr), Room k (A.deeper (envOfC qual (defScope st) s.heap.objs.size g cdv)) →
      PSs (cxOf (L2.CX P w) P w K mg base N qual (defScope st) g cdv A outer s H E) (defBody st) (tS ⟨⟨K, cm, G, H, n, own, as⟩, fun cls d _ H => E cls d H, fld, fun _ => True, [], false⟩ own O' m)) :
    MtC P w K mg base cm fld c mth (k + 1) p own (fnM n p own m) := ⟨g, fd, ps, fn_mir F S hn hp hpn O' hbody, h1, h2, F.kp, h4, hb⟩
theorem mk_mk {P : Program} {w : World} {K : PySem.W.Frag} {mg : Str → Option Value} {base : Heap} {cm : CM} {fld : Str → Str} {c x qual : Str} {st : Stmt} {g : Addr} {fd : FuncData} {N ps : List Str} {k n p : Nat} {m : Sm} (F : Fun K x qual st g fd) (M : Mk K (cm c) g) (hm : mg c = some (.ref (cm c)))
    (hb : Binds K fd ps []) (S : FnScope N ps (defScope st)) (hn : N.length = n) (hp : ps.length = p) (hpn : p ≤ n) (O' : List Nat)
    (hbody : ∀ (cdv : Value) (cd : fd.code = cdv) (A : Around) (outer : List PySem.Env) (s : Shared) (H G : Hp) (E : XK) (as : List Addr), Room k (A.deeper (envOfC qual (defScope st) s.heap.objs.size g cdv)) →
      PSs (cxOf (L2.CX P w) P w K mg base N qual (defScope st) g cdv A outer s H E) (defBody st) (tS ⟨⟨K, cm, G, H, n, [0], as⟩, fun cls d _ H => E cls d H, fld, fun _ => True, [], false⟩ [0] O' m)) :
    MkC P w K mg base cm fld c (k + 1) p (fnM n p [0] m) := ⟨g, fd, ps, fn_mir F S hn hp hpn O' hbody, M, hm, hb⟩
end Mi

end
section
set_option Elab.async false
set_option linter.all false
set_option maxRecDepth 100000
set_option autoImplicit false
set_option maxHeartbeats 4000000
/-! t[::-1], lists and tuples -/
namespace Mi
open PySem PySem.Spec PyProof.Rows L2
section
variable {prog : Program} {w : World} {A : Around} {E : Value → Shared → Prop} {s : Shared}
theorem sl_rev_ap {q : Addr} {n : Nat} {t : Tok} {Q : Int × Int × Nat → Shared → Prop} (hq : s.heap.IsSliceOf q .none .none (.int (-1) t)) (h : Q ((n : Int) - 1, -1, n) s) : wpAny (model prog w) A (Builtin.Slice.sliceApplied (.ref q) (pure (n : Int))) Q E s := by
  obtain ⟨ob, g1, g2, g3⟩ := id hq
  unfold Builtin.Slice.sliceApplied Builtin.Slice.sliceFields
  refine wpAny_bind (wpAny_bind (wpAny_field g1 g3 (x := .none) rfl (wpAny_bind (wpAny_field g1 g3 (x := .none) rfl (wpAny_bind (wpAny_field g1 g3 (x := .int (-1) t) rfl (wpAny_pure ?_)))))))
  refine wpAny_bind (HT.slicePart_ (.int (-1) t) ?_)
  show wpAny _ _ (if ((-1 : Int) == 0) = true then _ else _) _ _ s
  rw [if_neg (by decide)]
  refine wpAny_bind (HT.slicePart_ .none (wpAny_bind (HT.slicePart_ .none (wpAny_bind (wpAny_pure ?_)))))
  show wpAny _ _ (pure ((n : Int) - 1, (-1 : Int), Builtin.Slice.slicePlaces ((n : Int) - 1) (-1) (-1))) _ _ s
  have e : Builtin.Slice.slicePlaces ((n : Int) - 1) (-1) (-1) = n := by
    unfold Builtin.Slice.slicePlaces
    rw [if_neg (by decide)]
    by_cases hn : n = 0
    · subst hn; rfl
    · rw [if_pos (by omega), show -(-1 : Int) = 1 by rfl, Int.ediv_one]
      omega
  rw [e]
  exact wpAny_pure h
theorem pick_rev (xs : Array Value) : ((List.range xs.size).filterMap fun (m : Nat) => xs[(((xs.size : Int) - 1) + (m : Int) * -1).toNat]?).toArray = xs.toList.reverse.toArray := by
  congr 1
  have cg : ∀ (l : List Nat) (f g : Nat → Option Value), (∀ m ∈ l, f m = g m) → l.filterMap f = l.filterMap g := by
    intro l f g
    induction l with
    | nil => intro _; rfl
    | cons a l ih =>
      intro h
      rw [List.filterMap_cons, List.filterMap_cons, h a List.mem_cons_self, ih fun m hm => h m (List.mem_cons_of_mem _ hm)]
  rw [cg _ _ (fun m => xs.toList.reverse[m]?) fun m hm => by
    have hm : m < xs.size := List.mem_range.mp hm
    have e1 : (((xs.size : Int) - 1) + (m : Int) * -1).toNat = xs.size - 1 - m := by omega
    rw [e1, List.getElem?_reverse (by simpa using hm)]
    simp]
  have key : ∀ l : List Value, (List.range l.length).filterMap (fun m => l[m]?) = l := by
    intro l
    induction l with
    | nil => rfl
    | cons a l ih =>
      rw [List.length_cons, List.range_succ_eq_map, List.filterMap_cons]
      simp only [List.getElem?_cons_zero, List.filterMap_map]
      congr 1
  have := key xs.toList.reverse
  rw [List.length_reverse, Array.length_toList] at this
  exact this
theorem tup_rev {a q : Addr} {its : Array Value} {t : Tok} {Q : Value → Shared → Prop} (tp : IsTup s.heap a its) (hq : s.heap.IsSliceOf q .none .none (.int (-1) t)) (hz : its.size ≤ sizeLine)
    (h : Q (.ref s.heap.objs.size) { s with heap := s.heap.push { cls := .type "tuple", data := .seq its.toList.reverse.toArray } }) : wpAny (model prog w) A (getItem (.ref a) (.ref q)) Q E s := by
  have fits : sizeOk (.seq its.toList.reverse.toArray) := by
    show its.toList.reverse.toArray.size ≤ sizeLine
    simpa using hz
  obtain ⟨ob, g1, g2, g3⟩ := id hq
  have tyq : s.TypeIs (.ref q) "slice" := ⟨ob, g1, g2⟩
  unfold getItem
  try with_reducible refine wpAny_holding ?_
  first | refine wpAny_bind (wpAny_pure ?_) | skip
  refine wpAny_bind (wpAny_sequenceKey tp.typeIs (by decide) ?_)
  refine wpAny_bind (wpAny_callSpecial?_slot (name := Str.ofString "__getitem__") tp.typeIs PyProof.Rows.slot_tuple_getitem
    (wpAny_call_entry PyProof.Rows.slot_tuple_getitem tp.typeIs entry_tuple_getitem ?_ (args_tuple_getitem _ _)))
  show wpAny _ _ (Builtin.Tuple.tupleItemsOf (.ref a) >>= _) _ _ s
  refine wpAny_bind (tupleItemsOf_ tp (wpAny_bind (wpAny_typeOf tyq ?_)))
  rw [if_pos (by decide)]
  refine wpAny_bind (sl_rev_ap (n := its.size) hq ?_)
  show wpAny _ _ (if ((((its.size : Int) - 1) == 0) && ((-1 : Int) == 1) && (its.size == its.size)) = true then _ else _) _ _ s
  rw [if_neg (by simp), pick_rev]
  first
    | exact wpAny_bind (m := Builtin.Tuple.tupleExact _) (wpAny_newObj_type (wpAny_pure ⟨_, rfl, wpAny_pure h⟩) fits)
    | exact wpAny_bind (m := Builtin.Tuple.tupleExact _) (wpAny_newObj_type (wpAny_bind (wpAny_pure (wpAny_pure ⟨_, rfl, wpAny_pure h⟩))) fits)
    | exact wpAny_bind (wpAny_bind (m := Builtin.Tuple.tupleExact _) (wpAny_newObj_type (wpAny_pure (wpAny_pure ⟨_, rfl, wpAny_pure h⟩)) fits))
    | exact wpAny_bind (wpAny_bind (m := Builtin.Tuple.tupleExact _) (wpAny_newObj_type (wpAny_pure ⟨_, rfl, wpAny_pure h⟩) fits))
end
def rRevS (K : PySem.W.Frag) : V → Hp → VK → Prop := fun x H Q => ∃ a xs, x = .ref a ∧ ((SqL K H a xs ∧ ∀ p, H p = none → Q (.ref p) (upd H p (.lst xs.reverse))) ∨ (SqT K H a xs ∧ NewT H xs.reverse Q))
theorem pe_rev {X : Cx} {e : Expr} {te : TE} {k : Nat} {p1 p2 p3 pos : Pos} (he : PE X e te) : PE X (.Subscript e (.Slice none none (some (.UnaryOp .USub (.Constant (.int 1) k p1) p2)) p3) pos) (tUn (rRevS X.K) te) := by
  refine ⟨fun pins s σ H Q I h => Subscript_ (thn (he.run pins s σ H _ I h) fun v s1 ⟨x, H1, I1, r1, a, xs, ex, q1⟩ => ?_)⟩
  subst ex
  cases r1
  have pst : PO X (some (.UnaryOp .USub (.Constant (.int 1) k p1) p2)) (tPart (tUn (rU fun i => .int (-i)) (tC (.int 1)))) := po_some (pe_un un_neg pe_int)
  refine wpAny_Slice (thn (po_none.run pins s1 σ H1 (fun o H2 => o = none ∧ H2 = H1) I1 ⟨rfl, rfl⟩) fun vl s2 ⟨_, H2, I2, pl, ⟨el, e2⟩⟩ => ?_)
  subst el e2
  refine thn (po_none.run pins s2 σ H2 (fun o H3 => o = none ∧ H3 = H2) I2 ⟨rfl, rfl⟩) fun vu s3 ⟨_, H3, I3, pu, ⟨eu, e3⟩⟩ => ?_
  subst eu e3
  refine thn (pst.run pins s3 σ H3 (fun o H4 => o = some (-1) ∧ H4 = H3) I3 ⟨1, rfl, -1, rfl, rfl, rfl⟩) fun vs s4 ⟨_, H4, I4, ps, ⟨eo, e4⟩⟩ => ?_
  subst eo e4
  cases pl
  cases pu
  cases ps with
  | int _ t =>
    let s5 : Shared := { s4 with heap := s4.heap.push { cls := .type "slice", data := .fields #[.none, .none, .int (-1) t] } }
    have I5 : Inv X pins σ H4 s5 := I4.kept (t' := s4.toks) fun b ob q => Heap.get?_push_of_some _ q
    show wpAny (model X.prog X.w) X.A (subscriptTail e (.Slice none none (some (.UnaryOp .USub (.Constant (.int 1) k p1) p2)) p3) (.ref a) (.ref s4.heap.objs.size)) (EP X pins σ Q) X.xe s5
    rcases q1 with ⟨hx, q⟩ | ⟨hx, q⟩
    · obtain ⟨its, r, tl, hz⟩ := I5.list hx
      have hlen := r.length
      refine tail_any (ops := [.ref a, .ref s4.heap.objs.size]) tl.isList.typeIs PySem.slot_list_getitem.lookup ?_ (by with_unfolding_all rfl)
      refine wpAny_getItem_list_slice tl.isList (Heap.IsSliceOf.new _ _ _ _) .none .none (.int (-1) t) (by decide) ?_ (by rw [List.size_toArray]; omega)
      rw [PySem.W.krv_pick]
      exact ⟨.ref _, _, I5.laid (t' := s5.toks) (o := .lst xs.reverse) (fun b ob q => Heap.get?_push_of_some _ q) (Nat.le_refl _) ⟨by rw [List.length_reverse]; exact hz, _, 0, r.reverse, Heap.get?_push_size _ rfl⟩, rfl, q _ (I5.hok.fresh (Nat.le_refl _))⟩
    · obtain ⟨its, r, tp, hz⟩ := I5.tuple hx
      have hlen := r.length
      refine tail_any (ops := [.ref a, .ref s4.heap.objs.size]) tp.typeIs PyProof.Rows.slot_tuple_getitem.lookup ?_ (by with_unfolding_all rfl)
      refine tup_rev tp (Heap.IsSliceOf.new _ _ _ _) (by rw [List.size_toArray]; omega) ?_
      exact new_tup (s := s5) (h' := s5.heap) (t' := s5.toks) I5 (fun _ _ z => z) (Nat.le_refl _) (r.reverse) (by rw [List.length_reverse]; exact hz) q
def revD : D → Option D
  | .lst xs => some (.lst xs.reverse)
  | .tup xs => some (.tup xs.reverse)
  | _ => none
theorem Rps.rev {K : PySem.W.Frag} {cm : CM} {G : Hp} : ∀ {vs : List V} {ds : List D}, Rps K cm G vs ds → Rps K cm G vs.reverse ds.reverse
  | _, _, .nil => .nil
  | _, _, .cons r t => by
    rw [List.reverse_cons, List.reverse_cons]
    exact (Rps.rev t).app (.cons r .nil)
theorem a_revD {K : PySem.W.Frag} {cm : CM} : S1 K cm (rRevS K) revD := fun G H v d d' Q gh v1 ho (a : Ans K cm G H d' Q) => by
  cases d with
  | lst ds => cases ho; obtain ⟨p, ys, rfl, q, r⟩ := v1.lst gh; exact ⟨p, ys, rfl, .inl ⟨q, fun l n => a.lst gh r.rev n⟩⟩
  | tup ds => cases ho; obtain ⟨p, ys, rfl, q, r⟩ := v1.tup gh; exact ⟨p, ys, rfl, .inr ⟨q, a.tup gh r.rev⟩⟩
  | _ => cases ho
theorem d_rev {X : Cx} {C : Sc} {O : List Nat} {e : Expr} {fa : Ex} {k : Nat} {p1 p2 p3 pos : Pos} (he : PE X e (tD C O fa)) (hK : C.F.K = X.K := by rfl) : PE X (.Subscript e (.Slice none none (some (.UnaryOp .USub (.Constant (.int 1) k p1) p2)) p3) pos) (tD C O (e1 revD fa)) := d_1 a_revD (hK ▸ pe_rev (wk he))
end Mi

end
section
set_option Elab.async false
set_option linter.all false
set_option maxRecDepth 100000
set_option autoImplicit false
set_option maxHeartbeats 4000000
/-! defs that ask repr: their promise where no repr is under way -/
namespace Mi
open PySem PySem.Spec PyProof.Rows L2
/-- as FnOk, where no repr is under way -/
structure FnG (P : Program) (w : World) (K : PySem.W.Frag) (mg : Str → Option Value) (base : Heap) (CX : CXT) (k : Nat) (f : Addr) (fd : FuncData) (ps : List Str) (sp : Sp) : Prop where
  len : ∀ vs H Q E, sp vs H Q E → vs.length = ps.length
  run : ∀ (A : Around) (outer : List PySem.Env) (s : Shared) (H : Hp) (args : Args) (us : List Value) (vs : List V) (Q : VK) (E : XK), A.guards = some [] → Room k A → Env0 P w K mg base A outer s H → BindsTo s fd args (ps.zip us) → Vals vs us → sp vs H Q E →
    codeAny (model P w) A (.call (.ref f) args) (CR CX outer P w H s Q E) s
theorem Fun.okG {P : Program} {w : World} {K : PySem.W.Frag} {mg : Str → Option Value} {base : Heap} {x qual : Str} {st : Stmt} {g : Addr} {fd : FuncData} {N ps : List Str} {k : Nat} {sp : Sp} (F : Fun K x qual st g fd) (S : FnScope N ps (defScope st)) (ln : ∀ vs H Q E, sp vs H Q E → vs.length = ps.length)
    (bd : ∀ (cdv : Value) (cd : fd.code = cdv) (A : Around) (outer : List PySem.Env) (s : Shared) (H : Hp) (vs : List V) (Q : VK) (E : XK), A.guards = some [] → Room k (A.deeper (envOfC qual (defScope st) s.heap.objs.size g cdv)) → sp vs H Q E →
      ∃ t, PSs (cxOf (L2.CX P w) P w K mg base N qual (defScope st) g cdv A outer s H E) (defBody st) t ∧ t { nx := fun _ H' => Q .non H', rt := Q } (L2.start N vs) H) : FnG P w K mg base (L2.CX P w) (k + 1) g fd ps sp := by
  obtain ⟨oc, od, kV, doc, pm, an, cdv, ct, osl, rfl, lk, code⟩ := F.ex
  refine ⟨ln, fun A outer s H args us vs Q E hg room env bnd rel hs => ?_⟩
  have kIn : K.In s.heap := env.mod.kin.keeps fun b o e => (env.bs b o e).1
  have nolim : s.heap.NoLimit := env.mod.nolimit.keeps fun b o e => (env.bs b o e).1
  have kinds : ∀ y ∈ ps.zip us, (defScope st).names.lookup y.1 = some .local ∨ ((defScope st).names.lookup y.1 = some .cell ∧ ((cellsFrom (s.heap.objs.size + 1) (defScope st).names []).lookup y.1).isSome = true) := fun ⟨n, v⟩ hy => (S.par n (List.of_mem_zip hy).1).imp id fun q => ⟨q, PySem.W.cellsFrom_some _ _ _ (.inl q)⟩
  refine codeAny_call_function room.depth (kIn _ _ lk) rfl S.co S.gen rfl (PySem.W.codeRec_of kIn code) (bnd _ _ _ _ (wpAny_newFunctionEnv_cells S.kind kinds fun fe efe sx mk => ?_))
  subst efe
  obtain ⟨t, tt, tq⟩ := bd cdv rfl A outer s H vs Q E hg (room.deeper _) hs
  refine ⟨nolim.keeps mk.toInCall.keep, codeAny_func (wpAny_mono (tt.run [] sx (L2.start N vs) H _ (inv_start S room.hd env (ln _ _ _ _ hs) rel mk) tq) (fun fl s' hf => ?_) fun e s' he => he)⟩
  rcases fl with u | _ | _ | _
  all_goals first
    | (obtain ⟨v, σ', H', J, rv, q⟩ := hf; exact ⟨v, H', J.os, J.bare, J.base, J.hok, rv, q⟩)
    | (obtain ⟨σ', H', J, q⟩ := hf; exact ⟨V.non, H', J.os, J.bare, J.base, J.hok, rfl, q⟩)
    | (obtain ⟨_, _, _, q⟩ := hf; exact q.elim)
theorem fn_mirG {P : Program} {w : World} {K : PySem.W.Frag} {mg : Str → Option Value} {base : Heap} {cm : CM} {fld : Str → Str} {x qual : Str} {st : Stmt} {f : Addr} {fd : FuncData} {N ps : List Str} {k n p : Nat} {own : List Nat} {g : Sm} (F : Fun K x qual st f fd) (S : FnScope N ps (defScope st)) (hn : N.length = n) (hp : ps.length = p) (hpn : p ≤ n) (O' : List Nat)
    (hbody : ∀ (cdv : Value) (cd : fd.code = cdv) (A : Around) (outer : List PySem.Env) (s : Shared) (H G : Hp) (E : XK) (as : List Addr), A.guards = some [] → Room k (A.deeper (envOfC qual (defScope st) s.heap.objs.size f cdv)) →
      PSs (cxOf (L2.CX P w) P w K mg base N qual (defScope st) f cdv A outer s H E) (defBody st) (tS ⟨⟨K, cm, G, H, n, own, as⟩, fun cls d _ H => E cls d H, fld, fun _ => True, [], false⟩ own O' g)) :
    FnG P w K mg base (L2.CX P w) (k + 1) f fd ps (spM K cm fld p own (fnM n p own g)) := by
  subst hn hp
  refine Fun.okG F S (fun vs H Q E h => ?_) (fun cdv cd A outer s H vs Q E hg hr h => ?_)
  · obtain ⟨G, ds, as, hl, _⟩ := h
    exact hl
  · obtain ⟨G, ds, as, hl, hla, st0, m⟩ := h
    refine ⟨_, hbody cdv cd A outer s H G E as hg hr, G, startE N.length ds, st0.start hla hpn, ?_⟩
    have hld : ds.length = ps.length := by simpa using st0.le
    have hS : (Fm.S ⟨K, cm, G, H, N.length, own, as⟩) = as := zip_snd hla
    unfold fnM at m
    rw [if_pos hld] at m
    cases e : g (startE N.length ds) with
    | nx δ' =>
      rw [e] at m
      cases eo : outsOf own δ' with
      | none => simp only [eo] at m
      | some o =>
        simp only [eo] at m
        intro σ' G' H' s1 st1
        have rs := st1.ret
        have ex := rs.1
        rw [hS] at ex
        exact m .non G' H' ex (outs_of hla rs.2 eo) .non
    | rt d δ' =>
      rw [e] at m
      cases eo : outsOf own δ' with
      | none => simp only [eo] at m
      | some o =>
        simp only [eo] at m
        intro v G' H' rs rv _
        have ex := rs.1
        rw [hS] at ex
        exact m v G' H' ex (outs_of hla rs.2 eo) rv
    | exc c d δ' =>
      rw [e] at m
      intro O'' σ' G' H' cls dd _ st1 x
      have ex := st1.ext
      rw [hS] at ex
      exact m G' H' cls dd ex x
    | bk δ' => rw [e] at m; exact m.elim
    | ct δ' => rw [e] at m; exact m.elim
    | bad => rw [e] at m; exact m.elim
section
variable {X : Cx} {C : Sc} {O : List Nat} {a b e : Expr} {fa fb : Ex} {pos p p2 : Pos} {i : Nat} {c m x : Str} {es : List Expr} {fs : List Ex} {f : List D → Fr} {k j n : Nat} {t : TA} {g : Addr} {fd : FuncData} {ps : List Str} {sp : Sp} {E : L2.St → XK} {CX : CXT}
theorem pe_callG (F : FnG X.prog X.w X.K X.mg X.base CX k g fd ps sp) (gd : X.A.guards = some []) (hr : Room k X.A) (hg : Gl X x) (hm : X.mg x = some (.ref g)) (hk : PySem.W.keepIn X.K (.ref g) = true) (hb : Binds X.K fd ps []) (hx : ∀ σ, PassesAt CX X σ (E σ)) (ha : PA X (e :: es) t) (hdb : (x == ("__debug__" : Str)) = false := by decide)
    (he : starEach (e :: es) X.env = (false, eval e X.env) :: starEach es X.env := by rfl) (hpl : (backTo pos (starEach es X.env)).any (·.1) = false := by rfl) : PE X (.Call (.Name x p) (e :: es) [] pos) (tCallS sp E t) := by
  refine ⟨fun pins s σ H Q I h => wpAny_Call_Name_kw (ld_glob I hg hm (PySem.W.callWith_K (h₀ := X.base) I.ok.mod.kin hk (thn (ha.run pos pins s σ H _ I h) fun us s1 ⟨vs, H1, I1, r, q⟩ => ⟨I1.kIn, ?_⟩) he hpl) hdb)⟩
  have hl : us.length = ps.length := by rw [← r.length]; exact F.len _ _ _ _ q
  refine wpAny_call (codeAny_mono (F.run X.A X.stack s1 H1 ⟨us, []⟩ us vs Q (E σ) gd hr I1.env0 (by simpa using hb s1 us I1.kIn (by simpa using hl)) r q) fun rr s' hq => ?_)
  rcases rr with er | fl
  · exact hx σ pins H1 s1 er s' I1 hq
  · cases fl with
    | ret u => exact I1.after hq
    | next => exact False.elim hq
    | brk => exact False.elim hq
    | cont => exact False.elim hq
end
structure CalG (P : Program) (w : World) (K : PySem.W.Frag) (mg : Str → Option Value) (base : Heap) (cm : CM) (fld : Str → Str) (x : Str) (k n : Nat) (own : List Nat) (f : List D → Fr) : Prop where
  ex : ∃ g fd ps, FnG P w K mg base (L2.CX P w) k g fd ps (spM K cm fld n own f) ∧ mg x = some (.ref g) ∧ PySem.W.keepIn K (.ref g) = true ∧ Binds K fd ps []
section
variable {X : Cx} {C : Sc} {O : List Nat} {a : Expr} {fa : Ex} {pos p : Pos} {i : Nat} {x : Str} {es : List Expr} {fs : List Ex} {f : List D → Fr} {k j n : Nat}
theorem d_calG (c : CalG X.prog X.w X.K X.mg X.base C.F.cm C.fld x k n [] f) (hK : C.F.K = X.K) (gd : X.A.guards = some []) (hr : Room j X.A) (hk : k ≤ j) (tk : Takes X C.W) (ha : PA X (a :: es) (tA C O (eL fs))) (hn : fs.length = n) (hg : Gl X x := by rfl) (hdb : (x == ("__debug__" : Str)) = false := by decide)
    (he : starEach (a :: es) X.env = (false, eval a X.env) :: starEach es X.env := by rfl) (hpl : (backTo pos (starEach es X.env)).any (·.1) = false := by rfl) : PE X (.Call (.Name x p) (a :: es) [] pos) (tD C O (eCall f fs)) := by
  obtain ⟨g, fd, ps, F, hm, kp, hb⟩ := c.ex
  rw [← hK] at F
  exact pe_imp (pe_callG (hK ▸ F) gd (hr.mono hk) hg hm kp hb (fun σ => passAt tk σ) ha hdb he hpl) fun σ H Q h => r_call hn h
theorem d_calGO (c : CalG X.prog X.w X.K X.mg X.base C.F.cm C.fld x k n [0] f) (hK : C.F.K = X.K) (gd : X.A.guards = some []) (hr : Room j X.A) (hk : k ≤ j) (tk : Takes X C.W) (hi : i ∈ O) (ha : PA X (a :: es) (tCons (tVar i) (tA C O (eL fs)))) (hn : fs.length + 1 = n) (hg : Gl X x := by rfl) (hdb : (x == ("__debug__" : Str)) = false := by decide)
    (he : starEach (a :: es) X.env = (false, eval a X.env) :: starEach es X.env := by rfl) (hpl : (backTo pos (starEach es X.env)).any (·.1) = false := by rfl) : PE X (.Call (.Name x p) (a :: es) [] pos) (tD C O (eCallO f i fs)) := by
  obtain ⟨g, fd, ps, F, hm, kp, hb⟩ := c.ex
  rw [← hK] at F
  exact pe_imp (pe_callG (hK ▸ F) gd (hr.mono hk) hg hm kp hb (fun σ => passAt tk σ) ha hdb he hpl) fun σ H Q h => r_callO hi hn h
theorem d_calGN (c : CalG X.prog X.w X.K X.mg X.base C.F.cm C.fld x k n [0] f) (hK : C.F.K = X.K) (gd : X.A.guards = some []) (hr : Room j X.A) (hk : k ≤ j) (tk : Takes X C.W) (ha : PA X (a :: es) (tCons (tN C O fa) (tA C O (eL fs)))) (hn : fs.length + 1 = n) (hg : Gl X x := by rfl) (hdb : (x == ("__debug__" : Str)) = false := by decide)
    (he : starEach (a :: es) X.env = (false, eval a X.env) :: starEach es X.env := by rfl) (hpl : (backTo pos (starEach es X.env)).any (·.1) = false := by rfl) : PE X (.Call (.Name x p) (a :: es) [] pos) (tD C O (eCallN f fa fs)) := by
  obtain ⟨g, fd, ps, F, hm, kp, hb⟩ := c.ex
  rw [← hK] at F
  exact pe_imp (pe_callG (hK ▸ F) gd (hr.mono hk) hg hm kp hb (fun σ => passAt tk σ) ha hdb he hpl) fun σ H Q h => r_callN (es := es) hn h
end
theorem calG_mk {P : Program} {w : World} {K : PySem.W.Frag} {mg : Str → Option Value} {base : Heap} {cm : CM} {fld : Str → Str} {x qual : Str} {st : Stmt} {g : Addr} {fd : FuncData} {N ps : List Str} {k n p : Nat} {own : List Nat} {m : Sm} (F : Fun K x qual st g fd) (hm : mg x = some (.ref g)) (hb : Binds K fd ps [])
    (S : FnScope N ps (defScope st)) (hn : N.length = n) (hp : ps.length = p) (hpn : p ≤ n) (O' : List Nat)
    (hbody : ∀ (cdv : Value) (cd : fd.code = cdv) (A : Around) (outer : List PySem.Env) (s : Shared) (H G : Hp) (E : XK) (as : List Addr), A.guards = some [] → Room k (A.deeper (envOfC qual (defScope st) s.heap.objs.size g cdv)) →
      PSs (cxOf (L2.CX P w) P w K mg base N qual (defScope st) g cdv A outer s H E) (defBody st) (tS ⟨⟨K, cm, G, H, n, own, as⟩, fun cls d _ H => E cls d H, fld, fun _ => True, [], false⟩ own O' m)) :
    CalG P w K mg base cm fld x (k + 1) p own (fnM n p own m) := ⟨g, fd, ps, fn_mirG F S hn hp hpn O' hbody, hm, F.kp, hb⟩
/-! ### repr -/
noncomputable def showO (d : D) : Option Str := if d.py.canLay0 && (d.py.showable && (!d.py.hasDict && (decide (d.py.depth ≤ 64) && decide (d.py.shown.length ≤ cap)))) then some d.py.shown else none
def emptyB : D → Bool
  | .dic [] => true
  | _ => false
noncomputable def reprD (d : D) : Option D := if emptyB d then some (.str "{}") else (showO d).map .str
def rRepr (K : PySem.W.Frag) : List V → Hp → VK → Prop := fun xs H Q => (∃ a, xs = [.ref a] ∧ Rd H a (.dK []) ∧ Q (.str "{}") H) ∨ ∃ x d, xs = [x] ∧ Dp K H x d ∧ d.showable = true ∧ d.hasDict = false ∧ d.depth ≤ 64 ∧ d.shown.length ≤ sizeLine ∧ Q (.str d.shown) H
theorem call_reprD {X : Cx} (gd : X.A.guards = some []) (hu : X.A.units + 68 < cLine) : CallR X (.builtin "repr") (rRepr X.K) := by
  rintro pins s σ H xs us Q I r (⟨a, ex, hd, q⟩ | ⟨x, d, ex, hd, hs, hn, h64, hz, q⟩)
  · subst ex
    obtain ⟨u, rfl, ru⟩ := vals1 r
    cases ru
    obtain ⟨_, ns, kv, rk, dc⟩ := rd_of I.hok hd
    cases rk
    obtain ⟨o, es, ep, e1, e2, e3, _, e4, _⟩ := dc
    have hes : es.toList = [] := List.length_eq_zero_iff.mp e4.length
    have hc : o.cls = .type "dict" := e2.1
    have rd : Reads s.heap (.ref a) (.dict []) (a :: [] ++ []) := .dict e1 hc e3 (by rw [hes]; exact .nil) (by rw [hes]; exact .nil)
    exact repr_of_reads' rd (by rfl) (fun _ z => by
      have : sysModules = a := by simpa using z
      rw [this] at ns
      simp at ns) gd (by show X.A.units + (_ + 1) < cLine; have : (PyData.dict []).depth ≤ 60 := by decide
                         omega) (fun _ _ z => z) (fun h' u tk k => ⟨.str "{}", H, I.kept (t' := tk) k, ⟨u, rfl⟩, q⟩) (by decide)
  subst ex
  obtain ⟨u, rfl, ru⟩ := vals1 r
  obtain ⟨as, rd⟩ := Dp.reads I d x u hd ru
  have fin : ∀ h' u tk, (∀ b o, s.heap.get? b = some o → h'.get? b = some o) → EP X pins σ Q (.str d.shown u) { s with heap := h', toks := tk } := fun h' u tk k => ⟨.str d.shown, H, I.kept (t' := tk) k, ⟨u, rfl⟩, q⟩
  have far : X.A.units + (d.depth + 1) < cLine := by omega
  cases hd with
  | non => cases ru; exact PySem.P.repr_of_none (fin s.heap s.toks _ fun _ _ z => z)
  | bl b => cases ru; exact PySem.P.repr_of_bool (fin s.heap s.toks _ fun _ _ z => z)
  | int i => obtain ⟨t, rfl⟩ := ru; exact PySem.P.repr_of_int (of_decide_eq_true hs) (fin s.heap s.toks _ fun _ _ z => z)
  | str y => obtain ⟨t, rfl⟩ := ru; exact PySem.P.repr_of_str (fin s.heap s.toks _ fun _ _ z => z) hz
  | lst _ _ => cases ru; exact repr_of_reads' rd hs (fun z => by rw [hn] at z; cases z) gd far (fun _ _ z => z) fin hz
  | tup _ _ => cases ru; exact repr_of_reads' rd hs (fun z => by rw [hn] at z; cases z) gd far (fun _ _ z => z) fin hz
theorem a_reprD {K : PySem.W.Frag} {cm : CM} : S1 K cm (fun v H Q => rRepr K [v] H Q) reprD := fun G H v d d' Q gh v1 ho (a : Ans K cm G H d' Q) => by
  unfold reprD at ho
  split at ho
  · rename_i he
    cases ho
    have ed : d = .dic [] := by
      cases d with
      | dic ds => cases ds with
        | nil => rfl
        | cons _ _ => cases he
      | _ => cases he
    subst ed
    rcases v1 with h | ⟨p, rfl, kvs, q, r⟩
    · cases h with
      | dic q r => cases r; exact .inl ⟨_, rfl, same_rd gh q, a.now gh (.str _)⟩
    · cases r
      exact .inl ⟨p, rfl, .of q, a.now gh (.str _)⟩
  refine .inr ?_
  unfold showO at ho
  split at ho
  · rename_i c
    cases ho
    simp only [Bool.and_eq_true, decide_eq_true_eq, Bool.not_eq_true'] at c
    exact ⟨v, d.py, rfl, (v1.full gh).dp c.1, c.2.1, c.2.2.1, c.2.2.2.1, Nat.le_trans c.2.2.2.2 cap_le, a.now gh (.str _)⟩
  · cases ho
theorem d_repr {X : Cx} {C : Sc} {O : List Nat} {a : Expr} {fa : Ex} {pos p : Pos} {k : Nat} (hK : C.F.K = X.K) (gd : X.A.guards = some []) (hr : Room k X.A) (hm : X.mg "repr" = none) (ha : PE X a (tW C O fa)) (hg : Gl X "repr" := by rfl) (he : starEach [a] X.env = (false, eval a X.env) :: starEach [] X.env := by rfl) (hpl : (backTo pos (starEach [] X.env)).any (·.1) = false := by rfl) :
    PE X (.Call (.Name "repr" p) [a] [] pos) (tD C O (e1 reprD fa)) := b_1 (hK ▸ a_reprD) (pe_callB (call_reprD gd (by have := hr.un; omega)) hg hm PyProof.Rows.boot_repr (pa_cons ha pa_nil he) (by decide) (by decide) he hpl)
/-! ### the end of a law whose def asks repr -/
theorem law_callG {P : Program} {w : World} {K : PySem.W.Frag} {mg mb : Str → Option Value} {CX : CXT} {k : Nat} {fa a : Addr} {fd : FuncData} {x : Str} {sp : Sp} {s : Shared} {vs : List Value} {ns : List Int} (kIn : K.In s.heap) (hg : s.heap.Ns mainGlobals mg) (hb : s.heap.Ns builtinsNs mb) (hv : ∀ x : Str, x ≠ "__name__" → mb x = bootBuiltins x)
    (hlim : s.heap.NoLimit) (gens : s.gens = #[]) (ha : s.heap.get? a = some { cls := .type "list", data := .seq vs.toArray }) (hi : IntsAre vs ns) (hl : ns.length ≤ sizeLine) (room : Room k callerA) (F : ∀ base : Heap, K.In base → base.Ns mainGlobals mg → FnG P w K mg base CX k fa fd [x] sp)
    (bnd : ∀ (s : Shared) (u : Value), BindsTo s fd ⟨[u], []⟩ [(x, u)]) (hsp : ∀ H : Hp, Only H → SqL K H a (ns.map V.int) → sp [.ref a] H (fun v _ => v = .bl true) fun _ _ _ => False) (hCX : ∀ H e s', CX [] H s (fun _ _ _ => False) e s' → False) :
    codeAny (model P w) callerA (.call (.ref fa) ⟨[.ref a], []⟩) (fun r s' => r = .ok (.ret (.bool true)) ∧ OldK s.heap s'.heap ∧ s'.os = s.os ∧ AllBare s'.gens) s := by
  have vals := vals_ints hi
  have lens := hi.length
  have main : ∀ H : Hp, Only H → SqL K H a (ns.map V.int) → HOk P w H s.heap → (∀ b, H b ≠ none → b = a) → (H a ≠ none → K.lookup a = none) → codeAny (model P w) callerA (.call (.ref fa) ⟨[.ref a], []⟩) (fun r s' => r = .ok (.ret (.bool true)) ∧ OldK s.heap s'.heap ∧ s'.os = s.os ∧ AllBare s'.gens) s := by
    intro H only sq ok one away
    have off : ∀ {b : Addr} {o : Obj} {es : Array DictEntry} {ep : Nat}, s.heap.get? b = some o → o.data = .dict es ep → H b = none := fun {b o es ep} e d => Classical.byContradiction fun z => by
      rw [one b z, ha] at e
      cases e
      cases (show Data.seq vs.toArray _ = Data.dict es ep from d)
    have spaces : ∀ {b : Addr} {m : Str → Option Value}, s.heap.Ns b m → (hidT s.heap H).Ns b m := fun {b m} ⟨o, es, ep, e, d, r⟩ => ⟨o, es, ep, hidT_get e (off e d), d, r⟩
    have kBase : K.In (hidT s.heap H) := fun b o e => hidT_get (kIn b o e) (Classical.byContradiction fun z => by
      have z1 := one b z
      subst z1
      rw [away z] at e
      cases e)
    have modK : Mod K mg (hidT s.heap H) := ⟨kBase, spaces hg, ⟨mb, spaces hb, hv⟩, let ⟨mc, h1, h2⟩ := hlim; ⟨mc, spaces h1, h2⟩⟩
    have env : Env0 P w K mg (hidT s.heap H) callerA [] s H := ⟨rfl, modK, fun b o e => of_hidT e, Nat.le_of_eq (hidT_size _ _), trivial, fun b hb => absurd (show b ∈ ([] : List Addr) from hb) (by simp), ok, .of_eq gens⟩
    refine codeAny_mono ((F _ kBase (spaces hg)).run callerA [] s H ⟨[.ref a], []⟩ [.ref a] [.ref a] _ _ rfl room env (bnd s (.ref a)) (.cons rfl .nil) (hsp H only sq)) fun r s' hr => ?_
    rcases r with er | fl
    · exact (hCX H er s' hr).elim
    cases fl with
    | next => exact False.elim hr
    | brk => exact False.elim hr
    | cont => exact False.elim hr
    | ret u =>
      obtain ⟨v, H', os, bare, un, ok', ru, q⟩ := hr
      obtain rfl : v = .bl true := q
      obtain rfl : u = Value.bool true := ru
      refine ⟨rfl, OldK.of_keep fun b o e => ?_, os, bare⟩
      rcases only b with z | ⟨ob, xs, z⟩
      · exact un.keep b o e z (fun y => absurd (show b ∈ ([] : List Addr) from y) (by simp)) (by simp)
      · have z2 := un.frzs b ob _ z
        obtain ⟨e1, _⟩ := ok b _ z
        obtain ⟨e2, _⟩ := ok' b _ z2
        rw [e] at e1
        cases e1
        exact e2
  cases hk : K.lookup a with
  | some o =>
    have e := kIn a o hk
    rw [ha] at e
    cases e
    exact main (fun _ => none) (fun _ => .inl rfl) (.inr ⟨_, vs.toArray, _, hk, rfl, rfl, rfl, by rw [List.size_toArray, lens]; exact hl, by simpa using vals⟩) (fun b u z => nomatch (show (none : Option HO) = some u from z)) (fun b z => absurd rfl z) fun z => absurd rfl z
  | none =>
    let Hs : Hp := fun b => if b = a then some (.frz { cls := .type "list", data := .seq vs.toArray } (.lst (ns.map V.int))) else none
    have h1 : Hs a = some (.frz { cls := .type "list", data := .seq vs.toArray } (.lst (ns.map V.int))) := if_pos rfl
    have h2 : ∀ b, b ≠ a → Hs b = none := fun b z => if_neg z
    refine main Hs (fun b => ?_) (.inl (.inr ⟨_, h1⟩)) (fun b u z => ?_) (fun b z => Classical.byContradiction fun y => z (h2 b y)) fun _ => hk
    · by_cases y : b = a
      · exact .inr ⟨_, _, by rw [y]; exact h1⟩
      · exact .inl (h2 b y)
    · by_cases y : b = a
      · subst y
        rw [h1] at z
        cases z
        exact ⟨ha, by rw [List.length_map]; exact hl, vs, _, vals, ha⟩
      · rw [h2 b y] at z
        cases z
theorem walkG {l : PySem.W.OpenLaw} {n k : Nat} {q : Program} {loose : List Str} {XP : (Str → Option Value) → Heap → Prop} {YP : World → Heap → Prop} {d : DefRec} {K : Params → PySem.W.Frag} {CX : World → CXT} {sp : World → Sp} {x : Str} (hn : l.most = some n) (hn2 : n ≤ sizeLine) (hdf : d.params.defaults = []) (hr : Room k callerA)
    (hY : ∀ (w : World) (h : Heap), YP w h → (K w.params).In h) (F : ∀ (w : World) (mg : Str → Option Value) (fa : Addr) (h : Heap), (K w.params).In h → h.Ns mainGlobals mg → mg d.name = some (.ref fa) →
      ∃ fd : FuncData, (∀ (s : Shared) (u : Value), BindsTo s fd ⟨[u], []⟩ [(x, u)]) ∧ ∀ base : Heap, (K w.params).In base → base.Ns mainGlobals mg → FnG l.prog w (K w.params) mg base (CX w) k fa fd [x] (sp w))
    (hsp : ∀ (w : World) (H : Hp) (a : Addr) (ns : List Int), ns.length ≤ n → Only H → SqL (K w.params) H a (ns.map V.int) → sp w [.ref a] H (fun v _ => v = .bl true) fun _ _ _ => False)
    (hCX : ∀ (w : World) (H : Hp) (s : Shared) (e : Value) (s' : Shared), CX w [] H s (fun _ _ _ => False) e s' → False) : PySem.W.WalkO q loose XP YP l.row.toRowW d [] (fun f vs => PySem.call f vs) :=
  Att.attach_call hn hdf fun w s₀ s₁ mg mb fa o pm cd doc a vs ns G Y ho hd hcd hmg hobj hints hlen hg => by
    obtain ⟨fd, hb, hF⟩ := F w mg fa _ (hY w _ Y) G.T.g hmg
    exact law_callG (hY w _ Y) G.T.g G.T.b G.T.builtins G.T.nolimit hg hobj hints (Nat.le_trans hlen hn2) hr hF hb (fun H hO hS => hsp w H a ns hlen hO hS) fun H e s' => hCX w H s₁ e s'
end Mi

end
section
set_option Elab.async false
set_option linter.all false
set_option maxRecDepth 100000
set_option autoImplicit false
set_option maxHeartbeats 4000000
namespace Mi
open PySem PySem.Spec PyProof.Rows L2
def asc {α : Type} (d : α) : List (Str × α) → Str → α
  | [], _ => d
  | (a, x) :: r, c => if c = a then x else asc d r c
theorem asc_at {α : Type} {d x : α} {a : Str} {r : List (Str × α)} : asc d ((a, x) :: r) a = x := if_pos rfl
theorem asc_on {α : Type} {d x : α} {a c : Str} {r : List (Str × α)} {y : α} (n : ¬ c = a) (h : asc d r c = y) : asc d ((a, x) :: r) c = y := (if_neg n).trans h
def spL (K : PySem.W.Frag) (T : List (Addr × Str)) : Sp := fun vs H Q _ => ∃ (J : Hp) (a : Addr) (ns : List Int), vs = [.ref a] ∧ Sg J H ∧ TbO T H ∧ SqL K J a (ns.map V.int) ∧ ns.length ≤ 63 ∧ ∀ H', Q (.bl true) H'
section
variable {P : Program} {w : World} {K : PySem.W.Frag} {mg : Str → Option Value} {base : Heap} {CX : CXT} {k : Nat} {g : Addr} {fd : FuncData} {ps : List Str} {cm : CM} {fld : Str → Str} {f : List D → Fr}
theorem FnG.of (F : FnOk P w K mg base CX k g fd ps (spM K cm fld 1 [] f)) : FnG P w K mg base CX k g fd ps (spM K cm fld 1 [] f) := ⟨F.len, fun A outer s H args us vs Q E _ => F.run A outer s H args us vs Q E⟩
theorem law_end (F : FnG P w K mg base CX k g fd ps (spM K cm fld 1 [] f)) (hf : ∀ ns : List Int, ns.length ≤ 63 → f [.lst (ns.map .int)] = .ok (.bl true) []) : FnG P w K mg base CX k g fd ps (spL K cm.T) := by
  have sp : ∀ vs H Q E, spL K cm.T vs H Q E → spM K cm fld 1 [] f vs H Q E := fun vs H Q E ⟨J, a, ns, ev, sg, tb, hS, hl, q⟩ => by
    subst ev
    refine ⟨J, [.lst (ns.map .int)], [], rfl, rfl, callee0 sg tb (.cons (.lst hS (rps_ints ns)) .nil) rfl, ?_⟩
    rw [hf ns hl]
    exact fun v G' H' _ _ r => by
      cases r
      exact q H'
  exact ⟨fun vs H Q E h => F.len vs H Q E (sp _ _ _ _ h), fun A outer s H args us vs Q E gd r e b v h => F.run A outer s H args us vs Q E gd r e b v (sp _ _ _ _ h)⟩
theorem cx_no {P : Program} {w : World} {H : Hp} {s : Shared} {e : Value} {s' : Shared} (h : L2.CX P w [] H s (fun _ _ _ => False) e s') : False := by
  obtain ⟨_, _, _, _, _, _, _, _, _, _, _, _, z⟩ := h
  exact z
end
end Mi

end
section
set_option Elab.async false
set_option linter.all false
set_option maxRecDepth 100000
set_option autoImplicit false
set_option maxHeartbeats 4000000
/-! x.m(..), m a def of x's class -/
namespace Mi
open PySem PySem.Spec PyProof.Rows L2
def eMeth (c m : Str) (f : List D → Fr) (a : Ex) (as : List Ex) : Ex := fun δ => (a δ).bind fun x δ0 => match x with
  | .obj c' fs => if c' = c ∧ (fs.lookup m).isNone = true then (eL as δ0).bind fun ds δ1 => (match f (.obj c' fs :: ds) with
    | .ok d _ => .ok d δ1
    | .exc k d => .exc k d δ1
    | .bad => .bad) else .bad
  | _ => .bad
def tMethE (C : Addr) (m : Str) (sp : Sp) (E : L2.St → XK) (ta : TE) (t : TA) : TE := fun σ H Q => ta σ H fun x H1 => ∃ a dx fs, x = .ref a ∧ H1 a = some (.ins C dx fs) ∧ fs.lookup m = none ∧
  t σ H1 fun vs H2 => sp (x :: vs) H2 Q (E σ)
theorem Rfs.no {K : PySem.W.Frag} {cm : CM} {G : Hp} {f : Str} : ∀ {fs : List (Str × V)} {ds : List (Str × D)}, Rfs K cm G fs ds → ds.lookup f = none → fs.lookup f = none
  | _, _, .nil, _ => rfl
  | _, _, .cons (f := g) r t, h => by
    rw [List.lookup_cons] at h ⊢
    cases e : (f == g) with
    | true => rw [e] at h; cases h
    | false =>
      rw [e] at h
      exact Rfs.no t h
section
variable {X : Cx} {CX : CXT} {k j n : Nat} {g Ca : Addr} {fd : FuncData} {ps : List Str} {sp : Sp} {E : L2.St → XK} {m c : Str} {p pos apos : Pos} {e o : Expr} {es : List Expr} {ta : TE} {t : TA} {C : Sc} {O : List Nat} {fa : Ex} {fs : List Ex} {f : List D → Fr}
theorem pe_methE {pl : Sem Bool} (he : PE X o ta) (cl : Cls X.K Ca) (hm : Meth X.K Ca m g) (F : FnOk X.prog X.w X.K X.mg X.base CX k g fd ps sp) (hr : Room k X.A) (hb : Binds X.K fd ps []) (hx : ∀ σ, PassesAt CX X σ (E σ)) (ha : PA X (e :: es) t)
    (hst : starEach (e :: es) X.env = (false, eval e X.env) :: starEach es X.env := by rfl) (hpl : (backTo pos (starEach es X.env)).any (·.1) = false := by rfl)
    (ht : eval (.Call (.Attribute o m apos) (e :: es) [] pos) X.env = (do
      let ov ← eval o X.env
      standAt apos.atName
      let (f, first) ← holding [ov] (getMethod ov m pl)
      callWith pos f first (backTo pos (starEach (e :: es) X.env)) (backToKw pos (keywordEach [] X.env))) := by rfl) :
    PE X (.Call (.Attribute o m apos) (e :: es) [] pos) (tMethE Ca m sp E ta t) := by
  refine ⟨fun pins s σ H Q I h => ?_⟩
  refine PySem.W.methodCall_KW (pl := pl) (thn (he.run pins s σ H _ I h) fun u s1 ⟨x, H1, I1, rx, a, dx, fs, ex, ea, l, q⟩ => ?_) ht
  subst ex
  obtain rfl : u = Value.ref a := rx
  refine getmeth_ok I1 ea cl hm l ?_
  exact PySem.W.callWith_K (first := [.ref a]) (h₀ := X.base) I.ok.mod.kin hm.kp (thn (ha.run pos pins s1 σ H1 _ I1 q) fun us s2 ⟨vs, H2, I2, r, q2⟩ => ⟨I2.kIn, run_fnS (us := .ref a :: us) (vs := .ref a :: vs) F hr hb (hx σ) I2 (.cons rfl r) q2⟩) hst hpl
theorem pe_meth0E {pl : Sem Bool} (he : PE X o ta) (cl : Cls X.K Ca) (hm : Meth X.K Ca m g) (F : FnOk X.prog X.w X.K X.mg X.base CX k g fd ps sp) (hr : Room k X.A) (hb : Binds X.K fd ps []) (hx : ∀ σ, PassesAt CX X σ (E σ))
    (ht : eval (.Call (.Attribute o m apos) [] [] pos) X.env = (do
      let ov ← eval o X.env
      standAt apos.atName
      let (f, first) ← holding [ov] (getMethod ov m pl)
      callWith pos f first (backTo pos (starEach [] X.env)) (backToKw pos (keywordEach [] X.env))) := by rfl) :
    PE X (.Call (.Attribute o m apos) [] [] pos) (tMethE Ca m sp E ta tNil) := by
  refine ⟨fun pins s σ H Q I h => ?_⟩
  refine PySem.W.methodCall_KW (pl := pl) (thn (he.run pins s σ H _ I h) fun u s1 ⟨x, H1, I1, rx, a, dx, fs, ex, ea, l, q⟩ => ?_) ht
  subst ex
  obtain rfl : u = Value.ref a := rx
  refine getmeth_ok I1 ea cl hm l ?_
  exact PySem.W.callWith_K0 (first := [.ref a]) I1.kIn hm.kp (run_fnS (us := [.ref a]) (vs := [.ref a]) F hr hb (hx σ) I1 (.cons rfl .nil) q)
theorem r_meth {σ : L2.St} {H : Hp} {Q : VK} (hn : fs.length + 1 = n) (h : tD C O (eMeth c m f fa fs) σ H Q) : tMethE (C.F.cm c) m (spM C.F.K C.F.cm C.fld n [] f) (WE C.W) (tD C O fa) (tA C O (eL fs)) σ H Q := by
  obtain ⟨G, δ, st, mm⟩ := h
  refine ⟨G, δ, st, ?_⟩
  unfold eMeth at mm
  cases e0 : fa δ with
  | exc k d δ1 => rw [e0] at mm; exact mm
  | bad => rw [e0] at mm; exact mm
  | ok x δ0 =>
    rw [e0, Res.bind_ok] at mm
    intro v0 G0 H0 s0 st0 rv0
    cases rv0 with
    | @obj a dx hfs c' ofs h1 h2 rf =>
      simp only at mm
      by_cases hc : c' = c ∧ (ofs.lookup m).isNone = true
      case neg => rw [if_neg hc] at mm; exact mm.elim
      rw [if_pos hc] at mm
      obtain ⟨rfl, hno⟩ := hc
      refine ⟨a, dx, hfs, rfl, st0.gh _ _ h1, Rfs.no rf (by simpa using hno), G0, δ0, st0, ?_⟩
      cases e : eL fs δ0 with
      | exc k d δ1 => rw [e] at mm; exact fun G1 H1 cls dd => mm G1 H1 cls dd
      | bad => rw [e] at mm; exact mm
      | ok ds δ1 =>
        rw [e, Res.bind_ok] at mm
        intro vs G1 H1 s1 st1 rv
        have hl : (V.ref a :: vs).length = n := by rw [List.length_cons, rv.length, eL_length e, hn]
        have ro : Rp C.F.K C.F.cm G1 (.ref a) (.obj c' ofs) := (Rp.obj h1 h2 rf).mono s1.g
        refine ⟨G1, .obj c' ofs :: ds, [], hl, rfl, callee0 st1.gh st1.tabs (.cons ro rv) hl, ?_⟩
        cases ef : f (.obj c' ofs :: ds) with
        | ok d outs =>
          rw [ef] at mm
          exact fun v G2 H2 ex _ r => mm v G2 H2 ((s0.thn s1).and ex) (st1.step ex) r
        | exc k d =>
          rw [ef] at mm
          exact fun G2 H2 cls dd ex x => mm G2 H2 cls dd (st1.step ex) x
        | bad => rw [ef] at mm; exact mm.elim
    | _ => exact mm.elim
/-- .. with arguments -/
theorem d_meth {pl : Sem Bool} (x : MtC X.prog X.w X.K X.mg X.base C.F.cm C.fld c m k n [] f) (cl : Cls X.K (C.F.cm c)) (hK : C.F.K = X.K) (hr : Room j X.A) (hk : k ≤ j) (tk : Takes X C.W) (he : PE X o (tD C O fa)) (ha : PA X (e :: es) (tA C O (eL fs))) (hn : fs.length + 1 = n)
    (hst : starEach (e :: es) X.env = (false, eval e X.env) :: starEach es X.env := by rfl) (hpl : (backTo pos (starEach es X.env)).any (·.1) = false := by rfl)
    (ht : eval (.Call (.Attribute o m apos) (e :: es) [] pos) X.env = (do
      let ov ← eval o X.env
      standAt apos.atName
      let (f, first) ← holding [ov] (getMethod ov m pl)
      callWith pos f first (backTo pos (starEach (e :: es) X.env)) (backToKw pos (keywordEach [] X.env))) := by rfl) :
    PE X (.Call (.Attribute o m apos) (e :: es) [] pos) (tD C O (eMeth c m f fa fs)) := by
  obtain ⟨g, fd, ps, F, h1, h2, h3, h4, hb⟩ := x.ex
  rw [← hK] at F
  exact pe_imp (pe_methE (pl := pl) he cl ⟨h1, h2, h3⟩ (hK ▸ F) (hr.mono hk) hb (fun σ => passAt tk σ) ha hst hpl ht) fun σ H Q h => r_meth hn h
/-- .. without -/
theorem d_meth0 {pl : Sem Bool} (x : MtC X.prog X.w X.K X.mg X.base C.F.cm C.fld c m k 1 [] f) (cl : Cls X.K (C.F.cm c)) (hK : C.F.K = X.K) (hr : Room j X.A) (hk : k ≤ j) (tk : Takes X C.W) (he : PE X o (tD C O fa))
    (ht : eval (.Call (.Attribute o m apos) [] [] pos) X.env = (do
      let ov ← eval o X.env
      standAt apos.atName
      let (f, first) ← holding [ov] (getMethod ov m pl)
      callWith pos f first (backTo pos (starEach [] X.env)) (backToKw pos (keywordEach [] X.env))) := by rfl) :
    PE X (.Call (.Attribute o m apos) [] [] pos) (tD C O (eMeth c m f fa [])) := by
  obtain ⟨g, fd, ps, F, h1, h2, h3, h4, hb⟩ := x.ex
  rw [← hK] at F
  refine pe_imp (pe_meth0E (pl := pl) he cl ⟨h1, h2, h3⟩ (hK ▸ F) (hr.mono hk) hb (fun σ => passAt tk σ) ht) fun σ H Q h => ?_
  obtain ⟨G, δ, st, q⟩ := r_meth (fs := []) (n := 1) rfl h
  refine ⟨G, δ, st, ?_⟩
  cases e0 : fa δ with
  | exc k d δ1 => rw [e0] at q; exact q
  | bad => rw [e0] at q; exact q
  | ok y δ0 =>
    rw [e0] at q
    intro v0 G0 H0 s0 st0 rv0
    obtain ⟨a, dx, hfs, q1, q2, q3, G1, δ1, st1, q4⟩ := q v0 G0 H0 s0 st0 rv0
    have q5 : spM C.F.K C.F.cm C.fld 1 [] f [v0] H0 Q (WE C.W σ) := q4 [] G1 H0 (Ext.refl st1.gh) st1 .nil
    rw [hK] at q5
    exact ⟨a, dx, hfs, q1, q2, q3, q5⟩
end
end Mi

end
section
set_option Elab.async false
set_option linter.all false
set_option maxRecDepth 100000
set_option autoImplicit false
set_option maxHeartbeats 4000000
/-! dicts whose keys are ints and texts -/
namespace Mi
open PySem PySem.Spec PyProof.Rows L2
def keyD : D → Option Key
  | .int i => some (.inl i)
  | .str x => some (.inr x)
  | _ => none
/-- the value at a key -/
def valD : List (D × D) → Key → Option D
  | [], _ => none
  | (q, d) :: r, k => if keyD q = some k then some d else valD r k
theorem keyD_kD (k : Key) : keyD (kD k) = some k := by cases k <;> rfl
theorem keyD_v {K : PySem.W.Frag} {cm : CM} {G : Hp} {v : V} {d : D} {k : Key} (r : Rp K cm G v d) (h : keyD d = some k) : v = kV k := by
  cases r <;> simp [keyD] at h <;> subst h <;> rfl
theorem valD_rel {K : PySem.W.Frag} {cm : CM} {G : Hp} {k : Key} : ∀ {kvs : List (Key × V)} {ds : List (D × D)}, Rks K cm G kvs ds → (∀ d, valD ds k = some d → ∃ v, valV kvs k = some v ∧ Rp K cm G v d) ∧ (valD ds k = none → valV kvs k = none)
  | _, _, .nil => ⟨fun d (h : (none : Option D) = some d) => (nomatch h), fun _ => rfl⟩
  | _, _, .cons (k := q) (v := v) (d := d) r t => by
    obtain ⟨a, b⟩ := valD_rel (k := k) t
    by_cases e : q = k
    · have e1 : keyD (kD q) = some k := by rw [e, keyD_kD]
      refine ⟨fun d' h => ?_, fun h => ?_⟩
      · unfold valD at h
        rw [if_pos e1] at h
        cases h
        exact ⟨v, valV_pos e, r⟩
      · unfold valD at h
        rw [if_pos e1] at h
        cases h
    · have e1 : ¬ keyD (kD q) = some k := by rw [keyD_kD]; exact fun z => e (Option.some.inj z)
      refine ⟨fun d' h => ?_, fun h => ?_⟩
      · unfold valD at h
        rw [if_neg e1] at h
        obtain ⟨v', h1, h2⟩ := a d' h
        exact ⟨v', (valV_neg e).trans h1, h2⟩
      · unfold valD at h
        rw [if_neg e1] at h
        exact (valV_neg e).trans (b h)
theorem valD_some {K : PySem.W.Frag} {cm : CM} {G : Hp} {k : Key} {kvs : List (Key × V)} {ds : List (D × D)} (r : Rks K cm G kvs ds) : (valV kvs k).isSome = (valD ds k).isSome := by
  obtain ⟨a, b⟩ := valD_rel (k := k) r
  cases h : valD ds k with
  | none => rw [b h]; rfl
  | some d =>
    obtain ⟨v, h1, _⟩ := a d h
    rw [h1]
    rfl
/-- a dict that is looked into -/
theorem Vw.dic {K : PySem.W.Frag} {cm : CM} {G H : Hp} {v : V} {ds : List (D × D)} (gh : Same G H) (h : Vw K cm G H v (.dic ds)) : ∃ a kvs, v = .ref a ∧ Rd H a (.dK kvs) ∧ Rks K cm G kvs ds := by
  rcases h with h | ⟨a, rfl, h⟩
  · cases h with
    | dic h r =>
      refine ⟨_, _, rfl, ?_, r⟩
      rcases h with h | ⟨o, h⟩
      · exact .inl (gh _ _ h)
      · exact .inr ⟨o, gh _ _ h⟩
  · obtain ⟨kvs, q, r⟩ := h
    exact ⟨a, kvs, rfl, .inl q, r⟩
theorem Vw.key {K : PySem.W.Frag} {cm : CM} {G H : Hp} {v : V} {d : D} {k : Key} (h : Vw K cm G H v d) (hk : keyD d = some k) : v = kV k := by
  rcases h with h | ⟨a, rfl, h⟩
  · exact keyD_v h hk
  · cases d <;> first | exact h.elim | simp [keyD] at hk
section
variable {K : PySem.W.Frag} {cm : CM}
/-- x in d -/
def dinO (x y : D) : Option Bool := match y with
  | .dic ds => (keyD x).map fun k => (valD ds k).isSome
  | _ => none
def dinD (x y : D) : Option D := (dinO x y).map .bl
def dninD (x y : D) : Option D := (dinO x y).map fun b => .bl (!b)
def rDin (f : Bool → Bool) : R2 := fun x y H Q => ∃ a o, y = .ref a ∧ DGet H a x o ∧ Q (.bl (f o.isSome)) H
theorem din_of {G H : Hp} {v w : V} {d e : D} {b : Bool} (gh : Same G H) (v1 : Vw K cm G H v d) (v2 : Vw K cm G H w e) (h : dinO d e = some b) : ∃ a o, w = .ref a ∧ DGet H a v o ∧ o.isSome = b := by
  unfold dinO at h
  cases e with
  | dic ds =>
    obtain ⟨k, hk, rfl⟩ := Option.map_eq_some_iff.mp h
    obtain ⟨a, kvs, rfl, hd, r⟩ := v2.dic gh
    exact ⟨a, _, rfl, .inl ⟨kvs, k, hd, v1.key hk, rfl⟩, valD_some r⟩
  | _ => cases h
theorem a_din : S2 K cm (rDin id) dinD := fun G H v w d e d' Q gh v1 v2 ho (a : Ans K cm G H d' Q) => by
  obtain ⟨b, hb, rfl⟩ := Option.map_eq_some_iff.mp ho
  obtain ⟨p, o, h1, h2, rfl⟩ := din_of gh v1 v2 hb
  exact ⟨p, o, h1, h2, a.now gh (.bl _)⟩
theorem a_dnin : S2 K cm (rDin not) dninD := fun G H v w d e d' Q gh v1 v2 ho (a : Ans K cm G H d' Q) => by
  obtain ⟨b, hb, rfl⟩ := Option.map_eq_some_iff.mp ho
  obtain ⟨p, o, h1, h2, rfl⟩ := din_of gh v1 v2 hb
  exact ⟨p, o, h1, h2, a.now gh (.bl _)⟩
/-- d[k] -/
def dgetD (x y : D) : Option D := match x with
  | .dic ds => (keyD y).bind fun k => valD ds k
  | _ => none
def rDget : R2 := fun x y H Q => ∃ a v, x = .ref a ∧ DGet H a y (some v) ∧ Q v H
theorem a_dget : S2 K cm rDget dgetD := fun G H v w d e d' Q gh v1 v2 ho (a : Ans K cm G H d' Q) => by
  unfold dgetD at ho
  cases d with
  | dic ds =>
    obtain ⟨k, hk, hv⟩ := Option.bind_eq_some_iff.mp ho
    obtain ⟨p, kvs, rfl, hd, r⟩ := v1.dic gh
    obtain ⟨u, hu, ru⟩ := (valD_rel r).1 d' hv
    exact ⟨p, u, rfl, .inl ⟨kvs, k, hd, v2.key hk, hu.symm⟩, a.now gh ru⟩
  | _ => cases ho
/-- sorted(d), list(d) -/
def keysI (ds : List (D × D)) : Option (List Int) := intsO (ds.map (·.1))
def dsortD (d : D) : Option D := match d with
  | .dic ds => (keysI ds).bind fun ks => if ks.length < 64 then some (.lst ((isort ks).map .int)) else none
  | _ => none
def dlistD (d : D) : Option D := match d with
  | .dic ds => some (.lst (ds.map (·.1)))
  | _ => none
theorem keys_int {K : PySem.W.Frag} {cm : CM} {G : Hp} : ∀ {kvs : List (Key × V)} {ds : List (D × D)} {ks : List Int}, Rks K cm G kvs ds → keysI ds = some ks → kvs.map (·.1) = ks.map Sum.inl
  | _, _, ks, .nil, h => by
    have e : (some [] : Option (List Int)) = some ks := h
    cases e
    rfl
  | _, _, ks, .cons (k := q) (vs := vs) (ds := ds) r t, h => by
    cases q with
    | inr x => cases (show (none : Option (List Int)) = some ks from h)
    | inl i =>
      obtain ⟨ks', h1, rfl⟩ := Option.map_eq_some_iff.mp (show (keysI ds).map (i :: ·) = some ks from h)
      rw [List.map_cons, List.map_cons, keys_int t h1]
theorem keys_rp {K : PySem.W.Frag} {cm : CM} {G : Hp} : ∀ {kvs : List (Key × V)} {ds : List (D × D)}, Rks K cm G kvs ds → Rps K cm G (kvs.map fun kv => kV kv.1) (ds.map (·.1))
  | _, _, .nil => .nil
  | _, _, .cons (k := .inl i) r t => .cons (.int i) (keys_rp t)
  | _, _, .cons (k := .inr x) r t => .cons (.str x) (keys_rp t)
theorem a_dsort : N1 K cm (fun v H Q => ∃ (a : Addr) (kvs : List (Key × V)) (ks : List Int), [v] = [.ref a] ∧ Rd H a (.dK kvs) ∧ kvs.map (·.1) = ks.map Sum.inl ∧ ks.length < 64 ∧
    ∀ (ys : List Int) (p : Addr), ys.Perm ks → ys.Pairwise (· ≤ ·) → H p = none → Q (.ref p) (upd H p (.lst (ys.map V.int)))) dsortD := fun G H v d d' Q gh v1 ho a => by
  unfold dsortD at ho
  cases d with
  | dic ds =>
    obtain ⟨ks, hk, h2⟩ := Option.bind_eq_some_iff.mp ho
    by_cases h64 : ks.length < 64
    case neg => rw [if_neg h64] at h2; cases h2
    rw [if_pos h64] at h2
    cases h2
    obtain ⟨p, kvs, rfl, hd, r⟩ := v1.dic gh
    refine ⟨p, kvs, ks, rfl, hd, keys_int r hk, h64, fun ys q hp hs hq => a q _ hq ?_⟩
    rw [isort_unique hp hs]
    exact ⟨_, upd_same, rps_ints _⟩
  | _ => cases ho
theorem a_dlist : N1 K cm (fun v H Q => ∃ (a : Addr) (kvs : List (Key × V)), [v] = [.ref a] ∧ Rd H a (.dK kvs) ∧ ∀ p, H p = none → Q (.ref p) (upd H p (.lst (kvs.map fun kv => kV kv.1)))) dlistD := fun G H v d d' Q gh v1 ho a => by
  unfold dlistD at ho
  cases d with
  | dic ds =>
    cases ho
    obtain ⟨p, kvs, rfl, hd, r⟩ := v1.dic gh
    exact ⟨p, kvs, rfl, hd, fun q hq => a q _ hq ⟨_, upd_same, keys_rp r⟩⟩
  | _ => cases ho
end
/-- d[k] = v in the pairs -/
def hasK (ds : List (D × D)) (k : Key) : Bool := ds.any fun p => decide ((keyD p.1) = some k)
def putM (ds : List (D × D)) (k : Key) (d : D) : List (D × D) := if hasK ds k = true then ds.map (fun p => if keyD p.1 = some k then (p.1, d) else p) else ds ++ [(kD k, d)]
theorem hasK_rel {K : PySem.W.Frag} {cm : CM} {G : Hp} {k : Key} : ∀ {kvs : List (Key × V)} {ds : List (D × D)}, Rks K cm G kvs ds → (kvs.any fun kv => decide (kv.1 = k)) = hasK ds k
  | _, _, .nil => rfl
  | _, _, .cons (k := q) r t => by
    unfold hasK
    rw [List.any_cons, List.any_cons, hasK_rel t, keyD_kD]
    unfold hasK
    by_cases e : q = k <;> simp [e]
theorem Rks.app1 {K : PySem.W.Frag} {cm : CM} {G : Hp} {k : Key} {v : V} {d : D} (rv : Rp K cm G v d) : ∀ {kvs : List (Key × V)} {ds : List (D × D)}, Rks K cm G kvs ds → Rks K cm G (kvs ++ [(k, v)]) (ds ++ [(kD k, d)])
  | _, _, .nil => .cons rv .nil
  | _, _, .cons r t => .cons r (Rks.app1 rv t)
theorem Rks.rep {K : PySem.W.Frag} {cm : CM} {G : Hp} {k : Key} {v : V} {d : D} (rv : Rp K cm G v d) : ∀ {kvs : List (Key × V)} {ds : List (D × D)}, Rks K cm G kvs ds → Rks K cm G (kvs.map fun kv => if kv.1 = k then (kv.1, v) else kv) (ds.map fun p => if keyD p.1 = some k then (p.1, d) else p)
  | _, _, .nil => .nil
  | _, _, .cons (k := q) (v := v0) (d := d0) r t => by
    have ih := Rks.rep (k := k) rv t
    rw [List.map_cons, List.map_cons]
    by_cases e : q = k
    · rw [if_pos (show (q, v0).1 = k from e), if_pos (show keyD (kD q, d0).1 = some k by rw [← e]; exact keyD_kD q)]
      exact .cons rv ih
    · rw [if_neg (show ¬ (q, v0).1 = k from e), if_neg (show ¬ keyD (kD q, d0).1 = some k from fun z => e (Option.some.inj ((keyD_kD q).symm.trans z)))]
      exact .cons r ih
theorem Rks.put {K : PySem.W.Frag} {cm : CM} {G : Hp} {k : Key} {v : V} {d : D} {kvs : List (Key × V)} {ds : List (D × D)} (r : Rks K cm G kvs ds) (rv : Rp K cm G v d) : Rks K cm G (putK kvs k v) (putM ds k d) := by
  unfold putK putM
  rw [hasK_rel r]
  split
  · exact Rks.rep rv r
  · exact Rks.app1 rv r
theorem Rks.len {K : PySem.W.Frag} {cm : CM} {G : Hp} : ∀ {kvs : List (Key × V)} {ds : List (D × D)}, Rks K cm G kvs ds → kvs.length = ds.length
  | _, _, .nil => rfl
  | _, _, .cons _ t => by rw [List.length_cons, List.length_cons, Rks.len t]
/-- x[k] = e, x the def's own dict in slot i -/
noncomputable def sSetK (i : Nat) (k e : Ex) : Sm := fun δ => (e δ).out fun v δ1 => (k δ1).out fun kk δ2 => (eV i δ2).out fun x δ3 => match x, keyD kk with
  | .dic ds, some q => if ds.length < cap then .nx (δ3.set i (some (.dic (putM ds q v)))) else .bad
  | _, _ => .bad
section
variable {X : Cx} {C : Sc} {O : List Nat} {a b : Expr} {fa fb : Ex} {pos p : Pos} {i : Nat} {x : Str}
theorem s_setK {sp : Pos} (hi : i ∈ O) (h : PS X (.Assign [.Subscript (.Name x p) b sp] a pos) (sDPut (tVar i) (tD C O fb) (tD C O fa))) (hx : C.XO O := by trivial) :
    PS X (.Assign [.Subscript (.Name x p) b sp] a pos) (tS C O O (sSetK i fb fa)) := ps_imp h fun D σ H ⟨G, δ, st, m⟩ => by
  unfold sSetK at m
  refine r_out hx st m fun d v G1 H1 δ1 s1 st1 rv m1 => ?_
  obtain ⟨l, _, e1, _, _, _⟩ := st1.ownL hi
  refine ⟨_, e1, ?_⟩
  refine r_out hx st1 m1 fun k w G2 H2 δ2 s2 st2 rw2 m2 => ?_
  obtain ⟨l', d', e1', ev, na, o⟩ := st2.ownL hi
  rw [e1] at e1'
  cases e1'
  rw [ev, Res.out_ok] at m2
  cases d' with
  | dic ds =>
    cases hk : keyD k with
    | none => simp only [hk] at m2; exact m2.elim
    | some q =>
      simp only [hk] at m2
      obtain ⟨kvs, hq, r⟩ := o
      by_cases hc : ds.length < cap
      case neg => rw [if_neg hc] at m2; exact m2.elim
      rw [if_pos hc] at m2
      obtain ⟨st3, ex⟩ := st2.mut (u := .dK (putK kvs q v)) hi e1 na (by rw [hq]; simp) (d := .dic (putM ds q d)) ⟨_, upd_same, r.put (rv.mono s2.g)⟩
      exact ⟨l, _, rfl, .inl ⟨kvs, q, hq, keyD_v rw2 hk, by rw [r.len]; exact Nat.lt_trans hc cap_line, rfl⟩, m2 σ G2 _ (.refl G2) st3⟩
  | _ => exact m2.elim
end
end Mi

end
section
set_option Elab.async false
set_option linter.all false
set_option maxRecDepth 100000
set_option autoImplicit false
set_option maxHeartbeats 4000000
/-! {k: v for ..} -/
namespace Mi
open PySem PySem.Spec PyProof.Rows L2
theorem putM_len (ys : List (D × D)) (q : Key) (z : D) : (putM ys q z).length ≤ ys.length + 1 := by
  unfold putM
  split <;> simp
def dcL (t : Tg) (own : List Nat) (c : Option Ex) (k e : Ex) : List D → List (D × D) → Env → Res (List (D × D))
  | [], acc => fun δ => .ok acc δ
  | d :: ds, acc => fun δ => match t.put d (wipeE δ own) with
    | none => .bad
    | some δ1 => match tstC c δ1 with
      | .ok (.bl true) δ2 => (match k δ2 with
        | .ok x δ3 => (match keyD x, e δ3 with
          | some q, .ok y δ4 => dcL t own c k e ds (putM acc q y) δ4
          | _, _ => .bad)
        | _ => .bad)
      | .ok (.bl false) δ2 => dcL t own c k e ds acc δ2
      | _ => .bad
noncomputable def eDc (it : ItE) (t : Tg) (own : List Nat) (c : Option Ex) (k e : Ex) : Ex := fun δ => (it δ).bind fun ds δ1 => if ds.length ≤ cap then
    (match dcL t own c k e ds [] δ1 with
    | .ok xs δ2 => .ok (.dic xs) (restE δ1 own δ2)
    | _ => .bad)
  else .bad
section
variable {J : It} {n : Nat} {G : Hp → Prop} {Y : Nat → Hp → V → Hp → Prop}
theorem dc_it (w : Walk J n G Y) {g : TG} {tt : TT} {tk te : TE} {vs : List Nat} {σ : L2.St} {H1 : Hp} {D : Addr} {Qd : Hp → Prop} (Pv : Nat → Hp → Prop) (h0 : Pv 0 (upd H1 D (.dK []))) (hG : ∀ i H, i ≤ n → Pv i H → G H)
    (hs : ∀ i x H H', i < n → Pv i H → Y i H x H' → g x (L2.wipe σ vs) H' fun σ2 H2 => L2.wipe σ2 vs = L2.wipe σ vs ∧ tt σ2 H2 fun b H3 =>
      if b = true then tk σ2 H3 fun y H4 => te σ2 H4 fun z H5 => ∃ kvs k, y = kV k ∧ H5 D = some (.dK kvs) ∧ kvs.length < sizeLine ∧ Pv (i + 1) (upd H5 D (.dK (putK kvs k z))) else Pv (i + 1) H3) (hd : ∀ H, Pv n H → Qd H) :
    ∃ W : Nat → Nat → Hp → Prop, (∃ m, W 0 m (upd H1 D (.dK []))) ∧ ∀ i m H, W i m H →
      (J.stop i H ∧ Qd H) ∨ (J.go i H ∧ ∃ Nx : Hp → Prop, (∀ H', Nx H' → ∃ m', m' < m ∧ W (i + 1) m' H') ∧ ∀ x H', J.yld i H x H' → g x (L2.wipe σ vs) H' fun σ2 H2 => L2.wipe σ2 vs = L2.wipe σ vs ∧ tt σ2 H2 fun b H3 =>
        if b = true then tk σ2 H3 fun y H4 => te σ2 H4 fun z H5 => ∃ kvs k, y = kV k ∧ H5 D = some (.dK kvs) ∧ kvs.length < sizeLine ∧ Nx (upd H5 D (.dK (putK kvs k z))) else Nx H3) := by
  refine ⟨fun i m H => m = n - i ∧ i ≤ n ∧ Pv i H, ⟨n, by simp, Nat.zero_le _, h0⟩, ?_⟩
  rintro i m H ⟨rfl, hi, p⟩
  have q := hG i H hi p
  by_cases hlt : i < n
  · exact .inr ⟨w.goes i H hlt q, Pv (i + 1), fun H' p' => ⟨n - (i + 1), by omega, rfl, hlt, p'⟩, fun x H' y => hs i x H H' hlt p (w.yields i H x H' hlt q y)⟩
  · have e : i = n := by omega
    subst e
    exact .inl ⟨w.stops H q, hd H p⟩
end
section
variable {X : Cx} {C : Sc} {O : List Nat} {fe : Ex}
theorem n_dc_r {bq : Bool} {wi : TI} {g : TG} {tt : TT} {tk te : TE} {fk : Ex} {t : Tg} {vs : List Nat} {c : Option Ex} {it : ItE} (hi : ∀ σ H R, tI bq C O it σ H R → wi σ H R) (ht : GT bq C O t g) (hd : ∀ v ∈ vs, v ∉ O) (hg : GW vs g)
    (htt : ∀ (σ : L2.St) (H : Hp) (Q : Bool → Hp → Prop) (G : Hp) (δ : Env), Stt C.F O G H σ δ → Pb C.blk O G H σ Q (tstC c δ) → tt σ H Q)
    (htk : ∀ (σ : L2.St) (H : Hp) (Q : VK), tD C.blk O fk σ H Q → tk σ H Q) (hte : ∀ (σ : L2.St) (H : Hp) (Q : VK), tD C.blk O fe σ H Q → te σ H Q) : ∀ (σ : L2.St) (H : Hp) (Q : VK), tN C O (eDc it t vs c fk fe) σ H Q → tDc wi g tt tk te vs σ H Q := fun σ H Q ⟨G, δ, st, m⟩ => by
  refine hi _ _ _ ⟨G, δ, st, ?_⟩
  unfold eDc at m
  cases e : it δ with
  | exc c d δ1 => rw [e] at m; exact m
  | bad => rw [e] at m; exact m
  | ok ds δ1 =>
    rw [e, Res.bind_ok] at m
    by_cases hcap : ds.length ≤ cap
    case neg => rw [if_neg hcap] at m; exact m.elim
    rw [if_pos hcap] at m
    intro J G1 H1 s1 st1 wk Dn hDn
    obtain ⟨f1, f2, f3, f4⟩ := fresh_facts (u := .dK []) st1 hDn
    have hpn : H Dn = none := s1.back hDn
    -- the end, told of what is made so far
    let Fin : Hp → Hp → Res (List (D × D)) → Prop := fun G H r => match r with
      | .ok xs δ2 => ∀ G' H', Ext C.F.cm.T (ownS O σ) G1 H1 G' H' → Stt C.F O G' H' (L2.wipe σ vs) (wipeE δ2 vs) → G' Dn = none → OwnAt C.F.K C.F.cm G' H' Dn (.dic xs) → Q (.ref Dn) H'
      | _ => False
    have fin0 : Fin G1 H1 (dcL t vs c fk fe ds [] δ1) := by
      show match dcL t vs c fk fe ds [] δ1 with | .ok xs δ2 => _ | _ => _
      cases er : dcL t vs c fk fe ds [] δ1 with
      | ok xs δ2 =>
        rw [er] at m
        exact fun G' H' s2 st2 n o => m Dn G' H' (s1.thn s2) (st1.unwipe st2 s2.g hd) n hpn o
      | exc c d δ2 => rw [er] at m; exact m
      | bad => rw [er] at m; exact m
    have sig : ∀ {σ' : L2.St}, L2.wipe σ' vs = L2.wipe σ vs → ownS O σ' = ownS O σ := fun {σ'} h => by
      have key : ∀ O' : List Nat, (∀ i ∈ O', i ∈ O) → ownS O' σ' = ownS O' σ := by
        intro O'
        induction O' with
        | nil => intro _; rfl
        | cons i r ih =>
          intro hr
          have hv : i ∉ vs := fun z => hd i z (hr i List.mem_cons_self)
          have e : σ'[i]? = σ[i]? := by rw [← wipeS_out (σ := σ') hv, h, wipeS_out hv]
          have ih := ih fun j hj => hr j (List.mem_cons_of_mem _ hj)
          unfold ownS at ih ⊢
          rw [List.filterMap_cons, List.filterMap_cons, e, ih]
      exact key O fun _ h => h
    have hDo : Dn ∉ ownS O σ := fun z => by
      obtain ⟨i, hi, e⟩ := mem_ownS.mp z
      exact f4 i hi e
    refine dc_it wk (fun i H => ∃ G δ ys acc, Stt C.F O G H (L2.wipe σ vs) (wipeE δ vs) ∧ Ext C.F.cm.T (ownS O σ) G1 H1 G H ∧ G Dn = none ∧ H Dn = some (.dK acc) ∧ Rks C.F.K C.F.cm G acc ys ∧ ys.length ≤ i ∧ Fin G H (dcL t vs c fk fe (ds.drop i) ys δ))
      ⟨G1, δ1, [], [], f1.wipe hd, (Ext.refl st1.gh).and (Ext.fresh st1.gh hDn), f2, upd_same, .nil, Nat.le_refl _, fin0⟩ (fun i H _ ⟨G, _, _, _, st, s, _⟩ => s.g.trans st.gh) ?_ ?_
    · rintro i x H2 H3 hlt ⟨G2, δ2, ys, acc, st2, s2, n2, hD2, ra, hys, fin⟩ y
      obtain ⟨G3, d, hdi, ex, rv⟩ := y G2 s2.g st2.gh
      have hdrop : ds.drop i = d :: ds.drop (i + 1) := by
        rw [List.drop_eq_getElem_cons hlt]
        congr
        have := List.getElem?_eq_getElem hlt
        rw [hdi] at this
        exact (Option.some.inj this).symm
      rw [hdrop] at fin
      unfold dcL at fin
      have st3 := st2.step ex
      have n3 : G3 Dn = none := (ex.new Dn (by rw [hD2]; simp)).trans n2
      have hD3 : H3 Dn = some (.dK acc) := ex.keep Dn _ hD2 (by simp) (nc_dK (a := Dn)).1
      have s3 := s2.and ex
      cases et : t.put d (wipeE δ2 vs) with
      | none => simp only [et] at fin; exact fin.elim
      | some δ3 =>
        simp only [et] at fin
        have turn : g x (L2.wipe σ vs) H3 (fun σ' H' => L2.wipe σ' vs = L2.wipe (L2.wipe σ vs) vs → tt σ' H' fun b H5 =>
            if b = true then tk σ' H5 fun yk H6 => te σ' H6 fun y H7 => ∃ acc q, yk = kV q ∧ H7 Dn = some (.dK acc) ∧ acc.length < sizeLine ∧ ∃ G δ ys acc', Stt C.F O G (upd H7 Dn (.dK (putK acc q y))) (L2.wipe σ vs) (wipeE δ vs) ∧ Ext C.F.cm.T (ownS O σ) G1 H1 G (upd H7 Dn (.dK (putK acc q y))) ∧ G Dn = none ∧
              (upd H7 Dn (.dK (putK acc q y))) Dn = some (.dK acc') ∧ Rks C.F.K C.F.cm G acc' ys ∧ ys.length ≤ i + 1 ∧ Fin G (upd H7 Dn (.dK (putK acc q y))) (dcL t vs c fk fe (ds.drop (i + 1)) ys δ)
            else ∃ G δ ys acc, Stt C.F O G H5 (L2.wipe σ vs) (wipeE δ vs) ∧ Ext C.F.cm.T (ownS O σ) G1 H1 G H5 ∧ G Dn = none ∧ H5 Dn = some (.dK acc) ∧ Rks C.F.K C.F.cm G acc ys ∧ ys.length ≤ i + 1 ∧ Fin G H5 (dcL t vs c fk fe (ds.drop (i + 1)) ys δ)) := by
          refine ht x d _ H3 G3 _ δ3 _ st3 rv et fun σ' st4 wz => ?_
          rw [wipeS_idem] at wz
          have so := sig wz
          have back : ∀ {G' H' : Hp} {δ' : Env}, Stt C.F O G' H' σ' δ' → Stt C.F O G' H' (L2.wipe σ vs) (wipeE δ' vs) := fun {G' H' δ'} z => by rw [← wz]; exact z.wipe hd
          refine htt σ' H3 _ G3 δ3 st4 ?_
          cases ec : tstC c δ3 with
          | exc _ _ _ => rw [ec] at fin; exact fin.elim
          | bad => rw [ec] at fin; exact fin.elim
          | ok db δ4 =>
            rw [ec] at fin
            cases db with
            | bl b =>
              refine ⟨b, rfl, fun G5 H5 s5 st5 => ?_⟩
              rw [so] at s5
              have n5 : G5 Dn = none := (s5.new Dn (by rw [hD3]; simp)).trans n3
              have hD5 : H5 Dn = some (.dK acc) := s5.keep Dn _ hD3 hDo (nc_dK (a := Dn)).1
              cases b with
              | false =>
                rw [if_neg Bool.false_ne_true]
                exact ⟨G5, δ4, ys, acc, back st5, s3.thn s5, n5, hD5, ra.mono (ex.g.trans s5.g), Nat.le_succ_of_le hys, fin⟩
              | true =>
                rw [if_pos rfl]
                simp only at fin
                refine htk _ _ _ ⟨G5, δ4, st5, ?_⟩
                cases ek : fk δ4 with
                | exc _ _ _ => rw [ek] at fin; exact fin.elim
                | bad => rw [ek] at fin; exact fin.elim
                | ok kd δ5 =>
                rw [ek] at fin
                simp only at fin
                intro vk G6 H6 s6 st6 rk
                rw [so] at s6
                have n6 : G6 Dn = none := (s6.new Dn (by rw [hD5]; simp)).trans n5
                have hD6 : H6 Dn = some (.dK acc) := s6.keep Dn _ hD5 hDo (nc_dK (a := Dn)).1
                refine hte _ _ _ ⟨G6, δ5, st6, ?_⟩
                cases ee : fe δ5 with
                | exc _ _ _ => rw [ee] at fin; cases hkd : keyD kd <;> rw [hkd] at fin <;> exact fin.elim
                | bad => rw [ee] at fin; cases hkd : keyD kd <;> rw [hkd] at fin <;> exact fin.elim
                | ok z δ6 =>
                  rw [ee] at fin
                  cases hkd : keyD kd with
                  | none => rw [hkd] at fin; exact fin.elim
                  | some q =>
                  rw [hkd] at fin
                  simp only at fin
                  intro v7 G7 H7 s7 st7 rv7
                  rw [so] at s7
                  have n7 : G7 Dn = none := (s7.new Dn (by rw [hD6]; simp)).trans n6
                  have hD7 : H7 Dn = some (.dK acc) := s7.keep Dn _ hD6 hDo (nc_dK (a := Dn)).1
                  have hal : acc.length = ys.length := ra.len
                  have ext7 := ((s3.thn s5).thn s6).thn s7
                  have gh' : Sg G7 (upd H7 Dn (.dK (putK acc q v7))) := st7.gh.own n7
                  have st8 : Stt C.F O G7 (upd H7 Dn (.dK (putK acc q v7))) σ' δ6 := {
                    ext := ⟨st7.ext.g, gh', fun b o hb hn ht => by
                      rw [upd_ne (fun q => by rw [q, f3] at hb; cases hb)]
                      exact st7.ext.keep b o hb hn ht, st7.ext.new, fun b hb => by
                      rw [upd_ne (fun q => hb (by rw [q]; exact f3))]
                      exact st7.ext.dom b hb, st7.ext.tab.trans (.upd hD7 nc_dK)⟩
                    tabs := st7.tabs.go (.upd hD7 nc_dK)
                    ln := st7.ln
                    le := st7.le
                    sh := st7.sh
                    ow := fun j hj => by
                      obtain ⟨a, dj, e1, e2, na, o, z⟩ := st7.ow j hj
                      refine ⟨a, dj, e1, e2, na, o.mono (.refl G7) (upd_ne fun q => hDo ?_), z⟩
                      rw [← so]
                      exact mem_ownS.mpr ⟨j, hj, by rw [e1, q]⟩
                    dis := st7.dis
                    fix := st7.fix }
                  have ext8 : Ext _ (ownS O σ) G1 H1 G7 (upd H7 Dn (.dK (putK acc q v7))) := ⟨ext7.g, gh', fun b o hb hn ht => by
                      rw [upd_ne (fun q => by rw [q, hDn] at hb; cases hb)]
                      exact ext7.keep b o hb hn ht, ext7.new, fun b hb => by
                      rw [upd_ne (fun q => hb (by rw [q]; exact hDn))]
                      exact ext7.dom b hb, ext7.tab.trans (.upd hD7 nc_dK)⟩
                  refine ⟨acc, q, keyD_v rk hkd, hD7, ?_, G7, δ6, putM ys q z, putK acc q v7, back st8, ext8, n7, upd_same, Rks.put (ra.mono (((ex.g.trans s5.g).trans s6.g).trans s7.g)) rv7, Nat.le_trans (putM_len ys q z) (by omega), fin⟩
                  have := cap_line
                  omega
            | _ => exact fin.elim
        have h := hg x (L2.wipe σ vs) H3 _ turn
        rw [wipeS_idem] at h
        exact h
    · rintro H2 ⟨G2, δ2, ys, acc, st2, s2, n2, hD2, ra, hys, fin⟩
      rw [List.drop_length] at fin
      exact fin G2 H2 s2 st2 n2 ⟨acc, hD2, ra⟩
end
section
variable {X : Cx} {C : Sc} {O : List Nat} {fk fe fc : Ex} {tg iter c : Expr} {pos : Pos}
theorem n_dc0 {bq : Bool} {it : ItE} {t : Tg} {g : TG} {vs : List Nat} {kx vx : Expr} {scope : Scope} (own : List (Str × Nat)) (hc : X.calm = true) (hN : X.N.Nodup) (hi : PI X tg iter (tI bq C O it)) (ok : BlkOk X.N X.env.scope scope own) (hvs : own.map (·.2) = vs)
    (hg : ∀ (s : Shared) (H : Hp) (Ca : Addr) (cl : List (Str × Addr)) (fp : List Addr), PG (X.blk s H scope (compEnvC scope cl Ca X.env) fp) tg g) (ht : GT bq C O t g) (hd : ∀ v ∈ vs, v ∉ O) (hw : GW vs g)
    (hk : ∀ (s : Shared) (H : Hp) (Ca : Addr) (cl : List (Str × Addr)) (fp : List Addr), PE (X.blk s H scope (compEnvC scope cl Ca X.env) fp) kx (tD C.blk O fk))
    (he : ∀ (s : Shared) (H : Hp) (Ca : Addr) (cl : List (Str × Addr)) (fp : List Addr), PE (X.blk s H scope (compEnvC scope cl Ca X.env) fp) vx (tD C.blk O fe)) (hs : ∀ x, foldedSetIterable iter X.env x = pure x := by intro _; rfl) :
    PE X (.DictComp kx vx [⟨tg, iter, [], 0⟩] scope pos) (tN C O (eDc it t vs none fk fe)) := by
  subst hvs
  exact pe_imp (pe_dc hc hN hi ok hg (fun _ _ _ _ _ => pts_nil) hk he hs) (n_dc_r (fun _ _ _ h => h) ht hd hw (fun σ H Q G δ st h => by
    obtain ⟨b, e, q⟩ := h
    cases e
    exact q G H (.refl st.gh) st) (fun _ _ _ h => h) (fun _ _ _ h => h))
theorem n_dc1 {bq : Bool} {it : ItE} {t : Tg} {g : TG} {vs : List Nat} {kx vx : Expr} {scope : Scope} (own : List (Str × Nat)) (hc : X.calm = true) (hN : X.N.Nodup) (hi : PI X tg iter (tI bq C O it)) (ok : BlkOk X.N X.env.scope scope own) (hvs : own.map (·.2) = vs)
    (hg : ∀ (s : Shared) (H : Hp) (Ca : Addr) (cl : List (Str × Addr)) (fp : List Addr), PG (X.blk s H scope (compEnvC scope cl Ca X.env) fp) tg g) (ht : GT bq C O t g) (hd : ∀ v ∈ vs, v ∉ O) (hw : GW vs g)
    (hp : ∀ (s : Shared) (H : Hp) (Ca : Addr) (cl : List (Str × Addr)) (fp : List Addr), PT (X.blk s H scope (compEnvC scope cl Ca X.env) fp) c (tDT C.blk O fc))
    (hk : ∀ (s : Shared) (H : Hp) (Ca : Addr) (cl : List (Str × Addr)) (fp : List Addr), PE (X.blk s H scope (compEnvC scope cl Ca X.env) fp) kx (tD C.blk O fk))
    (he : ∀ (s : Shared) (H : Hp) (Ca : Addr) (cl : List (Str × Addr)) (fp : List Addr), PE (X.blk s H scope (compEnvC scope cl Ca X.env) fp) vx (tD C.blk O fe)) (hs : ∀ x, foldedSetIterable iter X.env x = pure x := by intro _; rfl) :
    PE X (.DictComp kx vx [⟨tg, iter, [c], 0⟩] scope pos) (tN C O (eDc it t vs (some fc) fk fe)) := by
  subst hvs
  exact pe_imp (pe_dc hc hN hi ok hg (fun s H Ca cl fp => pts_one (hp s H Ca cl fp)) hk he hs) (n_dc_r (c := some fc) (fun _ _ _ h => h) ht hd hw (fun σ H Q G δ st h => (show tDT C.blk O fc σ H Q from ⟨G, δ, st, h⟩)) (fun _ _ _ h => h) (fun _ _ _ h => h))
/-- name = {..} on one line -/
theorem ps_setDc {i : Nat} {y : Str} {py : Pos} {kx vx : Expr} {ifs : List Expr} {scope : Scope} {own : List (Str × Nat)} {spos : Pos} {wi : TI} {g : TG} {tt : TT} {tk te : TE} (hc : X.calm = true) (hN : X.N.Nodup) (hy : X.N[i]? = some y) (hyl : X.env.scope.names.lookup y = some .local)
    (hsw : swapsWith (.DictComp kx vx [⟨tg, iter, ifs, 0⟩] scope pos) (some (.Name y py)) spos.line X.env = pure true) (hi : PI X tg iter wi) (ok : BlkOk X.N X.env.scope scope own)
    (hg : ∀ (s : Shared) (H : Hp) (Ca : Addr) (cl : List (Str × Addr)) (fp : List Addr), PG (X.blk s H scope (compEnvC scope cl Ca X.env) fp) tg g) (ht : ∀ (s : Shared) (H : Hp) (Ca : Addr) (cl : List (Str × Addr)) (fp : List Addr), PTs (X.blk s H scope (compEnvC scope cl Ca X.env) fp) ifs tt)
    (hk : ∀ (s : Shared) (H : Hp) (Ca : Addr) (cl : List (Str × Addr)) (fp : List Addr), PE (X.blk s H scope (compEnvC scope cl Ca X.env) fp) kx tk) (he : ∀ (s : Shared) (H : Hp) (Ca : Addr) (cl : List (Str × Addr)) (fp : List Addr), PE (X.blk s H scope (compEnvC scope cl Ca X.env) fp) vx te) (hs : ∀ x, foldedSetIterable iter X.env x = pure x := by intro _; rfl) :
    PS X (.Assign [.Name y py] (.DictComp kx vx [⟨tg, iter, ifs, 0⟩] scope pos) spos) (tAsg (tDc wi g tt tk te (own.map (·.2))) (gName i)) := by
  refine ⟨fun pins s σ H D I h => ?_⟩
  rw [exec_Assign_Name_used _ _ _ _ hsw]
  refine wpAny_bind (wpAny_standAt (wpAny_bind ?_))
  show wpAny _ X.A (do let _ ← comprehension (.DictComp kx vx [⟨tg, iter, ifs, 0⟩] scope pos) scope X.env (firstIterPos [⟨tg, iter, ifs, 0⟩] pos) newDict false (eval iter X.env) (some (assign (.Name y py) X.env))) _ _ s
  have h : tDc wi g tt tk te (own.map (·.2)) σ H (fun x H1 => gName i x σ H1 D.nx) := h
  refine wpAny_bind (thn (dc_core (Qf := fun _ s' => SP X pins D .next s') hc hN I hi ok hg ht hk he hs h fun L C s' m H' I' q hn f => ?_) fun _ s' hq => wpAny_pure (wpAny_pure hq))
  show wpAny _ _ (assign (.Name y py) X.env (.ref L)) _ _ _
  refine wpAny_assign_Name (store_ok2 (v := V.ref L) I' hN hy (.inl hyl) rfl (fun s2 I2 ⟨a, sb, ha⟩ => ?_) (.inr hyl))
  obtain ⟨f0, f1, f2, f3, f4, f5⟩ := f
  have haC : C ≠ a := by
    rcases ha with z | z
    · rw [z]; exact f1
    · exact fun e => f4 y a z e.symm
  refine ⟨m, hn.sameBut sb haC, fun h3 sb3 => ?_⟩
  exact ⟨_, H', I2.turned (t' := s2.toks) (fun b o hb e => (sb3.2 b hb).trans e) f0 f1 f3 f4 f5, q⟩
theorem l_dc0 {bq : Bool} {it : ItE} {t : Tg} {g : TG} {vs : List Nat} {kx vx : Expr} {scope : Scope} {y : Str} {py spos : Pos} {i : Nat} (own : List (Str × Nat)) (hc : X.calm = true) (hN : X.N.Nodup) (hi : PI X tg iter (tI bq C O it)) (ok : BlkOk X.N X.env.scope scope own) (hvs : own.map (·.2) = vs)
    (hg : ∀ (s : Shared) (H : Hp) (Ca : Addr) (cl : List (Str × Addr)) (fp : List Addr), PG (X.blk s H scope (compEnvC scope cl Ca X.env) fp) tg g) (ht : GT bq C O t g) (hd : ∀ v ∈ vs, v ∉ O) (hw : GW vs g)
    (hk : ∀ (s : Shared) (H : Hp) (Ca : Addr) (cl : List (Str × Addr)) (fp : List Addr), PE (X.blk s H scope (compEnvC scope cl Ca X.env) fp) kx (tD C.blk O fk))
    (he : ∀ (s : Shared) (H : Hp) (Ca : Addr) (cl : List (Str × Addr)) (fp : List Addr), PE (X.blk s H scope (compEnvC scope cl Ca X.env) fp) vx (tD C.blk O fe))
    (hy : X.N[i]? = some y) (hyl : X.env.scope.names.lookup y = some .local) (hsw : swapsWith (.DictComp kx vx [⟨tg, iter, [], 0⟩] scope pos) (some (.Name y py)) spos.line X.env = pure true) (hs : ∀ x, foldedSetIterable iter X.env x = pure x := by intro _; rfl) :
    PS X (.Assign [.Name y py] (.DictComp kx vx [⟨tg, iter, [], 0⟩] scope pos) spos) (tAsg (tN C O (eDc it t vs none fk fe)) (gName i)) := by
  subst hvs
  exact ps_imp (ps_setDc hc hN hy hyl hsw hi ok hg (fun _ _ _ _ _ => pts_nil) hk he hs) fun D σ H h => n_dc_r (fun _ _ _ h => h) ht hd hw (fun σ H Q G δ st h => by
    obtain ⟨b, e, q⟩ := h
    cases e
    exact q G H (.refl st.gh) st) (fun _ _ _ h => h) (fun _ _ _ h => h) _ _ _ h
end
end Mi

end
section
set_option Elab.async false
set_option linter.all false
set_option maxRecDepth 100000
set_option autoImplicit false
set_option maxHeartbeats 4000000
/-! dicts with int and text keys: the rules that the printed derivations name; try .. except X without a name -/
namespace Mi
open PySem PySem.Spec PyProof.Rows L2
section
variable {X : Cx} {C : Sc} {O : List Nat} {a b e : Expr} {fa fb : Ex} {pos p : Pos} {i k : Nat}
theorem d_din (hr : Room k X.A) (ha : PE X a (tD C O fa)) (hb : PE X b (tW C O fb)) (h1 : behindInMarks .In b = false := by with_unfolding_all rfl) : PE X (.Compare a [.In] [b] pos) (tD C O (e2 dinD fa fb)) := d_2 a_din (pe_cmp (pc_din (hu_of hr) ha hb) h1)
theorem d_dnin (hr : Room k X.A) (ha : PE X a (tD C O fa)) (hb : PE X b (tW C O fb)) (h1 : behindInMarks .NotIn b = false := by with_unfolding_all rfl) : PE X (.Compare a [.NotIn] [b] pos) (tD C O (e2 dninD fa fb)) := d_2 a_dnin (pe_cmp (pc_dnotin (hu_of hr) ha hb) h1)
theorem t_din (hr : Room k X.A) (ha : PE X a (tD C O fa)) (hb : PE X b (tW C O fb)) (h1 : behindInMarks .In b = false := by with_unfolding_all rfl) : PT X (.Compare a [.In] [b] pos) (tDT C O (e2 dinD fa fb)) := t_2 a_din (pt_cmp (pc_din (hu_of hr) ha hb) h1)
theorem t_dnin (hr : Room k X.A) (ha : PE X a (tD C O fa)) (hb : PE X b (tW C O fb)) (h1 : behindInMarks .NotIn b = false := by with_unfolding_all rfl) : PT X (.Compare a [.NotIn] [b] pos) (tDT C O (e2 dninD fa fb)) := t_2 a_dnin (pt_cmp (pc_dnotin (hu_of hr) ha hb) h1)
theorem d_dget (hr : Room k X.A) (ha : PE X a (tD C O fa)) (hb : PE X b (tW C O fb)) (hs : NoSl b := by intro _ _; rfl) : PE X (.Subscript a b pos) (tD C O (e2 dgetD fa fb)) := d_2 a_dget (pe_dget (hu_of hr) ha hb hs)
theorem d_dgetO (hr : Room k X.A) (hi : i ∈ O) (ha : PE X a (tVar i)) (hb : PE X b (tW C O fb)) (hs : NoSl b := by intro _ _; rfl) : PE X (.Subscript a b pos) (tD C O (eO2 dgetD i fb)) := d_o2 hi a_dget (pe_dget (hu_of hr) ha hb hs)
/-- {} -/
theorem n_dnew : PE X (.Dict [] [] pos) (tN C O (eC (.dic []))) := pe_imp pe_dnewK fun σ H Q ⟨G, δ, st, m⟩ q hq => by
  obtain ⟨f1, f2, f3, f4⟩ := fresh_facts (u := .dK []) st hq
  exact m q G _ ((Ext.refl st.gh).and (Ext.fresh st.gh hq)) f1 f2 hq ⟨[], upd_same, .nil⟩
/-- len(d) -/
def dlenD : D → Option D
  | .dic ds => some (.int (ds.length : Nat))
  | _ => none
theorem a_dlen {K : PySem.W.Frag} {cm : CM} : S1 K cm (fun v H Q => ∃ (a : Addr) (kvs : List (Key × V)), v = .ref a ∧ H a = some (.dK kvs) ∧ Q (.int (kvs.length : Nat)) H) (fun d => none) := fun G H v d d' Q gh v1 ho => by cases ho
end
theorem sw_trueD {kx vx : Expr} {gs : List Comprehension} {scope : Scope} {pos py : Pos} {y : Str} {l : Nat} {env : PySem.Env} (hk : env.scope.kind = .function) (hy : env.scope.names.lookup y = some .local) (hl : (py.line == pos.line) = true)
    (ha : (scope.names.any fun (n, k) => n == y && (k == .local || k == .cell)) = false) : swapsWith (.DictComp kx vx gs scope pos) (some (.Name y py)) l env = pure true := by
  have ky : env.kindOf y = some .local := hy
  have hb : env.blockKind = .function := by unfold Env.blockKind; rw [hk]; rfl
  unfold swapsWith
  simp only [hb, ky, ha, Expr.pos, hl]
  rfl
theorem l_dc1 {X : Cx} {C : Sc} {O : List Nat} {fk fe fc : Ex} {tg iter c : Expr} {pos : Pos} {bq : Bool} {it : ItE} {t : Tg} {g : TG} {vs : List Nat} {kx vx : Expr} {scope : Scope} {y : Str} {py spos : Pos} {i : Nat} (own : List (Str × Nat)) (hc : X.calm = true) (hN : X.N.Nodup) (hi : PI X tg iter (tI bq C O it)) (ok : BlkOk X.N X.env.scope scope own) (hvs : own.map (·.2) = vs)
    (hg : ∀ (s : Shared) (H : Hp) (Ca : Addr) (cl : List (Str × Addr)) (fp : List Addr), PG (X.blk s H scope (compEnvC scope cl Ca X.env) fp) tg g) (ht : GT bq C O t g) (hd : ∀ v ∈ vs, v ∉ O) (hw : GW vs g)
    (hp : ∀ (s : Shared) (H : Hp) (Ca : Addr) (cl : List (Str × Addr)) (fp : List Addr), PT (X.blk s H scope (compEnvC scope cl Ca X.env) fp) c (tDT C.blk O fc))
    (hk : ∀ (s : Shared) (H : Hp) (Ca : Addr) (cl : List (Str × Addr)) (fp : List Addr), PE (X.blk s H scope (compEnvC scope cl Ca X.env) fp) kx (tD C.blk O fk))
    (he : ∀ (s : Shared) (H : Hp) (Ca : Addr) (cl : List (Str × Addr)) (fp : List Addr), PE (X.blk s H scope (compEnvC scope cl Ca X.env) fp) vx (tD C.blk O fe))
    (hy : X.N[i]? = some y) (hyl : X.env.scope.names.lookup y = some .local) (hsw : swapsWith (.DictComp kx vx [⟨tg, iter, [c], 0⟩] scope pos) (some (.Name y py)) spos.line X.env = pure true) (hs : ∀ x, foldedSetIterable iter X.env x = pure x := by intro _; rfl) :
    PS X (.Assign [.Name y py] (.DictComp kx vx [⟨tg, iter, [c], 0⟩] scope pos) spos) (tAsg (tN C O (eDc it t vs (some fc) fk fe)) (gName i)) := by
  subst hvs
  exact ps_imp (ps_setDc hc hN hy hyl hsw hi ok hg (fun s H Ca cl fp => pts_one (hp s H Ca cl fp)) hk he hs) fun D σ H h => n_dc_r (c := some fc) (fun _ _ _ h => h) ht hd hw (fun σ H Q G δ st h => (show tDT C.blk O fc σ H Q from ⟨G, δ, st, h⟩)) (fun _ _ _ h => h) (fun _ _ _ h => h) _ _ _ h
/-- try: gb except X: gh -/
def sTryO (cs os : List Str) (gb gh : Sm) : Sm := fun δ => match gb δ with
  | .exc c d δ' => if c ∈ cs then (match gh δ' with
      | .nx δ2 => .nx δ2
      | .rt d δ2 => .rt d δ2
      | _ => .bad) else if c ∈ os then .exc c d δ' else .bad
  | .bk _ => .bad
  | .ct _ => .bad
  | o => o
abbrev Sc.quiet (C : Sc) : Sc := ⟨C.F, fun _ _ _ _ => False, C.fld, C.XO, C.L, C.fr⟩
section
variable {X : Cx} {C : Sc} {O : List Nat} {gb gh : Sm} {pos : Pos} {x : Str}
theorem s_try_only {cs os : List Str} {body suite : List Stmt} {b₀ : Stmt} {np pos' : Pos} (hs : X.stack = X.env :: X.outer) (hf : X.env.frame = some X.env.locals) {vc : Value} (hc : Names X x vc) (tk : Takes X C.W)
    (hcs : ∀ c ∈ cs, PySem.W.exmOne X.K (.ref (C.F.cm c)) vc = some true) (hos : ∀ c ∈ os, PySem.W.exmOne X.K (.ref (C.F.cm c)) vc = some false)
    (hb : ∀ (W : WX) (pn : List (Addr × Obj)) (xe : Value → Shared → Prop), Takes (X.tr pn xe) W → PassesOwn (model X.prog X.w) X.A X.env xe → ∀ (z : Hp × Hp × List Addr), PSs (X.tr pn xe) body (tS (C.try_ W O z.1 z.2.1 z.2.2) O O gb))
    (hsu : ∀ (a : Addr) (oe : Obj) (pn : List (Addr × Obj)), PSs (X.suite a ((a, oe) :: pn)) (b₀ :: suite) (tS C.quiet O O gh)) (hx : C.XO O := by trivial) :
    PS X (.Try body [.ExceptHandler (some (.Name x np)) none (b₀ :: suite) pos'] [] [] pos) (tS C O O (sTryO cs os gb gh)) :=
  ps_imp (ps_try_only (Wout := C.W) (tb := fun W D σ H => ∃ z : Hp × Hp × List Addr, tS (C.try_ W O z.1 z.2.1 z.2.2) O O gb D σ H) (ts := fun _ _ _ => tS C.quiet O O gh) hs hf hc tk (fun W pn xe t q => pss_ex fun z => hb W pn xe t q z) (fun a oe _ _ pn _ _ => hsu a oe pn)) fun D σ H ⟨G, δ, st, m⟩ => by
    refine ⟨(G, H, ownS O σ), G, δ, st.enter, ?_⟩
    unfold sTryO at m
    cases e : gb δ with
    | nx δ' => rw [e] at m; exact fun σ' G' H' s' t => m σ' G' H' s' (st.leave t)
    | rt d δ' => rw [e] at m; exact fun v G' H' r rv fq => m v G' H' (ret_leave st r) rv (fr_leave st fq)
    | bk δ' => rw [e] at m; exact m.elim
    | ct δ' => rw [e] at m; exact m.elim
    | bad => rw [e] at m; exact m
    | exc c dv δ' =>
      rw [e] at m
      simp only at m
      intro O'' σ' G' H' cl d hO t xr
      have hO : O'' = O := hO
      subst hO
      have ecl : cl = .ref (C.F.cm c) := xr.1
      have sg : Same G G' := t.ext.g
      have st' := st.leave t
      by_cases h1 : c ∈ cs
      · rw [if_pos h1] at m
        refine ⟨true, by rw [ecl]; exact hcs c h1, fun _ a ha => ⟨G', δ', st', ?_⟩, fun z => Bool.noConfusion z⟩
        cases eg : gh δ' with
        | nx δ2 => rw [eg] at m; exact fun σ3 G3 H3 s3 st3 => m _ G3 H3 (sg.trans s3) st3
        | rt d δ2 => rw [eg] at m; exact m
        | bk δ2 => rw [eg] at m; exact m.elim
        | ct δ2 => rw [eg] at m; exact m.elim
        | exc c2 d2 δ2 => rw [eg] at m; exact m.elim
        | bad => rw [eg] at m; exact m
      · rw [if_neg h1] at m
        by_cases h2 : c ∈ os
        · rw [if_pos h2] at m
          exact ⟨false, by rw [ecl]; exact hos c h2, fun z => Bool.noConfusion z, fun _ => m O'' σ' G' H' cl d hx st' xr⟩
        · rw [if_neg h2] at m
          exact m.elim
end
end Mi

end
section
set_option Elab.async false
set_option linter.all false
set_option maxRecDepth 100000
set_option autoImplicit false
set_option maxHeartbeats 4000000
/-! dicts whose keys are tuples of ints -/
namespace Mi
open PySem PySem.Spec PyProof.Rows L2
def keyT (d : D) : Option (List Int) := match d with
  | .tup xs => intsO xs
  | _ => none
theorem dt_ints : ∀ ns : List Int, intsO (ns.map D.int) = some ns
  | [] => rfl
  | n :: r => by rw [List.map_cons]; unfold intsO; rw [dt_ints r]; rfl
theorem keyT_tup (ns : List Int) : keyT (.tup (ns.map D.int)) = some ns := dt_ints ns
/-- the value at a key -/
def valT : List (D × D) → List Int → Option D
  | [], _ => none
  | (q, d) :: r, k => if keyT q = some k then some d else valT r k
def putT (ds : List (D × D)) (k : List Int) (d : D) : List (D × D) := if (valT ds k).isSome = true then ds.map (fun p => if keyT p.1 = some k then (p.1, d) else p) else ds ++ [(.tup (k.map .int), d)]
section
variable {K : PySem.W.Frag} {cm : CM} {G H : Hp}
theorem key_tq {v : V} {d : D} {ns : List Int} (r : Rp K cm G v d) (h : keyT d = some ns) : ∃ b, v = .ref b ∧ TqT K G b (ns.map .int) := by
  cases r <;> simp [keyT] at h
  rename_i q rs
  exact ⟨_, rfl, by rw [← rs.ints h]; exact q⟩
theorem valT_rel {k : List Int} : ∀ {kvs : KVI} {ds : List (D × D)}, Rts K cm G kvs ds → (∀ d, valT ds k = some d → ∃ v, valI kvs k = some v ∧ Rp K cm G v d) ∧ (valT ds k = none → valI kvs k = none)
  | _, _, .nil => ⟨fun d (h : (none : Option D) = some d) => (nomatch h), fun _ => rfl⟩
  | _, _, .cons (k := q) (b := b) (v := v) (d := d) tq r t => by
    obtain ⟨a, c⟩ := valT_rel (k := k) t
    by_cases e : q = k
    · have e1 : keyT (.tup (q.map .int)) = some k := by rw [e, keyT_tup]
      unfold valT valI
      rw [if_pos e1, if_pos e]
      exact ⟨fun d' h => by cases h; exact ⟨v, rfl, r⟩, fun h => nomatch h⟩
    · have e1 : ¬ keyT (.tup (q.map .int)) = some k := by rw [keyT_tup]; exact fun z => e (Option.some.inj z)
      unfold valT valI
      rw [if_neg e1, if_neg e]
      exact ⟨a, c⟩
theorem valT_some {k : List Int} {kvs : KVI} {ds : List (D × D)} (r : Rts K cm G kvs ds) : (valI kvs k).isSome = (valT ds k).isSome := by
  obtain ⟨a, b⟩ := valT_rel (k := k) r
  cases h : valT ds k with
  | none => rw [b h]; rfl
  | some d =>
    obtain ⟨v, h1, _⟩ := a d h
    rw [h1]
    rfl
theorem Rts.ks (gh : Same G H) : ∀ {kvs : KVI} {ds : List (D × D)}, Rts K cm G kvs ds → KsI K H kvs
  | _, _, .nil => fun _ h => nomatch h
  | _, _, .cons tq r t => fun p hp => by
    rcases List.mem_cons.mp hp with e | hp
    · subst e; exact same_sqT gh tq.sq
    · exact Rts.ks gh t p hp
theorem Rts.len : ∀ {kvs : KVI} {ds : List (D × D)}, Rts K cm G kvs ds → kvs.length = ds.length
  | _, _, .nil => rfl
  | _, _, .cons _ _ t => congrArg (· + 1) t.len
theorem Rts.keys : ∀ {kvs : KVI} {ds : List (D × D)}, Rts K cm G kvs ds → Rps K cm G (kvs.map fun p => V.ref p.2.1) (ds.map (·.1))
  | _, _, .nil => .nil
  | _, _, .cons (k := k) tq _ t => .cons (.tup tq (rps_ints k)) t.keys
theorem Rts.app1 {k : List Int} {b : Addr} {v : V} {d : D} (tq : TqT K G b (k.map .int)) (rv : Rp K cm G v d) : ∀ {kvs : KVI} {ds : List (D × D)}, Rts K cm G kvs ds → Rts K cm G (kvs ++ [(k, b, v)]) (ds ++ [(.tup (k.map .int), d)])
  | _, _, .nil => .cons tq rv .nil
  | _, _, .cons q r t => .cons q r (Rts.app1 tq rv t)
theorem Rts.rep {k : List Int} {v : V} {d : D} (rv : Rp K cm G v d) : ∀ {kvs : KVI} {ds : List (D × D)}, Rts K cm G kvs ds → Rts K cm G (kvs.map fun p => if p.1 = k then (p.1, p.2.1, v) else p) (ds.map fun p => if keyT p.1 = some k then (p.1, d) else p)
  | _, _, .nil => .nil
  | _, _, .cons (k := q) (b := b) (v := v0) (d := d0) tq r t => by
    have ih := Rts.rep (k := k) rv t
    rw [List.map_cons, List.map_cons]
    by_cases e : q = k
    · rw [if_pos (show (q, b, v0).1 = k from e), if_pos (show keyT ((D.tup (q.map .int), d0) : D × D).1 = some k by rw [← e]; exact keyT_tup q)]
      exact .cons tq rv ih
    · rw [if_neg (show ¬ (q, b, v0).1 = k from e), if_neg (show ¬ keyT ((D.tup (q.map .int), d0) : D × D).1 = some k from fun z => e (Option.some.inj ((keyT_tup q).symm.trans z)))]
      exact .cons tq r ih
theorem Rts.put {k : List Int} {b : Addr} {v : V} {d : D} {kvs : KVI} {ds : List (D × D)} (r : Rts K cm G kvs ds) (tq : TqT K G b (k.map .int)) (rv : Rp K cm G v d) : Rts K cm G (putI kvs k b v) (putT ds k d) := by
  unfold putI putT
  rw [valT_some r]
  split
  · exact Rts.rep rv r
  · exact Rts.app1 tq rv r
theorem Vw.dit {v : V} {ds : List (D × D)} (gh : Same G H) (h : Vw K cm G H v (.dit ds)) : ∃ a o kvs, v = .ref a ∧ Rd H a (DTO a o kvs) ∧ Rts K cm G kvs ds := by
  rcases h with h | ⟨a, rfl, h⟩
  · cases h with
    | @dit _ o' _ _ h r =>
      refine ⟨_, o', _, rfl, ?_, r⟩
      rcases h with h | ⟨o, h⟩
      · exact .inl (gh _ _ h)
      · exact .inr ⟨o, gh _ _ h⟩
  · obtain ⟨o, kvs, q, r⟩ := h
    exact ⟨a, o, kvs, rfl, .inl q, r⟩
theorem Vw.keyT {v : V} {d : D} {ns : List Int} (gh : Same G H) (h : Vw K cm G H v d) (hk : keyT d = some ns) : ∃ b, v = .ref b ∧ SqT K H b (ns.map .int) := by
  rcases h with h | ⟨a, rfl, h⟩
  · obtain ⟨b, e, q⟩ := key_tq h hk
    exact ⟨b, e, same_sqT gh q.sq⟩
  · cases d <;> first | exact h.elim | simp [Mi.keyT] at hk
/-- x in d -/
def tinO (x y : D) : Option Bool := match y with
  | .dit ds => (Mi.keyT x).map fun k => (valT ds k).isSome
  | _ => none
def tinD (x y : D) : Option D := (tinO x y).map .bl
def tninD (x y : D) : Option D := (tinO x y).map fun b => .bl (!b)
def rTin (K : PySem.W.Frag) (f : Bool → Bool) : R2 := fun x y H Q => ∃ a o kvs b ns, y = .ref a ∧ x = .ref b ∧ Rd H a (DTO a o kvs) ∧ KsI K H kvs ∧ SqT K H b (ns.map V.int) ∧ Q (.bl (f (valI kvs ns).isSome)) H
theorem a_tin' {f : Bool → Bool} : S2 K cm (rTin K f) fun x y => (tinO x y).map fun b => .bl (f b) := fun G H v w d e d' Q gh v1 v2 ho (a : Ans K cm G H d' Q) => by
  obtain ⟨b, hb, rfl⟩ := Option.map_eq_some_iff.mp ho
  unfold tinO at hb
  cases e with
  | dit ds =>
    obtain ⟨k, hk, rfl⟩ := Option.map_eq_some_iff.mp hb
    obtain ⟨p, o, kvs, rfl, hd, r⟩ := v2.dit gh
    obtain ⟨q, rfl, sq⟩ := v1.keyT gh hk
    exact ⟨p, o, kvs, q, k, rfl, rfl, hd, r.ks gh, sq, by rw [valT_some r]; exact a.now gh (.bl _)⟩
  | _ => cases hb
theorem a_tin : S2 K cm (rTin K id) tinD := a_tin' (f := id)
theorem a_tnin : S2 K cm (rTin K not) tninD := a_tin' (f := not)
/-- d[k] -/
def tgetD (x y : D) : Option D := match x with
  | .dit ds => (Mi.keyT y).bind fun k => valT ds k
  | _ => none
def rTget (K : PySem.W.Frag) : R2 := fun x y H Q => ∃ a o kvs b ns v, x = .ref a ∧ y = .ref b ∧ Rd H a (DTO a o kvs) ∧ KsI K H kvs ∧ SqT K H b (ns.map V.int) ∧ valI kvs ns = some v ∧ Q v H
theorem a_tget : S2 K cm (rTget K) tgetD := fun G H v w d e d' Q gh v1 v2 ho (a : Ans K cm G H d' Q) => by
  unfold tgetD at ho
  cases d with
  | dit ds =>
    obtain ⟨k, hk, hv⟩ := Option.bind_eq_some_iff.mp ho
    obtain ⟨p, o, kvs, rfl, hd, r⟩ := v1.dit gh
    obtain ⟨q, rfl, sq⟩ := v2.keyT gh hk
    obtain ⟨u, hu, ru⟩ := (valT_rel r).1 d' hv
    exact ⟨p, o, kvs, q, k, u, rfl, rfl, hd, r.ks gh, sq, hu, a.now gh ru⟩
  | _ => cases ho
/-- list(d) -/
def tlistD (d : D) : Option D := match d with
  | .dit ds => some (.lst (ds.map (·.1)))
  | _ => none
theorem a_tlist : N1 K cm (fun v H Q => ∃ (d : Addr) (o : Obj) (kvs : KVI), [v] = [.ref d] ∧ Rd H d (DTO d o kvs) ∧ ∀ p, H p = none → Q (.ref p) (upd H p (.lst (kvs.map fun p => V.ref p.2.1)))) tlistD := fun G H v d d' Q gh v1 ho a => by
  unfold tlistD at ho
  cases d with
  | dit ds =>
    cases ho
    obtain ⟨p, o, kvs, rfl, hd, r⟩ := v1.dit gh
    exact ⟨p, o, kvs, rfl, hd, fun q hq => a q _ hq ⟨_, upd_same, r.keys⟩⟩
  | _ => cases ho
end
section
variable {X : Cx} {C : Sc} {O : List Nat} {a b e v : Expr} {fa fb fk fv : Ex} {pos p : Pos} {i k : Nat} {x : Str}
theorem pc_tin {ty td : TE} (hu : X.A.units + 1 < cLine) (hi : PE X a ty) (ho : PE X b td) : PC X .In a b (tOp (rTin X.K id) ty td) := ⟨fun pins s σ H Q I h => by
  refine thn (hi.run pins s σ H _ I h) fun iv s1 ⟨y, H1, I1, ry, q1⟩ => thn (ho.run pins s1 σ H1 _ I1 q1) fun u s2 ⟨x, H2, I2, rx, p, o, kvs, q, ns, ex, ey, hd, hk, sq, q2⟩ => ?_
  subst ex ey
  obtain rfl : u = Value.ref p := rx
  obtain rfl : iv = Value.ref q := ry
  exact ti_in hu I2 hd hk sq fun s3 I3 => ⟨.bl _, H2, I3, rfl, q2⟩⟩
theorem pc_tnin {ty td : TE} (hu : X.A.units + 1 < cLine) (hi : PE X a ty) (ho : PE X b td) : PC X .NotIn a b (tOp (rTin X.K not) ty td) := ⟨fun pins s σ H Q I h => by
  refine thn (hi.run pins s σ H _ I h) fun iv s1 ⟨y, H1, I1, ry, q1⟩ => thn (ho.run pins s1 σ H1 _ I1 q1) fun u s2 ⟨x, H2, I2, rx, p, o, kvs, q, ns, ex, ey, hd, hk, sq, q2⟩ => ?_
  subst ex ey
  obtain rfl : u = Value.ref p := rx
  obtain rfl : iv = Value.ref q := ry
  exact ti_notIn hu I2 hd hk sq fun s3 I3 => ⟨.bl _, H2, I3, rfl, q2⟩⟩
theorem d_tin (hK : C.F.K = X.K) (hr : Room k X.A) (ha : PE X a (tD C O fa)) (hb : PE X b (tW C O fb)) (h1 : behindInMarks .In b = false := by with_unfolding_all rfl) : PE X (.Compare a [.In] [b] pos) (tD C O (e2 tinD fa fb)) := d_2 (hK ▸ a_tin) (pe_cmp (pc_tin (hu_of hr) ha hb) h1)
theorem d_tnin (hK : C.F.K = X.K) (hr : Room k X.A) (ha : PE X a (tD C O fa)) (hb : PE X b (tW C O fb)) (h1 : behindInMarks .NotIn b = false := by with_unfolding_all rfl) : PE X (.Compare a [.NotIn] [b] pos) (tD C O (e2 tninD fa fb)) := d_2 (hK ▸ a_tnin) (pe_cmp (pc_tnin (hu_of hr) ha hb) h1)
theorem t_tin (hK : C.F.K = X.K) (hr : Room k X.A) (ha : PE X a (tD C O fa)) (hb : PE X b (tW C O fb)) (h1 : behindInMarks .In b = false := by with_unfolding_all rfl) : PT X (.Compare a [.In] [b] pos) (tDT C O (e2 tinD fa fb)) := t_2 (hK ▸ a_tin) (pt_cmp (pc_tin (hu_of hr) ha hb) h1)
theorem t_tnin (hK : C.F.K = X.K) (hr : Room k X.A) (ha : PE X a (tD C O fa)) (hb : PE X b (tW C O fb)) (h1 : behindInMarks .NotIn b = false := by with_unfolding_all rfl) : PT X (.Compare a [.NotIn] [b] pos) (tDT C O (e2 tninD fa fb)) := t_2 (hK ▸ a_tnin) (pt_cmp (pc_tnin (hu_of hr) ha hb) h1)
theorem pe_tget {td ty : TE} (hu : X.A.units + 1 < cLine) (ho : PE X a td) (hi : PE X b ty) (hs : NoSl b) : PE X (.Subscript a b pos) (tOp (rTget X.K) td ty) := by
  refine ⟨fun pins s σ H Q I h => ?_⟩
  refine subD_of PySem.F.slot_dict_getitem.lookup hs (thn (ho.run pins s σ H _ I h) fun u s1 ⟨x, H1, I1, rx, q1⟩ => thn (hi.run pins s1 σ H1 _ I1 q1) fun iv s2 ⟨y, H2, I2, ry, p, o, kvs, q, ns, v, ex, ey, hd, hk, sq, hv, q2⟩ => ?_)
  subst ex ey
  obtain rfl : u = Value.ref p := rx
  obtain rfl : iv = Value.ref q := ry
  refine ⟨?_, ti_get hu I2 hd hk sq hv fun w' s3 I3 rw' => ⟨v, H2, I3, rw', q2⟩⟩
  obtain ⟨_, _, _, _, dd⟩ := dti_rd I2 hd hk
  exact dd.typeIs
theorem d_tget (hK : C.F.K = X.K) (hr : Room k X.A) (ha : PE X a (tD C O fa)) (hb : PE X b (tW C O fb)) (hs : NoSl b := by intro _ _; rfl) : PE X (.Subscript a b pos) (tD C O (e2 tgetD fa fb)) := d_2 (hK ▸ a_tget) (pe_tget (hu_of hr) ha hb hs)
theorem d_tgetO (hK : C.F.K = X.K) (hr : Room k X.A) (hi : i ∈ O) (ha : PE X a (tVar i)) (hb : PE X b (tW C O fb)) (hs : NoSl b := by intro _ _; rfl) : PE X (.Subscript a b pos) (tD C O (eO2 tgetD i fb)) := d_o2 hi (hK ▸ a_tget) (pe_tget (hu_of hr) ha hb hs)
/-- x[k] = e, x the def's own dict in slot i -/
noncomputable def sSetT (i : Nat) (k e : Ex) : Sm := fun δ => (e δ).out fun v δ1 => (k δ1).out fun kk δ2 => (eV i δ2).out fun x δ3 => match x, keyT kk with
  | .dit ds, some q => if ds.length < cap then .nx (δ3.set i (some (.dit (putT ds q v)))) else .bad
  | _, _ => .bad
/-- d[y] = v -/
def sTPut (K : PySem.W.Frag) (td ty tv : TE) : TS := fun D σ H => tv σ H fun v H1 => td σ H1 fun x H2 => ty σ H2 fun y H3 => ∃ a o kvs b ns, x = .ref a ∧ y = .ref b ∧ H3 a = some (DTO a o kvs) ∧ KsI K H3 kvs ∧ SqT K H3 b (ns.map V.int) ∧ kvs.length < sizeLine ∧
  ∀ o', D.nx σ (upd H3 a (DTO a o' (putI kvs ns b v)))
theorem ps_tput {td ty tv : TE} {pos' : Pos} (hu : X.A.units + 1 < cLine) (ho : PE X a td) (hi : PE X b ty) (hv : PE X v tv) (hs : swapsWith v (some (.Subscript a b pos')) pos.line X.env = pure false) :
    PS X (.Assign [.Subscript a b pos'] v pos) (sTPut X.K td ty tv) := by
  refine ⟨fun pins s σ H D I h => ?_⟩
  refine wpAny_Assign_Subscript (thn (hv.run pins s σ H _ I h) fun r s1 ⟨v, H1, I1, rv, q1⟩ => thn (ho.run pins s1 σ H1 _ I1 q1) fun u s2 ⟨x, H2, I2, rx, q2⟩ => thn (hi.run pins s2 σ H2 _ I2 q2) fun iv s3 ⟨y, H3, I3, ry, a, o, kvs, q, ns, ex, ey, hd, hk, sq, hl, q3⟩ => ?_) hs
  subst ex ey
  obtain rfl : u = Value.ref a := rx
  obtain rfl : iv = Value.ref q := ry
  exact ti_set hu I3 hd hk sq hl rv fun o' s4 I4 => ⟨σ, _, I4, q3 o'⟩
theorem s_setT {sp : Pos} (hK : C.F.K = X.K) (hi : i ∈ O) (h : PS X (.Assign [.Subscript (.Name x p) b sp] a pos) (sTPut X.K (tVar i) (tD C O fb) (tD C O fa))) (hx : C.XO O := by trivial) :
    PS X (.Assign [.Subscript (.Name x p) b sp] a pos) (tS C O O (sSetT i fb fa)) := ps_imp h fun D σ H ⟨G, δ, st, m⟩ => by
  unfold sSetT at m
  refine r_out hx st m fun d v G1 H1 δ1 s1 st1 rv m1 => ?_
  obtain ⟨l, _, e1, _, _, _⟩ := st1.ownL hi
  refine ⟨_, e1, ?_⟩
  refine r_out hx st1 m1 fun k w G2 H2 δ2 s2 st2 rw2 m2 => ?_
  obtain ⟨l', d', e1', ev, na, o⟩ := st2.ownL hi
  rw [e1] at e1'
  cases e1'
  rw [ev, Res.out_ok] at m2
  cases d' with
  | dit ds =>
    cases hk : keyT k with
    | none => simp only [hk] at m2; exact m2.elim
    | some q =>
      simp only [hk] at m2
      obtain ⟨ob, kvs, hq, r⟩ := o
      by_cases hc : ds.length < cap
      case neg => rw [if_neg hc] at m2; exact m2.elim
      rw [if_pos hc] at m2
      obtain ⟨b, rfl, tq⟩ := key_tq rw2 hk
      refine ⟨l, ob, kvs, b, q, rfl, rfl, hq, hK ▸ r.ks st2.gh, hK ▸ same_sqT st2.gh tq.sq, by rw [r.len]; exact Nat.lt_trans hc cap_line, fun o' => ?_⟩
      obtain ⟨st3, ex⟩ := st2.mut (u := DTO l o' (putI kvs q b v)) hi e1 na (by rw [hq]; exact fun z => nomatch z) (d := .dit (putT ds q d)) ⟨o', _, upd_same, r.put tq (rv.mono s2.g)⟩
      exact m2 σ G2 _ (.refl G2) st3
  | _ => exact m2.elim
/-- {k: v}, k a tuple of ints -/
def eTd (fk fv : Ex) : Ex := fun δ => (fk δ).bind fun k δ1 => (fv δ1).bind fun v δ2 => Res.opt ((keyT k).map fun _ => .dit [(k, v)]) δ2
theorem upd_free {F : Fm} {G H : Hp} {σ : L2.St} {δ : Env} {q : Addr} {u : HO} (st : Stt F O G H σ δ) (n : G q = none) (nf : F.H q = none) (no : ∀ i ∈ O, σ[i]? ≠ some (some (V.ref q))) {w : HO} (hw : H q = some w) (nc : NC q w) (nu : NT u := by intro _ h; cases h) : Stt F O G (upd H q u) σ δ where
  tabs := st.tabs.go (.upd hw nc nu)
  ext := ⟨st.ext.g, st.gh.own n, fun b o hb hn ht => by
      rw [upd_ne (fun z => by rw [z, nf] at hb; cases hb)]
      exact st.ext.keep b o hb hn ht, st.ext.new, fun b hb => by
      rw [upd_ne (fun z => hb (by rw [z]; exact nf))]
      exact st.ext.dom b hb, st.ext.tab.trans (.upd hw nc nu)⟩
  ln := st.ln
  le := st.le
  sh := st.sh
  ow := fun j hj => by
    obtain ⟨a, dj, e1, e2, na, o, z⟩ := st.ow j hj
    exact ⟨a, dj, e1, e2, na, o.mono (.refl G) (upd_ne fun z => no j hj (by rw [e1, z])), z⟩
  dis := st.dis
  fix := st.fix
theorem ext_free {T : List (Addr × Str)} {S : List Addr} {G H G1 H1 : Hp} {q : Addr} {u : HO} (a : Ext T S G H G1 H1) (n : G1 q = none) (hq : H q = none) {w : HO} (hw : H1 q = some w) (nc : NC q w) (nu : NT u := by intro _ h; cases h) : Ext T S G H G1 (upd H1 q u) := ⟨a.g, a.gh.own n, fun b o hb hn ht => by
    rw [upd_ne (fun z => by rw [z, hq] at hb; cases hb)]
    exact a.keep b o hb hn ht, a.new, fun b hb => by
    rw [upd_ne (fun z => hb (by rw [z]; exact hq))]
    exact a.dom b hb, a.tab.trans (.upd hw nc nu)⟩
theorem n_tnew (hK : C.F.K = X.K) (hr : Room k X.A) (hk : PE X a (tD C O fk)) (hv : PE X b (tD C O fv)) : PE X (.Dict [some a] [b] pos) (tN C O (eTd fk fv)) := pe_imp (pe_dispT (hu_of hr) hk hv) fun σ H Q ⟨G, δ, st, m⟩ q ob hq => by
  obtain ⟨f1, f2, f3, f4⟩ := fresh_facts (u := DTO q ob []) st hq
  have nS : q ∉ ownS O σ := fun z => by
    obtain ⟨i, hi, e⟩ := mem_ownS.mp z
    exact f4 i hi e
  refine ⟨G, δ, f1, ?_⟩
  unfold eTd at m
  have s0 : Ext C.F.cm.T (ownS O σ) G H G (upd H q (DTO q ob [])) := (Ext.refl st.gh).and (Ext.fresh st.gh hq)
  cases e : fk δ with
  | exc c d δ' => rw [e] at m; exact m
  | bad => rw [e] at m; exact m
  | ok kd δ1 =>
    rw [e, Res.bind_ok] at m
    intro kv G1 H1 s1 st1 rk
    refine ⟨G1, δ1, st1, ?_⟩
    cases e2 : fv δ1 with
    | exc c d δ' => rw [e2] at m; exact m
    | bad => rw [e2] at m; exact m
    | ok vd δ2 =>
      rw [e2, Res.bind_ok] at m
      intro vv G2 H2 s2 st2 rv
      cases hk : keyT kd with
      | none => rw [hk] at m; exact m.elim
      | some ns =>
        rw [hk] at m
        obtain ⟨bb, rfl, tq⟩ := key_tq (rk.mono s2.g) hk
        have s02 : Ext _ (ownS O σ) (G) (upd H q (DTO q ob [])) G2 H2 := s1.thn s2
        have hp : H2 q = some (DTO q ob []) := s02.keep q _ upd_same nS nc_dto.1
        have n2 : G2 q = none := (s02.new q (by rw [upd_same]; exact fun z => nomatch z)).trans f2
        refine ⟨bb, ns, rfl, hK ▸ same_sqT st2.gh tq.sq, hp, fun o' => ?_⟩
        have em : D.dit [(kd, vd)] = .dit [(.tup (ns.map .int), vd)] := by
          cases rk with
          | tup _ r =>
            have h2 : ∀ {ds : List D} {ns : List Int}, intsO ds = some ns → ds = ns.map D.int := by
              intro ds
              induction ds with
              | nil => intro ns h; cases h; rfl
              | cons d r ih =>
                intro ns h
                cases d <;> first | cases h | skip
                obtain ⟨ns', h1, rfl⟩ := Option.map_eq_some_iff.mp h
                rw [List.map_cons, ← ih h1]
            rw [h2 hk]
          | _ => cases hk
        refine m q G2 _ (ext_free (s0.thn s02) n2 hq hp nc_dto) (upd_free st2 n2 f3 f4 hp nc_dto) n2 hq ?_
        show OwnAt C.F.K C.F.cm G2 _ q (D.dit [(kd, vd)])
        rw [em]
        exact ⟨o', _, upd_same, .cons tq rv .nil⟩
end
end Mi

end
section
set_option Elab.async false
set_option linter.all false
set_option maxRecDepth 100000
set_option autoImplicit false
set_option maxHeartbeats 4000000
/-! defs that return a list of their own making; a, b = x, y -/
namespace Mi
open PySem PySem.Spec PyProof.Rows L2
section
variable {X : Cx} {C : Sc} {O O1 : List Nat} {a b : Expr} {fa fb : Ex} {pos p : Pos} {i j : Nat} {x : Str}
theorem s_retF (ha : PE X a (tN C O fa)) (hx : C.XO O := by trivial) : PS X (.Return (some a) pos) (tS C O O1 (sRet fa)) := ps_imp (ps_ret ha) fun D σ H ⟨G, δ, st, m⟩ => by
  refine ⟨G, δ, st, ?_⟩
  unfold sRet at m
  cases e : fa δ with
  | exc c d δ1 => rw [e] at m; exact fun G' H' cls dd st' x => m O σ G' H' cls dd hx st' x
  | bad => rw [e] at m; exact m
  | ok d δ1 =>
    rw [e] at m
    intro p G1 H1 s1 st1 n hp o
    obtain ⟨_, _, nf, no⟩ := fresh_facts (u := .own p) st hp
    obtain ⟨u, hu, rp⟩ := rp_known o n
    exact m (.ref p) _ H1 (st1.know n nf no hu (o.nc hu).1).ret rp fun _ => ⟨p, G1, rfl, nf, st1.ret, n, o⟩
theorem s_retO {ns : List Nat} (hi : i ∈ O) (hn : C.F.ns = ns) (hno : i ∉ ns) (ha : PE X a (tVar i)) : PS X (.Return (some a) pos) (tS C O O1 (sRet (eV i))) := ps_imp (ps_ret ha) fun D σ H ⟨G, δ, st, m⟩ => by
  obtain ⟨l, d, e1, e2, n, o, z⟩ := st.ow i hi
  have nf : C.F.H l = none := z.resolve_right fun hS => by
    obtain ⟨q, hq, e⟩ := List.mem_map.mp hS
    obtain ⟨h1, h2⟩ := st.fix q hq
    rw [e] at h2
    exact Fm.no hn hno q hq (st.dis i hi q.1 h1 l e1 h2).symm
  unfold sRet at m
  have ev : eV i δ = .ok d δ := by unfold eV; rw [e2]
  rw [ev] at m
  obtain ⟨G', s1, st'⟩ := st.freeze hi (Fm.no hn hno)
  obtain ⟨v, e3, rv⟩ := st'.sh i d (by simp [List.mem_filter]) e2
  rw [e1] at e3
  cases e3
  exact ⟨_, e1, m (.ref l) G' H st'.ret rv fun _ => ⟨l, G, rfl, nf, st.ret, n, o⟩⟩
/-- a call whose result is a new list -/
def eCallF (f : List D → Fr) (as : List Ex) : Ex := fun δ => (eL as δ).bind fun ds δ1 => match f ds with
  | .ok (.lst xs) _ => .ok (.lst xs) δ1
  | .exc c d => .exc c d δ1
  | _ => .bad
/-- a, b = x, y -/
def sPar (i j : Nat) (ea eb : Ex) : Sm := fun δ => (ea δ).out fun d δ1 => (eb δ1).out fun e δ2 => .nx ((δ2.set i (some d)).set j (some e))
theorem s_parD {tg e : Expr} (hi : i ∉ O) (hj : j ∉ O) (h : PS X (.Assign [tg] e pos) (tPar i j (tCons (tD C O fa) (tCons (tD C O fb) tNil)))) (hx : C.XO O := by trivial) : PS X (.Assign [tg] e pos) (tS C O O (sPar i j fa fb)) := ps_imp h fun D σ H ⟨G, δ, st, m⟩ => by
  unfold sPar at m
  refine r_out hx st m fun d v G1 H1 δ1 s1 st1 rv m1 => ?_
  refine r_out hx st1 m1 fun k w G2 H2 δ2 s2 st2 rw2 m2 => ?_
  exact ⟨v, w, rfl, m2 _ G2 H2 (.refl G2) (put_keeps (put_keeps st2 (rv.mono s2.g) hi) rw2 hj)⟩
theorem s_parN {tg e : Expr} {ns : List Nat} {n : Nat} (hn : C.F.ns = ns) (hno : i ∉ ns) (hm : C.F.n = n) (hl : i < n) (hO : O1 = i :: O.filter (· ≠ i)) (hj : j ∉ O1) (h : PS X (.Assign [tg] e pos) (tPar i j (tCons (tN C O fa) (tCons (tD C O fb) tNil)))) (hx : C.XO O := by trivial) : PS X (.Assign [tg] e pos) (tS C O O1 (sPar i j fa fb)) := ps_imp h fun D σ H ⟨G, δ, st, m⟩ => by
  subst hO
  unfold sPar at m
  refine ⟨G, δ, st, ?_⟩
  cases e : fa δ with
  | exc c d δ1 => rw [e] at m; exact fun G' H' cls dd st' x => m O σ G' H' cls dd hx st' x
  | bad => rw [e] at m; exact m
  | ok d δ1 =>
    rw [e, Res.out_ok] at m
    intro p G1 H1 s1 st1 nn hp o
    obtain ⟨_, _, nf, no⟩ := fresh_facts (u := .own p) st hp
    refine ⟨G1, δ1, st1, ?_⟩
    have m := m.mono s1.g
    cases e2 : fb δ1 with
    | exc c d δ2 => rw [e2] at m; exact fun G' H' cls dd st' x => m O σ G' H' cls dd hx st' x
    | bad => rw [e2] at m; exact m
    | ok k δ2 =>
      rw [e2, Res.out_ok] at m
      intro w G2 H2 s2 st2 rw2
      have nS : p ∉ ownS O σ := fun z => by
        obtain ⟨i, hi, e⟩ := mem_ownS.mp z
        exact no i hi e
      have o2 : OwnAt C.F.K C.F.cm G2 H2 p d := o.mono s2.g (by
        cases z : H1 p with
        | none => exact absurd z o.at
        | some u => exact s2.keep p u z nS (o.nc z).1)
      have n2 : G2 p = none := (s2.new p o.at).trans nn
      have st3 := st2.putOwn n2 nf no o2 (i := i) (by rw [st2.ln, hm]; exact hl) (Fm.no hn hno)
      exact ⟨.ref p, w, rfl, m _ G2 H2 s2.g (put_keeps st3 rw2 hj)⟩
end
/-! ### the promise -/
def spF (K : PySem.W.Frag) (cm : CM) (fld : Str → Str) (n : Nat) (own : List Nat) (f : List D → Fr) : Sp := fun vs H Q E => ∃ G ds as, vs.length = n ∧ as.length = own.length ∧ Stt ⟨K, cm, G, H, n, own, as⟩ own G H (vs.map some) (ds.map some) ∧ match f ds with
  | .ok d outs => ∀ v G' H', Ext cm.T as G H G' H' → OutsAt K cm G' H' as outs → Rp K cm G' v d → (v = .non ∨ ∃ p G0, v = .ref p ∧ H p = none ∧ Ext cm.T as G H G0 H' ∧ OutsAt K cm G0 H' as outs ∧ G0 p = none ∧ OwnAt K cm G0 H' p d) → Q v H'
  | .exc c d => ∀ G' H' cls dd, Ext cm.T as G H G' H' → XR K cm fld G' c d cls dd → E cls dd H'
  | .bad => False
section
variable {P : Program} {w : World} {K : PySem.W.Frag} {mg : Str → Option Value} {base : Heap} {cm : CM} {fld : Str → Str}
theorem fn_mirF {x qual : Str} {st : Stmt} {f : Addr} {fd : FuncData} {N ps : List Str} {k n p : Nat} {own : List Nat} {g : Sm} (F : Fun K x qual st f fd) (S : FnScope N ps (defScope st)) (hn : N.length = n) (hp : ps.length = p) (hpn : p ≤ n) (O' : List Nat)
    (hbody : ∀ (cdv : Value) (cd : fd.code = cdv) (A : Around) (outer : List PySem.Env) (s : Shared) (H G : Hp) (E : XK) (as : List Addr), Room k (A.deeper (envOfC qual (defScope st) s.heap.objs.size f cdv)) →
      PSs (cxOf (L2.CX P w) P w K mg base N qual (defScope st) f cdv A outer s H E) (defBody st) (tS ⟨⟨K, cm, G, H, n, own, as⟩, fun cls d _ H => E cls d H, fld, fun _ => True, [], true⟩ own O' g)) :
    FnOk P w K mg base (L2.CX P w) (k + 1) f fd ps (spF K cm fld p own (fnM n p own g)) := by
  subst hn hp
  refine fun_okC F S (fun vs H Q E h => ?_) (fun cdv cd A outer s H vs Q E hr h => ?_)
  · obtain ⟨G, ds, as, hl, _⟩ := h
    exact hl
  · obtain ⟨G, ds, as, hl, hla, st0, m⟩ := h
    refine ⟨_, hbody cdv cd A outer s H G E as hr, G, startE N.length ds, st0.start hla hpn, ?_⟩
    have hld : ds.length = ps.length := by simpa using st0.le
    have hS : (Fm.S ⟨K, cm, G, H, N.length, own, as⟩) = as := zip_snd hla
    unfold fnM at m
    rw [if_pos hld] at m
    cases e : g (startE N.length ds) with
    | nx δ' =>
      rw [e] at m
      cases eo : outsOf own δ' with
      | none => simp only [eo] at m
      | some o =>
        simp only [eo] at m
        intro σ' G' H' s1 st1
        have rs := st1.ret
        have ex := rs.1
        rw [hS] at ex
        exact m .non G' H' ex (outs_of hla rs.2 eo) .non (.inl rfl)
    | rt d δ' =>
      rw [e] at m
      cases eo : outsOf own δ' with
      | none => simp only [eo] at m
      | some o =>
        simp only [eo] at m
        intro v G' H' rs rv fr
        have ex := rs.1
        rw [hS] at ex
        refine m v G' H' ex (outs_of hla rs.2 eo) rv (.inr ?_)
        obtain ⟨q, G0, ev, hq, r0, n0, o0⟩ := fr rfl
        have ex0 := r0.1
        rw [hS] at ex0
        exact ⟨q, G0, ev, hq, ex0, outs_of hla r0.2 eo, n0, o0⟩
    | exc c d δ' =>
      rw [e] at m
      intro O'' σ' G' H' cls dd _ st1 x
      have ex := st1.ext
      rw [hS] at ex
      exact m G' H' cls dd ex x
    | bk δ' => rw [e] at m; exact m.elim
    | ct δ' => rw [e] at m; exact m.elim
    | bad => rw [e] at m; exact m.elim
end
theorem spF_of {K : PySem.W.Frag} {cm : CM} {fld : Str → Str} {n : Nat} {own : List Nat} {f : List D → Fr} (vs : List V) (H : Hp) (Q : VK) (E : XK) (h : spM K cm fld n own f vs H Q E) : spF K cm fld n own f vs H Q E := by
  obtain ⟨G, ds, as, h1, h2, h3, m⟩ := h
  refine ⟨G, ds, as, h1, h2, h3, ?_⟩
  cases e : f ds with
  | ok d outs => rw [e] at m; exact fun v G' H' a b c _ => m v G' H' a b c
  | exc c d => rw [e] at m; exact m
  | bad => rw [e] at m; exact m
/-- a def that returns a new list -/
structure CalF (P : Program) (w : World) (K : PySem.W.Frag) (mg : Str → Option Value) (base : Heap) (cm : CM) (fld : Str → Str) (x : Str) (k n : Nat) (own : List Nat) (f : List D → Fr) : Prop where
  ex : ∃ g fd ps, FnOk P w K mg base (L2.CX P w) k g fd ps (spF K cm fld n own f) ∧ mg x = some (.ref g) ∧ PySem.W.keepIn K (.ref g) = true ∧ Binds K fd ps []
theorem CalF.cal {P : Program} {w : World} {K : PySem.W.Frag} {mg : Str → Option Value} {base : Heap} {cm : CM} {fld : Str → Str} {x : Str} {k n : Nat} {own : List Nat} {f : List D → Fr} (h : CalF P w K mg base cm fld x k n own f) : Cal P w K mg base cm fld x k n own f := by
  obtain ⟨g, fd, ps, F, r⟩ := h.ex
  exact ⟨g, fd, ps, F.imp spF_of, r⟩
theorem calF_mk {P : Program} {w : World} {K : PySem.W.Frag} {mg : Str → Option Value} {base : Heap} {cm : CM} {fld : Str → Str} {x qual : Str} {st : Stmt} {g : Addr} {fd : FuncData} {N ps : List Str} {k n p : Nat} {own : List Nat} {m : Sm} (F : Fun K x qual st g fd) (hm : mg x = some (.ref g)) (hb : Binds K fd ps [])
    (S : FnScope N ps (defScope st)) (hn : N.length = n) (hp : ps.length = p) (hpn : p ≤ n) (O' : List Nat)
    (hbody : ∀ (cdv : Value) (cd : fd.code = cdv) (A : Around) (outer : List PySem.Env) (s : Shared) (H G : Hp) (E : XK) (as : List Addr), Room k (A.deeper (envOfC qual (defScope st) s.heap.objs.size g cdv)) →
      PSs (cxOf (L2.CX P w) P w K mg base N qual (defScope st) g cdv A outer s H E) (defBody st) (tS ⟨⟨K, cm, G, H, n, own, as⟩, fun cls d _ H => E cls d H, fld, fun _ => True, [], true⟩ own O' m)) :
    CalF P w K mg base cm fld x (k + 1) p own (fnM n p own m) := ⟨g, fd, ps, fn_mirF F S hn hp hpn O' hbody, hm, F.kp, hb⟩
section
variable {X : Cx} {C : Sc} {O O1 : List Nat} {a b : Expr} {fa fb : Ex} {pos p : Pos} {i j : Nat} {x : Str} {es : List Expr} {fs : List Ex} {f : List D → Fr} {k n : Nat}
theorem r_callF {σ : L2.St} {H : Hp} {Q : VK} (hn : fs.length = n) (h : tN C O (eCallF f fs) σ H Q) : tA C O (eL fs) σ H fun vs H1 => spF C.F.K C.F.cm C.fld n [] f vs H1 Q (WE C.W σ) := by
  obtain ⟨G, δ, st, m⟩ := h
  refine ⟨G, δ, st, ?_⟩
  unfold eCallF at m
  cases e : eL fs δ with
  | ok ds δ1 =>
    rw [e, Res.bind_ok] at m
    intro vs G1 H1 s1 st1 rv
    have hl : vs.length = n := by rw [rv.length, eL_length e, hn]
    refine ⟨G1, ds, [], hl, rfl, callee0 st1.gh st1.tabs rv hl, ?_⟩
    cases ef : f ds with
    | ok d outs =>
      simp only [ef] at m
      cases d with
      | lst xs =>
        simp only at m
        intro v G2 H2 ex _ r fr
        rcases fr with e0 | ⟨q, G0, ev, hq, ex0, _, n0, o0⟩
        · subst e0
          cases r
        · subst ev
          exact m q G0 H2 (s1.and ex0) (st1.step ex0) n0 (s1.back hq) o0
      | _ => exact m.elim
    | exc c d =>
      simp only [ef] at m
      exact fun G2 H2 cls dd ex x => m G2 H2 cls dd (st1.step ex) x
    | bad => simp only [ef] at m
  | exc c d δ1 => rw [e] at m; exact m
  | bad => rw [e] at m; exact m
theorem n_calF {j : Nat} (c : CalF X.prog X.w X.K X.mg X.base C.F.cm C.fld x k n [] f) (hK : C.F.K = X.K) (hr : Room j X.A) (hk : k ≤ j) (tk : Takes X C.W) (ha : PA X (a :: es) (tA C O (eL fs))) (hn : fs.length = n) (hg : Gl X x := by rfl) (hdb : (x == ("__debug__" : Str)) = false := by decide)
    (he : starEach (a :: es) X.env = (false, eval a X.env) :: starEach es X.env := by rfl) (hpl : (backTo pos (starEach es X.env)).any (·.1) = false := by rfl) : PE X (.Call (.Name x p) (a :: es) [] pos) (tN C O (eCallF f fs)) := by
  obtain ⟨g, fd, ps, F, hm, kp, hb⟩ := c.ex
  rw [← hK] at F
  exact pe_imp (pe_callS (hK ▸ F) (hr.mono hk) hg hm kp hb (fun σ => passAt tk σ) ha hdb he hpl) fun σ H Q h => r_callF hn h
end
end Mi
/-! ### list[l:h:s], the parts constants -/
namespace Mi
open PySem PySem.Spec PyProof.Rows L2
def pickL {α : Type} (xs : List α) (lo hi st : Option Int) : List α := (sliceRange (sliceBounds lo hi st xs.length).1 (sliceBounds lo hi st xs.length).2.1 (sliceBounds lo hi st xs.length).2.2).filterMap (xs[·]?)
theorem pickL_mem {α : Type} {xs : List α} {lo hi st : Option Int} {x : α} (h : x ∈ pickL xs lo hi st) : x ∈ xs := by
  unfold pickL at h
  obtain ⟨i, _, e⟩ := List.mem_filterMap.mp h
  exact List.mem_of_getElem? e
theorem pickL_items (its : List Value) (lo hi st : Option Int) : slicePick its.toArray lo hi st = (pickL its lo hi st).toArray := by
  unfold slicePick pickL
  simp
theorem vals_pick {xs : List V} {us : List Value} (r : Vals xs us) : ∀ is : List Nat, Vals (is.filterMap (xs[·]?)) (is.filterMap (us[·]?))
  | [] => .nil
  | i :: is => by
    have ih := vals_pick r is
    cases e : xs[i]? with
    | none =>
      rw [List.filterMap_cons, List.filterMap_cons, e, r.none_of e]
      exact ih
    | some x =>
      obtain ⟨u, h1, h2⟩ := r.get e
      rw [List.filterMap_cons, List.filterMap_cons, e, h1]
      exact .cons h2 ih
theorem rps_pick {K : PySem.W.Frag} {cm : CM} {G : Hp} {xs : List V} {ds : List D} (r : Rps K cm G xs ds) : ∀ is : List Nat, Rps K cm G (is.filterMap (xs[·]?)) (is.filterMap (ds[·]?))
  | [] => .nil
  | i :: is => by
    have ih := rps_pick r is
    cases e : ds[i]? with
    | none =>
      have e2 : xs[i]? = none := by
        have := List.getElem?_eq_none_iff.mp e
        rw [← r.length] at this
        exact List.getElem?_eq_none this
      rw [List.filterMap_cons, List.filterMap_cons, e, e2]
      exact ih
    | some x =>
      obtain ⟨u, h1, h2⟩ := r.get e
      rw [List.filterMap_cons, List.filterMap_cons, e, h1]
      exact .cons h2 ih
theorem Rps.pick {K : PySem.W.Frag} {cm : CM} {G : Hp} {xs : List V} {ds : List D} {lo hi st : Option Int} (r : Rps K cm G xs ds) : Rps K cm G (pickL xs lo hi st) (pickL ds lo hi st) := by
  unfold pickL
  rw [r.length]
  exact rps_pick r _
def tCO (o : Option Int) : TO := fun _ H R => R o H
section
variable {X : Cx} {a e : Expr} {pos p p2 p3 : Pos} {k : Nat} {i : Int} {l h st : Option Expr} {lo hi so : Option Int} {te : TE}
theorem po_cn : PO X none (tCO none) := po_none
theorem po_ci {t : PO X (some (.Constant (.int i) k p)) (tPart (tC (.int i)))} : PO X (some (.Constant (.int i) k p)) (tCO (some i)) := ⟨fun pins s σ H Q I h => t.run pins s σ H Q I ⟨i, rfl, h⟩⟩
theorem po_cneg {t : PO X (some (.UnaryOp .USub (.Constant (.int i) k p) p2)) (tPart (tUn (rU fun i => .int (-i)) (tC (.int i))))} : PO X (some (.UnaryOp .USub (.Constant (.int i) k p) p2)) (tCO (some (-i))) := ⟨fun pins s σ H Q I h => t.run pins s σ H Q I ⟨i, rfl, -i, rfl, h⟩⟩
theorem pick_len {α : Type} (xs : List α) (lo hi st : Option Int) : (pickL xs lo hi st).length ≤ xs.length := by
  unfold pickL
  refine Nat.le_trans (List.length_filterMap_le _ _) (sliceRange_length_le _ _ _ _ (fun hc => ?_) fun hc => ?_)
  · simp only [sliceBounds] at hc ⊢
    simp only [hc, if_true]
    constructor
    · cases lo with
      | none => simp
      | some i => dsimp only; omega
    · cases hi with
      | none => simp
      | some i => dsimp only; omega
  · simp only [sliceBounds] at hc ⊢
    simp only [hc, if_false]
    constructor
    · cases lo with
      | none => simp
      | some i => dsimp only; omega
    · cases hi with
      | none => simp
      | some i => dsimp only; omega
def rPick (K : PySem.W.Frag) (lo hi so : Option Int) : V → Hp → VK → Prop := fun x H Q => ∃ a xs, x = .ref a ∧ SqL K H a xs ∧ ∀ p, H p = none → Q (.ref p) (upd H p (.lst (pickL xs lo hi so)))
theorem pe_pick (he : PE X e te) (hl : PO X l (tCO lo)) (hh : PO X h (tCO hi)) (hs : PO X st (tCO so)) (h0 : so ≠ some 0) (ht : ∀ ov iv, subscripted (.Slice l h st p3) false ov iv = operate [ov, iv] (getItem ov iv) := by intro _ _; with_unfolding_all rfl) : PE X (.Subscript e (.Slice l h st p3) pos) (tUn (rPick X.K lo hi so) te) := by
  refine ⟨fun pins s σ H Q I h => Subscript_ (thn (he.run pins s σ H _ I h) fun v s1 ⟨x, H1, I1, r1, a, xs, ex, hx, q⟩ => ?_)⟩
  subst ex
  cases r1
  refine wpAny_Slice (thn (hl.run pins s1 σ H1 (fun o H2 => o = lo ∧ H2 = H1) I1 ⟨rfl, rfl⟩) fun vl s2 ⟨_, H2, I2, pl, ⟨el, e2⟩⟩ => ?_)
  subst el e2
  refine thn (hh.run pins s2 σ H2 (fun o H3 => o = hi ∧ H3 = H2) I2 ⟨rfl, rfl⟩) fun vu s3 ⟨_, H3, I3, pu, ⟨eu, e3⟩⟩ => ?_
  subst eu e3
  refine thn (hs.run pins s3 σ H3 (fun o H4 => o = so ∧ H4 = H3) I3 ⟨rfl, rfl⟩) fun vs s4 ⟨_, H4, I4, ps, ⟨eo, e4⟩⟩ => ?_
  subst eo e4
  let s5 : Shared := { s4 with heap := s4.heap.push { cls := .type "slice", data := .fields #[vl, vu, vs] } }
  have I5 : Inv X pins σ H4 s5 := I4.kept (t' := s4.toks) fun b ob q => Heap.get?_push_of_some _ q
  show wpAny (model X.prog X.w) X.A (subscriptTail e (.Slice l _ st p3) (.ref a) (.ref s4.heap.objs.size)) (EP X pins σ Q) X.xe s5
  obtain ⟨its, r, tl, hz⟩ := I5.list hx
  have hlen := r.length
  refine tail_any (ops := [.ref a, .ref s4.heap.objs.size]) tl.isList.typeIs PySem.slot_list_getitem.lookup ?_ (ht _ _)
  refine wpAny_getItem_list_slice tl.isList (Heap.IsSliceOf.new _ _ _ _) pl pu ps h0 ?_ (by rw [List.size_toArray]; omega)
  rw [pickL_items]
  refine ⟨.ref _, _, I5.laid (t' := s5.toks) (o := .lst (pickL xs _ _ _)) (fun b ob q => Heap.get?_push_of_some _ q) (Nat.le_refl _) ⟨Nat.le_trans (pick_len _ _ _ _) hz, _, 0, ?_, Heap.get?_push_size _ rfl⟩, rfl, q _ (I5.hok.fresh (Nat.le_refl _))⟩
  unfold pickL
  rw [hlen]
  exact vals_pick r _
end
def pickD (lo hi so : Option Int) : D → Option D
  | .lst xs => some (.lst (pickL xs lo hi so))
  | _ => none
theorem a_pick {K : PySem.W.Frag} {cm : CM} {lo hi so : Option Int} : N1 K cm (rPick K lo hi so) (pickD lo hi so) := fun G H v d d' Q gh v1 ho a => by
  unfold pickD at ho
  cases d with
  | lst ds =>
    cases ho
    obtain ⟨p, ys, rfl, q, r⟩ := v1.lst gh
    exact ⟨p, ys, rfl, q, fun l n => a l _ n ⟨_, upd_same, r.pick⟩⟩
  | _ => cases ho
end Mi
namespace Mi
open PySem PySem.Spec PyProof.Rows L2
section
variable {X : Cx} {C : Sc} {O : List Nat} {a : Expr} {fa : Ex} {pos p p2 : Pos} {i : Nat} {x : Str}
/-- x.extend(e), e a new list -/
theorem s_ext {ap : Pos} (hi : i ∈ O) (h : PS X (.Expr (.Call (.Attribute (.Name x p) "extend" ap) [a] [] pos) p2) (tDrop (tBM X.K "list" rExtend (tVar i) (tCons (tN C O fa) tNil)))) (hx : C.XO O := by trivial) :
    PS X (.Expr (.Call (.Attribute (.Name x p) "extend" ap) [a] [] pos) p2) (tS C O O (sExt i fa)) := ps_imp h fun D σ H ⟨G, δ, st, m⟩ => by
  unfold sExt at m
  by_cases hL : isL i δ = true
  case neg => rw [if_neg hL] at m; exact m.elim
  rw [if_pos hL] at m
  obtain ⟨l, ds0, xs0, e1, ev0, _, q0, _⟩ := isL_of st hi hL
  refine ⟨_, e1, tyl q0, ?_⟩
  refine ⟨G, δ, st, ?_⟩
  cases e : fa δ with
  | exc c d δ1 => rw [e] at m; exact fun G' H' cls dd st' x => m O σ G' H' cls dd hx st' x
  | bad => rw [e] at m; exact m
  | ok k δ1 =>
    rw [e, Res.out_ok] at m
    intro b G1 H1 s1 st1 nn hp ob
    obtain ⟨l', d, e1', ev, na, o⟩ := st1.ownL hi
    rw [e1] at e1'
    cases e1'
    rw [ev, Res.out_ok] at m
    have m1 := m.mono s1.g
    cases d with
    | lst ds =>
      cases k with
      | lst es =>
        simp only at m1
        obtain ⟨xs, q, r⟩ := o
        obtain ⟨zs, qb, rb⟩ := ob
        by_cases hc : ds.length + es.length ≤ cap
        case neg => rw [if_neg hc] at m1; exact m1.elim
        rw [if_pos hc] at m1
        obtain ⟨st2, ex⟩ := st1.mut (u := .lst (xs ++ zs)) hi e1 na (by rw [q]; simp) (d := .lst (ds ++ es)) ⟨_, upd_same, r.app rb⟩
        exact ⟨l, b, xs, zs, rfl, rfl, q, qb, by rw [r.length, rb.length]; exact Nat.le_trans hc (Nat.le_of_lt cap_line), m1 σ G1 _ (.refl G1) st2⟩
      | _ => exact m1.elim
    | _ => exact m1.elim
end
end Mi
namespace Mi
open PySem PySem.Spec PyProof.Rows L2
section
variable {X : Cx} {C : Sc} {O O1 : List Nat} {fa fb : Ex} {pos : Pos} {i j : Nat}
theorem s_parNN {tg e : Expr} {ns : List Nat} {n : Nat} (hn : C.F.ns = ns) (hno : i ∉ ns) (hnj : j ∉ ns) (hm : C.F.n = n) (hl : i < n) (hlj : j < n) (hO : O1 = j :: (i :: O.filter (· ≠ i)).filter (· ≠ j)) (h : PS X (.Assign [tg] e pos) (tPar i j (tCons (tN C O fa) (tCons (tN C O fb) tNil)))) (hx : C.XO O := by trivial) : PS X (.Assign [tg] e pos) (tS C O O1 (sPar i j fa fb)) := ps_imp h fun D σ H ⟨G, δ, st, m⟩ => by
  subst hO
  unfold sPar at m
  refine ⟨G, δ, st, ?_⟩
  cases e : fa δ with
  | exc c d δ1 => rw [e] at m; exact fun G' H' cls dd st' x => m O σ G' H' cls dd hx st' x
  | bad => rw [e] at m; exact m
  | ok d δ1 =>
    rw [e, Res.out_ok] at m
    intro p G1 H1 s1 st1 nn hp o
    obtain ⟨_, _, nf, no⟩ := fresh_facts (u := .own p) st hp
    refine ⟨G1, δ1, st1, ?_⟩
    have m := m.mono s1.g
    cases e2 : fb δ1 with
    | exc c d δ2 => rw [e2] at m; exact fun G' H' cls dd st' x => m O σ G' H' cls dd hx st' x
    | bad => rw [e2] at m; exact m
    | ok k δ2 =>
      rw [e2, Res.out_ok] at m
      intro p2 G2 H2 s2 st2 nn2 hp2 o3
      obtain ⟨_, _, nf2, no2⟩ := fresh_facts (u := .own p) st1 hp2
      have nS : p ∉ ownS O σ := fun z => by
        obtain ⟨i, hi, e⟩ := mem_ownS.mp z
        exact no i hi e
      have o2 : OwnAt C.F.K C.F.cm G2 H2 p d := o.mono s2.g (by
        cases z : H1 p with
        | none => exact absurd z o.at
        | some u => exact s2.keep p u z nS (o.nc z).1)
      have n2 : G2 p = none := (s2.new p o.at).trans nn
      have hil : i < σ.length := by rw [st2.ln, hm]; exact hl
      have st3 := st2.putOwn n2 nf no o2 (i := i) hil (Fm.no hn hno)
      have ne : p ≠ p2 := fun z => o.at (by rw [z]; exact hp2)
      have st4 := st3.putOwn nn2 nf2 (fun q hq => by
        by_cases z : q = i
        · subst z
          rw [List.getElem?_set_self hil]
          exact fun w => ne (by cases w; rfl)
        · rw [List.getElem?_set_ne (fun w => z w.symm)]
          rcases List.mem_cons.mp hq with w | w
          · exact absurd w z
          · exact no2 q (List.mem_filter.mp w).1) o3 (i := j) (by rw [st3.ln, hm]; exact hlj) (Fm.no hn hnj)
      exact ⟨.ref p, .ref p2, rfl, m _ G2 H2 s2.g st4⟩
end
end Mi

end
section
set_option linter.all false
set_option autoImplicit false
namespace Mi
open PySem PySem.Spec
/-! ### ends -/
/-- a def's end -/
def FEnd0 (own : List Nat) (Q : Fr → Prop) : Out → Prop
  | .nx δ => ∃ o, outsOf own δ = some o ∧ Q (.ok .non o)
  | .rt d δ => ∃ o, outsOf own δ = some o ∧ Q (.ok d o)
  | .exc c d _ => Q (.exc c d)
  | _ => False
/-- the same, closed to unfolding -/
structure FEnd (own : List Nat) (Q : Fr → Prop) (o : Out) : Prop where
  run : FEnd0 own Q o
theorem fn_run {n p : Nat} {own : List Nat} {b : Sm} {ds : List D} {Q : Fr → Prop} (hl : ds.length = p) (h : FEnd own Q (b (startE n ds))) : Q (fnM n p own b ds) := by
  have h := h.run
  unfold fnM
  rw [if_pos hl]
  cases e : b (startE n ds) with
  | nx δ => rw [e] at h; obtain ⟨o, h1, h2⟩ := h; simp only [h1]; exact h2
  | rt d δ => rw [e] at h; obtain ⟨o, h1, h2⟩ := h; simp only [h1]; exact h2
  | exc c d δ => rw [e] at h; exact h
  | _ => rw [e] at h; exact h.elim
@[simp] theorem FEnd_rt {own : List Nat} {Q : Fr → Prop} {d : D} {δ : Env} : FEnd own Q (.rt d δ) ↔ ∃ o, outsOf own δ = some o ∧ Q (.ok d o) := ⟨fun h => h.run, fun h => ⟨h⟩⟩
@[simp] theorem FEnd_nx {own : List Nat} {Q : Fr → Prop} {δ : Env} : FEnd own Q (.nx δ) ↔ ∃ o, outsOf own δ = some o ∧ Q (.ok .non o) := ⟨fun h => h.run, fun h => ⟨h⟩⟩
@[simp] theorem FEnd_exc {own : List Nat} {Q : Fr → Prop} {c : Str} {d : D} {δ : Env} : FEnd own Q (.exc c d δ) ↔ Q (.exc c d) := ⟨fun h => h.run, fun h => ⟨h⟩⟩
@[simp] theorem FEnd_bad {own : List Nat} {Q : Fr → Prop} : FEnd own Q .bad ↔ False := ⟨fun h => h.run, fun h => h.elim⟩
end Mi

end
section
set_option Elab.async false
set_option linter.all false
set_option maxRecDepth 100000
set_option autoImplicit false
set_option maxHeartbeats 4000000
/-! the end of a law with tables of code objects and guards -/
namespace Mi
open PySem PySem.Spec PyProof.Rows L2
/-- a def's code object and its table, which no lambda has filled yet -/
structure TbAt (K : PySem.W.Frag) (h : Heap) (c P : Addr) : Prop where
  e : h.get? P = some (PySem.W.tabObj #[])
  n : K.lookup P = none
  c : PySem.W.CodeHd h c P
/-- the heap that the law is entered with -/
def HpT (ts : List (Addr × Addr)) (J : Hp) : Hp := fun b => if b ∈ ts.map (·.2) then some (.tbl #[]) else J b
theorem law_callT {P : Program} {w : World} {K : PySem.W.Frag} {mg mb : Str → Option Value} {CX : CXT} {k : Nat} {fa a : Addr} {fd : FuncData} {x : Str} {sp : Sp} {s : Shared} {vs : List Value} {ns : List Int} {ts : List (Addr × Addr)} (kIn : K.In s.heap) (hg : s.heap.Ns mainGlobals mg) (hb : s.heap.Ns builtinsNs mb) (hv : ∀ x : Str, x ≠ "__name__" → mb x = bootBuiltins x)
    (hlim : s.heap.NoLimit) (gens : s.gens = #[]) (tb : ∀ p ∈ ts, TbAt K s.heap p.1 p.2)
    (bm : ∃ (z : Addr) (oz : Obj), mg "__builtins__" = some (.ref z) ∧ z ≠ builtinsNs ∧ s.heap.get? z = some oz ∧ oz.cls = .type "module" ∧ oz.dict = some builtinsNs ∧ oz.data = .plain)
    (ha : s.heap.get? a = some { cls := .type "list", data := .seq vs.toArray }) (hi : IntsAre vs ns) (hl : ns.length ≤ sizeLine) (room : Room k callerA) (F : ∀ base : Heap, K.In base → base.Ns mainGlobals mg → (∀ p ∈ ts, LamX.TabB base mg p.1 p.2) → FnG P w K mg base CX k fa fd [x] sp)
    (bnd : ∀ (s : Shared) (u : Value), BindsTo s fd ⟨[u], []⟩ [(x, u)]) (hsp : ∀ J : Hp, (∀ b ps, J b ≠ some (.tbl ps)) → (∀ p ∈ ts, J p.2 = none) → SqL K J a (ns.map V.int) → sp [.ref a] (HpT ts J) (fun v _ => v = .bl true) fun _ _ _ => False) (hCX : ∀ H e s', CX [] H s (fun _ _ _ => False) e s' → False) :
    codeAny (model P w) callerA (.call (.ref fa) ⟨[.ref a], []⟩) (fun r s' => r = .ok (.ret (.bool true)) ∧ OldK s.heap s'.heap ∧ s'.os = s.os ∧ AllBare s'.gens) s := by
  have vals := vals_ints hi
  have lens := hi.length
  have atT : ∀ {b : Addr}, b ∈ ts.map (·.2) → s.heap.get? b = some (PySem.W.tabObj #[]) := fun {b} m => by
    obtain ⟨p, hp, rfl⟩ := List.mem_map.mp m
    exact (tb p hp).e
  have noK : ∀ {b : Addr}, b ∈ ts.map (·.2) → K.lookup b = none := fun {b} m => by
    obtain ⟨p, hp, rfl⟩ := List.mem_map.mp m
    exact (tb p hp).n
  have aT : a ∉ ts.map (·.2) := fun m => by
    have q := atT m
    rw [ha] at q
    exact nomatch (congrArg Obj.data (Option.some.inj q) : Data.seq vs.toArray _ = Data.fields #[])
  have main : ∀ J : Hp, (∀ b, J b = none ∨ ∃ ob xs, J b = some (.frz ob (.lst xs))) → SqL K J a (ns.map V.int) → HOk P w (HpT ts J) s.heap → (∀ b, J b ≠ none → b = a) → (J a ≠ none → K.lookup a = none) → codeAny (model P w) callerA (.call (.ref fa) ⟨[.ref a], []⟩) (fun r s' => r = .ok (.ret (.bool true)) ∧ OldK s.heap s'.heap ∧ s'.os = s.os ∧ AllBare s'.gens) s := by
    intro J only sq ok one away
    have hOn : ∀ {b : Addr}, b ∈ ts.map (·.2) → HpT ts J b = some (.tbl #[]) := fun m => if_pos m
    have hOff : ∀ {b : Addr}, b ∉ ts.map (·.2) → HpT ts J b = J b := fun m => if_neg m
    have off : ∀ {b : Addr} {o : Obj}, s.heap.get? b = some o → (∀ us n, o.data ≠ .seq us n) → o.data ≠ .fields #[] → HpT ts J b = none := fun {b o} e d1 d2 => by
      by_cases m : b ∈ ts.map (·.2)
      · rw [atT m] at e
        cases e
        exact absurd rfl d2
      · rw [hOff m]
        refine Classical.byContradiction fun z => ?_
        rw [one b z, ha] at e
        cases e
        exact d1 _ _ rfl
    have offD : ∀ {b : Addr} {o : Obj} {es : Array DictEntry} {ep : Nat}, s.heap.get? b = some o → o.data = .dict es ep → HpT ts J b = none := fun {b o es ep} e d => off e (fun us n z => by rw [d] at z; cases z) fun z => by rw [d] at z; cases z
    have spaces : ∀ {b : Addr} {m : Str → Option Value}, s.heap.Ns b m → (hidT s.heap (HpT ts J)).Ns b m := fun {b m} ⟨o, es, ep, e, d, r⟩ => ⟨o, es, ep, hidT_get e (offD e d), d, r⟩
    have kBase : K.In (hidT s.heap (HpT ts J)) := fun b o e => hidT_get (kIn b o e) (by
      by_cases m : b ∈ ts.map (·.2)
      · rw [noK m] at e
        cases e
      · rw [hOff m]
        refine Classical.byContradiction fun z => ?_
        have z1 := one b z
        subst z1
        rw [away z] at e
        cases e)
    have modK : Mod K mg (hidT s.heap (HpT ts J)) := ⟨kBase, spaces hg, ⟨mb, spaces hb, hv⟩, let ⟨mc, h1, h2⟩ := hlim; ⟨mc, spaces h1, h2⟩⟩
    have env : Env0 P w K mg (hidT s.heap (HpT ts J)) callerA [] s (HpT ts J) := ⟨rfl, modK, fun b o e => of_hidT e, Nat.le_of_eq (hidT_size _ _), trivial, fun b hb => absurd (show b ∈ ([] : List Addr) from hb) (by simp), ok, .of_eq gens⟩
    have tB : ∀ p ∈ ts, LamX.TabB (hidT s.heap (HpT ts J)) mg p.1 p.2 := fun p hp => by
      have m : p.2 ∈ ts.map (·.2) := List.mem_map.mpr ⟨p, hp, rfl⟩
      constructor
      · obtain ⟨o, us, f1, f2, f3, f4, f5, f6, f7, g1, g2, g3, g4, r⟩ := (tb p hp).c
        refine ⟨o, us, f1, f2, f3, f4, f5, f6, f7, hidT_get g1 (off g1 (fun _ _ z => by rw [g3] at z; cases z) fun z => ?_), g2, g3, g4, r⟩
        rw [g3] at z
        cases z
        cases g4
      · obtain ⟨z, oz, y1, y2, y3, y4, y5, y6⟩ := bm
        refine ⟨z, oz, y1, y2, fun q => ?_, fun q => ?_, hidT_get y3 (off y3 (fun _ _ z => by rw [y6] at z; cases z) fun z => by rw [y6] at z; cases z), y4, y5, y6⟩
        · obtain ⟨o, es, ep, e, d, _⟩ := hg
          rw [q, e] at y3
          cases y3
          rw [d] at y6
          cases y6
        · rw [q, atT m] at y3
          cases y3
          cases y6
      · intro q
        obtain ⟨o, es, ep, e, d, _⟩ := hg
        rw [q, atT m] at e
        cases e
        cases d
    refine codeAny_mono ((F _ kBase (spaces hg) tB).run callerA [] s (HpT ts J) ⟨[.ref a], []⟩ [.ref a] [.ref a] _ _ rfl room env (bnd s (.ref a)) (.cons rfl .nil) (hsp J (fun b ps z => ?_) (fun p hp => ?_) sq)) fun r s' hr => ?_
    · rcases only b with q | ⟨_, _, q⟩ <;> rw [q] at z <;> cases z
    · refine Classical.byContradiction fun z => ?_
      have z1 := one p.2 z
      exact aT (z1 ▸ List.mem_map.mpr ⟨p, hp, rfl⟩)
    rcases r with er | fl
    · exact (hCX _ er s' hr).elim
    cases fl with
    | next => exact False.elim hr
    | brk => exact False.elim hr
    | cont => exact False.elim hr
    | ret u =>
      obtain ⟨v, H', os, bare, un, ok', ru, q⟩ := hr
      obtain rfl : v = .bl true := q
      obtain rfl : u = Value.bool true := ru
      have same : ∀ b o, b ∉ ts.map (·.2) → s.heap.get? b = some o → s'.heap.get? b = some o := fun b o m e => by
        rcases only b with z | ⟨ob, xs, z⟩
        · exact un.keep b o e ((hOff m).trans z) (fun y => absurd (show b ∈ ([] : List Addr) from y) (by simp)) (by simp)
        · have z2 := un.frzs b ob _ ((hOff m).trans z)
          obtain ⟨e1, _⟩ := ok b _ ((hOff m).trans z)
          obtain ⟨e2, _⟩ := ok' b _ z2
          rw [e] at e1
          cases e1
          exact e2
      have more : ∀ b, b ∈ ts.map (·.2) → ∃ m : Array Value, s'.heap.get? b = some (PySem.W.tabObj m) := fun b m => by
        obtain ⟨y, z⟩ := un.tbls b #[] (hOn m)
        exact ⟨_, ok' b _ z⟩
      refine ⟨rfl, ⟨fun b o e => ?_, fun b o e => ?_⟩, os, bare⟩
      · by_cases m : b ∈ ts.map (·.2)
        · obtain ⟨y, hy⟩ := more b m
          rw [atT m] at e
          cases e
          obtain ⟨p, hp, rfl⟩ := List.mem_map.mp m
          exact .inr (.inl ⟨((tb p hp).c.tab (tb p hp).e).isCodeTable, rfl, #[], y, rfl, by rw [Array.empty_append]; exact hy⟩)
        · exact .inl (same b o m e)
      · by_cases m : b ∈ ts.map (·.2)
        · obtain ⟨y, hy⟩ := more b m
          exact ⟨_, hy⟩
        · exact ⟨o, same b o m e⟩
  have okT : ∀ {J : Hp}, (∀ b u, J b = some u → ObjOk P w (HpT ts J) s.heap b u) → HOk P w (HpT ts J) s.heap := fun {J} h b u z => by
    by_cases m : b ∈ ts.map (·.2)
    · have z2 : some (HO.tbl #[]) = some u := (if_pos m).symm.trans z
      cases z2
      exact atT m
    · exact h b u ((if_neg m).symm.trans z)
  cases hk : K.lookup a with
  | some o =>
    have e := kIn a o hk
    rw [ha] at e
    cases e
    exact main (fun _ => none) (fun _ => .inl rfl) (.inr ⟨_, vs.toArray, _, hk, rfl, rfl, rfl, by rw [List.size_toArray, lens]; exact hl, by simpa using vals⟩) (okT fun b u z => nomatch (show (none : Option HO) = some u from z)) (fun b z => absurd rfl z) fun z => absurd rfl z
  | none =>
    let Js : Hp := fun b => if b = a then some (.frz { cls := .type "list", data := .seq vs.toArray } (.lst (ns.map V.int))) else none
    have h1 : Js a = some (.frz { cls := .type "list", data := .seq vs.toArray } (.lst (ns.map V.int))) := if_pos rfl
    have h2 : ∀ b, b ≠ a → Js b = none := fun b z => if_neg z
    refine main Js (fun b => ?_) (.inl (.inr ⟨_, h1⟩)) (okT fun b u z => ?_) (fun b z => Classical.byContradiction fun y => z (h2 b y)) fun _ => hk
    · by_cases y : b = a
      · exact .inr ⟨_, _, by rw [y]; exact h1⟩
      · exact .inl (h2 b y)
    · by_cases y : b = a
      · subst y
        rw [h1] at z
        cases z
        exact ⟨ha, by rw [List.length_map]; exact hl, vs, _, vals, ha⟩
      · rw [h2 b y] at z
        cases z
/-- what the top's own tables are: the defs that make lambdas, by name -/
def TopT (q : Program) (K : PySem.W.Frag) (mg : Str → Option Value) (h : Heap) : Prop := ∀ (x : Str) (g c P : Addr) (o : Obj) (fd : FuncData) (e : Value) (dd : Option Addr) (vs : Array Value) (sl : Array (Option Value)), ((recsOf q).any fun d => d.name == x) = true → mg x = some (.ref g) →
  K.lookup g = some o → o.data = .func fd → fd.code = .ref c → K.lookup c = some ⟨e, dd, .fields vs, sl⟩ → vs[11]? = some (.ref P) → K.lookup P = none → TbAt K h c P
theorem walkT {l : PySem.W.OpenLaw} {n k : Nat} {q : Program} {loose : List Str} {XP : (Str → Option Value) → Heap → Prop} {YP : World → Heap → Prop} {d : DefRec} {K : Params → PySem.W.Frag} {CX : World → CXT} {sp : World → List (Addr × Addr) → Sp} {x : Str} (hn : l.most = some n) (hn2 : n ≤ sizeLine) (hdf : d.params.defaults = []) (hr : Room k callerA)
    (hY : ∀ (w : World) (h : Heap), YP w h → (K w.params).In h) (F : ∀ (w : World) (mg : Str → Option Value) (fa : Addr) (h : Heap), (K w.params).In h → h.Ns mainGlobals mg → mg d.name = some (.ref fa) → TopT q (K w.params) mg h →
      ∃ (ts : List (Addr × Addr)) (fd : FuncData), (∀ p ∈ ts, TbAt (K w.params) h p.1 p.2) ∧ (∀ (s : Shared) (u : Value), BindsTo s fd ⟨[u], []⟩ [(x, u)]) ∧ ∀ base : Heap, (K w.params).In base → base.Ns mainGlobals mg → (∀ p ∈ ts, LamX.TabB base mg p.1 p.2) → FnG l.prog w (K w.params) mg base (CX w) k fa fd [x] (sp w ts))
    (hsp : ∀ (w : World) (ts : List (Addr × Addr)) (J : Hp) (a : Addr) (ns : List Int), ns.length ≤ n → (∀ b ps, J b ≠ some (.tbl ps)) → (∀ p ∈ ts, J p.2 = none) → SqL (K w.params) J a (ns.map V.int) → sp w ts [.ref a] (HpT ts J) (fun v _ => v = .bl true) fun _ _ _ => False)
    (hCX : ∀ (w : World) (H : Hp) (s : Shared) (e : Value) (s' : Shared), CX w [] H s (fun _ _ _ => False) e s' → False) : PySem.W.WalkO q loose XP YP l.row.toRowW d [] (fun f vs => PySem.call f vs) :=
  Att.attach_call hn hdf fun w s₀ s₁ mg mb fa o pm cd doc a vs ns G Y ho hd hcd hmg hobj hints hlen hg => by
    have kin := hY w _ Y
    have top : TopT q (K w.params) mg s₁.heap := fun x g c P o fd e dd vs sl hx hm k1 k2 k3 k4 k5 k6 => by
      obtain ⟨r, hr1, hr2⟩ := List.any_eq_true.mp hx
      obtain ⟨a', o', fd', c', P', h1, h2, h3, h4, h5, h6⟩ := G.T.tab r hr1
      rw [beq_iff_eq.mp hr2, hm] at h1
      cases h1
      rw [kin _ _ k1] at h2
      cases h2
      rw [k2] at h3
      cases h3
      rw [k3] at h4
      cases h4
      have hd := PySem.W.CodeHd.of h5 h6
      obtain ⟨⟨oc, vc, e1, _, e3, e4⟩, hP⟩ := h6
      rw [kin _ _ k4] at e1
      cases e1
      cases e3
      rw [k5] at e4
      cases e4
      exact ⟨hP, k6, hd⟩
    obtain ⟨ts, fd, ht, hb, hF⟩ := F w mg fa _ kin G.T.g hmg top
    exact law_callT kin G.T.g G.T.b G.T.builtins G.T.nolimit hg ht G.T.bmain hobj hints (Nat.le_trans hlen hn2) hr hF hb (fun J nt nz hS => hsp w ts J a ns hlen nt nz hS) fun H e s' => hCX w H s₁ e s'
end Mi

end
section
set_option Elab.async false
set_option linter.all false
set_option maxRecDepth 100000
set_option autoImplicit false
set_option maxHeartbeats 4000000
/-! x(lambda: e), where the def x calls what it gets inside of a try -/
namespace Mi
open PySem PySem.Spec PyProof.Rows L2
def askOf : Res D → Fr
  | .ok d _ => .ok d []
  | .exc c d _ => .exc c d
  | .bad => .bad
/-- F: what the def makes of the lambda's end -/
def eThunk (O : List Nat) (F : Fr → Fr) (e : Ex) : Ex := fun δ => match F (askOf (e (wipeE δ O))) with
  | .ok d _ => .ok d δ
  | _ => .bad
/-- tl: the reading of the call of the lambda; r: its end -/
def AskR (K : PySem.W.Frag) (cm : CM) (fld : Str → Str) (G H : Hp) (r : Fr) (tl : XK → Hp → VK → Prop) : Prop :=
  ∀ (G1 H1 : Hp) (E : XK) (Q1 : VK), Ext cm.T [] G H G1 H1 → (match r with
    | .ok d _ => ∀ v G' H', Ext cm.T [] G1 H1 G' H' → Rp K cm G' v d → Q1 v H'
    | .exc c d => ∀ G' H' cls dd, Ext cm.T [] G1 H1 G' H' → XR K cm fld G' c d cls dd → E cls dd H'
    | .bad => False) → tl E H1 Q1
def TTm (K : PySem.W.Frag) (cm : CM) (fld : Str → Str) (F : Fr → Fr) : (XK → Hp → VK → Prop) → Hp → VK → Prop := fun tl H Q => ∃ (G : Hp) (r : Fr), Sg G H ∧ TbO cm.T H ∧ AskR K cm fld G H r tl ∧ match F r with
  | .ok d _ => ∀ v G' H', Ext cm.T [] G H G' H' → Rp K cm G' v d → Q v H'
  | _ => False
/-- x() in the def that got the lambda; what it lets out is wished at the state of the call -/
theorem pe_ask {Z : CXT} {E0 : XK} {Ns : List Str} {qn y : Str} {sc : Scope} {dg f d : Addr} {cv pm ct : Value} {pa : Arguments} {bd : Expr} {sl : Scope} {k i : Nat} {pn : List (Addr × Obj)} {xe : Value → Shared → Prop} {W : WX} {tb : XK → TE} {p1 p2 : Pos} {X : Cx} {pins : List (Addr × Obj)} {σ : L2.St} {H : Hp} {z : Shared}
    (I : Inv X pins σ H z) (L : LamX.LamS X.env.scope sl) (of : z.heap.get? f = some (PySem.W.kla_obj "<lambda>" (X.env.qual ++ "<lambda>") pa bd sl (cloFrom X.env.cells sl.names []) pm d ct)) (fH : H f = none) (fF : f ∉ frs X.stack)
    (bind : bindArgs (PySem.W.kla_fn "<lambda>" (X.env.qual ++ "<lambda>") pa bd sl (cloFrom X.env.cells sl.names []) pm (.ref d) ct) ⟨[], []⟩ = pure [])
    (tk : Takes ((cxOf Z X.prog X.w X.K X.mg X.base Ns qn sc dg cv X.A X.stack z H E0).tr pn xe) W) (room : Room (k + 1) (X.A.deeper (envOfC qn sc z.heap.objs.size dg cv)))
    (body : ∀ (E : XK) (A : Around) (outer : List PySem.Env) (s : Shared) (H : Hp), Room k (A.deeper (LamX.lamEnv X sl s.heap.objs.size f d)) → PE (LamX.lamCx X A outer s H E sl f d) bd (tb E))
    (nm : Ns[i]? = some y) (vis : Vis sc y) (y1 : (y == ("__debug__" : Str)) = false) (y2 : (y == ("__classdict__" : Str)) = false) :
    PE ((cxOf Z X.prog X.w X.K X.mg X.base Ns qn sc dg cv X.A X.stack z H E0).tr pn xe) (.Call (.Name y p1) [] [] p2) (fun σ2 H2 Q => σ2[i]? = some (some (.ref f)) ∧ H2 d = some (LamX.CodeO d (X.env.qual ++ "<lambda>")) ∧ tb (WE W σ2) σ H2 Q) := by
  refine ⟨fun pins2 s2 σ2 H2 Q J ⟨q1, q2, q3⟩ => wpAny_Call_Name_kw (thn ((pe_var (pos := p1) (i := i) nm vis y1 y2).run pins2 s2 σ2 H2 (fun v h => v = .ref f ∧ h = H2) J ⟨.ref f, q1, rfl, rfl⟩) fun u s3 ⟨v, h3, J3, rv, ev, eh⟩ => ?_)⟩
  subst ev eh
  obtain rfl : u = Value.ref f := rv
  have kb : Un (frs X.stack) [] H h3 z.heap s3.heap := J3.base
  have of3 : s3.heap.get? f = some (PySem.W.kla_obj "<lambda>" (X.env.qual ++ "<lambda>") pa bd sl (cloFrom X.env.cells sl.names []) pm d ct) := kb.keep f _ of fH fF (fun m => nomatch (show f ∈ ([] : List Addr) from m))
  obtain ⟨⟨oc, us, t0, c1, c2, c3⟩, _, _⟩ := J3.hok d _ q2
  refine PySem.W.callWith_F0 ⟨_, _, _, _, of3⟩ (wpAny_call (codeAny_mono (R := CR (L2.CX X.prog X.w) (envOfC qn sc z.heap.objs.size dg cv :: X.stack) X.prog X.w h3 s3 Q (WE W σ2)) ?_ fun r s4 hq => ?_))
  · refine PySem.W.kla_callFunE room.depth of3 rfl L.co L.gen rfl ⟨d, oc, us, t0, rfl, c1, c2, c3⟩ ?_
    rw [show ([] ++ [] : List Value) = [] from rfl, bind]
    refine wpAny_pure (wpAny_newFunctionEnv (fun y hy => (L.own y hy).2) (fun y hy => absurd hy (by simp)) (fun h4 ns ex => ⟨J3.nolimit.fresh _ ex, ?_⟩) L.kind)
    have I4 : Inv (LamX.lamCx X (X.A.deeper (envOfC qn sc z.heap.objs.size dg cv)) (envOfC qn sc z.heap.objs.size dg cv :: X.stack) s3 h3 (WE W σ2) sl f d) [] σ h3 { s3 with heap := h4, toks := s3.toks + ([] : List (Str × Value)).length } :=
      LamX.lam_start2 I L J3.env0 room.hd kb ns fun b o e => ex.extBut b o (Nat.ne_of_lt (Heap.lt_size e)) (Heap.get?_push_of_some _ e)
    show codeAny _ _ (.expr bd (LamX.lamEnv X sl s3.heap.objs.size f d)) _ _
    refine PySem.W.kla_codeExpr (wpAny_mono ((body (WE W σ2) _ _ s3 h3 (room.deeper _)).run [] _ _ h3 Q I4 q3) (fun v s5 hv => ?_) fun e s5 he => he)
    obtain ⟨w, h5, I5, rw5, qw⟩ := hv
    exact ⟨w, h5, I5.os, I5.bare, I5.base, I5.hok, rw5, qw⟩
  · rcases r with er | fl
    · exact (passAt tk σ2) pins2 h3 s3 er s4 J3 hq
    · cases fl with
      | ret u => exact J3.after hq
      | next => exact False.elim hq
      | brk => exact False.elim hq
      | cont => exact False.elim hq
/-- the def keeps what TT tells of the call of what it gets -/
def GivesM (X : Cx) (Ng : List Str) (x : Str) (sg : Scope) (g : Addr) (cdg : Value) (bg : List Stmt) (a : Str) (q : Str) (TT : (XK → Hp → VK → Prop) → Hp → VK → Prop) : Prop :=
  ∀ (f d : Addr) (s : Shared) (H : Hp) (Q : VK) (tl : XK → Hp → VK → Prop),
    (∀ (W : WX) (pn : List (Addr × Obj)) (xe : Value → Shared → Prop) (p1 p2 : Pos), Takes ((cxOf C8.CX0 X.prog X.w X.K X.mg X.base Ng x sg g cdg X.A X.stack s H C8.E0).nox.tr pn xe) W →
      PE ((cxOf C8.CX0 X.prog X.w X.K X.mg X.base Ng x sg g cdg X.A X.stack s H C8.E0).nox.tr pn xe) (.Call (.Name a p1) [] [] p2) (fun σ2 H2 Q => σ2[0]? = some (some (.ref f)) ∧ H2 d = some (LamX.CodeO d q) ∧ tl (WE W σ2) H2 Q)) →
    H d = some (LamX.CodeO d q) → TT tl H Q →
    ∃ t, PSs (cxOf C8.CX0 X.prog X.w X.K X.mg X.base Ng x sg g cdg X.A X.stack s H C8.E0).nox bg t ∧ t { nx := fun _ H' => Q .non H', rt := Q } (L2.start Ng [.ref f]) H
/-- a def that calls its one argument -/
structure ThkD (P : Program) (w : World) (K : PySem.W.Frag) (mg : Str → Option Value) (base : Heap) (cm : CM) (fld : Str → Str) (x : Str) (F : Fr → Fr) : Prop where
  ex : ∃ (a : Str) (g : Addr) (pg : Arguments) (bg : List Stmt) (sg : Scope) (dV kV doc pm cdv ct oc : Value) (an od : Option Addr) (osl : Array (Option Value)) (Ng : List Str),
    mg x = some (.ref g) ∧ PySem.W.keepIn K (.ref g) = true ∧ K.lookup g = some ⟨oc, od, .func (PySem.W.fnOf x x pg bg sg dV kV doc pm an cdv ct), osl⟩ ∧ PySem.W.codeIn K cdv x = true ∧ L2.Binds K (PySem.W.fnOf x x pg bg sg dV kV doc pm an cdv ct) [a] [] ∧ FnScope Ng [a] sg ∧
    Ng[0]? = some a ∧ Vis sg a ∧ (a == ("__debug__" : Str)) = false ∧ (a == ("__classdict__" : Str)) = false ∧
    ∀ (X : Cx) (q : Str), X.prog = P → X.w = w → X.K = K → X.mg = mg → X.base = base → GivesM X Ng x sg g cdv bg a q (TTm K cm fld F)
/-- what follows the making of a lambda: its function object f, its code object d -/
def LamGo (X : Cx) (pins : List (Addr × Obj)) (σ : L2.St) (T : List (Addr × Str)) (H : Hp) (ps : Arguments) (b : Expr) (sc : Scope) (Q : Value → Shared → Prop) : Prop :=
  ∀ (f d : Addr) (pm ct : Value) (J : Hp) (z : Shared), Inv X pins σ J z → LamX.ExtN H J → (∀ a, H a ≠ none → J a ≠ none) → TbO T J → J f = none → f ∉ frs X.stack → J d = some (LamX.CodeO d (X.env.qual ++ "<lambda>")) →
    z.heap.get? f = some (PySem.W.kla_obj "<lambda>" (X.env.qual ++ "<lambda>") ps b sc (cloFrom X.env.cells sc.names []) pm d ct) → Q (.ref f) z
theorem lam_go {X : Cx} {pins : List (Addr × Obj)} {σ : L2.St} {H : Hp} {z : Shared} {T : List (Addr × Str)} {cd tb : Addr} {ps : Arguments} {b : Expr} {sc : Scope} {ln : Pos} {E Q : Value → Shared → Prop} (I : Inv X pins σ H z) (B : LamX.TabB X.base X.mg cd tb) (hc : X.env.code = .ref cd)
    (mem : (tb, X.env.qual ++ "<lambda>") ∈ T) (one : ∀ p ∈ T, p.1 = tb → p.2 = X.env.qual ++ "<lambda>") (t : TbO T H) (nd : defaultsOf ps X.env = ([], [])) (fre : ∀ y ∈ sc.names, y.2 = .free → ∃ c, X.env.cells.lookup y.1 = some c) (go : LamGo X pins σ T H ps b sc Q) :
    wpAny (model X.prog X.w) X.A (eval (.Lambda ps b sc ln) X.env) Q E z := by
  obtain ⟨rows, hT, ok, mine⟩ := t.1 _ mem
  have objT : z.heap.get? tb = some (PySem.W.tabObj rows) := I.hok tb _ hT
  have far : ∀ g, z.heap.objs.size ≤ g → g ∉ frs X.stack := fun g hg m => (List.mem_cons.mp (I.stkSub _ m)).elim (fun e => absurd (e ▸ I.lt) (Nat.not_lt.mpr hg)) (I.nofs hg)
  have bi := B.bm.keeps I.bk
  have gl := I.mod.glob.keeps I.bk
  refine PySem.W.kla_eval nd ?_
  rcases q : codeAmong ln rows.toList with _ | v
  · refine PySem.W.kla_makeFunction (mg := X.mg) (c := cd) (P := tb) (ps := rows) (closure_ok fre) I.ok.glob gl hc (B.code.keeps I.bk) objT ok q B.gP bi fun d ct h2 k2 kx ge lt cr tx => ?_
    obtain ⟨_, oc, us, t0, ed, k1, k3, k4⟩ := cr
    cases ed
    have nd' : H d = none := I.hok.fresh ge
    have ne : tb ≠ d := ne_of_none hT nd'
    let more := #[rawInt ln.line, rawInt ln.col, Value.ref d]
    let fo := PySem.W.kla_obj "<lambda>" (X.env.qual ++ "<lambda>") ps b sc (cloFrom X.env.cells sc.names []) ((X.mg "__name__").getD .none) d ct
    have J := LamX.inv_table (t' := k2) (more := more) (h' := h2.push fo) I hT (fun a o n e => Heap.get?_push_of_some _ (kx a o n e)) (Heap.get?_push_of_some _ tx) ge ⟨oc, us, t0, Heap.get?_push_of_some _ k1, k3, k4⟩
    have at0 : ∀ a, a ≠ d → a ≠ tb → upd (upd H tb (.tbl (rows ++ more))) d (LamX.CodeO d (X.env.qual ++ "<lambda>")) a = H a := fun a n1 n2 => by rw [upd_ne n1, upd_ne n2]
    have at1 : upd (upd H tb (.tbl (rows ++ more))) d (LamX.CodeO d (X.env.qual ++ "<lambda>")) tb = some (.tbl (rows ++ more)) := by rw [upd_ne ne, upd_same]
    have big := Nat.le_trans ge (Nat.le_of_lt lt)
    have xn : LamX.ExtN H (upd (upd H tb (.tbl (rows ++ more))) d (LamX.CodeO d (X.env.qual ++ "<lambda>"))) := fun a o e n => (at0 a (ne_of_none e nd') fun y => n rows (by rw [y, hT] at e; exact (Option.some.inj e).symm)).trans e
    refine go h2.objs.size d _ ct _ _ J xn (fun a ha => ?_) ⟨fun p hp => ?_, fun a r e => ?_⟩ ?_ (far _ big) upd_same (Heap.get?_push_size _ rfl)
    · by_cases y : a = tb
      · rw [y, at1]; exact fun w => nomatch w
      · by_cases y2 : a = d
        · exact absurd (y2 ▸ nd') ha
        · rw [at0 a y2 y]; exact ha
    · by_cases y : p.1 = tb
      · rw [one p hp y, y]
        refine ⟨_, at1, by rw [Array.toList_append]; exact PySem.TriplesOk_snoc _ _ _ _ ok, fun p2 cv hv => ?_⟩
        rw [Array.toList_append] at hv
        rcases LamX.among_app _ ok hv with w | w
        · obtain ⟨c0, e1, e2⟩ := mine p2 cv w
          exact ⟨c0, e1, xn _ _ e2 LamX.codeO_ne⟩
        · exact ⟨d, w, upd_same⟩
      · obtain ⟨r1, e1, e2, e3⟩ := t.1 p hp
        refine ⟨r1, (at0 _ (ne_of_none e1 nd') y).trans e1, e2, fun p2 cv hv => ?_⟩
        obtain ⟨c0, f1, f2⟩ := e3 p2 cv hv
        exact ⟨c0, f1, xn _ _ f2 LamX.codeO_ne⟩
    · by_cases y : a = tb
      · exact ⟨_, mem, y.symm⟩
      · by_cases y2 : a = d
        · rw [y2, upd_same] at e
          exact absurd (Option.some.inj e) (LamX.codeO_ne _)
        · rw [at0 a y2 y] at e
          exact t.2 a r e
    · rw [at0 _ (Nat.ne_of_gt lt) (Nat.ne_of_gt (Nat.lt_of_lt_of_le (Heap.lt_size objT) big))]
      exact I.hok.fresh big
  · obtain ⟨d, rfl, kd⟩ := mine ln v q
    refine PySem.W.kla_makeFunctionHit (mg := X.mg) (c := cd) (P := tb) (ps := rows) (closure_ok fre) I.ok.glob gl hc (B.code.keeps I.bk) objT ok q bi fun ct h2 k2 kx ge => ?_
    exact go h2.objs.size d _ ct H _ (I.kept (t' := k2) fun a o e => Heap.get?_push_of_some _ (kx a o e)) (.refl H) (fun _ h => h) t (I.hok.fresh ge) (far _ ge) kd (Heap.get?_push_size _ rfl)
/-- the def at hand has a table of its own for lambdas -/
def LamAt (X : Cx) (cm : CM) : Prop := ∃ c P, X.env.code = .ref c ∧ LamX.TabB X.base X.mg c P ∧ (P, X.env.qual ++ "<lambda>") ∈ cm.T ∧ ∀ p ∈ cm.T, p.1 = P → p.2 = X.env.qual ++ "<lambda>"
theorem pe_exz {α : Type} {X : Cx} {e : Expr} {t : α → TE} (h : ∀ z, PE X e (t z)) : PE X e (fun σ H Q => ∃ z, t z σ H Q) := ⟨fun pins s σ H Q I ⟨z, w⟩ => (h z).run pins s σ H Q I w⟩
theorem d_thunk {X : Cx} {C : Sc} {O : List Nat} {x : Str} {p lpos pos : Pos} {params : Arguments} {body : Expr} {scope : Scope} {F : Fr → Fr} {e : Ex} {k j : Nat} (t : ThkD X.prog X.w X.K X.mg X.base C.F.cm C.fld x F) (hK : C.F.K = X.K) (lam : LamAt X C.F.cm) (hr : Room j X.A) (hk : k + 2 ≤ j)
    (hbody : ∀ (A : Around) (outer : List PySem.Env) (s : Shared) (H : Hp) (E : XK) (f c' : Addr) (z : Hp × Hp), Room k (A.deeper (LamX.lamEnv X scope s.heap.objs.size f c')) → PE (LamX.lamCx X A outer s H E scope f c') body (tD ⟨⟨C.F.K, C.F.cm, z.1, z.2, C.F.n, [], []⟩, fun cls d _ H => E cls d H, C.fld, fun _ => True, [], false⟩ [] e))
    (hg : Gl X x := by rfl) (L : LamX.lamSB X.env.scope scope = true := by rfl) (hdef : defaultsOf params X.env = ([], []) := by rfl) (hbind : ∀ (q : Str) (cl : List (Str × Addr)) (pm cv ctv : Value), bindArgs (PySem.W.kla_fn "<lambda>" q params body scope cl pm cv ctv) ⟨[], []⟩ = pure [] := by intros; rfl) (hdb : (x == ("__debug__" : Str)) = false := by decide) :
    PE X (.Call (.Name x p) [.Lambda params body scope lpos] [] pos) (tD C O (eThunk O F e)) := by
  obtain ⟨a, g, pg, bg, sg, dV, kV, doc, pm, cdv, ct, oc, an, od, osl, Ng, hm, kp, lk, code, hb, hS, hN, hv, hd, hcd, hG⟩ := t.ex
  obtain ⟨c, P, hcode, TB, hmT, hu⟩ := lam
  obtain ⟨⟨K0, cm, G0, H0, n, ns, as⟩, W, fld, XO, Lo, fr⟩ := C
  have hK : K0 = X.K := hK
  subst hK
  have L' := LamX.lamS_by L
  refine ⟨fun pins s σ H Q I h => ?_⟩
  obtain ⟨G, δ, st, m⟩ := h
  refine wpAny_Call_Name_kw (ld_glob I hg hm (PySem.W.callWith_K (h₀ := X.base) I.ok.mod.kin kp ?_ (by rfl) (by rfl)) hdb)
  show wpAny _ _ (spliced ((false, eval (.Lambda params body scope lpos) X.env) :: backTo pos (starEach [] X.env))) _ _ s
  refine Calls.spliced_cons (lam_go I TB hcode hmT hu st.tabs hdef (L'.has I.ok) fun f d pm' ct' J z I1 xn dm tb nf ff hd0 hf => ?_)
  refine Calls.spliced_nil ⟨I1.kIn, ?_⟩
  have sg1 : Sg G J := ⟨fun b o h => xn b o (st.gh b o h) (st.gh.nt b o h), st.gh.nt⟩
  have e01 : Ext cm.T [] G H G J := ⟨.refl G, sg1, fun b o h _ ht => xn b o h ht, fun _ _ => rfl, dm, fun _ => tb⟩
  have st1 := st.step e01
  have rc : codeAny (model X.prog X.w) X.A (.call (.ref g) ⟨[.ref f], []⟩) (CR C8.CX0 X.stack X.prog X.w J z Q C8.E0) z := by
    refine LamX.run_ofS (N := Ng) (ps := [a]) (us := [.ref f]) (vs := [.ref f]) lk code hS (hr.mono hk) I1.env0 (hb z [.ref f] I1.kIn rfl) (.cons rfl .nil) rfl fun hr' => ?_
    have act := hG X (X.env.qual ++ "<lambda>") rfl rfl rfl rfl rfl f d z J Q (fun E H' Q' => ∃ w : Hp × Hp, tD ⟨⟨X.K, cm, w.1, w.2, n, [], []⟩, fun cls d _ H => E cls d H, fld, fun _ => True, [], false⟩ [] e σ H' Q')
      (fun W pn xe p1 p2 tk => pe_ask (Z := C8.CX0) (E0 := C8.E0) (i := 0) I1 L' hf nf ff (hbind _ _ _ _ _) tk hr' (fun E A outer s H hr2 => pe_exz fun w => hbody A outer s H E f d w hr2) hN hv hd hcd) hd0 ?_
    · obtain ⟨t', ht', hq'⟩ := act
      exact ⟨t', ht'.nox, hq'⟩
    · refine ⟨G, askOf (e (wipeE δ O)), sg1, tb, fun G1 H1 E Q1 ex r => ?_, ?_⟩
      · have st2 := st1.step ex
        refine ⟨(G1, H1), G1, wipeE δ O, ?_, ?_⟩
        · exact {
            ext := .refl st2.gh
            ln := st2.ln
            le := by rw [wipeE_length]; exact st2.le
            sh := fun i dd _ h => by
              obtain ⟨h1, h2⟩ := wipeE_at h
              exact st2.sh i dd h2 h1
            ow := fun i hi => by cases hi
            dis := fun i hi => by cases hi
            fix := fun p hp => by cases hp
            tabs := st2.tabs }
        · cases ee : e (wipeE δ O) with
          | ok dd δ' => rw [ee] at r; exact fun v G' H' s' _ rv => r v G' H' s' rv
          | exc cc dd δ' => rw [ee] at r; exact fun G' H' cls dx st' xr => r G' H' cls dx st'.ext xr
          | bad => rw [ee] at r; exact r
      · unfold eThunk at m
        cases ef : F (askOf (e (wipeE δ O))) with
        | ok dd outs =>
          rw [ef] at m
          exact fun v G' H' ex rv => m v G' H' ((Ext.refl (T := cm.T) st.gh).and (e01.and ex)) (st1.step ex) rv
        | exc cc dd => rw [ef] at m; exact m.elim
        | bad => rw [ef] at m; exact m.elim
  refine wpAny_call (codeAny_mono rc fun r s2 hq => ?_)
  rcases r with er | fl
  · exact (show False from hq).elim
  · cases fl with
    | ret u => exact I1.after hq
    | next => exact False.elim hq
    | brk => exact False.elim hq
    | cont => exact False.elim hq
end Mi

end
section
set_option Elab.async false
set_option linter.all false
set_option maxRecDepth 100000
set_option autoImplicit false
set_option maxHeartbeats 4000000
/-! defs that call their one argument inside of a try -/
namespace Mi
open PySem PySem.Spec PyProof.Rows L2
/-- ask(); x = ask(); return ask() -/
inductive TK where
  | ex | asg (j : Nat) | ret
def TK.o : TK → D → Env → Out
  | .ex, _, δ => .nx δ
  | .asg j, d, δ => .nx (δ.set j (some d))
  | .ret, d, δ => .rt d δ
def TK.k : TK → V → Ends → L2.St → Hp → Prop
  | .ex, _, D, σ, H => D.nx σ H
  | .asg j, v, D, σ, H => D.nx (σ.set j (some v)) H
  | .ret, v, D, _, H => D.rt v H
def thkT (kd : TK) (cs : List Str) (i : Nat) (gh : Str → D → Sm) (r : Fr) : Sm := fun δ => match r with
  | .ok d _ => kd.o d δ
  | .exc c d => if c ∈ cs then clr i (gh c d (δ.set i none)) else .bad
  | .bad => .bad
/-- δ: the def's names ahead of the try -/
def thkM (δ : Env) (kd : TK) (cs : List Str) (i : Nat) (gh : Str → D → Sm) (gp : Sm) (r : Fr) : Fr := match sSeq (thkT kd cs i gh r) gp δ with
  | .nx _ => .ok .non []
  | .rt d _ => .ok d []
  | _ => .bad
/-- the def's context -/
abbrev cxT (P : Program) (w : World) (K : PySem.W.Frag) (mg : Str → Option Value) (base : Heap) (Ng : List Str) (x : Str) (st : Stmt) (g : Addr) (cdv : Value) (A : Around) (stack : List PySem.Env) (s : Shared) (H : Hp) : Cx := (cxOf C8.CX0 P w K mg base Ng x (defScope st) g cdv A stack s H C8.E0).nox
abbrev scT (K : PySem.W.Frag) (cm : CM) (fld : Str → Str) (n : Nat) (G H : Hp) : Sc := ⟨⟨K, cm, G, H, n, [], []⟩, fun _ _ _ _ => False, fld, fun _ => True, [], false⟩
section
variable {K : PySem.W.Frag} {cm : CM} {fld : Str → Str} {n i : Nat} {G H : Hp} {σ : L2.St} {δ : Env} {kd : TK} {cs : List Str} {gh : Str → D → Sm} {r : Fr} {tl : XK → Hp → VK → Prop} {vc : Value} {ts : Addr → Value → Option Addr → TS}
theorem r_thk {Z : Ends} (st : Stt ⟨K, cm, G, H, n, [], []⟩ [] G H σ δ) (ask : AskR K cm fld G H r tl) (m : Ps (scT K cm fld n G H) [] G Z (thkT kd cs i gh r δ)) (hcs : ∀ c ∈ cs, PySem.W.exmOne K (.ref (cm c)) vc = some true)
    (hrun : ∀ (a : Addr) (cl : Value) (d : Option Addr) (c : Str) (dv : D) (σ : L2.St) (G0 H0 G H : Hp) (δ : Env) (D : Ends), c ∈ cs → Stt ⟨K, cm, G0, H0, n, [], []⟩ [] G H σ δ → (i < σ.length → σ[i]? = some (some (.ref a))) → XRp (scT K cm fld n G0 H0) G c dv cl d → Ps (scT K cm fld n G0 H0) [] G D (gh c dv δ) → ts a cl d D σ H) :
    tl (WE (wAs K vc i ts (fun _ _ _ _ => False) Z) σ) H (fun v H' => kd.k v Z σ H') := by
  refine ask G H _ _ (.refl st.gh) ?_
  cases r with
  | bad => exact m
  | ok d o =>
    intro v G' H' ex rv
    have st' := st.step ex
    cases kd with
    | ex => exact m σ G' H' ex.g st'
    | asg j => exact m _ G' H' ex.g (put_keeps st' rv (by simp))
    | ret => exact m v G' H' st'.ret rv (.no rfl)
  | exc c dv =>
    intro G' H' cls dd ex xr
    have m : Ps (scT K cm fld n G H) [] G Z (if c ∈ cs then clr i (gh c dv (δ.set i none)) else .bad) := m
    by_cases h : c ∈ cs
    · rw [if_pos h] at m
      refine ⟨true, by rw [xr.1]; exact hcs c h, fun _ a ha => ?_, fun z => Bool.noConfusion z⟩
      have st2 := (st.step ex).hide (i := i) (x := some (.ref a)) (by simp)
      refine hrun a cls dd c dv _ G H G' H' _ _ h st2 (fun hl => List.getElem?_set_self (by simpa using hl)) xr ?_
      cases eg : gh c dv (δ.set i none) with
      | nx δ2 => rw [eg] at m; exact fun σ3 G3 H3 s3 st3 => m _ G3 H3 (ex.g.trans s3) (st3.hide (by simp))
      | rt d δ2 => rw [eg] at m; exact m
      | bk δ2 => rw [eg] at m; exact m.elim
      | ct δ2 => rw [eg] at m; exact m.elim
      | exc c2 d2 δ2 => rw [eg] at m; exact m
      | bad => rw [eg] at m; exact m
    · rw [if_neg h] at m
      exact m.elim
end
section
variable {P : Program} {w : World} {K : PySem.W.Frag} {mg : Str → Option Value} {base : Heap} {cm : CM} {fld : Str → Str} {x a e nm : Str} {st : Stmt} {g : Addr} {fd : FuncData} {Ng : List Str} {n i j0 : Nat} {v0 : V} {d0 : D} {kd : TK} {cs : List Str} {gh : Str → D → Sm} {gp : Sm} {s0 b0 : Stmt} {body suite rest : List Stmt} {p1 p2 np pos pos' : Pos} {vc : Value} {ts : Addr → Value → Option Addr → TS} {O' : List Nat}
theorem start_ask {G H : Hp} {f : Addr} (hn : Ng.length = n) (h0 : Ng[0]? = some a) (sg : Sg G H) (tb : TbO cm.T H) : Stt ⟨K, cm, G, H, n, [], []⟩ [] G H (L2.start Ng [.ref f]) (List.replicate n none) := by
  have hp : 0 < Ng.length := (List.getElem?_eq_some_iff.mp h0).1
  exact {
    ext := .refl sg
    ln := by
      show (L2.start Ng [V.ref f]).length = n
      unfold L2.start
      simp
      omega
    le := by simp
    sh := fun i d _ h => by
      rw [List.getElem?_replicate] at h
      split at h <;> cases h
    ow := fun i hi => by cases hi
    dis := fun i hi => by cases hi
    fix := fun p hp => by cases hp
    tabs := tb }
/-- name = const; try: .. except e as nm: ..; rest -/
theorem thk_mk1 (F : Fun K x x st g fd) (hm : mg x = some (.ref g)) (hb : Binds K fd [a] []) (S : FnScope Ng [a] (defScope st)) (hn : Ng.length = n) (h0 : Ng[0]? = some a) (hv : Vis (defScope st) a) (hd1 : (a == ("__debug__" : Str)) = false) (hd2 : (a == ("__classdict__" : Str)) = false)
    (hbd : defBody st = s0 :: .Try body [.ExceptHandler (some (.Name e np)) (some nm) (b0 :: suite) pos'] [] [] pos :: rest) (r0 : ∀ G, Rp K cm G v0 d0) (hj : j0 ≠ 0) (hi : Ng[i]? = some nm)
    (hpre : ∀ (cdv : Value) (A : Around) (stack : List PySem.Env) (s : Shared) (H : Hp), PS (cxT P w K mg base Ng x st g cdv A stack s H) s0 (tAsg (tC v0) (gName j0)))
    (hbody : ∀ (cdv : Value) (A : Around) (stack : List PySem.Env) (s : Shared) (H : Hp) (pn : List (Addr × Obj)) (xe : Value → Shared → Prop) (t : TE), PE ((cxT P w K mg base Ng x st g cdv A stack s H).tr pn xe) (.Call (.Name a p1) [] [] p2) t → PSs ((cxT P w K mg base Ng x st g cdv A stack s H).tr pn xe) body (fun D σ H => t σ H fun v H' => kd.k v D σ H'))
    (hln : ∀ (cdv : Value) (A : Around) (stack : List PySem.Env) (s : Shared) (H : Hp), (cxT P w K mg base Ng x st g cdv A stack s H).env.kindOf nm = some .local ∧ Names (cxT P w K mg base Ng x st g cdv A stack s H) e vc)
    (hcs : ∀ c ∈ cs, PySem.W.exmOne K (.ref (cm c)) vc = some true)
    (hsu : ∀ (cdv : Value) (A : Around) (stack : List PySem.Env) (s : Shared) (H : Hp) (a : Addr) (oe : Obj) (cl : Value) (d : Option Addr) (pn : List (Addr × Obj)), Zc cl d oe → (∃ vs, oe.data = .fields vs) → PSs ((cxT P w K mg base Ng x st g cdv A stack s H).suite a ((a, oe) :: pn)) (b0 :: suite) (ts a cl d))
    (hrun : ∀ (a : Addr) (cl : Value) (d : Option Addr) (c : Str) (dv : D) (σ : L2.St) (G0 H0 G H : Hp) (δ : Env) (D : Ends), c ∈ cs → Stt ⟨K, cm, G0, H0, n, [], []⟩ [] G H σ δ → (i < σ.length → σ[i]? = some (some (.ref a))) → XRp (scT K cm fld n G0 H0) G c dv cl d → Ps (scT K cm fld n G0 H0) [] G D (gh c dv δ) → ts a cl d D σ H)
    (hrest : ∀ (cdv : Value) (A : Around) (stack : List PySem.Env) (s : Shared) (H G : Hp), PSs (cxT P w K mg base Ng x st g cdv A stack s H) rest (tS (scT K cm fld n G H) [] O' gp)) :
    ThkD P w K mg base cm fld x (thkM ((List.replicate n none).set j0 (some d0)) kd cs i gh gp) := by
  have kp := F.kp
  obtain ⟨oc, od, kV, doc, pm, an, cdv, ct, osl, rfl, lk, code⟩ := F.ex
  refine ⟨a, g, defArgs st, defBody st, defScope st, .none, kV, doc, pm, cdv, ct, oc, an, od, osl, Ng, hm, kp, lk, code, hb, S, h0, hv, hd1, hd2, fun X q e1 e2 e3 e4 e5 => ?_⟩
  subst e1 e2 e3 e4 e5
  intro f d s H Q tl act hd tt
  obtain ⟨G, r, sg, tb, ask, fin⟩ := tt
  rw [hbd]
  have ps1 := ps_try_as (X := cxT X.prog X.w X.K X.mg X.base Ng x st g cdv X.A X.stack s H) (pos := pos) (pos' := pos') (np := np) (i := i) (body := body) (suite := suite) (b₀ := b0) (ts := ts) (Wout := fun _ _ _ _ => False)
    (tb := fun W D σ H => σ[0]? = some (some (.ref f)) ∧ H d = some (LamX.CodeO d q) ∧ tl (WE W σ) H fun v H' => kd.k v D σ H') rfl rfl S.nd hi (hln cdv X.A X.stack s H).1 (hln cdv X.A X.stack s H).2 takes0
    (fun W pn xe tk _ => hbody cdv X.A X.stack s H pn xe _ (act W pn xe p1 p2 tk)) (fun a oe cl dd pn hz hf => hsu cdv X.A X.stack s H a oe cl dd pn hz hf)
  refine ⟨_, pss_cons (hpre cdv X.A X.stack s H) (pss_cons ps1 (pss_ex fun z : Hp => hrest cdv X.A X.stack s H z)), ?_⟩
  have st0 := start_ask (K := X.K) (cm := cm) (f := f) hn h0 sg tb
  have st1 := put_keeps st0 (r0 G) (i := j0) (by simp)
  have z0 : ((L2.start Ng [V.ref f]).set j0 (some v0))[0]? = some (some (V.ref f)) := by
    rw [List.getElem?_set_ne hj]
    rfl
  refine ⟨z0, hd, r_thk st1 ask ?_ hcs hrun⟩
  unfold thkM sSeq at fin
  cases em : thkT kd cs i gh r ((List.replicate n none).set j0 (some d0)) with
  | nx δ2 =>
    simp only [em] at fin
    intro σ' G' H' s' st'
    refine ⟨G, G', δ2, st', ?_⟩
    cases eg : gp δ2 with
    | nx δ3 =>
      simp only [eg] at fin
      exact fun σ3 G3 H3 _ st3 => fin .non G3 H3 st3.ext .non
    | rt dd δ3 =>
      simp only [eg] at fin
      exact fun v G3 H3 rs rv _ => fin v G3 H3 rs.1 rv
    | bk _ => simp only [eg] at fin
    | ct _ => simp only [eg] at fin
    | exc _ _ _ => simp only [eg] at fin
    | bad => simp only [eg] at fin
  | rt dd δ2 =>
    simp only [em] at fin
    exact fun v G3 H3 rs rv _ => fin v G3 H3 rs.1 rv
  | bk _ => simp only [em] at fin
  | ct _ => simp only [em] at fin
  | exc _ _ _ => simp only [em] at fin
  | bad => simp only [em] at fin
end
end Mi

end
section
set_option Elab.async false
set_option linter.all false
set_option maxRecDepth 100000
set_option autoImplicit false
set_option maxHeartbeats 4000000
/-! calls with keywords; what is never reached -/
namespace Mi
open PySem PySem.Spec PyProof.Rows L2
/-- the items at the places p -/
def sel {α : Type} (p : List Nat) (l : List α) : List α := p.filterMap (l[·]?)
theorem sel_vals {vs : List V} {us : List Value} (r : Vals vs us) : ∀ p : List Nat, Vals (sel p vs) (sel p us)
  | [] => .nil
  | i :: p => by
    have ih := sel_vals r p
    have hh : ∀ {vs : List V} {us : List Value} (i : Nat), Vals vs us → (vs[i]? = none ∧ us[i]? = none) ∨ ∃ v u, vs[i]? = some v ∧ us[i]? = some u ∧ RelV v u := by
      intro vs us i r
      induction r generalizing i with
      | nil => exact .inl ⟨rfl, rfl⟩
      | cons h t ih =>
        cases i with
        | zero => exact .inr ⟨_, _, rfl, rfl, h⟩
        | succ i => simpa using ih i
    unfold sel at ih ⊢
    rcases hh i r with ⟨e1, e2⟩ | ⟨v, u, e1, e2, q⟩
    · rw [List.filterMap_cons, List.filterMap_cons, e1, e2]; exact ih
    · rw [List.filterMap_cons, List.filterMap_cons, e1, e2]; exact .cons q ih
theorem sel_rps {K : PySem.W.Frag} {cm : CM} {G : Hp} {vs : List V} {ds : List D} (r : Rps K cm G vs ds) : ∀ p : List Nat, Rps K cm G (sel p vs) (sel p ds)
  | [] => .nil
  | i :: p => by
    have ih := sel_rps r p
    unfold sel at ih ⊢
    cases e : ds[i]? with
    | none =>
      have e2 : vs[i]? = none := by
        rw [List.getElem?_eq_none_iff] at e ⊢
        rw [r.length]; exact e
      rw [List.filterMap_cons, List.filterMap_cons, e, e2]; exact ih
    | some d =>
      obtain ⟨v, e2, q⟩ := r.get e
      rw [List.filterMap_cons, List.filterMap_cons, e, e2]; exact .cons q ih
theorem sel_len {α β : Type} {a : List α} {b : List β} (h : a.length = b.length) : ∀ p : List Nat, (sel p a).length = (sel p b).length
  | [] => rfl
  | i :: p => by
    have ih := sel_len h p
    unfold sel at ih ⊢
    by_cases hi : i < a.length
    · rw [List.filterMap_cons, List.filterMap_cons, List.getElem?_eq_getElem hi, List.getElem?_eq_getElem (by omega), List.length_cons, List.length_cons, ih]
    · rw [List.filterMap_cons, List.filterMap_cons, List.getElem?_eq_none (by omega), List.getElem?_eq_none (by omega)]; exact ih
theorem vals_app2 {vs zs : List V} {us ws : List Value} (r : Vals vs us) (q : Vals zs ws) : Vals (vs ++ zs) (us ++ ws) := by
  induction r with
  | nil => exact q
  | cons h t ih => exact .cons h ih
/-- how a call with keywords binds -/
structure KwB (K : PySem.W.Frag) (fd : FuncData) (ps : List Str) (n : Nat) (ks : List Str) (p : List Nat) : Prop where
  to : ∀ (s : Shared) (us ws : List Value), K.In s.heap → us.length = n → ws.length = ks.length → BindsTo s fd ⟨us, ks.zip ws⟩ (ps.zip (sel p (us ++ ws)))
section
variable {X : Cx} {C : Sc} {O : List Nat} {a : Expr} {fa : Ex} {es : List Expr} {kws : List Keyword} {fs gs : List Ex} {f : List D → Fr} {pos p : Pos} {x : Str} {k n j m : Nat} {g : Addr} {fd : FuncData} {ps ks : List Str} {pm : List Nat}
theorem k_nil : PK X [] (tA C O (eL [])) := ⟨fun pos pins s σ H Q I h => pk_nil.run pos pins s σ H Q I (by obtain ⟨G, δ, st, m⟩ := h; exact m [] G H (.refl st.gh) st .nil)⟩
theorem pk_imp {t t' : TA} (h : PK X kws t) (i : ∀ σ H Q, t' σ H Q → t σ H Q) : PK X kws t' := ⟨fun pos pins s σ H Q I w => h.run pos pins s σ H Q I (i _ _ _ w)⟩
theorem r_cons (σ : L2.St) (H : Hp) (Q : List V → Hp → Prop) (h : tA C O (eL (fa :: fs)) σ H Q) : tCons (tD C O fa) (tA C O (eL fs)) σ H Q := by
  obtain ⟨G, δ, st, m⟩ := h
  refine ⟨G, δ, st, ?_⟩
  unfold eL at m
  cases e : fa δ with
  | exc c d δ' => rw [e] at m; exact m
  | bad => rw [e] at m; exact m
  | ok d δ' =>
    rw [e, Res.bind_ok] at m
    intro v G1 H1 s1 st1 rv
    refine ⟨G1, δ', st1, ?_⟩
    cases eb : eL fs δ' with
    | exc c d δ2 => rw [eb] at m; exact m
    | bad => rw [eb] at m; exact m
    | ok ds δ2 =>
      rw [eb, Res.bind_ok] at m
      exact fun vs G2 H2 s2 st2 rs => m (v :: vs) G2 H2 (s1.thn s2) st2 (.cons (rv.mono s2.g) rs)
theorem k_cons {nm : Option Str} {kp : Pos} (ha : PE X a (tD C O fa)) (hr : PK X kws (tA C O (eL fs))) : PK X (⟨nm, a, kp⟩ :: kws) (tA C O (eL (fa :: fs))) := pk_imp (pk_cons ha hr) r_cons
theorem eL_app : ∀ {fs gs : List Ex} {δ : Env}, eL (fs ++ gs) δ = (eL fs δ).bind fun xs δ1 => (eL gs δ1).bind fun ys δ2 => .ok (xs ++ ys) δ2
  | [], gs, δ => by
    simp only [List.nil_append, eL, Res.bind_ok]
    cases eL gs δ <;> rfl
  | f :: fs, gs, δ => by
    simp only [List.cons_append, eL]
    cases f δ with
    | ok d δ1 =>
      simp only [Res.bind_ok]
      rw [eL_app]
      cases eL fs δ1 with
      | ok xs δ2 =>
        simp only [Res.bind_ok]
        cases eL gs δ2 <;> rfl
      | exc _ _ _ => rfl
      | bad => rfl
    | exc _ _ _ => rfl
    | bad => rfl
theorem r_app {σ : L2.St} {H : Hp} {Q : List V → Hp → Prop} (h : tA C O (eL (fs ++ gs)) σ H Q) : tA C O (eL fs) σ H fun vs H1 => tA C O (eL gs) σ H1 fun zs H2 => Q (vs ++ zs) H2 := by
  obtain ⟨G, δ, st, m⟩ := h
  refine ⟨G, δ, st, ?_⟩
  rw [eL_app] at m
  cases e : eL fs δ with
  | exc c d δ' => rw [e] at m; exact m
  | bad => rw [e] at m; exact m
  | ok ds δ' =>
    rw [e, Res.bind_ok] at m
    intro vs G1 H1 s1 st1 rv
    refine ⟨G1, δ', st1, ?_⟩
    cases eb : eL gs δ' with
    | exc c d δ2 => rw [eb] at m; exact m
    | bad => rw [eb] at m; exact m
    | ok es δ2 =>
      rw [eb, Res.bind_ok] at m
      exact fun zs G2 H2 s2 st2 rs => m _ G2 H2 (s1.thn s2) st2 ((rv.mono s2.g).app rs)
/-- the reading of all that is written, then the callee's promise -/
theorem r_callK {σ : L2.St} {H : Hp} {Q : VK} (hn : (sel pm fs).length = n) (h : tD C O (eCall (fun ds => f (sel pm ds)) fs) σ H Q) : tA C O (eL fs) σ H fun vs H1 => vs.length = fs.length ∧ spM C.F.K C.F.cm C.fld n [] f (sel pm vs) H1 Q (WE C.W σ) := by
  obtain ⟨G, δ, st, m⟩ := h
  refine ⟨G, δ, st, ?_⟩
  unfold eCall at m
  cases e : eL fs δ with
  | exc c d δ' => rw [e] at m; exact m
  | bad => rw [e] at m; exact m
  | ok ds δ1 =>
    rw [e, Res.bind_ok] at m
    intro vs G1 H1 s1 st1 rv
    have l0 : vs.length = fs.length := by rw [rv.length, eL_length e]
    have hl : (sel pm vs).length = n := by rw [sel_len l0, hn]
    refine ⟨l0, G1, sel pm ds, [], hl, rfl, callee0 st1.gh st1.tabs (sel_rps rv pm) hl, ?_⟩
    cases ef : f (sel pm ds) with
    | ok d outs =>
      simp only [ef] at m
      exact fun v G2 H2 ex _ r => m v G2 H2 (s1.and ex) (st1.step ex) r
    | exc c d =>
      simp only [ef] at m
      exact fun G2 H2 cls dd ex x => m G2 H2 cls dd (st1.step ex) x
    | bad => simp only [ef] at m
theorem pe_callK {CX : CXT} {sp : Sp} {E : L2.St → XK} {t tk : TA} (F : FnOk X.prog X.w X.K X.mg X.base CX k g fd ps sp) (hr : Room k X.A) (hg : Gl X x) (hm : X.mg x = some (.ref g)) (hk : PySem.W.keepIn X.K (.ref g) = true) (hb : KwB X.K fd ps n ks pm) (hx : ∀ σ, PassesAt CX X σ (E σ))
    (ha : PA X (a :: es) t) (hkw : PK X kws tk) (hall : (backToKw pos (keywordEach kws X.env)).all (·.1.isSome) = true := by rfl) (hks : (backToKw pos (keywordEach kws X.env)).filterMap (·.1) = ks := by rfl)
    (hdb : (x == ("__debug__" : Str)) = false := by decide) (he : starEach (a :: es) X.env = (false, eval a X.env) :: starEach es X.env := by rfl)
    (hpl : ((backTo pos (starEach (a :: es) X.env)).any (·.1) || (backToKw pos (keywordEach kws X.env)).any (·.1.isNone)) = false := by rfl) :
    PE X (.Call (.Name x p) (a :: es) kws pos) (fun σ H Q => t σ H fun vs H1 => tk σ H1 fun zs H2 => (vs.length = n ∧ zs.length = ks.length) ∧ sp (sel pm (vs ++ zs)) H2 Q (E σ)) := by
  refine ⟨fun pins s σ H Q I h => wpAny_Call_Name_kw (ld_glob I hg hm (PySem.W.callWith_KW (h₀ := X.base) I.ok.mod.kin hk hall (thn (ha.run pos pins s σ H _ I h) fun us s1 ⟨vs, H1, I1, r, q⟩ => thn (hkw.run pos pins s1 σ H1 _ I1 q) fun ws s2 ⟨zs, H2, I2, rz, lz, q2⟩ => ⟨I2.kIn, ?_⟩) hpl he) hdb)⟩
  rw [hks]
  have r2 : Vals (sel pm (vs ++ zs)) (sel pm (us ++ ws)) := sel_vals (vals_app2 r rz) pm
  refine wpAny_call (codeAny_mono (F.run X.A X.stack s2 H2 ⟨us, ks.zip ws⟩ _ _ Q (E σ) hr I2.env0 (hb.to s2 us ws I2.kIn (r.length.symm.trans lz.1) (rz.length.symm.trans lz.2)) r2 q2) fun rr s' hq => ?_)
  rcases rr with er | fl
  · exact hx σ pins H2 s2 er s' I2 hq
  · cases fl with
    | ret u => exact I2.after hq
    | next => exact False.elim hq
    | brk => exact False.elim hq
    | cont => exact False.elim hq
theorem pe_callK0 {CX : CXT} {sp : Sp} {E : L2.St → XK} {tk : TA} (F : FnOk X.prog X.w X.K X.mg X.base CX k g fd ps sp) (hr : Room k X.A) (hg : Gl X x) (hm : X.mg x = some (.ref g)) (hk : PySem.W.keepIn X.K (.ref g) = true) (hb : KwB X.K fd ps 0 ks pm) (hx : ∀ σ, PassesAt CX X σ (E σ))
    (hkw : PK X kws tk) (hall : (backToKw pos (keywordEach kws X.env)).all (·.1.isSome) = true := by rfl) (hks : (backToKw pos (keywordEach kws X.env)).filterMap (·.1) = ks := by rfl) (hdb : (x == ("__debug__" : Str)) = false := by decide)
    (hpl : ((backTo pos (starEach [] X.env)).any (·.1) || (backToKw pos (keywordEach kws X.env)).any (·.1.isNone)) = false := by rfl) :
    PE X (.Call (.Name x p) [] kws pos) (fun σ H Q => tk σ H fun zs H2 => zs.length = ks.length ∧ sp (sel pm zs) H2 Q (E σ)) := by
  refine ⟨fun pins s σ H Q I h => wpAny_Call_Name_kw (ld_glob I hg hm (PySem.W.callWith_KW0 (h₀ := X.base) I.ok.mod.kin hk hall (thn (hkw.run pos pins s σ H _ I h) fun ws s2 ⟨zs, H2, I2, rz, lz, q2⟩ => ⟨I2.kIn, ?_⟩) hpl) hdb)⟩
  rw [hks]
  refine wpAny_call (codeAny_mono (F.run X.A X.stack s2 H2 ⟨[], ks.zip ws⟩ (sel pm ([] ++ ws)) (sel pm zs) Q (E σ) hr I2.env0 (hb.to s2 [] ws I2.kIn rfl (rz.length.symm.trans lz)) (sel_vals rz pm) q2) fun rr s' hq => ?_)
  rcases rr with er | fl
  · exact hx σ pins H2 s2 er s' I2 hq
  · cases fl with
    | ret u => exact I2.after hq
    | next => exact False.elim hq
    | brk => exact False.elim hq
    | cont => exact False.elim hq
end
/-- a def that is called with keywords -/
structure CalK (P : Program) (w : World) (K : PySem.W.Frag) (mg : Str → Option Value) (base : Heap) (cm : CM) (fld : Str → Str) (x : Str) (k n q : Nat) (ks : List Str) (pm : List Nat) (f : List D → Fr) : Prop where
  ex : ∃ g fd ps, FnOk P w K mg base (L2.CX P w) k g fd ps (spM K cm fld n [] f) ∧ mg x = some (.ref g) ∧ PySem.W.keepIn K (.ref g) = true ∧ KwB K fd ps q ks pm
section
variable {X : Cx} {C : Sc} {O : List Nat} {a : Expr} {fa : Ex} {es : List Expr} {kws : List Keyword} {fs gs : List Ex} {f : List D → Fr} {pos p : Pos} {x : Str} {k n j q : Nat} {ks : List Str} {pm : List Nat}
theorem d_calK (c : CalK X.prog X.w X.K X.mg X.base C.F.cm C.fld x k n q ks pm f) (hK : C.F.K = X.K) (hr : Room j X.A) (hk : k ≤ j) (tk : Takes X C.W) (ha : PA X (a :: es) (tA C O (eL fs))) (hkw : PK X kws (tA C O (eL gs))) (h1 : fs.length = q) (h2 : gs.length = ks.length) (hn : (sel pm (fs ++ gs)).length = n) (hg : Gl X x := by rfl) (hdb : (x == ("__debug__" : Str)) = false := by decide)
    (hall : (backToKw pos (keywordEach kws X.env)).all (·.1.isSome) = true := by rfl) (hks : (backToKw pos (keywordEach kws X.env)).filterMap (·.1) = ks := by rfl) (he : starEach (a :: es) X.env = (false, eval a X.env) :: starEach es X.env := by rfl)
    (hpl : ((backTo pos (starEach (a :: es) X.env)).any (·.1) || (backToKw pos (keywordEach kws X.env)).any (·.1.isNone)) = false := by rfl) : PE X (.Call (.Name x p) (a :: es) kws pos) (tD C O (eCall (fun ds => f (sel pm ds)) (fs ++ gs))) := by
  obtain ⟨g, fd, ps, F, hm, kp, hb⟩ := c.ex
  rw [← hK] at F
  refine pe_imp (pe_callK (hK ▸ F) (hr.mono hk) hg hm kp hb (fun σ => passAt tk σ) ha hkw hall hks hdb he hpl) fun σ H Q h => ?_
  have h := r_app (r_callK hn h)
  obtain ⟨G, δ, st, m⟩ := h
  refine ⟨G, δ, st, ?_⟩
  cases e : eL fs δ with
  | exc c d δ' => rw [e] at m; exact m
  | bad => rw [e] at m; exact m
  | ok ds δ' =>
    rw [e] at m
    intro vs G1 H1 s1 st1 rv
    have lv : vs.length = q := by rw [rv.length, eL_length e, h1]
    obtain ⟨G2, δ2, st2, m2⟩ := m vs G1 H1 s1 st1 rv
    refine ⟨G2, δ2, st2, ?_⟩
    cases e2 : eL gs δ2 with
    | exc c d δ' => rw [e2] at m2; exact m2
    | bad => rw [e2] at m2; exact m2
    | ok ds2 δ3 =>
      rw [e2] at m2
      intro zs G3 H3 s3 st3 rz
      exact ⟨⟨lv, by rw [rz.length, eL_length e2, h2]⟩, hK ▸ (m2 zs G3 H3 s3 st3 rz).2⟩
theorem d_calK0 (c : CalK X.prog X.w X.K X.mg X.base C.F.cm C.fld x k n 0 ks pm f) (hK : C.F.K = X.K) (hr : Room j X.A) (hk : k ≤ j) (tk : Takes X C.W) (hkw : PK X kws (tA C O (eL gs))) (h2 : gs.length = ks.length) (hn : (sel pm gs).length = n) (hg : Gl X x := by rfl) (hdb : (x == ("__debug__" : Str)) = false := by decide)
    (hall : (backToKw pos (keywordEach kws X.env)).all (·.1.isSome) = true := by rfl) (hks : (backToKw pos (keywordEach kws X.env)).filterMap (·.1) = ks := by rfl)
    (hpl : ((backTo pos (starEach [] X.env)).any (·.1) || (backToKw pos (keywordEach kws X.env)).any (·.1.isNone)) = false := by rfl) : PE X (.Call (.Name x p) [] kws pos) (tD C O (eCall (fun ds => f (sel pm ds)) gs)) := by
  obtain ⟨g, fd, ps, F, hm, kp, hb⟩ := c.ex
  rw [← hK] at F
  refine pe_imp (pe_callK0 (hK ▸ F) (hr.mono hk) hg hm kp hb (fun σ => passAt tk σ) hkw hall hks hdb hpl) fun σ H Q h => ?_
  have h := r_callK hn h
  obtain ⟨G, δ, st, m⟩ := h
  refine ⟨G, δ, st, ?_⟩
  cases e : eL gs δ with
  | exc c d δ' => rw [e] at m; exact m
  | bad => rw [e] at m; exact m
  | ok ds δ' =>
    rw [e] at m
    intro vs G1 H1 s1 st1 rv
    exact ⟨by rw [rv.length, eL_length e, h2], hK ▸ (m vs G1 H1 s1 st1 rv).2⟩
end
/-! ### what is never reached -/
def sBad : Sm := fun _ => .bad
theorem ss_bad {X : Cx} {C : Sc} {O O1 : List Nat} {ss : List Stmt} : PSs X ss (tS C O O1 sBad) := ⟨fun pins s σ H D I ⟨G, δ, st, m⟩ => (show False from m).elim⟩
/-- the def's own table, known to all -/
def LamD (mg : Str → Option Value) (base : Heap) (cm : CM) (fd : FuncData) (q : Str) : Prop := ∃ c P, fd.code = .ref c ∧ LamX.TabB base mg c P ∧ (P, (q ++ ".<locals>.") ++ "<lambda>") ∈ cm.T ∧ ∀ p ∈ cm.T, p.1 = P → p.2 = (q ++ ".<locals>.") ++ "<lambda>"
theorem lam_at {X : Cx} {cm : CM} {fd : FuncData} {q : Str} (L : LamD X.mg X.base cm fd q) (cd : fd.code = X.env.code) (hq : X.env.qual = q ++ ".<locals>." := by rfl) : LamAt X cm := by
  obtain ⟨c, P, h1, h2, h3, h4⟩ := L
  refine ⟨c, P, cd.symm.trans h1, h2, ?_, ?_⟩ <;> rw [hq]
  · exact h3
  · exact h4
end Mi
namespace Mi
open PySem PySem.Spec PyProof.Rows L2
/-! ### the end with tables -/
theorem tab_uniq : ∀ {Ps : List Addr} {ns : List Str} {P : Addr} {q : Str} {i : Nat}, Ps.Nodup → Ps[i]? = some P → ns[i]? = some q → (P, q) ∈ Ps.zip ns ∧ ∀ p ∈ Ps.zip ns, p.1 = P → p.2 = q
  | [], _, _, _, i, _, h, _ => by simp at h
  | _ :: _, [], _, _, i, _, _, h => by simp at h
  | a :: Ps, b :: ns, P, q, 0, nd, h1, h2 => by
    simp only [List.getElem?_cons_zero, Option.some.injEq] at h1 h2
    subst h1 h2
    refine ⟨List.mem_cons_self, fun p hp e => ?_⟩
    rcases List.mem_cons.mp hp with z | z
    · rw [z]
    · exact absurd (e ▸ (List.of_mem_zip z).1) (List.nodup_cons.mp nd).1
  | a :: Ps, b :: ns, P, q, i + 1, nd, h1, h2 => by
    simp only [List.getElem?_cons_succ] at h1 h2
    obtain ⟨m, u⟩ := tab_uniq (List.nodup_cons.mp nd).2 h1 h2
    refine ⟨List.mem_cons_of_mem _ m, fun p hp e => ?_⟩
    rcases List.mem_cons.mp hp with z | z
    · rw [z] at e
      exact absurd (show a ∈ Ps from (show a = P from e) ▸ List.mem_of_getElem? h1) (List.nodup_cons.mp nd).1
    · exact u p z e
/-- the law is entered: the tables ts, their names ns -/
def spLT (K : PySem.W.Frag) (ns : List Str) (ts : List (Addr × Addr)) : Sp := fun vs H Q E => ts.length = ns.length → spL K ((ts.map (·.2)).zip ns) vs H Q E
theorem law_endT {P : Program} {w : World} {K : PySem.W.Frag} {mg : Str → Option Value} {base : Heap} {CX : CXT} {k : Nat} {g : Addr} {fd : FuncData} {ps : List Str} {ns : List Str} {ts : List (Addr × Addr)} (F : FnG P w K mg base CX k g fd ps (spL K ((ts.map (·.2)).zip ns))) (h : ts.length = ns.length) : FnG P w K mg base CX k g fd ps (spLT K ns ts) :=
  ⟨fun vs H Q E z => F.len vs H Q E (z h), fun A outer s H args us vs Q E gd r e b v z => F.run A outer s H args us vs Q E gd r e b v (z h)⟩
theorem spLT_in {K : PySem.W.Frag} {ns : List Str} {ts : List (Addr × Addr)} {J : Hp} {a : Addr} {ks : List Int} (hl : ks.length ≤ 63) (nt : ∀ b ps, J b ≠ some (.tbl ps)) (nz : ∀ p ∈ ts, J p.2 = none) (hS : SqL K J a (ks.map V.int)) : spLT K ns ts [.ref a] (HpT ts J) (fun v _ => v = .bl true) fun _ _ _ => False := fun hn => by
  have off : ∀ b, J b ≠ none → b ∉ ts.map (·.2) := fun b hb m => by
    obtain ⟨p, hp, rfl⟩ := List.mem_map.mp m
    exact hb (nz p hp)
  refine ⟨J, a, ks, rfl, ⟨fun b o h => (if_neg (off b (by rw [h]; exact fun z => nomatch z))).trans h, fun b o h ps e => nt b ps (by rw [h, e])⟩, ⟨fun p hp => LamX.TabS.nil (if_pos (List.of_mem_zip hp).1), fun b ps h => ?_⟩, hS, hl, fun _ => rfl⟩
  by_cases m : b ∈ ts.map (·.2)
  · obtain ⟨i, hi⟩ := List.getElem?_of_mem m
    have hl : i < ns.length := by
      have := (List.getElem?_eq_some_iff.mp hi).1
      rw [List.length_map] at this
      omega
    refine ⟨(b, ns[i]), List.mem_of_getElem? (i := i) ?_, rfl⟩
    rw [List.getElem?_zip_eq_some]
    exact ⟨hi, List.getElem?_eq_getElem hl⟩
  · have h : (if b ∈ ts.map (·.2) then some (HO.tbl #[]) else J b) = some (.tbl ps) := h
    rw [if_neg m] at h
    exact absurd h (nt b ps)
theorem kw_b {K : PySem.W.Frag} {x qual : Str} {st : Stmt} {g : Addr} {fd : FuncData} {ps ks : List Str} {n : Nat} {pm : List Nat} (F : Fun K x qual st g fd) (h : ∀ (kV doc pv : Value) (an : Option Addr) (cdv ct : Value) (us ws : List Value), us.length = n → ws.length = ks.length → bindArgs (PySem.W.fnOf x qual (defArgs st) (defBody st) (defScope st) .none kV doc pv an cdv ct) ⟨us, ks.zip ws⟩ = pure (ps.zip (sel pm (us ++ ws)))) : KwB K fd ps n ks pm := by
  obtain ⟨oc, od, kV, doc, pv, an, cdv, ct, osl, rfl, lk, hcd⟩ := F.ex
  exact ⟨fun s us ws _ h1 h2 => .of_eq (h kV doc pv an cdv ct us ws h1 h2)⟩
theorem lam_d {mg : Str → Option Value} {base : Heap} {cm : CM} {fd : FuncData} {q : Str} {c P : Addr} {Ps : List Addr} {ns : List Str} {i : Nat} (hc : fd.code = .ref c) (tb : LamX.TabB base mg c P) (hT : cm.T = Ps.zip ns) (nd : Ps.Nodup) (h1 : Ps[i]? = some P) (h2 : ns[i]? = some ((q ++ ".<locals>.") ++ "<lambda>")) : LamD mg base cm fd q := by
  obtain ⟨m, u⟩ := tab_uniq nd h1 h2
  exact ⟨c, P, hc, tb, hT ▸ m, hT ▸ u⟩
end Mi

end
section
set_option Elab.async false
set_option linter.all false
set_option maxRecDepth 100000
set_option autoImplicit false
set_option maxHeartbeats 4000000
/-! a new list times a number -/
namespace Mi
open PySem PySem.Spec PyProof.Rows L2
noncomputable def repD : D → D → Option D
  | .lst xs, .int k => if -100000 ≤ k ∧ k ≤ 100000 ∧ xs.length * k.toNat ≤ cap then some (.lst (List.replicate k.toNat xs).flatten) else none
  | _, _ => none
theorem Rps.rep {K : PySem.W.Frag} {cm : CM} {G : Hp} {vs : List V} {ds : List D} (r : Rps K cm G vs ds) : ∀ n : Nat, Rps K cm G (List.replicate n vs).flatten (List.replicate n ds).flatten
  | 0 => .nil
  | n + 1 => by
    rw [List.replicate_succ, List.replicate_succ, List.flatten_cons, List.flatten_cons]
    exact r.app (r.rep n)
section
variable {X : Cx} {C : Sc} {O : List Nat} {a b : Expr} {fa fb : Ex} {pos : Pos}
theorem n_rep (ha : PE X a (tN C O fa)) (hb : PE X b (tD C O fb)) : PE X (.BinOp a .Mult b pos) (tN C O (e2 repD fa fb)) := pe_imp (pe_op op_rep ha hb) fun σ H Q ⟨G, δ, st, m⟩ => by
  refine ⟨G, δ, st, ?_⟩
  unfold e2 at m
  cases e : fa δ with
  | exc c d δ' => rw [e] at m; exact m
  | bad => rw [e] at m; exact m
  | ok d δ1 =>
    rw [e, Res.bind_ok] at m
    intro p G1 H1 s1 st1 nn hp o
    obtain ⟨_, _, nf, no⟩ := fresh_facts (u := .own p) st hp
    refine ⟨G1, δ1, st1, ?_⟩
    cases eb : fb δ1 with
    | exc c d δ' => rw [eb] at m; exact m
    | bad => rw [eb] at m; exact m
    | ok d2 δ2 =>
      rw [eb, Res.bind_ok] at m
      intro w G2 H2 s2 st2 rw2
      have nS : p ∉ ownS O σ := fun z => by
        obtain ⟨i, hi, e⟩ := mem_ownS.mp z
        exact no i hi e
      cases d with
      | lst xs =>
        cases d2 with
        | int k =>
          have m : (match (Res.opt (if -100000 ≤ k ∧ k ≤ 100000 ∧ xs.length * k.toNat ≤ cap then some (D.lst (List.replicate k.toNat xs).flatten) else none) δ2) with | .ok d δ' => _ | .exc c d δ' => _ | .bad => False) := m
          by_cases hk : -100000 ≤ k ∧ k ≤ 100000 ∧ xs.length * k.toNat ≤ cap
          case neg => rw [if_neg hk] at m; exact m.elim
          rw [if_pos hk] at m
          cases rw2
          obtain ⟨vs, hv, rv⟩ := o
          have hv2 : H2 p = some (.lst vs) := s2.keep p _ hv nS (nc_lst (a := p)).1
          refine ⟨p, k, vs, rfl, rfl, hv2, by omega, by omega, by rw [rv.length]; exact Nat.le_trans hk.2.2 cap_le, fun q nq => ?_⟩
          have o2 : OwnAt C.F.K C.F.cm G2 (upd H2 q (.lst (List.replicate k.toNat vs).flatten)) q (.lst (List.replicate k.toNat xs).flatten) := ⟨_, upd_same, (rv.mono s2.g).rep k.toNat⟩
          obtain ⟨f1, f2, f3, f4⟩ := fresh_facts (u := .lst (List.replicate k.toNat vs).flatten) st2 nq
          exact m q G2 _ ((s1.thn s2).and (Ext.fresh st2.gh nq)) f1 f2 ((s1.thn s2).back nq) o2
        | _ => exact m.elim
      | _ => exact m.elim
end
end Mi

end
section
set_option Elab.async false
set_option linter.all false
set_option maxRecDepth 100000
set_option autoImplicit false
set_option maxHeartbeats 4000000
namespace Mi
open PySem PySem.Spec PyProof.Rows L2
def top (i : Nat) : Stmt := PySem.Challenge.pw_reslot_k04_invalid_timetables.main.body.getD i (.Pass ⟨0, 0, 0, 0⟩)
/-- what the top has left: the builtins are still theirs, the constants -/
structure Tx (K : PySem.W.Frag) (mg : Str → Option Value) (cm : CM) (fld : Str → Str) : Prop where
  n_all : mg "all" = none
  n_bool : mg "bool" = none
  n_enumerate : mg "enumerate" = none
  n_int : mg "int" = none
  n_isinstance : mg "isinstance" = none
  n_len : mg "len" = none
  n_list : mg "list" = none
  n_max : mg "max" = none
  n_range : mg "range" = none
  n_repr : mg "repr" = none
  n_set : mg "set" = none
  n_sorted : mg "sorted" = none
  n_tuple : mg "tuple" = none
  n_zip : mg "zip" = none
  k_MAX_SIZE : ∃ t, mg "MAX_SIZE" = some (.int 60 t)
  no_Book_total : NoAttr K (cm "Book") "total"
  no_Book_rows : NoAttr K (cm "Book") "rows"
  no_Book_users : NoAttr K (cm "Book") "users"
  cl_Book : Cls K (cm "Book")
  f_NoBook : fld "NoBook" = "index"
  no_NoBook : PySem.W.findIn K (.ref (cm "NoBook")) "index" = some none
  em_NoBook : PySem.W.exmOne K (.ref (cm "NoBook")) (.ref (cm "NoBook")) = some true
  f_NoTimetable : fld "NoTimetable" = "index"
  no_NoTimetable : PySem.W.findIn K (.ref (cm "NoTimetable")) "index" = some none
  em_NoTimetable : PySem.W.exmOne K (.ref (cm "NoTimetable")) (.ref (cm "NoTimetable")) = some true
  sb : SBase K mg "SlotError" (cm "SlotError")
section
variable {P : Program} {w : World} {K : PySem.W.Frag} {mg : Str → Option Value} {base : Heap} {cm : CM} {fld : Str → Str}
/-! is_int -/
abbrev st_is_int : Stmt := top 15
noncomputable def m_is_int : Sm := (sRet (eAnd (e1 (isD "int") (eV 0)) (eNot (e1 (isD "bool") (eV 0)))))
noncomputable def f_is_int : List D → Fr := hide (fnM 1 1 [] m_is_int)
theorem d_is_int : f_is_int = fnM 1 1 [] m_is_int := hide_eq _
theorem e_is_int {ds : List D} {r : Fr} (hl : ds.length = 1) (h : FEnd [] (fun x => x = r) (m_is_int (startE 1 ds))) : f_is_int ds = r := by rw [d_is_int]; exact fn_run (Q := fun x => x = r) hl h
theorem sc_is_int : FnScope ["value"] ["value"] (defScope st_is_int) := ⟨rfl, rfl, rfl, by decide +kernel, rfl, by decide +kernel, by decide +kernel⟩
theorem k_is_int (T : Tx K mg cm fld)  {g : Addr} {fd : FuncData} (F : Fun K "is_int" "is_int" st_is_int g fd) (hm : mg "is_int" = some (.ref g)) (hb : Binds K fd ["value"] []) : Cal P w K mg base cm fld "is_int" 1 1 [] f_is_int :=
  d_is_int ▸ cal_mk (k := 0) F hm hb sc_is_int rfl rfl (by decide) [] (fun cdv cd A outer s H G E as hr => by exact (s_one (s_ret (d_and (pe_and (b_isi (T := "int") (by decide) (pe_callB call_isi (by rfl) T.n_isinstance PyProof.Rows.boot_isinstance (pa_cons (wk (d_v (pv 0) (by decide))) (pa_cons (pe_bltn (by rfl) T.n_int PyProof.Rows.boot_int rfl) pa_nil)))) (pe_one (d_not (pe_not (b_isi (T := "bool") (by decide) (pe_callB call_isi (by rfl) T.n_isinstance PyProof.Rows.boot_isinstance (pa_cons (wk (d_v (pv 0) (by decide))) (pa_cons (pe_bltn (by rfl) T.n_bool PyProof.Rows.boot_bool rfl) pa_nil))))))))))))
/-! Book.__len__ -/
abbrev st_Book_len : Stmt := inClass (top 17) 2
noncomputable def m_Book_len : Sm := (sRet (e1 lenD (e1 (fldD "Book" "rows") (eV 0))))
noncomputable def f_Book_len : List D → Fr := hide (fnM 1 1 [] m_Book_len)
theorem d_Book_len : f_Book_len = fnM 1 1 [] m_Book_len := hide_eq _
theorem e_Book_len {ds : List D} {r : Fr} (hl : ds.length = 1) (h : FEnd [] (fun x => x = r) (m_Book_len (startE 1 ds))) : f_Book_len ds = r := by rw [d_Book_len]; exact fn_run (Q := fun x => x = r) hl h
theorem sc_Book_len : FnScope ["self"] ["self"] (defScope st_Book_len) := ⟨rfl, rfl, rfl, by decide +kernel, rfl, by decide +kernel, by decide +kernel⟩
theorem k_Book_len (T : Tx K mg cm fld)  {g : Addr} {fd : FuncData} (F : Fun K "__len__" "Book.__len__" st_Book_len g fd) (h1 : PySem.W.findIn K (.ref (cm "Book")) "__len__" = some (some (.ref g))) (h2 : PySem.W.isFn K (.ref g) = true) (h4 : PySem.W.typeIn K (.ref g) = some (.type "function")) (hb : Binds K fd ["self"] []) : MtC P w K mg base cm fld "Book" "__len__" 1 1 [] f_Book_len :=
  d_Book_len ▸ mt_mk (k := 0) F h1 h2 h4 hb sc_Book_len rfl rfl (by decide) [] (fun cdv cd A outer s H G E as hr => by exact (s_one (s_ret (b_1 a_lenD (pe_callB call_len (by rfl) T.n_len PySem.boot_len (pa_cons (wk (d_1 (a_fldD T.cl_Book T.no_Book_rows) (pe_fld (wk (d_v (pv 0) (by decide))) rfl))) pa_nil))))))
/-! NoTimetable.__init__ -/
abbrev st_NoTimetable_init : Stmt := inClass (top 3) 0
theorem sc_NoTimetable_init : FnScope ["self", "index"] ["self", "index"] (defScope st_NoTimetable_init) := ⟨rfl, rfl, rfl, by decide +kernel, rfl, by decide +kernel, by decide +kernel⟩
theorem k_NoTimetable_init (T : Tx K mg cm fld) {g : Addr} {fd : FuncData} (k : ExK K mg cm fld "NoTimetable") (F : Fun K "__init__" "NoTimetable.__init__" st_NoTimetable_init g fd) (iC : PySem.W.findIn K (.ref (cm "NoTimetable")) "__init__" = some (some (.ref g))) (tI : PySem.W.typeIn K (.ref g) = some (.type "function")) (hb : Binds K fd ["self", "index"] []) : ExI P w K mg base cm fld "NoTimetable" :=
  exi_mk (t := "invalid timetable") k T.f_NoTimetable F iC tI hb sc_NoTimetable_init rfl (fun cdv A outer s H E => by exact pss_cons (ps_expr (pe_sinit T.sb (by rfl) (pa_cons (pv 0) (pa_cons pe_str pa_nil)))) (pss_one (ps_ost (pv 0) (pv 1))))
/-! _law_raised -/
abbrev st_law_raised : Stmt := top 88
noncomputable def f_law_raised : Fr → Fr := hide (thkM ((List.replicate 3 none).set 1 (some .non)) .ex ["NoTimetable"] 2 (fun _ dv => sAsg (.n 1) (eC dv)) (sRet (eV 1)))
theorem d_law_raised : f_law_raised = thkM ((List.replicate 3 none).set 1 (some .non)) .ex ["NoTimetable"] 2 (fun _ dv => sAsg (.n 1) (eC dv)) (sRet (eV 1)) := hide_eq _
theorem sc_law_raised : FnScope ["ask", "found", "e"] ["ask"] (defScope st_law_raised) := ⟨rfl, rfl, rfl, by decide +kernel, rfl, by decide +kernel, by decide +kernel⟩
theorem k_law_raised (T : Tx K mg cm fld) (x_NoTimetable : ExI P w K mg base cm fld "NoTimetable") {g : Addr} {fd : FuncData} (F : Fun K "_law_raised" "_law_raised" st_law_raised g fd) (hm : mg "_law_raised" = some (.ref g)) (hb : Binds K fd ["ask"] []) : ThkD P w K mg base cm fld "_law_raised" f_law_raised :=
  d_law_raised ▸ thk_mk1 (O' := []) (i := 2) (j0 := 1) F hm hb sc_law_raised rfl rfl (.inl rfl) (by decide) (by decide) rfl (fun _ => .non) (by decide) rfl (fun _ _ _ _ _ => ps_set (i := 1) sc_law_raised.nd rfl (by first | exact Or.inl rfl | exact Or.inr rfl) pe_non) (fun _ _ _ _ _ _ _ _ h => pss_one (ps_expr h)) (fun _ _ _ _ _ => ⟨rfl, ⟨by rfl, by decide, .inl x_NoTimetable.k.m⟩⟩) (all1 T.em_NoTimetable) (fun _ _ _ _ _ a oe cl d pn hz hf => (pss_one (ps_set (i := 1) sc_law_raised.nd rfl (by first | exact Or.inl rfl | exact Or.inr rfl) (pe_xf x_NoTimetable.k.xf T.no_NoTimetable hz hf (pv 2))))) (fun a cl d c dv σ G0 H0 G H δ D h1 h2 h3 h4 h5 => run_fld (C := scT K cm fld 3 G0 H0) (O := []) (i := 2) (j := 1) (F' := "index") (by decide) (by show 2 < 3; decide) (all1 ⟨T.f_NoTimetable, rfl⟩) a cl d c dv σ G H δ D h1 h2 h3 h4 h5) (fun _ _ _ _ _ _ => (s_one (s_ret (d_v (pv 1) (by decide)))))
/-! NoBook.__init__ -/
abbrev st_NoBook_init : Stmt := inClass (top 2) 0
theorem sc_NoBook_init : FnScope ["self", "index"] ["self", "index"] (defScope st_NoBook_init) := ⟨rfl, rfl, rfl, by decide +kernel, rfl, by decide +kernel, by decide +kernel⟩
theorem k_NoBook_init (T : Tx K mg cm fld) {g : Addr} {fd : FuncData} (k : ExK K mg cm fld "NoBook") (F : Fun K "__init__" "NoBook.__init__" st_NoBook_init g fd) (iC : PySem.W.findIn K (.ref (cm "NoBook")) "__init__" = some (some (.ref g))) (tI : PySem.W.typeIn K (.ref g) = some (.type "function")) (hb : Binds K fd ["self", "index"] []) : ExI P w K mg base cm fld "NoBook" :=
  exi_mk (t := "invalid book") k T.f_NoBook F iC tI hb sc_NoBook_init rfl (fun cdv A outer s H E => by exact pss_cons (ps_expr (pe_sinit T.sb (by rfl) (pa_cons (pv 0) (pa_cons pe_str pa_nil)))) (pss_one (ps_ost (pv 0) (pv 1))))
/-! _law_draw -/
abbrev st_law_draw : Stmt := top 85
noncomputable def m_law_draw : Sm := (sSeq (sIf (e2 gtD (eO2 idxD 0 (eC (.int 0))) (eC (.int 0))) (sSeq (sAsg (.n 2) (e2 modD (eO2 idxD 0 (eC (.int 0))) (eV 1))) (sSeq (sSetI 0 (eC (.int 0)) (e2 fdivD (eO2 idxD 0 (eC (.int 0))) (eV 1))) (sRet (eV 2)))) sPass) (sSeq (sSetI 0 (eC (.int 2)) (e2 addD (eO2 idxD 0 (eC (.int 2))) (eC (.int 1)))) (sSeq (sAsg (.n 3) (e2 modD (e2 mulD (e2 addD (e2 addD (eO2 idxD 0 (eC (.int 1))) (e2 mulD (eC (.int 104729)) (eO2 idxD 0 (eC (.int 2))))) (eC (.int 1))) (eC (.int 48271))) (eC (.int 2147483647)))) (sSeq (sAsg (.n 3) (e2 modD (e2 mulD (eV 3) (e2 addD (e2 fdivD (eV 3) (eC (.int 1009))) (eC (.int 69621)))) (eC (.int 2147483647)))) (sRet (e2 modD (e2 modD (e2 mulD (eV 3) (e2 addD (e2 fdivD (eV 3) (eC (.int 2003))) (eC (.int 40692)))) (eC (.int 2147483399))) (eV 1)))))))
noncomputable def f_law_draw : List D → Fr := hide (fnM 4 2 [0] m_law_draw)
theorem d_law_draw : f_law_draw = fnM 4 2 [0] m_law_draw := hide_eq _
theorem e_law_draw {ds : List D} {r : Fr} (hl : ds.length = 2) (h : FEnd [0] (fun x => x = r) (m_law_draw (startE 4 ds))) : f_law_draw ds = r := by rw [d_law_draw]; exact fn_run (Q := fun x => x = r) hl h
theorem sc_law_draw : FnScope ["well", "many", "found", "number"] ["well", "many"] (defScope st_law_draw) := ⟨rfl, rfl, rfl, by decide +kernel, rfl, by decide +kernel, by decide +kernel⟩
theorem k_law_draw (T : Tx K mg cm fld)  {g : Addr} {fd : FuncData} (F : Fun K "_law_draw" "_law_draw" st_law_draw g fd) (hm : mg "_law_draw" = some (.ref g)) (hb : Binds K fd ["well", "many"] []) : Cal P w K mg base cm fld "_law_draw" 1 2 [0] f_law_draw :=
  d_law_draw ▸ cal_mk (k := 0) F hm hb sc_law_draw rfl rfl (by decide) [0] (fun cdv cd A outer s H G E as hr => by exact (s_seq (s_if (t_2 a_cmpD (pt_cmpR op_gt (d_o2 (by decide) a_idxD (pe_ix ix_seq (pv 0) (wk d_int) fun _ _ => rfl)) (wk d_int) (nomark _))) (s_seq (s_asg (ps_set (i := 2) sc_law_draw.nd rfl (by first | exact Or.inl rfl | exact Or.inr rfl) (d_2 a_modD (pe_op op_mod (d_o2 (by decide) a_idxD (pe_ix ix_seq (pv 0) (wk d_int) fun _ _ => rfl)) (wk (d_v (pv 1) (by decide)))))) (gt_n (by decide))) (s_seq (s_setI (by decide) (ps_asg (d_2 a_fdivD (pe_op op_fdiv (d_o2 (by decide) a_idxD (pe_ix ix_seq (pv 0) (wk d_int) fun _ _ => rfl)) (wk (d_v (pv 1) (by decide))))) (pg_sub (pv 0) d_int set_list))) (s_one (s_ret (d_v (pv 2) (by decide)))))) s_nil) (s_seq (s_setI (by decide) (ps_asg (d_2 a_addD (pe_op op_addD (d_o2 (by decide) a_idxD (pe_ix ix_seq (pv 0) (wk d_int) fun _ _ => rfl)) (wk d_int))) (pg_sub (pv 0) d_int set_list))) (s_seq (s_asg (ps_set (i := 3) sc_law_draw.nd rfl (by first | exact Or.inl rfl | exact Or.inr rfl) (d_2 a_modD (pe_op op_mod (d_2 a_mulD (pe_op op_mul (d_2 a_addD (pe_op op_addD (d_2 a_addD (pe_op op_addD (d_o2 (by decide) a_idxD (pe_ix ix_seq (pv 0) (wk d_int) fun _ _ => rfl)) (wk (d_2 a_mulD (pe_op op_mul d_int (wk (d_o2 (by decide) a_idxD (pe_ix ix_seq (pv 0) (wk d_int) fun _ _ => rfl)))))))) (wk d_int))) (wk d_int))) (wk d_int)))) (gt_n (by decide))) (s_seq (s_asg (ps_set (i := 3) sc_law_draw.nd rfl (by first | exact Or.inl rfl | exact Or.inr rfl) (d_2 a_modD (pe_op op_mod (d_2 a_mulD (pe_op op_mul (d_v (pv 3) (by decide)) (wk (d_2 a_addD (pe_op op_addD (d_2 a_fdivD (pe_op op_fdiv (d_v (pv 3) (by decide)) (wk d_int))) (wk d_int)))))) (wk d_int)))) (gt_n (by decide))) (s_one (s_ret (d_2 a_modD (pe_op op_mod (d_2 a_modD (pe_op op_mod (d_2 a_mulD (pe_op op_mul (d_v (pv 3) (by decide)) (wk (d_2 a_addD (pe_op op_addD (d_2 a_fdivD (pe_op op_fdiv (d_v (pv 3) (by decide)) (wk d_int))) (wk d_int)))))) (wk d_int))) (wk (d_v (pv 1) (by decide))))))))))))
/-! _law_due -/
abbrev st_law_due : Stmt := top 87
noncomputable def m_law_due : Sm := (sSeq (sIf (eOr (eNot (e1 (isD "tuple") (eV 1))) (e2 neD (e1 lenD (eV 1)) (e1 lenD (eV 0)))) (sRet (e1 negD (eC (.int 1)))) sPass) (sSeq (sFor (iEnum (eV 1)) (.t [2, 3]) (sSeq (sIf (eOr (e1 (isD "bool") (eV 3)) (eNot (e1 (isD "int") (eV 3)))) (sRet (eV 2)) sPass) (sIf (eOr (e2 ninD (eV 3) (e2 idxD (eV 0) (eV 2))) (e2 inD (eV 3) (e3 slD (eV 1) none (some (eV 2))))) (sRet (eV 2)) sPass))) (sRet (eC .non))))
noncomputable def f_law_due : List D → Fr := hide (fnM 4 2 [] m_law_due)
theorem d_law_due : f_law_due = fnM 4 2 [] m_law_due := hide_eq _
theorem e_law_due {ds : List D} {r : Fr} (hl : ds.length = 2) (h : FEnd [] (fun x => x = r) (m_law_due (startE 4 ds))) : f_law_due ds = r := by rw [d_law_due]; exact fn_run (Q := fun x => x = r) hl h
theorem sc_law_due : FnScope ["allowed", "timetable", "index", "slot"] ["allowed", "timetable"] (defScope st_law_due) := ⟨rfl, rfl, rfl, by decide +kernel, rfl, by decide +kernel, by decide +kernel⟩
theorem k_law_due (T : Tx K mg cm fld)  {g : Addr} {fd : FuncData} (F : Fun K "_law_due" "_law_due" st_law_due g fd) (hm : mg "_law_due" = some (.ref g)) (hb : Binds K fd ["allowed", "timetable"] []) : Cal P w K mg base cm fld "_law_due" 1 2 [] f_law_due :=
  d_law_due ▸ cal_mk (k := 0) F hm hb sc_law_due rfl rfl (by decide) [] (fun cdv cd A outer s H G E as hr => by exact (s_seq (s_if (PW.pt (t_or (t_not (t_val (b_isi (T := "tuple") (by decide) (pe_callB call_isi (by rfl) T.n_isinstance PyProof.Rows.boot_isinstance (pa_cons (wk (d_v (pv 1) (by decide))) (pa_cons (pe_bltn (by rfl) T.n_tuple PyProof.Rows.boot_tuple rfl) pa_nil)))))) (pw_or1 (t_2 a_neD (pt_cmpR (op_neD (u64 hr)) (b_1 a_lenD (pe_callB call_len (by rfl) T.n_len PySem.boot_len (pa_cons (wk (d_v (pv 1) (by decide))) pa_nil))) (wk (b_1 a_lenD (pe_callB call_len (by rfl) T.n_len PySem.boot_len (pa_cons (wk (d_v (pv 0) (by decide))) pa_nil)))) (nomark _)))))) (s_one (s_ret (d_1 a_negD (pe_un un_neg (wk d_int))))) s_nil) (s_seq (s_for (passes_of rfl) rfl (i_enum rfl (by rfl) T.n_enumerate (pa_cons (d_v (pv 1) (by decide)) pa_nil)) (pg_tup rfl (pgs_cons (pg_name (i := 2) sc_law_due.nd rfl (by first | exact Or.inl rfl | exact Or.inr rfl)) (pgs_cons (pg_name (i := 3) sc_law_due.nd rfl (by first | exact Or.inl rfl | exact Or.inr rfl)) pgs_nil))) (gt_t (gts_cons (by decide) (gts_cons (by decide) gts_nil)) rfl) (s_seq (s_if (PW.pt (t_or (t_val (b_isi (T := "bool") (by decide) (pe_callB call_isi (by rfl) T.n_isinstance PyProof.Rows.boot_isinstance (pa_cons (wk (d_v (pv 3) (by decide))) (pa_cons (pe_bltn (by rfl) T.n_bool PyProof.Rows.boot_bool rfl) pa_nil))))) (pw_or1 (t_not (t_val (b_isi (T := "int") (by decide) (pe_callB call_isi (by rfl) T.n_isinstance PyProof.Rows.boot_isinstance (pa_cons (wk (d_v (pv 3) (by decide))) (pa_cons (pe_bltn (by rfl) T.n_int PyProof.Rows.boot_int rfl) pa_nil))))))))) (s_one (s_ret (d_v (pv 2) (by decide)))) s_nil) (s_one (s_if (PW.pt (t_or (t_2 a_ninD (pt_cmpR (op_ninS (u65 hr)) (d_v (pv 3) (by decide)) (wk (d_2 a_idxD (pe_ix ix_seq (d_v (pv 0) (by decide)) (wk (d_v (pv 2) (by decide))) fun _ _ => rfl))) (by with_unfolding_all rfl))) (pw_or1 (t_2 a_inD (pt_cmpR (op_inS (u65 hr)) (d_v (pv 3) (by decide)) (wk (pe_imp (pe_slice sl_S (d_v (pv 1) (by decide)) po_n (po_s (d_v (pv 2) (by decide)))) (r_sl a_slD))) (by with_unfolding_all rfl)))))) (s_one (s_ret (d_v (pv 2) (by decide)))) s_nil)))) (s_one (s_ret d_non)))))
/-! is_slot_list -/
abbrev st_is_slot_list : Stmt := top 16
noncomputable def m_is_slot_list : Sm := (sSeq (sIf (eOr (eNot (e1 (isD "list") (eV 0))) (eNot (e1 allD (eLc (iSeq (eV 0)) (.n 2) [2] none (eAnd (eCall f_is_int [(eV 2)]) (eCh leD ltD (eC (.int 0)) (eV 2) (eV 1))))))) (sRet (eC (.bl false))) sPass) (sRet (e1 allD (eLc (iZip (eV 0) (e3 slD (eV 0) (some (eC (.int 1))) none)) (.t [3, 4]) [3, 4] none (e2 ltD (eV 3) (eV 4))))))
noncomputable def f_is_slot_list : List D → Fr := hide (fnM 5 2 [] m_is_slot_list)
theorem d_is_slot_list : f_is_slot_list = fnM 5 2 [] m_is_slot_list := hide_eq _
theorem e_is_slot_list {ds : List D} {r : Fr} (hl : ds.length = 2) (h : FEnd [] (fun x => x = r) (m_is_slot_list (startE 5 ds))) : f_is_slot_list ds = r := by rw [d_is_slot_list]; exact fn_run (Q := fun x => x = r) hl h
theorem sc_is_slot_list : FnScope ["value", "slots", "slot", "one", "other"] ["value", "slots"] (defScope st_is_slot_list) := ⟨rfl, rfl, rfl, by decide +kernel, rfl, by decide +kernel, by decide +kernel⟩
theorem k_is_slot_list (T : Tx K mg cm fld) (c_is_int : Cal P w K mg base cm fld "is_int" 1 1 [] f_is_int) {g : Addr} {fd : FuncData} (F : Fun K "is_slot_list" "is_slot_list" st_is_slot_list g fd) (hm : mg "is_slot_list" = some (.ref g)) (hb : Binds K fd ["value", "slots"] []) : Cal P w K mg base cm fld "is_slot_list" 2 2 [] f_is_slot_list :=
  d_is_slot_list ▸ cal_mk (k := 1) F hm hb sc_is_slot_list rfl rfl (by decide) [] (fun cdv cd A outer s H G E as hr => by exact (s_seq (s_if (PW.pt (t_or (t_not (t_val (b_isi (T := "list") (by decide) (pe_callB call_isi (by rfl) T.n_isinstance PyProof.Rows.boot_isinstance (pa_cons (wk (d_v (pv 0) (by decide))) (pa_cons (pe_bltn (by rfl) T.n_list PyProof.Rows.boot_list rfl) pa_nil)))))) (pw_or1 (t_not (t_val (b_1 a_allD (pe_callB (cr_all rfl) (by rfl) T.n_all PyProof.Rows.boot_all (pa_cons (wk (kn (n_lc0 [("slot", 2)] rfl sc_is_slot_list.nd (i_seq rfl (d_v (pv 0) (by decide))) (blkOk_by (N := ["value", "slots", "slot", "one", "other"]) (sc := defScope st_is_slot_list) (by decide +kernel)) rfl (fun _ _ _ _ _ => (pg_name (i := 2) sc_is_slot_list.nd rfl (by first | exact Or.inl rfl | exact Or.inr rfl))) (gt_n (by decide)) (by decide) (gw_n (by decide)) (fun _ _ _ _ _ => (d_and (pe_and (d_cal c_is_int rfl hr (by decide) takes0 (a_cons (pa_cons (d_v (pv 2) (by decide)) a_nil)) rfl) (pe_one (d_ch a_cmpD a_cmpD (pe_chain op_le op_lt d_int (d_v (pv 2) (by decide)) (wk (d_v (pv 1) (by decide)))))))))))) pa_nil)))))))) (s_one (s_ret d_bl)) s_nil) (s_one (s_ret (b_1 a_allD (pe_callB (cr_all rfl) (by rfl) T.n_all PyProof.Rows.boot_all (pa_cons (wk (kn (n_lc0 [("one", 3), ("other", 4)] rfl sc_is_slot_list.nd (i_zip rfl (by rfl) T.n_zip (pa_cons (d_v (pv 0) (by decide)) (pa_cons (pe_imp (pe_slice sl_S (d_v (pv 0) (by decide)) (po_s d_int) po_n) (r_sl a_slD)) pa_nil))) (blkOk_by (N := ["value", "slots", "slot", "one", "other"]) (sc := defScope st_is_slot_list) (by decide +kernel)) rfl (fun _ _ _ _ _ => (pg_tup rfl (pgs_cons (pg_name (i := 3) sc_is_slot_list.nd rfl (by first | exact Or.inl rfl | exact Or.inr rfl)) (pgs_cons (pg_name (i := 4) sc_is_slot_list.nd rfl (by first | exact Or.inl rfl | exact Or.inr rfl)) pgs_nil)))) (gt_t (gts_cons (by decide) (gts_cons (by decide) gts_nil)) rfl) (by decide) (gw_t (gws_cons (by decide) (gws_cons (by decide) gws_nil))) (fun _ _ _ _ _ => (d_2 a_cmpD (pe_cmpR op_lt (d_v (pv 3) (by decide)) (wk (d_v (pv 4) (by decide))) (nomark _))))))) pa_nil)))))))
/-! _law_bent -/
abbrev st_law_bent : Stmt := top 92
noncomputable def m_law_bent : Sm := (sSeq (sFor (iRng (e2 addD (eC (.int 1)) (eCallO f_law_draw 0 [(eC (.int 2))]))) (.n 3) (sSeq (sAsg (.n 4) (eCallO f_law_draw 0 [(e2 addD (e1 lenD (eV 1)) (eC (.int 1)))])) (sSeq (sAsg (.n 5) (e2 idxD (eLst [(eCallO f_law_draw 0 [(eV 2)]), (eC (.bl true)), (e1 negD (eC (.int 1))), (eV 2), (eC .non), (eC (.str "0")), (eLst [(eC (.int 0))]), (eC (.bl false))]) (eCallO f_law_draw 0 [(eC (.int 8))]))) (sSeq (sAsg (.n 6) (eCallO f_law_draw 0 [(eC (.int 4))])) (sIf (e2 eqD (eV 6) (eC (.int 0))) (sAsg (.n 1) (e2 addD (e3 slD (eV 1) none (some (eV 4))) (e3 slD (eV 1) (some (e2 addD (eV 4) (eC (.int 1)))) none))) (sAsg (.n 1) (e2 addD (e2 addD (e3 slD (eV 1) none (some (eV 4))) (eTup [(eV 5)])) (e3 slD (eV 1) (some (e2 addD (eV 4) (e1 intD (e2 gtD (eV 6) (eC (.int 1)))))) none)))))))) (sRet (eV 1)))
noncomputable def f_law_bent : List D → Fr := hide (fnM 7 3 [0] m_law_bent)
theorem d_law_bent : f_law_bent = fnM 7 3 [0] m_law_bent := hide_eq _
theorem e_law_bent {ds : List D} {r : Fr} (hl : ds.length = 3) (h : FEnd [0] (fun x => x = r) (m_law_bent (startE 7 ds))) : f_law_bent ds = r := by rw [d_law_bent]; exact fn_run (Q := fun x => x = r) hl h
theorem sc_law_bent : FnScope ["well", "timetable", "slots", "k", "at", "one", "turn"] ["well", "timetable", "slots"] (defScope st_law_bent) := ⟨rfl, rfl, rfl, by decide +kernel, rfl, by decide +kernel, by decide +kernel⟩
theorem k_law_bent (T : Tx K mg cm fld) (c_law_draw : Cal P w K mg base cm fld "_law_draw" 1 2 [0] f_law_draw) {g : Addr} {fd : FuncData} (F : Fun K "_law_bent" "_law_bent" st_law_bent g fd) (hm : mg "_law_bent" = some (.ref g)) (hb : Binds K fd ["well", "timetable", "slots"] []) : Cal P w K mg base cm fld "_law_bent" 2 3 [0] f_law_bent :=
  d_law_bent ▸ cal_mk (k := 1) F hm hb sc_law_bent rfl rfl (by decide) [0] (fun cdv cd A outer s H G E as hr => by exact (s_seq (s_for (passes_of rfl) rfl (i_rng (by rfl) T.n_range (pa_cons (d_2 a_addD (pe_op op_addD d_int (wk (d_calO c_law_draw rfl hr (by decide) (takes_of rfl rfl rfl rfl) (by decide) (pa_cons (pv 0) (a_cons (pa_cons d_int a_nil))) rfl)))) pa_nil)) (pg_name (i := 3) sc_law_bent.nd rfl (by first | exact Or.inl rfl | exact Or.inr rfl)) (gt_n (by decide)) (s_seq (s_asg (ps_set (i := 4) sc_law_bent.nd rfl (by first | exact Or.inl rfl | exact Or.inr rfl) (d_calO c_law_draw rfl hr (by decide) (takes_of rfl rfl rfl rfl) (by decide) (pa_cons (pv 0) (a_cons (pa_cons (d_2 a_addD (pe_op op_addD (b_1 a_lenD (pe_callB call_len (by rfl) T.n_len PySem.boot_len (pa_cons (wk (d_v (pv 1) (by decide))) pa_nil))) (wk d_int))) a_nil))) rfl)) (gt_n (by decide))) (s_seq (s_asg (ps_set (i := 5) sc_law_bent.nd rfl (by first | exact Or.inl rfl | exact Or.inr rfl) (d_2 a_idxD (pe_ix ix_seq (kn (n_lst (a_cons (pa_cons (d_calO c_law_draw rfl hr (by decide) (takes_of rfl rfl rfl rfl) (by decide) (pa_cons (pv 0) (a_cons (pa_cons (d_v (pv 2) (by decide)) a_nil))) rfl) (a_cons (pa_cons d_bl (a_cons (pa_cons (d_1 a_negD (pe_un un_neg (wk d_int))) (a_cons (pa_cons (d_v (pv 2) (by decide)) (a_cons (pa_cons d_non (a_cons (pa_cons d_str (a_cons (pa_cons (kn (n_lst (a_cons (pa_cons d_int a_nil)))) (a_cons (pa_cons d_bl a_nil)))))))))))))))))) (wk (d_calO c_law_draw rfl hr (by decide) (takes_of rfl rfl rfl rfl) (by decide) (pa_cons (pv 0) (a_cons (pa_cons d_int a_nil))) rfl)) fun _ _ => rfl))) (gt_n (by decide))) (s_seq (s_asg (ps_set (i := 6) sc_law_bent.nd rfl (by first | exact Or.inl rfl | exact Or.inr rfl) (d_calO c_law_draw rfl hr (by decide) (takes_of rfl rfl rfl rfl) (by decide) (pa_cons (pv 0) (a_cons (pa_cons d_int a_nil))) rfl)) (gt_n (by decide))) (s_one (s_if (t_2 a_eqD (pt_cmpR (op_eqD (u64 hr)) (d_v (pv 6) (by decide)) (wk d_int) (nomark _))) (s_one (s_asg (ps_set (i := 1) sc_law_bent.nd rfl (by first | exact Or.inl rfl | exact Or.inr rfl) (d_2 a_addD (pe_op op_addD (pe_imp (pe_slice sl_S (d_v (pv 1) (by decide)) po_n (po_s (d_v (pv 4) (by decide)))) (r_sl a_slD)) (wk (pe_imp (pe_slice sl_S (d_v (pv 1) (by decide)) (po_s (d_2 a_addD (pe_op op_addD (d_v (pv 4) (by decide)) (wk d_int)))) po_n) (r_sl a_slD)))))) (gt_n (by decide)))) (s_one (s_asg (ps_set (i := 1) sc_law_bent.nd rfl (by first | exact Or.inl rfl | exact Or.inr rfl) (d_2 a_addD (pe_op op_addD (d_2 a_addD (pe_op op_addD (pe_imp (pe_slice sl_S (d_v (pv 1) (by decide)) po_n (po_s (d_v (pv 4) (by decide)))) (r_sl a_slD)) (wk (d_tup (a_cons (pa_cons (d_v (pv 5) (by decide)) a_nil)))))) (wk (pe_imp (pe_slice sl_S (d_v (pv 1) (by decide)) (po_s (d_2 a_addD (pe_op op_addD (d_v (pv 4) (by decide)) (wk (b_1 a_intD (pe_callTy call_int1 (by rfl) T.n_int PyProof.Rows.boot_int (pa_cons (wk (d_2 a_cmpD (pe_cmpR op_gt (d_v (pv 6) (by decide)) (wk d_int) (nomark _)))) pa_nil))))))) po_n) (r_sl a_slD)))))) (gt_n (by decide)))))))))) (s_one (s_ret (d_v (pv 1) (by decide))))))
/-! _law_book -/
abbrev st_law_book : Stmt := top 86
noncomputable def m_law_book : Sm := (sSeq (sAsg (.n 2) (e2 subD (eV 1) (e2 fdivD (eCallO f_law_draw 0 [(eV 1)]) (e2 idxD (eLst [(eC (.int 1)), (eC (.int 2)), (eC (.int 3))]) (eCallO f_law_draw 0 [(eC (.int 3))]))))) (sSeq (sAsg (.n 3) (eLrg (eV 2))) (sSeq (sAsg (.n 4) (eLst [])) (sSeq (sWhile (eO2 neD 3 (eLst [])) (sApp 4 (ePopAt 3 (eCallO f_law_draw 0 [(e1 lenD (eV 3))])))) (sSeq (sAsg (.n 5) (e2 max2D (eC (.int 0)) (e2 subD (eV 2) (e2 idxD (eLst [(eC (.int 1)), (eC (.int 1)), (eC (.int 0)), (eC (.int 2)), (eC (.int 3)), (eCallO f_law_draw 0 [(e2 addD (eV 2) (eC (.int 1)))])]) (eCallO f_law_draw 0 [(eC (.int 6))]))))) (sSeq (sAsg (.n 6) (e2 idxD (eLst [(eC (.int 0)), (eC (.int 0)), (eCallO f_law_draw 0 [(e2 addD (eV 2) (eC (.int 1)))])]) (eCallO f_law_draw 0 [(eC (.int 3))]))) (sSeq (sAsg (.n 7) (e2 idxD (eLst [(eC (.int 2)), (eC (.int 3)), (eC (.int 4)), (eC (.int 6))]) (eCallO f_law_draw 0 [(eC (.int 4))]))) (sSeq (sAsg (.n 8) (eLst [])) (sSeq (sFor (iRng (eV 5)) (.n 9) (sSeq (sAsg (.n 10) (eLst [(e2 idxD (eV 4) (eV 9))])) (sSeq (sFor (iRng (eCallO f_law_draw 0 [(eV 7)])) (.n 11) (sApp 10 (e2 idxD (eV 4) (eCallO f_law_draw 0 [(e2 idxD (eLst [(eV 2), (e2 max2D (eC (.int 1)) (eV 6))]) (e1 intD (e2 ltD (eV 9) (eV 6))))])))) (sApp 8 (e1 ssetD (eV 10)))))) (sRet (eTup [(eV 2), (eV 8), (e1 tupleD (e3 slD (eV 4) none (some (eV 5))))])))))))))))
noncomputable def f_law_book : List D → Fr := hide (fnM 12 2 [0] m_law_book)
theorem d_law_book : f_law_book = fnM 12 2 [0] m_law_book := hide_eq _
theorem e_law_book {ds : List D} {r : Fr} (hl : ds.length = 2) (h : FEnd [0] (fun x => x = r) (m_law_book (startE 12 ds))) : f_law_book ds = r := by rw [d_law_book]; exact fn_run (Q := fun x => x = r) hl h
theorem sc_law_book : FnScope ["well", "cap", "slots", "left", "order", "many", "cut", "extra", "allowed", "index", "some", "k"] ["well", "cap"] (defScope st_law_book) := ⟨rfl, rfl, rfl, by decide +kernel, rfl, by decide +kernel, by decide +kernel⟩
theorem k_law_book (T : Tx K mg cm fld) (c_law_draw : Cal P w K mg base cm fld "_law_draw" 1 2 [0] f_law_draw) {g : Addr} {fd : FuncData} (F : Fun K "_law_book" "_law_book" st_law_book g fd) (hm : mg "_law_book" = some (.ref g)) (hb : Binds K fd ["well", "cap"] []) : Cal P w K mg base cm fld "_law_book" 2 2 [0] f_law_book :=
  d_law_book ▸ cal_mk (k := 1) F hm hb sc_law_book rfl rfl (by decide) [0] (fun cdv cd A outer s H G E as hr => by exact (s_seq (s_asg (ps_set (i := 2) sc_law_book.nd rfl (by first | exact Or.inl rfl | exact Or.inr rfl) (d_2 a_subD (pe_op op_sub (d_v (pv 1) (by decide)) (wk (d_2 a_fdivD (pe_op op_fdiv (d_calO c_law_draw rfl hr (by decide) (takes_of rfl rfl rfl rfl) (by decide) (pa_cons (pv 0) (a_cons (pa_cons (d_v (pv 1) (by decide)) a_nil))) rfl) (wk (d_2 a_idxD (pe_ix ix_seq (kn (n_lst (a_cons (pa_cons d_int (a_cons (pa_cons d_int (a_cons (pa_cons d_int a_nil)))))))) (wk (d_calO c_law_draw rfl hr (by decide) (takes_of rfl rfl rfl rfl) (by decide) (pa_cons (pv 0) (a_cons (pa_cons d_int a_nil))) rfl)) fun _ _ => rfl))))))))) (gt_n (by decide))) (s_seq (s_perm (O1 := [3, 0]) (O2 := [0, 3]) (s_asgN (O1 := [3, 0]) (ns := [0]) (n := 12) (ps_set (i := 3) sc_law_book.nd rfl (by first | exact Or.inl rfl | exact Or.inr rfl) (n_lrg rfl (by rfl) T.n_list (by rfl) T.n_range (d_v (pv 2) (by decide)))) rfl (by decide) rfl (by decide) (by decide)) (by decide)) (s_seq (s_perm (O1 := [4, 0, 3]) (O2 := [0, 3, 4]) (s_asgN (O1 := [4, 0, 3]) (ns := [0]) (n := 12) (ps_set (i := 4) sc_law_book.nd rfl (by first | exact Or.inl rfl | exact Or.inr rfl) (n_lst a_nil)) rfl (by decide) rfl (by decide) (by decide)) (by decide)) (s_seq (s_while (passes_of rfl) (t_o2 (by decide) a_neD (pt_cmpR (op_neD (u64 hr)) (pv 3) (wk (kn (n_lst a_nil))) (nomark _))) (s_one (s_app (by decide) (ps_expr (pe_bm PySem.F.plainAttrs_list PySem.F.slot_list_append PySem.F.type_list_append mt_append (pv 4) (pa_cons (d_popAt rfl (by decide) (pe_bm PySem.F.plainAttrs_list PySem.F.slot_list_pop PySem.F.type_list_pop mt_popAt (pv 3) (pa_cons (d_calO c_law_draw rfl hr (by decide) (takes_of rfl rfl rfl rfl) (by decide) (pa_cons (pv 0) (a_cons (pa_cons (b_1 a_lenD (pe_callB call_len (by rfl) T.n_len PySem.boot_len (pa_cons (w_v (pv 3) (by decide)) pa_nil))) a_nil))) rfl) pa_nil))) pa_nil)))))) (ss_frz (i := 3) (O1 := [0, 4]) (ns := [0]) (ss_frz (i := 4) (O1 := [0]) (ns := [0]) (s_seq (s_asg (ps_set (i := 5) sc_law_book.nd rfl (by first | exact Or.inl rfl | exact Or.inr rfl) (b_2 a_max2D (pe_callB (call_max2 rfl) (by rfl) T.n_max PyProof.Rows.boot_max (pa_cons d_int (pa_cons (wk (d_2 a_subD (pe_op op_sub (d_v (pv 2) (by decide)) (wk (d_2 a_idxD (pe_ix ix_seq (kn (n_lst (a_cons (pa_cons d_int (a_cons (pa_cons d_int (a_cons (pa_cons d_int (a_cons (pa_cons d_int (a_cons (pa_cons d_int (a_cons (pa_cons (d_calO c_law_draw rfl hr (by decide) (takes_of rfl rfl rfl rfl) (by decide) (pa_cons (pv 0) (a_cons (pa_cons (d_2 a_addD (pe_op op_addD (d_v (pv 2) (by decide)) (wk d_int))) a_nil))) rfl) a_nil)))))))))))))) (wk (d_calO c_law_draw rfl hr (by decide) (takes_of rfl rfl rfl rfl) (by decide) (pa_cons (pv 0) (a_cons (pa_cons d_int a_nil))) rfl)) fun _ _ => rfl)))))) pa_nil))))) (gt_n (by decide))) (s_seq (s_asg (ps_set (i := 6) sc_law_book.nd rfl (by first | exact Or.inl rfl | exact Or.inr rfl) (d_2 a_idxD (pe_ix ix_seq (kn (n_lst (a_cons (pa_cons d_int (a_cons (pa_cons d_int (a_cons (pa_cons (d_calO c_law_draw rfl hr (by decide) (takes_of rfl rfl rfl rfl) (by decide) (pa_cons (pv 0) (a_cons (pa_cons (d_2 a_addD (pe_op op_addD (d_v (pv 2) (by decide)) (wk d_int))) a_nil))) rfl) a_nil)))))))) (wk (d_calO c_law_draw rfl hr (by decide) (takes_of rfl rfl rfl rfl) (by decide) (pa_cons (pv 0) (a_cons (pa_cons d_int a_nil))) rfl)) fun _ _ => rfl))) (gt_n (by decide))) (s_seq (s_asg (ps_set (i := 7) sc_law_book.nd rfl (by first | exact Or.inl rfl | exact Or.inr rfl) (d_2 a_idxD (pe_ix ix_seq (kn (n_lst (a_cons (pa_cons d_int (a_cons (pa_cons d_int (a_cons (pa_cons d_int (a_cons (pa_cons d_int a_nil)))))))))) (wk (d_calO c_law_draw rfl hr (by decide) (takes_of rfl rfl rfl rfl) (by decide) (pa_cons (pv 0) (a_cons (pa_cons d_int a_nil))) rfl)) fun _ _ => rfl))) (gt_n (by decide))) (s_seq (s_perm (O1 := [8, 0]) (O2 := [0, 8]) (s_asgN (O1 := [8, 0]) (ns := [0]) (n := 12) (ps_set (i := 8) sc_law_book.nd rfl (by first | exact Or.inl rfl | exact Or.inr rfl) (n_lst a_nil)) rfl (by decide) rfl (by decide) (by decide)) (by decide)) (s_seq (s_for (passes_of rfl) rfl (i_rng (by rfl) T.n_range (pa_cons (d_v (pv 5) (by decide)) pa_nil)) (pg_name (i := 9) sc_law_book.nd rfl (by first | exact Or.inl rfl | exact Or.inr rfl)) (gt_n (by decide)) (s_seq (s_perm (O1 := [10, 0, 8]) (O2 := [0, 8, 10]) (s_asgN (O1 := [10, 0, 8]) (ns := [0]) (n := 12) (ps_set (i := 10) sc_law_book.nd rfl (by first | exact Or.inl rfl | exact Or.inr rfl) (n_lst (a_cons (pa_cons (d_2 a_idxD (pe_ix ix_seq (d_v (pv 4) (by decide)) (wk (d_v (pv 9) (by decide))) fun _ _ => rfl)) a_nil)))) rfl (by decide) rfl (by decide) (by decide)) (by decide)) (s_seq (s_for (passes_of rfl) rfl (i_rng (by rfl) T.n_range (pa_cons (d_calO c_law_draw rfl hr (by decide) (takes_of rfl rfl rfl rfl) (by decide) (pa_cons (pv 0) (a_cons (pa_cons (d_v (pv 7) (by decide)) a_nil))) rfl) pa_nil)) (pg_name (i := 11) sc_law_book.nd rfl (by first | exact Or.inl rfl | exact Or.inr rfl)) (gt_n (by decide)) (s_one (s_app (by decide) (ps_expr (pe_bm PySem.F.plainAttrs_list PySem.F.slot_list_append PySem.F.type_list_append mt_append (pv 10) (pa_cons (d_2 a_idxD (pe_ix ix_seq (d_v (pv 4) (by decide)) (wk (d_calO c_law_draw rfl hr (by decide) (takes_of rfl rfl rfl rfl) (by decide) (pa_cons (pv 0) (a_cons (pa_cons (d_2 a_idxD (pe_ix ix_seq (kn (n_lst (a_cons (pa_cons (d_v (pv 2) (by decide)) (a_cons (pa_cons (b_2 a_max2D (pe_callB (call_max2 rfl) (by rfl) T.n_max PyProof.Rows.boot_max (pa_cons d_int (pa_cons (wk (d_v (pv 6) (by decide))) pa_nil)))) a_nil)))))) (wk (b_1 a_intD (pe_callTy call_int1 (by rfl) T.n_int PyProof.Rows.boot_int (pa_cons (wk (d_2 a_cmpD (pe_cmpR op_lt (d_v (pv 9) (by decide)) (wk (d_v (pv 6) (by decide))) (nomark _)))) pa_nil)))) fun _ _ => rfl)) a_nil))) rfl)) fun _ _ => rfl)) pa_nil)))))) (ss_frz (i := 10) (O1 := [0, 8]) (ns := [0]) (s_one (s_app (by decide) (ps_expr (pe_bm PySem.F.plainAttrs_list PySem.F.slot_list_append PySem.F.type_list_append mt_append (pv 8) (pa_cons (kn (n_sset rfl rfl T.n_sorted T.n_set (wk (d_v (pv 10) (by decide))))) pa_nil))))) rfl (by decide) (by decide) (by decide))))) (ss_frz (i := 8) (O1 := [0]) (ns := [0]) (s_one (s_ret (d_tup (a_cons (pa_cons (d_v (pv 2) (by decide)) (a_cons (pa_cons (d_v (pv 8) (by decide)) (a_cons (pa_cons (b_1 a_tupleD (pe_callTy call_tupF (by rfl) T.n_tuple PyProof.Rows.boot_tuple (pa_cons (wk (pe_imp (pe_slice sl_S (d_v (pv 4) (by decide)) po_n (po_s (d_v (pv 5) (by decide)))) (r_sl a_slD))) pa_nil))) a_nil))))))))) rfl (by decide) (by decide) (by decide))))))) rfl (by decide) (by decide) (by decide)) rfl (by decide) (by decide) (by decide)))))))
/-! check_timetable -/
abbrev st_check_timetable : Stmt := top 18
noncomputable def m_check_timetable : Sm := (sSeq (sIf (eOr (eNot (e1 (isD "tuple") (eV 1))) (e2 neD (e1 lenD (eV 1)) (e1 (lenO "Book" f_Book_len) (eV 0)))) (sRaise "NoTimetable" (e1 negD (eC (.int 1)))) sPass) (sFor (iEnum (eV 1)) (.t [2, 3]) (sIf (eOr (eNot (eCall f_is_int [(eV 3)])) (eOr (e2 ninD (eV 3) (e2 idxD (e1 (fldD "Book" "rows") (eV 0)) (eV 2))) (e2 inD (eV 3) (e3 slD (eV 1) none (some (eV 2)))))) (sRaise "NoTimetable" (eV 2)) sPass)))
noncomputable def f_check_timetable : List D → Fr := hide (fnM 4 2 [] m_check_timetable)
theorem d_check_timetable : f_check_timetable = fnM 4 2 [] m_check_timetable := hide_eq _
theorem e_check_timetable {ds : List D} {r : Fr} (hl : ds.length = 2) (h : FEnd [] (fun x => x = r) (m_check_timetable (startE 4 ds))) : f_check_timetable ds = r := by rw [d_check_timetable]; exact fn_run (Q := fun x => x = r) hl h
theorem sc_check_timetable : FnScope ["book", "timetable", "index", "slot"] ["book", "timetable"] (defScope st_check_timetable) := ⟨rfl, rfl, rfl, by decide +kernel, rfl, by decide +kernel, by decide +kernel⟩
theorem k_check_timetable (T : Tx K mg cm fld) (c_is_int : Cal P w K mg base cm fld "is_int" 1 1 [] f_is_int) (x_NoTimetable : ExI P w K mg base cm fld "NoTimetable") (t_Book_len : MtC P w K mg base cm fld "Book" "__len__" 1 1 [] f_Book_len) {g : Addr} {fd : FuncData} (F : Fun K "check_timetable" "check_timetable" st_check_timetable g fd) (hm : mg "check_timetable" = some (.ref g)) (hb : Binds K fd ["book", "timetable"] []) : Cal P w K mg base cm fld "check_timetable" 3 2 [] f_check_timetable :=
  d_check_timetable ▸ cal_mk (k := 2) F hm hb sc_check_timetable rfl rfl (by decide) [] (fun cdv cd A outer s H G E as hr => by exact (s_seq (s_if (PW.pt (t_or (t_not (t_val (b_isi (T := "tuple") (by decide) (pe_callB call_isi (by rfl) T.n_isinstance PyProof.Rows.boot_isinstance (pa_cons (wk (d_v (pv 1) (by decide))) (pa_cons (pe_bltn (by rfl) T.n_tuple PyProof.Rows.boot_tuple rfl) pa_nil)))))) (pw_or1 (t_2 a_neD (pt_cmpR (op_neD (u64 hr)) (b_1 a_lenD (pe_callB call_len (by rfl) T.n_len PySem.boot_len (pa_cons (wk (d_v (pv 1) (by decide))) pa_nil))) (wk (d_len t_Book_len rfl hr (by decide) T.n_len (d_v (pv 0) (by decide)))) (nomark _)))))) (s_one (s_raise x_NoTimetable rfl rfl hr (by decide) (takes_of rfl rfl rfl rfl) (d_1 a_negD (pe_un un_neg (wk d_int))))) s_nil) (s_one (s_for (passes_of rfl) rfl (i_enum rfl (by rfl) T.n_enumerate (pa_cons (d_v (pv 1) (by decide)) pa_nil)) (pg_tup rfl (pgs_cons (pg_name (i := 2) sc_check_timetable.nd rfl (by first | exact Or.inl rfl | exact Or.inr rfl)) (pgs_cons (pg_name (i := 3) sc_check_timetable.nd rfl (by first | exact Or.inl rfl | exact Or.inr rfl)) pgs_nil))) (gt_t (gts_cons (by decide) (gts_cons (by decide) gts_nil)) rfl) (s_one (s_if (PW.pt (t_or (t_not (t_val (d_cal c_is_int rfl hr (by decide) (takes_of rfl rfl rfl rfl) (a_cons (pa_cons (d_v (pv 3) (by decide)) a_nil)) rfl))) (t_or (t_2 a_ninD (pt_cmpR (op_ninS (u65 hr)) (d_v (pv 3) (by decide)) (wk (d_2 a_idxD (pe_ix ix_seq (d_1 (a_fldD T.cl_Book T.no_Book_rows) (pe_fld (wk (d_v (pv 0) (by decide))) rfl)) (wk (d_v (pv 2) (by decide))) fun _ _ => rfl))) (by with_unfolding_all rfl))) (pw_or1 (t_2 a_inD (pt_cmpR (op_inS (u65 hr)) (d_v (pv 3) (by decide)) (wk (pe_imp (pe_slice sl_S (d_v (pv 1) (by decide)) po_n (po_s (d_v (pv 2) (by decide)))) (r_sl a_slD))) (by with_unfolding_all rfl))))))) (s_one (s_raise x_NoTimetable rfl rfl hr (by decide) (takes_of rfl rfl rfl rfl) (d_v (pv 2) (by decide)))) s_nil))))))
/-! Book.__init__ -/
abbrev st_Book_init : Stmt := inClass (top 17) 0
noncomputable def m_Book_init : Sm := (sSeq (sIf (eOr (eNot (eCall f_is_int [(eV 1)])) (eNot (eCh leD leD (eC (.int 1)) (eV 1) (eC (.int 60))))) (sRaise "NoBook" (e1 negD (eC (.int 1)))) sPass) (sSeq (sIf (eOr (eNot (e1 (isD "list") (eV 2))) (e2 gtD (e1 lenD (eV 2)) (eC (.int 60)))) (sRaise "NoBook" (e1 negD (eC (.int 1)))) sPass) (sSeq (sFor (iEnum (eV 2)) (.t [3, 4]) (sIf (eOr (eNot (eCall f_is_slot_list [(eV 4), (eV 1)])) (e2 eqD (eV 4) (eLst []))) (sRaise "NoBook" (eV 3)) sPass)) (sSeq (sSetF 0 "Book" "total" (eV 1)) (sSeq (sSetF 0 "Book" "rows" (eLc (iSeq (eV 2)) (.n 4) [4] none (e1 tupleD (eV 4)))) gUsers)))))
noncomputable def f_Book_init : List D → Fr := hide (fnM 6 3 [0] m_Book_init)
theorem d_Book_init : f_Book_init = fnM 6 3 [0] m_Book_init := hide_eq _
theorem e_Book_init {ds : List D} {r : Fr} (hl : ds.length = 3) (h : FEnd [0] (fun x => x = r) (m_Book_init (startE 6 ds))) : f_Book_init ds = r := by rw [d_Book_init]; exact fn_run (Q := fun x => x = r) hl h
theorem sc_Book_init : FnScope ["self", "slots", "allowed", "index", "some", "slot"] ["self", "slots", "allowed"] (defScope st_Book_init) := ⟨rfl, rfl, rfl, by decide +kernel, rfl, by decide +kernel, by decide +kernel⟩
theorem k_Book_init (T : Tx K mg cm fld) (c_is_int : Cal P w K mg base cm fld "is_int" 1 1 [] f_is_int) (c_is_slot_list : Cal P w K mg base cm fld "is_slot_list" 2 2 [] f_is_slot_list) (x_NoBook : ExI P w K mg base cm fld "NoBook") {g : Addr} {fd : FuncData} (F : Fun K "__init__" "Book.__init__" st_Book_init g fd) (M : Mk K (cm "Book") g) (hm : mg "Book" = some (.ref (cm "Book"))) (hb : Binds K fd ["self", "slots", "allowed"] []) : MkC P w K mg base cm fld "Book" 3 3 f_Book_init :=
  d_Book_init ▸ mk_mk (k := 2) F M hm hb sc_Book_init rfl rfl (by decide) [0] (fun cdv cd A outer s H G E as hr => by exact (s_seq (s_if (PW.pt (t_or (t_not (t_val (d_cal c_is_int rfl hr (by decide) (takes_of rfl rfl rfl rfl) (a_cons (pa_cons (d_v (pv 1) (by decide)) a_nil)) rfl))) (pw_or1 (t_not (t_ch a_cmpD a_cmpD (pt_chain op_le op_le d_int (d_v (pv 1) (by decide)) (wk (d_glob T.k_MAX_SIZE)))))))) (s_one (s_raise x_NoBook rfl rfl hr (by decide) (takes_of rfl rfl rfl rfl) (d_1 a_negD (pe_un un_neg (wk d_int))))) s_nil) (s_seq (s_if (PW.pt (t_or (t_not (t_val (b_isi (T := "list") (by decide) (pe_callB call_isi (by rfl) T.n_isinstance PyProof.Rows.boot_isinstance (pa_cons (wk (d_v (pv 2) (by decide))) (pa_cons (pe_bltn (by rfl) T.n_list PyProof.Rows.boot_list rfl) pa_nil)))))) (pw_or1 (t_2 a_cmpD (pt_cmpR op_gt (b_1 a_lenD (pe_callB call_len (by rfl) T.n_len PySem.boot_len (pa_cons (wk (d_v (pv 2) (by decide))) pa_nil))) (wk (d_glob T.k_MAX_SIZE)) (nomark _)))))) (s_one (s_raise x_NoBook rfl rfl hr (by decide) (takes_of rfl rfl rfl rfl) (d_1 a_negD (pe_un un_neg (wk d_int))))) s_nil) (s_seq (s_for (passes_of rfl) rfl (i_enum rfl (by rfl) T.n_enumerate (pa_cons (d_v (pv 2) (by decide)) pa_nil)) (pg_tup rfl (pgs_cons (pg_name (i := 3) sc_Book_init.nd rfl (by first | exact Or.inl rfl | exact Or.inr rfl)) (pgs_cons (pg_name (i := 4) sc_Book_init.nd rfl (by first | exact Or.inl rfl | exact Or.inr rfl)) pgs_nil))) (gt_t (gts_cons (by decide) (gts_cons (by decide) gts_nil)) rfl) (s_one (s_if (PW.pt (t_or (t_not (t_val (d_cal c_is_slot_list rfl hr (by decide) (takes_of rfl rfl rfl rfl) (a_cons (pa_cons (d_v (pv 4) (by decide)) (a_cons (pa_cons (d_v (pv 1) (by decide)) a_nil)))) rfl))) (pw_or1 (t_2 a_eqD (pt_cmpR (op_eqD (u64 hr)) (d_v (pv 4) (by decide)) (wk (kn (n_lst a_nil))) (nomark _)))))) (s_one (s_raise x_NoBook rfl rfl hr (by decide) (takes_of rfl rfl rfl rfl) (d_v (pv 3) (by decide)))) s_nil))) (s_seq (s_setF rfl (by decide) T.cl_Book T.no_Book_total (ps_fld (pv 0) (d_v (pv 1) (by decide)) rfl)) (s_seq (s_setF rfl (by decide) T.cl_Book T.no_Book_rows (ps_fld (pv 0) (kn (n_lc0 [("some", 4)] rfl sc_Book_init.nd (i_seq rfl (d_v (pv 2) (by decide))) (blkOk_by (N := ["self", "slots", "allowed", "index", "some", "slot"]) (sc := defScope st_Book_init) (by decide +kernel)) rfl (fun _ _ _ _ _ => (pg_name (i := 4) sc_Book_init.nd rfl (by first | exact Or.inl rfl | exact Or.inr rfl))) (gt_n (by decide)) (by decide) (gw_n (by decide)) (fun _ _ _ _ _ => (b_1 a_tupleD (pe_callTy call_tupF (by rfl) T.n_tuple PyProof.Rows.boot_tuple (pa_cons (wk (d_v (pv 4) (by decide))) pa_nil)))))) rfl)) (pss_imp (pss_cons (ps_fld (pv 0) (pe_lc (own := [("slot", 5)]) rfl sc_Book_init.nd (i_rng (by rfl) T.n_range (pa_cons (d_v (pv 1) (by decide)) pa_nil)) (blkOk_by (N := ["self", "slots", "allowed", "index", "some", "slot"]) (sc := defScope st_Book_init) (by decide +kernel)) (fun _ _ _ _ _ => (pg_name (i := 5) sc_Book_init.nd rfl (by first | exact Or.inl rfl | exact Or.inr rfl))) (fun _ _ _ _ _ => pts_nil) (fun _ _ _ _ _ => pe_lst pa_nil)) rfl) (pss_ex fun z => pss_one (ps_for (passes_of rfl) rfl (i_enum rfl (by rfl) T.n_enumerate (pa_cons (d_v (pv 2) (by decide)) pa_nil)) (pg_tup rfl (pgs_cons (pg_name (i := 3) sc_Book_init.nd rfl (by first | exact Or.inl rfl | exact Or.inr rfl)) (pgs_cons (pg_name (i := 4) sc_Book_init.nd rfl (by first | exact Or.inl rfl | exact Or.inr rfl)) pgs_nil))) (pss_one (ps_for (passes_of rfl) rfl (i_seq rfl (d_v (pv 4) (by decide))) (pg_name (i := 5) sc_Book_init.nd rfl (by first | exact Or.inl rfl | exact Or.inr rfl)) (pss_one (ps_expr (pe_bm PySem.F.plainAttrs_list PySem.F.slot_list_append PySem.F.type_list_append mt_append (pe_ix ix_seq (pe_fld (pv 0) rfl) (pv 5) fun _ _ => rfl) (pa_cons (pv 3) pa_nil))))))))) (r_users (by show 6 ≤ 6; decide) T.cl_Book T.no_Book_users))))))))
/-! cancelled -/
abbrev st_cancelled : Stmt := top 79
noncomputable def m_cancelled : Sm := (sSeq (sDo (eCall f_check_timetable [(eV 0), (eV 1)])) sBad)
noncomputable def f_cancelled : List D → Fr := hide (fnM 4 3 [] m_cancelled)
theorem d_cancelled : f_cancelled = fnM 4 3 [] m_cancelled := hide_eq _
theorem e_cancelled {ds : List D} {r : Fr} (hl : ds.length = 3) (h : FEnd [] (fun x => x = r) (m_cancelled (startE 4 ds))) : f_cancelled ds = r := by rw [d_cancelled]; exact fn_run (Q := fun x => x = r) hl h
theorem sc_cancelled : FnScope ["book", "timetable", "appointments", "at"] ["book", "timetable", "appointments"] (defScope st_cancelled) := ⟨rfl, rfl, rfl, by decide +kernel, rfl, by decide +kernel, by decide +kernel⟩
theorem k_cancelled (T : Tx K mg cm fld) (c_check_timetable : Cal P w K mg base cm fld "check_timetable" 3 2 [] f_check_timetable) {g : Addr} {fd : FuncData} (F : Fun K "cancelled" "cancelled" st_cancelled g fd) (hm : mg "cancelled" = some (.ref g)) (hb : Binds K fd ["book", "timetable", "appointments"] []) : Cal P w K mg base cm fld "cancelled" 4 3 [] f_cancelled :=
  d_cancelled ▸ cal_mk (k := 3) F hm hb sc_cancelled rfl rfl (by decide) [] (fun cdv cd A outer s H G E as hr => by exact (s_seq (s_do (ps_expr (d_cal c_check_timetable rfl hr (by decide) (takes_of rfl rfl rfl rfl) (a_cons (pa_cons (d_v (pv 0) (by decide)) (a_cons (pa_cons (d_v (pv 1) (by decide)) a_nil)))) rfl))) ss_bad))
/-! bring -/
abbrev st_bring : Stmt := top 57
noncomputable def m_bring : Sm := (sSeq (sDo (eCall f_check_timetable [(eV 0), (eV 1)])) sBad)
noncomputable def f_bring : List D → Fr := hide (fnM 5 4 [] m_bring)
theorem d_bring : f_bring = fnM 5 4 [] m_bring := hide_eq _
theorem e_bring {ds : List D} {r : Fr} (hl : ds.length = 4) (h : FEnd [] (fun x => x = r) (m_bring (startE 5 ds))) : f_bring ds = r := by rw [d_bring]; exact fn_run (Q := fun x => x = r) hl h
theorem sc_bring : FnScope ["book", "timetable", "appointment", "slot", "some"] ["book", "timetable", "appointment", "slot"] (defScope st_bring) := ⟨rfl, rfl, rfl, by decide +kernel, rfl, by decide +kernel, by decide +kernel⟩
theorem k_bring (T : Tx K mg cm fld) (c_check_timetable : Cal P w K mg base cm fld "check_timetable" 3 2 [] f_check_timetable) {g : Addr} {fd : FuncData} (F : Fun K "bring" "bring" st_bring g fd) (hm : mg "bring" = some (.ref g)) (hb : Binds K fd ["book", "timetable", "appointment", "slot"] []) : Cal P w K mg base cm fld "bring" 4 4 [] f_bring :=
  d_bring ▸ cal_mk (k := 3) F hm hb sc_bring rfl rfl (by decide) [] (fun cdv cd A outer s H G E as hr => by exact (s_seq (s_do (ps_expr (d_cal c_check_timetable rfl hr (by decide) (takes_of rfl rfl rfl rfl) (a_cons (pa_cons (d_v (pv 0) (by decide)) (a_cons (pa_cons (d_v (pv 1) (by decide)) a_nil)))) rfl))) ss_bad))
/-! check_insert -/
abbrev st_check_insert : Stmt := top 60
noncomputable def m_check_insert : Sm := (sSeq (sDo (eCall f_check_timetable [(eV 0), (eV 1)])) sBad)
noncomputable def f_check_insert : List D → Fr := hide (fnM 4 4 [] m_check_insert)
theorem d_check_insert : f_check_insert = fnM 4 4 [] m_check_insert := hide_eq _
theorem e_check_insert {ds : List D} {r : Fr} (hl : ds.length = 4) (h : FEnd [] (fun x => x = r) (m_check_insert (startE 4 ds))) : f_check_insert ds = r := by rw [d_check_insert]; exact fn_run (Q := fun x => x = r) hl h
theorem sc_check_insert : FnScope ["book", "timetable", "allowed", "answer"] ["book", "timetable", "allowed", "answer"] (defScope st_check_insert) := ⟨rfl, rfl, rfl, by decide +kernel, rfl, by decide +kernel, by decide +kernel⟩
theorem k_check_insert (T : Tx K mg cm fld) (c_check_timetable : Cal P w K mg base cm fld "check_timetable" 3 2 [] f_check_timetable) {g : Addr} {fd : FuncData} (F : Fun K "check_insert" "check_insert" st_check_insert g fd) (hm : mg "check_insert" = some (.ref g)) (hb : Binds K fd ["book", "timetable", "allowed", "answer"] []) : Cal P w K mg base cm fld "check_insert" 4 4 [] f_check_insert :=
  d_check_insert ▸ cal_mk (k := 3) F hm hb sc_check_insert rfl rfl (by decide) [] (fun cdv cd A outer s H G E as hr => by exact (s_seq (s_do (ps_expr (d_cal c_check_timetable rfl hr (by decide) (takes_of rfl rfl rfl rfl) (a_cons (pa_cons (d_v (pv 0) (by decide)) (a_cons (pa_cons (d_v (pv 1) (by decide)) a_nil)))) rfl))) ss_bad))
/-! check_cancelled -/
abbrev st_check_cancelled : Stmt := top 82
noncomputable def m_check_cancelled : Sm := (sSeq (sDo (eCall f_check_timetable [(eV 0), (eV 1)])) sBad)
noncomputable def f_check_cancelled : List D → Fr := hide (fnM 8 3 [] m_check_cancelled)
theorem d_check_cancelled : f_check_cancelled = fnM 8 3 [] m_check_cancelled := hide_eq _
theorem e_check_cancelled {ds : List D} {r : Fr} (hl : ds.length = 3) (h : FEnd [] (fun x => x = r) (m_check_cancelled (startE 8 ds))) : f_check_cancelled ds = r := by rw [d_check_cancelled]; exact fn_run (Q := fun x => x = r) hl h
theorem sc_check_cancelled : FnScope ["book", "timetable", "answer", "appointments", "sets", "at", "smaller", "later"] ["book", "timetable", "answer"] (defScope st_check_cancelled) := ⟨rfl, rfl, rfl, by decide +kernel, rfl, by decide +kernel, by decide +kernel⟩
theorem k_check_cancelled (T : Tx K mg cm fld) (c_check_timetable : Cal P w K mg base cm fld "check_timetable" 3 2 [] f_check_timetable) {g : Addr} {fd : FuncData} (F : Fun K "check_cancelled" "check_cancelled" st_check_cancelled g fd) (hm : mg "check_cancelled" = some (.ref g)) (hb : Binds K fd ["book", "timetable", "answer"] []) : Cal P w K mg base cm fld "check_cancelled" 4 3 [] f_check_cancelled :=
  d_check_cancelled ▸ cal_mk (k := 3) F hm hb sc_check_cancelled rfl rfl (by decide) [] (fun cdv cd A outer s H G E as hr => by exact (s_seq (s_do (ps_expr (d_cal c_check_timetable rfl hr (by decide) (takes_of rfl rfl rfl rfl) (a_cons (pa_cons (d_v (pv 0) (by decide)) (a_cons (pa_cons (d_v (pv 1) (by decide)) a_nil)))) rfl))) ss_bad))
/-! insert -/
abbrev st_insert : Stmt := top 59
noncomputable def m_insert : Sm := (sSeq (sDo (eCall f_check_timetable [(eV 0), (eV 1)])) sBad)
noncomputable def f_insert : List D → Fr := hide (fnM 7 3 [] m_insert)
theorem d_insert : f_insert = fnM 7 3 [] m_insert := hide_eq _
theorem e_insert {ds : List D} {r : Fr} (hl : ds.length = 3) (h : FEnd [] (fun x => x = r) (m_insert (startE 7 ds))) : f_insert ds = r := by rw [d_insert]; exact fn_run (Q := fun x => x = r) hl h
theorem sc_insert : FnScope ["book", "timetable", "allowed", "some", "slot", "ways", "steps"] ["book", "timetable", "allowed"] (defScope st_insert) := ⟨rfl, rfl, rfl, by decide +kernel, rfl, by decide +kernel, by decide +kernel⟩
theorem k_insert (T : Tx K mg cm fld) (c_check_timetable : Cal P w K mg base cm fld "check_timetable" 3 2 [] f_check_timetable) {g : Addr} {fd : FuncData} (F : Fun K "insert" "insert" st_insert g fd) (hm : mg "insert" = some (.ref g)) (hb : Binds K fd ["book", "timetable", "allowed"] []) : Cal P w K mg base cm fld "insert" 4 3 [] f_insert :=
  d_insert ▸ cal_mk (k := 3) F hm hb sc_insert rfl rfl (by decide) [] (fun cdv cd A outer s H G E as hr => by exact (s_seq (s_do (ps_expr (d_cal c_check_timetable rfl hr (by decide) (takes_of rfl rfl rfl rfl) (a_cons (pa_cons (d_v (pv 0) (by decide)) (a_cons (pa_cons (d_v (pv 1) (by decide)) a_nil)))) rfl))) ss_bad))
/-! tight_sets -/
abbrev st_tight_sets : Stmt := top 76
noncomputable def m_tight_sets : Sm := (sSeq (sDo (eCall f_check_timetable [(eV 0), (eV 1)])) sBad)
noncomputable def f_tight_sets : List D → Fr := hide (fnM 8 2 [] m_tight_sets)
theorem d_tight_sets : f_tight_sets = fnM 8 2 [] m_tight_sets := hide_eq _
theorem e_tight_sets {ds : List D} {r : Fr} (hl : ds.length = 2) (h : FEnd [] (fun x => x = r) (m_tight_sets (startE 8 ds))) : f_tight_sets ds = r := by rw [d_tight_sets]; exact fn_run (Q := fun x => x = r) hl h
theorem sc_tight_sets : FnScope ["book", "timetable", "appointment", "slot", "holders", "hulls", "some", "minimal"] ["book", "timetable"] (defScope st_tight_sets) := ⟨rfl, rfl, rfl, by decide +kernel, rfl, by decide +kernel, by decide +kernel⟩
theorem k_tight_sets (T : Tx K mg cm fld) (c_check_timetable : Cal P w K mg base cm fld "check_timetable" 3 2 [] f_check_timetable) {g : Addr} {fd : FuncData} (F : Fun K "tight_sets" "tight_sets" st_tight_sets g fd) (hm : mg "tight_sets" = some (.ref g)) (hb : Binds K fd ["book", "timetable"] []) : Cal P w K mg base cm fld "tight_sets" 4 2 [] f_tight_sets :=
  d_tight_sets ▸ cal_mk (k := 3) F hm hb sc_tight_sets rfl rfl (by decide) [] (fun cdv cd A outer s H G E as hr => by exact (s_seq (s_do (ps_expr (d_cal c_check_timetable rfl hr (by decide) (takes_of rfl rfl rfl rfl) (a_cons (pa_cons (d_v (pv 0) (by decide)) (a_cons (pa_cons (d_v (pv 1) (by decide)) a_nil)))) rfl))) ss_bad))
/-! granted -/
abbrev st_granted : Stmt := top 40
noncomputable def m_granted : Sm := (sSeq (sDo (eCall f_check_timetable [(eV 0), (eV 1)])) sBad)
noncomputable def f_granted : List D → Fr := hide (fnM 10 3 [] m_granted)
theorem d_granted : f_granted = fnM 10 3 [] m_granted := hide_eq _
theorem e_granted {ds : List D} {r : Fr} (hl : ds.length = 3) (h : FEnd [] (fun x => x = r) (m_granted (startE 10 ds))) : f_granted ds = r := by rw [d_granted]; exact fn_run (Q := fun x => x = r) hl h
theorem sc_granted : FnScope ["book", "timetable", "wishes", "possible", "holders", "appointment", "searched", "other", "slot", "slots"] ["book", "timetable", "wishes"] (defScope st_granted) := ⟨rfl, rfl, rfl, by decide +kernel, rfl, by decide +kernel, by decide +kernel⟩
theorem k_granted (T : Tx K mg cm fld) (c_check_timetable : Cal P w K mg base cm fld "check_timetable" 3 2 [] f_check_timetable) {g : Addr} {fd : FuncData} (F : Fun K "granted" "granted" st_granted g fd) (hm : mg "granted" = some (.ref g)) (hb : Binds K fd ["book", "timetable", "wishes"] []) : Cal P w K mg base cm fld "granted" 4 3 [] f_granted :=
  d_granted ▸ cal_mk (k := 3) F hm hb sc_granted rfl rfl (by decide) [] (fun cdv cd A outer s H G E as hr => by exact (s_seq (s_do (ps_expr (d_cal c_check_timetable rfl hr (by decide) (takes_of rfl rfl rfl rfl) (a_cons (pa_cons (d_v (pv 0) (by decide)) (a_cons (pa_cons (d_v (pv 1) (by decide)) a_nil)))) rfl))) ss_bad))
/-! most_granted -/
abbrev st_most_granted : Stmt := top 54
noncomputable def m_most_granted : Sm := (sSeq (sDo (eCall f_check_timetable [(eV 0), (eV 1)])) sBad)
noncomputable def f_most_granted : List D → Fr := hide (fnM 8 3 [] m_most_granted)
theorem d_most_granted : f_most_granted = fnM 8 3 [] m_most_granted := hide_eq _
theorem e_most_granted {ds : List D} {r : Fr} (hl : ds.length = 3) (h : FEnd [] (fun x => x = r) (m_most_granted (startE 8 ds))) : f_most_granted ds = r := by rw [d_most_granted]; exact fn_run (Q := fun x => x = r) hl h
theorem sc_most_granted : FnScope ["book", "timetable", "wishes", "costs", "appointment", "allowed", "slot", "other"] ["book", "timetable", "wishes"] (defScope st_most_granted) := ⟨rfl, rfl, rfl, by decide +kernel, rfl, by decide +kernel, by decide +kernel⟩
theorem k_most_granted (T : Tx K mg cm fld) (c_check_timetable : Cal P w K mg base cm fld "check_timetable" 3 2 [] f_check_timetable) {g : Addr} {fd : FuncData} (F : Fun K "most_granted" "most_granted" st_most_granted g fd) (hm : mg "most_granted" = some (.ref g)) (hb : Binds K fd ["book", "timetable", "wishes"] []) : Cal P w K mg base cm fld "most_granted" 4 3 [] f_most_granted :=
  d_most_granted ▸ cal_mk (k := 3) F hm hb sc_most_granted rfl rfl (by decide) [] (fun cdv cd A outer s H G E as hr => by exact (s_seq (s_do (ps_expr (d_cal c_check_timetable rfl hr (by decide) (takes_of rfl rfl rfl rfl) (a_cons (pa_cons (d_v (pv 0) (by decide)) (a_cons (pa_cons (d_v (pv 1) (by decide)) a_nil)))) rfl))) ss_bad))
/-! options -/
abbrev st_options : Stmt := top 56
noncomputable def m_options : Sm := (sSeq (sDo (eCall f_check_timetable [(eV 0), (eV 1)])) sBad)
noncomputable def f_options : List D → Fr := hide (fnM 5 3 [] m_options)
theorem d_options : f_options = fnM 5 3 [] m_options := hide_eq _
theorem e_options {ds : List D} {r : Fr} (hl : ds.length = 3) (h : FEnd [] (fun x => x = r) (m_options (startE 5 ds))) : f_options ds = r := by rw [d_options]; exact fn_run (Q := fun x => x = r) hl h
theorem sc_options : FnScope ["book", "timetable", "appointment", "some", "slot"] ["book", "timetable", "appointment"] (defScope st_options) := ⟨rfl, rfl, rfl, by decide +kernel, rfl, by decide +kernel, by decide +kernel⟩
theorem k_options (T : Tx K mg cm fld) (c_check_timetable : Cal P w K mg base cm fld "check_timetable" 3 2 [] f_check_timetable) {g : Addr} {fd : FuncData} (F : Fun K "options" "options" st_options g fd) (hm : mg "options" = some (.ref g)) (hb : Binds K fd ["book", "timetable", "appointment"] []) : Cal P w K mg base cm fld "options" 4 3 [] f_options :=
  d_options ▸ cal_mk (k := 3) F hm hb sc_options rfl rfl (by decide) [] (fun cdv cd A outer s H G E as hr => by exact (s_seq (s_do (ps_expr (d_cal c_check_timetable rfl hr (by decide) (takes_of rfl rfl rfl rfl) (a_cons (pa_cons (d_v (pv 0) (by decide)) (a_cons (pa_cons (d_v (pv 1) (by decide)) a_nil)))) rfl))) ss_bad))
/-! check_cheapest -/
abbrev st_check_cheapest : Stmt := top 53
noncomputable def m_check_cheapest : Sm := (sSeq (sDo (eCall f_check_timetable [(eV 0), (eV 1)])) sBad)
noncomputable def f_check_cheapest : List D → Fr := hide (fnM 14 4 [] m_check_cheapest)
theorem d_check_cheapest : f_check_cheapest = fnM 14 4 [] m_check_cheapest := hide_eq _
theorem e_check_cheapest {ds : List D} {r : Fr} (hl : ds.length = 4) (h : FEnd [] (fun x => x = r) (m_check_cheapest (startE 14 ds))) : f_check_cheapest ds = r := by rw [d_check_cheapest]; exact fn_run (Q := fun x => x = r) hl h
theorem sc_check_cheapest : FnScope ["book", "timetable", "costs", "answer", "total", "other", "prices", "row", "options", "allowed", "slot", "place", "cost", "sums"] ["book", "timetable", "costs", "answer"] (defScope st_check_cheapest) := ⟨rfl, rfl, rfl, by decide +kernel, rfl, by decide +kernel, by decide +kernel⟩
theorem k_check_cheapest (T : Tx K mg cm fld) (c_check_timetable : Cal P w K mg base cm fld "check_timetable" 3 2 [] f_check_timetable) {g : Addr} {fd : FuncData} (F : Fun K "check_cheapest" "check_cheapest" st_check_cheapest g fd) (hm : mg "check_cheapest" = some (.ref g)) (hb : Binds K fd ["book", "timetable", "costs", "answer"] []) : Cal P w K mg base cm fld "check_cheapest" 4 4 [] f_check_cheapest :=
  d_check_cheapest ▸ cal_mk (k := 3) F hm hb sc_check_cheapest rfl rfl (by decide) [] (fun cdv cd A outer s H G E as hr => by exact (s_seq (s_do (ps_expr (d_cal c_check_timetable rfl hr (by decide) (takes_of rfl rfl rfl rfl) (a_cons (pa_cons (d_v (pv 0) (by decide)) (a_cons (pa_cons (d_v (pv 1) (by decide)) a_nil)))) rfl))) ss_bad))
/-! cheapest -/
abbrev st_cheapest : Stmt := top 51
noncomputable def m_cheapest : Sm := (sSeq (sDo (eCall f_check_timetable [(eV 0), (eV 1)])) sBad)
noncomputable def f_cheapest : List D → Fr := hide (fnM 5 3 [] m_cheapest)
theorem d_cheapest : f_cheapest = fnM 5 3 [] m_cheapest := hide_eq _
theorem e_cheapest {ds : List D} {r : Fr} (hl : ds.length = 3) (h : FEnd [] (fun x => x = r) (m_cheapest (startE 5 ds))) : f_cheapest ds = r := by rw [d_cheapest]; exact fn_run (Q := fun x => x = r) hl h
theorem sc_cheapest : FnScope ["book", "timetable", "costs", "other", "prices"] ["book", "timetable", "costs"] (defScope st_cheapest) := ⟨rfl, rfl, rfl, by decide +kernel, rfl, by decide +kernel, by decide +kernel⟩
theorem k_cheapest (T : Tx K mg cm fld) (c_check_timetable : Cal P w K mg base cm fld "check_timetable" 3 2 [] f_check_timetable) {g : Addr} {fd : FuncData} (F : Fun K "cheapest" "cheapest" st_cheapest g fd) (hm : mg "cheapest" = some (.ref g)) (hb : Binds K fd ["book", "timetable", "costs"] []) : Cal P w K mg base cm fld "cheapest" 4 3 [] f_cheapest :=
  d_cheapest ▸ cal_mk (k := 3) F hm hb sc_cheapest rfl rfl (by decide) [] (fun cdv cd A outer s H G E as hr => by exact (s_seq (s_do (ps_expr (d_cal c_check_timetable rfl hr (by decide) (takes_of rfl rfl rfl rfl) (a_cons (pa_cons (d_v (pv 0) (by decide)) (a_cons (pa_cons (d_v (pv 1) (by decide)) a_nil)))) rfl))) ss_bad))
/-! check_granted -/
abbrev st_check_granted : Stmt := top 42
noncomputable def m_check_granted : Sm := (sSeq (sDo (eCall f_check_timetable [(eV 0), (eV 1)])) sBad)
noncomputable def f_check_granted : List D → Fr := hide (fnM 5 4 [] m_check_granted)
theorem d_check_granted : f_check_granted = fnM 5 4 [] m_check_granted := hide_eq _
theorem e_check_granted {ds : List D} {r : Fr} (hl : ds.length = 4) (h : FEnd [] (fun x => x = r) (m_check_granted (startE 5 ds))) : f_check_granted ds = r := by rw [d_check_granted]; exact fn_run (Q := fun x => x = r) hl h
theorem sc_check_granted : FnScope ["book", "timetable", "wishes", "answer", "part"] ["book", "timetable", "wishes", "answer"] (defScope st_check_granted) := ⟨rfl, rfl, rfl, by decide +kernel, rfl, by decide +kernel, by decide +kernel⟩
theorem k_check_granted (T : Tx K mg cm fld) (c_check_timetable : Cal P w K mg base cm fld "check_timetable" 3 2 [] f_check_timetable) {g : Addr} {fd : FuncData} (F : Fun K "check_granted" "check_granted" st_check_granted g fd) (hm : mg "check_granted" = some (.ref g)) (hb : Binds K fd ["book", "timetable", "wishes", "answer"] []) : Cal P w K mg base cm fld "check_granted" 4 4 [] f_check_granted :=
  d_check_granted ▸ cal_mk (k := 3) F hm hb sc_check_granted rfl rfl (by decide) [] (fun cdv cd A outer s H G E as hr => by exact (s_seq (s_do (ps_expr (d_cal c_check_timetable rfl hr (by decide) (takes_of rfl rfl rfl rfl) (a_cons (pa_cons (d_v (pv 0) (by decide)) (a_cons (pa_cons (d_v (pv 1) (by decide)) a_nil)))) rfl))) ss_bad))
/-! free_slots -/
abbrev st_free_slots : Stmt := top 20
noncomputable def m_free_slots : Sm := (sSeq (sDo (eCall f_check_timetable [(eV 0), (eV 1)])) sBad)
noncomputable def f_free_slots : List D → Fr := hide (fnM 3 2 [] m_free_slots)
theorem d_free_slots : f_free_slots = fnM 3 2 [] m_free_slots := hide_eq _
theorem e_free_slots {ds : List D} {r : Fr} (hl : ds.length = 2) (h : FEnd [] (fun x => x = r) (m_free_slots (startE 3 ds))) : f_free_slots ds = r := by rw [d_free_slots]; exact fn_run (Q := fun x => x = r) hl h
theorem sc_free_slots : FnScope ["book", "timetable", "slot"] ["book", "timetable"] (defScope st_free_slots) := ⟨rfl, rfl, rfl, by decide +kernel, rfl, by decide +kernel, by decide +kernel⟩
theorem k_free_slots (T : Tx K mg cm fld) (c_check_timetable : Cal P w K mg base cm fld "check_timetable" 3 2 [] f_check_timetable) {g : Addr} {fd : FuncData} (F : Fun K "free_slots" "free_slots" st_free_slots g fd) (hm : mg "free_slots" = some (.ref g)) (hb : Binds K fd ["book", "timetable"] []) : Cal P w K mg base cm fld "free_slots" 4 2 [] f_free_slots :=
  d_free_slots ▸ cal_mk (k := 3) F hm hb sc_free_slots rfl rfl (by decide) [] (fun cdv cd A outer s H G E as hr => by exact (s_seq (s_do (ps_expr (d_cal c_check_timetable rfl hr (by decide) (takes_of rfl rfl rfl rfl) (a_cons (pa_cons (d_v (pv 0) (by decide)) (a_cons (pa_cons (d_v (pv 1) (by decide)) a_nil)))) rfl))) ss_bad))
/-! moved -/
abbrev st_moved : Stmt := top 24
noncomputable def m_moved : Sm := (sSeq (sDo (eCall f_check_timetable [(eV 0), (eV 1)])) sBad)
noncomputable def f_moved : List D → Fr := hide (fnM 5 3 [] m_moved)
theorem d_moved : f_moved = fnM 5 3 [] m_moved := hide_eq _
theorem e_moved {ds : List D} {r : Fr} (hl : ds.length = 3) (h : FEnd [] (fun x => x = r) (m_moved (startE 5 ds))) : f_moved ds = r := by rw [d_moved]; exact fn_run (Q := fun x => x = r) hl h
theorem sc_moved : FnScope ["book", "timetable", "steps", "index", "move"] ["book", "timetable", "steps"] (defScope st_moved) := ⟨rfl, rfl, rfl, by decide +kernel, rfl, by decide +kernel, by decide +kernel⟩
theorem k_moved (T : Tx K mg cm fld) (c_check_timetable : Cal P w K mg base cm fld "check_timetable" 3 2 [] f_check_timetable) {g : Addr} {fd : FuncData} (F : Fun K "moved" "moved" st_moved g fd) (hm : mg "moved" = some (.ref g)) (hb : Binds K fd ["book", "timetable", "steps"] []) : Cal P w K mg base cm fld "moved" 4 3 [] f_moved :=
  d_moved ▸ cal_mk (k := 3) F hm hb sc_moved rfl rfl (by decide) [] (fun cdv cd A outer s H G E as hr => by exact (s_seq (s_do (ps_expr (d_cal c_check_timetable rfl hr (by decide) (takes_of rfl rfl rfl rfl) (a_cons (pa_cons (d_v (pv 0) (by decide)) (a_cons (pa_cons (d_v (pv 1) (by decide)) a_nil)))) rfl))) ss_bad))
/-! check_tight -/
abbrev st_check_tight : Stmt := top 31
noncomputable def m_check_tight : Sm := (sSeq (sDo (eCall f_check_timetable [(eV 0), (eV 1)])) sBad)
noncomputable def f_check_tight : List D → Fr := hide (fnM 6 3 [] m_check_tight)
theorem d_check_tight : f_check_tight = fnM 6 3 [] m_check_tight := hide_eq _
theorem e_check_tight {ds : List D} {r : Fr} (hl : ds.length = 3) (h : FEnd [] (fun x => x = r) (m_check_tight (startE 6 ds))) : f_check_tight ds = r := by rw [d_check_tight]; exact fn_run (Q := fun x => x = r) hl h
theorem sc_check_tight : FnScope ["book", "timetable", "slots", "index", "slot", "other"] ["book", "timetable", "slots"] (defScope st_check_tight) := ⟨rfl, rfl, rfl, by decide +kernel, rfl, by decide +kernel, by decide +kernel⟩
theorem k_check_tight (T : Tx K mg cm fld) (c_check_timetable : Cal P w K mg base cm fld "check_timetable" 3 2 [] f_check_timetable) {g : Addr} {fd : FuncData} (F : Fun K "check_tight" "check_tight" st_check_tight g fd) (hm : mg "check_tight" = some (.ref g)) (hb : Binds K fd ["book", "timetable", "slots"] []) : Cal P w K mg base cm fld "check_tight" 4 3 [] f_check_tight :=
  d_check_tight ▸ cal_mk (k := 3) F hm hb sc_check_tight rfl rfl (by decide) [] (fun cdv cd A outer s H G E as hr => by exact (s_seq (s_do (ps_expr (d_cal c_check_timetable rfl hr (by decide) (takes_of rfl rfl rfl rfl) (a_cons (pa_cons (d_v (pv 0) (by decide)) (a_cons (pa_cons (d_v (pv 1) (by decide)) a_nil)))) rfl))) ss_bad))
/-! reached -/
abbrev st_reached : Stmt := top 25
noncomputable def m_reached : Sm := (sSeq (sDo (eCall f_check_timetable [(eV 0), (eV 1)])) sBad)
noncomputable def f_reached : List D → Fr := hide (fnM 9 3 [] m_reached)
theorem d_reached : f_reached = fnM 9 3 [] m_reached := hide_eq _
theorem e_reached {ds : List D} {r : Fr} (hl : ds.length = 3) (h : FEnd [] (fun x => x = r) (m_reached (startE 9 ds))) : f_reached ds = r := by rw [d_reached]; exact fn_run (Q := fun x => x = r) hl h
theorem sc_reached : FnScope ["book", "timetable", "most", "found", "known", "at", "appointment", "slot", "later"] ["book", "timetable", "most"] (defScope st_reached) := ⟨rfl, rfl, rfl, by decide +kernel, rfl, by decide +kernel, by decide +kernel⟩
theorem o_reached (T : Tx K mg cm fld) (c_check_timetable : Cal P w K mg base cm fld "check_timetable" 3 2 [] f_check_timetable) {g : Addr} {fd : FuncData} (F : Fun K "reached" "reached" st_reached g fd) : FnOk P w K mg base (L2.CX P w) 4 g fd ["book", "timetable", "most"] (spM K cm fld 3 [] f_reached) :=
  d_reached ▸ fn_mir (k := 3) F sc_reached rfl rfl (by decide) [] (fun cdv cd A outer s H G E as hr => by exact (s_seq (s_do (ps_expr (d_cal c_check_timetable rfl hr (by decide) (takes_of rfl rfl rfl rfl) (a_cons (pa_cons (d_v (pv 0) (by decide)) (a_cons (pa_cons (d_v (pv 1) (by decide)) a_nil)))) rfl))) ss_bad))
/-! vacated -/
abbrev st_vacated : Stmt := top 32
noncomputable def m_vacated : Sm := (sSeq (sDo (eCall f_check_timetable [(eV 0), (eV 1)])) sBad)
noncomputable def f_vacated : List D → Fr := hide (fnM 4 3 [] m_vacated)
theorem d_vacated : f_vacated = fnM 4 3 [] m_vacated := hide_eq _
theorem e_vacated {ds : List D} {r : Fr} (hl : ds.length = 3) (h : FEnd [] (fun x => x = r) (m_vacated (startE 4 ds))) : f_vacated ds = r := by rw [d_vacated]; exact fn_run (Q := fun x => x = r) hl h
theorem sc_vacated : FnScope ["book", "timetable", "slot", "some"] ["book", "timetable", "slot"] (defScope st_vacated) := ⟨rfl, rfl, rfl, by decide +kernel, rfl, by decide +kernel, by decide +kernel⟩
theorem k_vacated (T : Tx K mg cm fld) (c_check_timetable : Cal P w K mg base cm fld "check_timetable" 3 2 [] f_check_timetable) {g : Addr} {fd : FuncData} (F : Fun K "vacated" "vacated" st_vacated g fd) (hm : mg "vacated" = some (.ref g)) (hb : Binds K fd ["book", "timetable", "slot"] []) : Cal P w K mg base cm fld "vacated" 4 3 [] f_vacated :=
  d_vacated ▸ cal_mk (k := 3) F hm hb sc_vacated rfl rfl (by decide) [] (fun cdv cd A outer s H G E as hr => by exact (s_seq (s_do (ps_expr (d_cal c_check_timetable rfl hr (by decide) (takes_of rfl rfl rfl rfl) (a_cons (pa_cons (d_v (pv 0) (by decide)) (a_cons (pa_cons (d_v (pv 1) (by decide)) a_nil)))) rfl))) ss_bad))
/-! check_plan -/
abbrev st_check_plan : Stmt := top 71
noncomputable def m_check_plan : Sm := (sSeq (sDo (eCall f_check_timetable [(eV 0), (eV 1)])) (sSeq (sDo (eCall f_check_timetable [(eV 0), (eV 2)])) sBad))
noncomputable def f_check_plan : List D → Fr := hide (fnM 4 4 [] m_check_plan)
theorem d_check_plan : f_check_plan = fnM 4 4 [] m_check_plan := hide_eq _
theorem e_check_plan {ds : List D} {r : Fr} (hl : ds.length = 4) (h : FEnd [] (fun x => x = r) (m_check_plan (startE 4 ds))) : f_check_plan ds = r := by rw [d_check_plan]; exact fn_run (Q := fun x => x = r) hl h
theorem sc_check_plan : FnScope ["book", "one", "other", "answer"] ["book", "one", "other", "answer"] (defScope st_check_plan) := ⟨rfl, rfl, rfl, by decide +kernel, rfl, by decide +kernel, by decide +kernel⟩
theorem k_check_plan (T : Tx K mg cm fld) (c_check_timetable : Cal P w K mg base cm fld "check_timetable" 3 2 [] f_check_timetable) {g : Addr} {fd : FuncData} (F : Fun K "check_plan" "check_plan" st_check_plan g fd) (hm : mg "check_plan" = some (.ref g)) (hb : Binds K fd ["book", "one", "other", "answer"] []) : Cal P w K mg base cm fld "check_plan" 4 4 [] f_check_plan :=
  d_check_plan ▸ cal_mk (k := 3) F hm hb sc_check_plan rfl rfl (by decide) [] (fun cdv cd A outer s H G E as hr => by exact (s_seq (s_do (ps_expr (d_cal c_check_timetable rfl hr (by decide) (takes_of rfl rfl rfl rfl) (a_cons (pa_cons (d_v (pv 0) (by decide)) (a_cons (pa_cons (d_v (pv 1) (by decide)) a_nil)))) rfl))) (s_seq (s_do (ps_expr (d_cal c_check_timetable rfl hr (by decide) (takes_of rfl rfl rfl rfl) (a_cons (pa_cons (d_v (pv 0) (by decide)) (a_cons (pa_cons (d_v (pv 2) (by decide)) a_nil)))) rfl))) ss_bad)))
/-! plan -/
abbrev st_plan : Stmt := top 70
noncomputable def m_plan : Sm := (sSeq (sDo (eCall f_check_timetable [(eV 0), (eV 1)])) (sSeq (sDo (eCall f_check_timetable [(eV 0), (eV 2)])) sBad))
noncomputable def f_plan : List D → Fr := hide (fnM 10 3 [] m_plan)
theorem d_plan : f_plan = fnM 10 3 [] m_plan := hide_eq _
theorem e_plan {ds : List D} {r : Fr} (hl : ds.length = 3) (h : FEnd [] (fun x => x = r) (m_plan (startE 10 ds))) : f_plan ds = r := by rw [d_plan]; exact fn_run (Q := fun x => x = r) hl h
theorem sc_plan : FnScope ["book", "one", "other", "closed", "appointment", "slot", "steps", "here", "ring", "more"] ["book", "one", "other"] (defScope st_plan) := ⟨rfl, rfl, rfl, by decide +kernel, rfl, by decide +kernel, by decide +kernel⟩
theorem k_plan (T : Tx K mg cm fld) (c_check_timetable : Cal P w K mg base cm fld "check_timetable" 3 2 [] f_check_timetable) {g : Addr} {fd : FuncData} (F : Fun K "plan" "plan" st_plan g fd) (hm : mg "plan" = some (.ref g)) (hb : Binds K fd ["book", "one", "other"] []) : Cal P w K mg base cm fld "plan" 4 3 [] f_plan :=
  d_plan ▸ cal_mk (k := 3) F hm hb sc_plan rfl rfl (by decide) [] (fun cdv cd A outer s H G E as hr => by exact (s_seq (s_do (ps_expr (d_cal c_check_timetable rfl hr (by decide) (takes_of rfl rfl rfl rfl) (a_cons (pa_cons (d_v (pv 0) (by decide)) (a_cons (pa_cons (d_v (pv 1) (by decide)) a_nil)))) rfl))) (s_seq (s_do (ps_expr (d_cal c_check_timetable rfl hr (by decide) (takes_of rfl rfl rfl rfl) (a_cons (pa_cons (d_v (pv 0) (by decide)) (a_cons (pa_cons (d_v (pv 2) (by decide)) a_nil)))) rfl))) ss_bad)))
/-! least -/
abbrev st_least : Stmt := top 66
noncomputable def m_least : Sm := (sSeq (sDo (eCall f_check_timetable [(eV 0), (eV 1)])) (sSeq (sDo (eCall f_check_timetable [(eV 0), (eV 2)])) sBad))
noncomputable def f_least : List D → Fr := hide (fnM 3 3 [] m_least)
theorem d_least : f_least = fnM 3 3 [] m_least := hide_eq _
theorem e_least {ds : List D} {r : Fr} (hl : ds.length = 3) (h : FEnd [] (fun x => x = r) (m_least (startE 3 ds))) : f_least ds = r := by rw [d_least]; exact fn_run (Q := fun x => x = r) hl h
theorem sc_least : FnScope ["book", "one", "other"] ["book", "one", "other"] (defScope st_least) := ⟨rfl, rfl, rfl, by decide +kernel, rfl, by decide +kernel, by decide +kernel⟩
theorem k_least (T : Tx K mg cm fld) (c_check_timetable : Cal P w K mg base cm fld "check_timetable" 3 2 [] f_check_timetable) {g : Addr} {fd : FuncData} (F : Fun K "least" "least" st_least g fd) (hm : mg "least" = some (.ref g)) (hb : Binds K fd ["book", "one", "other"] []) : Cal P w K mg base cm fld "least" 4 3 [] f_least :=
  d_least ▸ cal_mk (k := 3) F hm hb sc_least rfl rfl (by decide) [] (fun cdv cd A outer s H G E as hr => by exact (s_seq (s_do (ps_expr (d_cal c_check_timetable rfl hr (by decide) (takes_of rfl rfl rfl rfl) (a_cons (pa_cons (d_v (pv 0) (by decide)) (a_cons (pa_cons (d_v (pv 1) (by decide)) a_nil)))) rfl))) (s_seq (s_do (ps_expr (d_cal c_check_timetable rfl hr (by decide) (takes_of rfl rfl rfl rfl) (a_cons (pa_cons (d_v (pv 0) (by decide)) (a_cons (pa_cons (d_v (pv 2) (by decide)) a_nil)))) rfl))) ss_bad)))
/-! fewest_cancelled -/
abbrev st_fewest_cancelled : Stmt := top 80
noncomputable def m_fewest_cancelled : Sm := (sSeq (sAsg (.n 2) (eCall f_tight_sets [(eV 0), (eV 1)])) sBad)
noncomputable def f_fewest_cancelled : List D → Fr := hide (fnM 4 2 [] m_fewest_cancelled)
theorem d_fewest_cancelled : f_fewest_cancelled = fnM 4 2 [] m_fewest_cancelled := hide_eq _
theorem e_fewest_cancelled {ds : List D} {r : Fr} (hl : ds.length = 2) (h : FEnd [] (fun x => x = r) (m_fewest_cancelled (startE 4 ds))) : f_fewest_cancelled ds = r := by rw [d_fewest_cancelled]; exact fn_run (Q := fun x => x = r) hl h
theorem sc_fewest_cancelled : FnScope ["book", "timetable", "sets", "some"] ["book", "timetable"] (defScope st_fewest_cancelled) := ⟨rfl, rfl, rfl, by decide +kernel, rfl, by decide +kernel, by decide +kernel⟩
theorem k_fewest_cancelled (T : Tx K mg cm fld) (c_tight_sets : Cal P w K mg base cm fld "tight_sets" 4 2 [] f_tight_sets) {g : Addr} {fd : FuncData} (F : Fun K "fewest_cancelled" "fewest_cancelled" st_fewest_cancelled g fd) (hm : mg "fewest_cancelled" = some (.ref g)) (hb : Binds K fd ["book", "timetable"] []) : Cal P w K mg base cm fld "fewest_cancelled" 5 2 [] f_fewest_cancelled :=
  d_fewest_cancelled ▸ cal_mk (k := 4) F hm hb sc_fewest_cancelled rfl rfl (by decide) [] (fun cdv cd A outer s H G E as hr => by exact (s_seq (s_asg (ps_set (i := 2) sc_fewest_cancelled.nd rfl (by first | exact Or.inl rfl | exact Or.inr rfl) (d_cal c_tight_sets rfl hr (by decide) (takes_of rfl rfl rfl rfl) (a_cons (pa_cons (d_v (pv 0) (by decide)) (a_cons (pa_cons (d_v (pv 1) (by decide)) a_nil)))) rfl)) (gt_n (by decide))) ss_bad))
/-! moves -/
abbrev st_moves : Stmt := top 22
noncomputable def m_moves : Sm := (sSeq (sAsg (.n 2) (eCall f_free_slots [(eV 0), (eV 1)])) sBad)
noncomputable def f_moves : List D → Fr := hide (fnM 6 2 [] m_moves)
theorem d_moves : f_moves = fnM 6 2 [] m_moves := hide_eq _
theorem e_moves {ds : List D} {r : Fr} (hl : ds.length = 2) (h : FEnd [] (fun x => x = r) (m_moves (startE 6 ds))) : f_moves ds = r := by rw [d_moves]; exact fn_run (Q := fun x => x = r) hl h
theorem sc_moves : FnScope ["book", "timetable", "free", "found", "appointment", "slot"] ["book", "timetable"] (defScope st_moves) := ⟨rfl, rfl, rfl, by decide +kernel, rfl, by decide +kernel, by decide +kernel⟩
theorem k_moves (T : Tx K mg cm fld) (c_free_slots : Cal P w K mg base cm fld "free_slots" 4 2 [] f_free_slots) {g : Addr} {fd : FuncData} (F : Fun K "moves" "moves" st_moves g fd) (hm : mg "moves" = some (.ref g)) (hb : Binds K fd ["book", "timetable"] []) : Cal P w K mg base cm fld "moves" 5 2 [] f_moves :=
  d_moves ▸ cal_mk (k := 4) F hm hb sc_moves rfl rfl (by decide) [] (fun cdv cd A outer s H G E as hr => by exact (s_seq (s_asg (ps_set (i := 2) sc_moves.nd rfl (by first | exact Or.inl rfl | exact Or.inr rfl) (d_cal c_free_slots rfl hr (by decide) (takes_of rfl rfl rfl rfl) (a_cons (pa_cons (d_v (pv 0) (by decide)) (a_cons (pa_cons (d_v (pv 1) (by decide)) a_nil)))) rfl)) (gt_n (by decide))) ss_bad))
/-! steps_from_free -/
abbrev st_steps_from_free : Stmt := top 27
noncomputable def m_steps_from_free : Sm := (sSeq (sAsg (.n 3) (eDc (iSeq (eCall f_free_slots [(eV 0), (eV 1)])) (.n 2) [2] none (eV 2) (eC .non))) sBad)
noncomputable def f_steps_from_free : List D → Fr := hide (fnM 7 2 [] m_steps_from_free)
theorem d_steps_from_free : f_steps_from_free = fnM 7 2 [] m_steps_from_free := hide_eq _
theorem e_steps_from_free {ds : List D} {r : Fr} (hl : ds.length = 2) (h : FEnd [] (fun x => x = r) (m_steps_from_free (startE 7 ds))) : f_steps_from_free ds = r := by rw [d_steps_from_free]; exact fn_run (Q := fun x => x = r) hl h
theorem sc_steps_from_free : FnScope ["book", "timetable", "slot", "found", "waiting", "at", "appointment"] ["book", "timetable"] (defScope st_steps_from_free) := ⟨rfl, rfl, rfl, by decide +kernel, rfl, by decide +kernel, by decide +kernel⟩
theorem k_steps_from_free (T : Tx K mg cm fld) (c_free_slots : Cal P w K mg base cm fld "free_slots" 4 2 [] f_free_slots) {g : Addr} {fd : FuncData} (F : Fun K "steps_from_free" "steps_from_free" st_steps_from_free g fd) (hm : mg "steps_from_free" = some (.ref g)) (hb : Binds K fd ["book", "timetable"] []) : Cal P w K mg base cm fld "steps_from_free" 5 2 [] f_steps_from_free :=
  d_steps_from_free ▸ cal_mk (k := 4) F hm hb sc_steps_from_free rfl rfl (by decide) [] (fun cdv cd A outer s H G E as hr => by exact (s_seq (s_asg (asg_kn (l_dc0 [("slot", 2)] rfl sc_steps_from_free.nd (i_seq rfl (d_cal c_free_slots rfl hr (by decide) (takes_of rfl rfl rfl rfl) (a_cons (pa_cons (d_v (pv 0) (by decide)) (a_cons (pa_cons (d_v (pv 1) (by decide)) a_nil)))) rfl)) (blkOk_by (N := ["book", "timetable", "slot", "found", "waiting", "at", "appointment"]) (sc := defScope st_steps_from_free) (by decide +kernel)) rfl (fun _ _ _ _ _ => (pg_name (i := 2) sc_steps_from_free.nd rfl (by first | exact Or.inl rfl | exact Or.inr rfl))) (gt_n (by decide)) (by decide) (gw_n (by decide)) (fun _ _ _ _ _ => (d_v (pv 2) (by decide))) (fun _ _ _ _ _ => d_non) rfl rfl (sw_trueD rfl rfl rfl rfl))) (gt_n (by decide))) ss_bad))
/-! open_slots -/
abbrev st_open_slots : Stmt := top 28
noncomputable def m_open_slots : Sm := (sRet (e1 dsortD (eCall f_steps_from_free [(eV 0), (eV 1)])))
noncomputable def f_open_slots : List D → Fr := hide (fnM 2 2 [] m_open_slots)
theorem d_open_slots : f_open_slots = fnM 2 2 [] m_open_slots := hide_eq _
theorem e_open_slots {ds : List D} {r : Fr} (hl : ds.length = 2) (h : FEnd [] (fun x => x = r) (m_open_slots (startE 2 ds))) : f_open_slots ds = r := by rw [d_open_slots]; exact fn_run (Q := fun x => x = r) hl h
theorem sc_open_slots : FnScope ["book", "timetable"] ["book", "timetable"] (defScope st_open_slots) := ⟨rfl, rfl, rfl, by decide +kernel, rfl, by decide +kernel, by decide +kernel⟩
theorem k_open_slots (T : Tx K mg cm fld) (c_steps_from_free : Cal P w K mg base cm fld "steps_from_free" 5 2 [] f_steps_from_free) {g : Addr} {fd : FuncData} (F : Fun K "open_slots" "open_slots" st_open_slots g fd) (hm : mg "open_slots" = some (.ref g)) (hb : Binds K fd ["book", "timetable"] []) : Cal P w K mg base cm fld "open_slots" 6 2 [] f_open_slots :=
  d_open_slots ▸ cal_mk (k := 5) F hm hb sc_open_slots rfl rfl (by decide) [] (fun cdv cd A outer s H G E as hr => by exact (s_one (s_ret (kn (bn_1 a_dsort (pe_callB (call_sortedDI rfl) (by rfl) T.n_sorted PyProof.Rows.boot_sorted (pa_cons (wk (d_cal c_steps_from_free rfl hr (by decide) (takes_of rfl rfl rfl rfl) (a_cons (pa_cons (d_v (pv 0) (by decide)) (a_cons (pa_cons (d_v (pv 1) (by decide)) a_nil)))) rfl)) pa_nil)))))))
/-! frozen -/
abbrev st_frozen : Stmt := top 29
noncomputable def m_frozen : Sm := (sSeq (sAsg (.n 2) (eCall f_steps_from_free [(eV 0), (eV 1)])) sBad)
noncomputable def f_frozen : List D → Fr := hide (fnM 5 2 [] m_frozen)
theorem d_frozen : f_frozen = fnM 5 2 [] m_frozen := hide_eq _
theorem e_frozen {ds : List D} {r : Fr} (hl : ds.length = 2) (h : FEnd [] (fun x => x = r) (m_frozen (startE 5 ds))) : f_frozen ds = r := by rw [d_frozen]; exact fn_run (Q := fun x => x = r) hl h
theorem sc_frozen : FnScope ["book", "timetable", "some", "appointment", "slot"] ["book", "timetable"] (defScope st_frozen) := ⟨rfl, rfl, rfl, by decide +kernel, rfl, by decide +kernel, by decide +kernel⟩
theorem k_frozen (T : Tx K mg cm fld) (c_steps_from_free : Cal P w K mg base cm fld "steps_from_free" 5 2 [] f_steps_from_free) {g : Addr} {fd : FuncData} (F : Fun K "frozen" "frozen" st_frozen g fd) (hm : mg "frozen" = some (.ref g)) (hb : Binds K fd ["book", "timetable"] []) : Cal P w K mg base cm fld "frozen" 6 2 [] f_frozen :=
  d_frozen ▸ cal_mk (k := 5) F hm hb sc_frozen rfl rfl (by decide) [] (fun cdv cd A outer s H G E as hr => by exact (s_seq (s_asg (ps_set (i := 2) sc_frozen.nd rfl (by first | exact Or.inl rfl | exact Or.inr rfl) (d_cal c_steps_from_free rfl hr (by decide) (takes_of rfl rfl rfl rfl) (a_cons (pa_cons (d_v (pv 0) (by decide)) (a_cons (pa_cons (d_v (pv 1) (by decide)) a_nil)))) rfl)) (gt_n (by decide))) ss_bad))
/-! _law_pairs -/
abbrev st_law_pairs : Stmt := top 91
noncomputable def m_law_pairs : Sm := (sSeq (sAsg (.n 3) (eLst [(eThunk [] f_law_raised (eCall f_plan [(eV 0), (eV 1), (eV 2)]))])) (sSeq (sApp 3 (eThunk [3] f_law_raised (eCall f_least [(eV 0), (eV 1), (eV 2)]))) (sSeq (sApp 3 (eThunk [3] f_law_raised (eCall f_check_plan [(eV 0), (eV 1), (eV 2), (eC .non)]))) (sRet (eV 3)))))
noncomputable def f_law_pairs : List D → Fr := hide (fnM 4 3 [] m_law_pairs)
theorem d_law_pairs : f_law_pairs = fnM 4 3 [] m_law_pairs := hide_eq _
theorem e_law_pairs {ds : List D} {r : Fr} (hl : ds.length = 3) (h : FEnd [] (fun x => x = r) (m_law_pairs (startE 4 ds))) : f_law_pairs ds = r := by rw [d_law_pairs]; exact fn_run (Q := fun x => x = r) hl h
theorem sc_law_pairs : FnScope ["book", "one", "other", "found"] ["book", "one", "other"] (defScope st_law_pairs) := ⟨rfl, rfl, rfl, by decide +kernel, rfl, by decide +kernel, by decide +kernel⟩
theorem k_law_pairs (T : Tx K mg cm fld) (c_plan : Cal P w K mg base cm fld "plan" 4 3 [] f_plan) (c_least : Cal P w K mg base cm fld "least" 4 3 [] f_least) (c_check_plan : Cal P w K mg base cm fld "check_plan" 4 4 [] f_check_plan) (h_law_raised : ThkD P w K mg base cm fld "_law_raised" f_law_raised) {g : Addr} {fd : FuncData} (F : Fun K "_law_pairs" "_law_pairs" st_law_pairs g fd) (hm : mg "_law_pairs" = some (.ref g)) (hb : Binds K fd ["book", "one", "other"] []) (L_law_pairs : LamD mg base cm fd "_law_pairs") : Cal P w K mg base cm fld "_law_pairs" 7 3 [] f_law_pairs :=
  d_law_pairs ▸ cal_mk (k := 6) F hm hb sc_law_pairs rfl rfl (by decide) [] (fun cdv cd A outer s H G E as hr => by exact (s_seq (s_asgN (O1 := [3]) (ns := []) (n := 4) (ps_set (i := 3) sc_law_pairs.nd rfl (by first | exact Or.inl rfl | exact Or.inr rfl) (n_lst (a_cons (pa_cons (d_thunk (k := 4) h_law_raised rfl (lam_at L_law_pairs cd) hr (by decide) (fun A outer s H E f c' z hr => (d_cal c_plan rfl hr (by decide) (takes_of rfl rfl rfl rfl) (a_cons (pa_cons (d_v (pv 0) (by decide)) (a_cons (pa_cons (d_v (pv 1) (by decide)) (a_cons (pa_cons (d_v (pv 2) (by decide)) a_nil)))))) rfl))) a_nil)))) rfl (by decide) rfl (by decide) (by decide)) (s_seq (s_app (by decide) (ps_expr (pe_bm PySem.F.plainAttrs_list PySem.F.slot_list_append PySem.F.type_list_append mt_append (pv 3) (pa_cons (d_thunk (k := 4) h_law_raised rfl (lam_at L_law_pairs cd) hr (by decide) (fun A outer s H E f c' z hr => (d_cal c_least rfl hr (by decide) (takes_of rfl rfl rfl rfl) (a_cons (pa_cons (d_v (pv 0) (by decide)) (a_cons (pa_cons (d_v (pv 1) (by decide)) (a_cons (pa_cons (d_v (pv 2) (by decide)) a_nil)))))) rfl))) pa_nil)))) (s_seq (s_app (by decide) (ps_expr (pe_bm PySem.F.plainAttrs_list PySem.F.slot_list_append PySem.F.type_list_append mt_append (pv 3) (pa_cons (d_thunk (k := 4) h_law_raised rfl (lam_at L_law_pairs cd) hr (by decide) (fun A outer s H E f c' z hr => (d_cal c_check_plan rfl hr (by decide) (takes_of rfl rfl rfl rfl) (a_cons (pa_cons (d_v (pv 0) (by decide)) (a_cons (pa_cons (d_v (pv 1) (by decide)) (a_cons (pa_cons (d_v (pv 2) (by decide)) (a_cons (pa_cons d_non a_nil)))))))) rfl))) pa_nil)))) (ss_frz (i := 3) (O1 := []) (ns := []) (s_one (s_ret (d_v (pv 3) (by decide)))) rfl (by decide) (by decide) (by decide))))))
/-! _law_later_doors -/
abbrev st_law_later_doors : Stmt := top 90
noncomputable def m_law_later_doors : Sm := (sSeq (sAsg (.n 2) (eLst [(eThunk [] f_law_raised (eCall f_options [(eV 0), (eV 1), (e1 negD (eC (.int 1)))]))])) (sSeq (sApp 2 (eThunk [2] f_law_raised (eCall f_bring [(eV 0), (eV 1), (e1 negD (eC (.int 1))), (e1 negD (eC (.int 1)))]))) (sSeq (sApp 2 (eThunk [2] f_law_raised (eCall f_insert [(eV 0), (eV 1), (eC .non)]))) (sSeq (sApp 2 (eThunk [2] f_law_raised (eCall f_check_insert [(eV 0), (eV 1), (eC .non), (eC .non)]))) (sSeq (sApp 2 (eThunk [2] f_law_raised (eCall f_granted [(eV 0), (eV 1), (eC .non)]))) (sSeq (sApp 2 (eThunk [2] f_law_raised (eCall f_check_granted [(eV 0), (eV 1), (eC .non), (eC .non)]))) (sSeq (sApp 2 (eThunk [2] f_law_raised (eCall f_most_granted [(eV 0), (eV 1), (eC .non)]))) (sSeq (sApp 2 (eThunk [2] f_law_raised (eCall f_cheapest [(eV 0), (eV 1), (eC .non)]))) (sSeq (sApp 2 (eThunk [2] f_law_raised (eCall f_check_cheapest [(eV 0), (eV 1), (eC .non), (eC .non)]))) (sSeq (sApp 2 (eThunk [2] f_law_raised (eCall f_tight_sets [(eV 0), (eV 1)]))) (sSeq (sApp 2 (eThunk [2] f_law_raised (eCall f_cancelled [(eV 0), (eV 1), (eC .non)]))) (sSeq (sApp 2 (eThunk [2] f_law_raised (eCall f_fewest_cancelled [(eV 0), (eV 1)]))) (sSeq (sApp 2 (eThunk [2] f_law_raised (eCall f_check_cancelled [(eV 0), (eV 1), (eC .non)]))) (sRet (eV 2)))))))))))))))
noncomputable def f_law_later_doors : List D → Fr := hide (fnM 3 2 [] m_law_later_doors)
theorem d_law_later_doors : f_law_later_doors = fnM 3 2 [] m_law_later_doors := hide_eq _
theorem e_law_later_doors {ds : List D} {r : Fr} (hl : ds.length = 2) (h : FEnd [] (fun x => x = r) (m_law_later_doors (startE 3 ds))) : f_law_later_doors ds = r := by rw [d_law_later_doors]; exact fn_run (Q := fun x => x = r) hl h
theorem sc_law_later_doors : FnScope ["book", "one", "found"] ["book", "one"] (defScope st_law_later_doors) := ⟨rfl, rfl, rfl, by decide +kernel, rfl, by decide +kernel, by decide +kernel⟩
theorem k_law_later_doors (T : Tx K mg cm fld) (c_options : Cal P w K mg base cm fld "options" 4 3 [] f_options) (c_bring : Cal P w K mg base cm fld "bring" 4 4 [] f_bring) (c_insert : Cal P w K mg base cm fld "insert" 4 3 [] f_insert) (c_check_insert : Cal P w K mg base cm fld "check_insert" 4 4 [] f_check_insert) (c_granted : Cal P w K mg base cm fld "granted" 4 3 [] f_granted) (c_check_granted : Cal P w K mg base cm fld "check_granted" 4 4 [] f_check_granted) (c_most_granted : Cal P w K mg base cm fld "most_granted" 4 3 [] f_most_granted) (c_cheapest : Cal P w K mg base cm fld "cheapest" 4 3 [] f_cheapest) (c_check_cheapest : Cal P w K mg base cm fld "check_cheapest" 4 4 [] f_check_cheapest) (c_tight_sets : Cal P w K mg base cm fld "tight_sets" 4 2 [] f_tight_sets) (c_cancelled : Cal P w K mg base cm fld "cancelled" 4 3 [] f_cancelled) (c_fewest_cancelled : Cal P w K mg base cm fld "fewest_cancelled" 5 2 [] f_fewest_cancelled) (c_check_cancelled : Cal P w K mg base cm fld "check_cancelled" 4 3 [] f_check_cancelled) (h_law_raised : ThkD P w K mg base cm fld "_law_raised" f_law_raised) {g : Addr} {fd : FuncData} (F : Fun K "_law_later_doors" "_law_later_doors" st_law_later_doors g fd) (hm : mg "_law_later_doors" = some (.ref g)) (hb : Binds K fd ["book", "one"] []) (L_law_later_doors : LamD mg base cm fd "_law_later_doors") : Cal P w K mg base cm fld "_law_later_doors" 8 2 [] f_law_later_doors :=
  d_law_later_doors ▸ cal_mk (k := 7) F hm hb sc_law_later_doors rfl rfl (by decide) [] (fun cdv cd A outer s H G E as hr => by exact (s_seq (s_asgN (O1 := [2]) (ns := []) (n := 3) (ps_set (i := 2) sc_law_later_doors.nd rfl (by first | exact Or.inl rfl | exact Or.inr rfl) (n_lst (a_cons (pa_cons (d_thunk (k := 5) h_law_raised rfl (lam_at L_law_later_doors cd) hr (by decide) (fun A outer s H E f c' z hr => (d_cal c_options rfl hr (by decide) (takes_of rfl rfl rfl rfl) (a_cons (pa_cons (d_v (pv 0) (by decide)) (a_cons (pa_cons (d_v (pv 1) (by decide)) (a_cons (pa_cons (d_1 a_negD (pe_un un_neg (wk d_int))) a_nil)))))) rfl))) a_nil)))) rfl (by decide) rfl (by decide) (by decide)) (s_seq (s_app (by decide) (ps_expr (pe_bm PySem.F.plainAttrs_list PySem.F.slot_list_append PySem.F.type_list_append mt_append (pv 2) (pa_cons (d_thunk (k := 5) h_law_raised rfl (lam_at L_law_later_doors cd) hr (by decide) (fun A outer s H E f c' z hr => (d_cal c_bring rfl hr (by decide) (takes_of rfl rfl rfl rfl) (a_cons (pa_cons (d_v (pv 0) (by decide)) (a_cons (pa_cons (d_v (pv 1) (by decide)) (a_cons (pa_cons (d_1 a_negD (pe_un un_neg (wk d_int))) (a_cons (pa_cons (d_1 a_negD (pe_un un_neg (wk d_int))) a_nil)))))))) rfl))) pa_nil)))) (s_seq (s_app (by decide) (ps_expr (pe_bm PySem.F.plainAttrs_list PySem.F.slot_list_append PySem.F.type_list_append mt_append (pv 2) (pa_cons (d_thunk (k := 5) h_law_raised rfl (lam_at L_law_later_doors cd) hr (by decide) (fun A outer s H E f c' z hr => (d_cal c_insert rfl hr (by decide) (takes_of rfl rfl rfl rfl) (a_cons (pa_cons (d_v (pv 0) (by decide)) (a_cons (pa_cons (d_v (pv 1) (by decide)) (a_cons (pa_cons d_non a_nil)))))) rfl))) pa_nil)))) (s_seq (s_app (by decide) (ps_expr (pe_bm PySem.F.plainAttrs_list PySem.F.slot_list_append PySem.F.type_list_append mt_append (pv 2) (pa_cons (d_thunk (k := 5) h_law_raised rfl (lam_at L_law_later_doors cd) hr (by decide) (fun A outer s H E f c' z hr => (d_cal c_check_insert rfl hr (by decide) (takes_of rfl rfl rfl rfl) (a_cons (pa_cons (d_v (pv 0) (by decide)) (a_cons (pa_cons (d_v (pv 1) (by decide)) (a_cons (pa_cons d_non (a_cons (pa_cons d_non a_nil)))))))) rfl))) pa_nil)))) (s_seq (s_app (by decide) (ps_expr (pe_bm PySem.F.plainAttrs_list PySem.F.slot_list_append PySem.F.type_list_append mt_append (pv 2) (pa_cons (d_thunk (k := 5) h_law_raised rfl (lam_at L_law_later_doors cd) hr (by decide) (fun A outer s H E f c' z hr => (d_cal c_granted rfl hr (by decide) (takes_of rfl rfl rfl rfl) (a_cons (pa_cons (d_v (pv 0) (by decide)) (a_cons (pa_cons (d_v (pv 1) (by decide)) (a_cons (pa_cons d_non a_nil)))))) rfl))) pa_nil)))) (s_seq (s_app (by decide) (ps_expr (pe_bm PySem.F.plainAttrs_list PySem.F.slot_list_append PySem.F.type_list_append mt_append (pv 2) (pa_cons (d_thunk (k := 5) h_law_raised rfl (lam_at L_law_later_doors cd) hr (by decide) (fun A outer s H E f c' z hr => (d_cal c_check_granted rfl hr (by decide) (takes_of rfl rfl rfl rfl) (a_cons (pa_cons (d_v (pv 0) (by decide)) (a_cons (pa_cons (d_v (pv 1) (by decide)) (a_cons (pa_cons d_non (a_cons (pa_cons d_non a_nil)))))))) rfl))) pa_nil)))) (s_seq (s_app (by decide) (ps_expr (pe_bm PySem.F.plainAttrs_list PySem.F.slot_list_append PySem.F.type_list_append mt_append (pv 2) (pa_cons (d_thunk (k := 5) h_law_raised rfl (lam_at L_law_later_doors cd) hr (by decide) (fun A outer s H E f c' z hr => (d_cal c_most_granted rfl hr (by decide) (takes_of rfl rfl rfl rfl) (a_cons (pa_cons (d_v (pv 0) (by decide)) (a_cons (pa_cons (d_v (pv 1) (by decide)) (a_cons (pa_cons d_non a_nil)))))) rfl))) pa_nil)))) (s_seq (s_app (by decide) (ps_expr (pe_bm PySem.F.plainAttrs_list PySem.F.slot_list_append PySem.F.type_list_append mt_append (pv 2) (pa_cons (d_thunk (k := 5) h_law_raised rfl (lam_at L_law_later_doors cd) hr (by decide) (fun A outer s H E f c' z hr => (d_cal c_cheapest rfl hr (by decide) (takes_of rfl rfl rfl rfl) (a_cons (pa_cons (d_v (pv 0) (by decide)) (a_cons (pa_cons (d_v (pv 1) (by decide)) (a_cons (pa_cons d_non a_nil)))))) rfl))) pa_nil)))) (s_seq (s_app (by decide) (ps_expr (pe_bm PySem.F.plainAttrs_list PySem.F.slot_list_append PySem.F.type_list_append mt_append (pv 2) (pa_cons (d_thunk (k := 5) h_law_raised rfl (lam_at L_law_later_doors cd) hr (by decide) (fun A outer s H E f c' z hr => (d_cal c_check_cheapest rfl hr (by decide) (takes_of rfl rfl rfl rfl) (a_cons (pa_cons (d_v (pv 0) (by decide)) (a_cons (pa_cons (d_v (pv 1) (by decide)) (a_cons (pa_cons d_non (a_cons (pa_cons d_non a_nil)))))))) rfl))) pa_nil)))) (s_seq (s_app (by decide) (ps_expr (pe_bm PySem.F.plainAttrs_list PySem.F.slot_list_append PySem.F.type_list_append mt_append (pv 2) (pa_cons (d_thunk (k := 5) h_law_raised rfl (lam_at L_law_later_doors cd) hr (by decide) (fun A outer s H E f c' z hr => (d_cal c_tight_sets rfl hr (by decide) (takes_of rfl rfl rfl rfl) (a_cons (pa_cons (d_v (pv 0) (by decide)) (a_cons (pa_cons (d_v (pv 1) (by decide)) a_nil)))) rfl))) pa_nil)))) (s_seq (s_app (by decide) (ps_expr (pe_bm PySem.F.plainAttrs_list PySem.F.slot_list_append PySem.F.type_list_append mt_append (pv 2) (pa_cons (d_thunk (k := 5) h_law_raised rfl (lam_at L_law_later_doors cd) hr (by decide) (fun A outer s H E f c' z hr => (d_cal c_cancelled rfl hr (by decide) (takes_of rfl rfl rfl rfl) (a_cons (pa_cons (d_v (pv 0) (by decide)) (a_cons (pa_cons (d_v (pv 1) (by decide)) (a_cons (pa_cons d_non a_nil)))))) rfl))) pa_nil)))) (s_seq (s_app (by decide) (ps_expr (pe_bm PySem.F.plainAttrs_list PySem.F.slot_list_append PySem.F.type_list_append mt_append (pv 2) (pa_cons (d_thunk (k := 5) h_law_raised rfl (lam_at L_law_later_doors cd) hr (by decide) (fun A outer s H E f c' z hr => (d_cal c_fewest_cancelled rfl hr (by decide) (takes_of rfl rfl rfl rfl) (a_cons (pa_cons (d_v (pv 0) (by decide)) (a_cons (pa_cons (d_v (pv 1) (by decide)) a_nil)))) rfl))) pa_nil)))) (s_seq (s_app (by decide) (ps_expr (pe_bm PySem.F.plainAttrs_list PySem.F.slot_list_append PySem.F.type_list_append mt_append (pv 2) (pa_cons (d_thunk (k := 5) h_law_raised rfl (lam_at L_law_later_doors cd) hr (by decide) (fun A outer s H E f c' z hr => (d_cal c_check_cancelled rfl hr (by decide) (takes_of rfl rfl rfl rfl) (a_cons (pa_cons (d_v (pv 0) (by decide)) (a_cons (pa_cons (d_v (pv 1) (by decide)) (a_cons (pa_cons d_non a_nil)))))) rfl))) pa_nil)))) (ss_frz (i := 2) (O1 := []) (ns := []) (s_one (s_ret (d_v (pv 2) (by decide)))) rfl (by decide) (by decide) (by decide))))))))))))))))
/-! _law_doors -/
abbrev st_law_doors : Stmt := top 89
noncomputable def m_law_doors : Sm := (sSeq (sAsg (.n 2) (eLst [(eThunk [] f_law_raised (eCall f_check_timetable [(eV 0), (eV 1)]))])) (sSeq (sApp 2 (eThunk [2] f_law_raised (eCall f_free_slots [(eV 0), (eV 1)]))) (sSeq (sApp 2 (eThunk [2] f_law_raised (eCall f_moves [(eV 0), (eV 1)]))) (sSeq (sApp 2 (eThunk [2] f_law_raised (eCall f_moved [(eV 0), (eV 1), (eC .non)]))) (sSeq (sApp 2 (eThunk [2] f_law_raised (eCall (fun ds => f_reached (sel [0, 1, 2] ds)) ([(eV 0), (eV 1)] ++ [(eC (.int 0))])))) (sSeq (sApp 2 (eThunk [2] f_law_raised (eCall f_open_slots [(eV 0), (eV 1)]))) (sSeq (sApp 2 (eThunk [2] f_law_raised (eCall f_frozen [(eV 0), (eV 1)]))) (sSeq (sApp 2 (eThunk [2] f_law_raised (eCall f_check_tight [(eV 0), (eV 1), (eC .non)]))) (sSeq (sApp 2 (eThunk [2] f_law_raised (eCall f_vacated [(eV 0), (eV 1), (e1 negD (eC (.int 1)))]))) (sRet (eV 2)))))))))))
noncomputable def f_law_doors : List D → Fr := hide (fnM 3 2 [] m_law_doors)
theorem d_law_doors : f_law_doors = fnM 3 2 [] m_law_doors := hide_eq _
theorem e_law_doors {ds : List D} {r : Fr} (hl : ds.length = 2) (h : FEnd [] (fun x => x = r) (m_law_doors (startE 3 ds))) : f_law_doors ds = r := by rw [d_law_doors]; exact fn_run (Q := fun x => x = r) hl h
theorem sc_law_doors : FnScope ["book", "one", "found"] ["book", "one"] (defScope st_law_doors) := ⟨rfl, rfl, rfl, by decide +kernel, rfl, by decide +kernel, by decide +kernel⟩
theorem k_law_doors (T : Tx K mg cm fld) (c_check_timetable : Cal P w K mg base cm fld "check_timetable" 3 2 [] f_check_timetable) (c_free_slots : Cal P w K mg base cm fld "free_slots" 4 2 [] f_free_slots) (c_moves : Cal P w K mg base cm fld "moves" 5 2 [] f_moves) (c_moved : Cal P w K mg base cm fld "moved" 4 3 [] f_moved) (c_open_slots : Cal P w K mg base cm fld "open_slots" 6 2 [] f_open_slots) (c_frozen : Cal P w K mg base cm fld "frozen" 6 2 [] f_frozen) (c_check_tight : Cal P w K mg base cm fld "check_tight" 4 3 [] f_check_tight) (c_vacated : Cal P w K mg base cm fld "vacated" 4 3 [] f_vacated) (h_law_raised : ThkD P w K mg base cm fld "_law_raised" f_law_raised) (q_reached_2_most : CalK P w K mg base cm fld "reached" 4 3 2 ["most"] [0, 1, 2] f_reached) {g : Addr} {fd : FuncData} (F : Fun K "_law_doors" "_law_doors" st_law_doors g fd) (hm : mg "_law_doors" = some (.ref g)) (hb : Binds K fd ["book", "one"] []) (L_law_doors : LamD mg base cm fd "_law_doors") : Cal P w K mg base cm fld "_law_doors" 9 2 [] f_law_doors :=
  d_law_doors ▸ cal_mk (k := 8) F hm hb sc_law_doors rfl rfl (by decide) [] (fun cdv cd A outer s H G E as hr => by exact (s_seq (s_asgN (O1 := [2]) (ns := []) (n := 3) (ps_set (i := 2) sc_law_doors.nd rfl (by first | exact Or.inl rfl | exact Or.inr rfl) (n_lst (a_cons (pa_cons (d_thunk (k := 6) h_law_raised rfl (lam_at L_law_doors cd) hr (by decide) (fun A outer s H E f c' z hr => (d_cal c_check_timetable rfl hr (by decide) (takes_of rfl rfl rfl rfl) (a_cons (pa_cons (d_v (pv 0) (by decide)) (a_cons (pa_cons (d_v (pv 1) (by decide)) a_nil)))) rfl))) a_nil)))) rfl (by decide) rfl (by decide) (by decide)) (s_seq (s_app (by decide) (ps_expr (pe_bm PySem.F.plainAttrs_list PySem.F.slot_list_append PySem.F.type_list_append mt_append (pv 2) (pa_cons (d_thunk (k := 6) h_law_raised rfl (lam_at L_law_doors cd) hr (by decide) (fun A outer s H E f c' z hr => (d_cal c_free_slots rfl hr (by decide) (takes_of rfl rfl rfl rfl) (a_cons (pa_cons (d_v (pv 0) (by decide)) (a_cons (pa_cons (d_v (pv 1) (by decide)) a_nil)))) rfl))) pa_nil)))) (s_seq (s_app (by decide) (ps_expr (pe_bm PySem.F.plainAttrs_list PySem.F.slot_list_append PySem.F.type_list_append mt_append (pv 2) (pa_cons (d_thunk (k := 6) h_law_raised rfl (lam_at L_law_doors cd) hr (by decide) (fun A outer s H E f c' z hr => (d_cal c_moves rfl hr (by decide) (takes_of rfl rfl rfl rfl) (a_cons (pa_cons (d_v (pv 0) (by decide)) (a_cons (pa_cons (d_v (pv 1) (by decide)) a_nil)))) rfl))) pa_nil)))) (s_seq (s_app (by decide) (ps_expr (pe_bm PySem.F.plainAttrs_list PySem.F.slot_list_append PySem.F.type_list_append mt_append (pv 2) (pa_cons (d_thunk (k := 6) h_law_raised rfl (lam_at L_law_doors cd) hr (by decide) (fun A outer s H E f c' z hr => (d_cal c_moved rfl hr (by decide) (takes_of rfl rfl rfl rfl) (a_cons (pa_cons (d_v (pv 0) (by decide)) (a_cons (pa_cons (d_v (pv 1) (by decide)) (a_cons (pa_cons d_non a_nil)))))) rfl))) pa_nil)))) (s_seq (s_app (by decide) (ps_expr (pe_bm PySem.F.plainAttrs_list PySem.F.slot_list_append PySem.F.type_list_append mt_append (pv 2) (pa_cons (d_thunk (k := 6) h_law_raised rfl (lam_at L_law_doors cd) hr (by decide) (fun A outer s H E f c' z hr => (d_calK q_reached_2_most rfl hr (by decide) (takes_of rfl rfl rfl rfl) (a_cons (pa_cons (d_v (pv 0) (by decide)) (a_cons (pa_cons (d_v (pv 1) (by decide)) a_nil)))) (k_cons d_int k_nil) rfl rfl rfl))) pa_nil)))) (s_seq (s_app (by decide) (ps_expr (pe_bm PySem.F.plainAttrs_list PySem.F.slot_list_append PySem.F.type_list_append mt_append (pv 2) (pa_cons (d_thunk (k := 6) h_law_raised rfl (lam_at L_law_doors cd) hr (by decide) (fun A outer s H E f c' z hr => (d_cal c_open_slots rfl hr (by decide) (takes_of rfl rfl rfl rfl) (a_cons (pa_cons (d_v (pv 0) (by decide)) (a_cons (pa_cons (d_v (pv 1) (by decide)) a_nil)))) rfl))) pa_nil)))) (s_seq (s_app (by decide) (ps_expr (pe_bm PySem.F.plainAttrs_list PySem.F.slot_list_append PySem.F.type_list_append mt_append (pv 2) (pa_cons (d_thunk (k := 6) h_law_raised rfl (lam_at L_law_doors cd) hr (by decide) (fun A outer s H E f c' z hr => (d_cal c_frozen rfl hr (by decide) (takes_of rfl rfl rfl rfl) (a_cons (pa_cons (d_v (pv 0) (by decide)) (a_cons (pa_cons (d_v (pv 1) (by decide)) a_nil)))) rfl))) pa_nil)))) (s_seq (s_app (by decide) (ps_expr (pe_bm PySem.F.plainAttrs_list PySem.F.slot_list_append PySem.F.type_list_append mt_append (pv 2) (pa_cons (d_thunk (k := 6) h_law_raised rfl (lam_at L_law_doors cd) hr (by decide) (fun A outer s H E f c' z hr => (d_cal c_check_tight rfl hr (by decide) (takes_of rfl rfl rfl rfl) (a_cons (pa_cons (d_v (pv 0) (by decide)) (a_cons (pa_cons (d_v (pv 1) (by decide)) (a_cons (pa_cons d_non a_nil)))))) rfl))) pa_nil)))) (s_seq (s_app (by decide) (ps_expr (pe_bm PySem.F.plainAttrs_list PySem.F.slot_list_append PySem.F.type_list_append mt_append (pv 2) (pa_cons (d_thunk (k := 6) h_law_raised rfl (lam_at L_law_doors cd) hr (by decide) (fun A outer s H E f c' z hr => (d_cal c_vacated rfl hr (by decide) (takes_of rfl rfl rfl rfl) (a_cons (pa_cons (d_v (pv 0) (by decide)) (a_cons (pa_cons (d_v (pv 1) (by decide)) (a_cons (pa_cons (d_1 a_negD (pe_un un_neg (wk d_int))) a_nil)))))) rfl))) pa_nil)))) (ss_frz (i := 2) (O1 := []) (ns := []) (s_one (s_ret (d_v (pv 2) (by decide)))) rfl (by decide) (by decide) (by decide))))))))))))
/-! _law_right -/
abbrev st_law_right : Stmt := top 93
noncomputable def m_law_right : Sm := (sSeq (sAsg (.t [1, 2, 3]) (eCallO f_law_book 0 [(eC (.int 10))])) (sSeq (sAsg (.n 4) (eMake "Book" f_Book_init [(eV 1), (eV 2)])) (sSeq (sAsg (.n 5) (e2 idxD (eLst [(e1 listD (eV 3)), (eC .non), (eC (.dic [])), (eC (.int 0))]) (eCallO f_law_draw 0 [(eC (.int 4))]))) (sSeq (sFor (iSeq (eLst [(eCallO f_law_bent 0 [(eV 3), (eV 1)]), (eV 5)])) (.n 6) (sSeq (sAsg (.n 7) (eCall f_law_due [(eV 2), (eV 6)])) (sSeq (sAsg (.n 8) (e1 reprD (eV 6))) (sIf (e2 nisND (eV 7) (eC .non)) (sSeq (sIf (eOr (e2 neD (eCall f_law_doors [(eV 4), (eV 6)]) (e2 repD (eLst [(eV 7)]) (eC (.int 9)))) (e2 neD (eCall f_law_later_doors [(eV 4), (eV 6)]) (e2 repD (eLst [(eV 7)]) (eC (.int 13))))) (sRet (eC (.bl false))) sPass) (sSeq (sIf (e2 neD (eCall f_law_pairs [(eV 4), (eV 6), (eC (.str "x"))]) (e2 repD (eLst [(eV 7)]) (eC (.int 3)))) (sRet (eC (.bl false))) sPass) (sIf (eOr (e2 neD (eCall f_law_pairs [(eV 4), (eV 3), (eV 6)]) (e2 repD (eLst [(eV 7)]) (eC (.int 3)))) (e2 neD (e1 reprD (eV 6)) (eV 8))) (sRet (eC (.bl false))) sPass))) sPass)))) (sRet (eC (.bl true)))))))
noncomputable def f_law_right : List D → Fr := hide (fnM 9 1 [0] m_law_right)
theorem d_law_right : f_law_right = fnM 9 1 [0] m_law_right := hide_eq _
theorem e_law_right {ds : List D} {r : Fr} (hl : ds.length = 1) (h : FEnd [0] (fun x => x = r) (m_law_right (startE 9 ds))) : f_law_right ds = r := by rw [d_law_right]; exact fn_run (Q := fun x => x = r) hl h
theorem sc_law_right : FnScope ["well", "slots", "allowed", "timetable", "book", "odd", "one", "due", "same"] ["well"] (defScope st_law_right) := ⟨rfl, rfl, rfl, by decide +kernel, rfl, by decide +kernel, by decide +kernel⟩
theorem k_law_right (T : Tx K mg cm fld) (c_law_book : Cal P w K mg base cm fld "_law_book" 2 2 [0] f_law_book) (c_law_draw : Cal P w K mg base cm fld "_law_draw" 1 2 [0] f_law_draw) (c_law_bent : Cal P w K mg base cm fld "_law_bent" 2 3 [0] f_law_bent) (c_law_due : Cal P w K mg base cm fld "_law_due" 1 2 [] f_law_due) (c_law_doors : Cal P w K mg base cm fld "_law_doors" 9 2 [] f_law_doors) (c_law_later_doors : Cal P w K mg base cm fld "_law_later_doors" 8 2 [] f_law_later_doors) (c_law_pairs : Cal P w K mg base cm fld "_law_pairs" 7 3 [] f_law_pairs) (b_Book : MkC P w K mg base cm fld "Book" 3 3 f_Book_init) {g : Addr} {fd : FuncData} (F : Fun K "_law_right" "_law_right" st_law_right g fd) (hm : mg "_law_right" = some (.ref g)) (hb : Binds K fd ["well"] []) : CalG P w K mg base cm fld "_law_right" 10 1 [0] f_law_right :=
  d_law_right ▸ calG_mk (k := 9) F hm hb sc_law_right rfl rfl (by decide) [0] (fun cdv cd A outer s H G E as gd hr => by exact (s_seq (s_asg (ps_asg (d_calO c_law_book rfl hr (by decide) (takes_of rfl rfl rfl rfl) (by decide) (pa_cons (pv 0) (a_cons (pa_cons d_int a_nil))) rfl) (pg_tup rfl (pgs_cons (pg_name (i := 1) sc_law_right.nd rfl (by first | exact Or.inl rfl | exact Or.inr rfl)) (pgs_cons (pg_name (i := 2) sc_law_right.nd rfl (by first | exact Or.inl rfl | exact Or.inr rfl)) (pgs_cons (pg_name (i := 3) sc_law_right.nd rfl (by first | exact Or.inl rfl | exact Or.inr rfl)) pgs_nil))))) (gt_t (gts_cons (by decide) (gts_cons (by decide) (gts_cons (by decide) gts_nil))) rfl)) (s_seq (s_asg (ps_set (i := 4) sc_law_right.nd rfl (by first | exact Or.inl rfl | exact Or.inr rfl) (d_mk b_Book rfl hr (by decide) (takes_of rfl rfl rfl rfl) (fun cls d H => E cls d H) (fun _ _ _ _ => rfl) (a_cons (pa_cons (d_v (pv 1) (by decide)) (a_cons (pa_cons (d_v (pv 2) (by decide)) a_nil)))) rfl)) (gt_n (by decide))) (s_seq (s_asg (ps_set (i := 5) sc_law_right.nd rfl (by first | exact Or.inl rfl | exact Or.inr rfl) (d_2 a_idxD (pe_ix ix_seq (kn (n_lst (a_cons (pa_cons (kn (bn_1 a_listN (pe_callTy call_list_of (by rfl) T.n_list PyProof.Rows.boot_list (pa_cons (wk (d_v (pv 3) (by decide))) pa_nil)))) (a_cons (pa_cons d_non (a_cons (pa_cons (kn n_dnew) (a_cons (pa_cons d_int a_nil)))))))))) (wk (d_calO c_law_draw rfl hr (by decide) (takes_of rfl rfl rfl rfl) (by decide) (pa_cons (pv 0) (a_cons (pa_cons d_int a_nil))) rfl)) fun _ _ => rfl))) (gt_n (by decide))) (s_seq (s_for (passes_of rfl) rfl (i_seq rfl (kn (n_lst (a_cons (pa_cons (d_calO c_law_bent rfl hr (by decide) (takes_of rfl rfl rfl rfl) (by decide) (pa_cons (pv 0) (a_cons (pa_cons (d_v (pv 3) (by decide)) (a_cons (pa_cons (d_v (pv 1) (by decide)) a_nil))))) rfl) (a_cons (pa_cons (d_v (pv 5) (by decide)) a_nil))))))) (pg_name (i := 6) sc_law_right.nd rfl (by first | exact Or.inl rfl | exact Or.inr rfl)) (gt_n (by decide)) (s_seq (s_asg (ps_set (i := 7) sc_law_right.nd rfl (by first | exact Or.inl rfl | exact Or.inr rfl) (d_cal c_law_due rfl hr (by decide) (takes_of rfl rfl rfl rfl) (a_cons (pa_cons (d_v (pv 2) (by decide)) (a_cons (pa_cons (d_v (pv 6) (by decide)) a_nil)))) rfl)) (gt_n (by decide))) (s_seq (s_asg (ps_set (i := 8) sc_law_right.nd rfl (by first | exact Or.inl rfl | exact Or.inr rfl) (d_repr rfl gd hr T.n_repr (wk (d_v (pv 6) (by decide))))) (gt_n (by decide))) (s_one (s_if (t_2 a_nisND (pt_cmpR op_notN (d_v (pv 7) (by decide)) (wk d_non) (nomark _))) (s_seq (s_if (PW.pt (t_or (t_2 a_neD (pt_cmpR (op_neD (u64 hr)) (d_cal c_law_doors rfl hr (by decide) (takes_of rfl rfl rfl rfl) (a_cons (pa_cons (d_v (pv 4) (by decide)) (a_cons (pa_cons (d_v (pv 6) (by decide)) a_nil)))) rfl) (wk (kn (n_rep (n_lst (a_cons (pa_cons (d_v (pv 7) (by decide)) a_nil))) d_int))) (nomark _))) (pw_or1 (t_2 a_neD (pt_cmpR (op_neD (u64 hr)) (d_cal c_law_later_doors rfl hr (by decide) (takes_of rfl rfl rfl rfl) (a_cons (pa_cons (d_v (pv 4) (by decide)) (a_cons (pa_cons (d_v (pv 6) (by decide)) a_nil)))) rfl) (wk (kn (n_rep (n_lst (a_cons (pa_cons (d_v (pv 7) (by decide)) a_nil))) d_int))) (nomark _)))))) (s_one (s_ret d_bl)) s_nil) (s_seq (s_if (t_2 a_neD (pt_cmpR (op_neD (u64 hr)) (d_cal c_law_pairs rfl hr (by decide) (takes_of rfl rfl rfl rfl) (a_cons (pa_cons (d_v (pv 4) (by decide)) (a_cons (pa_cons (d_v (pv 6) (by decide)) (a_cons (pa_cons d_str a_nil)))))) rfl) (wk (kn (n_rep (n_lst (a_cons (pa_cons (d_v (pv 7) (by decide)) a_nil))) d_int))) (nomark _))) (s_one (s_ret d_bl)) s_nil) (s_one (s_if (PW.pt (t_or (t_2 a_neD (pt_cmpR (op_neD (u64 hr)) (d_cal c_law_pairs rfl hr (by decide) (takes_of rfl rfl rfl rfl) (a_cons (pa_cons (d_v (pv 4) (by decide)) (a_cons (pa_cons (d_v (pv 3) (by decide)) (a_cons (pa_cons (d_v (pv 6) (by decide)) a_nil)))))) rfl) (wk (kn (n_rep (n_lst (a_cons (pa_cons (d_v (pv 7) (by decide)) a_nil))) d_int))) (nomark _))) (pw_or1 (t_2 a_neD (pt_cmpR (op_neD (u64 hr)) (d_repr rfl gd hr T.n_repr (wk (d_v (pv 6) (by decide)))) (wk (d_v (pv 8) (by decide))) (nomark _)))))) (s_one (s_ret d_bl)) s_nil)))) s_nil))))) (s_one (s_ret d_bl)))))))
/-! law -/
abbrev st_law : Stmt := top 94
noncomputable def m_law : Sm := (sSeq (sFor (iEnum (e3 slD (e2 addD (eV 0) (eLst [(eC (.int 0))])) none (some (eC (.int 6))))) (.t [1, 2]) (sIf (eNot (eCallN f_law_right (eLst [(e2 mulD (eV 2) (e1 intD (e2 geD (eV 2) (e2 powD (eC (.int 10)) (eC (.int 18)))))), (e2 addD (e2 modD (eV 2) (eC (.int 2147483647))) (e2 mulD (eC (.int 7919)) (eV 1))), (eC (.int 0))]) [])) (sRet (eC (.bl false))) sPass)) (sRet (eC (.bl true))))
noncomputable def f_law : List D → Fr := hide (fnM 3 1 [] m_law)
theorem d_law : f_law = fnM 3 1 [] m_law := hide_eq _
theorem e_law {ds : List D} {r : Fr} (hl : ds.length = 1) (h : FEnd [] (fun x => x = r) (m_law (startE 3 ds))) : f_law ds = r := by rw [d_law]; exact fn_run (Q := fun x => x = r) hl h
theorem sc_law : FnScope ["script", "k", "cell"] ["script"] (defScope st_law) := ⟨rfl, rfl, rfl, by decide +kernel, rfl, by decide +kernel, by decide +kernel⟩
theorem k_law (T : Tx K mg cm fld) (c_law_right : CalG P w K mg base cm fld "_law_right" 10 1 [0] f_law_right) {g : Addr} {fd : FuncData} (F : Fun K "law" "law" st_law g fd) : FnG P w K mg base (L2.CX P w) 11 g fd ["script"] (spM K cm fld 1 [] f_law) :=
  d_law ▸ fn_mirG F sc_law rfl rfl (by decide) [] (fun cdv cd A outer s H G E as gd hr => by exact (s_seq (s_for (passes_of rfl) rfl (i_enum rfl (by rfl) T.n_enumerate (pa_cons (pe_imp (pe_slice sl_S (d_2 a_addD (pe_op op_addD (d_v (pv 0) (by decide)) (wk (kn (n_lst (a_cons (pa_cons d_int a_nil))))))) po_n (po_s d_int)) (r_sl a_slD)) pa_nil)) (pg_tup rfl (pgs_cons (pg_name (i := 1) sc_law.nd rfl (by first | exact Or.inl rfl | exact Or.inr rfl)) (pgs_cons (pg_name (i := 2) sc_law.nd rfl (by first | exact Or.inl rfl | exact Or.inr rfl)) pgs_nil))) (gt_t (gts_cons (by decide) (gts_cons (by decide) gts_nil)) rfl) (s_one (s_if (t_not (t_val (d_calGN c_law_right rfl gd hr (by decide) (takes_of rfl rfl rfl rfl) (pa_cons (n_lst (a_cons (pa_cons (d_2 a_mulD (pe_op op_mul (d_v (pv 2) (by decide)) (wk (b_1 a_intD (pe_callTy call_int1 (by rfl) T.n_int PyProof.Rows.boot_int (pa_cons (wk (d_2 a_cmpD (pe_cmpR op_ge (d_v (pv 2) (by decide)) (wk (d_2 a_powD (pe_op op_pow d_int (wk d_int)))) (nomark _)))) pa_nil)))))) (a_cons (pa_cons (d_2 a_addD (pe_op op_addD (d_2 a_modD (pe_op op_mod (d_v (pv 2) (by decide)) (wk d_int))) (wk (d_2 a_mulD (pe_op op_mul d_int (wk (d_v (pv 1) (by decide)))))))) (a_cons (pa_cons d_int a_nil))))))) a_nil) rfl))) (s_one (s_ret d_bl)) s_nil))) (s_one (s_ret d_bl))))
end
end Mi

end
section
set_option linter.all false
set_option autoImplicit false
/-! plain facts about the mirror's combinators -/
namespace Mi
open PySem PySem.Spec

theorem eV_at {i : Nat} {δ : Env} {d : D} (h : δ[i]? = some (some d)) : eV i δ = .ok d δ := by unfold eV; rw [h]
/-- a while loop by a measure -/
theorem while_by {c : Ex} {b : Sm} (I : Env → Prop) (Z : Env → Prop) (μ : Env → Nat) (h : ∀ δ, I δ → (∃ δ1, c δ = .ok (.bl false) δ1 ∧ Z δ1) ∨ ∃ δ1 δ2, c δ = .ok (.bl true) δ1 ∧ b δ1 = .nx δ2 ∧ I δ2 ∧ μ δ2 < μ δ) {δ : Env} (h0 : I δ) : ∃ δ', sWhile c b δ = .nx δ' ∧ Z δ' := by
  have key : ∀ n δ, μ δ < n → I δ → ∃ k δ', whN c b k δ = some (.nx δ') ∧ Z δ' := by
    intro n
    induction n with
    | zero => intro δ h1; omega
    | succ n ih =>
      intro δ h1 h2
      rcases h δ h2 with ⟨δ1, e, z⟩ | ⟨δ1, δ2, e1, e2, h3, h4⟩
      · exact ⟨1, δ1, by simp [whN, e], z⟩
      · obtain ⟨k, δ', e3, z⟩ := ih δ2 (by omega) h3
        exact ⟨k + 1, δ', by simp [whN, e1, e2, e3], z⟩
  obtain ⟨k, δ', e, z⟩ := key (μ δ + 1) δ (by omega) h0
  exact ⟨δ', sWhile_of e, z⟩
/-- a for loop that runs through -/
theorem for_by {t : Tg} {b : Sm} (I : Nat → Env → Prop) {ds : List D} (h : ∀ i d δ, ds[i]? = some d → I i δ → ∃ δ1 δ2, t.put d δ = some δ1 ∧ (b δ1 = .nx δ2 ∨ b δ1 = .ct δ2) ∧ I (i + 1) δ2) {δ : Env} (h0 : I 0 δ) : ∃ δ', forL t b ds δ = .nx δ' ∧ I ds.length δ' := by
  have key : ∀ (r : List D) (i : Nat) (δ : Env), (∀ j, r[j]? = ds[i + j]?) → I i δ → ∃ δ', forL t b r δ = .nx δ' ∧ I (i + r.length) δ' := by
    intro r
    induction r with
    | nil => intro i δ _ hi; exact ⟨δ, rfl, hi⟩
    | cons d r ih =>
      intro i δ hr hi
      obtain ⟨δ1, δ2, e1, e2, h2⟩ := h i d δ (by have := hr 0; simpa using this.symm) hi
      obtain ⟨δ', e3, h3⟩ := ih (i + 1) δ2 (fun j => by have := hr (j + 1); rw [show i + 1 + j = i + (j + 1) by omega]; simpa using this) h2
      refine ⟨δ', ?_, by rw [List.length_cons, show i + (r.length + 1) = i + 1 + r.length by omega]; exact h3⟩
      rcases e2 with e2 | e2 <;> simp [forL, e1, e2, e3]
  obtain ⟨δ', e, z⟩ := key ds 0 δ (fun j => by simp) h0
  exact ⟨δ', e, by simpa using z⟩
/-- .. or ends with what the first hit tells: hit i d δ (some o) says that the turn at d ends with o -/
theorem for_hit {t : Tg} {b : Sm} {ds : List D} (I : Nat → Env → Prop) (stop : Nat → D → Option Out) (h : ∀ i d δ, ds[i]? = some d → I i δ → ∃ δ1, t.put d δ = some δ1 ∧ (match stop i d with
      | some o => b δ1 = o ∧ (∀ δ2, o ≠ .nx δ2 ∧ o ≠ .ct δ2 ∧ o ≠ .bk δ2)
      | none => ∃ δ2, (b δ1 = .nx δ2 ∨ b δ1 = .ct δ2) ∧ I (i + 1) δ2)) {δ : Env} (h0 : I 0 δ) :
    (∃ i d o, ds[i]? = some d ∧ stop i d = some o ∧ (∀ j e, j < i → ds[j]? = some e → stop j e = none) ∧ forL t b ds δ = o) ∨ ((∀ j e, ds[j]? = some e → stop j e = none) ∧ ∃ δ', forL t b ds δ = .nx δ' ∧ I ds.length δ') := by
  have key : ∀ (r : List D) (i : Nat) (δ : Env), (∀ j, r[j]? = ds[i + j]?) → I i δ →
      (∃ k d o, r[k]? = some d ∧ stop (i + k) d = some o ∧ (∀ j e, j < k → r[j]? = some e → stop (i + j) e = none) ∧ forL t b r δ = o) ∨ ((∀ j e, r[j]? = some e → stop (i + j) e = none) ∧ ∃ δ', forL t b r δ = .nx δ' ∧ I (i + r.length) δ') := by
    intro r
    induction r with
    | nil => intro i δ _ hi; exact .inr ⟨fun j e z => by simp at z, δ, rfl, hi⟩
    | cons d r ih =>
      intro i δ hr hi
      obtain ⟨δ1, e1, hm⟩ := h i d δ (by have := hr 0; simpa using this.symm) hi
      cases es : stop i d with
      | some o =>
        rw [es] at hm
        obtain ⟨e2, ne⟩ := hm
        refine .inl ⟨0, d, o, rfl, es, fun j e hj => by omega, ?_⟩
        unfold forL
        rw [e1]
        simp only [e2]
        cases o with
        | nx δ2 => exact absurd rfl (ne δ2).1
        | ct δ2 => exact absurd rfl (ne δ2).2.1
        | bk δ2 => exact absurd rfl (ne δ2).2.2
        | _ => rfl
      | none =>
        rw [es] at hm
        obtain ⟨δ2, e2, h2⟩ := hm
        have st : forL t b (d :: r) δ = forL t b r δ2 := by rcases e2 with e2 | e2 <;> simp [forL, e1, e2]
        rcases ih (i + 1) δ2 (fun j => by have := hr (j + 1); rw [show i + 1 + j = i + (j + 1) by omega]; simpa using this) h2 with ⟨k, d', o, h3, h4, h5, h6⟩ | ⟨h3, δ', h4, h5⟩
        · refine .inl ⟨k + 1, d', o, by simpa using h3, by rw [show i + (k + 1) = i + 1 + k by omega]; exact h4, fun j e hj he => ?_, by rw [st]; exact h6⟩
          cases j with
          | zero => simp at he; subst he; exact es
          | succ j => rw [show i + (j + 1) = i + 1 + j by omega]; exact h5 j e (by omega) (by simpa using he)
        · refine .inr ⟨fun j e he => ?_, δ', by rw [st]; exact h4, by rw [List.length_cons, show i + (r.length + 1) = i + 1 + r.length by omega]; exact h5⟩
          cases j with
          | zero => simp at he; subst he; exact es
          | succ j => rw [show i + (j + 1) = i + 1 + j by omega]; exact h3 j e (by simpa using he)
  rcases key ds 0 δ (fun j => by simp) h0 with ⟨k, d, o, h1, h2, h3, h4⟩ | ⟨h1, δ', h2, h3⟩
  · exact .inl ⟨k, d, o, h1, by simpa using h2, fun j e hj he => by simpa using h3 j e hj he, h4⟩
  · exact .inr ⟨fun j e he => by simpa using h1 j e he, δ', h2, by simpa using h3⟩
end Mi

end
section
set_option linter.all false
set_option autoImplicit false
set_option maxRecDepth 20000
namespace Mi
open PySem PySem.Spec
/-! which values equality and repr take -/
theorem okD_of {d : D} (h : d.py.canLay0 = true) (h2 : d.py.depth ≤ 64) : okD d = true := by
  unfold okD SeqAt.shaped
  rw [h, decide_eq_true h2]
  rfl
theorem pys_len : ∀ xs : List D, (D.pys xs).length = xs.length
  | [] => rfl
  | x :: xs => by rw [D.pys, List.length_cons, List.length_cons, pys_len xs]
theorem laid_all : ∀ {xs : List D}, (∀ x ∈ xs, x.py.canLay0 = true ∧ x.py.depth ≤ 4) → PyData.canLayAll0 (D.pys xs) = true ∧ PyData.depthAll (D.pys xs) ≤ 4
  | [], _ => ⟨by simp [D.pys, PyData.canLayAll0], by simp [D.pys, PyData.depthAll]⟩
  | x :: xs, h => by
    obtain ⟨a, b⟩ := laid_all (xs := xs) fun y hy => h y (.tail _ hy)
    obtain ⟨c, d⟩ := h x (.head _)
    refine ⟨by simp [D.pys, PyData.canLayAll0, a, c], ?_⟩
    simp only [D.pys, PyData.depthAll]
    omega
theorem ok_lst {xs : List D} (h : ∀ x ∈ xs, x.py.canLay0 = true ∧ x.py.depth ≤ 4) : okD (.lst xs) = true := by
  obtain ⟨a, b⟩ := laid_all h
  refine okD_of (by simp only [D.py, PyData.canLay0]; exact a) ?_
  simp only [D.py, PyData.depth]
  omega
theorem ok_tup {xs : List D} (h : ∀ x ∈ xs, x.py.canLay0 = true ∧ x.py.depth ≤ 4) : okD (.tup xs) = true := by
  obtain ⟨a, b⟩ := laid_all h
  refine okD_of (by simp only [D.py, PyData.canLay0]; exact a) ?_
  simp only [D.py, PyData.depth]
  omega
theorem laid_int (i : Int) : (D.int i).py.canLay0 = true ∧ (D.int i).py.depth ≤ 4 := ⟨by simp [D.py, PyData.canLay0], by simp [D.py, PyData.depth]⟩
theorem laid_ints (ns : List Int) : ∀ x ∈ ns.map D.int, x.py.canLay0 = true ∧ x.py.depth ≤ 4 := fun x hx => by
  obtain ⟨i, _, rfl⟩ := List.mem_map.mp hx
  exact laid_int i
@[simp] theorem ok_int (i : Int) : okD (.int i) = true := okD_of (laid_int i).1 (Nat.le_trans (laid_int i).2 (by decide))
@[simp] theorem ok_ints (ns : List Int) : okD (.lst (ns.map .int)) = true := ok_lst (laid_ints ns)
@[simp] theorem ok_intsT (ns : List Int) : okD (.tup (ns.map .int)) = true := ok_tup (laid_ints ns)
@[simp] theorem ok_nil : okD (.lst []) = true := ok_lst fun _ h => nomatch h
@[simp] theorem ok_non : okD .non = true := okD_of (by simp [D.py, PyData.canLay0]) (by simp [D.py, PyData.depth])
theorem eqv_lst_nil : ∀ xs : List D, PyData.eqv (D.lst xs).py (D.lst []).py = xs.isEmpty
  | [] => by simp [D.py, D.pys, PyData.eqv, PyData.eqvAll]
  | x :: xs => by simp [D.py, D.pys, PyData.eqv, PyData.eqvAll]
theorem ne_nil {xs : List D} (h : okD (.lst xs) = true) : neD (.lst xs) (.lst []) = some (.bl (!xs.isEmpty)) := by
  unfold neD
  rw [h, ok_nil, eqv_lst_nil]
  rfl
theorem eq_nil {xs : List D} (h : okD (.lst xs) = true) : eqD (.lst xs) (.lst []) = some (.bl xs.isEmpty) := by
  unfold eqD
  rw [h, ok_nil, eqv_lst_nil]
  rfl
theorem eqv_int (i j : Int) : PyData.eqv (D.int i).py (D.int j).py = decide (i = j) := by
  simp only [D.py, PyData.eqv]
  by_cases h : i = j <;> simp [h]
@[simp] theorem eq_int (i j : Int) : eqD (.int i) (.int j) = some (.bl (decide (i = j))) := by
  unfold eqD
  rw [ok_int, ok_int, eqv_int]
  rfl
@[simp] theorem ne_int (i j : Int) : neD (.int i) (.int j) = some (.bl (!decide (i = j))) := by
  unfold neD
  rw [ok_int, ok_int, eqv_int]
  rfl
theorem inB_ints (i : Int) (ns : List Int) : inB (.int i) (ns.map .int) = decide (i ∈ ns) := by
  induction ns with
  | nil => rfl
  | cons n ns ih =>
    have e : inB (.int i) ((n :: ns).map .int) = (PyData.eqv (D.int n).py (D.int i).py || inB (.int i) (ns.map .int)) := rfl
    rw [e, ih, eqv_int]
    by_cases h : n = i
    · simp [h]
    · have : ¬ i = n := fun z => h z.symm
      simp [h, this]
@[simp] theorem in_ints (i : Int) (ns : List Int) : inD (.int i) (.lst (ns.map .int)) = some (.bl (decide (i ∈ ns))) := by
  simp only [inD, inO, ok_int, ok_ints, Bool.and_self, if_true, inB_ints, Option.map_some]
@[simp] theorem in_intsT (i : Int) (ns : List Int) : inD (.int i) (.tup (ns.map .int)) = some (.bl (decide (i ∈ ns))) := by
  simp only [inD, inO, ok_int, ok_intsT, Bool.and_self, if_true, inB_ints, Option.map_some]
@[simp] theorem nin_ints (i : Int) (ns : List Int) : ninD (.int i) (.lst (ns.map .int)) = some (.bl (!decide (i ∈ ns))) := by
  simp only [ninD, inO, ok_int, ok_ints, Bool.and_self, if_true, inB_ints, Option.map_some]
@[simp] theorem nin_intsT (i : Int) (ns : List Int) : ninD (.int i) (.tup (ns.map .int)) = some (.bl (!decide (i ∈ ns))) := by
  simp only [ninD, inO, ok_int, ok_intsT, Bool.and_self, if_true, inB_ints, Option.map_some]
@[simp] theorem intsO_map : ∀ ns : List Int, intsO (ns.map .int) = some ns
  | [] => rfl
  | n :: ns => by
    show (intsO (ns.map .int)).map (n :: ·) = _
    rw [intsO_map ns]
    rfl
@[simp] theorem blsO_map : ∀ ns : List Bool, blsO (ns.map .bl) = some ns
  | [] => rfl
  | n :: ns => by
    show (blsO (ns.map .bl)).map (n :: ·) = _
    rw [blsO_map ns]
    rfl
/-- an item at a known place -/
theorem idx_at {xs : List D} {i : Int} (h0 : 0 ≤ i) (h1 : i < xs.length) : ∃ d, xs[i.toNat]? = some d ∧ idxD (.lst xs) (.int i) = some d ∧ idxD (.tup xs) (.int i) = some d := by
  have hl : i.toNat < xs.length := by omega
  refine ⟨xs[i.toNat], List.getElem?_eq_getElem hl, ?_, ?_⟩ <;> simp [idxD, seqOf, ixD, h0, h1, hl]
theorem idx_ints {ns : List Int} {i : Int} (h0 : 0 ≤ i) (h1 : i < ns.length) : ∃ k, ns[i.toNat]? = some k ∧ k ∈ ns ∧ idxD (.lst (ns.map .int)) (.int i) = some (.int k) ∧ idxD (.tup (ns.map .int)) (.int i) = some (.int k) := by
  have hl : i.toNat < ns.length := by omega
  obtain ⟨d, e, e2, e3⟩ := idx_at (xs := ns.map .int) h0 (by simpa using h1)
  rw [List.getElem?_map, List.getElem?_eq_getElem hl] at e
  cases e
  exact ⟨ns[i.toNat], List.getElem?_eq_getElem hl, List.getElem_mem hl, e2, e3⟩
theorem idx_mem {xs : List D} {i : Int} (h0 : 0 ≤ i) (h1 : i < xs.length) : ∃ d ∈ xs, idxD (.lst xs) (.int i) = some d := by
  obtain ⟨d, e, e2, _⟩ := idx_at h0 h1
  exact ⟨d, List.mem_of_getElem? e, e2⟩
/-! what is shown -/
def shw (n m : Nat) (d : D) : Bool := d.py.canLay0 && (d.py.showable && (decide (d.py.depth ≤ n) && (PyData.strOk d.py.shown && decide (d.py.shown.length ≤ m))))
theorem strOk_append (a b : Str) : PyData.strOk (a ++ b) = (PyData.strOk a && PyData.strOk b) := by
  unfold PyData.strOk
  rw [Str.cps_append, Array.all_append]
theorem repr_of {d : D} (h : shw 2 10000 d = true) : ∃ s, reprD d = some (.str s) ∧ neD (.str s) (.str s) = some (.bl false) := by
  simp only [shw, Bool.and_eq_true, decide_eq_true_eq] at h
  obtain ⟨a, b, c, e, f⟩ := h
  have g : showO d = some d.py.shown := by
    unfold showO
    rw [a, b, PyData.hasDict_of_canLay _ a, decide_eq_true (show d.py.depth ≤ 64 by omega), decide_eq_true (show d.py.shown.length ≤ cap from Nat.le_trans f (cap_of (by decide)))]
    rfl
  have ne : emptyB d = false := by
    cases d with
    | dic ds => simp [D.py, PyData.canLay0] at a
    | _ => rfl
  refine ⟨_, by unfold reprD; rw [ne, g]; rfl, ?_⟩
  unfold neD
  rw [okD_of (d := .str d.py.shown) (by simp only [D.py, PyData.canLay0]; exact e) (by simp only [D.py, PyData.depth]; omega)]
  simp [D.py, PyData.eqv]
theorem shws {xs : List D} : (∀ x ∈ xs, shw 1 10 x = true) → PyData.canLayAll0 (D.pys xs) = true ∧ PyData.showableAll (D.pys xs) = true ∧ PyData.depthAll (D.pys xs) ≤ 1 ∧ (PyData.shownAll (D.pys xs)).length = xs.length ∧ ∀ t ∈ PyData.shownAll (D.pys xs), PyData.strOk t = true ∧ t.length ≤ 10 := by
  induction xs with
  | nil => intro _; simp [D.pys, PyData.canLayAll0, PyData.showableAll, PyData.depthAll, PyData.shownAll]
  | cons x xs ih =>
    intro h
    obtain ⟨a, b, c, e, f⟩ := ih fun y hy => h y (.tail _ hy)
    have hx := h x (.head _)
    simp only [shw, Bool.and_eq_true, decide_eq_true_eq] at hx
    obtain ⟨a1, b1, c1, e1, f1⟩ := hx
    refine ⟨by simp [D.pys, PyData.canLayAll0, a, a1], by simp [D.pys, PyData.showableAll, b, b1], ?_, by simp [D.pys, PyData.shownAll, e], ?_⟩
    · simp only [D.pys, PyData.depthAll]; omega
    · intro t ht
      simp only [D.pys, PyData.shownAll, List.mem_cons] at ht
      rcases ht with rfl | ht
      · exact ⟨e1, f1⟩
      · exact f t ht
theorem lit1 : PyData.strOk ((", " : String) : Str) = true ∧ PyData.strOk (("" : String) : Str) = true ∧ PyData.strOk (("(" : String) : Str) = true ∧ PyData.strOk ((")" : String) : Str) = true ∧ PyData.strOk ((",)" : String) : Str) = true ∧ PyData.strOk (("[" : String) : Str) = true ∧ PyData.strOk (("]" : String) : Str) = true := by decide +kernel
theorem join_ok : ∀ {ts : List Str}, (∀ t ∈ ts, PyData.strOk t = true ∧ t.length ≤ 10) → PyData.strOk (Str.join ", " ts) = true ∧ (Str.join ", " ts).length ≤ 12 * ts.length
  | [], _ => ⟨by decide +kernel, by decide +kernel⟩
  | [t], h => ⟨(h t (.head _)).1, Nat.le_trans (h t (.head _)).2 (by simp)⟩
  | t :: u :: r, h => by
    obtain ⟨a, b⟩ := join_ok (ts := u :: r) fun y hy => h y (.tail _ hy)
    obtain ⟨c, d⟩ := h t (.head _)
    show PyData.strOk (t ++ ", " ++ Str.join ", " (u :: r)) = true ∧ (t ++ ", " ++ Str.join ", " (u :: r)).length ≤ _
    rw [strOk_append, strOk_append, Str.length_append, Str.length_append, a, c]
    have e : ((", " : String) : Str).length = 2 := rfl
    rw [e, lit1.1]
    refine ⟨rfl, ?_⟩
    simp only [List.length_cons] at b ⊢
    omega
theorem text_ok : ∀ {ts : List Str} {k : Nat} {acc : Str}, (∀ t ∈ ts, PyData.strOk t = true ∧ t.length ≤ 10) → PyData.strOk acc = true → PyData.strOk (textFrom k acc ts) = true ∧ (textFrom k acc ts).length ≤ acc.length + 12 * ts.length
  | [], _, _, _, h => ⟨h, Nat.le_refl _⟩
  | t :: r, k, acc, h, ha => by
    obtain ⟨c, d⟩ := h t (.head _)
    have e : PyData.strOk (acc ++ (if k > 0 then ", " else "" : String) ++ t) = true ∧ (acc ++ (if k > 0 then ", " else "" : String) ++ t).length ≤ acc.length + 2 + t.length := by
      rw [strOk_append, strOk_append, Str.length_append, Str.length_append, ha, c]
      by_cases hk : k > 0
      · rw [if_pos hk, lit1.1]; exact ⟨rfl, Nat.le_refl _⟩
      · have z : (("" : String) : Str).length = 0 := rfl
        rw [if_neg hk, lit1.2.1, z]
        exact ⟨rfl, by omega⟩
    obtain ⟨a, b⟩ := text_ok (ts := r) (k := k + 1) (fun y hy => h y (.tail _ hy)) e.1
    refine ⟨a, ?_⟩
    have := e.2
    show (textFrom (k + 1) _ r).length ≤ _
    simp only [List.length_cons]
    omega
theorem shw_tup {xs : List D} (h : ∀ x ∈ xs, shw 1 10 x = true) (hl : xs.length ≤ 800) : shw 2 10000 (.tup xs) = true := by
  obtain ⟨a, b, c, e, f⟩ := shws h
  obtain ⟨j1, j2⟩ := join_ok f
  simp only [shw, Bool.and_eq_true, decide_eq_true_eq, D.py, PyData.canLay0, PyData.showable, PyData.depth, PyData.shown, tupleText]
  refine ⟨a, b, by omega, ?_, ?_⟩
  · rw [strOk_append, strOk_append, j1, lit1.2.2.1]
    split
    · rw [lit1.2.2.2.2.1]; rfl
    · rw [lit1.2.2.2.1]; rfl
  · rw [Str.length_append, Str.length_append]
    have g : ∀ c : Bool, ((if c = true then ",)" else ")" : String) : Str).length ≤ 2 := by decide
    have g1 : ((("(" : String)) : Str).length = 1 := rfl
    have := g ((PyData.shownAll (D.pys xs)).length == 1)
    omega
theorem shw_lst {xs : List D} (h : ∀ x ∈ xs, shw 1 10 x = true) (hl : xs.length ≤ 800) : shw 2 10000 (.lst xs) = true := by
  obtain ⟨a, b, c, e, f⟩ := shws h
  obtain ⟨j1, j2⟩ := text_ok (k := 0) (acc := "[") f lit1.2.2.2.2.2.1
  simp only [shw, Bool.and_eq_true, decide_eq_true_eq, D.py, PyData.canLay0, PyData.showable, PyData.depth, PyData.shown, listText]
  refine ⟨a, b, by omega, ?_, ?_⟩
  · rw [strOk_append, j1, lit1.2.2.2.2.2.2]
    rfl
  · rw [Str.length_append]
    have g1 : ((("[" : String)) : Str).length = 1 := rfl
    have g2 : ((("]" : String)) : Str).length = 1 := rfl
    omega
def smalls : List D := [.bl true, .bl false, .non, .str "0", .lst [.int 0]] ++ (List.range 62).map (fun k => .int ((k : Int) - 1))
theorem smalls_ok : smalls.all (shw 1 10) = true := by decide +kernel
theorem small_shw {d : D} (h : d ∈ smalls) : shw 1 10 d = true := List.all_eq_true.mp smalls_ok d h
theorem small_int {i : Int} (h0 : -1 ≤ i) (h1 : i ≤ 60) : D.int i ∈ smalls := by
  refine List.mem_append_right _ (List.mem_map.mpr ⟨(i + 1).toNat, List.mem_range.mpr (by omega), ?_⟩)
  congr 1
  omega
end Mi

end
section
set_option linter.all false
set_option autoImplicit false
/-! open slots: plain mathematics -/
namespace Mi
def rgI (n : Nat) : List Int := (List.range n).map fun (k : Nat) => (k : Int)
theorem rgI_mem {n : Nat} {i : Int} : i ∈ rgI n ↔ 0 ≤ i ∧ i < n := by
  unfold rgI
  rw [List.mem_map]
  constructor
  · rintro ⟨k, hk, rfl⟩
    have := List.mem_range.mp hk
    omega
  · intro h
    exact ⟨i.toNat, List.mem_range.mpr (by omega), by omega⟩
theorem rgI_nodup (n : Nat) : (rgI n).Nodup := by
  unfold rgI
  rw [List.nodup_iff_pairwise_ne, List.pairwise_map]
  exact List.nodup_range.imp fun h e => h (by omega)
theorem rgI_lt (n : Nat) : (rgI n).Pairwise (· < ·) := by
  unfold rgI
  rw [List.pairwise_map]
  exact List.pairwise_lt_range.imp fun h => by omega
theorem rgI_len (n : Nat) : (rgI n).length = n := by simp [rgI]
theorem nd_len : ∀ {l l' : List Int}, l.Nodup → (∀ x ∈ l, x ∈ l') → l.length ≤ l'.length
  | [], _, _, _ => Nat.zero_le _
  | x :: l, l', h, hs => by
    rw [List.nodup_cons] at h
    have hx := hs x List.mem_cons_self
    have ih := nd_len (l := l) (l' := l'.erase x) h.2 fun z hz => (List.mem_erase_of_ne (fun e => h.1 (by rw [← e]; exact hz))).mpr (hs z (List.mem_cons_of_mem _ hz))
    rw [List.length_erase_of_mem hx] at ih
    have := List.length_pos_of_mem hx
    rw [List.length_cons]
    omega
/-- a book: n slots, a row of slots for each appointment -/
structure BkOk (n : Nat) (al : List (List Int)) : Prop where
  n1 : 1 ≤ n
  n60 : n ≤ 60
  len : al.length ≤ 60
  ne : ∀ l ∈ al, l ≠ []
  asc : ∀ l ∈ al, l.Pairwise (· < ·)
  rng : ∀ l ∈ al, ∀ x ∈ l, 0 ≤ x ∧ x < n
/-- a timetable of it -/
structure TtOk (al : List (List Int)) (tt : List Int) : Prop where
  len : tt.length = al.length
  nd : tt.Nodup
  may : ∀ (j : Nat) (l : List Int) (k : Int), al[j]? = some l → tt[j]? = some k → k ∈ l
/-- sorted lists without repetition are known by their items -/
theorem lt_unique : ∀ {l l' : List Int}, l.Pairwise (· < ·) → l'.Pairwise (· < ·) → (∀ x, x ∈ l ↔ x ∈ l') → l = l'
  | [], [], _, _, _ => rfl
  | [], x :: l', _, _, h => by have := (h x).mpr List.mem_cons_self; cases this
  | x :: l, [], _, _, h => by have := (h x).mp List.mem_cons_self; cases this
  | x :: l, y :: l', h1, h2, h => by
    rw [List.pairwise_cons] at h1 h2
    have e : x = y := by
      rcases List.mem_cons.mp ((h x).mp List.mem_cons_self) with e | e
      · exact e
      · rcases List.mem_cons.mp ((h y).mpr List.mem_cons_self) with e2 | e2
        · exact e2.symm
        · have a := h1.1 y e2
          have b := h2.1 x e
          omega
    subst e
    congr 1
    refine lt_unique h1.2 h2.2 fun z => ⟨fun hz => ?_, fun hz => ?_⟩
    · rcases List.mem_cons.mp ((h z).mp (List.mem_cons_of_mem _ hz)) with e | e
      · have := h1.1 z hz; omega
      · exact e
    · rcases List.mem_cons.mp ((h z).mpr (List.mem_cons_of_mem _ hz)) with e | e
      · have := h2.1 z hz; omega
      · exact e
theorem BkOk.row_len {n : Nat} {al : List (List Int)} (h : BkOk n al) {l : List Int} (hl : l ∈ al) : l.length ≤ n := by
  have hs : ∀ x ∈ l, x ∈ rgI n := fun x hx => rgI_mem.mpr (h.rng l hl x hx)
  have nd : l.Nodup := by
    rw [List.nodup_iff_pairwise_ne]
    exact (h.asc l hl).imp fun h e => by omega
  have := nd_len nd hs
  rwa [rgI_len] at this
theorem TtOk.in_rg {n : Nat} {al : List (List Int)} {tt : List Int} (h : BkOk n al) (t : TtOk al tt) : ∀ x ∈ tt, 0 ≤ x ∧ x < n := fun x hx => by
  obtain ⟨j, hj, e⟩ := List.getElem_of_mem hx
  have ja : j < al.length := by rw [← t.len]; exact hj
  exact h.rng al[j] (List.getElem_mem ja) x (t.may j _ x (List.getElem?_eq_getElem ja) (by rw [List.getElem?_eq_getElem hj, e]))
theorem TtOk.le_n {n : Nat} {al : List (List Int)} {tt : List Int} (h : BkOk n al) (t : TtOk al tt) : tt.length ≤ n := by
  have := nd_len t.nd fun x hx => rgI_mem.mpr (t.in_rg h x hx)
  rwa [rgI_len] at this
/-- open: free, or its appointment may use an open one -/
inductive Opn (n : Nat) (al : List (List Int)) (tt : List Int) : Int → Prop
  | free {s : Int} : 0 ≤ s → s < n → s ∉ tt → Opn n al tt s
  | step {s y : Int} {j : Nat} {l : List Int} : tt[j]? = some s → al[j]? = some l → y ∈ l → Opn n al tt y → Opn n al tt s
section
variable {n : Nat} {al : List (List Int)} {tt : List Int}
theorem Opn.rg (h : BkOk n al) (t : TtOk al tt) {s : Int} (o : Opn n al tt s) : 0 ≤ s ∧ s < n := by
  cases o with
  | free a b _ => exact ⟨a, b⟩
  | step e _ _ _ => exact t.in_rg h s (List.mem_of_getElem? e)
/-- a set of slots that the appointments in it can not leave holds no open slot -/
theorem tight_closed (S : Int → Prop) (occ : ∀ s, S s → s ∈ tt) (st : ∀ (j : Nat) (l : List Int) (s : Int), tt[j]? = some s → al[j]? = some l → S s → ∀ y ∈ l, S y) {s : Int} (o : Opn n al tt s) : ¬ S s := by
  induction o with
  | free _ _ hn => exact fun hs => hn (occ _ hs)
  | step e1 e2 hy _ ih => exact fun hs => ih (st _ _ _ e1 e2 hs _ hy)
/-- one move: the open slots stay -/
def mvd (tt : List Int) (j : Nat) (s : Int) : List Int := tt.set j s
theorem opn_move_sub (h : BkOk n al) (t : TtOk al tt) {j : Nat} {a b : Int} {l : List Int} (ha : tt[j]? = some a) (hl : al[j]? = some l) (hb : b ∈ l) (hf : b ∉ tt) {s : Int} (o : Opn n al (tt.set j b) s) : Opn n al tt s := by
  have jl : j < tt.length := (List.getElem?_eq_some_iff.mp ha).1
  have hbr := h.rng l (List.mem_of_getElem? hl) b hb
  have ob : Opn n al tt b := .free hbr.1 hbr.2 hf
  have oa : Opn n al tt a := .step ha hl hb ob
  induction o with
  | @free s h1 h2 h3 =>
    by_cases hs : s ∈ tt
    · obtain ⟨i, hi, e⟩ := List.getElem_of_mem hs
      by_cases hij : j = i
      · subst hij
        rw [List.getElem?_eq_getElem hi, e] at ha
        cases ha
        exact oa
      · exact absurd (List.mem_of_getElem? (show (tt.set j b)[i]? = some s by rw [List.getElem?_set_ne hij, List.getElem?_eq_getElem hi, e])) h3
    · exact .free h1 h2 hs
  | @step s y i r h1 h2 h3 _ ih =>
    by_cases hij : j = i
    · subst hij
      rw [List.getElem?_set_self jl] at h1
      cases h1
      exact ob
    · rw [List.getElem?_set_ne hij] at h1
      exact .step h1 h2 h3 ih
theorem TtOk.move (t : TtOk al tt) {j : Nat} {b : Int} {l : List Int} (hl : al[j]? = some l) (hb : b ∈ l) (hf : b ∉ tt) : TtOk al (tt.set j b) where
  len := by rw [List.length_set]; exact t.len
  nd := by
    rw [List.nodup_iff_pairwise_ne, List.pairwise_iff_getElem]
    intro i k hi hk hik
    have nd := List.pairwise_iff_getElem.mp (List.nodup_iff_pairwise_ne.mp t.nd)
    rw [List.length_set] at hi hk
    rw [List.getElem_set, List.getElem_set]
    split
    · split
      · omega
      · intro e; exact hf (by rw [e]; exact List.getElem_mem hk)
    · split
      · intro e; exact hf (by rw [← e]; exact List.getElem_mem hi)
      · exact nd i k hi hk hik
  may := fun i r k hr hk => by
    by_cases hij : j = i
    · subst hij
      have jl : j < (tt.set j b).length := (List.getElem?_eq_some_iff.mp hk).1
      rw [List.length_set] at jl
      rw [List.getElem?_set_self jl] at hk
      cases hk
      rw [hl] at hr
      cases hr
      exact hb
    · rw [List.getElem?_set_ne hij] at hk
      exact t.may i r k hr hk
theorem opn_move (h : BkOk n al) (t : TtOk al tt) {j : Nat} {a b : Int} {l : List Int} (ha : tt[j]? = some a) (hl : al[j]? = some l) (hb : b ∈ l) (hf : b ∉ tt) (s : Int) : Opn n al (tt.set j b) s ↔ Opn n al tt s := by
  refine ⟨opn_move_sub h t ha hl hb hf, fun o => ?_⟩
  have jl : j < tt.length := (List.getElem?_eq_some_iff.mp ha).1
  have hal := t.may j l a hl ha
  have t2 := t.move hl hb hf
  have naf : a ∉ tt.set j b := fun hm => by
    obtain ⟨i, hi, e⟩ := List.getElem_of_mem hm
    rw [List.length_set] at hi
    rw [List.getElem_set] at e
    split at e
    · subst e; exact hf (List.mem_of_getElem? ha)
    · rename_i hij
      have nd := List.pairwise_iff_getElem.mp (List.nodup_iff_pairwise_ne.mp t.nd)
      have ea : tt[j] = a := by rw [List.getElem?_eq_getElem jl] at ha; exact Option.some.inj ha
      rcases Nat.lt_or_gt_of_ne hij with g | g
      · exact nd j i jl hi g (by rw [ea, e])
      · exact nd i j hi jl g (by rw [ea, e])
  have hb2 : (tt.set j b)[j]? = some b := List.getElem?_set_self jl
  have e : (tt.set j b).set j a = tt := by
    refine List.ext_getElem? fun i => ?_
    by_cases hij : j = i
    · subst hij
      rw [List.getElem?_set_self (by rw [List.length_set]; exact jl), ha]
    · rw [List.getElem?_set_ne hij, List.getElem?_set_ne hij]
  exact opn_move_sub h t2 hb2 hl hal naf (by rw [e]; exact o)
/-- being open or not, by appointment -/
theorem opn_at_move (h : BkOk n al) (t : TtOk al tt) {j : Nat} {a b : Int} {l : List Int} (ha : tt[j]? = some a) (hl : al[j]? = some l) (hb : b ∈ l) (hf : b ∉ tt) {i : Nat} {x y : Int} (hx : tt[i]? = some x) (hy : (tt.set j b)[i]? = some y) : Opn n al (tt.set j b) y ↔ Opn n al tt x := by
  rw [opn_move h t ha hl hb hf]
  have hbr := h.rng l (List.mem_of_getElem? hl) b hb
  have ob : Opn n al tt b := .free hbr.1 hbr.2 hf
  by_cases hij : j = i
  · subst hij
    rw [List.getElem?_set_self (List.getElem?_eq_some_iff.mp ha).1] at hy
    cases hy
    rw [ha] at hx
    cases hx
    exact ⟨fun _ => .step ha hl hb ob, fun _ => ob⟩
  · rw [List.getElem?_set_ne hij, hx] at hy
    cases hy
    exact Iff.rfl
end
open Classical in
/-- the open slots -/
noncomputable def opnL (n : Nat) (al : List (List Int)) (tt : List Int) : List Int := (rgI n).filter fun s => decide (Opn n al tt s)
theorem opnL_lt (n : Nat) (al : List (List Int)) (tt : List Int) : (opnL n al tt).Pairwise (· < ·) := (rgI_lt n).filter _
theorem opnL_mem {n : Nat} {al : List (List Int)} {tt : List Int} (h : BkOk n al) (t : TtOk al tt) {s : Int} : s ∈ opnL n al tt ↔ Opn n al tt s := by
  unfold opnL
  rw [List.mem_filter]
  simp only [decide_eq_true_eq]
  exact ⟨fun a => a.2, fun a => ⟨rgI_mem.mpr (a.rg h t), a⟩⟩
end Mi

end
section
set_option linter.all false
set_option autoImplicit false
set_option maxRecDepth 20000
/-! a calculus of ends over the mirror -/
namespace Mi
open PySem PySem.Spec
/-! ### running -/
section
variable {α β : Type}
theorem bind_cg {x x' : Res α} {f : α → Env → Res β} (h : x = x') : x.bind f = x'.bind f := by rw [h]
theorem out_cg {x x' : Res α} {f : α → Env → Out} (h : x = x') : x.out f = x'.out f := by rw [h]
theorem bind_out (x : Res α) (f : α → Env → Res β) (g : β → Env → Out) : (x.bind f).out g = x.out fun a δ => (f a δ).out g := by cases x <;> rfl
theorem bind_bind {γ : Type} (x : Res α) (f : α → Env → Res β) (g : β → Env → Res γ) : (x.bind f).bind g = x.bind fun a δ => (f a δ).bind g := by cases x <;> rfl
end
def Out.seq (o : Out) (r : Sm) : Out := match o with
  | .nx δ1 => r δ1
  | o => o
theorem sSeq_eq (a r : Sm) (δ : Env) : sSeq a r δ = (a δ).seq r := rfl
theorem sq_asg (t : Tg) (e : Ex) (r : Sm) (δ : Env) : sSeq (sAsg t e) r δ = (e δ).out fun d δ1 => match t.put d δ1 with
  | some δ2 => r δ2
  | none => .bad := by
  unfold sSeq sAsg
  cases e δ with
  | ok d δ1 => simp only [Res.out_ok]; cases t.put d δ1 <;> rfl
  | exc c d δ1 => rfl
  | bad => rfl
theorem sq_do (e : Ex) (r : Sm) (δ : Env) : sSeq (sDo e) r δ = (e δ).out fun _ δ1 => r δ1 := by
  unfold sSeq sDo
  cases e δ <;> rfl
theorem sq_ret (e : Ex) (r : Sm) (δ : Env) : sSeq (sRet e) r δ = sRet e δ := by
  unfold sSeq sRet
  cases e δ <;> rfl
theorem sq_raise (c : Str) (e : Ex) (r : Sm) (δ : Env) : sSeq (sRaise c e) r δ = sRaise c e δ := by
  unfold sSeq sRaise
  cases e δ <;> rfl
theorem sq_seq (a b r : Sm) (δ : Env) : sSeq (sSeq a b) r δ = sSeq a (sSeq b r) δ := by
  unfold sSeq
  cases a δ <;> rfl
theorem sq_pass (r : Sm) (δ : Env) : sSeq sPass r δ = r δ := rfl
theorem sq_ct (r : Sm) (δ : Env) : sSeq sCt r δ = .ct δ := rfl
theorem sq_bk (r : Sm) (δ : Env) : sSeq sBk r δ = .bk δ := rfl
theorem sq_if (c : Ex) (a b r : Sm) (δ : Env) : sSeq (sIf c a b) r δ = (c δ).out fun x δ1 => match x with
  | .bl true => sSeq a r δ1
  | .bl false => sSeq b r δ1
  | _ => .bad := by
  rw [sSeq_eq, show sIf c a b δ = (c δ).out fun x δ1 => match x with
    | .bl true => a δ1
    | .bl false => b δ1
    | _ => .bad from rfl]
  cases c δ with
  | ok d δ1 =>
    cases d with
    | bl b => cases b <;> rfl
    | _ => rfl
  | exc c d δ1 => rfl
  | bad => rfl
/-- what follows an own list's growth -/
theorem sq_app (i : Nat) (e : Ex) (r : Sm) (δ : Env) : sSeq (sApp i e) r δ = if isL i δ = true then (e δ).out fun d δ1 => (eV i δ1).out fun x δ2 => match x with
  | .lst xs => if xs.length < cap then r (δ2.set i (some (.lst (xs ++ [d])))) else .bad
  | _ => .bad
  else .bad := by
  rw [sSeq_eq, show sApp i e δ = if isL i δ = true then (e δ).out fun d δ1 => (eV i δ1).out fun x δ2 => match x with
    | .lst xs => if xs.length < cap then .nx (δ2.set i (some (.lst (xs ++ [d])))) else .bad
    | _ => .bad
    else .bad from rfl]
  by_cases h : isL i δ = true
  · rw [if_pos h, if_pos h]
    cases e δ with
    | ok d δ1 =>
      simp only [Res.out_ok]
      cases eV i δ1 with
      | ok x δ2 =>
        simp only [Res.out_ok]
        cases x with
        | lst xs => simp only; by_cases h2 : xs.length < cap <;> simp only [h2, if_true, if_false] <;> rfl
        | _ => rfl
      | exc c d δ1 => rfl
      | bad => rfl
    | exc c d δ1 => rfl
    | bad => rfl
  · rw [if_neg h, if_neg h]; rfl
theorem sq_setI (i : Nat) (k e : Ex) (r : Sm) (δ : Env) : sSeq (sSetI i k e) r δ = (e δ).out fun v δ1 => (k δ1).out fun kk δ2 => (eV i δ2).out fun x δ3 => match x, kk with
  | .lst xs, .int j => (match ixD xs.length j with
    | some m => r (δ3.set i (some (.lst (xs.set m v))))
    | none => .bad)
  | _, _ => .bad := by
  rw [sSeq_eq, show sSetI i k e δ = (e δ).out fun v δ1 => (k δ1).out fun kk δ2 => (eV i δ2).out fun x δ3 => match x, kk with
    | .lst xs, .int j => (match ixD xs.length j with
      | some m => .nx (δ3.set i (some (.lst (xs.set m v))))
      | none => .bad)
    | _, _ => .bad from rfl]
  cases e δ with
  | ok v δ1 =>
    simp only [Res.out_ok]
    cases k δ1 with
    | ok kk δ2 =>
      simp only [Res.out_ok]
      cases eV i δ2 with
      | ok x δ3 =>
        simp only [Res.out_ok]
        cases x with
        | lst xs =>
          cases kk with
          | int j => simp only; cases ixD xs.length j <;> rfl
          | _ => rfl
        | _ => rfl
      | exc c d δ1 => rfl
      | bad => rfl
    | exc c d δ1 => rfl
    | bad => rfl
  | exc c d δ1 => rfl
  | bad => rfl
theorem sq_setK (i : Nat) (k e : Ex) (r : Sm) (δ : Env) : sSeq (sSetK i k e) r δ = (e δ).out fun v δ1 => (k δ1).out fun kk δ2 => (eV i δ2).out fun x δ3 => match x, keyD kk with
  | .dic ds, some q => if ds.length < cap then r (δ3.set i (some (.dic (putM ds q v)))) else .bad
  | _, _ => .bad := by
  rw [sSeq_eq, show sSetK i k e δ = (e δ).out fun v δ1 => (k δ1).out fun kk δ2 => (eV i δ2).out fun x δ3 => match x, keyD kk with
    | .dic ds, some q => if ds.length < cap then .nx (δ3.set i (some (.dic (putM ds q v)))) else .bad
    | _, _ => .bad from rfl]
  cases e δ with
  | ok v δ1 =>
    simp only [Res.out_ok]
    cases k δ1 with
    | ok kk δ2 =>
      simp only [Res.out_ok]
      cases eV i δ2 with
      | ok x δ3 =>
        simp only [Res.out_ok]
        cases x with
        | dic ds =>
          cases keyD kk with
          | some q => simp only; by_cases h2 : ds.length < cap <;> simp only [h2, if_true, if_false] <;> rfl
          | none => rfl
        | _ => rfl
      | exc c d δ1 => rfl
      | bad => rfl
    | exc c d δ1 => rfl
    | bad => rfl
  | exc c d δ1 => rfl
  | bad => rfl
/-! ### turns -/
/-- a turn's end: I what holds for the next turn, B behind the loop, P at the def's end; as instances, which simp leaves alone -/
class Ends3 where
  I : Env → Prop
  B : Env → Prop
  P : Out → Prop
class Inv1 where
  I : Env → Prop
structure Hold [v : Inv1] (δ : Env) : Prop where
  h : v.I δ
theorem hd {v : Inv1} {δ : Env} (h : v.I δ) : @Hold v δ := @Hold.mk v δ h
def Turn0 (I B : Env → Prop) (P : Out → Prop) : Out → Prop
  | .nx δ => I δ
  | .ct δ => I δ
  | .bk δ => B δ
  | .rt d δ => P (.rt d δ)
  | .exc c d δ => P (.exc c d δ)
  | .bad => False
structure Turn [v : Ends3] (o : Out) : Prop where
  run : Turn0 v.I v.B v.P o
theorem Turn.go {v : Ends3} {o : Out} (h : @Turn v o) : Turn0 v.I v.B v.P o := @Turn.run v o h
section
variable {v : Ends3} {δ : Env}
@[simp] theorem Turn_nx : Turn (.nx δ) ↔ @Hold ⟨v.I⟩ δ := ⟨fun h => @Hold.mk ⟨v.I⟩ δ h.run, fun h => ⟨@Hold.h ⟨v.I⟩ δ h⟩⟩
@[simp] theorem Turn_ct : Turn (.ct δ) ↔ @Hold ⟨v.I⟩ δ := ⟨fun h => @Hold.mk ⟨v.I⟩ δ h.run, fun h => ⟨@Hold.h ⟨v.I⟩ δ h⟩⟩
@[simp] theorem Turn_bk : Turn (.bk δ) ↔ v.B δ := ⟨fun h => h.run, fun h => ⟨h⟩⟩
@[simp] theorem Turn_rt {d : D} : Turn (.rt d δ) ↔ v.P (.rt d δ) := ⟨fun h => h.run, fun h => ⟨h⟩⟩
@[simp] theorem Turn_exc {c : Str} {d : D} : Turn (.exc c d δ) ↔ v.P (.exc c d δ) := ⟨fun h => h.run, fun h => ⟨h⟩⟩
@[simp] theorem Turn_bad : Turn .bad ↔ False := ⟨fun h => h.run, fun h => h.elim⟩
end
/-- slots set anew -/
def stE : Env → List (Nat × Option D) → Env
  | δ, [] => δ
  | δ, (i, x) :: r => stE (δ.set i x) r
/-- ds is what f makes of the items of as -/
def Its {α : Type} (ds : List D) (as : List α) (f : Nat → α → D) : Prop := ds.length = as.length ∧ ∀ i a, as[i]? = some a → ds[i]? = some (f i a)
theorem its_map {α : Type} {as : List α} {f : α → D} : Its (as.map f) as fun _ => f := ⟨by simp, fun i a h => by simp [h]⟩
theorem enum_get0 : ∀ {xs : List D} {k j : Nat} {x : D}, xs[j]? = some x → (enumD k xs)[j]? = some (.tup [.int ((k + j : Nat) : Int), x])
  | [], _, _, _, h => by simp at h
  | x :: xs, k, 0, d, h => by simp at h; simp [enumD, h]
  | x :: xs, k, j + 1, d, h => by
    rw [enumD, List.getElem?_cons_succ, enum_get0 (by simpa using h)]
    congr 4; omega
theorem its_enum {α : Type} {as : List α} {f : α → D} : Its (enumD 0 (as.map f)) as fun i a => .tup [.int (i : Int), f a] := ⟨by rw [enumD_length]; simp, fun i a h => by
  have := enum_get0 (xs := as.map f) (k := 0) (j := i) (x := f a) (by simp [h])
  rw [this]; simp⟩
theorem its_rng {lo : Int} {n : Nat} : Its (rng lo n) (List.range n) fun i _ => .int (lo + i) := ⟨by simp [rng], fun i a h => by
  have h1 := (List.getElem?_eq_some_iff.mp h).1
  rw [List.length_range] at h1
  exact rng_get h1⟩
theorem its_zip {α β : Type} {as : List α} {bs : List β} {f : α → D} {g : β → D} : Its (zip2 (as.map f) (bs.map g)) (as.zip bs) fun _ p => .tup [f p.1, g p.2] := ⟨by rw [zip2_length]; simp, fun i p h => by
  rw [List.getElem?_zip_eq_some] at h
  exact zip2_get (by simp [h.1]) (by simp [h.2])⟩
theorem its_zip3 {α β γ : Type} {as : List α} {bs : List β} {cs : List γ} {f : α → D} {g : β → D} {h : γ → D} : Its (zip3 (as.map f) (bs.map g) (cs.map h)) (as.zip (bs.zip cs)) fun _ p => .tup [f p.1, g p.2.1, h p.2.2] := ⟨by rw [zip3_length]; simp [Nat.min_assoc], fun i p e => by
  rw [List.getElem?_zip_eq_some, List.getElem?_zip_eq_some] at e
  exact zip3_get (by simp [e.1]) (by simp [e.2.1]) (by simp [e.2.2])⟩
section
variable {P : Out → Prop}
theorem forL_inv {α : Type} {t : Tg} {b r : Sm} {ds : List D} {as : List α} {f : Nat → α → D} (I : Nat → Env → Prop) (hd : Its ds as f)
    (hs : ∀ i a δ2, as[i]? = some a → I i δ2 → ∃ δ3, t.put (f i a) δ2 = some δ3 ∧ @Turn ⟨I (i + 1), fun δ => P (r δ), P⟩ (b δ3)) (hn : ∀ δ2, I as.length δ2 → P (r δ2)) {δ : Env} (h0 : I 0 δ) : P (sSeq (forL t b ds) r δ) := by
  have key : ∀ (q : List D) (i : Nat) (δ : Env), (∀ j, q[j]? = ds[i + j]?) → i + q.length = as.length → I i δ → P (sSeq (forL t b q) r δ) := by
    intro q
    induction q with
    | nil => intro i δ _ hl hi; exact hn δ (by rw [List.length_nil, Nat.add_zero] at hl; rw [← hl]; exact hi)
    | cons d q ih =>
      intro i δ hr hl hi
      rw [List.length_cons] at hl
      have hlt : i < as.length := by omega
      have ha : as[i]? = some as[i] := List.getElem?_eq_getElem hlt
      have hdi : d = f i as[i] := by
        have h1 := hd.2 i _ ha
        have h2 := hr 0
        simp only [List.getElem?_cons_zero, Nat.add_zero] at h2
        rw [h1] at h2
        exact Option.some.inj h2
      obtain ⟨δ3, e1, h3⟩ := hs i _ δ ha hi
      rw [← hdi] at e1
      have nxt : ∀ δ4, I (i + 1) δ4 → P (sSeq (forL t b q) r δ4) := fun δ4 h4 => ih (i + 1) δ4 (fun j => by have := hr (j + 1); rw [show i + 1 + j = i + (j + 1) by omega]; simpa using this) (by omega) h4
      unfold sSeq forL
      simp only [e1]
      unfold sSeq at nxt
      have h3 := Turn.go h3
      cases eb : b δ3 with
      | nx δ4 => rw [eb] at h3; exact nxt δ4 h3
      | ct δ4 => rw [eb] at h3; exact nxt δ4 h3
      | bk δ4 => rw [eb] at h3; exact h3
      | rt d δ4 => rw [eb] at h3; exact h3
      | exc c d δ4 => rw [eb] at h3; exact h3
      | bad => rw [eb] at h3; exact h3.elim
  exact key ds 0 δ (fun j => by simp) (by rw [Nat.zero_add]; exact hd.1) h0
/-- for, and what follows -/
theorem q_for {α : Type} {it : ItE} {t : Tg} {b r : Sm} {δ δ1 : Env} {ds : List D} {as : List α} {f : Nat → α → D} (hit : it δ = .ok ds δ1) (hd : Its ds as f) (I : Env → Nat → Env → Prop)
    (h0 : I δ1 0 δ1) (hs : ∀ i a δ2, as[i]? = some a → I δ1 i δ2 → ∃ δ3, t.put (f i a) δ2 = some δ3 ∧ @Turn ⟨I δ1 (i + 1), fun δ => P (r δ), P⟩ (b δ3)) (hn : ∀ δ2, I δ1 as.length δ2 → P (r δ2)) : P (sSeq (sFor it t b) r δ) := by
  have h := forL_inv (P := P) (I δ1) hd hs hn h0
  unfold sSeq sFor at *
  rw [hit]
  exact h
/-- for, the last statement of a body -/
theorem q_for0 {α : Type} {it : ItE} {t : Tg} {b : Sm} {δ δ1 : Env} {ds : List D} {as : List α} {f : Nat → α → D} (hit : it δ = .ok ds δ1) (hd : Its ds as f) (I : Env → Nat → Env → Prop)
    (h0 : I δ1 0 δ1) (hs : ∀ i a δ2, as[i]? = some a → I δ1 i δ2 → ∃ δ3, t.put (f i a) δ2 = some δ3 ∧ @Turn ⟨I δ1 (i + 1), fun δ => P (.nx δ), P⟩ (b δ3)) (hn : ∀ δ2, I δ1 as.length δ2 → P (.nx δ2)) : P (sFor it t b δ) := by
  have h := q_for (P := P) (r := sPass) hit hd I h0 hs hn
  have e : sSeq (sFor it t b) sPass δ = sFor it t b δ := by
    unfold sSeq sPass
    cases sFor it t b δ <;> rfl
  rw [← e]
  exact h
/-- while, and what follows; the number falls -/
theorem q_while {c : Ex} {b r : Sm} {δ : Env} (I : Env → Nat → Env → Prop) (n : Nat) (h0 : I δ n δ) (hs : ∀ n δ2, I δ n δ2 → ∃ k δ3, c δ2 = .ok (.bl k) δ3 ∧ (k = true → @Turn ⟨fun δ4 => ∃ m, m < n ∧ I δ m δ4, fun δ => P (r δ), P⟩ (b δ3)) ∧ (k = false → P (r δ3))) :
    P (sSeq (sWhile c b) r δ) := by
  have key : ∀ n δ2, I δ n δ2 → ∃ k o, whN c b k δ2 = some o ∧ P (match o with | .nx δ1 => r δ1 | o => o) := by
    intro n
    induction n using Nat.strongRecOn with
    | _ n ih =>
      intro δ2 hi
      obtain ⟨k, δ3, ec, ht, hf⟩ := hs n δ2 hi
      cases k with
      | false => exact ⟨1, .nx δ3, by simp [whN, ec], hf rfl⟩
      | true =>
        have ht := Turn.go (ht rfl)
        cases eb : b δ3 with
        | nx δ4 =>
          rw [eb] at ht
          obtain ⟨m, hm, hI⟩ := ht
          obtain ⟨k, o, h1, h2⟩ := ih m hm δ4 hI
          exact ⟨k + 1, o, by simp [whN, ec, eb, h1], h2⟩
        | ct δ4 =>
          rw [eb] at ht
          obtain ⟨m, hm, hI⟩ := ht
          obtain ⟨k, o, h1, h2⟩ := ih m hm δ4 hI
          exact ⟨k + 1, o, by simp [whN, ec, eb, h1], h2⟩
        | bk δ4 => rw [eb] at ht; exact ⟨1, .nx δ4, by simp [whN, ec, eb], ht⟩
        | rt d δ4 => rw [eb] at ht; exact ⟨1, .rt d δ4, by simp [whN, ec, eb], ht⟩
        | exc x d δ4 => rw [eb] at ht; exact ⟨1, .exc x d δ4, by simp [whN, ec, eb], ht⟩
        | bad => rw [eb] at ht; exact ht.elim
  obtain ⟨k, o, h1, h2⟩ := key n δ h0
  unfold sSeq
  rw [sWhile_of h1]
  exact h2
theorem q_while0 {c : Ex} {b : Sm} {δ : Env} (I : Env → Nat → Env → Prop) (n : Nat) (h0 : I δ n δ) (hs : ∀ n δ2, I δ n δ2 → ∃ k δ3, c δ2 = .ok (.bl k) δ3 ∧ (k = true → @Turn ⟨fun δ4 => ∃ m, m < n ∧ I δ m δ4, fun δ => P (.nx δ), P⟩ (b δ3)) ∧ (k = false → P (.nx δ3))) :
    P (sWhile c b δ) := by
  have h := q_while (P := P) (r := sPass) I n h0 hs
  have e : sSeq (sWhile c b) sPass δ = sWhile c b δ := by
    unfold sSeq sPass
    cases sWhile c b δ <;> rfl
  rw [← e]
  exact h
/-- any statement by what is known of its end -/
theorem q_mono {Q : Out → Prop} {o : Out} (h : Q o) (i : Q o → P o) : P o := i h
end
/-- a test's answer -/
def CW0 (T F : Env → Prop) : Res D → Prop
  | .ok (.bl true) δ => T δ
  | .ok (.bl false) δ => F δ
  | _ => False
class Two where
  T : Env → Prop
  F : Env → Prop
structure CW [v : Two] (x : Res D) : Prop where
  run : CW0 v.T v.F x
@[simp] theorem CW_ok {v : Two} {k : Bool} {δ : Env} : CW (.ok (.bl k) δ) ↔ (k = true → v.T δ) ∧ (k = false → v.F δ) := by
  constructor
  · intro h; have := h.run; cases k
    · exact ⟨fun z => Bool.noConfusion z, fun _ => this⟩
    · exact ⟨fun _ => this, fun z => Bool.noConfusion z⟩
  · intro h; cases k
    · exact ⟨h.2 rfl⟩
    · exact ⟨h.1 rfl⟩
theorem CW.ok {v : Two} {x : Res D} (h : CW x) : ∃ k δ, x = .ok (.bl k) δ ∧ (k = true → v.T δ) ∧ (k = false → v.F δ) := by
  cases x with
  | ok d δ =>
    cases d with
    | bl k => exact ⟨k, δ, rfl, CW_ok.mp h⟩
    | _ => exact h.run.elim
  | exc c d δ => exact h.run.elim
  | bad => exact h.run.elim
theorem w_while {P : Out → Prop} {c : Ex} {b r : Sm} {δ : Env} (I : Env → Nat → Env → Prop) (n : Nat) (h0 : I δ n δ) (hs : ∀ n δ2, I δ n δ2 → @CW ⟨fun δ3 => @Turn ⟨fun δ4 => ∃ m, m < n ∧ I δ m δ4, fun δ => P (r δ), P⟩ (b δ3), fun δ3 => P (r δ3)⟩ (c δ2)) :
    P (sSeq (sWhile c b) r δ) := q_while I n h0 fun n δ2 h => (hs n δ2 h).ok
theorem w_while0 {P : Out → Prop} {c : Ex} {b : Sm} {δ : Env} (I : Env → Nat → Env → Prop) (n : Nat) (h0 : I δ n δ) (hs : ∀ n δ2, I δ n δ2 → @CW ⟨fun δ3 => @Turn ⟨fun δ4 => ∃ m, m < n ∧ I δ m δ4, fun δ => P (.nx δ), P⟩ (b δ3), fun δ3 => P (.nx δ3)⟩ (c δ2)) :
    P (sWhile c b δ) := q_while0 I n h0 fun n δ2 h => (hs n δ2 h).ok
theorem FEnd_cg {own : List Nat} {Q : Fr → Prop} {o o' : Out} (h : o = o') : FEnd own Q o = FEnd own Q o' := by rw [h]
theorem sSeq_cg {a r : Sm} {δ δ' : Env} (h : δ = δ') : sSeq a r δ = sSeq a r δ' := by rw [h]
/-! ### comprehensions that change nothing -/
def okV (x : Res D) (δ : Env) : Prop := ∃ d, x = .ok d δ
def getV : Res D → D
  | .ok d _ => d
  | _ => .non
def getB : Res D → Bool
  | .ok (.bl b) _ => b
  | _ => false
def okB (x : Res D) (δ : Env) : Prop := ∃ b, x = .ok (.bl b) δ
@[simp] theorem getV_ok (d : D) (δ : Env) : getV (.ok d δ) = d := rfl
@[simp] theorem getB_ok (b : Bool) (δ : Env) : getB (.ok (.bl b) δ) = b := rfl
@[simp] theorem okV_ok (d : D) (δ : Env) : okV (.ok d δ) δ ↔ True := ⟨fun _ => trivial, fun _ => ⟨d, rfl⟩⟩
@[simp] theorem okB_ok (b : Bool) (δ : Env) : okB (.ok (.bl b) δ) δ ↔ True := ⟨fun _ => trivial, fun _ => ⟨b, rfl⟩⟩
theorem set_wipe1 (δ : Env) (i : Nat) (x : Option D) : (wipeE (δ.set i x) [i]) = wipeE δ [i] := by
  simp [wipeE, List.set_set]
theorem rest_self : ∀ (vs : List Nat) (δ0 δ : Env), δ.length = δ0.length → (∀ i, i ∉ vs → δ[i]? = δ0[i]?) → restE δ0 vs δ = δ0 := fun vs δ0 δ hl h => by
  refine List.ext_getElem? fun i => ?_
  by_cases hi : i ∈ vs
  · by_cases hb : i < δ.length
    · rw [restE_in hb hi]
      have hb0 : i < δ0.length := by omega
      rw [List.getElem?_eq_getElem hb0]
      rfl
    · rw [List.getElem?_eq_none (by rw [restE_length]; omega), List.getElem?_eq_none (by omega)]
  · rw [restE_out hi, h i hi]
/-- one name -/
theorem lc_pure1 {α : Type} {it : ItE} {j : Nat} {c : Option Ex} {e : Ex} {δ δ1 : Env} {as : List α} {f : α → D} (hit : it δ = .ok (as.map f) δ1) (hl : as.length ≤ cap)
    (hp : ∀ a ∈ as, okB (tstC c (δ1.set j (some (f a)))) (δ1.set j (some (f a))) ∧ (getB (tstC c (δ1.set j (some (f a)))) = true → okV (e (δ1.set j (some (f a)))) (δ1.set j (some (f a))))) :
    eLc it (.n j) [j] c e δ = .ok (.lst ((as.filter fun a => getB (tstC c (δ1.set j (some (f a))))).map fun a => getV (e (δ1.set j (some (f a)))))) δ1 := by
  have key : ∀ (q : List α), (∀ a ∈ q, a ∈ as) → ∀ x : Option D, ∃ y : Option D, lcL (.n j) [j] c e (q.map f) (δ1.set j x) = .ok ((q.filter fun a => getB (tstC c (δ1.set j (some (f a))))).map fun a => getV (e (δ1.set j (some (f a))))) (δ1.set j y) := by
    intro q
    induction q with
    | nil => intro _ x; exact ⟨x, rfl⟩
    | cons a q ih =>
      intro hq x
      obtain ⟨⟨b, eb⟩, h2⟩ := hp a (hq a List.mem_cons_self)
      obtain ⟨y, hy⟩ := ih (fun z hz => hq z (List.mem_cons_of_mem _ hz)) (some (f a))
      refine ⟨y, ?_⟩
      have ew : (wipeE (δ1.set j x) [j]).set j (some (f a)) = δ1.set j (some (f a)) := by simp [wipeE, List.set_set]
      rw [List.map_cons]
      unfold lcL
      simp only [Tg.put, ew]
      rw [eb]
      cases b with
      | true =>
        obtain ⟨v, ev⟩ := h2 (by rw [eb]; rfl)
        simp only [ev, hy]
        rw [List.filter_cons_of_pos (by rw [eb]; rfl), List.map_cons, ev]
        rfl
      | false =>
        simp only [hy]
        rw [List.filter_cons_of_neg (by rw [eb]; exact Bool.false_ne_true)]
  have e0 : δ1 = δ1.set j (δ1[j]?.getD none) := by
    refine List.ext_getElem? fun i => ?_
    by_cases hi : j = i
    · subst hi
      by_cases hb : j < δ1.length
      · rw [List.getElem?_set_self hb, List.getElem?_eq_getElem hb]; rfl
      · rw [List.getElem?_eq_none (by omega), List.getElem?_eq_none (by simp; omega)]
    · rw [List.getElem?_set_ne hi]
  obtain ⟨y, hy⟩ := key as (fun _ h => h) (δ1[j]?.getD none)
  rw [← e0] at hy
  unfold eLc
  rw [hit]
  simp only [Res.bind_ok, List.length_map, hl, if_true, hy]
  rw [rest_self [j] δ1 (δ1.set j y) (by simp) (fun i hi => List.getElem?_set_ne (by simp at hi; omega))]
/-! the same, found by simp -/
def itD (x : Res (List D)) : List D := match x with
  | .ok ds _ => ds
  | _ => []
def okI (x : Res (List D)) (δ : Env) : Prop := ∃ ds, x = .ok ds δ
@[simp] theorem itD_ok (ds : List D) (δ : Env) : itD (.ok ds δ) = ds := rfl
@[simp] theorem okI_ok (ds : List D) (δ : Env) : okI (.ok ds δ) δ ↔ True := ⟨fun _ => trivial, fun _ => ⟨ds, rfl⟩⟩
theorem lc_s {it : ItE} {j : Nat} {c : Option Ex} {e : Ex} {δ : Env} (hit : okI (it δ) δ) (hl : (itD (it δ)).length ≤ cap)
    (hp : ∀ d ∈ itD (it δ), okB (tstC c (δ.set j (some d))) (δ.set j (some d)) ∧ (getB (tstC c (δ.set j (some d))) = true → okV (e (δ.set j (some d))) (δ.set j (some d)))) :
    eLc it (.n j) [j] c e δ = .ok (.lst (((itD (it δ)).filter fun d => getB (tstC c (δ.set j (some d)))).map fun d => getV (e (δ.set j (some d))))) δ := by
  obtain ⟨ds, hds⟩ := hit
  rw [hds] at hl hp ⊢
  have h := lc_pure1 (α := D) (f := id) (it := it) (j := j) (c := c) (e := e) (δ := δ) (δ1 := δ) (as := ds) (by rw [hds, List.map_id]) hl hp
  simpa using h
/-- a comprehension at the head -/
theorem o_lc {P : Out → Prop} {α : Type} {it : ItE} {j : Nat} {c : Option Ex} {e : Ex} {δ δ1 : Env} {as : List α} {f : α → D} {k : D → Env → Out} (hit : it δ = .ok (as.map f) δ1) (hl : as.length ≤ cap)
    (hp : ∀ a ∈ as, okB (tstC c (δ1.set j (some (f a)))) (δ1.set j (some (f a))) ∧ (getB (tstC c (δ1.set j (some (f a)))) = true → okV (e (δ1.set j (some (f a)))) (δ1.set j (some (f a)))))
    (h : P (k (.lst ((as.filter fun a => getB (tstC c (δ1.set j (some (f a))))).map fun a => getV (e (δ1.set j (some (f a)))))) δ1)) : P ((eLc it (.n j) [j] c e δ).out k) := by
  rw [lc_pure1 hit hl hp]
  exact h


/-! the combinators, applied -/
section
variable (δ : Env)
theorem x_V (i : Nat) : eV i δ = match δ[i]? with | some (some d) => .ok d δ | _ => .bad := rfl
theorem x_C (d : D) : eC d δ = .ok d δ := rfl
theorem x_1 (op : D → Option D) (a : Ex) : Mi.e1 op a δ = (a δ).bind fun x δ1 => Res.opt (op x) δ1 := rfl
theorem x_2 (op : D → D → Option D) (a b : Ex) : Mi.e2 op a b δ = (a δ).bind fun x δ1 => (b δ1).bind fun y δ2 => Res.opt (op x y) δ2 := rfl
theorem x_O2 (op : D → D → Option D) (i : Nat) (b : Ex) : eO2 op i b δ = (b δ).bind fun y δ1 => (eV i δ1).bind fun x δ2 => Res.opt (op x y) δ2 := rfl
theorem x_P0 : eP none δ = .ok none δ := rfl
theorem x_P1 (f : Ex) : eP (some f) δ = (f δ).bind fun y δ1 => match y with | .int i => .ok (some i) δ1 | _ => .bad := rfl
theorem x_3 (op : D → Option Int → Option Int → Option D) (a : Ex) (l h : Option Ex) : e3 op a l h δ = (a δ).bind fun x δ1 => (eP l δ1).bind fun y δ2 => (eP h δ2).bind fun z δ3 => Res.opt (op x y z) δ3 := rfl
theorem x_O3 (op : D → Option Int → Option Int → Option D) (i : Nat) (l h : Option Ex) : eO3 op i l h δ = (eP l δ).bind fun y δ1 => (eP h δ1).bind fun z δ2 => (eV i δ2).bind fun x δ3 => Res.opt (op x y z) δ3 := rfl
theorem x_T (a : Ex) (f : Bool → Env → Res D) : eT a f δ = (a δ).bind fun x δ1 => (Res.opt (truth x) δ1).bind f := rfl
theorem x_And (a b : Ex) : eAnd a b δ = (a δ).bind fun x δ1 => (Res.opt (truth x) δ1).bind fun c δ => if c = true then b δ else .ok (.bl false) δ := rfl
theorem x_Or (a b : Ex) : eOr a b δ = (a δ).bind fun x δ1 => (Res.opt (truth x) δ1).bind fun c δ => if c = true then .ok (.bl true) δ else b δ := rfl
theorem x_Not (a : Ex) : eNot a δ = (a δ).bind fun x δ1 => (Res.opt (truth x) δ1).bind fun c δ => .ok (.bl (!c)) δ := rfl
theorem x_If (c a b : Ex) : eIf c a b δ = (c δ).bind fun x δ1 => (Res.opt (truth x) δ1).bind fun k δ => if k = true then a δ else b δ := rfl
theorem x_L0 : eL [] δ = .ok [] δ := rfl
theorem x_L1 (a : Ex) (r : List Ex) : eL (a :: r) δ = (a δ).bind fun x δ1 => (eL r δ1).bind fun xs δ2 => .ok (x :: xs) δ2 := rfl
theorem x_Tup (as : List Ex) : eTup as δ = (eL as δ).bind fun xs δ1 => .ok (.tup xs) δ1 := rfl
theorem x_Lst (as : List Ex) : eLst as δ = (eL as δ).bind fun xs δ1 => .ok (.lst xs) δ1 := rfl
theorem x_Ch (o1 o2 : D → D → Option D) (a b c : Ex) : eCh o1 o2 a b c δ = (a δ).bind fun x δ1 => (b δ1).bind fun y δ2 => (Res.opt ((o1 x y).bind truth) δ2).bind fun k δ2 => if k = true then (c δ2).bind fun z δ3 => Res.opt (o2 y z) δ3 else .ok (.bl false) δ2 := rfl
def frV (x : Fr) (δ1 : Env) : Res D := match x with
  | .ok d _ => .ok d δ1
  | .exc c d => .exc c d δ1
  | .bad => .bad
@[simp] theorem frV_ok (d : D) (o : List D) (δ1 : Env) : frV (.ok d o) δ1 = .ok d δ1 := rfl
@[simp] theorem frV_exc (c : Str) (d : D) (δ1 : Env) : frV (.exc c d) δ1 = .exc c d δ1 := rfl
theorem x_Call (f : List D → Fr) (as : List Ex) : eCall f as δ = (eL as δ).bind fun ds δ1 => frV (f ds) δ1 := rfl
def frO (x : Fr) (i : Nat) (δ2 : Env) : Res D := match x with
  | .ok d [w'] => .ok d (δ2.set i (some w'))
  | _ => .bad
@[simp] theorem frO_ok (d w : D) (i : Nat) (δ1 : Env) : frO (.ok d [w]) i δ1 = .ok d (δ1.set i (some w)) := rfl
theorem x_CallO (f : List D → Fr) (i : Nat) (as : List Ex) : eCallO f i as δ = (eL as δ).bind fun ds δ1 => (eV i δ1).bind fun w δ2 => frO (f (w :: ds)) i δ2 := rfl
theorem x_CallP (f : List D → Fr) (a : Ex) (i : Nat) (as : List Ex) : eCallP f a i as δ = (a δ).bind fun x δ0 => (eL as δ0).bind fun ds δ1 => (eV i δ1).bind fun w δ2 => frO (f (x :: w :: ds)) i δ2 := rfl
def frN (x : Fr) (δ1 : Env) : Res D := match x with
  | .ok d [_] => .ok d δ1
  | .exc c d => .exc c d δ1
  | _ => .bad
@[simp] theorem frN_ok (d w : D) (δ1 : Env) : frN (.ok d [w]) δ1 = .ok d δ1 := rfl
@[simp] theorem frN_exc (c : Str) (d : D) (δ1 : Env) : frN (.exc c d) δ1 = .exc c d δ1 := rfl
theorem x_CallN (f : List D → Fr) (a : Ex) (as : List Ex) : eCallN f a as δ = (a δ).bind fun w δ0 => (eL as δ0).bind fun ds δ1 => frN (f (w :: ds)) δ1 := rfl
def methR (c m : Str) (f : List D → Fr) (as : List Ex) (x : D) (δ0 : Env) : Res D := match x with
  | .obj c' fs => if c' = c ∧ (fs.lookup m).isNone = true then (eL as δ0).bind fun ds δ1 => frV (f (.obj c' fs :: ds)) δ1 else .bad
  | _ => .bad
theorem x_Meth (c m : Str) (f : List D → Fr) (a : Ex) (as : List Ex) : eMeth c m f a as δ = (a δ).bind fun x δ0 => methR c m f as x δ0 := rfl
theorem x_Seq (a : Ex) : iSeq a δ = (a δ).bind fun x δ1 => Res.opt (seqOf x) δ1 := rfl
theorem x_Rng (a : Ex) : iRng a δ = (a δ).bind fun x δ1 => Res.opt ((smInt x).map fun j => rng 0 j.toNat) δ1 := rfl
theorem x_Rng2 (a b : Ex) : iRng2 a b δ = (a δ).bind fun x δ1 => (b δ1).bind fun y δ2 => Res.opt ((smInt x).bind fun i => (smInt y).map fun j => rng i (j - i).toNat) δ2 := rfl
theorem x_Enum (a : Ex) : iEnum a δ = (a δ).bind fun x δ1 => Res.opt ((seqOf x).map (enumD 0)) δ1 := rfl
theorem x_Zip (a b : Ex) : iZip a b δ = (a δ).bind fun x δ1 => (b δ1).bind fun y δ2 => Res.opt ((seqOf x).bind fun xs => (seqOf y).map fun ys => zip2 xs ys) δ2 := rfl
theorem x_Zip3 (a b c : Ex) : iZip3 a b c δ = (a δ).bind fun x δ1 => (b δ1).bind fun y δ2 => (c δ2).bind fun z δ3 => Res.opt ((seqOf x).bind fun xs => (seqOf y).bind fun ys => (seqOf z).map fun zs => zip3 xs ys zs) δ3 := rfl
theorem x_Ix (a b : Ex) : eIx a b δ = (a δ).bind fun x δ1 => match seqOf x with
  | some xs => (b δ1).bind fun y δ2 => Res.opt (ixOfD x y) δ2
  | none => .bad := by
  unfold eIx
  cases a δ with
  | ok x δ1 => simp only [Res.bind_ok]; cases seqOf x <;> rfl
  | exc c d δ1 => rfl
  | bad => rfl
theorem x_Lrg (a : Ex) : eLrg a δ = (a δ).bind fun x δ1 => eLrg (eC x) δ1 := by
  unfold eLrg
  cases a δ <;> rfl
def frM (x : Fr) (δ1 : Env) : Res D := match x with
  | .ok .non [w] => .ok w δ1
  | .exc c d => .exc c d δ1
  | _ => .bad
@[simp] theorem frM_ok (w : D) (δ1 : Env) : frM (.ok .non [w]) δ1 = .ok w δ1 := rfl
@[simp] theorem frM_exc (c : Str) (d : D) (δ1 : Env) : frM (.exc c d) δ1 = .exc c d δ1 := rfl
theorem x_Make (c : Str) (f : List D → Fr) (as : List Ex) : eMake c f as δ = (eL as δ).bind fun ds δ1 => frM (f (.obj c [] :: ds)) δ1 := rfl
def tryS (cs os : List Str) (i : Nat) (gh : D → Sm) (o : Out) : Out := match o with
  | .exc c d δ' => if c ∈ cs then clr i (gh d (δ'.set i none)) else if c ∈ os then .exc c d δ' else .bad
  | .bk _ => .bad
  | .ct _ => .bad
  | o => o
theorem x_Try (cs os : List Str) (i : Nat) (gb : Sm) (gh : D → Sm) : sTry cs os i gb gh δ = tryS cs os i gh (gb δ) := rfl
def tryO (cs os : List Str) (gh : Sm) (o : Out) : Out := match o with
  | .exc c d δ' => if c ∈ cs then (match gh δ' with
      | .nx δ2 => .nx δ2
      | .rt d δ2 => .rt d δ2
      | _ => .bad) else if c ∈ os then .exc c d δ' else .bad
  | .bk _ => .bad
  | .ct _ => .bad
  | o => o
theorem x_TryO (cs os : List Str) (gb gh : Sm) : sTryO cs os gb gh δ = tryO cs os gh (gb δ) := rfl
@[simp] theorem tryS_nx (cs os : List Str) (i : Nat) (gh : D → Sm) (δ1 : Env) : tryS cs os i gh (.nx δ1) = .nx δ1 := rfl
@[simp] theorem tryS_rt (cs os : List Str) (i : Nat) (gh : D → Sm) (d : D) (δ1 : Env) : tryS cs os i gh (.rt d δ1) = .rt d δ1 := rfl
@[simp] theorem tryS_exc (cs os : List Str) (i : Nat) (gh : D → Sm) (c : Str) (d : D) (δ1 : Env) : tryS cs os i gh (.exc c d δ1) = if c ∈ cs then clr i (gh d (δ1.set i none)) else if c ∈ os then .exc c d δ1 else .bad := rfl
@[simp] theorem tryO_nx (cs os : List Str) (gh : Sm) (δ1 : Env) : tryO cs os gh (.nx δ1) = .nx δ1 := rfl
@[simp] theorem tryO_rt (cs os : List Str) (gh : Sm) (d : D) (δ1 : Env) : tryO cs os gh (.rt d δ1) = .rt d δ1 := rfl
@[simp] theorem tryO_exc (cs os : List Str) (gh : Sm) (c : Str) (d : D) (δ1 : Env) : tryO cs os gh (.exc c d δ1) = if c ∈ cs then (match gh δ1 with
      | .nx δ2 => .nx δ2
      | .rt d δ2 => .rt d δ2
      | _ => .bad) else if c ∈ os then .exc c d δ1 else .bad := rfl
@[simp] theorem clr_nx (i : Nat) (δ1 : Env) : clr i (.nx δ1) = .nx (δ1.set i none) := rfl
@[simp] theorem clr_rt (i : Nat) (d : D) (δ1 : Env) : clr i (.rt d δ1) = .rt d δ1 := rfl
theorem sq_try (cs os : List Str) (i : Nat) (gb : Sm) (gh : D → Sm) (r : Sm) : sSeq (sTry cs os i gb gh) r δ = (tryS cs os i gh (gb δ)).seq r := rfl
theorem sq_tryO (cs os : List Str) (gb gh : Sm) (r : Sm) : sSeq (sTryO cs os gb gh) r δ = (tryO cs os gh (gb δ)).seq r := rfl
@[simp] theorem seq_nx (r : Sm) (δ1 : Env) : (Out.nx δ1).seq r = r δ1 := rfl
@[simp] theorem seq_rt (r : Sm) (d : D) (δ1 : Env) : (Out.rt d δ1).seq r = .rt d δ1 := rfl
@[simp] theorem seq_exc (r : Sm) (c : Str) (d : D) (δ1 : Env) : (Out.exc c d δ1).seq r = .exc c d δ1 := rfl
theorem x_setF (i : Nat) (c f : Str) (e : Ex) : sSetF i c f e δ = (e δ).out fun v δ1 => (eV i δ1).out fun x δ2 => match x with
  | .obj c' fs => if c' = c ∧ fs.length < 900 then .nx (δ2.set i (some (.obj c (putD f v fs)))) else .bad
  | _ => .bad := rfl
theorem sq_setF (i : Nat) (c f : Str) (e : Ex) (r : Sm) : sSeq (sSetF i c f e) r δ = (e δ).out fun v δ1 => (eV i δ1).out fun x δ2 => match x with
  | .obj c' fs => if c' = c ∧ fs.length < 900 then r (δ2.set i (some (.obj c (putD f v fs)))) else .bad
  | _ => .bad := by
  rw [sSeq_eq, x_setF]
  cases e δ with
  | ok v δ1 =>
    simp only [Res.out_ok]
    cases eV i δ1 with
    | ok x δ2 =>
      simp only [Res.out_ok]
      cases x with
      | obj c' fs => simp only; split <;> rfl
      | _ => rfl
    | exc c d δ1 => rfl
    | bad => rfl
  | exc c d δ1 => rfl
  | bad => rfl
theorem x_pass : sPass δ = .nx δ := rfl
theorem x_asg (t : Tg) (e : Ex) : sAsg t e δ = (e δ).out fun d δ1 => match t.put d δ1 with | some δ2 => .nx δ2 | none => .bad := rfl
theorem x_do (e : Ex) : sDo e δ = (e δ).out fun _ δ1 => .nx δ1 := rfl
theorem x_ret (e : Ex) : sRet e δ = (e δ).out fun d δ1 => .rt d δ1 := rfl
theorem x_raise (c : Str) (e : Ex) : sRaise c e δ = (e δ).out fun d δ1 => .exc c d δ1 := rfl
theorem x_if (c : Ex) (a b : Sm) : sIf c a b δ = (c δ).out fun x δ1 => match x with | .bl true => a δ1 | .bl false => b δ1 | _ => .bad := rfl
theorem x_bk : sBk δ = .bk δ := rfl
theorem x_ct : sCt δ = .ct δ := rfl
theorem x_app (i : Nat) (e : Ex) : sApp i e δ = if isL i δ = true then (e δ).out fun d δ1 => (eV i δ1).out fun x δ2 => match x with
    | .lst xs => if xs.length < cap then .nx (δ2.set i (some (.lst (xs ++ [d])))) else .bad
    | _ => .bad
    else .bad := rfl
theorem x_setI (i : Nat) (k e : Ex) : sSetI i k e δ = (e δ).out fun v δ1 => (k δ1).out fun kk δ2 => (eV i δ2).out fun x δ3 => match x, kk with
    | .lst xs, .int j => (match ixD xs.length j with
      | some m => .nx (δ3.set i (some (.lst (xs.set m v))))
      | none => .bad)
    | _, _ => .bad := rfl
theorem x_setK (i : Nat) (k e : Ex) : sSetK i k e δ = (e δ).out fun v δ1 => (k δ1).out fun kk δ2 => (eV i δ2).out fun x δ3 => match x, keyD kk with
    | .dic ds, some q => if ds.length < cap then .nx (δ3.set i (some (.dic (putM ds q v)))) else .bad
    | _, _ => .bad := rfl
theorem x_pop (i : Nat) : ePop i δ = (eV i δ).bind fun x δ1 => match x with
  | .lst xs => (match xs[xs.length - 1]? with
    | some y => .ok y (δ1.set i (some (.lst xs.dropLast)))
    | none => .bad)
  | _ => .bad := rfl
theorem x_isL (i : Nat) : isL i δ = match δ[i]? with | some (some (.lst _)) => true | _ => false := rfl
theorem x_tn (c : Option Ex) (e : Ex) : tstC (some e) δ = e δ := rfl
theorem x_t0 : tstC none δ = .ok (.bl true) δ := rfl
theorem x_st0 : stE δ [] = δ := rfl
theorem x_st1 (i : Nat) (x : Option D) (r : List (Nat × Option D)) : stE δ ((i, x) :: r) = stE (δ.set i x) r := rfl
theorem x_putn (i : Nat) (d : D) : (Tg.n i).put d δ = some (δ.set i (some d)) := rfl
theorem x_putt (is : List Nat) (ds : List D) : (Tg.t is).put (.tup ds) δ = setN is ds δ := rfl
theorem x_set0 : setN [] [] δ = some δ := rfl
theorem x_set1 (i : Nat) (is : List Nat) (d : D) (ds : List D) : setN (i :: is) (d :: ds) δ = setN is ds (δ.set i (some d)) := rfl
theorem x_out0 : outsOf [] δ = some [] := rfl
theorem x_out1 (i : Nat) (is : List Nat) : outsOf (i :: is) δ = match δ[i]? with | some (some d) => (outsOf is δ).map (d :: ·) | _ => none := rfl
end
theorem cap_60 {n : Nat} (h : n ≤ 10000) : n ≤ cap := cap_of (by omega)
theorem cap_s {n : Nat} (h : n ≤ 10000) : n < cap := cap_lt (by omega)
theorem smInt_small {i : Int} (h0 : -100 ≤ i) (h1 : i ≤ 10000) : smInt (.int i) = some i := by
  exact smInt_iff ⟨by omega, by omega⟩
theorem rng_rgI (n : Nat) : rng 0 n = (rgI n).map .int := by
  unfold rng rgI
  rw [List.map_map]
  exact List.map_congr_left fun k _ => by simp
def lsD (al : List (List Int)) : List D := al.map fun l => D.lst (l.map .int)
def tpD (al : List (List Int)) : List D := al.map fun l => D.tup (l.map .int)
/-! comprehensions over tuples of names -/
def pE (is : List Nat) (d : D) (δ : Env) : Env := match d with
  | .tup ds => (setN is ds (wipeE δ is)).getD δ
  | _ => δ
theorem pE_tup (is : List Nat) (ds : List D) (δ : Env) : pE is (.tup ds) δ = (setN is ds (wipeE δ is)).getD δ := rfl
theorem wipe0 (δ : Env) : wipeE δ [] = δ := rfl
theorem wipe1 (δ : Env) (v : Nat) (vs : List Nat) : wipeE δ (v :: vs) = (wipeE δ vs).set v none := rfl
def ptOk (is : List Nat) (d : D) : Prop := ∃ ds, d = .tup ds ∧ ds.length = is.length
@[simp] theorem ptOk_tup (is : List Nat) (ds : List D) : ptOk is (.tup ds) ↔ ds.length = is.length := ⟨fun ⟨_, e, h⟩ => by cases e; exact h, fun h => ⟨ds, rfl, h⟩⟩
theorem setN_some : ∀ {is : List Nat} {ds : List D} (δ : Env), ds.length = is.length → ∃ δ', setN is ds δ = some δ' ∧ δ'.length = δ.length ∧ ∀ i, i ∉ is → δ'[i]? = δ[i]?
  | [], [], δ, _ => ⟨δ, rfl, rfl, fun _ _ => rfl⟩
  | [], _ :: _, _, h => by simp at h
  | _ :: _, [], _, h => by simp at h
  | i :: is, d :: ds, δ, h => by
    obtain ⟨δ', h1, h2, h3⟩ := setN_some (is := is) (ds := ds) (δ.set i (some d)) (by simpa using h)
    refine ⟨δ', h1, by rw [h2, List.length_set], fun j hj => ?_⟩
    simp only [List.mem_cons, not_or] at hj
    rw [h3 j hj.2, List.getElem?_set_ne (by omega)]
theorem wipeE_in {δ : Env} {i : Nat} (hl : i < δ.length) : ∀ {vs : List Nat}, i ∈ vs → (wipeE δ vs)[i]? = some none
  | v :: vs, h => by
    unfold wipeE
    by_cases e : v = i
    · subst e; rw [List.getElem?_set_self (by rw [wipeE_length]; exact hl)]
    · rw [List.getElem?_set_ne e]
      exact wipeE_in hl (by rcases List.mem_cons.mp h with z | z; exact absurd z.symm e; exact z)
theorem wipeE_ext {δ δ' : Env} {vs : List Nat} (hl : δ.length = δ'.length) (h : ∀ i, i ∉ vs → δ[i]? = δ'[i]?) : wipeE δ vs = wipeE δ' vs := by
  refine List.ext_getElem? fun i => ?_
  by_cases hi : i ∈ vs
  · by_cases hb : i < δ.length
    · rw [wipeE_in hb hi, wipeE_in (by omega) hi]
    · rw [List.getElem?_eq_none (by rw [wipeE_length]; omega), List.getElem?_eq_none (by rw [wipeE_length]; omega)]
  · rw [wipeE_out hi, wipeE_out hi, h i hi]
theorem lc_sN {it : ItE} {is : List Nat} {c : Option Ex} {e : Ex} {δ : Env} (hit : okI (it δ) δ) (hl : (itD (it δ)).length ≤ cap)
    (hp : ∀ d ∈ itD (it δ), ptOk is d ∧ okB (tstC c (pE is d δ)) (pE is d δ) ∧ (getB (tstC c (pE is d δ)) = true → okV (e (pE is d δ)) (pE is d δ))) :
    eLc it (.t is) is c e δ = .ok (.lst (((itD (it δ)).filter fun d => getB (tstC c (pE is d δ))).map fun d => getV (e (pE is d δ)))) δ := by
  obtain ⟨ds, hds⟩ := hit
  rw [hds] at hl hp ⊢
  simp only [itD_ok] at hl hp ⊢
  have same : ∀ {δ' : Env} {d : D}, wipeE δ' is = wipeE δ is → ptOk is d → (Tg.t is).put d (wipeE δ' is) = some (pE is d δ) := fun {δ' d} h ⟨xs, e, hx⟩ => by
    subst e
    obtain ⟨δ2, h1, _, _⟩ := setN_some (is := is) (ds := xs) (wipeE δ is) hx
    show setN is xs (wipeE δ' is) = _
    rw [h, h1]
    unfold pE
    simp only [h1, Option.getD_some]
  have wp : ∀ {d : D}, ptOk is d → wipeE (pE is d δ) is = wipeE δ is ∧ (pE is d δ).length = δ.length ∧ ∀ i, i ∉ is → (pE is d δ)[i]? = δ[i]? := fun {d} ⟨xs, e, hx⟩ => by
    subst e
    obtain ⟨δ2, h1, h2, h3⟩ := setN_some (is := is) (ds := xs) (wipeE δ is) hx
    have ep : pE is (.tup xs) δ = δ2 := by unfold pE; simp only [h1, Option.getD_some]
    have hl : (pE is (.tup xs) δ).length = δ.length := by rw [ep, h2, wipeE_length]
    have ho : ∀ i, i ∉ is → (pE is (.tup xs) δ)[i]? = δ[i]? := fun i hi => by rw [ep, h3 i hi, wipeE_out hi]
    exact ⟨wipeE_ext hl ho, hl, ho⟩
  have key : ∀ (q : List D), (∀ a ∈ q, a ∈ ds) → ∀ δ' : Env, wipeE δ' is = wipeE δ is → δ'.length = δ.length → (∀ i, i ∉ is → δ'[i]? = δ[i]?) → ∃ δ'' : Env, δ''.length = δ.length ∧ (∀ i, i ∉ is → δ''[i]? = δ[i]?) ∧ lcL (.t is) is c e q δ' = .ok ((q.filter fun a => getB (tstC c (pE is a δ))).map fun a => getV (e (pE is a δ))) δ'' := by
    intro q
    induction q with
    | nil => intro _ δ' _ h1 h2; exact ⟨δ', h1, h2, rfl⟩
    | cons a q ih =>
      intro hq δ' hw hl' ho'
      obtain ⟨pa, ⟨b, eb⟩, h2⟩ := hp a (hq a List.mem_cons_self)
      obtain ⟨w1, w2, w3⟩ := wp pa
      obtain ⟨δ'', g1, g2, g3⟩ := ih (fun z hz => hq z (List.mem_cons_of_mem _ hz)) _ w1 w2 w3
      refine ⟨δ'', g1, g2, ?_⟩
      unfold lcL
      simp only [same hw pa]
      rw [eb]
      cases b with
      | true =>
        obtain ⟨v, ev⟩ := h2 (by rw [eb]; rfl)
        simp only [ev, g3]
        rw [List.filter_cons_of_pos (by rw [eb]; rfl), List.map_cons, ev]
        rfl
      | false =>
        simp only [g3]
        rw [List.filter_cons_of_neg (by rw [eb]; exact Bool.false_ne_true)]
  obtain ⟨δ'', g1, g2, g3⟩ := key ds (fun _ h => h) δ rfl rfl fun _ _ => rfl
  unfold eLc
  rw [hds]
  simp only [Res.bind_ok, hl, if_true, g3]
  rw [rest_self is δ δ'' g1 g2]
section
variable {p : Prop} [Decidable p]
theorem okV_ite (a b : Res D) (δ : Env) : okV (if p then a else b) δ ↔ if p then okV a δ else okV b δ := by split <;> rfl
theorem okB_ite (a b : Res D) (δ : Env) : okB (if p then a else b) δ ↔ if p then okB a δ else okB b δ := by split <;> rfl
theorem getV_ite (a b : Res D) : getV (if p then a else b) = if p then getV a else getV b := by split <;> rfl
theorem getB_ite (a b : Res D) : getB (if p then a else b) = if p then getB a else getB b := by split <;> rfl
theorem bind_ite {α β : Type} (a b : Res α) (f : α → Env → Res β) : (if p then a else b).bind f = if p then a.bind f else b.bind f := by split <;> rfl
theorem out_ite {α : Type} (a b : Res α) (f : α → Env → Out) : (if p then a else b).out f = if p then a.out f else b.out f := by split <;> rfl
end
def isBl (d : D) : Prop := ∃ b, d = .bl b
def toB : D → Bool
  | .bl b => b
  | _ => false
@[simp] theorem isBl_bl (b : Bool) : isBl (.bl b) ↔ True := ⟨fun _ => trivial, fun _ => ⟨b, rfl⟩⟩
@[simp] theorem toB_bl (b : Bool) : toB (.bl b) = b := rfl
theorem isBl_ite {p : Prop} [Decidable p] (a b : D) : isBl (if p then a else b) ↔ if p then isBl a else isBl b := by split <;> rfl
theorem toB_ite {p : Prop} [Decidable p] (a b : D) : toB (if p then a else b) = if p then toB a else toB b := by split <;> rfl
theorem blsO_of {α : Type} {f : α → D} : ∀ {l : List α}, (∀ x ∈ l, isBl (f x)) → blsO (l.map f) = some (l.map fun x => toB (f x))
  | [], _ => rfl
  | x :: l, h => by
    obtain ⟨b, e⟩ := h x List.mem_cons_self
    have ih := blsO_of (l := l) fun y hy => h y (List.mem_cons_of_mem _ hy)
    rw [List.map_cons, List.map_cons, e]
    show (blsO _).map _ = _
    rw [ih]
    rfl
theorem allD_map {α : Type} {f : α → D} {l : List α} (h : ∀ x ∈ l, isBl (f x)) : allD (.lst (l.map f)) = some (.bl (l.all fun x => toB (f x))) := by
  show (blsO _).map _ = _
  rw [blsO_of h]
  simp [Function.comp_def]
theorem anyD_map {α : Type} {f : α → D} {l : List α} (h : ∀ x ∈ l, isBl (f x)) : anyD (.lst (l.map f)) = some (.bl (l.any fun x => toB (f x))) := by
  show (blsO _).map _ = _
  rw [blsO_of h]
  simp [Function.comp_def]
theorem filter_tt {α : Type} (l : List α) : l.filter (fun _ => true) = l := List.filter_eq_self.mpr fun _ _ => rfl
theorem zip2_map {α β : Type} {f : α → D} {g : β → D} : ∀ {xs : List α} {ys : List β}, zip2 (xs.map f) (ys.map g) = (xs.zip ys).map fun p => D.tup [f p.1, g p.2]
  | [], _ => by simp [zip2]
  | _ :: _, [] => by simp [zip2]
  | x :: xs, y :: ys => by
    rw [List.map_cons, List.map_cons, List.zip_cons_cons, List.map_cons, zip2, zip2_map]
theorem min_cap (a b c : Nat) : min a b ≤ c ↔ a ≤ c ∨ b ≤ c := by omega
theorem tail_mp {α β : Type} (f : α → β) (l : List α) : (l.map f).tail = l.tail.map f := by cases l <;> rfl
theorem take_mp {α β : Type} (f : α → β) (l : List α) (i : Nat) : (l.map f).take i = (l.take i).map f := by rw [List.map_take]
theorem drop_mp {α β : Type} (f : α → β) (l : List α) (i : Nat) : (l.map f).drop i = (l.drop i).map f := by rw [List.map_drop]
theorem lc_sM {it : ItE} {is : List Nat} {c : Option Ex} {e : Ex} {δ : Env} (hit : okI (it δ) δ) (hl : (itD (it δ)).length ≤ cap) (h1 : ∀ d ∈ itD (it δ), ptOk is d) (h2 : ∀ d ∈ itD (it δ), okB (tstC c (pE is d δ)) (pE is d δ))
    (h3 : ∀ d ∈ itD (it δ), getB (tstC c (pE is d δ)) = true → okV (e (pE is d δ)) (pE is d δ)) :
    eLc it (.t is) is c e δ = .ok (.lst (((itD (it δ)).filter fun d => getB (tstC c (pE is d δ))).map fun d => getV (e (pE is d δ)))) δ := lc_sN hit hl fun d hd => ⟨h1 d hd, h2 d hd, h3 d hd⟩
theorem lc_sS {it : ItE} {j : Nat} {c : Option Ex} {e : Ex} {δ : Env} (hit : okI (it δ) δ) (hl : (itD (it δ)).length ≤ cap)
    (h2 : ∀ d ∈ itD (it δ), okB (tstC c (δ.set j (some d))) (δ.set j (some d))) (h3 : ∀ d ∈ itD (it δ), getB (tstC c (δ.set j (some d))) = true → okV (e (δ.set j (some d))) (δ.set j (some d))) :
    eLc it (.n j) [j] c e δ = .ok (.lst (((itD (it δ)).filter fun d => getB (tstC c (δ.set j (some d)))).map fun d => getV (e (δ.set j (some d))))) δ := lc_s hit hl fun d hd => ⟨h2 d hd, h3 d hd⟩
/-! comprehensions that change own slots -/
class Val1 where
  K : D → Env → Prop
def VW0 (K : D → Env → Prop) : Res D → Prop
  | .ok d δ => K d δ
  | _ => False
structure VW [v : Val1] (x : Res D) : Prop where
  run : VW0 v.K x
theorem VW.go {v : Val1} {x : Res D} (h : @VW v x) : VW0 v.K x := @VW.run v x h
/-- what holds of the items made so far and the env, closed to simp -/
structure HoldL [v : Val1] (d : D) (δ : Env) : Prop where
  h : v.K d δ
theorem hl {v : Val1} {d : D} {δ : Env} (h : v.K d δ) : @HoldL v d δ := @HoldL.mk v d δ h
theorem HoldL.go {v : Val1} {d : D} {δ : Env} (h : @HoldL v d δ) : v.K d δ := @HoldL.h v d δ h
theorem Hold.go {v : Inv1} {δ : Env} (h : @Hold v δ) : v.I δ := @Hold.h v δ h
@[simp] theorem VW_ok {v : Val1} {d : D} {δ : Env} : VW (.ok d δ) ↔ @HoldL v d δ := ⟨fun h => hl h.run, fun h => ⟨h.go⟩⟩
theorem lcL_inv {α : Type} {t : Tg} {own : List Nat} {c : Option Ex} {e : Ex} {f : α → D} (I : Nat → List D → Env → Prop) : ∀ (as : List α) (k : Nat) (acc : List D) (δ : Env),
    (∀ i a xs δ2, as[i]? = some a → I (k + i) xs δ2 → ∃ δ3, t.put (f a) (wipeE δ2 own) = some δ3 ∧ @CW ⟨fun δ4 => @VW ⟨fun x δ5 => I (k + i + 1) (xs ++ [x]) δ5⟩ (e δ4), fun δ4 => @Hold ⟨fun δ => I (k + i + 1) xs δ⟩ δ4⟩ (tstC c δ3)) → I k acc δ →
    ∃ ys δ', lcL t own c e (as.map f) δ = .ok ys δ' ∧ I (k + as.length) (acc ++ ys) δ'
  | [], k, acc, δ, _, h0 => ⟨[], δ, rfl, by simpa using h0⟩
  | a :: as, k, acc, δ, hs, h0 => by
    obtain ⟨δ3, e1, hc⟩ := hs 0 a acc δ (by simp) (by simpa using h0)
    obtain ⟨b, δ4, ec, ht, hf⟩ := CW.ok hc
    rw [List.map_cons]
    unfold lcL
    simp only [e1, ec]
    have nxt : ∀ acc' δ5, I (k + 1) acc' δ5 → ∃ ys δ', lcL t own c e (as.map f) δ5 = .ok ys δ' ∧ I (k + (a :: as).length) (acc' ++ ys) δ' := fun acc' δ5 h5 => by
      obtain ⟨ys, δ', g1, g2⟩ := lcL_inv I as (k + 1) acc' δ5 (fun i b xs δ2 hb hI => by
        have := hs (i + 1) b xs δ2 (by simpa using hb) (by rw [show k + (i + 1) = k + 1 + i by omega]; exact hI)
        rw [show k + (i + 1) = k + 1 + i by omega] at this
        exact this) h5
      exact ⟨ys, δ', g1, by rw [List.length_cons, show k + (as.length + 1) = k + 1 + as.length by omega]; exact g2⟩
    cases b with
    | true =>
      have hv := VW.go (ht rfl)
      cases ev : e δ4 with
      | ok x δ5 =>
        rw [ev] at hv
        obtain ⟨ys, δ', g1, g2⟩ := nxt (acc ++ [x]) δ5 hv
        refine ⟨x :: ys, δ', ?_, by rw [List.append_assoc] at g2; exact g2⟩
        simp only [ev, g1]
        rfl
      | exc _ _ _ => rw [ev] at hv; exact hv.elim
      | bad => rw [ev] at hv; exact hv.elim
    | false =>
      obtain ⟨ys, δ', g1, g2⟩ := nxt acc δ4 (Hold.go (hf rfl))
      exact ⟨ys, δ', g1, g2⟩
/-- a comprehension at the head, by an invariant -/
theorem o_lcI {P : Out → Prop} {α : Type} {it : ItE} {t : Tg} {own : List Nat} {c : Option Ex} {e : Ex} {δ δ1 : Env} {as : List α} {f : α → D} {k : D → Env → Out} (hit : it δ = .ok (as.map f) δ1) (hl : as.length ≤ cap) (I : Env → Nat → List D → Env → Prop) (h0 : I δ1 0 [] δ1)
    (hs : ∀ i a xs δ2, as[i]? = some a → I δ1 i xs δ2 → ∃ δ3, t.put (f a) (wipeE δ2 own) = some δ3 ∧ @CW ⟨fun δ4 => @VW ⟨fun x δ5 => I δ1 (i + 1) (xs ++ [x]) δ5⟩ (e δ4), fun δ4 => @Hold ⟨fun δ => I δ1 (i + 1) xs δ⟩ δ4⟩ (tstC c δ3))
    (h : ∀ xs δ2, I δ1 as.length xs δ2 → P (k (.lst xs) (restE δ1 own δ2))) : P ((eLc it t own c e δ).out k) := by
  obtain ⟨ys, δ', g1, g2⟩ := lcL_inv (t := t) (own := own) (c := c) (e := e) (f := f) (I δ1) as 0 [] δ1 (fun i a xs δ2 ha hI => by
    rw [Nat.zero_add] at hI ⊢
    exact hs i a xs δ2 ha hI) h0
  rw [Nat.zero_add, List.nil_append] at g2
  unfold eLc
  rw [hit]
  simp only [Res.bind_ok, List.length_map, hl, if_true, g1]
  exact h ys δ' g2
theorem x_rest0 (δ0 δ : Env) : restE δ0 [] δ = δ := rfl
theorem x_rest1 (δ0 δ : Env) (v : Nat) (vs : List Nat) : restE δ0 (v :: vs) δ = (restE δ0 vs δ).set v ((δ0[v]?).getD none) := rfl
/-- a pure comprehension over tuples at the head -/
theorem o_lcT {P : Out → Prop} {α : Type} {it : ItE} {is : List Nat} {c : Option Ex} {e : Ex} {δ δ1 : Env} {k : D → Env → Out} (as : List α) (f : α → D) (pp : α → Bool) (g : α → D) (hit : it δ = .ok (as.map f) δ1) (hl : as.length ≤ cap)
    (hp : ∀ a ∈ as, ptOk is (f a) ∧ tstC c (pE is (f a) δ1) = .ok (.bl (pp a)) (pE is (f a) δ1) ∧ (pp a = true → e (pE is (f a) δ1) = .ok (g a) (pE is (f a) δ1)))
    (h : P (k (.lst ((as.filter pp).map g)) δ1)) : P ((eLc it (.t is) is c e δ).out k) := by
  have h1 := lc_sN (it := fun _ => .ok (as.map f) δ1) (is := is) (c := c) (e := e) (δ := δ1) ⟨_, rfl⟩ (by simpa using hl) (fun d hd => by
    simp only [itD_ok, List.mem_map] at hd
    obtain ⟨a, ha, rfl⟩ := hd
    obtain ⟨q1, q2, q3⟩ := hp a ha
    exact ⟨q1, by rw [q2]; exact ⟨_, rfl⟩, fun z => by
      rw [q2] at z
      rw [q3 z]
      exact ⟨_, rfl⟩⟩)
  have e0 : eLc it (.t is) is c e δ = eLc (fun _ => .ok (as.map f) δ1) (.t is) is c e δ1 := by
    unfold eLc
    rw [hit]
  rw [e0, h1]
  simp only [itD_ok]
  have e2 : (List.filter (fun d => getB (tstC c (pE is d δ1))) (as.map f)).map (fun d => getV (e (pE is d δ1))) = (as.filter pp).map g := by
    rw [List.filter_map, List.map_map]
    have e3 : as.filter ((fun d => getB (tstC c (pE is d δ1))) ∘ f) = as.filter pp := List.filter_congr fun a ha => by
      simp only [Function.comp_def, (hp a ha).2.1, getB_ok]
    rw [e3]
    refine List.map_congr_left fun a ha => ?_
    rw [List.mem_filter] at ha
    simp only [Function.comp_def, (hp a ha.1).2.2 ha.2, getV_ok]
  rw [e2]
  exact h
end Mi

end
section
set_option linter.all false
set_option autoImplicit false
set_option maxRecDepth 20000
namespace Mi
open PySem PySem.Spec
def WL (W : D) : Prop := ∃ a b c : Int, W = .lst [.int a, .int b, .int c]
/-! draws -/
theorem draw_ok {W : D} (hW : WL W) {m : Int} (h0 : 0 < m) (h1 : m < 1073741824) : ∃ (r : Int) (W' : D), WL W' ∧ 0 ≤ r ∧ r < m ∧ f_law_draw [W, .int m] = .ok (.int r) [W'] := by
  obtain ⟨a, b, c, rfl⟩ := hW
  by_cases ha : 0 < a
  · refine ⟨a % m, .lst [.int (a / m), .int b, .int c], ⟨_, _, _, rfl⟩, Int.emod_nonneg _ (by omega), Int.emod_lt_of_pos _ h0, ?_⟩
    simp [Mi.sSeq, Mi.sAsg, Mi.sRet, Mi.sIf, Mi.sDo, Mi.sRaise, Mi.sFor, Mi.sPass, Mi.sBk, Mi.sCt, Mi.eV, Mi.eC, Mi.e1, Mi.e2, Mi.e3, Mi.eP, Mi.eO2, Mi.eL, Mi.eLst, Mi.eTup, Mi.eCh, Mi.eT, Mi.eAnd, Mi.eOr, Mi.eNot, Mi.eIf, Mi.Tg.put, Mi.setN, Mi.truth, Mi.iSeq, Mi.seqOf, Mi.fnM, Mi.startE, Mi.outsOf, Mi.isL, d_law_draw, m_law_draw, idxD, ixD, cmpD, ha, modD, h0, fdivD, h1, sSetI]
  · have g1 : ∀ x : Int, -(2 ^ 64) < x % 2147483647 ∧ x % 2147483647 < 2 ^ 64 := fun x => ⟨by omega, by omega⟩
    simp only [Int.reducePow, Int.reduceNeg] at g1
    have key : ∃ x : Int, f_law_draw [.lst [.int a, .int b, .int c], .int m] = .ok (.int (x % m)) [.lst [.int a, .int b, .int (c + 1)]] := by
      simp [Mi.sSeq, Mi.sAsg, Mi.sRet, Mi.sIf, Mi.sDo, Mi.sRaise, Mi.sFor, Mi.sPass, Mi.sBk, Mi.sCt, Mi.eV, Mi.eC, Mi.e1, Mi.e2, Mi.e3, Mi.eP, Mi.eO2, Mi.eL, Mi.eLst, Mi.eTup, Mi.eCh, Mi.eT, Mi.eAnd, Mi.eOr, Mi.eNot, Mi.eIf, Mi.Tg.put, Mi.setN, Mi.truth, Mi.iSeq, Mi.seqOf, Mi.fnM, Mi.startE, Mi.outsOf, Mi.isL, d_law_draw, m_law_draw, idxD, ixD, cmpD, ha, modD, h0, fdivD, h1, sSetI, addD, mulD, g1]
      exact ⟨_, rfl⟩
    obtain ⟨x, hx⟩ := key
    exact ⟨x % m, _, ⟨_, _, _, rfl⟩, Int.emod_nonneg _ (by omega), Int.emod_lt_of_pos _ h0, hx⟩
open Classical in
/-- the next number and the well behind it -/
noncomputable def dr (W : D) (m : Int) : Int := if h : WL W ∧ 0 < m ∧ m < 1073741824 then Classical.choose (draw_ok h.1 h.2.1 h.2.2) else 0
open Classical in
noncomputable def dw (W : D) (m : Int) : D := if h : WL W ∧ 0 < m ∧ m < 1073741824 then Classical.choose (Classical.choose_spec (draw_ok h.1 h.2.1 h.2.2)) else .lst [.int 0, .int 0, .int 0]
theorem dw_ok (W : D) (m : Int) : WL (dw W m) := by
  unfold dw
  split
  · rename_i h
    exact (Classical.choose_spec (Classical.choose_spec (draw_ok h.1 h.2.1 h.2.2))).1
  · exact ⟨0, 0, 0, rfl⟩
theorem dr_0 (W : D) (m : Int) : 0 ≤ dr W m := by
  unfold dr
  split
  · rename_i h
    exact (Classical.choose_spec (Classical.choose_spec (draw_ok h.1 h.2.1 h.2.2))).2.1
  · exact Int.le_refl 0
theorem dr_lt {W : D} {m : Int} (h0 : 0 < m) : dr W m < m := by
  unfold dr
  split
  · rename_i h
    exact (Classical.choose_spec (Classical.choose_spec (draw_ok h.1 h.2.1 h.2.2))).2.2.1
  · exact h0
theorem draw_eq {W : D} {m : Int} (hW : WL W) (h0 : 0 < m) (h1 : m < 1073741824) : f_law_draw [W, .int m] = .ok (.int (dr W m)) [dw W m] := by
  unfold dr dw
  rw [dif_pos ⟨hW, h0, h1⟩, dif_pos ⟨hW, h0, h1⟩]
  exact (Classical.choose_spec (Classical.choose_spec (draw_ok hW h0 h1))).2.2.2
end Mi

end
section
set_option linter.all false
set_option autoImplicit false
set_option maxRecDepth 20000
namespace Mi
open PySem PySem.Spec
theorem perm_erase : ∀ {l : List Int} {i : Nat} {k : Int}, l[i]? = some k → (k :: l.eraseIdx i).Perm l
  | [], _, _, h => by simp at h
  | x :: l, 0, k, h => by simp at h; subst h; exact .refl _
  | x :: l, i + 1, k, h => by
    have ih := perm_erase (l := l) (i := i) (k := k) (by simpa using h)
    exact (List.Perm.swap _ _ _).trans (ih.cons x)
theorem erase_map {l : List Int} {i : Nat} : (l.map D.int).eraseIdx i = (l.eraseIdx i).map .int := by
  induction l generalizing i with
  | nil => simp
  | cons x l ih =>
    cases i with
    | zero => rfl
    | succ i => simp [ih]
@[simp] theorem ne_nn : neD (.lst []) (.lst []) = some (.bl false) := ne_nil ok_nil
theorem order_ok {n : Nat} (hn : n ≤ 60) {W : D} (hW : WL W) (m : Option D) (r : Env) : ∃ (W' : D) (ord : List Int), WL W' ∧ ord.Perm (rgI n) ∧
    sWhile (eO2 neD 3 (eLst [])) (sApp 4 (ePopAt 3 (eCallO f_law_draw 0 [(e1 lenD (eV 3))]))) (some W :: m :: some (.int n) :: some (.lst (rng 0 n)) :: some (.lst []) :: r) = .nx (some W' :: m :: some (.int n) :: some (.lst []) :: some (.lst (ord.map .int)) :: r) := by
  rw [rng_rgI]
  obtain ⟨δ', e, W', ord, hW', hp, rfl⟩ := while_by (δ := some W :: m :: some (.int n) :: some (.lst ((rgI n).map .int)) :: some (.lst []) :: r) (c := eO2 neD 3 (eLst [])) (b := sApp 4 (ePopAt 3 (eCallO f_law_draw 0 [(e1 lenD (eV 3))])))
    (fun δ => ∃ (W : D) (left ord : List Int), WL W ∧ (ord ++ left).Perm (rgI n) ∧ δ = some W :: m :: some (.int n) :: some (.lst (left.map .int)) :: some (.lst (ord.map .int)) :: r)
    (fun δ => ∃ (W : D) (ord : List Int), WL W ∧ ord.Perm (rgI n) ∧ δ = some W :: m :: some (.int n) :: some (.lst []) :: some (.lst (ord.map .int)) :: r)
    (fun δ : Env => match δ[3]? with | some (some (D.lst xs)) => xs.length | _ => 0) (fun δ ⟨W, left, ord, hW, hp, e⟩ => by
      subst e
      by_cases hl : left = []
      · subst hl
        refine .inl ⟨_, ?_, W, ord, hW, by simpa using hp, rfl⟩
        simp [Mi.sSeq, Mi.sAsg, Mi.sRet, Mi.sIf, Mi.sDo, Mi.sRaise, Mi.sFor, Mi.sPass, Mi.sBk, Mi.sCt, Mi.eV, Mi.eC, Mi.e1, Mi.e2, Mi.e3, Mi.eP, Mi.eO2, Mi.eL, Mi.eLst, Mi.eTup, Mi.eCh, Mi.eT, Mi.eAnd, Mi.eOr, Mi.eNot, Mi.eIf, Mi.Tg.put, Mi.setN, Mi.truth, Mi.iSeq, Mi.seqOf, Mi.fnM, Mi.startE, Mi.outsOf, Mi.isL]
      · have hlen := hp.length_eq
        rw [List.length_append, rgI_len] at hlen
        have pos : 0 < left.length := List.length_pos_iff.mpr hl
        obtain ⟨j, W1, hW1, j0, j1, ed⟩ := draw_ok hW (m := (left.length : Int)) (by omega) (by omega)
        obtain ⟨k, ek, hk, _⟩ := idx_ints j0 j1
        have ec : left.length ≤ cap := cap_60 (by omega)
        have ec2 : ord.length < cap := cap_lt (by omega)
        refine .inr ⟨some W :: m :: some (.int n) :: some (.lst (left.map .int)) :: some (.lst (ord.map .int)) :: r, some W1 :: m :: some (.int n) :: some (.lst ((left.eraseIdx j.toNat).map .int)) :: some (.lst ((ord ++ [k]).map .int)) :: r, ?_, ?_, ⟨W1, left.eraseIdx j.toNat, ord ++ [k], hW1, ?_, rfl⟩, ?_⟩
        · simp [Mi.sSeq, Mi.sAsg, Mi.sRet, Mi.sIf, Mi.sDo, Mi.sRaise, Mi.sFor, Mi.sPass, Mi.sBk, Mi.sCt, Mi.eV, Mi.eC, Mi.e1, Mi.e2, Mi.e3, Mi.eP, Mi.eO2, Mi.eL, Mi.eLst, Mi.eTup, Mi.eCh, Mi.eT, Mi.eAnd, Mi.eOr, Mi.eNot, Mi.eIf, Mi.Tg.put, Mi.setN, Mi.truth, Mi.iSeq, Mi.seqOf, Mi.fnM, Mi.startE, Mi.outsOf, Mi.isL, ne_nil (ok_ints left), hl]
        · simp [Mi.sSeq, Mi.sAsg, Mi.sRet, Mi.sIf, Mi.sDo, Mi.sRaise, Mi.sFor, Mi.sPass, Mi.sBk, Mi.sCt, Mi.eV, Mi.eC, Mi.e1, Mi.e2, Mi.e3, Mi.eP, Mi.eO2, Mi.eL, Mi.eLst, Mi.eTup, Mi.eCh, Mi.eT, Mi.eAnd, Mi.eOr, Mi.eNot, Mi.eIf, Mi.Tg.put, Mi.setN, Mi.truth, Mi.iSeq, Mi.seqOf, Mi.fnM, Mi.startE, Mi.outsOf, Mi.isL, sApp, ePopAt, eCallO, lenD, ed, ec, ec2, ixD, j0, j1, ek, erase_map]
          exact (List.getElem?_eq_some_iff.mp ek).2
        · rw [List.append_assoc]
          exact ((perm_erase ek).append_left ord).trans hp
        · have := (perm_erase ek).length_eq
          simp only [List.length_cons] at this
          show (((left.eraseIdx j.toNat).map D.int)).length < ((left.map D.int)).length
          rw [List.length_map, List.length_map]
          omega) ⟨W, rgI n, [], hW, .refl _, rfl⟩
  exact ⟨W', ord, hW', hp, e⟩
/-- a row -/
def RowOk (n : Nat) (k : Int) (l : List Int) : Prop := l.Pairwise (· < ·) ∧ (∀ x ∈ l, 0 ≤ x ∧ x < n) ∧ k ∈ l ∧ l.length ≤ 10
theorem sset_row {n : Nat} {k : Int} {l : List Int} (h : ∀ x ∈ l, 0 ≤ x ∧ x < n) (hk : k ∈ l) (hl : l.length ≤ 10) : RowOk n k (isort (udup l)) := by
  have hm : ∀ x, x ∈ isort (udup l) ↔ x ∈ l := fun x => by
    unfold isort
    rw [List.mem_mergeSort, mem_udup]
  have hnd : (isort (udup l)).Nodup := (List.mergeSort_perm _ _).nodup_iff.mpr (nodup_udup l)
  refine ⟨?_, fun x hx => h x ((hm x).mp hx), (hm k).mpr hk, ?_⟩
  · have p := List.pairwise_mergeSort (le := fun a b : Int => decide (a ≤ b)) (fun a b c h1 h2 => by simp only [decide_eq_true_eq] at *; omega) (fun a b => by simp only [Bool.or_eq_true, decide_eq_true_eq]; omega) (udup l)
    have q := (List.nodup_iff_pairwise_ne.mp hnd)
    exact (p.and q).imp fun ⟨a, b⟩ => by
      have := of_decide_eq_true a
      omega
  · have : (isort (udup l)).length = (udup l).length := List.length_mergeSort _
    have g : ∀ l : List Int, (udup l).length ≤ l.length := fun l => by
      induction l with
      | nil => exact Nat.le_refl _
      | cons x l ih =>
        unfold udup
        split
        · simp only [List.length_cons]; omega
        · simp only [List.length_cons]; omega
    have := g l
    omega
theorem sFor_of {it : ItE} {t : Tg} {b : Sm} {δ δ1 : Env} {ds : List D} (h : it δ = .ok ds δ1) : sFor it t b δ = forL t b ds δ1 := by
  unfold sFor
  rw [h]
  rfl
theorem sSeq_of {a b : Sm} {δ δ1 : Env} (h : a δ = .nx δ1) : sSeq a b δ = b δ1 := by
  unfold sSeq
  rw [h]
theorem inner_ok {W : D} (hW : WL W) {n : Nat} (hn : 1 ≤ n) (hn2 : n ≤ 60) {ord : List Int} (ho : ord.Perm (rgI n)) {cu ex ix k : Int} (hc : cu ≤ n) (he : 1 ≤ ex) (he2 : ex ≤ 6) (hk : 0 ≤ k ∧ k < n) (md lf mn al x11 : Option D) :
    ∃ (W' : D) (l : List Int) (x' : Option D), WL W' ∧ (∀ x ∈ l, 0 ≤ x ∧ x < n) ∧ k ∈ l ∧ l.length ≤ 10 ∧
      sFor (iRng (eCallO f_law_draw 0 [(eV 7)])) (.n 11) (sApp 10 (e2 idxD (eV 4) (eCallO f_law_draw 0 [(e2 idxD (eLst [(eV 2), (e2 max2D (eC (.int 1)) (eV 6))]) (e1 intD (e2 ltD (eV 9) (eV 6))))])))
        [some W, md, some (.int n), lf, some (.lst (ord.map .int)), mn, some (.int cu), some (.int ex), al, some (.int ix), some (.lst [.int k]), x11]
      = .nx [some W', md, some (.int n), lf, some (.lst (ord.map .int)), mn, some (.int cu), some (.int ex), al, some (.int ix), some (.lst (l.map .int)), x'] := by
  have hlen : ord.length = n := by rw [ho.length_eq, rgI_len]
  obtain ⟨r, W1, hW1, r0, r1, ed⟩ := draw_ok hW (m := ex) (by omega) (by omega)
  have eit : iRng (eCallO f_law_draw 0 [(eV 7)]) [some W, md, some (.int n), lf, some (.lst (ord.map .int)), mn, some (.int cu), some (.int ex), al, some (.int ix), some (.lst [.int k]), x11] = .ok (rng 0 r.toNat) [some W1, md, some (.int n), lf, some (.lst (ord.map .int)), mn, some (.int cu), some (.int ex), al, some (.int ix), some (.lst [.int k]), x11] := by
    simp [Mi.sSeq, Mi.sAsg, Mi.sRet, Mi.sIf, Mi.sDo, Mi.sRaise, Mi.sFor, Mi.sPass, Mi.sBk, Mi.sCt, Mi.eV, Mi.eC, Mi.e1, Mi.e2, Mi.e3, Mi.eP, Mi.eO2, Mi.eL, Mi.eLst, Mi.eTup, Mi.eCh, Mi.eT, Mi.eAnd, Mi.eOr, Mi.eNot, Mi.eIf, Mi.Tg.put, Mi.setN, Mi.truth, Mi.iSeq, Mi.seqOf, Mi.fnM, Mi.startE, Mi.outsOf, Mi.isL, iRng, eCallO, ed, smInt_small (show -100 ≤ r by omega) (show r ≤ 10000 by omega)]
  rw [sFor_of eit]
  obtain ⟨δ', e, W', l, x', hW', h1, h2, h3, rfl⟩ := for_by (t := .n 11) (b := sApp 10 (e2 idxD (eV 4) (eCallO f_law_draw 0 [(e2 idxD (eLst [(eV 2), (e2 max2D (eC (.int 1)) (eV 6))]) (e1 intD (e2 ltD (eV 9) (eV 6))))]))) (ds := rng 0 r.toNat)
    (fun i δ => ∃ (W : D) (l : List Int) (x : Option D), WL W ∧ (∀ x ∈ l, 0 ≤ x ∧ x < (n : Int)) ∧ k ∈ l ∧ l.length ≤ 1 + i ∧ δ = [some W, md, some (.int n), lf, some (.lst (ord.map .int)), mn, some (.int cu), some (.int ex), al, some (.int ix), some (.lst (l.map .int)), x])
    (fun i d δ hd ⟨W, l, x, hW, h1, h2, h3, e⟩ => by
      subst e
      have hi : i < r.toNat := by
        have := (List.getElem?_eq_some_iff.mp hd).1
        simpa [rng] using this
      have ev : ∃ v : Int, 1 ≤ v ∧ v ≤ n ∧ (e2 idxD (eLst [(eV 2), (e2 max2D (eC (.int 1)) (eV 6))]) (Mi.e1 intD (e2 ltD (eV 9) (eV 6)))) [some W, md, some (.int n), lf, some (.lst (ord.map .int)), mn, some (.int cu), some (.int ex), al, some (.int ix), some (.lst (l.map .int)), some d] = .ok (.int v) [some W, md, some (.int n), lf, some (.lst (ord.map .int)), mn, some (.int cu), some (.int ex), al, some (.int ix), some (.lst (l.map .int)), some d] := by
        by_cases hx : ix < cu
        · refine ⟨if cu > 1 then cu else 1, by split <;> omega, by split <;> omega, ?_⟩
          simp [Mi.sSeq, Mi.sAsg, Mi.sRet, Mi.sIf, Mi.sDo, Mi.sRaise, Mi.sFor, Mi.sPass, Mi.sBk, Mi.sCt, Mi.eV, Mi.eC, Mi.e1, Mi.e2, Mi.e3, Mi.eP, Mi.eO2, Mi.eL, Mi.eLst, Mi.eTup, Mi.eCh, Mi.eT, Mi.eAnd, Mi.eOr, Mi.eNot, Mi.eIf, Mi.Tg.put, Mi.setN, Mi.truth, Mi.iSeq, Mi.seqOf, Mi.fnM, Mi.startE, Mi.outsOf, Mi.isL, max2D, cmpD, hx, intD, idxD, ixD]
        · refine ⟨n, by omega, by omega, ?_⟩
          simp [Mi.sSeq, Mi.sAsg, Mi.sRet, Mi.sIf, Mi.sDo, Mi.sRaise, Mi.sFor, Mi.sPass, Mi.sBk, Mi.sCt, Mi.eV, Mi.eC, Mi.e1, Mi.e2, Mi.e3, Mi.eP, Mi.eO2, Mi.eL, Mi.eLst, Mi.eTup, Mi.eCh, Mi.eT, Mi.eAnd, Mi.eOr, Mi.eNot, Mi.eIf, Mi.Tg.put, Mi.setN, Mi.truth, Mi.iSeq, Mi.seqOf, Mi.fnM, Mi.startE, Mi.outsOf, Mi.isL, max2D, cmpD, hx, intD, idxD, ixD]
      obtain ⟨v, v1, v2, ev⟩ := ev
      obtain ⟨j, W2, hW2, j0, j1, ed2⟩ := draw_ok hW (m := v) (by omega) (by omega)
      obtain ⟨y, ey, hy, ei, _⟩ := idx_ints (ns := ord) j0 (by omega)
      have hy2 := rgI_mem.mp (ho.mem_iff.mp hy)
      have ec : l.length < cap := cap_lt (by omega)
      refine ⟨[some W, md, some (.int n), lf, some (.lst (ord.map .int)), mn, some (.int cu), some (.int ex), al, some (.int ix), some (.lst (l.map .int)), some d], [some W2, md, some (.int n), lf, some (.lst (ord.map .int)), mn, some (.int cu), some (.int ex), al, some (.int ix), some (.lst ((l ++ [y]).map .int)), some d], rfl, .inl ?_, W2, l ++ [y], some d, hW2, ?_, by simp [h2], by simp; omega, rfl⟩
      · have e4 : (e2 idxD (eV 4) (eCallO f_law_draw 0 [(e2 idxD (eLst [(eV 2), (e2 max2D (eC (.int 1)) (eV 6))]) (Mi.e1 intD (e2 ltD (eV 9) (eV 6))))])) [some W, md, some (.int n), lf, some (.lst (ord.map .int)), mn, some (.int cu), some (.int ex), al, some (.int ix), some (.lst (l.map .int)), some d] = .ok (.int y) [some W2, md, some (.int n), lf, some (.lst (ord.map .int)), mn, some (.int cu), some (.int ex), al, some (.int ix), some (.lst (l.map .int)), some d] := by
          unfold e2
          simp only [eCallO, eL]
          rw [show (eV 4) [some W, md, some (.int n), lf, some (.lst (ord.map .int)), mn, some (.int cu), some (.int ex), al, some (.int ix), some (.lst (l.map .int)), some d] = .ok (.lst (ord.map .int)) [some W, md, some (.int n), lf, some (.lst (ord.map .int)), mn, some (.int cu), some (.int ex), al, some (.int ix), some (.lst (l.map .int)), some d] from rfl]
          simp only [Res.bind_ok]
          have ev' := ev
          unfold e2 at ev'
          rw [ev']
          simp [Mi.sSeq, Mi.sAsg, Mi.sRet, Mi.sIf, Mi.sDo, Mi.sRaise, Mi.sFor, Mi.sPass, Mi.sBk, Mi.sCt, Mi.eV, Mi.eC, Mi.e1, Mi.e2, Mi.e3, Mi.eP, Mi.eO2, Mi.eL, Mi.eLst, Mi.eTup, Mi.eCh, Mi.eT, Mi.eAnd, Mi.eOr, Mi.eNot, Mi.eIf, Mi.Tg.put, Mi.setN, Mi.truth, Mi.iSeq, Mi.seqOf, Mi.fnM, Mi.startE, Mi.outsOf, Mi.isL, ed2, ei]
        unfold sApp
        rw [e4]
        simp [Mi.sSeq, Mi.sAsg, Mi.sRet, Mi.sIf, Mi.sDo, Mi.sRaise, Mi.sFor, Mi.sPass, Mi.sBk, Mi.sCt, Mi.eV, Mi.eC, Mi.e1, Mi.e2, Mi.e3, Mi.eP, Mi.eO2, Mi.eL, Mi.eLst, Mi.eTup, Mi.eCh, Mi.eT, Mi.eAnd, Mi.eOr, Mi.eNot, Mi.eIf, Mi.Tg.put, Mi.setN, Mi.truth, Mi.iSeq, Mi.seqOf, Mi.fnM, Mi.startE, Mi.outsOf, Mi.isL, ec]
      · intro z hz
        rcases List.mem_append.mp hz with hz | hz
        · exact h1 z hz
        · simp at hz; subst hz; exact hy2) (δ := [some W1, md, some (.int n), lf, some (.lst (ord.map .int)), mn, some (.int cu), some (.int ex), al, some (.int ix), some (.lst [.int k]), x11]) ⟨W1, [k], x11, hW1, by simpa using hk, by simp, by simp, rfl⟩
  refine ⟨W', l, x', hW', h1, h2, ?_, e⟩
  have : (rng 0 r.toNat).length = r.toNat := by simp [rng]
  omega
theorem fnM_rt {n p : Nat} {own : List Nat} {b : Sm} {ds : List D} {δ : Env} {d : D} {o : List D} (hl : ds.length = p) (h : b (startE n ds) = .rt d δ) (ho : outsOf own δ = some o) : fnM n p own b ds = .ok d o := by
  unfold fnM
  rw [if_pos hl, h]
  simp [ho]
theorem fnM_nx {n p : Nat} {own : List Nat} {b : Sm} {ds : List D} {δ : Env} {o : List D} (hl : ds.length = p) (h : b (startE n ds) = .nx δ) (ho : outsOf own δ = some o) : fnM n p own b ds = .ok .non o := by
  unfold fnM
  rw [if_pos hl, h]
  simp [ho]
theorem fnM_exc {n p : Nat} {own : List Nat} {b : Sm} {ds : List D} {δ : Env} {c : Str} {d : D} (hl : ds.length = p) (h : b (startE n ds) = .exc c d δ) : fnM n p own b ds = .exc c d := by
  unfold fnM
  rw [if_pos hl, h]
theorem rows_ok {W : D} (hW : WL W) {n : Nat} (hn : 1 ≤ n) (hn2 : n ≤ 60) {ord : List Int} (ho : ord.Perm (rgI n)) {cu ex mn : Int} (hc : cu ≤ n) (he : 1 ≤ ex) (he2 : ex ≤ 6) (m0 : 0 ≤ mn) (m1 : mn ≤ n) (md lf : Option D) :
    ∃ (W' : D) (al : List (List Int)) (x9 x10 x11 : Option D), WL W' ∧ al.length = mn.toNat ∧ (∀ (j : Nat) (l : List Int) (k : Int), al[j]? = some l → ord[j]? = some k → RowOk n k l) ∧
      sFor (iRng (eV 5)) (.n 9) (sSeq (sAsg (.n 10) (eLst [(e2 idxD (eV 4) (eV 9))])) (sSeq (sFor (iRng (eCallO f_law_draw 0 [(eV 7)])) (.n 11) (sApp 10 (e2 idxD (eV 4) (eCallO f_law_draw 0 [(e2 idxD (eLst [(eV 2), (e2 max2D (eC (.int 1)) (eV 6))]) (Mi.e1 intD (e2 ltD (eV 9) (eV 6))))])))) (sApp 8 (Mi.e1 ssetD (eV 10)))))
        [some W, md, some (.int n), lf, some (.lst (ord.map .int)), some (.int mn), some (.int cu), some (.int ex), some (.lst []), none, none, none]
      = .nx [some W', md, some (.int n), lf, some (.lst (ord.map .int)), some (.int mn), some (.int cu), some (.int ex), some (.lst (lsD al)), x9, x10, x11] := by
  have hlen : ord.length = n := by rw [ho.length_eq, rgI_len]
  have eit : iRng (eV 5) [some W, md, some (.int n), lf, some (.lst (ord.map .int)), some (.int mn), some (.int cu), some (.int ex), some (.lst []), none, none, none] = .ok (rng 0 mn.toNat) [some W, md, some (.int n), lf, some (.lst (ord.map .int)), some (.int mn), some (.int cu), some (.int ex), some (.lst []), none, none, none] := by
    simp [Mi.sSeq, Mi.sAsg, Mi.sRet, Mi.sIf, Mi.sDo, Mi.sRaise, Mi.sFor, Mi.sPass, Mi.sBk, Mi.sCt, Mi.eV, Mi.eC, Mi.e1, Mi.e2, Mi.e3, Mi.eP, Mi.eO2, Mi.eL, Mi.eLst, Mi.eTup, Mi.eCh, Mi.eT, Mi.eAnd, Mi.eOr, Mi.eNot, Mi.eIf, Mi.Tg.put, Mi.setN, Mi.truth, Mi.iSeq, Mi.seqOf, Mi.fnM, Mi.startE, Mi.outsOf, Mi.isL, iRng, smInt_small (show -100 ≤ mn by omega) (show mn ≤ 10000 by omega)]
  rw [sFor_of eit]
  obtain ⟨δ', e, W', al, x9, x10, x11, hW', h1, h2, rfl⟩ := for_by (t := .n 9) (b := sSeq (sAsg (.n 10) (eLst [(e2 idxD (eV 4) (eV 9))])) (sSeq (sFor (iRng (eCallO f_law_draw 0 [(eV 7)])) (.n 11) (sApp 10 (e2 idxD (eV 4) (eCallO f_law_draw 0 [(e2 idxD (eLst [(eV 2), (e2 max2D (eC (.int 1)) (eV 6))]) (Mi.e1 intD (e2 ltD (eV 9) (eV 6))))])))) (sApp 8 (Mi.e1 ssetD (eV 10))))) (ds := rng 0 mn.toNat)
    (fun i δ => ∃ (W : D) (al : List (List Int)) (x9 x10 x11 : Option D), WL W ∧ al.length = i ∧ (∀ (j : Nat) (l : List Int) (k : Int), al[j]? = some l → ord[j]? = some k → RowOk n k l) ∧ δ = [some W, md, some (.int n), lf, some (.lst (ord.map .int)), some (.int mn), some (.int cu), some (.int ex), some (.lst (lsD al)), x9, x10, x11])
    (fun i d δ hd ⟨W, al, x9, x10, x11, hW, h1, h2, e⟩ => by
      subst e
      have hi : i < mn.toNat := by
        have := (List.getElem?_eq_some_iff.mp hd).1
        simpa [rng] using this
      have ed : d = .int (i : Int) := by
        have := (List.getElem?_eq_some_iff.mp hd).2
        simp [rng] at this
        exact this.symm
      subst ed
      obtain ⟨k, ek, hk, ei, _⟩ := idx_ints (ns := ord) (i := (i : Int)) (by omega) (by omega)
      have hk2 := rgI_mem.mp (ho.mem_iff.mp hk)
      obtain ⟨W1, l, x', hW1, g1, g2, g3, g4⟩ := inner_ok hW hn hn2 ho (ix := (i : Int)) (k := k) hc he he2 hk2 md lf (some (.int mn)) (some (.lst (lsD al))) x11
      have hrow := sset_row g1 g2 g3
      have ec : (lsD al).length < cap := cap_lt (by simp only [lsD, List.length_map]; omega)
      have e64 : l.length < 64 := by omega
      refine ⟨_, [some W1, md, some (.int n), lf, some (.lst (ord.map .int)), some (.int mn), some (.int cu), some (.int ex), some (.lst (lsD (al ++ [isort (udup l)]))), some (.int i), some (.lst (l.map .int)), x'], rfl, .inl ?_, W1, al ++ [isort (udup l)], _, _, _, hW1, by simp [h1], ?_, rfl⟩
      · have s1 : sAsg (.n 10) (eLst [(e2 idxD (eV 4) (eV 9))]) [some W, md, some (.int n), lf, some (.lst (ord.map .int)), some (.int mn), some (.int cu), some (.int ex), some (.lst (lsD al)), some (.int i), x10, x11] = .nx [some W, md, some (.int n), lf, some (.lst (ord.map .int)), some (.int mn), some (.int cu), some (.int ex), some (.lst (lsD al)), some (.int i), some (.lst [.int k]), x11] := by
          simp [Mi.sSeq, Mi.sAsg, Mi.sRet, Mi.sIf, Mi.sDo, Mi.sRaise, Mi.sFor, Mi.sPass, Mi.sBk, Mi.sCt, Mi.eV, Mi.eC, Mi.e1, Mi.e2, Mi.e3, Mi.eP, Mi.eO2, Mi.eL, Mi.eLst, Mi.eTup, Mi.eCh, Mi.eT, Mi.eAnd, Mi.eOr, Mi.eNot, Mi.eIf, Mi.Tg.put, Mi.setN, Mi.truth, Mi.iSeq, Mi.seqOf, Mi.fnM, Mi.startE, Mi.outsOf, Mi.isL, ei]
        show sSeq _ _ [some W, md, some (.int n), lf, some (.lst (ord.map .int)), some (.int mn), some (.int cu), some (.int ex), some (.lst (lsD al)), some (.int i), x10, x11] = _
        rw [sSeq_of s1, sSeq_of g4]
        simp [Mi.sSeq, Mi.sAsg, Mi.sRet, Mi.sIf, Mi.sDo, Mi.sRaise, Mi.sFor, Mi.sPass, Mi.sBk, Mi.sCt, Mi.eV, Mi.eC, Mi.e1, Mi.e2, Mi.e3, Mi.eP, Mi.eO2, Mi.eL, Mi.eLst, Mi.eTup, Mi.eCh, Mi.eT, Mi.eAnd, Mi.eOr, Mi.eNot, Mi.eIf, Mi.Tg.put, Mi.setN, Mi.truth, Mi.iSeq, Mi.seqOf, Mi.fnM, Mi.startE, Mi.outsOf, Mi.isL, sApp, ssetD, e64, ec]
        simp [lsD]
      · intro j l' k' hj hk'
        by_cases hji : j < al.length
        · rw [List.getElem?_append_left hji] at hj
          exact h2 j l' k' hj hk'
        · have : j = al.length := by
            have := (List.getElem?_eq_some_iff.mp hj).1
            simp at this
            omega
          subst this
          rw [List.getElem?_append_right (Nat.le_refl _)] at hj
          simp at hj
          subst hj
          rw [h1] at hk'
          simp at ek
          rw [ek] at hk'
          cases hk'
          exact hrow) (δ := [some W, md, some (.int n), lf, some (.lst (ord.map .int)), some (.int mn), some (.int cu), some (.int ex), some (.lst []), none, none, none]) ⟨W, [], none, none, none, hW, rfl, by simp, rfl⟩
  exact ⟨W', al, x9, x10, x11, hW', by simpa [rng] using h1, h2, e⟩
def BookOk (n : Nat) (al : List (List Int)) (tt : List Int) : Prop := 1 ≤ n ∧ n ≤ 60 ∧ al.length = tt.length ∧ tt.Nodup ∧ tt.length ≤ n ∧ ∀ (j : Nat) (l : List Int) (k : Int), al[j]? = some l → tt[j]? = some k → RowOk n k l
theorem slice_take {α : Type} {xs : List α} {i : Int} (h0 : 0 ≤ i) : cutD xs none (some i) = xs.take i.toNat := by
  unfold cutD
  have : ¬ i < 0 := by omega
  simp only [HT.sIx, this, if_false, List.drop_zero, Nat.sub_zero]
  by_cases h : i.toNat ≤ xs.length
  · rw [Nat.min_eq_left h]
  · rw [Nat.min_eq_right (by omega), List.take_length, List.take_of_length_le (by omega)]
theorem book_okM {W : D} (hW : WL W) {most : Int} (hm : 1 ≤ most) (hm2 : most ≤ 60) : ∃ (W' : D) (n : Nat) (al : List (List Int)) (tt : List Int), WL W' ∧ BookOk n al tt ∧ (n : Int) ≤ most ∧
    f_law_book [W, .int most] = .ok (.tup [.int n, .lst (lsD al), .tup (tt.map .int)]) [W'] := by
  obtain ⟨r1, W1, hW1, a0, a1, ed1⟩ := draw_ok hW (m := most) (by omega) (by omega)
  obtain ⟨r2, W2, hW2, b0, b1, ed2⟩ := draw_ok hW1 (m := 3) (by omega) (by omega)
  have es : ∃ n : Nat, 1 ≤ n ∧ n ≤ 60 ∧ (n : Int) ≤ most ∧ sAsg (.n 2) (e2 subD (eV 1) (e2 fdivD (eCallO f_law_draw 0 [(eV 1)]) (e2 idxD (eLst [(eC (.int 1)), (eC (.int 2)), (eC (.int 3))]) (eCallO f_law_draw 0 [(eC (.int 3))])))) [some W, some (.int most), none, none, none, none, none, none, none, none, none, none] = .nx [some W2, some (.int most), some (.int n), none, none, none, none, none, none, none, none, none] := by
    have hr : r2 = 0 ∨ r2 = 1 ∨ r2 = 2 := by omega
    rcases hr with rfl | rfl | rfl
    · refine ⟨(most - r1 / 1).toNat, by omega, by omega, by omega, ?_⟩
      simp [Mi.sSeq, Mi.sAsg, Mi.sRet, Mi.sIf, Mi.sDo, Mi.sRaise, Mi.sFor, Mi.sPass, Mi.sBk, Mi.sCt, Mi.eV, Mi.eC, Mi.e1, Mi.e2, Mi.e3, Mi.eP, Mi.eO2, Mi.eL, Mi.eLst, Mi.eTup, Mi.eCh, Mi.eT, Mi.eAnd, Mi.eOr, Mi.eNot, Mi.eIf, Mi.Tg.put, Mi.setN, Mi.truth, Mi.iSeq, Mi.seqOf, Mi.fnM, Mi.startE, Mi.outsOf, Mi.isL, eCallO, ed1, ed2, idxD, ixD, fdivD, subD]
      omega
    · refine ⟨(most - r1 / 2).toNat, by omega, by omega, by omega, ?_⟩
      simp [Mi.sSeq, Mi.sAsg, Mi.sRet, Mi.sIf, Mi.sDo, Mi.sRaise, Mi.sFor, Mi.sPass, Mi.sBk, Mi.sCt, Mi.eV, Mi.eC, Mi.e1, Mi.e2, Mi.e3, Mi.eP, Mi.eO2, Mi.eL, Mi.eLst, Mi.eTup, Mi.eCh, Mi.eT, Mi.eAnd, Mi.eOr, Mi.eNot, Mi.eIf, Mi.Tg.put, Mi.setN, Mi.truth, Mi.iSeq, Mi.seqOf, Mi.fnM, Mi.startE, Mi.outsOf, Mi.isL, eCallO, ed1, ed2, idxD, ixD, fdivD, subD]
      omega
    · refine ⟨(most - r1 / 3).toNat, by omega, by omega, by omega, ?_⟩
      simp [Mi.sSeq, Mi.sAsg, Mi.sRet, Mi.sIf, Mi.sDo, Mi.sRaise, Mi.sFor, Mi.sPass, Mi.sBk, Mi.sCt, Mi.eV, Mi.eC, Mi.e1, Mi.e2, Mi.e3, Mi.eP, Mi.eO2, Mi.eL, Mi.eLst, Mi.eTup, Mi.eCh, Mi.eT, Mi.eAnd, Mi.eOr, Mi.eNot, Mi.eIf, Mi.Tg.put, Mi.setN, Mi.truth, Mi.iSeq, Mi.seqOf, Mi.fnM, Mi.startE, Mi.outsOf, Mi.isL, eCallO, ed1, ed2, idxD, ixD, fdivD, subD]
      omega
  obtain ⟨n, n1, n2, n3, s1⟩ := es
  have ecn : -(cap : Int) ≤ n ∧ (n : Int) ≤ cap := ⟨by omega, by have := cap_60 (show n ≤ 10000 by omega); omega⟩
  have s2 : sAsg (.n 3) (eLrg (eV 2)) [some W2, some (.int most), some (.int n), none, none, none, none, none, none, none, none, none] = .nx [some W2, some (.int most), some (.int n), some (.lst (rng 0 n)), none, none, none, none, none, none, none, none] := by
    simp [Mi.sSeq, Mi.sAsg, Mi.sRet, Mi.sIf, Mi.sDo, Mi.sRaise, Mi.sFor, Mi.sPass, Mi.sBk, Mi.sCt, Mi.eV, Mi.eC, Mi.e1, Mi.e2, Mi.e3, Mi.eP, Mi.eO2, Mi.eL, Mi.eLst, Mi.eTup, Mi.eCh, Mi.eT, Mi.eAnd, Mi.eOr, Mi.eNot, Mi.eIf, Mi.Tg.put, Mi.setN, Mi.truth, Mi.iSeq, Mi.seqOf, Mi.fnM, Mi.startE, Mi.outsOf, Mi.isL, eLrg, ecn]
  have s3 : sAsg (.n 4) (eLst []) [some W2, some (.int most), some (.int n), some (.lst (rng 0 n)), none, none, none, none, none, none, none, none] = .nx [some W2, some (.int most), some (.int n), some (.lst (rng 0 n)), some (.lst []), none, none, none, none, none, none, none] := by
    simp [Mi.sSeq, Mi.sAsg, Mi.sRet, Mi.sIf, Mi.sDo, Mi.sRaise, Mi.sFor, Mi.sPass, Mi.sBk, Mi.sCt, Mi.eV, Mi.eC, Mi.e1, Mi.e2, Mi.e3, Mi.eP, Mi.eO2, Mi.eL, Mi.eLst, Mi.eTup, Mi.eCh, Mi.eT, Mi.eAnd, Mi.eOr, Mi.eNot, Mi.eIf, Mi.Tg.put, Mi.setN, Mi.truth, Mi.iSeq, Mi.seqOf, Mi.fnM, Mi.startE, Mi.outsOf, Mi.isL]
  obtain ⟨W3, ord, hW3, ho, s4⟩ := order_ok n2 hW2 (some (.int most)) [none, none, none, none, none, none, none]
  obtain ⟨r3, W4, hW4, c0, c1, ed3⟩ := draw_ok hW3 (m := (n : Int) + 1) (by omega) (by omega)
  obtain ⟨r4, W5, hW5, d0, d1, ed4⟩ := draw_ok hW4 (m := 6) (by omega) (by omega)
  have s5 : ∃ mn : Int, 0 ≤ mn ∧ mn ≤ n ∧ sAsg (.n 5) (e2 max2D (eC (.int 0)) (e2 subD (eV 2) (e2 idxD (eLst [(eC (.int 1)), (eC (.int 1)), (eC (.int 0)), (eC (.int 2)), (eC (.int 3)), (eCallO f_law_draw 0 [(e2 addD (eV 2) (eC (.int 1)))])]) (eCallO f_law_draw 0 [(eC (.int 6))])))) [some W3, some (.int most), some (.int n), some (.lst []), some (.lst (ord.map .int)), none, none, none, none, none, none, none] = .nx [some W5, some (.int most), some (.int n), some (.lst []), some (.lst (ord.map .int)), some (.int mn), none, none, none, none, none, none] := by
    have hv : ∃ v : Int, 0 ≤ v ∧ idxD (.lst [.int 1, .int 1, .int 0, .int 2, .int 3, .int r3]) (.int r4) = some (.int v) := by
      obtain ⟨k, _, hk, e, _⟩ := idx_ints (ns := [1, 1, 0, 2, 3, r3]) (i := r4) d0 (by simpa using d1)
      exact ⟨k, by simp at hk; omega, e⟩
    obtain ⟨v, v0, ev⟩ := hv
    refine ⟨if (n : Int) - v > 0 then n - v else 0, by split <;> omega, by split <;> omega, ?_⟩
    simp [Mi.sSeq, Mi.sAsg, Mi.sRet, Mi.sIf, Mi.sDo, Mi.sRaise, Mi.sFor, Mi.sPass, Mi.sBk, Mi.sCt, Mi.eV, Mi.eC, Mi.e1, Mi.e2, Mi.e3, Mi.eP, Mi.eO2, Mi.eL, Mi.eLst, Mi.eTup, Mi.eCh, Mi.eT, Mi.eAnd, Mi.eOr, Mi.eNot, Mi.eIf, Mi.Tg.put, Mi.setN, Mi.truth, Mi.iSeq, Mi.seqOf, Mi.fnM, Mi.startE, Mi.outsOf, Mi.isL, eCallO, ed3, ed4, addD, ev, max2D, subD]
  obtain ⟨mn, m0, m1, s5⟩ := s5
  obtain ⟨r5, W6, hW6, f0, f1, ed5⟩ := draw_ok hW5 (m := (n : Int) + 1) (by omega) (by omega)
  obtain ⟨r6, W7, hW7, g0, g1, ed6⟩ := draw_ok hW6 (m := 3) (by omega) (by omega)
  have s6 : ∃ cu : Int, cu ≤ n ∧ sAsg (.n 6) (e2 idxD (eLst [(eC (.int 0)), (eC (.int 0)), (eCallO f_law_draw 0 [(e2 addD (eV 2) (eC (.int 1)))])]) (eCallO f_law_draw 0 [(eC (.int 3))])) [some W5, some (.int most), some (.int n), some (.lst []), some (.lst (ord.map .int)), some (.int mn), none, none, none, none, none, none] = .nx [some W7, some (.int most), some (.int n), some (.lst []), some (.lst (ord.map .int)), some (.int mn), some (.int cu), none, none, none, none, none] := by
    have hv : ∃ v : Int, v ≤ n ∧ idxD (.lst [.int 0, .int 0, .int r5]) (.int r6) = some (.int v) := by
      obtain ⟨k, _, hk, e, _⟩ := idx_ints (ns := [0, 0, r5]) (i := r6) g0 (by simpa using g1)
      exact ⟨k, by simp at hk; omega, e⟩
    obtain ⟨v, v0, ev⟩ := hv
    refine ⟨v, v0, ?_⟩
    simp [Mi.sSeq, Mi.sAsg, Mi.sRet, Mi.sIf, Mi.sDo, Mi.sRaise, Mi.sFor, Mi.sPass, Mi.sBk, Mi.sCt, Mi.eV, Mi.eC, Mi.e1, Mi.e2, Mi.e3, Mi.eP, Mi.eO2, Mi.eL, Mi.eLst, Mi.eTup, Mi.eCh, Mi.eT, Mi.eAnd, Mi.eOr, Mi.eNot, Mi.eIf, Mi.Tg.put, Mi.setN, Mi.truth, Mi.iSeq, Mi.seqOf, Mi.fnM, Mi.startE, Mi.outsOf, Mi.isL, eCallO, ed5, ed6, addD, ev]
  obtain ⟨cu, hc, s6⟩ := s6
  obtain ⟨r7, W8, hW8, h0, h1, ed7⟩ := draw_ok hW7 (m := 4) (by omega) (by omega)
  have s7 : ∃ ex : Int, 1 ≤ ex ∧ ex ≤ 6 ∧ sAsg (.n 7) (e2 idxD (eLst [(eC (.int 2)), (eC (.int 3)), (eC (.int 4)), (eC (.int 6))]) (eCallO f_law_draw 0 [(eC (.int 4))])) [some W7, some (.int most), some (.int n), some (.lst []), some (.lst (ord.map .int)), some (.int mn), some (.int cu), none, none, none, none, none] = .nx [some W8, some (.int most), some (.int n), some (.lst []), some (.lst (ord.map .int)), some (.int mn), some (.int cu), some (.int ex), none, none, none, none] := by
    have hv : ∃ v : Int, 1 ≤ v ∧ v ≤ 6 ∧ idxD (.lst [.int 2, .int 3, .int 4, .int 6]) (.int r7) = some (.int v) := by
      obtain ⟨k, _, hk, e, _⟩ := idx_ints (ns := [2, 3, 4, 6]) (i := r7) h0 (by simpa using h1)
      exact ⟨k, by simp at hk; omega, by simp at hk; omega, e⟩
    obtain ⟨v, v0, v1, ev⟩ := hv
    refine ⟨v, v0, v1, ?_⟩
    simp [Mi.sSeq, Mi.sAsg, Mi.sRet, Mi.sIf, Mi.sDo, Mi.sRaise, Mi.sFor, Mi.sPass, Mi.sBk, Mi.sCt, Mi.eV, Mi.eC, Mi.e1, Mi.e2, Mi.e3, Mi.eP, Mi.eO2, Mi.eL, Mi.eLst, Mi.eTup, Mi.eCh, Mi.eT, Mi.eAnd, Mi.eOr, Mi.eNot, Mi.eIf, Mi.Tg.put, Mi.setN, Mi.truth, Mi.iSeq, Mi.seqOf, Mi.fnM, Mi.startE, Mi.outsOf, Mi.isL, eCallO, ed7, ev]
  obtain ⟨ex, e0, e6, s7⟩ := s7
  have s8 : sAsg (.n 8) (eLst []) [some W8, some (.int most), some (.int n), some (.lst []), some (.lst (ord.map .int)), some (.int mn), some (.int cu), some (.int ex), none, none, none, none] = .nx [some W8, some (.int most), some (.int n), some (.lst []), some (.lst (ord.map .int)), some (.int mn), some (.int cu), some (.int ex), some (.lst []), none, none, none] := by
    simp [Mi.sSeq, Mi.sAsg, Mi.sRet, Mi.sIf, Mi.sDo, Mi.sRaise, Mi.sFor, Mi.sPass, Mi.sBk, Mi.sCt, Mi.eV, Mi.eC, Mi.e1, Mi.e2, Mi.e3, Mi.eP, Mi.eO2, Mi.eL, Mi.eLst, Mi.eTup, Mi.eCh, Mi.eT, Mi.eAnd, Mi.eOr, Mi.eNot, Mi.eIf, Mi.Tg.put, Mi.setN, Mi.truth, Mi.iSeq, Mi.seqOf, Mi.fnM, Mi.startE, Mi.outsOf, Mi.isL]
  obtain ⟨W9, al, x9, x10, x11, hW9, hal, hrow, s9⟩ := rows_ok hW8 n1 n2 ho hc e0 e6 m0 m1 (some (.int most)) (some (.lst []))
  have s10 : sRet (eTup [(eV 2), (eV 8), (Mi.e1 tupleD (e3 slD (eV 4) none (some (eV 5))))]) [some W9, some (.int most), some (.int n), some (.lst []), some (.lst (ord.map .int)), some (.int mn), some (.int cu), some (.int ex), some (.lst (lsD al)), x9, x10, x11] = .rt (.tup [.int n, .lst (lsD al), .tup ((ord.take mn.toNat).map .int)]) [some W9, some (.int most), some (.int n), some (.lst []), some (.lst (ord.map .int)), some (.int mn), some (.int cu), some (.int ex), some (.lst (lsD al)), x9, x10, x11] := by
    simp [Mi.sSeq, Mi.sAsg, Mi.sRet, Mi.sIf, Mi.sDo, Mi.sRaise, Mi.sFor, Mi.sPass, Mi.sBk, Mi.sCt, Mi.eV, Mi.eC, Mi.e1, Mi.e2, Mi.e3, Mi.eP, Mi.eO2, Mi.eL, Mi.eLst, Mi.eTup, Mi.eCh, Mi.eT, Mi.eAnd, Mi.eOr, Mi.eNot, Mi.eIf, Mi.Tg.put, Mi.setN, Mi.truth, Mi.iSeq, Mi.seqOf, Mi.fnM, Mi.startE, Mi.outsOf, Mi.isL, slD, slice_take m0, tupleD, List.map_take]
  refine ⟨W9, n, al, ord.take mn.toNat, hW9, ⟨n1, n2, ?_, ?_, ?_, ?_⟩, n3, ?_⟩
  · rw [List.length_take, ho.length_eq, rgI_len, hal]; omega
  · exact (ho.nodup_iff.mpr (rgI_nodup n)).sublist (List.take_sublist _ _)
  · rw [List.length_take, ho.length_eq, rgI_len]; omega
  · intro j l k hj hk
    refine hrow j l k hj ?_
    rw [List.getElem?_take] at hk
    split at hk
    · exact hk
    · cases hk
  · have key : m_law_book [some W, some (.int most), none, none, none, none, none, none, none, none, none, none] = .rt (.tup [.int n, .lst (lsD al), .tup ((ord.take mn.toNat).map .int)]) [some W9, some (.int most), some (.int n), some (.lst []), some (.lst (ord.map .int)), some (.int mn), some (.int cu), some (.int ex), some (.lst (lsD al)), x9, x10, x11] := by
      unfold m_law_book
      rw [sSeq_of s1, sSeq_of s2, sSeq_of s3, sSeq_of s4, sSeq_of s5, sSeq_of s6, sSeq_of s7, sSeq_of s8, sSeq_of s9]
      exact s10
    have st : startE 12 [W, .int most] = [some W, some (.int most), none, none, none, none, none, none, none, none, none, none] := rfl
    rw [d_law_book]
    exact fnM_rt rfl (st ▸ key) rfl
theorem book_ok {W : D} (hW : WL W) {most : Int} (hm : 1 ≤ most) (hm2 : most ≤ 60) : ∃ (W' : D) (n : Nat) (al : List (List Int)) (tt : List Int), WL W' ∧ BookOk n al tt ∧
    f_law_book [W, .int most] = .ok (.tup [.int n, .lst (lsD al), .tup (tt.map .int)]) [W'] := by
  obtain ⟨W', n, al, tt, h1, h2, _, h3⟩ := book_okM hW hm hm2
  exact ⟨W', n, al, tt, h1, h2, h3⟩
theorem BookOk.bk {n : Nat} {al : List (List Int)} {tt : List Int} (h : BookOk n al tt) : BkOk n al ∧ TtOk al tt := by
  obtain ⟨h1, h2, h3, h4, h5, h6⟩ := h
  have row : ∀ l ∈ al, ∃ k, RowOk n k l := fun l hl => by
    obtain ⟨j, hj, e⟩ := List.getElem_of_mem hl
    have jt : j < tt.length := by rw [← h3]; exact hj
    exact ⟨tt[j], h6 j l tt[j] (by rw [← e]; exact List.getElem?_eq_getElem hj) (List.getElem?_eq_getElem jt)⟩
  refine ⟨⟨h1, h2, by omega, fun l hl => ?_, fun l hl => ?_, fun l hl => ?_⟩, ⟨h3.symm, h4, fun j l k a b => (h6 j l k a b).2.2.1⟩⟩
  · obtain ⟨k, hk⟩ := row l hl
    exact fun e => by rw [e] at hk; cases hk.2.2.1
  · obtain ⟨k, hk⟩ := row l hl; exact hk.1
  · obtain ⟨k, hk⟩ := row l hl; exact hk.2.1
end Mi

end
section
set_option linter.all false
set_option autoImplicit false
set_option maxRecDepth 20000
/-! the users of each slot -/
namespace Mi
open PySem PySem.Spec
def atU (us : List (List Int)) (s : Int) : List Int := (us[s.toNat]?).getD []
theorem addU_at {us : List (List Int)} {s ix : Int} (h0 : 0 ≤ s) (h1 : s < us.length) (hl : (atU us s).length < 1000000) : ∃ us', addU us s ix = some us' ∧ us'.length = us.length ∧ ∀ t : Int, 0 ≤ t → atU us' t = if t = s then atU us t ++ [ix] else atU us t := by
  have hs : s.toNat < us.length := by omega
  refine ⟨us.set s.toNat (atU us s ++ [ix]), ?_, List.length_set, fun t ht => ?_⟩
  · unfold addU ixD
    have e : us[s.toNat]? = some us[s.toNat] := List.getElem?_eq_getElem hs
    have e2 : atU us s = us[s.toNat] := by unfold atU; rw [e]; rfl
    rw [e2] at hl
    rw [if_pos h0, if_pos (by omega)]
    simp only [Option.bind_some, e, hl, if_true, e2]
  · unfold atU
    by_cases e : t = s
    · subst e
      rw [if_pos rfl, List.getElem?_set_self hs]
      rfl
    · rw [if_neg e, List.getElem?_set_ne (by omega)]
theorem rowU_at {ix : Int} {c : Nat} : ∀ {row : List Int} {us : List (List Int)}, row.Nodup → (∀ s ∈ row, 0 ≤ s ∧ s < us.length) → (∀ t : Int, 0 ≤ t → (atU us t).length ≤ c) → c < 1000000 → ∃ us', rowU ix (row.map .int) us = some us' ∧ us'.length = us.length ∧ ∀ t : Int, 0 ≤ t → atU us' t = if t ∈ row then atU us t ++ [ix] else atU us t
  | [], us, _, _, _, _ => ⟨us, rfl, rfl, fun t _ => by simp⟩
  | s :: row, us, nd, hr, hc, hb => by
    rw [List.nodup_cons] at nd
    obtain ⟨h0, h1⟩ := hr s List.mem_cons_self
    obtain ⟨us1, e1, l1, a1⟩ := addU_at (ix := ix) h0 h1 (Nat.lt_of_le_of_lt (hc s h0) hb)
    -- the other slots of the row are not yet touched
    have key : ∀ {row : List Int} {us1 : List (List Int)}, row.Nodup → (∀ t ∈ row, 0 ≤ t ∧ t < us1.length) → (∀ t ∈ row, (atU us1 t).length ≤ c) → ∃ us', rowU ix (row.map .int) us1 = some us' ∧ us'.length = us1.length ∧ ∀ t : Int, 0 ≤ t → atU us' t = if t ∈ row then atU us1 t ++ [ix] else atU us1 t := by
      intro row
      induction row with
      | nil => intro us1 _ _ _; exact ⟨us1, rfl, rfl, fun t _ => by simp⟩
      | cons u row ih =>
        intro us1 nd hr hc
        rw [List.nodup_cons] at nd
        obtain ⟨h0, h1⟩ := hr u List.mem_cons_self
        obtain ⟨us2, e2, l2, a2⟩ := addU_at (ix := ix) h0 h1 (Nat.lt_of_le_of_lt (hc u List.mem_cons_self) hb)
        obtain ⟨us', e3, l3, a3⟩ := ih (us1 := us2) nd.2 (fun t ht => by rw [l2]; exact hr t (List.mem_cons_of_mem _ ht)) (fun t ht => by
          rw [a2 t (hr t (List.mem_cons_of_mem _ ht)).1, if_neg (fun e => nd.1 (by rw [← e]; exact ht))]
          exact hc t (List.mem_cons_of_mem _ ht))
        refine ⟨us', ?_, by rw [l3, l2], fun t ht => ?_⟩
        · show (addU us1 u ix).bind (rowU ix (row.map .int)) = _
          rw [e2]; exact e3
        · rw [a3 t ht, a2 t ht]
          by_cases e : t = u
          · subst e; simp [nd.1]
          · by_cases m : t ∈ row <;> simp [e, m]
    exact key (row := s :: row) (us1 := us) (by rw [List.nodup_cons]; exact nd) hr fun t ht => hc t (hr t ht).1
theorem allU_at {c : Nat} : ∀ {al : List (List Int)} {k : Nat} {us : List (List Int)}, (∀ row ∈ al, row.Nodup ∧ ∀ s ∈ row, 0 ≤ s ∧ s < us.length) → (∀ t : Int, 0 ≤ t → (atU us t).length ≤ c) → c + al.length < 1000000 →
    ∃ us', allU k (lsD al) us = some us' ∧ us'.length = us.length ∧ ∀ t : Int, 0 ≤ t → atU us' t = atU us t ++ ((List.range al.length).filter fun j => decide (t ∈ (al[j]?).getD [])).map fun j => ((k + j : Nat) : Int)
  | [], k, us, _, _, _ => ⟨us, rfl, rfl, fun t _ => by simp⟩
  | row :: al, k, us, hr, hc, hb => by
    rw [List.length_cons] at hb
    obtain ⟨nd, rg⟩ := hr row List.mem_cons_self
    obtain ⟨us1, e1, l1, a1⟩ := rowU_at (ix := (k : Int)) nd rg hc (by omega)
    have hc1 : ∀ t : Int, 0 ≤ t → (atU us1 t).length ≤ c + 1 := fun t ht => by
      rw [a1 t ht]
      have := hc t ht
      split
      · rw [List.length_append, List.length_cons, List.length_nil]; omega
      · omega
    obtain ⟨us', e2, l2, a2⟩ := allU_at (al := al) (k := k + 1) (us := us1) (c := c + 1) (fun r h => by rw [l1]; exact hr r (List.mem_cons_of_mem _ h)) hc1 (by omega)
    refine ⟨us', ?_, by rw [l2, l1], fun t ht => ?_⟩
    · show (seqOf (D.lst (row.map .int))).bind (fun xs => (rowU (k : Int) xs us).bind (allU (k + 1) (lsD al))) = _
      show (rowU (k : Int) (row.map .int) us).bind (allU (k + 1) (lsD al)) = _
      rw [e1]
      exact e2
    · rw [a2 t ht, a1 t ht, List.length_cons, List.range_succ_eq_map, List.filter_cons]
      simp only [List.getElem?_cons_zero, Option.getD_some]
      have e : (List.map (fun j => ((k + j : Nat) : Int)) (List.filter (fun j => decide (t ∈ ((row :: al)[j]?).getD [])) (List.map Nat.succ (List.range al.length)))) = (List.map (fun j => ((k + 1 + j : Nat) : Int)) (List.filter (fun j => decide (t ∈ (al[j]?).getD [])) (List.range al.length))) := by
        rw [List.filter_map, List.map_map]
        have e3 : ((fun j => decide (t ∈ ((row :: al)[j]?).getD [])) ∘ Nat.succ) = fun j => decide (t ∈ (al[j]?).getD []) := by
          funext j; simp
        rw [e3]
        refine List.map_congr_left fun j _ => ?_
        simp only [Function.comp_def]
        omega
      by_cases m : t ∈ row
      · simp only [m, if_true, decide_true, List.map_cons, List.append_assoc, List.cons_append, List.nil_append]
        rw [e]
        rfl
      · simp only [m, if_false, decide_false]
        rw [if_neg Bool.false_ne_true, e]
/-- who may use slot s -/
def usr (al : List (List Int)) (s : Int) : List Int := ((List.range al.length).filter fun j => decide (s ∈ (al[j]?).getD [])).map fun (j : Nat) => (j : Int)
def usOf (n : Nat) (al : List (List Int)) : List (List Int) := (rgI n).map (usr al)
theorem usr_mem {al : List (List Int)} {s i : Int} : i ∈ usr al s ↔ 0 ≤ i ∧ ∃ l, al[i.toNat]? = some l ∧ s ∈ l := by
  unfold usr
  rw [List.mem_map]
  constructor
  · rintro ⟨j, hj, rfl⟩
    rw [List.mem_filter, List.mem_range] at hj
    refine ⟨by omega, ?_⟩
    have e : al[j]? = some al[j] := List.getElem?_eq_getElem hj.1
    refine ⟨al[j], by rw [← e]; rfl, ?_⟩
    have := hj.2
    rw [e] at this
    simpa using this
  · rintro ⟨h0, l, e, hs⟩
    have hl := (List.getElem?_eq_some_iff.mp e).1
    refine ⟨i.toNat, List.mem_filter.mpr ⟨List.mem_range.mpr hl, by rw [e]; simpa using hs⟩, by omega⟩
theorem usr_len (al : List (List Int)) (s : Int) : (usr al s).length ≤ al.length := by
  unfold usr
  rw [List.length_map]
  exact Nat.le_trans (List.length_filter_le _ _) (by simp)
theorem allU_ok {n : Nat} {al : List (List Int)} (h : BkOk n al) : allU 0 (lsD al) (List.replicate n []) = some (usOf n al) := by
  obtain ⟨us', e, l, a⟩ := allU_at (al := al) (k := 0) (us := List.replicate n []) (c := 0) (fun row hr => ⟨by
      rw [List.nodup_iff_pairwise_ne]; exact (h.asc row hr).imp fun a e => by omega, fun s hs => by rw [List.length_replicate]; exact h.rng row hr s hs⟩) (fun t _ => by
      unfold atU
      rw [List.getElem?_replicate]
      split <;> simp) (by have := h.len; omega)
  rw [e]
  congr 1
  rw [List.length_replicate] at l
  refine List.ext_getElem? fun i => ?_
  by_cases hi : i < n
  · have h1 := a (i : Int) (by omega)
    unfold atU at h1
    rw [Int.toNat_natCast, List.getElem?_replicate, if_pos hi, List.getElem?_eq_getElem (by omega)] at h1
    rw [List.getElem?_eq_getElem (by omega)]
    unfold usOf rgI
    rw [List.map_map, List.getElem?_map, List.getElem?_range hi]
    simp only [Option.getD_some, List.nil_append] at h1
    rw [h1]
    simp [usr, Function.comp_def]
  · rw [List.getElem?_eq_none (by omega), List.getElem?_eq_none (by unfold usOf; rw [List.length_map, rgI_len]; omega)]
def bookD (n : Nat) (al : List (List Int)) : D := .obj "Book" [("total", .int n), ("rows", .lst (tpD al)), ("users", usD (usOf n al))]
theorem fld_total (n : Nat) (al : List (List Int)) : fldD "Book" "total" (bookD n al) = some (.int n) := by
  unfold bookD
  show (if ("Book" : Str) = "Book" then _ else none) = _
  rw [if_pos rfl]
  rfl
theorem fld_rows (n : Nat) (al : List (List Int)) : fldD "Book" "rows" (bookD n al) = some (.lst (tpD al)) := by
  unfold bookD
  show (if ("Book" : Str) = "Book" then _ else none) = _
  rw [if_pos rfl]
  rfl
theorem fld_users (n : Nat) (al : List (List Int)) : fldD "Book" "users" (bookD n al) = some (usD (usOf n al)) := by
  unfold bookD
  show (if ("Book" : Str) = "Book" then _ else none) = _
  rw [if_pos rfl]
  rfl
theorem bk_look {m : Str} {fs : List D} (n : Nat) (al : List (List Int)) (h1 : (m == ("total" : Str)) = false) (h2 : (m == ("rows" : Str)) = false) (h3 : (m == ("users" : Str)) = false) : (List.lookup m [(("total" : Str), D.int n), ("rows", .lst (tpD al)), ("users", usD (usOf n al))]).isNone = true := by
  simp [List.lookup, h1, h2, h3]
/-- a method of the book -/
theorem bk_meth {n : Nat} {al : List (List Int)} {m : Str} {f : List D → Fr} {as : List Ex} {δ0 : Env} (h1 : (m == ("total" : Str)) = false) (h2 : (m == ("rows" : Str)) = false) (h3 : (m == ("users" : Str)) = false) : methR "Book" m f as (bookD n al) δ0 = (eL as δ0).bind fun ds δ1 => frV (f (bookD n al :: ds)) δ1 := by
  show (if ("Book" : Str) = "Book" ∧ _ then _ else _) = _
  rw [if_pos ⟨rfl, bk_look (fs := []) n al h1 h2 h3⟩]
  rfl
@[simp] theorem bk_size {n : Nat} {al : List (List Int)} {f : List D → Fr} {as : List Ex} {δ0 : Env} : methR "Book" "size" f as (bookD n al) δ0 = (eL as δ0).bind fun ds δ1 => frV (f (bookD n al :: ds)) δ1 := bk_meth (by decide) (by decide) (by decide)
@[simp] theorem bk_allowed {n : Nat} {al : List (List Int)} {f : List D → Fr} {as : List Ex} {δ0 : Env} : methR "Book" "allowed" f as (bookD n al) δ0 = (eL as δ0).bind fun ds δ1 => frV (f (bookD n al :: ds)) δ1 := bk_meth (by decide) (by decide) (by decide)
@[simp] theorem bk_capp {n : Nat} {al : List (List Int)} {f : List D → Fr} {as : List Ex} {δ0 : Env} : methR "Book" "check_appointment" f as (bookD n al) δ0 = (eL as δ0).bind fun ds δ1 => frV (f (bookD n al :: ds)) δ1 := bk_meth (by decide) (by decide) (by decide)
@[simp] theorem bk_cslot {n : Nat} {al : List (List Int)} {f : List D → Fr} {as : List Ex} {δ0 : Env} : methR "Book" "check_slot" f as (bookD n al) δ0 = (eL as δ0).bind fun ds δ1 => frV (f (bookD n al :: ds)) δ1 := bk_meth (by decide) (by decide) (by decide)
end Mi

end
section
set_option linter.all false
set_option autoImplicit false
set_option maxRecDepth 20000
namespace Mi
open PySem PySem.Spec
/-! the package's books -/
def isI : D → Bool
  | .int _ => true
  | _ => false
theorem is_int_ok {d : D} (h : (tyN d).isSome = true) : f_is_int [d] = .ok (.bl (isI d)) [] := by
  cases d with
  | dit => cases h
  | obj => cases h
  | _ => simp [Mi.sSeq, Mi.sAsg, Mi.sRet, Mi.sIf, Mi.sDo, Mi.sRaise, Mi.sFor, Mi.sPass, Mi.sBk, Mi.sCt, Mi.eV, Mi.eC, Mi.e1, Mi.e2, Mi.e3, Mi.eP, Mi.eO2, Mi.eL, Mi.eLst, Mi.eTup, Mi.eCh, Mi.eT, Mi.eAnd, Mi.eOr, Mi.eNot, Mi.eIf, Mi.Tg.put, Mi.setN, Mi.truth, Mi.iSeq, Mi.seqOf, Mi.fnM, Mi.startE, Mi.outsOf, Mi.isL, d_is_int, m_is_int, isD, tyN, tyB, isI]
@[simp] theorem is_int_int (i : Int) : f_is_int [.int i] = .ok (.bl true) [] := is_int_ok rfl
theorem cut_tail {α : Type} {xs : List α} : cutD xs (some 1) none = xs.drop 1 := by
  unfold cutD
  simp only [HT.sIx]
  cases xs with
  | nil => rfl
  | cons x xs => simp
theorem zip_lt : ∀ {l : List Int}, l.Pairwise (· < ·) → ∀ p ∈ l.zip (l.drop 1), p.1 < p.2
  | [], _, _, h => by simp at h
  | [x], _, _, h => by simp at h
  | x :: y :: r, hp, p, h => by
    rw [List.pairwise_cons] at hp
    rcases List.mem_cons.mp (show p ∈ (x, y) :: (y :: r).zip ((y :: r).drop 1) from h) with e | e
    · subst e; exact hp.1 y List.mem_cons_self
    · exact zip_lt hp.2 p e
theorem slot_list_ok {n : Nat} {l : List Int} (ha : l.Pairwise (· < ·)) (hr : ∀ x ∈ l, 0 ≤ x ∧ x < n) (hl : l.length ≤ 1000) : f_is_slot_list [.lst (l.map .int), .int n] = .ok (.bl true) [] := by
  refine e_is_slot_list rfl ?_
  unfold m_is_slot_list
  have h1 : ∀ a ∈ l, 0 ≤ a := fun a h => (hr a h).1
  have h2 : ∀ a ∈ l, a < n := fun a h => (hr a h).2
  have c1 : l.length ≤ cap := cap_60 (by omega)
  have c2 : (l.zip (l.drop 1)).length ≤ cap := cap_60 (by simp; omega)
  have c3 : cutD (l.map D.int) (some 1) none = l.tail.map .int := by rw [cut_tail, List.drop_one, tail_mp]
  have d1 : (l.all fun x => decide (0 ≤ x) && decide (x < (n : Int))) = true := by
    rw [List.all_eq_true]; intro x hx; simp [h1 x hx, h2 x hx]
  have d2 : ((l.zip l.tail).all fun x => decide (x.1 < x.2)) = true := by
    rw [List.all_eq_true]; intro x hx; simp [zip_lt ha x (by rw [List.drop_one]; exact hx)]
  have c4 := Nat.le_succ_of_le c1
  simp (maxDischargeDepth := 7) [List.getElem?_cons_zero, List.getElem?_cons_succ, Mi.bind_out, Mi.bind_bind, Mi.sq_asg, Mi.sq_do, Mi.sq_ret, Mi.sq_raise, Mi.sq_seq, Mi.sq_pass, Mi.sq_if, Mi.sq_app, Mi.sq_setI, Mi.sq_setK, Mi.sq_ct, Mi.sq_bk, Mi.x_V, Mi.x_C, Mi.x_1, Mi.x_2, Mi.x_O2, Mi.x_P0, Mi.x_P1, Mi.x_3, Mi.x_O3, Mi.x_And, Mi.x_Or, Mi.x_Not, Mi.x_If, Mi.x_L0, Mi.x_L1, Mi.x_Tup, Mi.x_Lst, Mi.x_Ch, Mi.x_Call, Mi.x_CallO, Mi.x_CallP, Mi.x_CallN, Mi.x_Meth, Mi.x_Seq, Mi.x_Rng, Mi.x_Rng2, Mi.x_Enum, Mi.x_Zip, Mi.x_Zip3, Mi.x_Ix, Mi.x_Make, Mi.x_Try, Mi.x_TryO, Mi.sq_try, Mi.sq_tryO, Mi.x_setF, Mi.sq_setF, Mi.isD, Mi.tyN, Mi.tyB, Mi.x_pass, Mi.x_asg, Mi.x_do, Mi.x_ret, Mi.x_raise, Mi.x_if, Mi.x_bk, Mi.x_ct, Mi.x_app, Mi.x_setI, Mi.x_setK, Mi.x_pop, Mi.x_isL, Mi.x_tn, Mi.x_t0, Mi.x_st0, Mi.x_st1, Mi.x_rest0, Mi.x_rest1, Mi.x_putn, Mi.x_putt, Mi.x_set0, Mi.x_set1, Mi.x_out0, Mi.x_out1, Mi.truth, Mi.seqOf, Mi.startE, Mi.pE_tup, Mi.wipe0, Mi.wipe1, Option.getD_some, Mi.isBl_ite, Mi.toB_ite, Mi.allD_map, Mi.anyD_map, Mi.filter_tt, -List.mem_map, List.forall_mem_map, -List.map_tail, -List.map_take, -List.map_drop, Mi.take_mp, Mi.drop_mp, Mi.tail_mp, Mi.min_cap, List.length_zip, Mi.zip2_map, Mi.okV_ite, Mi.okB_ite, Mi.getV_ite, Mi.getB_ite, Mi.bind_ite, Mi.out_ite, Mi.lc_s, Mi.lc_sS, Mi.lc_sN, Mi.lc_sM, List.filter_map, List.map_map, Function.comp_def, c1, cmpD, slD, c3, d1, c4, d2]
theorem tot_ne : (("total" : Str) = ("rows" : Str)) = False ∧ (("total" : Str) = ("users" : Str)) = False ∧ (("rows" : Str) = ("users" : Str)) = False := by
  refine ⟨?_, ?_, ?_⟩ <;> exact eq_false (by decide)
theorem init_ok {n : Nat} {al : List (List Int)} (h : BkOk n al) : f_Book_init [.obj "Book" [], .int n, .lst (lsD al)] = .ok .non [bookD n al] := by
  refine e_Book_init rfl ?_
  unfold m_Book_init
  have a1 : (1 : Int) ≤ n := by have := h.n1; omega
  have a2 : (n : Int) ≤ 60 := by have := h.n60; omega
  have a3 : ¬ (60 : Int) < (al.length : Nat) := by have := h.len; omega
  have l1 : (lsD al).length = al.length := by simp [lsD]
  simp (maxDischargeDepth := 7) [List.getElem?_cons_zero, List.getElem?_cons_succ, Mi.bind_out, Mi.bind_bind, Mi.sq_asg, Mi.sq_do, Mi.sq_ret, Mi.sq_raise, Mi.sq_seq, Mi.sq_pass, Mi.sq_if, Mi.sq_app, Mi.sq_setI, Mi.sq_setK, Mi.sq_ct, Mi.sq_bk, Mi.x_V, Mi.x_C, Mi.x_1, Mi.x_2, Mi.x_O2, Mi.x_P0, Mi.x_P1, Mi.x_3, Mi.x_O3, Mi.x_And, Mi.x_Or, Mi.x_Not, Mi.x_If, Mi.x_L0, Mi.x_L1, Mi.x_Tup, Mi.x_Lst, Mi.x_Ch, Mi.x_Call, Mi.x_CallO, Mi.x_CallP, Mi.x_CallN, Mi.x_Meth, Mi.x_Seq, Mi.x_Rng, Mi.x_Rng2, Mi.x_Enum, Mi.x_Zip, Mi.x_Zip3, Mi.x_Ix, Mi.x_Make, Mi.x_Try, Mi.x_TryO, Mi.sq_try, Mi.sq_tryO, Mi.x_setF, Mi.sq_setF, Mi.isD, Mi.tyN, Mi.tyB, Mi.x_pass, Mi.x_asg, Mi.x_do, Mi.x_ret, Mi.x_raise, Mi.x_if, Mi.x_bk, Mi.x_ct, Mi.x_app, Mi.x_setI, Mi.x_setK, Mi.x_pop, Mi.x_isL, Mi.x_tn, Mi.x_t0, Mi.x_st0, Mi.x_st1, Mi.x_rest0, Mi.x_rest1, Mi.x_putn, Mi.x_putt, Mi.x_set0, Mi.x_set1, Mi.x_out0, Mi.x_out1, Mi.truth, Mi.seqOf, Mi.startE, Mi.pE_tup, Mi.wipe0, Mi.wipe1, Option.getD_some, Mi.isBl_ite, Mi.toB_ite, Mi.allD_map, Mi.anyD_map, Mi.filter_tt, -List.mem_map, List.forall_mem_map, -List.map_tail, -List.map_take, -List.map_drop, Mi.take_mp, Mi.drop_mp, Mi.tail_mp, Mi.min_cap, List.length_zip, Mi.zip2_map, Mi.okV_ite, Mi.okB_ite, Mi.getV_ite, Mi.getB_ite, Mi.bind_ite, Mi.out_ite, Mi.lc_s, Mi.lc_sS, Mi.lc_sN, Mi.lc_sM, List.filter_map, List.map_map, Function.comp_def, cmpD, a1, a2, lenD, l1, a3, negD]
  refine q_for (as := al) (f := fun i l => .tup [.int i, .lst (l.map .int)]) rfl its_enum (fun δ0 i δ => ∃ x y, δ = stE δ0 [(3, x), (4, y)]) ⟨none, none, by simp (maxDischargeDepth := 7) [List.getElem?_cons_zero, List.getElem?_cons_succ, Mi.bind_out, Mi.bind_bind, Mi.sq_asg, Mi.sq_do, Mi.sq_ret, Mi.sq_raise, Mi.sq_seq, Mi.sq_pass, Mi.sq_if, Mi.sq_app, Mi.sq_setI, Mi.sq_setK, Mi.sq_ct, Mi.sq_bk, Mi.x_V, Mi.x_C, Mi.x_1, Mi.x_2, Mi.x_O2, Mi.x_P0, Mi.x_P1, Mi.x_3, Mi.x_O3, Mi.x_And, Mi.x_Or, Mi.x_Not, Mi.x_If, Mi.x_L0, Mi.x_L1, Mi.x_Tup, Mi.x_Lst, Mi.x_Ch, Mi.x_Call, Mi.x_CallO, Mi.x_CallP, Mi.x_CallN, Mi.x_Meth, Mi.x_Seq, Mi.x_Rng, Mi.x_Rng2, Mi.x_Enum, Mi.x_Zip, Mi.x_Zip3, Mi.x_Ix, Mi.x_Make, Mi.x_Try, Mi.x_TryO, Mi.sq_try, Mi.sq_tryO, Mi.x_setF, Mi.sq_setF, Mi.isD, Mi.tyN, Mi.tyB, Mi.x_pass, Mi.x_asg, Mi.x_do, Mi.x_ret, Mi.x_raise, Mi.x_if, Mi.x_bk, Mi.x_ct, Mi.x_app, Mi.x_setI, Mi.x_setK, Mi.x_pop, Mi.x_isL, Mi.x_tn, Mi.x_t0, Mi.x_st0, Mi.x_st1, Mi.x_rest0, Mi.x_rest1, Mi.x_putn, Mi.x_putt, Mi.x_set0, Mi.x_set1, Mi.x_out0, Mi.x_out1, Mi.truth, Mi.seqOf, Mi.startE, Mi.pE_tup, Mi.wipe0, Mi.wipe1, Option.getD_some, Mi.isBl_ite, Mi.toB_ite, Mi.allD_map, Mi.anyD_map, Mi.filter_tt, -List.mem_map, List.forall_mem_map, -List.map_tail, -List.map_take, -List.map_drop, Mi.take_mp, Mi.drop_mp, Mi.tail_mp, Mi.min_cap, List.length_zip, Mi.zip2_map, Mi.okV_ite, Mi.okB_ite, Mi.getV_ite, Mi.getB_ite, Mi.bind_ite, Mi.out_ite, Mi.lc_s, Mi.lc_sS, Mi.lc_sN, Mi.lc_sM, List.filter_map, List.map_map, Function.comp_def]⟩ ?_ ?_
  · rintro i row δ hr ⟨x, y, rfl⟩
    have hm := List.mem_of_getElem? hr
    have e1 := slot_list_ok (n := n) (h.asc row hm) (h.rng row hm) (by have := h.row_len hm; have := h.n60; omega)
    have e2 := eq_nil (ok_ints row)
    have e3 : row.isEmpty = false := by have := h.ne row hm; simpa using this
    simp only [List.isEmpty_map, e3] at e2
    simp (maxDischargeDepth := 7) [List.getElem?_cons_zero, List.getElem?_cons_succ, Mi.bind_out, Mi.bind_bind, Mi.sq_asg, Mi.sq_do, Mi.sq_ret, Mi.sq_raise, Mi.sq_seq, Mi.sq_pass, Mi.sq_if, Mi.sq_app, Mi.sq_setI, Mi.sq_setK, Mi.sq_ct, Mi.sq_bk, Mi.x_V, Mi.x_C, Mi.x_1, Mi.x_2, Mi.x_O2, Mi.x_P0, Mi.x_P1, Mi.x_3, Mi.x_O3, Mi.x_And, Mi.x_Or, Mi.x_Not, Mi.x_If, Mi.x_L0, Mi.x_L1, Mi.x_Tup, Mi.x_Lst, Mi.x_Ch, Mi.x_Call, Mi.x_CallO, Mi.x_CallP, Mi.x_CallN, Mi.x_Meth, Mi.x_Seq, Mi.x_Rng, Mi.x_Rng2, Mi.x_Enum, Mi.x_Zip, Mi.x_Zip3, Mi.x_Ix, Mi.x_Make, Mi.x_Try, Mi.x_TryO, Mi.sq_try, Mi.sq_tryO, Mi.x_setF, Mi.sq_setF, Mi.isD, Mi.tyN, Mi.tyB, Mi.x_pass, Mi.x_asg, Mi.x_do, Mi.x_ret, Mi.x_raise, Mi.x_if, Mi.x_bk, Mi.x_ct, Mi.x_app, Mi.x_setI, Mi.x_setK, Mi.x_pop, Mi.x_isL, Mi.x_tn, Mi.x_t0, Mi.x_st0, Mi.x_st1, Mi.x_rest0, Mi.x_rest1, Mi.x_putn, Mi.x_putt, Mi.x_set0, Mi.x_set1, Mi.x_out0, Mi.x_out1, Mi.truth, Mi.seqOf, Mi.startE, Mi.pE_tup, Mi.wipe0, Mi.wipe1, Option.getD_some, Mi.isBl_ite, Mi.toB_ite, Mi.allD_map, Mi.anyD_map, Mi.filter_tt, -List.mem_map, List.forall_mem_map, -List.map_tail, -List.map_take, -List.map_drop, Mi.take_mp, Mi.drop_mp, Mi.tail_mp, Mi.min_cap, List.length_zip, Mi.zip2_map, Mi.okV_ite, Mi.okB_ite, Mi.getV_ite, Mi.getB_ite, Mi.bind_ite, Mi.out_ite, Mi.lc_s, Mi.lc_sS, Mi.lc_sN, Mi.lc_sM, List.filter_map, List.map_map, Function.comp_def, e1, e2]
    exact hd ⟨_, _, rfl⟩
  · rintro δ ⟨x, y, rfl⟩
    have c1 : al.length ≤ cap := cap_60 (by have := h.len; omega)
    have u := allU_ok h
    have n1 : (n : Int) ≤ 1000 := by omega
    simp (maxDischargeDepth := 7) [List.getElem?_cons_zero, List.getElem?_cons_succ, Mi.bind_out, Mi.bind_bind, Mi.sq_asg, Mi.sq_do, Mi.sq_ret, Mi.sq_raise, Mi.sq_seq, Mi.sq_pass, Mi.sq_if, Mi.sq_app, Mi.sq_setI, Mi.sq_setK, Mi.sq_ct, Mi.sq_bk, Mi.x_V, Mi.x_C, Mi.x_1, Mi.x_2, Mi.x_O2, Mi.x_P0, Mi.x_P1, Mi.x_3, Mi.x_O3, Mi.x_And, Mi.x_Or, Mi.x_Not, Mi.x_If, Mi.x_L0, Mi.x_L1, Mi.x_Tup, Mi.x_Lst, Mi.x_Ch, Mi.x_Call, Mi.x_CallO, Mi.x_CallP, Mi.x_CallN, Mi.x_Meth, Mi.x_Seq, Mi.x_Rng, Mi.x_Rng2, Mi.x_Enum, Mi.x_Zip, Mi.x_Zip3, Mi.x_Ix, Mi.x_Make, Mi.x_Try, Mi.x_TryO, Mi.sq_try, Mi.sq_tryO, Mi.x_setF, Mi.sq_setF, Mi.isD, Mi.tyN, Mi.tyB, Mi.x_pass, Mi.x_asg, Mi.x_do, Mi.x_ret, Mi.x_raise, Mi.x_if, Mi.x_bk, Mi.x_ct, Mi.x_app, Mi.x_setI, Mi.x_setK, Mi.x_pop, Mi.x_isL, Mi.x_tn, Mi.x_t0, Mi.x_st0, Mi.x_st1, Mi.x_rest0, Mi.x_rest1, Mi.x_putn, Mi.x_putt, Mi.x_set0, Mi.x_set1, Mi.x_out0, Mi.x_out1, Mi.truth, Mi.seqOf, Mi.startE, Mi.pE_tup, Mi.wipe0, Mi.wipe1, Option.getD_some, Mi.isBl_ite, Mi.toB_ite, Mi.allD_map, Mi.anyD_map, Mi.filter_tt, -List.mem_map, List.forall_mem_map, -List.map_tail, -List.map_take, -List.map_drop, Mi.take_mp, Mi.drop_mp, Mi.tail_mp, Mi.min_cap, List.length_zip, Mi.zip2_map, Mi.okV_ite, Mi.okB_ite, Mi.getV_ite, Mi.getB_ite, Mi.bind_ite, Mi.out_ite, Mi.lc_s, Mi.lc_sS, Mi.lc_sN, Mi.lc_sM, List.filter_map, List.map_map, Function.comp_def, putD, tot_ne, tupleD, l1, c1, lsD]
    unfold gUsers
    unfold lsD at u
    simp (maxDischargeDepth := 7) [List.getElem?_cons_zero, List.getElem?_cons_succ, Mi.bind_out, Mi.bind_bind, Mi.sq_asg, Mi.sq_do, Mi.sq_ret, Mi.sq_raise, Mi.sq_seq, Mi.sq_pass, Mi.sq_if, Mi.sq_app, Mi.sq_setI, Mi.sq_setK, Mi.sq_ct, Mi.sq_bk, Mi.x_V, Mi.x_C, Mi.x_1, Mi.x_2, Mi.x_O2, Mi.x_P0, Mi.x_P1, Mi.x_3, Mi.x_O3, Mi.x_And, Mi.x_Or, Mi.x_Not, Mi.x_If, Mi.x_L0, Mi.x_L1, Mi.x_Tup, Mi.x_Lst, Mi.x_Ch, Mi.x_Call, Mi.x_CallO, Mi.x_CallP, Mi.x_CallN, Mi.x_Meth, Mi.x_Seq, Mi.x_Rng, Mi.x_Rng2, Mi.x_Enum, Mi.x_Zip, Mi.x_Zip3, Mi.x_Ix, Mi.x_Make, Mi.x_Try, Mi.x_TryO, Mi.sq_try, Mi.sq_tryO, Mi.x_setF, Mi.sq_setF, Mi.isD, Mi.tyN, Mi.tyB, Mi.x_pass, Mi.x_asg, Mi.x_do, Mi.x_ret, Mi.x_raise, Mi.x_if, Mi.x_bk, Mi.x_ct, Mi.x_app, Mi.x_setI, Mi.x_setK, Mi.x_pop, Mi.x_isL, Mi.x_tn, Mi.x_t0, Mi.x_st0, Mi.x_st1, Mi.x_rest0, Mi.x_rest1, Mi.x_putn, Mi.x_putt, Mi.x_set0, Mi.x_set1, Mi.x_out0, Mi.x_out1, Mi.truth, Mi.seqOf, Mi.startE, Mi.pE_tup, Mi.wipe0, Mi.wipe1, Option.getD_some, Mi.isBl_ite, Mi.toB_ite, Mi.allD_map, Mi.anyD_map, Mi.filter_tt, -List.mem_map, List.forall_mem_map, -List.map_tail, -List.map_take, -List.map_drop, Mi.take_mp, Mi.drop_mp, Mi.tail_mp, Mi.min_cap, List.length_zip, Mi.zip2_map, Mi.okV_ite, Mi.okB_ite, Mi.getV_ite, Mi.getB_ite, Mi.bind_ite, Mi.out_ite, Mi.lc_s, Mi.lc_sS, Mi.lc_sN, Mi.lc_sM, List.filter_map, List.map_map, Function.comp_def, n1, u, putD, tot_ne, bookD, tpD]
theorem len_ok (n : Nat) (al : List (List Int)) : f_Book_len [bookD n al] = .ok (.int (al.length : Nat)) [] := by
  refine e_Book_len rfl ?_
  unfold m_Book_len
  simp (maxDischargeDepth := 7) [List.getElem?_cons_zero, List.getElem?_cons_succ, Mi.bind_out, Mi.bind_bind, Mi.sq_asg, Mi.sq_do, Mi.sq_ret, Mi.sq_raise, Mi.sq_seq, Mi.sq_pass, Mi.sq_if, Mi.sq_app, Mi.sq_setI, Mi.sq_setK, Mi.sq_ct, Mi.sq_bk, Mi.x_V, Mi.x_C, Mi.x_1, Mi.x_2, Mi.x_O2, Mi.x_P0, Mi.x_P1, Mi.x_3, Mi.x_O3, Mi.x_And, Mi.x_Or, Mi.x_Not, Mi.x_If, Mi.x_L0, Mi.x_L1, Mi.x_Tup, Mi.x_Lst, Mi.x_Ch, Mi.x_Call, Mi.x_CallO, Mi.x_CallP, Mi.x_CallN, Mi.x_Meth, Mi.x_Seq, Mi.x_Rng, Mi.x_Rng2, Mi.x_Enum, Mi.x_Zip, Mi.x_Zip3, Mi.x_Ix, Mi.x_Make, Mi.x_Try, Mi.x_TryO, Mi.sq_try, Mi.sq_tryO, Mi.x_setF, Mi.sq_setF, Mi.isD, Mi.tyN, Mi.tyB, Mi.x_pass, Mi.x_asg, Mi.x_do, Mi.x_ret, Mi.x_raise, Mi.x_if, Mi.x_bk, Mi.x_ct, Mi.x_app, Mi.x_setI, Mi.x_setK, Mi.x_pop, Mi.x_isL, Mi.x_tn, Mi.x_t0, Mi.x_st0, Mi.x_st1, Mi.x_rest0, Mi.x_rest1, Mi.x_putn, Mi.x_putt, Mi.x_set0, Mi.x_set1, Mi.x_out0, Mi.x_out1, Mi.truth, Mi.seqOf, Mi.startE, Mi.pE_tup, Mi.wipe0, Mi.wipe1, Option.getD_some, Mi.isBl_ite, Mi.toB_ite, Mi.allD_map, Mi.anyD_map, Mi.filter_tt, -List.mem_map, List.forall_mem_map, -List.map_tail, -List.map_take, -List.map_drop, Mi.take_mp, Mi.drop_mp, Mi.tail_mp, Mi.min_cap, List.length_zip, Mi.zip2_map, Mi.okV_ite, Mi.okB_ite, Mi.getV_ite, Mi.getB_ite, Mi.bind_ite, Mi.out_ite, Mi.lc_s, Mi.lc_sS, Mi.lc_sN, Mi.lc_sM, List.filter_map, List.map_map, Function.comp_def, fld_rows, lenD, tpD]
theorem lenO_ok (n : Nat) {al : List (List Int)} (h : al.length ≤ 60) : lenO "Book" f_Book_len (bookD n al) = some (.int (al.length : Nat)) := by
  have e := len_ok n al
  unfold bookD at e ⊢
  unfold lenO
  simp only [if_true, e]
  rw [if_pos ⟨by omega, by omega⟩]
theorem tpD_at {al : List (List Int)} {j : Nat} {l : List Int} (h : al[j]? = some l) : idxD (.lst (tpD al)) (.int (j : Int)) = some (.tup (l.map .int)) := by
  have hj := (List.getElem?_eq_some_iff.mp h).1
  obtain ⟨d, e, e2, _⟩ := idx_at (xs := tpD al) (i := (j : Int)) (by omega) (by simpa [tpD] using hj)
  rw [e2]
  simp [tpD, h] at e
  rw [e]
theorem lsD_at {al : List (List Int)} {j : Nat} {l : List Int} (h : al[j]? = some l) : idxD (.lst (lsD al)) (.int (j : Int)) = some (.lst (l.map .int)) := by
  have hj := (List.getElem?_eq_some_iff.mp h).1
  obtain ⟨d, e, e2, _⟩ := idx_at (xs := lsD al) (i := (j : Int)) (by omega) (by simpa [lsD] using hj)
  rw [e2]
  simp [lsD, h] at e
  rw [e]
theorem not_take {j : Nat} {k : Int} {tt : List Int} (hnd : tt.Nodup) (hk : tt[j]? = some k) : ¬ k ∈ tt.take j := by
  intro h
  obtain ⟨i, hi, e⟩ := List.getElem_of_mem h
  rw [List.length_take] at hi
  rw [List.getElem_take] at e
  obtain ⟨hj, e2⟩ := List.getElem?_eq_some_iff.mp hk
  exact (List.pairwise_iff_getElem.mp (List.nodup_iff_pairwise_ne.mp hnd) i j (by omega) hj (by omega)) (e.trans e2.symm)
theorem chk_ok {n : Nat} {al : List (List Int)} {tt : List Int} (h : BkOk n al) (t : TtOk al tt) : f_check_timetable [bookD n al, .tup (tt.map .int)] = .ok .non [] := by
  refine e_check_timetable rfl ?_
  unfold m_check_timetable
  have l1 := lenO_ok n h.len
  have l2 := t.len
  simp (maxDischargeDepth := 7) [List.getElem?_cons_zero, List.getElem?_cons_succ, Mi.bind_out, Mi.bind_bind, Mi.sq_asg, Mi.sq_do, Mi.sq_ret, Mi.sq_raise, Mi.sq_seq, Mi.sq_pass, Mi.sq_if, Mi.sq_app, Mi.sq_setI, Mi.sq_setK, Mi.sq_ct, Mi.sq_bk, Mi.x_V, Mi.x_C, Mi.x_1, Mi.x_2, Mi.x_O2, Mi.x_P0, Mi.x_P1, Mi.x_3, Mi.x_O3, Mi.x_And, Mi.x_Or, Mi.x_Not, Mi.x_If, Mi.x_L0, Mi.x_L1, Mi.x_Tup, Mi.x_Lst, Mi.x_Ch, Mi.x_Call, Mi.x_CallO, Mi.x_CallP, Mi.x_CallN, Mi.x_Meth, Mi.x_Seq, Mi.x_Rng, Mi.x_Rng2, Mi.x_Enum, Mi.x_Zip, Mi.x_Zip3, Mi.x_Ix, Mi.x_Make, Mi.x_Try, Mi.x_TryO, Mi.sq_try, Mi.sq_tryO, Mi.x_setF, Mi.sq_setF, Mi.isD, Mi.tyN, Mi.tyB, Mi.x_pass, Mi.x_asg, Mi.x_do, Mi.x_ret, Mi.x_raise, Mi.x_if, Mi.x_bk, Mi.x_ct, Mi.x_app, Mi.x_setI, Mi.x_setK, Mi.x_pop, Mi.x_isL, Mi.x_tn, Mi.x_t0, Mi.x_st0, Mi.x_st1, Mi.x_rest0, Mi.x_rest1, Mi.x_putn, Mi.x_putt, Mi.x_set0, Mi.x_set1, Mi.x_out0, Mi.x_out1, Mi.truth, Mi.seqOf, Mi.startE, Mi.pE_tup, Mi.wipe0, Mi.wipe1, Option.getD_some, Mi.isBl_ite, Mi.toB_ite, Mi.allD_map, Mi.anyD_map, Mi.filter_tt, -List.mem_map, List.forall_mem_map, -List.map_tail, -List.map_take, -List.map_drop, Mi.take_mp, Mi.drop_mp, Mi.tail_mp, Mi.min_cap, List.length_zip, Mi.zip2_map, Mi.okV_ite, Mi.okB_ite, Mi.getV_ite, Mi.getB_ite, Mi.bind_ite, Mi.out_ite, Mi.lc_s, Mi.lc_sS, Mi.lc_sN, Mi.lc_sM, List.filter_map, List.map_map, Function.comp_def, lenD, l1, l2]
  refine q_for0 (as := tt) (f := fun i k => .tup [.int i, .int k]) rfl its_enum (fun δ0 i δ => ∃ x y, δ = stE δ0 [(2, x), (3, y)]) ⟨none, none, by simp (maxDischargeDepth := 7) [List.getElem?_cons_zero, List.getElem?_cons_succ, Mi.bind_out, Mi.bind_bind, Mi.sq_asg, Mi.sq_do, Mi.sq_ret, Mi.sq_raise, Mi.sq_seq, Mi.sq_pass, Mi.sq_if, Mi.sq_app, Mi.sq_setI, Mi.sq_setK, Mi.sq_ct, Mi.sq_bk, Mi.x_V, Mi.x_C, Mi.x_1, Mi.x_2, Mi.x_O2, Mi.x_P0, Mi.x_P1, Mi.x_3, Mi.x_O3, Mi.x_And, Mi.x_Or, Mi.x_Not, Mi.x_If, Mi.x_L0, Mi.x_L1, Mi.x_Tup, Mi.x_Lst, Mi.x_Ch, Mi.x_Call, Mi.x_CallO, Mi.x_CallP, Mi.x_CallN, Mi.x_Meth, Mi.x_Seq, Mi.x_Rng, Mi.x_Rng2, Mi.x_Enum, Mi.x_Zip, Mi.x_Zip3, Mi.x_Ix, Mi.x_Make, Mi.x_Try, Mi.x_TryO, Mi.sq_try, Mi.sq_tryO, Mi.x_setF, Mi.sq_setF, Mi.isD, Mi.tyN, Mi.tyB, Mi.x_pass, Mi.x_asg, Mi.x_do, Mi.x_ret, Mi.x_raise, Mi.x_if, Mi.x_bk, Mi.x_ct, Mi.x_app, Mi.x_setI, Mi.x_setK, Mi.x_pop, Mi.x_isL, Mi.x_tn, Mi.x_t0, Mi.x_st0, Mi.x_st1, Mi.x_rest0, Mi.x_rest1, Mi.x_putn, Mi.x_putt, Mi.x_set0, Mi.x_set1, Mi.x_out0, Mi.x_out1, Mi.truth, Mi.seqOf, Mi.startE, Mi.pE_tup, Mi.wipe0, Mi.wipe1, Option.getD_some, Mi.isBl_ite, Mi.toB_ite, Mi.allD_map, Mi.anyD_map, Mi.filter_tt, -List.mem_map, List.forall_mem_map, -List.map_tail, -List.map_take, -List.map_drop, Mi.take_mp, Mi.drop_mp, Mi.tail_mp, Mi.min_cap, List.length_zip, Mi.zip2_map, Mi.okV_ite, Mi.okB_ite, Mi.getV_ite, Mi.getB_ite, Mi.bind_ite, Mi.out_ite, Mi.lc_s, Mi.lc_sS, Mi.lc_sN, Mi.lc_sM, List.filter_map, List.map_map, Function.comp_def]⟩ ?_ ?_
  · rintro i k δ hk ⟨x, y, rfl⟩
    have hi := (List.getElem?_eq_some_iff.mp hk).1
    have ea : al[i]? = some al[i] := List.getElem?_eq_getElem (by rw [← t.len]; exact hi)
    have e1 := tpD_at ea
    have e2 := t.may i _ k ea hk
    have e3 := not_take t.nd hk
    have e4 : cutD (tt.map D.int) none (some (i : Int)) = (tt.take i).map .int := by rw [slice_take (by omega), List.map_take]; rfl
    simp (maxDischargeDepth := 7) [List.getElem?_cons_zero, List.getElem?_cons_succ, Mi.bind_out, Mi.bind_bind, Mi.sq_asg, Mi.sq_do, Mi.sq_ret, Mi.sq_raise, Mi.sq_seq, Mi.sq_pass, Mi.sq_if, Mi.sq_app, Mi.sq_setI, Mi.sq_setK, Mi.sq_ct, Mi.sq_bk, Mi.x_V, Mi.x_C, Mi.x_1, Mi.x_2, Mi.x_O2, Mi.x_P0, Mi.x_P1, Mi.x_3, Mi.x_O3, Mi.x_And, Mi.x_Or, Mi.x_Not, Mi.x_If, Mi.x_L0, Mi.x_L1, Mi.x_Tup, Mi.x_Lst, Mi.x_Ch, Mi.x_Call, Mi.x_CallO, Mi.x_CallP, Mi.x_CallN, Mi.x_Meth, Mi.x_Seq, Mi.x_Rng, Mi.x_Rng2, Mi.x_Enum, Mi.x_Zip, Mi.x_Zip3, Mi.x_Ix, Mi.x_Make, Mi.x_Try, Mi.x_TryO, Mi.sq_try, Mi.sq_tryO, Mi.x_setF, Mi.sq_setF, Mi.isD, Mi.tyN, Mi.tyB, Mi.x_pass, Mi.x_asg, Mi.x_do, Mi.x_ret, Mi.x_raise, Mi.x_if, Mi.x_bk, Mi.x_ct, Mi.x_app, Mi.x_setI, Mi.x_setK, Mi.x_pop, Mi.x_isL, Mi.x_tn, Mi.x_t0, Mi.x_st0, Mi.x_st1, Mi.x_rest0, Mi.x_rest1, Mi.x_putn, Mi.x_putt, Mi.x_set0, Mi.x_set1, Mi.x_out0, Mi.x_out1, Mi.truth, Mi.seqOf, Mi.startE, Mi.pE_tup, Mi.wipe0, Mi.wipe1, Option.getD_some, Mi.isBl_ite, Mi.toB_ite, Mi.allD_map, Mi.anyD_map, Mi.filter_tt, -List.mem_map, List.forall_mem_map, -List.map_tail, -List.map_take, -List.map_drop, Mi.take_mp, Mi.drop_mp, Mi.tail_mp, Mi.min_cap, List.length_zip, Mi.zip2_map, Mi.okV_ite, Mi.okB_ite, Mi.getV_ite, Mi.getB_ite, Mi.bind_ite, Mi.out_ite, Mi.lc_s, Mi.lc_sS, Mi.lc_sN, Mi.lc_sM, List.filter_map, List.map_map, Function.comp_def, fld_rows, e1, e2, slD, e4, e3]
    exact hd ⟨_, _, rfl⟩
  · rintro δ ⟨x, y, rfl⟩
    simp (maxDischargeDepth := 7) [List.getElem?_cons_zero, List.getElem?_cons_succ, Mi.bind_out, Mi.bind_bind, Mi.sq_asg, Mi.sq_do, Mi.sq_ret, Mi.sq_raise, Mi.sq_seq, Mi.sq_pass, Mi.sq_if, Mi.sq_app, Mi.sq_setI, Mi.sq_setK, Mi.sq_ct, Mi.sq_bk, Mi.x_V, Mi.x_C, Mi.x_1, Mi.x_2, Mi.x_O2, Mi.x_P0, Mi.x_P1, Mi.x_3, Mi.x_O3, Mi.x_And, Mi.x_Or, Mi.x_Not, Mi.x_If, Mi.x_L0, Mi.x_L1, Mi.x_Tup, Mi.x_Lst, Mi.x_Ch, Mi.x_Call, Mi.x_CallO, Mi.x_CallP, Mi.x_CallN, Mi.x_Meth, Mi.x_Seq, Mi.x_Rng, Mi.x_Rng2, Mi.x_Enum, Mi.x_Zip, Mi.x_Zip3, Mi.x_Ix, Mi.x_Make, Mi.x_Try, Mi.x_TryO, Mi.sq_try, Mi.sq_tryO, Mi.x_setF, Mi.sq_setF, Mi.isD, Mi.tyN, Mi.tyB, Mi.x_pass, Mi.x_asg, Mi.x_do, Mi.x_ret, Mi.x_raise, Mi.x_if, Mi.x_bk, Mi.x_ct, Mi.x_app, Mi.x_setI, Mi.x_setK, Mi.x_pop, Mi.x_isL, Mi.x_tn, Mi.x_t0, Mi.x_st0, Mi.x_st1, Mi.x_rest0, Mi.x_rest1, Mi.x_putn, Mi.x_putt, Mi.x_set0, Mi.x_set1, Mi.x_out0, Mi.x_out1, Mi.truth, Mi.seqOf, Mi.startE, Mi.pE_tup, Mi.wipe0, Mi.wipe1, Option.getD_some, Mi.isBl_ite, Mi.toB_ite, Mi.allD_map, Mi.anyD_map, Mi.filter_tt, -List.mem_map, List.forall_mem_map, -List.map_tail, -List.map_take, -List.map_drop, Mi.take_mp, Mi.drop_mp, Mi.tail_mp, Mi.min_cap, List.length_zip, Mi.zip2_map, Mi.okV_ite, Mi.okB_ite, Mi.getV_ite, Mi.getB_ite, Mi.bind_ite, Mi.out_ite, Mi.lc_s, Mi.lc_sS, Mi.lc_sN, Mi.lc_sM, List.filter_map, List.map_map, Function.comp_def]
theorem smInt_n {n : Nat} (h : n ≤ 10000) : smInt (.int (n : Int)) = some (n : Int) := smInt_small (by omega) (by omega)
end Mi

end
section
set_option linter.all false
set_option autoImplicit false
set_option maxRecDepth 20000
namespace Mi
open PySem PySem.Spec
/-! odd values -/
def Sms (n : Nat) (xs : List D) : Prop := (∀ x ∈ xs, x ∈ smalls) ∧ xs.length ≤ n
theorem cut_mem {α : Type} {xs : List α} {l h : Option Int} {y : α} (hy : y ∈ cutD xs l h) : y ∈ xs := List.mem_of_mem_drop (List.mem_of_mem_take hy)
theorem cut_len {α : Type} {xs : List α} {l h : Option Int} : (cutD xs l h).length ≤ xs.length := by
  unfold cutD
  rw [List.length_take, List.length_drop]
  omega
theorem small_laid {d : D} (h : d ∈ smalls) : d.py.canLay0 = true ∧ d.py.depth ≤ 4 := by
  have h2 := small_shw h
  simp only [shw, Bool.and_eq_true, decide_eq_true_eq] at h2
  exact ⟨h2.1, by omega⟩
theorem smalls_ty : smalls.all (fun d => (tyN d).isSome) = true := by decide +kernel
theorem small_ty {d : D} (h : d ∈ smalls) : (tyN d).isSome = true := List.all_eq_true.mp smalls_ty d h
theorem small_okD {d : D} (h : d ∈ smalls) : okD d = true := okD_of (small_laid h).1 (Nat.le_trans (small_laid h).2 (by decide))
theorem sms_ok {L : Nat} {xs : List D} (h : Sms L xs) : okD (.tup xs) = true ∧ okD (.lst xs) = true := ⟨ok_tup fun x hx => small_laid (h.1 x hx), ok_lst fun x hx => small_laid (h.1 x hx)⟩
theorem sms_take {L : Nat} {xs : List D} (h : Sms L xs) (j : Nat) : Sms L (xs.take j) := ⟨fun x hx => h.1 x (List.mem_of_mem_take hx), by rw [List.length_take]; have := h.2; omega⟩
theorem sms_cut {L : Nat} {xs : List D} (h : Sms L xs) (l k : Option Int) : Sms L (cutD xs l k) := ⟨fun x hx => h.1 x (cut_mem hx), Nat.le_trans cut_len h.2⟩
theorem sms_app {L M : Nat} {xs ys : List D} (h : Sms L xs) (k : Sms M ys) : Sms (L + M) (xs ++ ys) := ⟨fun x hx => (List.mem_append.mp hx).elim (h.1 x) (k.1 x), by rw [List.length_append]; have := h.2; have := k.2; omega⟩
theorem sms_one {x : D} (h : x ∈ smalls) : Sms 1 [x] := ⟨fun y hy => by rw [List.mem_singleton.mp hy]; exact h, Nat.le_refl _⟩
theorem sms_ints {n : Nat} {ns : List Int} (h : ∀ x ∈ ns, -1 ≤ x ∧ x ≤ 60) (hl : ns.length ≤ n) : Sms n (ns.map .int) := ⟨fun x hx => by
  obtain ⟨i, hi, rfl⟩ := List.mem_map.mp hx
  exact small_int (h i hi).1 (h i hi).2, by rw [List.length_map]; exact hl⟩
theorem in_sms {L : Nat} {xs : List D} (h : Sms L xs) {d : D} (hd : okD d = true) : inD d (.tup xs) = some (.bl (inB d xs)) ∧ ninD d (.tup xs) = some (.bl (!inB d xs)) := by
  simp only [inD, ninD, inO, hd, (sms_ok h).1, Bool.and_self, if_true, Option.map_some]
  exact ⟨trivial, trivial⟩
/-- shown, and the same again -/
def Shows (x : D) : Prop := ∃ s, reprD x = some (.str s) ∧ neD (.str s) (.str s) = some (.bl false)
theorem shows_small {x : D} (h : x ∈ smalls) : Shows x := by
  have h2 := small_shw h
  refine repr_of ?_
  simp only [shw, Bool.and_eq_true, decide_eq_true_eq] at h2 ⊢
  exact ⟨h2.1, h2.2.1, by omega, h2.2.2.2.1, by omega⟩
theorem shows_tup {L : Nat} {xs : List D} (h : Sms L xs) (hL : L ≤ 800) : Shows (.tup xs) := repr_of (shw_tup (fun x hx => small_shw (h.1 x hx)) (by have := h.2; omega))
theorem shows_lst {L : Nat} {xs : List D} (h : Sms L xs) (hL : L ≤ 800) : Shows (.lst xs) := repr_of (shw_lst (fun x hx => small_shw (h.1 x hx)) (by have := h.2; omega))
theorem str_ne {s : Str} (h : PyData.strOk s = true) : neD (.str s) (.str s) = some (.bl false) := by
  unfold neD
  rw [okD_of (d := .str s) (by simp only [D.py, PyData.canLay0]; exact h) (by simp only [D.py, PyData.depth]; omega)]
  simp [D.py, PyData.eqv]
theorem shows_empty : Shows (.dic []) := ⟨"{}", rfl, str_ne (by decide +kernel)⟩
end Mi

end
section
set_option linter.all false
set_option autoImplicit false
set_option maxRecDepth 20000
namespace Mi
open PySem PySem.Spec
/-! k04: invalid timetables -/
theorem bent_ok {W : D} (hW : WL W) {n : Nat} (hn : 1 ≤ n) (hn2 : n ≤ 60) {xs : List D} (hx : Sms 60 xs) : ∃ (W' : D) (ys : List D), WL W' ∧ Sms 440 ys ∧ f_law_bent [W, .tup xs, .int n] = .ok (.tup ys) [W'] := by
  have ex : ∃ r, (∃ W' ys, WL W' ∧ Sms 440 ys ∧ r = Fr.ok (.tup ys) [W']) ∧ f_law_bent [W, .tup xs, .int n] = r := by
    refine ⟨_, ?_, rfl⟩
    rw [d_law_bent]
    refine fn_run (n := 7) (p := 3) (own := [0]) (b := m_law_bent) (Q := fun r => ∃ W' ys, WL W' ∧ Sms 440 ys ∧ r = Fr.ok (.tup ys) [W']) rfl ?_
    unfold m_law_bent
    have ed := draw_eq hW (m := 2) (by omega) (by omega)
    have d0 := dr_0 W 2
    have d1 := dr_lt (W := W) (m := 2) (by omega)
    have W1 := dw_ok W 2
    generalize dr W 2 = v at ed d0 d1
    have s1 : smInt (.int (1 + v)) = some (1 + v) := smInt_small (by omega) (by omega)
    refine q_for (as := List.range (1 + v).toNat) (f := fun i _ => .int (0 + (i : Int))) (ds := rng 0 (1 + v).toNat) (by simp (maxDischargeDepth := 7) [List.getElem?_cons_zero, List.getElem?_cons_succ, Mi.bind_out, Mi.bind_bind, Mi.sq_asg, Mi.sq_do, Mi.sq_ret, Mi.sq_raise, Mi.sq_seq, Mi.sq_pass, Mi.sq_if, Mi.sq_app, Mi.sq_setI, Mi.sq_setK, Mi.sq_ct, Mi.sq_bk, Mi.x_V, Mi.x_C, Mi.x_1, Mi.x_2, Mi.x_O2, Mi.x_P0, Mi.x_P1, Mi.x_3, Mi.x_O3, Mi.x_And, Mi.x_Or, Mi.x_Not, Mi.x_If, Mi.x_L0, Mi.x_L1, Mi.x_Tup, Mi.x_Lst, Mi.x_Ch, Mi.x_Call, Mi.x_CallO, Mi.x_CallP, Mi.x_CallN, Mi.x_Meth, Mi.x_Seq, Mi.x_Rng, Mi.x_Rng2, Mi.x_Enum, Mi.x_Zip, Mi.x_Zip3, Mi.x_Ix, Mi.x_Make, Mi.x_Try, Mi.x_TryO, Mi.sq_try, Mi.sq_tryO, Mi.x_setF, Mi.sq_setF, Mi.isD, Mi.tyN, Mi.tyB, Mi.x_pass, Mi.x_asg, Mi.x_do, Mi.x_ret, Mi.x_raise, Mi.x_if, Mi.x_bk, Mi.x_ct, Mi.x_app, Mi.x_setI, Mi.x_setK, Mi.x_pop, Mi.x_isL, Mi.x_tn, Mi.x_t0, Mi.x_st0, Mi.x_st1, Mi.x_rest0, Mi.x_rest1, Mi.x_putn, Mi.x_putt, Mi.x_set0, Mi.x_set1, Mi.x_out0, Mi.x_out1, Mi.truth, Mi.seqOf, Mi.startE, Mi.pE_tup, Mi.wipe0, Mi.wipe1, Option.getD_some, Mi.isBl_ite, Mi.toB_ite, Mi.allD_map, Mi.anyD_map, Mi.filter_tt, -List.mem_map, List.forall_mem_map, -List.map_tail, -List.map_take, -List.map_drop, Mi.take_mp, Mi.drop_mp, Mi.tail_mp, Mi.min_cap, List.length_zip, Mi.zip2_map, Mi.okV_ite, Mi.okB_ite, Mi.getV_ite, Mi.getB_ite, Mi.bind_ite, Mi.out_ite, Mi.lc_s, Mi.lc_sS, Mi.lc_sN, Mi.lc_sM, List.filter_map, List.map_map, Function.comp_def, ed, addD, s1]; rfl) its_rng
      (fun δ0 i δ => ∃ (W' : D) (ys : List D) (x3 x4 x5 x6 : Option D), WL W' ∧ (∀ y ∈ ys, y ∈ smalls) ∧ ys.length + 1 ≤ 61 * 2 ^ i ∧ δ = stE δ0 [(0, some W'), (1, some (.tup ys)), (3, x3), (4, x4), (5, x5), (6, x6)])
      ⟨_, xs, none, none, none, none, W1, hx.1, by have := hx.2; omega, by simp (maxDischargeDepth := 7) [List.getElem?_cons_zero, List.getElem?_cons_succ, Mi.bind_out, Mi.bind_bind, Mi.sq_asg, Mi.sq_do, Mi.sq_ret, Mi.sq_raise, Mi.sq_seq, Mi.sq_pass, Mi.sq_if, Mi.sq_app, Mi.sq_setI, Mi.sq_setK, Mi.sq_ct, Mi.sq_bk, Mi.x_V, Mi.x_C, Mi.x_1, Mi.x_2, Mi.x_O2, Mi.x_P0, Mi.x_P1, Mi.x_3, Mi.x_O3, Mi.x_And, Mi.x_Or, Mi.x_Not, Mi.x_If, Mi.x_L0, Mi.x_L1, Mi.x_Tup, Mi.x_Lst, Mi.x_Ch, Mi.x_Call, Mi.x_CallO, Mi.x_CallP, Mi.x_CallN, Mi.x_Meth, Mi.x_Seq, Mi.x_Rng, Mi.x_Rng2, Mi.x_Enum, Mi.x_Zip, Mi.x_Zip3, Mi.x_Ix, Mi.x_Make, Mi.x_Try, Mi.x_TryO, Mi.sq_try, Mi.sq_tryO, Mi.x_setF, Mi.sq_setF, Mi.isD, Mi.tyN, Mi.tyB, Mi.x_pass, Mi.x_asg, Mi.x_do, Mi.x_ret, Mi.x_raise, Mi.x_if, Mi.x_bk, Mi.x_ct, Mi.x_app, Mi.x_setI, Mi.x_setK, Mi.x_pop, Mi.x_isL, Mi.x_tn, Mi.x_t0, Mi.x_st0, Mi.x_st1, Mi.x_rest0, Mi.x_rest1, Mi.x_putn, Mi.x_putt, Mi.x_set0, Mi.x_set1, Mi.x_out0, Mi.x_out1, Mi.truth, Mi.seqOf, Mi.startE, Mi.pE_tup, Mi.wipe0, Mi.wipe1, Option.getD_some, Mi.isBl_ite, Mi.toB_ite, Mi.allD_map, Mi.anyD_map, Mi.filter_tt, -List.mem_map, List.forall_mem_map, -List.map_tail, -List.map_take, -List.map_drop, Mi.take_mp, Mi.drop_mp, Mi.tail_mp, Mi.min_cap, List.length_zip, Mi.zip2_map, Mi.okV_ite, Mi.okB_ite, Mi.getV_ite, Mi.getB_ite, Mi.bind_ite, Mi.out_ite, Mi.lc_s, Mi.lc_sS, Mi.lc_sN, Mi.lc_sM, List.filter_map, List.map_map, Function.comp_def]⟩ ?_ ?_
    · rintro i a δ hi ⟨U, ys, x3, x4, x5, x6, hU, hm, hl, rfl⟩
      have hi2 : i < 2 := by
        have := (List.getElem?_eq_some_iff.mp hi).1
        rw [List.length_range] at this
        omega
      have hl4 : ys.length ≤ 250 := by
        have : i = 0 ∨ i = 1 := by omega
        rcases this with z | z <;> rw [z] at hl <;> omega
      have e1 := draw_eq hU (m := (ys.length : Int) + 1) (by omega) (by omega)
      have U1 := dw_ok U ((ys.length : Int) + 1)
      generalize dr U ((ys.length : Int) + 1) = p at e1
      generalize dw U ((ys.length : Int) + 1) = V1 at e1 U1
      have e2 := draw_eq U1 (m := (n : Int)) (by omega) (by omega)
      have a0 := dr_0 V1 n
      have a1 := dr_lt (W := V1) (m := (n : Int)) (by omega)
      have U2 := dw_ok V1 (n : Int)
      generalize dr V1 (n : Int) = r at e2 a0 a1
      generalize dw V1 (n : Int) = V2 at e2 U2
      have e3 := draw_eq U2 (m := 8) (by omega) (by omega)
      have b0 := dr_0 V2 8
      have b1 := dr_lt (W := V2) (m := 8) (by omega)
      have U3 := dw_ok V2 8
      generalize dr V2 8 = r2 at e3 b0 b1
      generalize dw V2 8 = V3 at e3 U3
      have e4 := draw_eq U3 (m := 4) (by omega) (by omega)
      have U4 := dw_ok V3 4
      generalize dr V3 4 = way at e4
      generalize dw V3 4 = V4 at e4 U4
      obtain ⟨one, h1, ei⟩ := idx_mem (xs := [.int r, .bl true, .int (-1), .int n, .non, .str "0", .lst [.int 0], .bl false]) (i := r2) b0 (by simpa using b1)
      have hone : one ∈ smalls := by
        simp only [List.mem_cons, List.not_mem_nil, or_false] at h1
        rcases h1 with rfl | rfl | rfl | rfl | rfl | rfl | rfl | rfl
        · exact small_int (by omega) (by omega)
        · exact List.mem_append_left _ (by simp)
        · exact small_int (by omega) (by omega)
        · exact small_int (by omega) (by omega)
        · exact List.mem_append_left _ (by simp)
        · exact List.mem_append_left _ (by simp)
        · exact List.mem_append_left _ (by simp)
        · exact List.mem_append_left _ (by simp)
      have cl : ∀ l h, (cutD ys l h).length ≤ ys.length := fun l h => cut_len
      have c1 := fun l h l' h' => cap_60 (n := (cutD ys l h).length + (cutD ys l' h').length) (by have := cl l h; have := cl l' h'; omega)
      have c2 := fun l h l' h' => cap_60 (n := (cutD ys l h).length + 1 + (cutD ys l' h').length) (by have := cl l h; have := cl l' h'; omega)
      have c3 := fun l h => cap_60 (n := (cutD ys l h).length + 1) (by have := cl l h; omega)
      have sp : ∀ q : Int, 0 ≤ p → (cutD ys none (some p)).length + (cutD ys (some q) none).length ≤ ys.length + ys.length := fun q _ => by have := cl none (some p); have := cl (some q) none; omega
      have i01 : i = 0 ∨ i = 1 := by omega
      have hl3 : ys.length ≤ 250 := by rcases i01 with z | z <;> rw [z] at hl <;> omega
      have key : ∀ l : List D, l.length ≤ ys.length + ys.length + 1 → l.length + 1 ≤ 61 * 2 ^ (i + 1) := fun l h => by rw [Nat.pow_succ]; omega
      by_cases w0 : way = 0
      · simp (maxDischargeDepth := 7) [List.getElem?_cons_zero, List.getElem?_cons_succ, Mi.bind_out, Mi.bind_bind, Mi.sq_asg, Mi.sq_do, Mi.sq_ret, Mi.sq_raise, Mi.sq_seq, Mi.sq_pass, Mi.sq_if, Mi.sq_app, Mi.sq_setI, Mi.sq_setK, Mi.sq_ct, Mi.sq_bk, Mi.x_V, Mi.x_C, Mi.x_1, Mi.x_2, Mi.x_O2, Mi.x_P0, Mi.x_P1, Mi.x_3, Mi.x_O3, Mi.x_And, Mi.x_Or, Mi.x_Not, Mi.x_If, Mi.x_L0, Mi.x_L1, Mi.x_Tup, Mi.x_Lst, Mi.x_Ch, Mi.x_Call, Mi.x_CallO, Mi.x_CallP, Mi.x_CallN, Mi.x_Meth, Mi.x_Seq, Mi.x_Rng, Mi.x_Rng2, Mi.x_Enum, Mi.x_Zip, Mi.x_Zip3, Mi.x_Ix, Mi.x_Make, Mi.x_Try, Mi.x_TryO, Mi.sq_try, Mi.sq_tryO, Mi.x_setF, Mi.sq_setF, Mi.isD, Mi.tyN, Mi.tyB, Mi.x_pass, Mi.x_asg, Mi.x_do, Mi.x_ret, Mi.x_raise, Mi.x_if, Mi.x_bk, Mi.x_ct, Mi.x_app, Mi.x_setI, Mi.x_setK, Mi.x_pop, Mi.x_isL, Mi.x_tn, Mi.x_t0, Mi.x_st0, Mi.x_st1, Mi.x_rest0, Mi.x_rest1, Mi.x_putn, Mi.x_putt, Mi.x_set0, Mi.x_set1, Mi.x_out0, Mi.x_out1, Mi.truth, Mi.seqOf, Mi.startE, Mi.pE_tup, Mi.wipe0, Mi.wipe1, Option.getD_some, Mi.isBl_ite, Mi.toB_ite, Mi.allD_map, Mi.anyD_map, Mi.filter_tt, -List.mem_map, List.forall_mem_map, -List.map_tail, -List.map_take, -List.map_drop, Mi.take_mp, Mi.drop_mp, Mi.tail_mp, Mi.min_cap, List.length_zip, Mi.zip2_map, Mi.okV_ite, Mi.okB_ite, Mi.getV_ite, Mi.getB_ite, Mi.bind_ite, Mi.out_ite, Mi.lc_s, Mi.lc_sS, Mi.lc_sN, Mi.lc_sM, List.filter_map, List.map_map, Function.comp_def, lenD, addD, e1, e2, e3, e4, ei, negD, w0, slD, c1]
        have m2 : ∀ y ∈ cutD ys none (some p) ++ cutD ys (some (p + 1)) none, y ∈ smalls := fun y hy => (List.mem_append.mp hy).elim (fun z => hm y (cut_mem z)) fun z => hm y (cut_mem z)
        refine hd ⟨V4, cutD ys none (some p) ++ cutD ys (some (p + 1)) none, _, _, _, _, U4, m2, key _ ?_, rfl⟩
        rw [List.length_append]
        have := cl none (some p)
        have := cl (some (p + 1)) none
        omega
      · obtain ⟨q, eq⟩ : ∃ q : Int, intD (.bl (decide (1 < way))) = some (.int q) := by
          by_cases h : 1 < way
          · exact ⟨1, by simp [h, intD]⟩
          · exact ⟨0, by simp [h, intD]⟩
        simp (maxDischargeDepth := 7) [List.getElem?_cons_zero, List.getElem?_cons_succ, Mi.bind_out, Mi.bind_bind, Mi.sq_asg, Mi.sq_do, Mi.sq_ret, Mi.sq_raise, Mi.sq_seq, Mi.sq_pass, Mi.sq_if, Mi.sq_app, Mi.sq_setI, Mi.sq_setK, Mi.sq_ct, Mi.sq_bk, Mi.x_V, Mi.x_C, Mi.x_1, Mi.x_2, Mi.x_O2, Mi.x_P0, Mi.x_P1, Mi.x_3, Mi.x_O3, Mi.x_And, Mi.x_Or, Mi.x_Not, Mi.x_If, Mi.x_L0, Mi.x_L1, Mi.x_Tup, Mi.x_Lst, Mi.x_Ch, Mi.x_Call, Mi.x_CallO, Mi.x_CallP, Mi.x_CallN, Mi.x_Meth, Mi.x_Seq, Mi.x_Rng, Mi.x_Rng2, Mi.x_Enum, Mi.x_Zip, Mi.x_Zip3, Mi.x_Ix, Mi.x_Make, Mi.x_Try, Mi.x_TryO, Mi.sq_try, Mi.sq_tryO, Mi.x_setF, Mi.sq_setF, Mi.isD, Mi.tyN, Mi.tyB, Mi.x_pass, Mi.x_asg, Mi.x_do, Mi.x_ret, Mi.x_raise, Mi.x_if, Mi.x_bk, Mi.x_ct, Mi.x_app, Mi.x_setI, Mi.x_setK, Mi.x_pop, Mi.x_isL, Mi.x_tn, Mi.x_t0, Mi.x_st0, Mi.x_st1, Mi.x_rest0, Mi.x_rest1, Mi.x_putn, Mi.x_putt, Mi.x_set0, Mi.x_set1, Mi.x_out0, Mi.x_out1, Mi.truth, Mi.seqOf, Mi.startE, Mi.pE_tup, Mi.wipe0, Mi.wipe1, Option.getD_some, Mi.isBl_ite, Mi.toB_ite, Mi.allD_map, Mi.anyD_map, Mi.filter_tt, -List.mem_map, List.forall_mem_map, -List.map_tail, -List.map_take, -List.map_drop, Mi.take_mp, Mi.drop_mp, Mi.tail_mp, Mi.min_cap, List.length_zip, Mi.zip2_map, Mi.okV_ite, Mi.okB_ite, Mi.getV_ite, Mi.getB_ite, Mi.bind_ite, Mi.out_ite, Mi.lc_s, Mi.lc_sS, Mi.lc_sN, Mi.lc_sM, List.filter_map, List.map_map, Function.comp_def, lenD, addD, e1, e2, e3, e4, ei, negD, w0, slD, c1, c2, c3, cmpD, eq]
        have m2 : ∀ y ∈ cutD ys none (some p) ++ one :: cutD ys (some (p + q)) none, y ∈ smalls := fun y hy => by
          rcases List.mem_append.mp hy with z | z
          · exact hm y (cut_mem z)
          · rcases List.mem_cons.mp z with z | z
            · rw [z]; exact hone
            · exact hm y (cut_mem z)
        refine hd ⟨V4, cutD ys none (some p) ++ one :: cutD ys (some (p + q)) none, _, _, _, _, U4, m2, key _ ?_, rfl⟩
        rw [List.length_append, List.length_cons]
        have := cl none (some p)
        have := cl (some (p + q)) none
        omega
    · rintro δ ⟨U, ys, x3, x4, x5, x6, hU, hm, hl, rfl⟩
      have h4 : (List.range (1 + v).toNat).length = 0 ∨ (List.range (1 + v).toNat).length = 1 ∨ (List.range (1 + v).toNat).length = 2 := by rw [List.length_range]; omega
      have h5 : ys.length ≤ 440 := by rcases h4 with z | z | z <;> rw [z] at hl <;> omega
      simp (maxDischargeDepth := 7) [List.getElem?_cons_zero, List.getElem?_cons_succ, Mi.bind_out, Mi.bind_bind, Mi.sq_asg, Mi.sq_do, Mi.sq_ret, Mi.sq_raise, Mi.sq_seq, Mi.sq_pass, Mi.sq_if, Mi.sq_app, Mi.sq_setI, Mi.sq_setK, Mi.sq_ct, Mi.sq_bk, Mi.x_V, Mi.x_C, Mi.x_1, Mi.x_2, Mi.x_O2, Mi.x_P0, Mi.x_P1, Mi.x_3, Mi.x_O3, Mi.x_And, Mi.x_Or, Mi.x_Not, Mi.x_If, Mi.x_L0, Mi.x_L1, Mi.x_Tup, Mi.x_Lst, Mi.x_Ch, Mi.x_Call, Mi.x_CallO, Mi.x_CallP, Mi.x_CallN, Mi.x_Meth, Mi.x_Seq, Mi.x_Rng, Mi.x_Rng2, Mi.x_Enum, Mi.x_Zip, Mi.x_Zip3, Mi.x_Ix, Mi.x_Make, Mi.x_Try, Mi.x_TryO, Mi.sq_try, Mi.sq_tryO, Mi.x_setF, Mi.sq_setF, Mi.isD, Mi.tyN, Mi.tyB, Mi.x_pass, Mi.x_asg, Mi.x_do, Mi.x_ret, Mi.x_raise, Mi.x_if, Mi.x_bk, Mi.x_ct, Mi.x_app, Mi.x_setI, Mi.x_setK, Mi.x_pop, Mi.x_isL, Mi.x_tn, Mi.x_t0, Mi.x_st0, Mi.x_st1, Mi.x_rest0, Mi.x_rest1, Mi.x_putn, Mi.x_putt, Mi.x_set0, Mi.x_set1, Mi.x_out0, Mi.x_out1, Mi.truth, Mi.seqOf, Mi.startE, Mi.pE_tup, Mi.wipe0, Mi.wipe1, Option.getD_some, Mi.isBl_ite, Mi.toB_ite, Mi.allD_map, Mi.anyD_map, Mi.filter_tt, -List.mem_map, List.forall_mem_map, -List.map_tail, -List.map_take, -List.map_drop, Mi.take_mp, Mi.drop_mp, Mi.tail_mp, Mi.min_cap, List.length_zip, Mi.zip2_map, Mi.okV_ite, Mi.okB_ite, Mi.getV_ite, Mi.getB_ite, Mi.bind_ite, Mi.out_ite, Mi.lc_s, Mi.lc_sS, Mi.lc_sN, Mi.lc_sM, List.filter_map, List.map_map, Function.comp_def]
      exact ⟨U, hU, ys, ⟨hm, h5⟩, rfl, rfl⟩
  obtain ⟨r, ⟨W', ys, h1, h2, rfl⟩, e⟩ := ex
  exact ⟨W', ys, h1, h2, e⟩
/-! the first invalid item -/
def badT (al : List (List Int)) (xs : List D) (i : Nat) : Bool := match xs[i]? with
  | some (.int k) => !decide (k ∈ (al[i]?).getD []) || inB (.int k) (xs.take i)
  | some _ => true
  | none => false
def firstT (al : List (List Int)) (xs : List D) : Option Nat := (List.range xs.length).find? (badT al xs)
theorem first_at {p : Nat → Bool} {n i : Nat} (h : ∀ j, j < i → p j = false) (hi : p i = true) (hn : i < n) : (List.range n).find? p = some i := by
  rw [List.find?_eq_some_iff_getElem]
  refine ⟨hi, i, by simpa using hn, by simp, fun j hj => by simp [h j hj]⟩
theorem first_no {p : Nat → Bool} {n : Nat} (h : ∀ j, j < n → p j = false) : (List.range n).find? p = none := by
  rw [List.find?_eq_none]
  intro j hj
  rw [List.mem_range] at hj
  simp [h j hj]
def dueD : Option Nat → D
  | none => .non
  | some i => .int (i : Nat)
def chkF : Option Nat → Fr
  | none => .ok .non []
  | some i => .exc "NoTimetable" (.int (i : Nat))
theorem due_tup {n : Nat} {al : List (List Int)} {L : Nat} {xs : List D} (hb : BkOk n al) (h : Sms L xs) (hl : xs.length = al.length) : f_law_due [.lst (lsD al), .tup xs] = .ok (dueD (firstT al xs)) [] := by
  refine e_law_due rfl ?_
  unfold m_law_due
  have l1 : (lsD al).length = al.length := by simp [lsD]
  simp (maxDischargeDepth := 7) [List.getElem?_cons_zero, List.getElem?_cons_succ, Mi.bind_out, Mi.bind_bind, Mi.sq_asg, Mi.sq_do, Mi.sq_ret, Mi.sq_raise, Mi.sq_seq, Mi.sq_pass, Mi.sq_if, Mi.sq_app, Mi.sq_setI, Mi.sq_setK, Mi.sq_ct, Mi.sq_bk, Mi.x_V, Mi.x_C, Mi.x_1, Mi.x_2, Mi.x_O2, Mi.x_P0, Mi.x_P1, Mi.x_3, Mi.x_O3, Mi.x_And, Mi.x_Or, Mi.x_Not, Mi.x_If, Mi.x_L0, Mi.x_L1, Mi.x_Tup, Mi.x_Lst, Mi.x_Ch, Mi.x_Call, Mi.x_CallO, Mi.x_CallP, Mi.x_CallN, Mi.x_Meth, Mi.x_Seq, Mi.x_Rng, Mi.x_Rng2, Mi.x_Enum, Mi.x_Zip, Mi.x_Zip3, Mi.x_Ix, Mi.x_Make, Mi.x_Try, Mi.x_TryO, Mi.sq_try, Mi.sq_tryO, Mi.x_setF, Mi.sq_setF, Mi.isD, Mi.tyN, Mi.tyB, Mi.x_pass, Mi.x_asg, Mi.x_do, Mi.x_ret, Mi.x_raise, Mi.x_if, Mi.x_bk, Mi.x_ct, Mi.x_app, Mi.x_setI, Mi.x_setK, Mi.x_pop, Mi.x_isL, Mi.x_tn, Mi.x_t0, Mi.x_st0, Mi.x_st1, Mi.x_rest0, Mi.x_rest1, Mi.x_putn, Mi.x_putt, Mi.x_set0, Mi.x_set1, Mi.x_out0, Mi.x_out1, Mi.truth, Mi.seqOf, Mi.startE, Mi.pE_tup, Mi.wipe0, Mi.wipe1, Option.getD_some, Mi.isBl_ite, Mi.toB_ite, Mi.allD_map, Mi.anyD_map, Mi.filter_tt, -List.mem_map, List.forall_mem_map, -List.map_tail, -List.map_take, -List.map_drop, Mi.take_mp, Mi.drop_mp, Mi.tail_mp, Mi.min_cap, List.length_zip, Mi.zip2_map, Mi.okV_ite, Mi.okB_ite, Mi.getV_ite, Mi.getB_ite, Mi.bind_ite, Mi.out_ite, Mi.lc_s, Mi.lc_sS, Mi.lc_sN, Mi.lc_sM, List.filter_map, List.map_map, Function.comp_def, lenD, l1, hl]
  refine q_for (as := xs) (f := fun i d => .tup [.int i, d]) (ds := enumD 0 xs) rfl (by simpa using its_enum (as := xs) (f := id)) (fun δ0 i δ => (∃ x y, δ = stE δ0 [(2, x), (3, y)]) ∧ ∀ j, j < i → badT al xs j = false) ⟨⟨none, none, by simp (maxDischargeDepth := 7) [List.getElem?_cons_zero, List.getElem?_cons_succ, Mi.bind_out, Mi.bind_bind, Mi.sq_asg, Mi.sq_do, Mi.sq_ret, Mi.sq_raise, Mi.sq_seq, Mi.sq_pass, Mi.sq_if, Mi.sq_app, Mi.sq_setI, Mi.sq_setK, Mi.sq_ct, Mi.sq_bk, Mi.x_V, Mi.x_C, Mi.x_1, Mi.x_2, Mi.x_O2, Mi.x_P0, Mi.x_P1, Mi.x_3, Mi.x_O3, Mi.x_And, Mi.x_Or, Mi.x_Not, Mi.x_If, Mi.x_L0, Mi.x_L1, Mi.x_Tup, Mi.x_Lst, Mi.x_Ch, Mi.x_Call, Mi.x_CallO, Mi.x_CallP, Mi.x_CallN, Mi.x_Meth, Mi.x_Seq, Mi.x_Rng, Mi.x_Rng2, Mi.x_Enum, Mi.x_Zip, Mi.x_Zip3, Mi.x_Ix, Mi.x_Make, Mi.x_Try, Mi.x_TryO, Mi.sq_try, Mi.sq_tryO, Mi.x_setF, Mi.sq_setF, Mi.isD, Mi.tyN, Mi.tyB, Mi.x_pass, Mi.x_asg, Mi.x_do, Mi.x_ret, Mi.x_raise, Mi.x_if, Mi.x_bk, Mi.x_ct, Mi.x_app, Mi.x_setI, Mi.x_setK, Mi.x_pop, Mi.x_isL, Mi.x_tn, Mi.x_t0, Mi.x_st0, Mi.x_st1, Mi.x_rest0, Mi.x_rest1, Mi.x_putn, Mi.x_putt, Mi.x_set0, Mi.x_set1, Mi.x_out0, Mi.x_out1, Mi.truth, Mi.seqOf, Mi.startE, Mi.pE_tup, Mi.wipe0, Mi.wipe1, Option.getD_some, Mi.isBl_ite, Mi.toB_ite, Mi.allD_map, Mi.anyD_map, Mi.filter_tt, -List.mem_map, List.forall_mem_map, -List.map_tail, -List.map_take, -List.map_drop, Mi.take_mp, Mi.drop_mp, Mi.tail_mp, Mi.min_cap, List.length_zip, Mi.zip2_map, Mi.okV_ite, Mi.okB_ite, Mi.getV_ite, Mi.getB_ite, Mi.bind_ite, Mi.out_ite, Mi.lc_s, Mi.lc_sS, Mi.lc_sN, Mi.lc_sM, List.filter_map, List.map_map, Function.comp_def]⟩, fun j hj => by omega⟩ ?_ ?_
  · rintro i d δ hi ⟨⟨x, y, rfl⟩, hb0⟩
    have hm := h.1 d (List.mem_of_getElem? hi)
    have hil := (List.getElem?_eq_some_iff.mp hi).1
    have ok := small_okD hm
    have fin : badT al xs i = true → dueD (firstT al xs) = .int (i : Nat) := fun hb => by
      unfold firstT
      rw [first_at hb0 hb hil]
      rfl
    have nxt : badT al xs i = false → ∀ j, j < i + 1 → badT al xs j = false := fun hb j hj => by
      by_cases z : j = i
      · rw [z]; exact hb
      · exact hb0 j (by omega)
    cases d with
    | int k =>
      have ea : al[i]? = some al[i] := List.getElem?_eq_getElem (by omega)
      have e1 := lsD_at ea
      have e4 : cutD xs none (some (i : Int)) = xs.take i := by rw [slice_take (by omega)]; rfl
      have e5 := (in_sms (sms_take h i) ok).1
      have eb : badT al xs i = (!decide (k ∈ al[i]) || inB (.int k) (xs.take i)) := by
        unfold badT
        rw [hi, ea]
        rfl
      by_cases hk : k ∈ al[i]
      · cases hq : inB (.int k) (xs.take i) with
        | true =>
          have := fin (by rw [eb, hq]; simp)
          simp (maxDischargeDepth := 7) [List.getElem?_cons_zero, List.getElem?_cons_succ, Mi.bind_out, Mi.bind_bind, Mi.sq_asg, Mi.sq_do, Mi.sq_ret, Mi.sq_raise, Mi.sq_seq, Mi.sq_pass, Mi.sq_if, Mi.sq_app, Mi.sq_setI, Mi.sq_setK, Mi.sq_ct, Mi.sq_bk, Mi.x_V, Mi.x_C, Mi.x_1, Mi.x_2, Mi.x_O2, Mi.x_P0, Mi.x_P1, Mi.x_3, Mi.x_O3, Mi.x_And, Mi.x_Or, Mi.x_Not, Mi.x_If, Mi.x_L0, Mi.x_L1, Mi.x_Tup, Mi.x_Lst, Mi.x_Ch, Mi.x_Call, Mi.x_CallO, Mi.x_CallP, Mi.x_CallN, Mi.x_Meth, Mi.x_Seq, Mi.x_Rng, Mi.x_Rng2, Mi.x_Enum, Mi.x_Zip, Mi.x_Zip3, Mi.x_Ix, Mi.x_Make, Mi.x_Try, Mi.x_TryO, Mi.sq_try, Mi.sq_tryO, Mi.x_setF, Mi.sq_setF, Mi.isD, Mi.tyN, Mi.tyB, Mi.x_pass, Mi.x_asg, Mi.x_do, Mi.x_ret, Mi.x_raise, Mi.x_if, Mi.x_bk, Mi.x_ct, Mi.x_app, Mi.x_setI, Mi.x_setK, Mi.x_pop, Mi.x_isL, Mi.x_tn, Mi.x_t0, Mi.x_st0, Mi.x_st1, Mi.x_rest0, Mi.x_rest1, Mi.x_putn, Mi.x_putt, Mi.x_set0, Mi.x_set1, Mi.x_out0, Mi.x_out1, Mi.truth, Mi.seqOf, Mi.startE, Mi.pE_tup, Mi.wipe0, Mi.wipe1, Option.getD_some, Mi.isBl_ite, Mi.toB_ite, Mi.allD_map, Mi.anyD_map, Mi.filter_tt, -List.mem_map, List.forall_mem_map, -List.map_tail, -List.map_take, -List.map_drop, Mi.take_mp, Mi.drop_mp, Mi.tail_mp, Mi.min_cap, List.length_zip, Mi.zip2_map, Mi.okV_ite, Mi.okB_ite, Mi.getV_ite, Mi.getB_ite, Mi.bind_ite, Mi.out_ite, Mi.lc_s, Mi.lc_sS, Mi.lc_sN, Mi.lc_sM, List.filter_map, List.map_map, Function.comp_def, e1, hk, slD, e4, e5, hq, this]
        | false =>
          have := nxt (by rw [eb, hq]; simp [hk])
          simp (maxDischargeDepth := 7) [List.getElem?_cons_zero, List.getElem?_cons_succ, Mi.bind_out, Mi.bind_bind, Mi.sq_asg, Mi.sq_do, Mi.sq_ret, Mi.sq_raise, Mi.sq_seq, Mi.sq_pass, Mi.sq_if, Mi.sq_app, Mi.sq_setI, Mi.sq_setK, Mi.sq_ct, Mi.sq_bk, Mi.x_V, Mi.x_C, Mi.x_1, Mi.x_2, Mi.x_O2, Mi.x_P0, Mi.x_P1, Mi.x_3, Mi.x_O3, Mi.x_And, Mi.x_Or, Mi.x_Not, Mi.x_If, Mi.x_L0, Mi.x_L1, Mi.x_Tup, Mi.x_Lst, Mi.x_Ch, Mi.x_Call, Mi.x_CallO, Mi.x_CallP, Mi.x_CallN, Mi.x_Meth, Mi.x_Seq, Mi.x_Rng, Mi.x_Rng2, Mi.x_Enum, Mi.x_Zip, Mi.x_Zip3, Mi.x_Ix, Mi.x_Make, Mi.x_Try, Mi.x_TryO, Mi.sq_try, Mi.sq_tryO, Mi.x_setF, Mi.sq_setF, Mi.isD, Mi.tyN, Mi.tyB, Mi.x_pass, Mi.x_asg, Mi.x_do, Mi.x_ret, Mi.x_raise, Mi.x_if, Mi.x_bk, Mi.x_ct, Mi.x_app, Mi.x_setI, Mi.x_setK, Mi.x_pop, Mi.x_isL, Mi.x_tn, Mi.x_t0, Mi.x_st0, Mi.x_st1, Mi.x_rest0, Mi.x_rest1, Mi.x_putn, Mi.x_putt, Mi.x_set0, Mi.x_set1, Mi.x_out0, Mi.x_out1, Mi.truth, Mi.seqOf, Mi.startE, Mi.pE_tup, Mi.wipe0, Mi.wipe1, Option.getD_some, Mi.isBl_ite, Mi.toB_ite, Mi.allD_map, Mi.anyD_map, Mi.filter_tt, -List.mem_map, List.forall_mem_map, -List.map_tail, -List.map_take, -List.map_drop, Mi.take_mp, Mi.drop_mp, Mi.tail_mp, Mi.min_cap, List.length_zip, Mi.zip2_map, Mi.okV_ite, Mi.okB_ite, Mi.getV_ite, Mi.getB_ite, Mi.bind_ite, Mi.out_ite, Mi.lc_s, Mi.lc_sS, Mi.lc_sN, Mi.lc_sM, List.filter_map, List.map_map, Function.comp_def, e1, hk, slD, e4, e5, hq]
          exact hd ⟨⟨_, _, rfl⟩, this⟩
      · have := fin (by rw [eb]; simp [hk])
        simp (maxDischargeDepth := 7) [List.getElem?_cons_zero, List.getElem?_cons_succ, Mi.bind_out, Mi.bind_bind, Mi.sq_asg, Mi.sq_do, Mi.sq_ret, Mi.sq_raise, Mi.sq_seq, Mi.sq_pass, Mi.sq_if, Mi.sq_app, Mi.sq_setI, Mi.sq_setK, Mi.sq_ct, Mi.sq_bk, Mi.x_V, Mi.x_C, Mi.x_1, Mi.x_2, Mi.x_O2, Mi.x_P0, Mi.x_P1, Mi.x_3, Mi.x_O3, Mi.x_And, Mi.x_Or, Mi.x_Not, Mi.x_If, Mi.x_L0, Mi.x_L1, Mi.x_Tup, Mi.x_Lst, Mi.x_Ch, Mi.x_Call, Mi.x_CallO, Mi.x_CallP, Mi.x_CallN, Mi.x_Meth, Mi.x_Seq, Mi.x_Rng, Mi.x_Rng2, Mi.x_Enum, Mi.x_Zip, Mi.x_Zip3, Mi.x_Ix, Mi.x_Make, Mi.x_Try, Mi.x_TryO, Mi.sq_try, Mi.sq_tryO, Mi.x_setF, Mi.sq_setF, Mi.isD, Mi.tyN, Mi.tyB, Mi.x_pass, Mi.x_asg, Mi.x_do, Mi.x_ret, Mi.x_raise, Mi.x_if, Mi.x_bk, Mi.x_ct, Mi.x_app, Mi.x_setI, Mi.x_setK, Mi.x_pop, Mi.x_isL, Mi.x_tn, Mi.x_t0, Mi.x_st0, Mi.x_st1, Mi.x_rest0, Mi.x_rest1, Mi.x_putn, Mi.x_putt, Mi.x_set0, Mi.x_set1, Mi.x_out0, Mi.x_out1, Mi.truth, Mi.seqOf, Mi.startE, Mi.pE_tup, Mi.wipe0, Mi.wipe1, Option.getD_some, Mi.isBl_ite, Mi.toB_ite, Mi.allD_map, Mi.anyD_map, Mi.filter_tt, -List.mem_map, List.forall_mem_map, -List.map_tail, -List.map_take, -List.map_drop, Mi.take_mp, Mi.drop_mp, Mi.tail_mp, Mi.min_cap, List.length_zip, Mi.zip2_map, Mi.okV_ite, Mi.okB_ite, Mi.getV_ite, Mi.getB_ite, Mi.bind_ite, Mi.out_ite, Mi.lc_s, Mi.lc_sS, Mi.lc_sN, Mi.lc_sM, List.filter_map, List.map_map, Function.comp_def, e1, hk, this]
    | bl b => have := fin (by unfold badT; rw [hi]); simp (maxDischargeDepth := 7) [List.getElem?_cons_zero, List.getElem?_cons_succ, Mi.bind_out, Mi.bind_bind, Mi.sq_asg, Mi.sq_do, Mi.sq_ret, Mi.sq_raise, Mi.sq_seq, Mi.sq_pass, Mi.sq_if, Mi.sq_app, Mi.sq_setI, Mi.sq_setK, Mi.sq_ct, Mi.sq_bk, Mi.x_V, Mi.x_C, Mi.x_1, Mi.x_2, Mi.x_O2, Mi.x_P0, Mi.x_P1, Mi.x_3, Mi.x_O3, Mi.x_And, Mi.x_Or, Mi.x_Not, Mi.x_If, Mi.x_L0, Mi.x_L1, Mi.x_Tup, Mi.x_Lst, Mi.x_Ch, Mi.x_Call, Mi.x_CallO, Mi.x_CallP, Mi.x_CallN, Mi.x_Meth, Mi.x_Seq, Mi.x_Rng, Mi.x_Rng2, Mi.x_Enum, Mi.x_Zip, Mi.x_Zip3, Mi.x_Ix, Mi.x_Make, Mi.x_Try, Mi.x_TryO, Mi.sq_try, Mi.sq_tryO, Mi.x_setF, Mi.sq_setF, Mi.isD, Mi.tyN, Mi.tyB, Mi.x_pass, Mi.x_asg, Mi.x_do, Mi.x_ret, Mi.x_raise, Mi.x_if, Mi.x_bk, Mi.x_ct, Mi.x_app, Mi.x_setI, Mi.x_setK, Mi.x_pop, Mi.x_isL, Mi.x_tn, Mi.x_t0, Mi.x_st0, Mi.x_st1, Mi.x_rest0, Mi.x_rest1, Mi.x_putn, Mi.x_putt, Mi.x_set0, Mi.x_set1, Mi.x_out0, Mi.x_out1, Mi.truth, Mi.seqOf, Mi.startE, Mi.pE_tup, Mi.wipe0, Mi.wipe1, Option.getD_some, Mi.isBl_ite, Mi.toB_ite, Mi.allD_map, Mi.anyD_map, Mi.filter_tt, -List.mem_map, List.forall_mem_map, -List.map_tail, -List.map_take, -List.map_drop, Mi.take_mp, Mi.drop_mp, Mi.tail_mp, Mi.min_cap, List.length_zip, Mi.zip2_map, Mi.okV_ite, Mi.okB_ite, Mi.getV_ite, Mi.getB_ite, Mi.bind_ite, Mi.out_ite, Mi.lc_s, Mi.lc_sS, Mi.lc_sN, Mi.lc_sM, List.filter_map, List.map_map, Function.comp_def, this]
    | non => have := fin (by unfold badT; rw [hi]); simp (maxDischargeDepth := 7) [List.getElem?_cons_zero, List.getElem?_cons_succ, Mi.bind_out, Mi.bind_bind, Mi.sq_asg, Mi.sq_do, Mi.sq_ret, Mi.sq_raise, Mi.sq_seq, Mi.sq_pass, Mi.sq_if, Mi.sq_app, Mi.sq_setI, Mi.sq_setK, Mi.sq_ct, Mi.sq_bk, Mi.x_V, Mi.x_C, Mi.x_1, Mi.x_2, Mi.x_O2, Mi.x_P0, Mi.x_P1, Mi.x_3, Mi.x_O3, Mi.x_And, Mi.x_Or, Mi.x_Not, Mi.x_If, Mi.x_L0, Mi.x_L1, Mi.x_Tup, Mi.x_Lst, Mi.x_Ch, Mi.x_Call, Mi.x_CallO, Mi.x_CallP, Mi.x_CallN, Mi.x_Meth, Mi.x_Seq, Mi.x_Rng, Mi.x_Rng2, Mi.x_Enum, Mi.x_Zip, Mi.x_Zip3, Mi.x_Ix, Mi.x_Make, Mi.x_Try, Mi.x_TryO, Mi.sq_try, Mi.sq_tryO, Mi.x_setF, Mi.sq_setF, Mi.isD, Mi.tyN, Mi.tyB, Mi.x_pass, Mi.x_asg, Mi.x_do, Mi.x_ret, Mi.x_raise, Mi.x_if, Mi.x_bk, Mi.x_ct, Mi.x_app, Mi.x_setI, Mi.x_setK, Mi.x_pop, Mi.x_isL, Mi.x_tn, Mi.x_t0, Mi.x_st0, Mi.x_st1, Mi.x_rest0, Mi.x_rest1, Mi.x_putn, Mi.x_putt, Mi.x_set0, Mi.x_set1, Mi.x_out0, Mi.x_out1, Mi.truth, Mi.seqOf, Mi.startE, Mi.pE_tup, Mi.wipe0, Mi.wipe1, Option.getD_some, Mi.isBl_ite, Mi.toB_ite, Mi.allD_map, Mi.anyD_map, Mi.filter_tt, -List.mem_map, List.forall_mem_map, -List.map_tail, -List.map_take, -List.map_drop, Mi.take_mp, Mi.drop_mp, Mi.tail_mp, Mi.min_cap, List.length_zip, Mi.zip2_map, Mi.okV_ite, Mi.okB_ite, Mi.getV_ite, Mi.getB_ite, Mi.bind_ite, Mi.out_ite, Mi.lc_s, Mi.lc_sS, Mi.lc_sN, Mi.lc_sM, List.filter_map, List.map_map, Function.comp_def, this]
    | str s => have := fin (by unfold badT; rw [hi]); simp (maxDischargeDepth := 7) [List.getElem?_cons_zero, List.getElem?_cons_succ, Mi.bind_out, Mi.bind_bind, Mi.sq_asg, Mi.sq_do, Mi.sq_ret, Mi.sq_raise, Mi.sq_seq, Mi.sq_pass, Mi.sq_if, Mi.sq_app, Mi.sq_setI, Mi.sq_setK, Mi.sq_ct, Mi.sq_bk, Mi.x_V, Mi.x_C, Mi.x_1, Mi.x_2, Mi.x_O2, Mi.x_P0, Mi.x_P1, Mi.x_3, Mi.x_O3, Mi.x_And, Mi.x_Or, Mi.x_Not, Mi.x_If, Mi.x_L0, Mi.x_L1, Mi.x_Tup, Mi.x_Lst, Mi.x_Ch, Mi.x_Call, Mi.x_CallO, Mi.x_CallP, Mi.x_CallN, Mi.x_Meth, Mi.x_Seq, Mi.x_Rng, Mi.x_Rng2, Mi.x_Enum, Mi.x_Zip, Mi.x_Zip3, Mi.x_Ix, Mi.x_Make, Mi.x_Try, Mi.x_TryO, Mi.sq_try, Mi.sq_tryO, Mi.x_setF, Mi.sq_setF, Mi.isD, Mi.tyN, Mi.tyB, Mi.x_pass, Mi.x_asg, Mi.x_do, Mi.x_ret, Mi.x_raise, Mi.x_if, Mi.x_bk, Mi.x_ct, Mi.x_app, Mi.x_setI, Mi.x_setK, Mi.x_pop, Mi.x_isL, Mi.x_tn, Mi.x_t0, Mi.x_st0, Mi.x_st1, Mi.x_rest0, Mi.x_rest1, Mi.x_putn, Mi.x_putt, Mi.x_set0, Mi.x_set1, Mi.x_out0, Mi.x_out1, Mi.truth, Mi.seqOf, Mi.startE, Mi.pE_tup, Mi.wipe0, Mi.wipe1, Option.getD_some, Mi.isBl_ite, Mi.toB_ite, Mi.allD_map, Mi.anyD_map, Mi.filter_tt, -List.mem_map, List.forall_mem_map, -List.map_tail, -List.map_take, -List.map_drop, Mi.take_mp, Mi.drop_mp, Mi.tail_mp, Mi.min_cap, List.length_zip, Mi.zip2_map, Mi.okV_ite, Mi.okB_ite, Mi.getV_ite, Mi.getB_ite, Mi.bind_ite, Mi.out_ite, Mi.lc_s, Mi.lc_sS, Mi.lc_sN, Mi.lc_sM, List.filter_map, List.map_map, Function.comp_def, this]
    | lst l => have := fin (by unfold badT; rw [hi]); simp (maxDischargeDepth := 7) [List.getElem?_cons_zero, List.getElem?_cons_succ, Mi.bind_out, Mi.bind_bind, Mi.sq_asg, Mi.sq_do, Mi.sq_ret, Mi.sq_raise, Mi.sq_seq, Mi.sq_pass, Mi.sq_if, Mi.sq_app, Mi.sq_setI, Mi.sq_setK, Mi.sq_ct, Mi.sq_bk, Mi.x_V, Mi.x_C, Mi.x_1, Mi.x_2, Mi.x_O2, Mi.x_P0, Mi.x_P1, Mi.x_3, Mi.x_O3, Mi.x_And, Mi.x_Or, Mi.x_Not, Mi.x_If, Mi.x_L0, Mi.x_L1, Mi.x_Tup, Mi.x_Lst, Mi.x_Ch, Mi.x_Call, Mi.x_CallO, Mi.x_CallP, Mi.x_CallN, Mi.x_Meth, Mi.x_Seq, Mi.x_Rng, Mi.x_Rng2, Mi.x_Enum, Mi.x_Zip, Mi.x_Zip3, Mi.x_Ix, Mi.x_Make, Mi.x_Try, Mi.x_TryO, Mi.sq_try, Mi.sq_tryO, Mi.x_setF, Mi.sq_setF, Mi.isD, Mi.tyN, Mi.tyB, Mi.x_pass, Mi.x_asg, Mi.x_do, Mi.x_ret, Mi.x_raise, Mi.x_if, Mi.x_bk, Mi.x_ct, Mi.x_app, Mi.x_setI, Mi.x_setK, Mi.x_pop, Mi.x_isL, Mi.x_tn, Mi.x_t0, Mi.x_st0, Mi.x_st1, Mi.x_rest0, Mi.x_rest1, Mi.x_putn, Mi.x_putt, Mi.x_set0, Mi.x_set1, Mi.x_out0, Mi.x_out1, Mi.truth, Mi.seqOf, Mi.startE, Mi.pE_tup, Mi.wipe0, Mi.wipe1, Option.getD_some, Mi.isBl_ite, Mi.toB_ite, Mi.allD_map, Mi.anyD_map, Mi.filter_tt, -List.mem_map, List.forall_mem_map, -List.map_tail, -List.map_take, -List.map_drop, Mi.take_mp, Mi.drop_mp, Mi.tail_mp, Mi.min_cap, List.length_zip, Mi.zip2_map, Mi.okV_ite, Mi.okB_ite, Mi.getV_ite, Mi.getB_ite, Mi.bind_ite, Mi.out_ite, Mi.lc_s, Mi.lc_sS, Mi.lc_sN, Mi.lc_sM, List.filter_map, List.map_map, Function.comp_def, this]
    | tup l => have := fin (by unfold badT; rw [hi]); simp (maxDischargeDepth := 7) [List.getElem?_cons_zero, List.getElem?_cons_succ, Mi.bind_out, Mi.bind_bind, Mi.sq_asg, Mi.sq_do, Mi.sq_ret, Mi.sq_raise, Mi.sq_seq, Mi.sq_pass, Mi.sq_if, Mi.sq_app, Mi.sq_setI, Mi.sq_setK, Mi.sq_ct, Mi.sq_bk, Mi.x_V, Mi.x_C, Mi.x_1, Mi.x_2, Mi.x_O2, Mi.x_P0, Mi.x_P1, Mi.x_3, Mi.x_O3, Mi.x_And, Mi.x_Or, Mi.x_Not, Mi.x_If, Mi.x_L0, Mi.x_L1, Mi.x_Tup, Mi.x_Lst, Mi.x_Ch, Mi.x_Call, Mi.x_CallO, Mi.x_CallP, Mi.x_CallN, Mi.x_Meth, Mi.x_Seq, Mi.x_Rng, Mi.x_Rng2, Mi.x_Enum, Mi.x_Zip, Mi.x_Zip3, Mi.x_Ix, Mi.x_Make, Mi.x_Try, Mi.x_TryO, Mi.sq_try, Mi.sq_tryO, Mi.x_setF, Mi.sq_setF, Mi.isD, Mi.tyN, Mi.tyB, Mi.x_pass, Mi.x_asg, Mi.x_do, Mi.x_ret, Mi.x_raise, Mi.x_if, Mi.x_bk, Mi.x_ct, Mi.x_app, Mi.x_setI, Mi.x_setK, Mi.x_pop, Mi.x_isL, Mi.x_tn, Mi.x_t0, Mi.x_st0, Mi.x_st1, Mi.x_rest0, Mi.x_rest1, Mi.x_putn, Mi.x_putt, Mi.x_set0, Mi.x_set1, Mi.x_out0, Mi.x_out1, Mi.truth, Mi.seqOf, Mi.startE, Mi.pE_tup, Mi.wipe0, Mi.wipe1, Option.getD_some, Mi.isBl_ite, Mi.toB_ite, Mi.allD_map, Mi.anyD_map, Mi.filter_tt, -List.mem_map, List.forall_mem_map, -List.map_tail, -List.map_take, -List.map_drop, Mi.take_mp, Mi.drop_mp, Mi.tail_mp, Mi.min_cap, List.length_zip, Mi.zip2_map, Mi.okV_ite, Mi.okB_ite, Mi.getV_ite, Mi.getB_ite, Mi.bind_ite, Mi.out_ite, Mi.lc_s, Mi.lc_sS, Mi.lc_sN, Mi.lc_sM, List.filter_map, List.map_map, Function.comp_def, this]
    | dic l => exact absurd (small_laid hm).1 (by simp [D.py, PyData.canLay0])
    | dit l => exact absurd (small_laid hm).1 (by simp [D.py, PyData.canLay0])
    | obj c l => exact absurd (small_laid hm).1 (by simp [D.py, PyData.canLay0])
  · rintro δ ⟨⟨x, y, rfl⟩, hb0⟩
    have : firstT al xs = none := first_no hb0
    simp (maxDischargeDepth := 7) [List.getElem?_cons_zero, List.getElem?_cons_succ, Mi.bind_out, Mi.bind_bind, Mi.sq_asg, Mi.sq_do, Mi.sq_ret, Mi.sq_raise, Mi.sq_seq, Mi.sq_pass, Mi.sq_if, Mi.sq_app, Mi.sq_setI, Mi.sq_setK, Mi.sq_ct, Mi.sq_bk, Mi.x_V, Mi.x_C, Mi.x_1, Mi.x_2, Mi.x_O2, Mi.x_P0, Mi.x_P1, Mi.x_3, Mi.x_O3, Mi.x_And, Mi.x_Or, Mi.x_Not, Mi.x_If, Mi.x_L0, Mi.x_L1, Mi.x_Tup, Mi.x_Lst, Mi.x_Ch, Mi.x_Call, Mi.x_CallO, Mi.x_CallP, Mi.x_CallN, Mi.x_Meth, Mi.x_Seq, Mi.x_Rng, Mi.x_Rng2, Mi.x_Enum, Mi.x_Zip, Mi.x_Zip3, Mi.x_Ix, Mi.x_Make, Mi.x_Try, Mi.x_TryO, Mi.sq_try, Mi.sq_tryO, Mi.x_setF, Mi.sq_setF, Mi.isD, Mi.tyN, Mi.tyB, Mi.x_pass, Mi.x_asg, Mi.x_do, Mi.x_ret, Mi.x_raise, Mi.x_if, Mi.x_bk, Mi.x_ct, Mi.x_app, Mi.x_setI, Mi.x_setK, Mi.x_pop, Mi.x_isL, Mi.x_tn, Mi.x_t0, Mi.x_st0, Mi.x_st1, Mi.x_rest0, Mi.x_rest1, Mi.x_putn, Mi.x_putt, Mi.x_set0, Mi.x_set1, Mi.x_out0, Mi.x_out1, Mi.truth, Mi.seqOf, Mi.startE, Mi.pE_tup, Mi.wipe0, Mi.wipe1, Option.getD_some, Mi.isBl_ite, Mi.toB_ite, Mi.allD_map, Mi.anyD_map, Mi.filter_tt, -List.mem_map, List.forall_mem_map, -List.map_tail, -List.map_take, -List.map_drop, Mi.take_mp, Mi.drop_mp, Mi.tail_mp, Mi.min_cap, List.length_zip, Mi.zip2_map, Mi.okV_ite, Mi.okB_ite, Mi.getV_ite, Mi.getB_ite, Mi.bind_ite, Mi.out_ite, Mi.lc_s, Mi.lc_sS, Mi.lc_sN, Mi.lc_sM, List.filter_map, List.map_map, Function.comp_def, this, dueD]
theorem chk_tup {n : Nat} {al : List (List Int)} {L : Nat} {xs : List D} (hb : BkOk n al) (h : Sms L xs) (hl : xs.length = al.length) : f_check_timetable [bookD n al, .tup xs] = chkF (firstT al xs) := by
  refine e_check_timetable rfl ?_
  unfold m_check_timetable
  have l1 := lenO_ok n hb.len
  simp (maxDischargeDepth := 7) [List.getElem?_cons_zero, List.getElem?_cons_succ, Mi.bind_out, Mi.bind_bind, Mi.sq_asg, Mi.sq_do, Mi.sq_ret, Mi.sq_raise, Mi.sq_seq, Mi.sq_pass, Mi.sq_if, Mi.sq_app, Mi.sq_setI, Mi.sq_setK, Mi.sq_ct, Mi.sq_bk, Mi.x_V, Mi.x_C, Mi.x_1, Mi.x_2, Mi.x_O2, Mi.x_P0, Mi.x_P1, Mi.x_3, Mi.x_O3, Mi.x_And, Mi.x_Or, Mi.x_Not, Mi.x_If, Mi.x_L0, Mi.x_L1, Mi.x_Tup, Mi.x_Lst, Mi.x_Ch, Mi.x_Call, Mi.x_CallO, Mi.x_CallP, Mi.x_CallN, Mi.x_Meth, Mi.x_Seq, Mi.x_Rng, Mi.x_Rng2, Mi.x_Enum, Mi.x_Zip, Mi.x_Zip3, Mi.x_Ix, Mi.x_Make, Mi.x_Try, Mi.x_TryO, Mi.sq_try, Mi.sq_tryO, Mi.x_setF, Mi.sq_setF, Mi.isD, Mi.tyN, Mi.tyB, Mi.x_pass, Mi.x_asg, Mi.x_do, Mi.x_ret, Mi.x_raise, Mi.x_if, Mi.x_bk, Mi.x_ct, Mi.x_app, Mi.x_setI, Mi.x_setK, Mi.x_pop, Mi.x_isL, Mi.x_tn, Mi.x_t0, Mi.x_st0, Mi.x_st1, Mi.x_rest0, Mi.x_rest1, Mi.x_putn, Mi.x_putt, Mi.x_set0, Mi.x_set1, Mi.x_out0, Mi.x_out1, Mi.truth, Mi.seqOf, Mi.startE, Mi.pE_tup, Mi.wipe0, Mi.wipe1, Option.getD_some, Mi.isBl_ite, Mi.toB_ite, Mi.allD_map, Mi.anyD_map, Mi.filter_tt, -List.mem_map, List.forall_mem_map, -List.map_tail, -List.map_take, -List.map_drop, Mi.take_mp, Mi.drop_mp, Mi.tail_mp, Mi.min_cap, List.length_zip, Mi.zip2_map, Mi.okV_ite, Mi.okB_ite, Mi.getV_ite, Mi.getB_ite, Mi.bind_ite, Mi.out_ite, Mi.lc_s, Mi.lc_sS, Mi.lc_sN, Mi.lc_sM, List.filter_map, List.map_map, Function.comp_def, lenD, l1, hl]
  refine q_for0 (as := xs) (f := fun i d => .tup [.int i, d]) (ds := enumD 0 xs) rfl (by simpa using its_enum (as := xs) (f := id)) (fun δ0 i δ => (∃ x y, δ = stE δ0 [(2, x), (3, y)]) ∧ ∀ j, j < i → badT al xs j = false) ⟨⟨none, none, by simp (maxDischargeDepth := 7) [List.getElem?_cons_zero, List.getElem?_cons_succ, Mi.bind_out, Mi.bind_bind, Mi.sq_asg, Mi.sq_do, Mi.sq_ret, Mi.sq_raise, Mi.sq_seq, Mi.sq_pass, Mi.sq_if, Mi.sq_app, Mi.sq_setI, Mi.sq_setK, Mi.sq_ct, Mi.sq_bk, Mi.x_V, Mi.x_C, Mi.x_1, Mi.x_2, Mi.x_O2, Mi.x_P0, Mi.x_P1, Mi.x_3, Mi.x_O3, Mi.x_And, Mi.x_Or, Mi.x_Not, Mi.x_If, Mi.x_L0, Mi.x_L1, Mi.x_Tup, Mi.x_Lst, Mi.x_Ch, Mi.x_Call, Mi.x_CallO, Mi.x_CallP, Mi.x_CallN, Mi.x_Meth, Mi.x_Seq, Mi.x_Rng, Mi.x_Rng2, Mi.x_Enum, Mi.x_Zip, Mi.x_Zip3, Mi.x_Ix, Mi.x_Make, Mi.x_Try, Mi.x_TryO, Mi.sq_try, Mi.sq_tryO, Mi.x_setF, Mi.sq_setF, Mi.isD, Mi.tyN, Mi.tyB, Mi.x_pass, Mi.x_asg, Mi.x_do, Mi.x_ret, Mi.x_raise, Mi.x_if, Mi.x_bk, Mi.x_ct, Mi.x_app, Mi.x_setI, Mi.x_setK, Mi.x_pop, Mi.x_isL, Mi.x_tn, Mi.x_t0, Mi.x_st0, Mi.x_st1, Mi.x_rest0, Mi.x_rest1, Mi.x_putn, Mi.x_putt, Mi.x_set0, Mi.x_set1, Mi.x_out0, Mi.x_out1, Mi.truth, Mi.seqOf, Mi.startE, Mi.pE_tup, Mi.wipe0, Mi.wipe1, Option.getD_some, Mi.isBl_ite, Mi.toB_ite, Mi.allD_map, Mi.anyD_map, Mi.filter_tt, -List.mem_map, List.forall_mem_map, -List.map_tail, -List.map_take, -List.map_drop, Mi.take_mp, Mi.drop_mp, Mi.tail_mp, Mi.min_cap, List.length_zip, Mi.zip2_map, Mi.okV_ite, Mi.okB_ite, Mi.getV_ite, Mi.getB_ite, Mi.bind_ite, Mi.out_ite, Mi.lc_s, Mi.lc_sS, Mi.lc_sN, Mi.lc_sM, List.filter_map, List.map_map, Function.comp_def]⟩, fun j hj => by omega⟩ ?_ ?_
  · rintro i d δ hi ⟨⟨x, y, rfl⟩, hb0⟩
    have hm := h.1 d (List.mem_of_getElem? hi)
    have hil := (List.getElem?_eq_some_iff.mp hi).1
    have ok := small_okD hm
    have ii := is_int_ok (small_ty hm)
    have fin : badT al xs i = true → chkF (firstT al xs) = .exc "NoTimetable" (.int (i : Nat)) := fun hb => by
      unfold firstT
      rw [first_at hb0 hb hil]
      rfl
    have nxt : badT al xs i = false → ∀ j, j < i + 1 → badT al xs j = false := fun hb j hj => by
      by_cases z : j = i
      · rw [z]; exact hb
      · exact hb0 j (by omega)
    cases d with
    | int k =>
      have ea : al[i]? = some al[i] := List.getElem?_eq_getElem (by omega)
      have e1 := tpD_at ea
      have e4 : cutD xs none (some (i : Int)) = xs.take i := by rw [slice_take (by omega)]; rfl
      have e5 := (in_sms (sms_take h i) ok).1
      have eb : badT al xs i = (!decide (k ∈ al[i]) || inB (.int k) (xs.take i)) := by
        unfold badT
        rw [hi, ea]
        rfl
      by_cases hk : k ∈ al[i]
      · cases hq : inB (.int k) (xs.take i) with
        | true =>
          have := fin (by rw [eb, hq]; simp)
          simp (maxDischargeDepth := 7) [List.getElem?_cons_zero, List.getElem?_cons_succ, Mi.bind_out, Mi.bind_bind, Mi.sq_asg, Mi.sq_do, Mi.sq_ret, Mi.sq_raise, Mi.sq_seq, Mi.sq_pass, Mi.sq_if, Mi.sq_app, Mi.sq_setI, Mi.sq_setK, Mi.sq_ct, Mi.sq_bk, Mi.x_V, Mi.x_C, Mi.x_1, Mi.x_2, Mi.x_O2, Mi.x_P0, Mi.x_P1, Mi.x_3, Mi.x_O3, Mi.x_And, Mi.x_Or, Mi.x_Not, Mi.x_If, Mi.x_L0, Mi.x_L1, Mi.x_Tup, Mi.x_Lst, Mi.x_Ch, Mi.x_Call, Mi.x_CallO, Mi.x_CallP, Mi.x_CallN, Mi.x_Meth, Mi.x_Seq, Mi.x_Rng, Mi.x_Rng2, Mi.x_Enum, Mi.x_Zip, Mi.x_Zip3, Mi.x_Ix, Mi.x_Make, Mi.x_Try, Mi.x_TryO, Mi.sq_try, Mi.sq_tryO, Mi.x_setF, Mi.sq_setF, Mi.isD, Mi.tyN, Mi.tyB, Mi.x_pass, Mi.x_asg, Mi.x_do, Mi.x_ret, Mi.x_raise, Mi.x_if, Mi.x_bk, Mi.x_ct, Mi.x_app, Mi.x_setI, Mi.x_setK, Mi.x_pop, Mi.x_isL, Mi.x_tn, Mi.x_t0, Mi.x_st0, Mi.x_st1, Mi.x_rest0, Mi.x_rest1, Mi.x_putn, Mi.x_putt, Mi.x_set0, Mi.x_set1, Mi.x_out0, Mi.x_out1, Mi.truth, Mi.seqOf, Mi.startE, Mi.pE_tup, Mi.wipe0, Mi.wipe1, Option.getD_some, Mi.isBl_ite, Mi.toB_ite, Mi.allD_map, Mi.anyD_map, Mi.filter_tt, -List.mem_map, List.forall_mem_map, -List.map_tail, -List.map_take, -List.map_drop, Mi.take_mp, Mi.drop_mp, Mi.tail_mp, Mi.min_cap, List.length_zip, Mi.zip2_map, Mi.okV_ite, Mi.okB_ite, Mi.getV_ite, Mi.getB_ite, Mi.bind_ite, Mi.out_ite, Mi.lc_s, Mi.lc_sS, Mi.lc_sN, Mi.lc_sM, List.filter_map, List.map_map, Function.comp_def, fld_rows, e1, hk, slD, e4, e5, hq, this]
        | false =>
          have := nxt (by rw [eb, hq]; simp [hk])
          simp (maxDischargeDepth := 7) [List.getElem?_cons_zero, List.getElem?_cons_succ, Mi.bind_out, Mi.bind_bind, Mi.sq_asg, Mi.sq_do, Mi.sq_ret, Mi.sq_raise, Mi.sq_seq, Mi.sq_pass, Mi.sq_if, Mi.sq_app, Mi.sq_setI, Mi.sq_setK, Mi.sq_ct, Mi.sq_bk, Mi.x_V, Mi.x_C, Mi.x_1, Mi.x_2, Mi.x_O2, Mi.x_P0, Mi.x_P1, Mi.x_3, Mi.x_O3, Mi.x_And, Mi.x_Or, Mi.x_Not, Mi.x_If, Mi.x_L0, Mi.x_L1, Mi.x_Tup, Mi.x_Lst, Mi.x_Ch, Mi.x_Call, Mi.x_CallO, Mi.x_CallP, Mi.x_CallN, Mi.x_Meth, Mi.x_Seq, Mi.x_Rng, Mi.x_Rng2, Mi.x_Enum, Mi.x_Zip, Mi.x_Zip3, Mi.x_Ix, Mi.x_Make, Mi.x_Try, Mi.x_TryO, Mi.sq_try, Mi.sq_tryO, Mi.x_setF, Mi.sq_setF, Mi.isD, Mi.tyN, Mi.tyB, Mi.x_pass, Mi.x_asg, Mi.x_do, Mi.x_ret, Mi.x_raise, Mi.x_if, Mi.x_bk, Mi.x_ct, Mi.x_app, Mi.x_setI, Mi.x_setK, Mi.x_pop, Mi.x_isL, Mi.x_tn, Mi.x_t0, Mi.x_st0, Mi.x_st1, Mi.x_rest0, Mi.x_rest1, Mi.x_putn, Mi.x_putt, Mi.x_set0, Mi.x_set1, Mi.x_out0, Mi.x_out1, Mi.truth, Mi.seqOf, Mi.startE, Mi.pE_tup, Mi.wipe0, Mi.wipe1, Option.getD_some, Mi.isBl_ite, Mi.toB_ite, Mi.allD_map, Mi.anyD_map, Mi.filter_tt, -List.mem_map, List.forall_mem_map, -List.map_tail, -List.map_take, -List.map_drop, Mi.take_mp, Mi.drop_mp, Mi.tail_mp, Mi.min_cap, List.length_zip, Mi.zip2_map, Mi.okV_ite, Mi.okB_ite, Mi.getV_ite, Mi.getB_ite, Mi.bind_ite, Mi.out_ite, Mi.lc_s, Mi.lc_sS, Mi.lc_sN, Mi.lc_sM, List.filter_map, List.map_map, Function.comp_def, fld_rows, e1, hk, slD, e4, e5, hq]
          exact hd ⟨⟨_, _, rfl⟩, this⟩
      · have := fin (by rw [eb]; simp [hk])
        simp (maxDischargeDepth := 7) [List.getElem?_cons_zero, List.getElem?_cons_succ, Mi.bind_out, Mi.bind_bind, Mi.sq_asg, Mi.sq_do, Mi.sq_ret, Mi.sq_raise, Mi.sq_seq, Mi.sq_pass, Mi.sq_if, Mi.sq_app, Mi.sq_setI, Mi.sq_setK, Mi.sq_ct, Mi.sq_bk, Mi.x_V, Mi.x_C, Mi.x_1, Mi.x_2, Mi.x_O2, Mi.x_P0, Mi.x_P1, Mi.x_3, Mi.x_O3, Mi.x_And, Mi.x_Or, Mi.x_Not, Mi.x_If, Mi.x_L0, Mi.x_L1, Mi.x_Tup, Mi.x_Lst, Mi.x_Ch, Mi.x_Call, Mi.x_CallO, Mi.x_CallP, Mi.x_CallN, Mi.x_Meth, Mi.x_Seq, Mi.x_Rng, Mi.x_Rng2, Mi.x_Enum, Mi.x_Zip, Mi.x_Zip3, Mi.x_Ix, Mi.x_Make, Mi.x_Try, Mi.x_TryO, Mi.sq_try, Mi.sq_tryO, Mi.x_setF, Mi.sq_setF, Mi.isD, Mi.tyN, Mi.tyB, Mi.x_pass, Mi.x_asg, Mi.x_do, Mi.x_ret, Mi.x_raise, Mi.x_if, Mi.x_bk, Mi.x_ct, Mi.x_app, Mi.x_setI, Mi.x_setK, Mi.x_pop, Mi.x_isL, Mi.x_tn, Mi.x_t0, Mi.x_st0, Mi.x_st1, Mi.x_rest0, Mi.x_rest1, Mi.x_putn, Mi.x_putt, Mi.x_set0, Mi.x_set1, Mi.x_out0, Mi.x_out1, Mi.truth, Mi.seqOf, Mi.startE, Mi.pE_tup, Mi.wipe0, Mi.wipe1, Option.getD_some, Mi.isBl_ite, Mi.toB_ite, Mi.allD_map, Mi.anyD_map, Mi.filter_tt, -List.mem_map, List.forall_mem_map, -List.map_tail, -List.map_take, -List.map_drop, Mi.take_mp, Mi.drop_mp, Mi.tail_mp, Mi.min_cap, List.length_zip, Mi.zip2_map, Mi.okV_ite, Mi.okB_ite, Mi.getV_ite, Mi.getB_ite, Mi.bind_ite, Mi.out_ite, Mi.lc_s, Mi.lc_sS, Mi.lc_sN, Mi.lc_sM, List.filter_map, List.map_map, Function.comp_def, fld_rows, e1, hk, this]
    | bl b => have := fin (by unfold badT; rw [hi]); simp (maxDischargeDepth := 7) [List.getElem?_cons_zero, List.getElem?_cons_succ, Mi.bind_out, Mi.bind_bind, Mi.sq_asg, Mi.sq_do, Mi.sq_ret, Mi.sq_raise, Mi.sq_seq, Mi.sq_pass, Mi.sq_if, Mi.sq_app, Mi.sq_setI, Mi.sq_setK, Mi.sq_ct, Mi.sq_bk, Mi.x_V, Mi.x_C, Mi.x_1, Mi.x_2, Mi.x_O2, Mi.x_P0, Mi.x_P1, Mi.x_3, Mi.x_O3, Mi.x_And, Mi.x_Or, Mi.x_Not, Mi.x_If, Mi.x_L0, Mi.x_L1, Mi.x_Tup, Mi.x_Lst, Mi.x_Ch, Mi.x_Call, Mi.x_CallO, Mi.x_CallP, Mi.x_CallN, Mi.x_Meth, Mi.x_Seq, Mi.x_Rng, Mi.x_Rng2, Mi.x_Enum, Mi.x_Zip, Mi.x_Zip3, Mi.x_Ix, Mi.x_Make, Mi.x_Try, Mi.x_TryO, Mi.sq_try, Mi.sq_tryO, Mi.x_setF, Mi.sq_setF, Mi.isD, Mi.tyN, Mi.tyB, Mi.x_pass, Mi.x_asg, Mi.x_do, Mi.x_ret, Mi.x_raise, Mi.x_if, Mi.x_bk, Mi.x_ct, Mi.x_app, Mi.x_setI, Mi.x_setK, Mi.x_pop, Mi.x_isL, Mi.x_tn, Mi.x_t0, Mi.x_st0, Mi.x_st1, Mi.x_rest0, Mi.x_rest1, Mi.x_putn, Mi.x_putt, Mi.x_set0, Mi.x_set1, Mi.x_out0, Mi.x_out1, Mi.truth, Mi.seqOf, Mi.startE, Mi.pE_tup, Mi.wipe0, Mi.wipe1, Option.getD_some, Mi.isBl_ite, Mi.toB_ite, Mi.allD_map, Mi.anyD_map, Mi.filter_tt, -List.mem_map, List.forall_mem_map, -List.map_tail, -List.map_take, -List.map_drop, Mi.take_mp, Mi.drop_mp, Mi.tail_mp, Mi.min_cap, List.length_zip, Mi.zip2_map, Mi.okV_ite, Mi.okB_ite, Mi.getV_ite, Mi.getB_ite, Mi.bind_ite, Mi.out_ite, Mi.lc_s, Mi.lc_sS, Mi.lc_sN, Mi.lc_sM, List.filter_map, List.map_map, Function.comp_def, ii, isI, this]
    | non => have := fin (by unfold badT; rw [hi]); simp (maxDischargeDepth := 7) [List.getElem?_cons_zero, List.getElem?_cons_succ, Mi.bind_out, Mi.bind_bind, Mi.sq_asg, Mi.sq_do, Mi.sq_ret, Mi.sq_raise, Mi.sq_seq, Mi.sq_pass, Mi.sq_if, Mi.sq_app, Mi.sq_setI, Mi.sq_setK, Mi.sq_ct, Mi.sq_bk, Mi.x_V, Mi.x_C, Mi.x_1, Mi.x_2, Mi.x_O2, Mi.x_P0, Mi.x_P1, Mi.x_3, Mi.x_O3, Mi.x_And, Mi.x_Or, Mi.x_Not, Mi.x_If, Mi.x_L0, Mi.x_L1, Mi.x_Tup, Mi.x_Lst, Mi.x_Ch, Mi.x_Call, Mi.x_CallO, Mi.x_CallP, Mi.x_CallN, Mi.x_Meth, Mi.x_Seq, Mi.x_Rng, Mi.x_Rng2, Mi.x_Enum, Mi.x_Zip, Mi.x_Zip3, Mi.x_Ix, Mi.x_Make, Mi.x_Try, Mi.x_TryO, Mi.sq_try, Mi.sq_tryO, Mi.x_setF, Mi.sq_setF, Mi.isD, Mi.tyN, Mi.tyB, Mi.x_pass, Mi.x_asg, Mi.x_do, Mi.x_ret, Mi.x_raise, Mi.x_if, Mi.x_bk, Mi.x_ct, Mi.x_app, Mi.x_setI, Mi.x_setK, Mi.x_pop, Mi.x_isL, Mi.x_tn, Mi.x_t0, Mi.x_st0, Mi.x_st1, Mi.x_rest0, Mi.x_rest1, Mi.x_putn, Mi.x_putt, Mi.x_set0, Mi.x_set1, Mi.x_out0, Mi.x_out1, Mi.truth, Mi.seqOf, Mi.startE, Mi.pE_tup, Mi.wipe0, Mi.wipe1, Option.getD_some, Mi.isBl_ite, Mi.toB_ite, Mi.allD_map, Mi.anyD_map, Mi.filter_tt, -List.mem_map, List.forall_mem_map, -List.map_tail, -List.map_take, -List.map_drop, Mi.take_mp, Mi.drop_mp, Mi.tail_mp, Mi.min_cap, List.length_zip, Mi.zip2_map, Mi.okV_ite, Mi.okB_ite, Mi.getV_ite, Mi.getB_ite, Mi.bind_ite, Mi.out_ite, Mi.lc_s, Mi.lc_sS, Mi.lc_sN, Mi.lc_sM, List.filter_map, List.map_map, Function.comp_def, ii, isI, this]
    | str s => have := fin (by unfold badT; rw [hi]); simp (maxDischargeDepth := 7) [List.getElem?_cons_zero, List.getElem?_cons_succ, Mi.bind_out, Mi.bind_bind, Mi.sq_asg, Mi.sq_do, Mi.sq_ret, Mi.sq_raise, Mi.sq_seq, Mi.sq_pass, Mi.sq_if, Mi.sq_app, Mi.sq_setI, Mi.sq_setK, Mi.sq_ct, Mi.sq_bk, Mi.x_V, Mi.x_C, Mi.x_1, Mi.x_2, Mi.x_O2, Mi.x_P0, Mi.x_P1, Mi.x_3, Mi.x_O3, Mi.x_And, Mi.x_Or, Mi.x_Not, Mi.x_If, Mi.x_L0, Mi.x_L1, Mi.x_Tup, Mi.x_Lst, Mi.x_Ch, Mi.x_Call, Mi.x_CallO, Mi.x_CallP, Mi.x_CallN, Mi.x_Meth, Mi.x_Seq, Mi.x_Rng, Mi.x_Rng2, Mi.x_Enum, Mi.x_Zip, Mi.x_Zip3, Mi.x_Ix, Mi.x_Make, Mi.x_Try, Mi.x_TryO, Mi.sq_try, Mi.sq_tryO, Mi.x_setF, Mi.sq_setF, Mi.isD, Mi.tyN, Mi.tyB, Mi.x_pass, Mi.x_asg, Mi.x_do, Mi.x_ret, Mi.x_raise, Mi.x_if, Mi.x_bk, Mi.x_ct, Mi.x_app, Mi.x_setI, Mi.x_setK, Mi.x_pop, Mi.x_isL, Mi.x_tn, Mi.x_t0, Mi.x_st0, Mi.x_st1, Mi.x_rest0, Mi.x_rest1, Mi.x_putn, Mi.x_putt, Mi.x_set0, Mi.x_set1, Mi.x_out0, Mi.x_out1, Mi.truth, Mi.seqOf, Mi.startE, Mi.pE_tup, Mi.wipe0, Mi.wipe1, Option.getD_some, Mi.isBl_ite, Mi.toB_ite, Mi.allD_map, Mi.anyD_map, Mi.filter_tt, -List.mem_map, List.forall_mem_map, -List.map_tail, -List.map_take, -List.map_drop, Mi.take_mp, Mi.drop_mp, Mi.tail_mp, Mi.min_cap, List.length_zip, Mi.zip2_map, Mi.okV_ite, Mi.okB_ite, Mi.getV_ite, Mi.getB_ite, Mi.bind_ite, Mi.out_ite, Mi.lc_s, Mi.lc_sS, Mi.lc_sN, Mi.lc_sM, List.filter_map, List.map_map, Function.comp_def, ii, isI, this]
    | lst l => have := fin (by unfold badT; rw [hi]); simp (maxDischargeDepth := 7) [List.getElem?_cons_zero, List.getElem?_cons_succ, Mi.bind_out, Mi.bind_bind, Mi.sq_asg, Mi.sq_do, Mi.sq_ret, Mi.sq_raise, Mi.sq_seq, Mi.sq_pass, Mi.sq_if, Mi.sq_app, Mi.sq_setI, Mi.sq_setK, Mi.sq_ct, Mi.sq_bk, Mi.x_V, Mi.x_C, Mi.x_1, Mi.x_2, Mi.x_O2, Mi.x_P0, Mi.x_P1, Mi.x_3, Mi.x_O3, Mi.x_And, Mi.x_Or, Mi.x_Not, Mi.x_If, Mi.x_L0, Mi.x_L1, Mi.x_Tup, Mi.x_Lst, Mi.x_Ch, Mi.x_Call, Mi.x_CallO, Mi.x_CallP, Mi.x_CallN, Mi.x_Meth, Mi.x_Seq, Mi.x_Rng, Mi.x_Rng2, Mi.x_Enum, Mi.x_Zip, Mi.x_Zip3, Mi.x_Ix, Mi.x_Make, Mi.x_Try, Mi.x_TryO, Mi.sq_try, Mi.sq_tryO, Mi.x_setF, Mi.sq_setF, Mi.isD, Mi.tyN, Mi.tyB, Mi.x_pass, Mi.x_asg, Mi.x_do, Mi.x_ret, Mi.x_raise, Mi.x_if, Mi.x_bk, Mi.x_ct, Mi.x_app, Mi.x_setI, Mi.x_setK, Mi.x_pop, Mi.x_isL, Mi.x_tn, Mi.x_t0, Mi.x_st0, Mi.x_st1, Mi.x_rest0, Mi.x_rest1, Mi.x_putn, Mi.x_putt, Mi.x_set0, Mi.x_set1, Mi.x_out0, Mi.x_out1, Mi.truth, Mi.seqOf, Mi.startE, Mi.pE_tup, Mi.wipe0, Mi.wipe1, Option.getD_some, Mi.isBl_ite, Mi.toB_ite, Mi.allD_map, Mi.anyD_map, Mi.filter_tt, -List.mem_map, List.forall_mem_map, -List.map_tail, -List.map_take, -List.map_drop, Mi.take_mp, Mi.drop_mp, Mi.tail_mp, Mi.min_cap, List.length_zip, Mi.zip2_map, Mi.okV_ite, Mi.okB_ite, Mi.getV_ite, Mi.getB_ite, Mi.bind_ite, Mi.out_ite, Mi.lc_s, Mi.lc_sS, Mi.lc_sN, Mi.lc_sM, List.filter_map, List.map_map, Function.comp_def, ii, isI, this]
    | tup l => have := fin (by unfold badT; rw [hi]); simp (maxDischargeDepth := 7) [List.getElem?_cons_zero, List.getElem?_cons_succ, Mi.bind_out, Mi.bind_bind, Mi.sq_asg, Mi.sq_do, Mi.sq_ret, Mi.sq_raise, Mi.sq_seq, Mi.sq_pass, Mi.sq_if, Mi.sq_app, Mi.sq_setI, Mi.sq_setK, Mi.sq_ct, Mi.sq_bk, Mi.x_V, Mi.x_C, Mi.x_1, Mi.x_2, Mi.x_O2, Mi.x_P0, Mi.x_P1, Mi.x_3, Mi.x_O3, Mi.x_And, Mi.x_Or, Mi.x_Not, Mi.x_If, Mi.x_L0, Mi.x_L1, Mi.x_Tup, Mi.x_Lst, Mi.x_Ch, Mi.x_Call, Mi.x_CallO, Mi.x_CallP, Mi.x_CallN, Mi.x_Meth, Mi.x_Seq, Mi.x_Rng, Mi.x_Rng2, Mi.x_Enum, Mi.x_Zip, Mi.x_Zip3, Mi.x_Ix, Mi.x_Make, Mi.x_Try, Mi.x_TryO, Mi.sq_try, Mi.sq_tryO, Mi.x_setF, Mi.sq_setF, Mi.isD, Mi.tyN, Mi.tyB, Mi.x_pass, Mi.x_asg, Mi.x_do, Mi.x_ret, Mi.x_raise, Mi.x_if, Mi.x_bk, Mi.x_ct, Mi.x_app, Mi.x_setI, Mi.x_setK, Mi.x_pop, Mi.x_isL, Mi.x_tn, Mi.x_t0, Mi.x_st0, Mi.x_st1, Mi.x_rest0, Mi.x_rest1, Mi.x_putn, Mi.x_putt, Mi.x_set0, Mi.x_set1, Mi.x_out0, Mi.x_out1, Mi.truth, Mi.seqOf, Mi.startE, Mi.pE_tup, Mi.wipe0, Mi.wipe1, Option.getD_some, Mi.isBl_ite, Mi.toB_ite, Mi.allD_map, Mi.anyD_map, Mi.filter_tt, -List.mem_map, List.forall_mem_map, -List.map_tail, -List.map_take, -List.map_drop, Mi.take_mp, Mi.drop_mp, Mi.tail_mp, Mi.min_cap, List.length_zip, Mi.zip2_map, Mi.okV_ite, Mi.okB_ite, Mi.getV_ite, Mi.getB_ite, Mi.bind_ite, Mi.out_ite, Mi.lc_s, Mi.lc_sS, Mi.lc_sN, Mi.lc_sM, List.filter_map, List.map_map, Function.comp_def, ii, isI, this]
    | dic l => exact absurd (small_laid hm).1 (by simp [D.py, PyData.canLay0])
    | dit l => exact absurd (small_laid hm).1 (by simp [D.py, PyData.canLay0])
    | obj c l => exact absurd (small_laid hm).1 (by simp [D.py, PyData.canLay0])
  · rintro δ ⟨⟨x, y, rfl⟩, hb0⟩
    have : firstT al xs = none := first_no hb0
    simp (maxDischargeDepth := 7) [List.getElem?_cons_zero, List.getElem?_cons_succ, Mi.bind_out, Mi.bind_bind, Mi.sq_asg, Mi.sq_do, Mi.sq_ret, Mi.sq_raise, Mi.sq_seq, Mi.sq_pass, Mi.sq_if, Mi.sq_app, Mi.sq_setI, Mi.sq_setK, Mi.sq_ct, Mi.sq_bk, Mi.x_V, Mi.x_C, Mi.x_1, Mi.x_2, Mi.x_O2, Mi.x_P0, Mi.x_P1, Mi.x_3, Mi.x_O3, Mi.x_And, Mi.x_Or, Mi.x_Not, Mi.x_If, Mi.x_L0, Mi.x_L1, Mi.x_Tup, Mi.x_Lst, Mi.x_Ch, Mi.x_Call, Mi.x_CallO, Mi.x_CallP, Mi.x_CallN, Mi.x_Meth, Mi.x_Seq, Mi.x_Rng, Mi.x_Rng2, Mi.x_Enum, Mi.x_Zip, Mi.x_Zip3, Mi.x_Ix, Mi.x_Make, Mi.x_Try, Mi.x_TryO, Mi.sq_try, Mi.sq_tryO, Mi.x_setF, Mi.sq_setF, Mi.isD, Mi.tyN, Mi.tyB, Mi.x_pass, Mi.x_asg, Mi.x_do, Mi.x_ret, Mi.x_raise, Mi.x_if, Mi.x_bk, Mi.x_ct, Mi.x_app, Mi.x_setI, Mi.x_setK, Mi.x_pop, Mi.x_isL, Mi.x_tn, Mi.x_t0, Mi.x_st0, Mi.x_st1, Mi.x_rest0, Mi.x_rest1, Mi.x_putn, Mi.x_putt, Mi.x_set0, Mi.x_set1, Mi.x_out0, Mi.x_out1, Mi.truth, Mi.seqOf, Mi.startE, Mi.pE_tup, Mi.wipe0, Mi.wipe1, Option.getD_some, Mi.isBl_ite, Mi.toB_ite, Mi.allD_map, Mi.anyD_map, Mi.filter_tt, -List.mem_map, List.forall_mem_map, -List.map_tail, -List.map_take, -List.map_drop, Mi.take_mp, Mi.drop_mp, Mi.tail_mp, Mi.min_cap, List.length_zip, Mi.zip2_map, Mi.okV_ite, Mi.okB_ite, Mi.getV_ite, Mi.getB_ite, Mi.bind_ite, Mi.out_ite, Mi.lc_s, Mi.lc_sS, Mi.lc_sN, Mi.lc_sM, List.filter_map, List.map_map, Function.comp_def, this, chkF]
/-- what is due for a value, and what the package says to it -/
def Due (n : Nat) (al : List (List Int)) (x : D) : Prop := (f_law_due [.lst (lsD al), x] = .ok .non [] ∧ f_check_timetable [bookD n al, x] = .ok .non []) ∨ ∃ i : Int, f_law_due [.lst (lsD al), x] = .ok (.int i) [] ∧ f_check_timetable [bookD n al, x] = .exc "NoTimetable" (.int i)
theorem due_sms {n : Nat} {al : List (List Int)} {L : Nat} {xs : List D} (hb : BkOk n al) (h : Sms L xs) : Due n al (.tup xs) := by
  by_cases hl : xs.length = al.length
  · have e1 := due_tup hb h hl
    have e2 := chk_tup hb h hl
    cases ef : firstT al xs with
    | none => rw [ef] at e1 e2; exact .inl ⟨e1, e2⟩
    | some i => rw [ef] at e1 e2; exact .inr ⟨_, e1, e2⟩
  · refine .inr ⟨-1, ?_, ?_⟩
    · refine e_law_due rfl ?_
      unfold m_law_due
      have l1 : (lsD al).length = al.length := by simp [lsD]
      have : ¬ (xs.length : Int) = al.length := by omega
      simp (maxDischargeDepth := 7) [List.getElem?_cons_zero, List.getElem?_cons_succ, Mi.bind_out, Mi.bind_bind, Mi.sq_asg, Mi.sq_do, Mi.sq_ret, Mi.sq_raise, Mi.sq_seq, Mi.sq_pass, Mi.sq_if, Mi.sq_app, Mi.sq_setI, Mi.sq_setK, Mi.sq_ct, Mi.sq_bk, Mi.x_V, Mi.x_C, Mi.x_1, Mi.x_2, Mi.x_O2, Mi.x_P0, Mi.x_P1, Mi.x_3, Mi.x_O3, Mi.x_And, Mi.x_Or, Mi.x_Not, Mi.x_If, Mi.x_L0, Mi.x_L1, Mi.x_Tup, Mi.x_Lst, Mi.x_Ch, Mi.x_Call, Mi.x_CallO, Mi.x_CallP, Mi.x_CallN, Mi.x_Meth, Mi.x_Seq, Mi.x_Rng, Mi.x_Rng2, Mi.x_Enum, Mi.x_Zip, Mi.x_Zip3, Mi.x_Ix, Mi.x_Make, Mi.x_Try, Mi.x_TryO, Mi.sq_try, Mi.sq_tryO, Mi.x_setF, Mi.sq_setF, Mi.isD, Mi.tyN, Mi.tyB, Mi.x_pass, Mi.x_asg, Mi.x_do, Mi.x_ret, Mi.x_raise, Mi.x_if, Mi.x_bk, Mi.x_ct, Mi.x_app, Mi.x_setI, Mi.x_setK, Mi.x_pop, Mi.x_isL, Mi.x_tn, Mi.x_t0, Mi.x_st0, Mi.x_st1, Mi.x_rest0, Mi.x_rest1, Mi.x_putn, Mi.x_putt, Mi.x_set0, Mi.x_set1, Mi.x_out0, Mi.x_out1, Mi.truth, Mi.seqOf, Mi.startE, Mi.pE_tup, Mi.wipe0, Mi.wipe1, Option.getD_some, Mi.isBl_ite, Mi.toB_ite, Mi.allD_map, Mi.anyD_map, Mi.filter_tt, -List.mem_map, List.forall_mem_map, -List.map_tail, -List.map_take, -List.map_drop, Mi.take_mp, Mi.drop_mp, Mi.tail_mp, Mi.min_cap, List.length_zip, Mi.zip2_map, Mi.okV_ite, Mi.okB_ite, Mi.getV_ite, Mi.getB_ite, Mi.bind_ite, Mi.out_ite, Mi.lc_s, Mi.lc_sS, Mi.lc_sN, Mi.lc_sM, List.filter_map, List.map_map, Function.comp_def, lenD, l1, this, negD]
    · refine e_check_timetable rfl ?_
      unfold m_check_timetable
      have l1 := lenO_ok n hb.len
      have : ¬ (xs.length : Int) = al.length := by omega
      simp (maxDischargeDepth := 7) [List.getElem?_cons_zero, List.getElem?_cons_succ, Mi.bind_out, Mi.bind_bind, Mi.sq_asg, Mi.sq_do, Mi.sq_ret, Mi.sq_raise, Mi.sq_seq, Mi.sq_pass, Mi.sq_if, Mi.sq_app, Mi.sq_setI, Mi.sq_setK, Mi.sq_ct, Mi.sq_bk, Mi.x_V, Mi.x_C, Mi.x_1, Mi.x_2, Mi.x_O2, Mi.x_P0, Mi.x_P1, Mi.x_3, Mi.x_O3, Mi.x_And, Mi.x_Or, Mi.x_Not, Mi.x_If, Mi.x_L0, Mi.x_L1, Mi.x_Tup, Mi.x_Lst, Mi.x_Ch, Mi.x_Call, Mi.x_CallO, Mi.x_CallP, Mi.x_CallN, Mi.x_Meth, Mi.x_Seq, Mi.x_Rng, Mi.x_Rng2, Mi.x_Enum, Mi.x_Zip, Mi.x_Zip3, Mi.x_Ix, Mi.x_Make, Mi.x_Try, Mi.x_TryO, Mi.sq_try, Mi.sq_tryO, Mi.x_setF, Mi.sq_setF, Mi.isD, Mi.tyN, Mi.tyB, Mi.x_pass, Mi.x_asg, Mi.x_do, Mi.x_ret, Mi.x_raise, Mi.x_if, Mi.x_bk, Mi.x_ct, Mi.x_app, Mi.x_setI, Mi.x_setK, Mi.x_pop, Mi.x_isL, Mi.x_tn, Mi.x_t0, Mi.x_st0, Mi.x_st1, Mi.x_rest0, Mi.x_rest1, Mi.x_putn, Mi.x_putt, Mi.x_set0, Mi.x_set1, Mi.x_out0, Mi.x_out1, Mi.truth, Mi.seqOf, Mi.startE, Mi.pE_tup, Mi.wipe0, Mi.wipe1, Option.getD_some, Mi.isBl_ite, Mi.toB_ite, Mi.allD_map, Mi.anyD_map, Mi.filter_tt, -List.mem_map, List.forall_mem_map, -List.map_tail, -List.map_take, -List.map_drop, Mi.take_mp, Mi.drop_mp, Mi.tail_mp, Mi.min_cap, List.length_zip, Mi.zip2_map, Mi.okV_ite, Mi.okB_ite, Mi.getV_ite, Mi.getB_ite, Mi.bind_ite, Mi.out_ite, Mi.lc_s, Mi.lc_sS, Mi.lc_sN, Mi.lc_sM, List.filter_map, List.map_map, Function.comp_def, lenD, l1, this, negD]
theorem due_other {n : Nat} {al : List (List Int)} {x : D} (h : isD "tuple" x = some (.bl false)) : Due n al x := by
  refine .inr ⟨-1, ?_, ?_⟩
  · refine e_law_due rfl ?_
    unfold m_law_due
    cases x with
    | tup l => exact absurd h (by simp [isD, tyN, tyB])
    | dit l => exact absurd h (by simp [isD, tyN, tyB])
    | obj c l => exact absurd h (by simp [isD, tyN, tyB])
    | _ => simp (maxDischargeDepth := 7) [List.getElem?_cons_zero, List.getElem?_cons_succ, Mi.bind_out, Mi.bind_bind, Mi.sq_asg, Mi.sq_do, Mi.sq_ret, Mi.sq_raise, Mi.sq_seq, Mi.sq_pass, Mi.sq_if, Mi.sq_app, Mi.sq_setI, Mi.sq_setK, Mi.sq_ct, Mi.sq_bk, Mi.x_V, Mi.x_C, Mi.x_1, Mi.x_2, Mi.x_O2, Mi.x_P0, Mi.x_P1, Mi.x_3, Mi.x_O3, Mi.x_And, Mi.x_Or, Mi.x_Not, Mi.x_If, Mi.x_L0, Mi.x_L1, Mi.x_Tup, Mi.x_Lst, Mi.x_Ch, Mi.x_Call, Mi.x_CallO, Mi.x_CallP, Mi.x_CallN, Mi.x_Meth, Mi.x_Seq, Mi.x_Rng, Mi.x_Rng2, Mi.x_Enum, Mi.x_Zip, Mi.x_Zip3, Mi.x_Ix, Mi.x_Make, Mi.x_Try, Mi.x_TryO, Mi.sq_try, Mi.sq_tryO, Mi.x_setF, Mi.sq_setF, Mi.isD, Mi.tyN, Mi.tyB, Mi.x_pass, Mi.x_asg, Mi.x_do, Mi.x_ret, Mi.x_raise, Mi.x_if, Mi.x_bk, Mi.x_ct, Mi.x_app, Mi.x_setI, Mi.x_setK, Mi.x_pop, Mi.x_isL, Mi.x_tn, Mi.x_t0, Mi.x_st0, Mi.x_st1, Mi.x_rest0, Mi.x_rest1, Mi.x_putn, Mi.x_putt, Mi.x_set0, Mi.x_set1, Mi.x_out0, Mi.x_out1, Mi.truth, Mi.seqOf, Mi.startE, Mi.pE_tup, Mi.wipe0, Mi.wipe1, Option.getD_some, Mi.isBl_ite, Mi.toB_ite, Mi.allD_map, Mi.anyD_map, Mi.filter_tt, -List.mem_map, List.forall_mem_map, -List.map_tail, -List.map_take, -List.map_drop, Mi.take_mp, Mi.drop_mp, Mi.tail_mp, Mi.min_cap, List.length_zip, Mi.zip2_map, Mi.okV_ite, Mi.okB_ite, Mi.getV_ite, Mi.getB_ite, Mi.bind_ite, Mi.out_ite, Mi.lc_s, Mi.lc_sS, Mi.lc_sN, Mi.lc_sM, List.filter_map, List.map_map, Function.comp_def, negD]
  · refine e_check_timetable rfl ?_
    unfold m_check_timetable
    cases x with
    | tup l => exact absurd h (by simp [isD, tyN, tyB])
    | dit l => exact absurd h (by simp [isD, tyN, tyB])
    | obj c l => exact absurd h (by simp [isD, tyN, tyB])
    | _ => simp (maxDischargeDepth := 7) [List.getElem?_cons_zero, List.getElem?_cons_succ, Mi.bind_out, Mi.bind_bind, Mi.sq_asg, Mi.sq_do, Mi.sq_ret, Mi.sq_raise, Mi.sq_seq, Mi.sq_pass, Mi.sq_if, Mi.sq_app, Mi.sq_setI, Mi.sq_setK, Mi.sq_ct, Mi.sq_bk, Mi.x_V, Mi.x_C, Mi.x_1, Mi.x_2, Mi.x_O2, Mi.x_P0, Mi.x_P1, Mi.x_3, Mi.x_O3, Mi.x_And, Mi.x_Or, Mi.x_Not, Mi.x_If, Mi.x_L0, Mi.x_L1, Mi.x_Tup, Mi.x_Lst, Mi.x_Ch, Mi.x_Call, Mi.x_CallO, Mi.x_CallP, Mi.x_CallN, Mi.x_Meth, Mi.x_Seq, Mi.x_Rng, Mi.x_Rng2, Mi.x_Enum, Mi.x_Zip, Mi.x_Zip3, Mi.x_Ix, Mi.x_Make, Mi.x_Try, Mi.x_TryO, Mi.sq_try, Mi.sq_tryO, Mi.x_setF, Mi.sq_setF, Mi.isD, Mi.tyN, Mi.tyB, Mi.x_pass, Mi.x_asg, Mi.x_do, Mi.x_ret, Mi.x_raise, Mi.x_if, Mi.x_bk, Mi.x_ct, Mi.x_app, Mi.x_setI, Mi.x_setK, Mi.x_pop, Mi.x_isL, Mi.x_tn, Mi.x_t0, Mi.x_st0, Mi.x_st1, Mi.x_rest0, Mi.x_rest1, Mi.x_putn, Mi.x_putt, Mi.x_set0, Mi.x_set1, Mi.x_out0, Mi.x_out1, Mi.truth, Mi.seqOf, Mi.startE, Mi.pE_tup, Mi.wipe0, Mi.wipe1, Option.getD_some, Mi.isBl_ite, Mi.toB_ite, Mi.allD_map, Mi.anyD_map, Mi.filter_tt, -List.mem_map, List.forall_mem_map, -List.map_tail, -List.map_take, -List.map_drop, Mi.take_mp, Mi.drop_mp, Mi.tail_mp, Mi.min_cap, List.length_zip, Mi.zip2_map, Mi.okV_ite, Mi.okB_ite, Mi.getV_ite, Mi.getB_ite, Mi.bind_ite, Mi.out_ite, Mi.lc_s, Mi.lc_sS, Mi.lc_sN, Mi.lc_sM, List.filter_map, List.map_map, Function.comp_def, negD]
/-! all doors answer with the index -/
theorem x_Thunk {δ : Env} (O : List Nat) (F : Fr → Fr) (e : Ex) : eThunk O F e δ = match F (askOf (e (wipeE δ O))) with
  | .ok d _ => .ok d δ
  | _ => .bad := rfl
theorem raised_exc (d : D) : f_law_raised (.exc "NoTimetable" d) = .ok d [] := by
  rw [d_law_raised]
  unfold thkM thkT sSeq clr
  simp only [List.mem_singleton, if_true]
  rfl
section
variable {B x i : D}
theorem cut_free_slots (h : f_check_timetable [B, x] = .exc "NoTimetable" i) : f_free_slots [B, x] = .exc "NoTimetable" i := by
  refine e_free_slots rfl ?_
  unfold m_free_slots
  simp (maxDischargeDepth := 7) [List.getElem?_cons_zero, List.getElem?_cons_succ, Mi.bind_out, Mi.bind_bind, Mi.sq_asg, Mi.sq_do, Mi.sq_ret, Mi.sq_raise, Mi.sq_seq, Mi.sq_pass, Mi.sq_if, Mi.sq_app, Mi.sq_setI, Mi.sq_setK, Mi.sq_ct, Mi.sq_bk, Mi.x_V, Mi.x_C, Mi.x_1, Mi.x_2, Mi.x_O2, Mi.x_P0, Mi.x_P1, Mi.x_3, Mi.x_O3, Mi.x_And, Mi.x_Or, Mi.x_Not, Mi.x_If, Mi.x_L0, Mi.x_L1, Mi.x_Tup, Mi.x_Lst, Mi.x_Ch, Mi.x_Call, Mi.x_CallO, Mi.x_CallP, Mi.x_CallN, Mi.x_Meth, Mi.x_Seq, Mi.x_Rng, Mi.x_Rng2, Mi.x_Enum, Mi.x_Zip, Mi.x_Zip3, Mi.x_Ix, Mi.x_Make, Mi.x_Try, Mi.x_TryO, Mi.sq_try, Mi.sq_tryO, Mi.x_setF, Mi.sq_setF, Mi.isD, Mi.tyN, Mi.tyB, Mi.x_pass, Mi.x_asg, Mi.x_do, Mi.x_ret, Mi.x_raise, Mi.x_if, Mi.x_bk, Mi.x_ct, Mi.x_app, Mi.x_setI, Mi.x_setK, Mi.x_pop, Mi.x_isL, Mi.x_tn, Mi.x_t0, Mi.x_st0, Mi.x_st1, Mi.x_rest0, Mi.x_rest1, Mi.x_putn, Mi.x_putt, Mi.x_set0, Mi.x_set1, Mi.x_out0, Mi.x_out1, Mi.truth, Mi.seqOf, Mi.startE, Mi.pE_tup, Mi.wipe0, Mi.wipe1, Option.getD_some, Mi.isBl_ite, Mi.toB_ite, Mi.allD_map, Mi.anyD_map, Mi.filter_tt, -List.mem_map, List.forall_mem_map, -List.map_tail, -List.map_take, -List.map_drop, Mi.take_mp, Mi.drop_mp, Mi.tail_mp, Mi.min_cap, List.length_zip, Mi.zip2_map, Mi.okV_ite, Mi.okB_ite, Mi.getV_ite, Mi.getB_ite, Mi.bind_ite, Mi.out_ite, Mi.lc_s, Mi.lc_sS, Mi.lc_sN, Mi.lc_sM, List.filter_map, List.map_map, Function.comp_def, h]
theorem cut_moved (h : f_check_timetable [B, x] = .exc "NoTimetable" i) (y0 : D) : f_moved [B, x, y0] = .exc "NoTimetable" i := by
  refine e_moved rfl ?_
  unfold m_moved
  simp (maxDischargeDepth := 7) [List.getElem?_cons_zero, List.getElem?_cons_succ, Mi.bind_out, Mi.bind_bind, Mi.sq_asg, Mi.sq_do, Mi.sq_ret, Mi.sq_raise, Mi.sq_seq, Mi.sq_pass, Mi.sq_if, Mi.sq_app, Mi.sq_setI, Mi.sq_setK, Mi.sq_ct, Mi.sq_bk, Mi.x_V, Mi.x_C, Mi.x_1, Mi.x_2, Mi.x_O2, Mi.x_P0, Mi.x_P1, Mi.x_3, Mi.x_O3, Mi.x_And, Mi.x_Or, Mi.x_Not, Mi.x_If, Mi.x_L0, Mi.x_L1, Mi.x_Tup, Mi.x_Lst, Mi.x_Ch, Mi.x_Call, Mi.x_CallO, Mi.x_CallP, Mi.x_CallN, Mi.x_Meth, Mi.x_Seq, Mi.x_Rng, Mi.x_Rng2, Mi.x_Enum, Mi.x_Zip, Mi.x_Zip3, Mi.x_Ix, Mi.x_Make, Mi.x_Try, Mi.x_TryO, Mi.sq_try, Mi.sq_tryO, Mi.x_setF, Mi.sq_setF, Mi.isD, Mi.tyN, Mi.tyB, Mi.x_pass, Mi.x_asg, Mi.x_do, Mi.x_ret, Mi.x_raise, Mi.x_if, Mi.x_bk, Mi.x_ct, Mi.x_app, Mi.x_setI, Mi.x_setK, Mi.x_pop, Mi.x_isL, Mi.x_tn, Mi.x_t0, Mi.x_st0, Mi.x_st1, Mi.x_rest0, Mi.x_rest1, Mi.x_putn, Mi.x_putt, Mi.x_set0, Mi.x_set1, Mi.x_out0, Mi.x_out1, Mi.truth, Mi.seqOf, Mi.startE, Mi.pE_tup, Mi.wipe0, Mi.wipe1, Option.getD_some, Mi.isBl_ite, Mi.toB_ite, Mi.allD_map, Mi.anyD_map, Mi.filter_tt, -List.mem_map, List.forall_mem_map, -List.map_tail, -List.map_take, -List.map_drop, Mi.take_mp, Mi.drop_mp, Mi.tail_mp, Mi.min_cap, List.length_zip, Mi.zip2_map, Mi.okV_ite, Mi.okB_ite, Mi.getV_ite, Mi.getB_ite, Mi.bind_ite, Mi.out_ite, Mi.lc_s, Mi.lc_sS, Mi.lc_sN, Mi.lc_sM, List.filter_map, List.map_map, Function.comp_def, h]
theorem cut_check_tight (h : f_check_timetable [B, x] = .exc "NoTimetable" i) (y0 : D) : f_check_tight [B, x, y0] = .exc "NoTimetable" i := by
  refine e_check_tight rfl ?_
  unfold m_check_tight
  simp (maxDischargeDepth := 7) [List.getElem?_cons_zero, List.getElem?_cons_succ, Mi.bind_out, Mi.bind_bind, Mi.sq_asg, Mi.sq_do, Mi.sq_ret, Mi.sq_raise, Mi.sq_seq, Mi.sq_pass, Mi.sq_if, Mi.sq_app, Mi.sq_setI, Mi.sq_setK, Mi.sq_ct, Mi.sq_bk, Mi.x_V, Mi.x_C, Mi.x_1, Mi.x_2, Mi.x_O2, Mi.x_P0, Mi.x_P1, Mi.x_3, Mi.x_O3, Mi.x_And, Mi.x_Or, Mi.x_Not, Mi.x_If, Mi.x_L0, Mi.x_L1, Mi.x_Tup, Mi.x_Lst, Mi.x_Ch, Mi.x_Call, Mi.x_CallO, Mi.x_CallP, Mi.x_CallN, Mi.x_Meth, Mi.x_Seq, Mi.x_Rng, Mi.x_Rng2, Mi.x_Enum, Mi.x_Zip, Mi.x_Zip3, Mi.x_Ix, Mi.x_Make, Mi.x_Try, Mi.x_TryO, Mi.sq_try, Mi.sq_tryO, Mi.x_setF, Mi.sq_setF, Mi.isD, Mi.tyN, Mi.tyB, Mi.x_pass, Mi.x_asg, Mi.x_do, Mi.x_ret, Mi.x_raise, Mi.x_if, Mi.x_bk, Mi.x_ct, Mi.x_app, Mi.x_setI, Mi.x_setK, Mi.x_pop, Mi.x_isL, Mi.x_tn, Mi.x_t0, Mi.x_st0, Mi.x_st1, Mi.x_rest0, Mi.x_rest1, Mi.x_putn, Mi.x_putt, Mi.x_set0, Mi.x_set1, Mi.x_out0, Mi.x_out1, Mi.truth, Mi.seqOf, Mi.startE, Mi.pE_tup, Mi.wipe0, Mi.wipe1, Option.getD_some, Mi.isBl_ite, Mi.toB_ite, Mi.allD_map, Mi.anyD_map, Mi.filter_tt, -List.mem_map, List.forall_mem_map, -List.map_tail, -List.map_take, -List.map_drop, Mi.take_mp, Mi.drop_mp, Mi.tail_mp, Mi.min_cap, List.length_zip, Mi.zip2_map, Mi.okV_ite, Mi.okB_ite, Mi.getV_ite, Mi.getB_ite, Mi.bind_ite, Mi.out_ite, Mi.lc_s, Mi.lc_sS, Mi.lc_sN, Mi.lc_sM, List.filter_map, List.map_map, Function.comp_def, h]
theorem cut_vacated (h : f_check_timetable [B, x] = .exc "NoTimetable" i) (y0 : D) : f_vacated [B, x, y0] = .exc "NoTimetable" i := by
  refine e_vacated rfl ?_
  unfold m_vacated
  simp (maxDischargeDepth := 7) [List.getElem?_cons_zero, List.getElem?_cons_succ, Mi.bind_out, Mi.bind_bind, Mi.sq_asg, Mi.sq_do, Mi.sq_ret, Mi.sq_raise, Mi.sq_seq, Mi.sq_pass, Mi.sq_if, Mi.sq_app, Mi.sq_setI, Mi.sq_setK, Mi.sq_ct, Mi.sq_bk, Mi.x_V, Mi.x_C, Mi.x_1, Mi.x_2, Mi.x_O2, Mi.x_P0, Mi.x_P1, Mi.x_3, Mi.x_O3, Mi.x_And, Mi.x_Or, Mi.x_Not, Mi.x_If, Mi.x_L0, Mi.x_L1, Mi.x_Tup, Mi.x_Lst, Mi.x_Ch, Mi.x_Call, Mi.x_CallO, Mi.x_CallP, Mi.x_CallN, Mi.x_Meth, Mi.x_Seq, Mi.x_Rng, Mi.x_Rng2, Mi.x_Enum, Mi.x_Zip, Mi.x_Zip3, Mi.x_Ix, Mi.x_Make, Mi.x_Try, Mi.x_TryO, Mi.sq_try, Mi.sq_tryO, Mi.x_setF, Mi.sq_setF, Mi.isD, Mi.tyN, Mi.tyB, Mi.x_pass, Mi.x_asg, Mi.x_do, Mi.x_ret, Mi.x_raise, Mi.x_if, Mi.x_bk, Mi.x_ct, Mi.x_app, Mi.x_setI, Mi.x_setK, Mi.x_pop, Mi.x_isL, Mi.x_tn, Mi.x_t0, Mi.x_st0, Mi.x_st1, Mi.x_rest0, Mi.x_rest1, Mi.x_putn, Mi.x_putt, Mi.x_set0, Mi.x_set1, Mi.x_out0, Mi.x_out1, Mi.truth, Mi.seqOf, Mi.startE, Mi.pE_tup, Mi.wipe0, Mi.wipe1, Option.getD_some, Mi.isBl_ite, Mi.toB_ite, Mi.allD_map, Mi.anyD_map, Mi.filter_tt, -List.mem_map, List.forall_mem_map, -List.map_tail, -List.map_take, -List.map_drop, Mi.take_mp, Mi.drop_mp, Mi.tail_mp, Mi.min_cap, List.length_zip, Mi.zip2_map, Mi.okV_ite, Mi.okB_ite, Mi.getV_ite, Mi.getB_ite, Mi.bind_ite, Mi.out_ite, Mi.lc_s, Mi.lc_sS, Mi.lc_sN, Mi.lc_sM, List.filter_map, List.map_map, Function.comp_def, h]
theorem cut_options (h : f_check_timetable [B, x] = .exc "NoTimetable" i) (y0 : D) : f_options [B, x, y0] = .exc "NoTimetable" i := by
  refine e_options rfl ?_
  unfold m_options
  simp (maxDischargeDepth := 7) [List.getElem?_cons_zero, List.getElem?_cons_succ, Mi.bind_out, Mi.bind_bind, Mi.sq_asg, Mi.sq_do, Mi.sq_ret, Mi.sq_raise, Mi.sq_seq, Mi.sq_pass, Mi.sq_if, Mi.sq_app, Mi.sq_setI, Mi.sq_setK, Mi.sq_ct, Mi.sq_bk, Mi.x_V, Mi.x_C, Mi.x_1, Mi.x_2, Mi.x_O2, Mi.x_P0, Mi.x_P1, Mi.x_3, Mi.x_O3, Mi.x_And, Mi.x_Or, Mi.x_Not, Mi.x_If, Mi.x_L0, Mi.x_L1, Mi.x_Tup, Mi.x_Lst, Mi.x_Ch, Mi.x_Call, Mi.x_CallO, Mi.x_CallP, Mi.x_CallN, Mi.x_Meth, Mi.x_Seq, Mi.x_Rng, Mi.x_Rng2, Mi.x_Enum, Mi.x_Zip, Mi.x_Zip3, Mi.x_Ix, Mi.x_Make, Mi.x_Try, Mi.x_TryO, Mi.sq_try, Mi.sq_tryO, Mi.x_setF, Mi.sq_setF, Mi.isD, Mi.tyN, Mi.tyB, Mi.x_pass, Mi.x_asg, Mi.x_do, Mi.x_ret, Mi.x_raise, Mi.x_if, Mi.x_bk, Mi.x_ct, Mi.x_app, Mi.x_setI, Mi.x_setK, Mi.x_pop, Mi.x_isL, Mi.x_tn, Mi.x_t0, Mi.x_st0, Mi.x_st1, Mi.x_rest0, Mi.x_rest1, Mi.x_putn, Mi.x_putt, Mi.x_set0, Mi.x_set1, Mi.x_out0, Mi.x_out1, Mi.truth, Mi.seqOf, Mi.startE, Mi.pE_tup, Mi.wipe0, Mi.wipe1, Option.getD_some, Mi.isBl_ite, Mi.toB_ite, Mi.allD_map, Mi.anyD_map, Mi.filter_tt, -List.mem_map, List.forall_mem_map, -List.map_tail, -List.map_take, -List.map_drop, Mi.take_mp, Mi.drop_mp, Mi.tail_mp, Mi.min_cap, List.length_zip, Mi.zip2_map, Mi.okV_ite, Mi.okB_ite, Mi.getV_ite, Mi.getB_ite, Mi.bind_ite, Mi.out_ite, Mi.lc_s, Mi.lc_sS, Mi.lc_sN, Mi.lc_sM, List.filter_map, List.map_map, Function.comp_def, h]
theorem cut_bring (h : f_check_timetable [B, x] = .exc "NoTimetable" i) (y0 y1 : D) : f_bring [B, x, y0, y1] = .exc "NoTimetable" i := by
  refine e_bring rfl ?_
  unfold m_bring
  simp (maxDischargeDepth := 7) [List.getElem?_cons_zero, List.getElem?_cons_succ, Mi.bind_out, Mi.bind_bind, Mi.sq_asg, Mi.sq_do, Mi.sq_ret, Mi.sq_raise, Mi.sq_seq, Mi.sq_pass, Mi.sq_if, Mi.sq_app, Mi.sq_setI, Mi.sq_setK, Mi.sq_ct, Mi.sq_bk, Mi.x_V, Mi.x_C, Mi.x_1, Mi.x_2, Mi.x_O2, Mi.x_P0, Mi.x_P1, Mi.x_3, Mi.x_O3, Mi.x_And, Mi.x_Or, Mi.x_Not, Mi.x_If, Mi.x_L0, Mi.x_L1, Mi.x_Tup, Mi.x_Lst, Mi.x_Ch, Mi.x_Call, Mi.x_CallO, Mi.x_CallP, Mi.x_CallN, Mi.x_Meth, Mi.x_Seq, Mi.x_Rng, Mi.x_Rng2, Mi.x_Enum, Mi.x_Zip, Mi.x_Zip3, Mi.x_Ix, Mi.x_Make, Mi.x_Try, Mi.x_TryO, Mi.sq_try, Mi.sq_tryO, Mi.x_setF, Mi.sq_setF, Mi.isD, Mi.tyN, Mi.tyB, Mi.x_pass, Mi.x_asg, Mi.x_do, Mi.x_ret, Mi.x_raise, Mi.x_if, Mi.x_bk, Mi.x_ct, Mi.x_app, Mi.x_setI, Mi.x_setK, Mi.x_pop, Mi.x_isL, Mi.x_tn, Mi.x_t0, Mi.x_st0, Mi.x_st1, Mi.x_rest0, Mi.x_rest1, Mi.x_putn, Mi.x_putt, Mi.x_set0, Mi.x_set1, Mi.x_out0, Mi.x_out1, Mi.truth, Mi.seqOf, Mi.startE, Mi.pE_tup, Mi.wipe0, Mi.wipe1, Option.getD_some, Mi.isBl_ite, Mi.toB_ite, Mi.allD_map, Mi.anyD_map, Mi.filter_tt, -List.mem_map, List.forall_mem_map, -List.map_tail, -List.map_take, -List.map_drop, Mi.take_mp, Mi.drop_mp, Mi.tail_mp, Mi.min_cap, List.length_zip, Mi.zip2_map, Mi.okV_ite, Mi.okB_ite, Mi.getV_ite, Mi.getB_ite, Mi.bind_ite, Mi.out_ite, Mi.lc_s, Mi.lc_sS, Mi.lc_sN, Mi.lc_sM, List.filter_map, List.map_map, Function.comp_def, h]
theorem cut_insert (h : f_check_timetable [B, x] = .exc "NoTimetable" i) (y0 : D) : f_insert [B, x, y0] = .exc "NoTimetable" i := by
  refine e_insert rfl ?_
  unfold m_insert
  simp (maxDischargeDepth := 7) [List.getElem?_cons_zero, List.getElem?_cons_succ, Mi.bind_out, Mi.bind_bind, Mi.sq_asg, Mi.sq_do, Mi.sq_ret, Mi.sq_raise, Mi.sq_seq, Mi.sq_pass, Mi.sq_if, Mi.sq_app, Mi.sq_setI, Mi.sq_setK, Mi.sq_ct, Mi.sq_bk, Mi.x_V, Mi.x_C, Mi.x_1, Mi.x_2, Mi.x_O2, Mi.x_P0, Mi.x_P1, Mi.x_3, Mi.x_O3, Mi.x_And, Mi.x_Or, Mi.x_Not, Mi.x_If, Mi.x_L0, Mi.x_L1, Mi.x_Tup, Mi.x_Lst, Mi.x_Ch, Mi.x_Call, Mi.x_CallO, Mi.x_CallP, Mi.x_CallN, Mi.x_Meth, Mi.x_Seq, Mi.x_Rng, Mi.x_Rng2, Mi.x_Enum, Mi.x_Zip, Mi.x_Zip3, Mi.x_Ix, Mi.x_Make, Mi.x_Try, Mi.x_TryO, Mi.sq_try, Mi.sq_tryO, Mi.x_setF, Mi.sq_setF, Mi.isD, Mi.tyN, Mi.tyB, Mi.x_pass, Mi.x_asg, Mi.x_do, Mi.x_ret, Mi.x_raise, Mi.x_if, Mi.x_bk, Mi.x_ct, Mi.x_app, Mi.x_setI, Mi.x_setK, Mi.x_pop, Mi.x_isL, Mi.x_tn, Mi.x_t0, Mi.x_st0, Mi.x_st1, Mi.x_rest0, Mi.x_rest1, Mi.x_putn, Mi.x_putt, Mi.x_set0, Mi.x_set1, Mi.x_out0, Mi.x_out1, Mi.truth, Mi.seqOf, Mi.startE, Mi.pE_tup, Mi.wipe0, Mi.wipe1, Option.getD_some, Mi.isBl_ite, Mi.toB_ite, Mi.allD_map, Mi.anyD_map, Mi.filter_tt, -List.mem_map, List.forall_mem_map, -List.map_tail, -List.map_take, -List.map_drop, Mi.take_mp, Mi.drop_mp, Mi.tail_mp, Mi.min_cap, List.length_zip, Mi.zip2_map, Mi.okV_ite, Mi.okB_ite, Mi.getV_ite, Mi.getB_ite, Mi.bind_ite, Mi.out_ite, Mi.lc_s, Mi.lc_sS, Mi.lc_sN, Mi.lc_sM, List.filter_map, List.map_map, Function.comp_def, h]
theorem cut_check_insert (h : f_check_timetable [B, x] = .exc "NoTimetable" i) (y0 y1 : D) : f_check_insert [B, x, y0, y1] = .exc "NoTimetable" i := by
  refine e_check_insert rfl ?_
  unfold m_check_insert
  simp (maxDischargeDepth := 7) [List.getElem?_cons_zero, List.getElem?_cons_succ, Mi.bind_out, Mi.bind_bind, Mi.sq_asg, Mi.sq_do, Mi.sq_ret, Mi.sq_raise, Mi.sq_seq, Mi.sq_pass, Mi.sq_if, Mi.sq_app, Mi.sq_setI, Mi.sq_setK, Mi.sq_ct, Mi.sq_bk, Mi.x_V, Mi.x_C, Mi.x_1, Mi.x_2, Mi.x_O2, Mi.x_P0, Mi.x_P1, Mi.x_3, Mi.x_O3, Mi.x_And, Mi.x_Or, Mi.x_Not, Mi.x_If, Mi.x_L0, Mi.x_L1, Mi.x_Tup, Mi.x_Lst, Mi.x_Ch, Mi.x_Call, Mi.x_CallO, Mi.x_CallP, Mi.x_CallN, Mi.x_Meth, Mi.x_Seq, Mi.x_Rng, Mi.x_Rng2, Mi.x_Enum, Mi.x_Zip, Mi.x_Zip3, Mi.x_Ix, Mi.x_Make, Mi.x_Try, Mi.x_TryO, Mi.sq_try, Mi.sq_tryO, Mi.x_setF, Mi.sq_setF, Mi.isD, Mi.tyN, Mi.tyB, Mi.x_pass, Mi.x_asg, Mi.x_do, Mi.x_ret, Mi.x_raise, Mi.x_if, Mi.x_bk, Mi.x_ct, Mi.x_app, Mi.x_setI, Mi.x_setK, Mi.x_pop, Mi.x_isL, Mi.x_tn, Mi.x_t0, Mi.x_st0, Mi.x_st1, Mi.x_rest0, Mi.x_rest1, Mi.x_putn, Mi.x_putt, Mi.x_set0, Mi.x_set1, Mi.x_out0, Mi.x_out1, Mi.truth, Mi.seqOf, Mi.startE, Mi.pE_tup, Mi.wipe0, Mi.wipe1, Option.getD_some, Mi.isBl_ite, Mi.toB_ite, Mi.allD_map, Mi.anyD_map, Mi.filter_tt, -List.mem_map, List.forall_mem_map, -List.map_tail, -List.map_take, -List.map_drop, Mi.take_mp, Mi.drop_mp, Mi.tail_mp, Mi.min_cap, List.length_zip, Mi.zip2_map, Mi.okV_ite, Mi.okB_ite, Mi.getV_ite, Mi.getB_ite, Mi.bind_ite, Mi.out_ite, Mi.lc_s, Mi.lc_sS, Mi.lc_sN, Mi.lc_sM, List.filter_map, List.map_map, Function.comp_def, h]
theorem cut_granted (h : f_check_timetable [B, x] = .exc "NoTimetable" i) (y0 : D) : f_granted [B, x, y0] = .exc "NoTimetable" i := by
  refine e_granted rfl ?_
  unfold m_granted
  simp (maxDischargeDepth := 7) [List.getElem?_cons_zero, List.getElem?_cons_succ, Mi.bind_out, Mi.bind_bind, Mi.sq_asg, Mi.sq_do, Mi.sq_ret, Mi.sq_raise, Mi.sq_seq, Mi.sq_pass, Mi.sq_if, Mi.sq_app, Mi.sq_setI, Mi.sq_setK, Mi.sq_ct, Mi.sq_bk, Mi.x_V, Mi.x_C, Mi.x_1, Mi.x_2, Mi.x_O2, Mi.x_P0, Mi.x_P1, Mi.x_3, Mi.x_O3, Mi.x_And, Mi.x_Or, Mi.x_Not, Mi.x_If, Mi.x_L0, Mi.x_L1, Mi.x_Tup, Mi.x_Lst, Mi.x_Ch, Mi.x_Call, Mi.x_CallO, Mi.x_CallP, Mi.x_CallN, Mi.x_Meth, Mi.x_Seq, Mi.x_Rng, Mi.x_Rng2, Mi.x_Enum, Mi.x_Zip, Mi.x_Zip3, Mi.x_Ix, Mi.x_Make, Mi.x_Try, Mi.x_TryO, Mi.sq_try, Mi.sq_tryO, Mi.x_setF, Mi.sq_setF, Mi.isD, Mi.tyN, Mi.tyB, Mi.x_pass, Mi.x_asg, Mi.x_do, Mi.x_ret, Mi.x_raise, Mi.x_if, Mi.x_bk, Mi.x_ct, Mi.x_app, Mi.x_setI, Mi.x_setK, Mi.x_pop, Mi.x_isL, Mi.x_tn, Mi.x_t0, Mi.x_st0, Mi.x_st1, Mi.x_rest0, Mi.x_rest1, Mi.x_putn, Mi.x_putt, Mi.x_set0, Mi.x_set1, Mi.x_out0, Mi.x_out1, Mi.truth, Mi.seqOf, Mi.startE, Mi.pE_tup, Mi.wipe0, Mi.wipe1, Option.getD_some, Mi.isBl_ite, Mi.toB_ite, Mi.allD_map, Mi.anyD_map, Mi.filter_tt, -List.mem_map, List.forall_mem_map, -List.map_tail, -List.map_take, -List.map_drop, Mi.take_mp, Mi.drop_mp, Mi.tail_mp, Mi.min_cap, List.length_zip, Mi.zip2_map, Mi.okV_ite, Mi.okB_ite, Mi.getV_ite, Mi.getB_ite, Mi.bind_ite, Mi.out_ite, Mi.lc_s, Mi.lc_sS, Mi.lc_sN, Mi.lc_sM, List.filter_map, List.map_map, Function.comp_def, h]
theorem cut_check_granted (h : f_check_timetable [B, x] = .exc "NoTimetable" i) (y0 y1 : D) : f_check_granted [B, x, y0, y1] = .exc "NoTimetable" i := by
  refine e_check_granted rfl ?_
  unfold m_check_granted
  simp (maxDischargeDepth := 7) [List.getElem?_cons_zero, List.getElem?_cons_succ, Mi.bind_out, Mi.bind_bind, Mi.sq_asg, Mi.sq_do, Mi.sq_ret, Mi.sq_raise, Mi.sq_seq, Mi.sq_pass, Mi.sq_if, Mi.sq_app, Mi.sq_setI, Mi.sq_setK, Mi.sq_ct, Mi.sq_bk, Mi.x_V, Mi.x_C, Mi.x_1, Mi.x_2, Mi.x_O2, Mi.x_P0, Mi.x_P1, Mi.x_3, Mi.x_O3, Mi.x_And, Mi.x_Or, Mi.x_Not, Mi.x_If, Mi.x_L0, Mi.x_L1, Mi.x_Tup, Mi.x_Lst, Mi.x_Ch, Mi.x_Call, Mi.x_CallO, Mi.x_CallP, Mi.x_CallN, Mi.x_Meth, Mi.x_Seq, Mi.x_Rng, Mi.x_Rng2, Mi.x_Enum, Mi.x_Zip, Mi.x_Zip3, Mi.x_Ix, Mi.x_Make, Mi.x_Try, Mi.x_TryO, Mi.sq_try, Mi.sq_tryO, Mi.x_setF, Mi.sq_setF, Mi.isD, Mi.tyN, Mi.tyB, Mi.x_pass, Mi.x_asg, Mi.x_do, Mi.x_ret, Mi.x_raise, Mi.x_if, Mi.x_bk, Mi.x_ct, Mi.x_app, Mi.x_setI, Mi.x_setK, Mi.x_pop, Mi.x_isL, Mi.x_tn, Mi.x_t0, Mi.x_st0, Mi.x_st1, Mi.x_rest0, Mi.x_rest1, Mi.x_putn, Mi.x_putt, Mi.x_set0, Mi.x_set1, Mi.x_out0, Mi.x_out1, Mi.truth, Mi.seqOf, Mi.startE, Mi.pE_tup, Mi.wipe0, Mi.wipe1, Option.getD_some, Mi.isBl_ite, Mi.toB_ite, Mi.allD_map, Mi.anyD_map, Mi.filter_tt, -List.mem_map, List.forall_mem_map, -List.map_tail, -List.map_take, -List.map_drop, Mi.take_mp, Mi.drop_mp, Mi.tail_mp, Mi.min_cap, List.length_zip, Mi.zip2_map, Mi.okV_ite, Mi.okB_ite, Mi.getV_ite, Mi.getB_ite, Mi.bind_ite, Mi.out_ite, Mi.lc_s, Mi.lc_sS, Mi.lc_sN, Mi.lc_sM, List.filter_map, List.map_map, Function.comp_def, h]
theorem cut_most_granted (h : f_check_timetable [B, x] = .exc "NoTimetable" i) (y0 : D) : f_most_granted [B, x, y0] = .exc "NoTimetable" i := by
  refine e_most_granted rfl ?_
  unfold m_most_granted
  simp (maxDischargeDepth := 7) [List.getElem?_cons_zero, List.getElem?_cons_succ, Mi.bind_out, Mi.bind_bind, Mi.sq_asg, Mi.sq_do, Mi.sq_ret, Mi.sq_raise, Mi.sq_seq, Mi.sq_pass, Mi.sq_if, Mi.sq_app, Mi.sq_setI, Mi.sq_setK, Mi.sq_ct, Mi.sq_bk, Mi.x_V, Mi.x_C, Mi.x_1, Mi.x_2, Mi.x_O2, Mi.x_P0, Mi.x_P1, Mi.x_3, Mi.x_O3, Mi.x_And, Mi.x_Or, Mi.x_Not, Mi.x_If, Mi.x_L0, Mi.x_L1, Mi.x_Tup, Mi.x_Lst, Mi.x_Ch, Mi.x_Call, Mi.x_CallO, Mi.x_CallP, Mi.x_CallN, Mi.x_Meth, Mi.x_Seq, Mi.x_Rng, Mi.x_Rng2, Mi.x_Enum, Mi.x_Zip, Mi.x_Zip3, Mi.x_Ix, Mi.x_Make, Mi.x_Try, Mi.x_TryO, Mi.sq_try, Mi.sq_tryO, Mi.x_setF, Mi.sq_setF, Mi.isD, Mi.tyN, Mi.tyB, Mi.x_pass, Mi.x_asg, Mi.x_do, Mi.x_ret, Mi.x_raise, Mi.x_if, Mi.x_bk, Mi.x_ct, Mi.x_app, Mi.x_setI, Mi.x_setK, Mi.x_pop, Mi.x_isL, Mi.x_tn, Mi.x_t0, Mi.x_st0, Mi.x_st1, Mi.x_rest0, Mi.x_rest1, Mi.x_putn, Mi.x_putt, Mi.x_set0, Mi.x_set1, Mi.x_out0, Mi.x_out1, Mi.truth, Mi.seqOf, Mi.startE, Mi.pE_tup, Mi.wipe0, Mi.wipe1, Option.getD_some, Mi.isBl_ite, Mi.toB_ite, Mi.allD_map, Mi.anyD_map, Mi.filter_tt, -List.mem_map, List.forall_mem_map, -List.map_tail, -List.map_take, -List.map_drop, Mi.take_mp, Mi.drop_mp, Mi.tail_mp, Mi.min_cap, List.length_zip, Mi.zip2_map, Mi.okV_ite, Mi.okB_ite, Mi.getV_ite, Mi.getB_ite, Mi.bind_ite, Mi.out_ite, Mi.lc_s, Mi.lc_sS, Mi.lc_sN, Mi.lc_sM, List.filter_map, List.map_map, Function.comp_def, h]
theorem cut_cheapest (h : f_check_timetable [B, x] = .exc "NoTimetable" i) (y0 : D) : f_cheapest [B, x, y0] = .exc "NoTimetable" i := by
  refine e_cheapest rfl ?_
  unfold m_cheapest
  simp (maxDischargeDepth := 7) [List.getElem?_cons_zero, List.getElem?_cons_succ, Mi.bind_out, Mi.bind_bind, Mi.sq_asg, Mi.sq_do, Mi.sq_ret, Mi.sq_raise, Mi.sq_seq, Mi.sq_pass, Mi.sq_if, Mi.sq_app, Mi.sq_setI, Mi.sq_setK, Mi.sq_ct, Mi.sq_bk, Mi.x_V, Mi.x_C, Mi.x_1, Mi.x_2, Mi.x_O2, Mi.x_P0, Mi.x_P1, Mi.x_3, Mi.x_O3, Mi.x_And, Mi.x_Or, Mi.x_Not, Mi.x_If, Mi.x_L0, Mi.x_L1, Mi.x_Tup, Mi.x_Lst, Mi.x_Ch, Mi.x_Call, Mi.x_CallO, Mi.x_CallP, Mi.x_CallN, Mi.x_Meth, Mi.x_Seq, Mi.x_Rng, Mi.x_Rng2, Mi.x_Enum, Mi.x_Zip, Mi.x_Zip3, Mi.x_Ix, Mi.x_Make, Mi.x_Try, Mi.x_TryO, Mi.sq_try, Mi.sq_tryO, Mi.x_setF, Mi.sq_setF, Mi.isD, Mi.tyN, Mi.tyB, Mi.x_pass, Mi.x_asg, Mi.x_do, Mi.x_ret, Mi.x_raise, Mi.x_if, Mi.x_bk, Mi.x_ct, Mi.x_app, Mi.x_setI, Mi.x_setK, Mi.x_pop, Mi.x_isL, Mi.x_tn, Mi.x_t0, Mi.x_st0, Mi.x_st1, Mi.x_rest0, Mi.x_rest1, Mi.x_putn, Mi.x_putt, Mi.x_set0, Mi.x_set1, Mi.x_out0, Mi.x_out1, Mi.truth, Mi.seqOf, Mi.startE, Mi.pE_tup, Mi.wipe0, Mi.wipe1, Option.getD_some, Mi.isBl_ite, Mi.toB_ite, Mi.allD_map, Mi.anyD_map, Mi.filter_tt, -List.mem_map, List.forall_mem_map, -List.map_tail, -List.map_take, -List.map_drop, Mi.take_mp, Mi.drop_mp, Mi.tail_mp, Mi.min_cap, List.length_zip, Mi.zip2_map, Mi.okV_ite, Mi.okB_ite, Mi.getV_ite, Mi.getB_ite, Mi.bind_ite, Mi.out_ite, Mi.lc_s, Mi.lc_sS, Mi.lc_sN, Mi.lc_sM, List.filter_map, List.map_map, Function.comp_def, h]
theorem cut_check_cheapest (h : f_check_timetable [B, x] = .exc "NoTimetable" i) (y0 y1 : D) : f_check_cheapest [B, x, y0, y1] = .exc "NoTimetable" i := by
  refine e_check_cheapest rfl ?_
  unfold m_check_cheapest
  simp (maxDischargeDepth := 7) [List.getElem?_cons_zero, List.getElem?_cons_succ, Mi.bind_out, Mi.bind_bind, Mi.sq_asg, Mi.sq_do, Mi.sq_ret, Mi.sq_raise, Mi.sq_seq, Mi.sq_pass, Mi.sq_if, Mi.sq_app, Mi.sq_setI, Mi.sq_setK, Mi.sq_ct, Mi.sq_bk, Mi.x_V, Mi.x_C, Mi.x_1, Mi.x_2, Mi.x_O2, Mi.x_P0, Mi.x_P1, Mi.x_3, Mi.x_O3, Mi.x_And, Mi.x_Or, Mi.x_Not, Mi.x_If, Mi.x_L0, Mi.x_L1, Mi.x_Tup, Mi.x_Lst, Mi.x_Ch, Mi.x_Call, Mi.x_CallO, Mi.x_CallP, Mi.x_CallN, Mi.x_Meth, Mi.x_Seq, Mi.x_Rng, Mi.x_Rng2, Mi.x_Enum, Mi.x_Zip, Mi.x_Zip3, Mi.x_Ix, Mi.x_Make, Mi.x_Try, Mi.x_TryO, Mi.sq_try, Mi.sq_tryO, Mi.x_setF, Mi.sq_setF, Mi.isD, Mi.tyN, Mi.tyB, Mi.x_pass, Mi.x_asg, Mi.x_do, Mi.x_ret, Mi.x_raise, Mi.x_if, Mi.x_bk, Mi.x_ct, Mi.x_app, Mi.x_setI, Mi.x_setK, Mi.x_pop, Mi.x_isL, Mi.x_tn, Mi.x_t0, Mi.x_st0, Mi.x_st1, Mi.x_rest0, Mi.x_rest1, Mi.x_putn, Mi.x_putt, Mi.x_set0, Mi.x_set1, Mi.x_out0, Mi.x_out1, Mi.truth, Mi.seqOf, Mi.startE, Mi.pE_tup, Mi.wipe0, Mi.wipe1, Option.getD_some, Mi.isBl_ite, Mi.toB_ite, Mi.allD_map, Mi.anyD_map, Mi.filter_tt, -List.mem_map, List.forall_mem_map, -List.map_tail, -List.map_take, -List.map_drop, Mi.take_mp, Mi.drop_mp, Mi.tail_mp, Mi.min_cap, List.length_zip, Mi.zip2_map, Mi.okV_ite, Mi.okB_ite, Mi.getV_ite, Mi.getB_ite, Mi.bind_ite, Mi.out_ite, Mi.lc_s, Mi.lc_sS, Mi.lc_sN, Mi.lc_sM, List.filter_map, List.map_map, Function.comp_def, h]
theorem cut_tight_sets (h : f_check_timetable [B, x] = .exc "NoTimetable" i) : f_tight_sets [B, x] = .exc "NoTimetable" i := by
  refine e_tight_sets rfl ?_
  unfold m_tight_sets
  simp (maxDischargeDepth := 7) [List.getElem?_cons_zero, List.getElem?_cons_succ, Mi.bind_out, Mi.bind_bind, Mi.sq_asg, Mi.sq_do, Mi.sq_ret, Mi.sq_raise, Mi.sq_seq, Mi.sq_pass, Mi.sq_if, Mi.sq_app, Mi.sq_setI, Mi.sq_setK, Mi.sq_ct, Mi.sq_bk, Mi.x_V, Mi.x_C, Mi.x_1, Mi.x_2, Mi.x_O2, Mi.x_P0, Mi.x_P1, Mi.x_3, Mi.x_O3, Mi.x_And, Mi.x_Or, Mi.x_Not, Mi.x_If, Mi.x_L0, Mi.x_L1, Mi.x_Tup, Mi.x_Lst, Mi.x_Ch, Mi.x_Call, Mi.x_CallO, Mi.x_CallP, Mi.x_CallN, Mi.x_Meth, Mi.x_Seq, Mi.x_Rng, Mi.x_Rng2, Mi.x_Enum, Mi.x_Zip, Mi.x_Zip3, Mi.x_Ix, Mi.x_Make, Mi.x_Try, Mi.x_TryO, Mi.sq_try, Mi.sq_tryO, Mi.x_setF, Mi.sq_setF, Mi.isD, Mi.tyN, Mi.tyB, Mi.x_pass, Mi.x_asg, Mi.x_do, Mi.x_ret, Mi.x_raise, Mi.x_if, Mi.x_bk, Mi.x_ct, Mi.x_app, Mi.x_setI, Mi.x_setK, Mi.x_pop, Mi.x_isL, Mi.x_tn, Mi.x_t0, Mi.x_st0, Mi.x_st1, Mi.x_rest0, Mi.x_rest1, Mi.x_putn, Mi.x_putt, Mi.x_set0, Mi.x_set1, Mi.x_out0, Mi.x_out1, Mi.truth, Mi.seqOf, Mi.startE, Mi.pE_tup, Mi.wipe0, Mi.wipe1, Option.getD_some, Mi.isBl_ite, Mi.toB_ite, Mi.allD_map, Mi.anyD_map, Mi.filter_tt, -List.mem_map, List.forall_mem_map, -List.map_tail, -List.map_take, -List.map_drop, Mi.take_mp, Mi.drop_mp, Mi.tail_mp, Mi.min_cap, List.length_zip, Mi.zip2_map, Mi.okV_ite, Mi.okB_ite, Mi.getV_ite, Mi.getB_ite, Mi.bind_ite, Mi.out_ite, Mi.lc_s, Mi.lc_sS, Mi.lc_sN, Mi.lc_sM, List.filter_map, List.map_map, Function.comp_def, h]
theorem cut_cancelled (h : f_check_timetable [B, x] = .exc "NoTimetable" i) (y0 : D) : f_cancelled [B, x, y0] = .exc "NoTimetable" i := by
  refine e_cancelled rfl ?_
  unfold m_cancelled
  simp (maxDischargeDepth := 7) [List.getElem?_cons_zero, List.getElem?_cons_succ, Mi.bind_out, Mi.bind_bind, Mi.sq_asg, Mi.sq_do, Mi.sq_ret, Mi.sq_raise, Mi.sq_seq, Mi.sq_pass, Mi.sq_if, Mi.sq_app, Mi.sq_setI, Mi.sq_setK, Mi.sq_ct, Mi.sq_bk, Mi.x_V, Mi.x_C, Mi.x_1, Mi.x_2, Mi.x_O2, Mi.x_P0, Mi.x_P1, Mi.x_3, Mi.x_O3, Mi.x_And, Mi.x_Or, Mi.x_Not, Mi.x_If, Mi.x_L0, Mi.x_L1, Mi.x_Tup, Mi.x_Lst, Mi.x_Ch, Mi.x_Call, Mi.x_CallO, Mi.x_CallP, Mi.x_CallN, Mi.x_Meth, Mi.x_Seq, Mi.x_Rng, Mi.x_Rng2, Mi.x_Enum, Mi.x_Zip, Mi.x_Zip3, Mi.x_Ix, Mi.x_Make, Mi.x_Try, Mi.x_TryO, Mi.sq_try, Mi.sq_tryO, Mi.x_setF, Mi.sq_setF, Mi.isD, Mi.tyN, Mi.tyB, Mi.x_pass, Mi.x_asg, Mi.x_do, Mi.x_ret, Mi.x_raise, Mi.x_if, Mi.x_bk, Mi.x_ct, Mi.x_app, Mi.x_setI, Mi.x_setK, Mi.x_pop, Mi.x_isL, Mi.x_tn, Mi.x_t0, Mi.x_st0, Mi.x_st1, Mi.x_rest0, Mi.x_rest1, Mi.x_putn, Mi.x_putt, Mi.x_set0, Mi.x_set1, Mi.x_out0, Mi.x_out1, Mi.truth, Mi.seqOf, Mi.startE, Mi.pE_tup, Mi.wipe0, Mi.wipe1, Option.getD_some, Mi.isBl_ite, Mi.toB_ite, Mi.allD_map, Mi.anyD_map, Mi.filter_tt, -List.mem_map, List.forall_mem_map, -List.map_tail, -List.map_take, -List.map_drop, Mi.take_mp, Mi.drop_mp, Mi.tail_mp, Mi.min_cap, List.length_zip, Mi.zip2_map, Mi.okV_ite, Mi.okB_ite, Mi.getV_ite, Mi.getB_ite, Mi.bind_ite, Mi.out_ite, Mi.lc_s, Mi.lc_sS, Mi.lc_sN, Mi.lc_sM, List.filter_map, List.map_map, Function.comp_def, h]
theorem cut_check_cancelled (h : f_check_timetable [B, x] = .exc "NoTimetable" i) (y0 : D) : f_check_cancelled [B, x, y0] = .exc "NoTimetable" i := by
  refine e_check_cancelled rfl ?_
  unfold m_check_cancelled
  simp (maxDischargeDepth := 7) [List.getElem?_cons_zero, List.getElem?_cons_succ, Mi.bind_out, Mi.bind_bind, Mi.sq_asg, Mi.sq_do, Mi.sq_ret, Mi.sq_raise, Mi.sq_seq, Mi.sq_pass, Mi.sq_if, Mi.sq_app, Mi.sq_setI, Mi.sq_setK, Mi.sq_ct, Mi.sq_bk, Mi.x_V, Mi.x_C, Mi.x_1, Mi.x_2, Mi.x_O2, Mi.x_P0, Mi.x_P1, Mi.x_3, Mi.x_O3, Mi.x_And, Mi.x_Or, Mi.x_Not, Mi.x_If, Mi.x_L0, Mi.x_L1, Mi.x_Tup, Mi.x_Lst, Mi.x_Ch, Mi.x_Call, Mi.x_CallO, Mi.x_CallP, Mi.x_CallN, Mi.x_Meth, Mi.x_Seq, Mi.x_Rng, Mi.x_Rng2, Mi.x_Enum, Mi.x_Zip, Mi.x_Zip3, Mi.x_Ix, Mi.x_Make, Mi.x_Try, Mi.x_TryO, Mi.sq_try, Mi.sq_tryO, Mi.x_setF, Mi.sq_setF, Mi.isD, Mi.tyN, Mi.tyB, Mi.x_pass, Mi.x_asg, Mi.x_do, Mi.x_ret, Mi.x_raise, Mi.x_if, Mi.x_bk, Mi.x_ct, Mi.x_app, Mi.x_setI, Mi.x_setK, Mi.x_pop, Mi.x_isL, Mi.x_tn, Mi.x_t0, Mi.x_st0, Mi.x_st1, Mi.x_rest0, Mi.x_rest1, Mi.x_putn, Mi.x_putt, Mi.x_set0, Mi.x_set1, Mi.x_out0, Mi.x_out1, Mi.truth, Mi.seqOf, Mi.startE, Mi.pE_tup, Mi.wipe0, Mi.wipe1, Option.getD_some, Mi.isBl_ite, Mi.toB_ite, Mi.allD_map, Mi.anyD_map, Mi.filter_tt, -List.mem_map, List.forall_mem_map, -List.map_tail, -List.map_take, -List.map_drop, Mi.take_mp, Mi.drop_mp, Mi.tail_mp, Mi.min_cap, List.length_zip, Mi.zip2_map, Mi.okV_ite, Mi.okB_ite, Mi.getV_ite, Mi.getB_ite, Mi.bind_ite, Mi.out_ite, Mi.lc_s, Mi.lc_sS, Mi.lc_sN, Mi.lc_sM, List.filter_map, List.map_map, Function.comp_def, h]
theorem cut_reached (h : f_check_timetable [B, x] = .exc "NoTimetable" i) (y0 : D) : f_reached [B, x, y0] = .exc "NoTimetable" i := by
  refine e_reached rfl ?_
  unfold m_reached
  simp (maxDischargeDepth := 7) [List.getElem?_cons_zero, List.getElem?_cons_succ, Mi.bind_out, Mi.bind_bind, Mi.sq_asg, Mi.sq_do, Mi.sq_ret, Mi.sq_raise, Mi.sq_seq, Mi.sq_pass, Mi.sq_if, Mi.sq_app, Mi.sq_setI, Mi.sq_setK, Mi.sq_ct, Mi.sq_bk, Mi.x_V, Mi.x_C, Mi.x_1, Mi.x_2, Mi.x_O2, Mi.x_P0, Mi.x_P1, Mi.x_3, Mi.x_O3, Mi.x_And, Mi.x_Or, Mi.x_Not, Mi.x_If, Mi.x_L0, Mi.x_L1, Mi.x_Tup, Mi.x_Lst, Mi.x_Ch, Mi.x_Call, Mi.x_CallO, Mi.x_CallP, Mi.x_CallN, Mi.x_Meth, Mi.x_Seq, Mi.x_Rng, Mi.x_Rng2, Mi.x_Enum, Mi.x_Zip, Mi.x_Zip3, Mi.x_Ix, Mi.x_Make, Mi.x_Try, Mi.x_TryO, Mi.sq_try, Mi.sq_tryO, Mi.x_setF, Mi.sq_setF, Mi.isD, Mi.tyN, Mi.tyB, Mi.x_pass, Mi.x_asg, Mi.x_do, Mi.x_ret, Mi.x_raise, Mi.x_if, Mi.x_bk, Mi.x_ct, Mi.x_app, Mi.x_setI, Mi.x_setK, Mi.x_pop, Mi.x_isL, Mi.x_tn, Mi.x_t0, Mi.x_st0, Mi.x_st1, Mi.x_rest0, Mi.x_rest1, Mi.x_putn, Mi.x_putt, Mi.x_set0, Mi.x_set1, Mi.x_out0, Mi.x_out1, Mi.truth, Mi.seqOf, Mi.startE, Mi.pE_tup, Mi.wipe0, Mi.wipe1, Option.getD_some, Mi.isBl_ite, Mi.toB_ite, Mi.allD_map, Mi.anyD_map, Mi.filter_tt, -List.mem_map, List.forall_mem_map, -List.map_tail, -List.map_take, -List.map_drop, Mi.take_mp, Mi.drop_mp, Mi.tail_mp, Mi.min_cap, List.length_zip, Mi.zip2_map, Mi.okV_ite, Mi.okB_ite, Mi.getV_ite, Mi.getB_ite, Mi.bind_ite, Mi.out_ite, Mi.lc_s, Mi.lc_sS, Mi.lc_sN, Mi.lc_sM, List.filter_map, List.map_map, Function.comp_def, h]
theorem cut_moves (h : f_check_timetable [B, x] = .exc "NoTimetable" i) : f_moves [B, x] = .exc "NoTimetable" i := by
  refine e_moves rfl ?_
  unfold m_moves
  simp (maxDischargeDepth := 7) [List.getElem?_cons_zero, List.getElem?_cons_succ, Mi.bind_out, Mi.bind_bind, Mi.sq_asg, Mi.sq_do, Mi.sq_ret, Mi.sq_raise, Mi.sq_seq, Mi.sq_pass, Mi.sq_if, Mi.sq_app, Mi.sq_setI, Mi.sq_setK, Mi.sq_ct, Mi.sq_bk, Mi.x_V, Mi.x_C, Mi.x_1, Mi.x_2, Mi.x_O2, Mi.x_P0, Mi.x_P1, Mi.x_3, Mi.x_O3, Mi.x_And, Mi.x_Or, Mi.x_Not, Mi.x_If, Mi.x_L0, Mi.x_L1, Mi.x_Tup, Mi.x_Lst, Mi.x_Ch, Mi.x_Call, Mi.x_CallO, Mi.x_CallP, Mi.x_CallN, Mi.x_Meth, Mi.x_Seq, Mi.x_Rng, Mi.x_Rng2, Mi.x_Enum, Mi.x_Zip, Mi.x_Zip3, Mi.x_Ix, Mi.x_Make, Mi.x_Try, Mi.x_TryO, Mi.sq_try, Mi.sq_tryO, Mi.x_setF, Mi.sq_setF, Mi.isD, Mi.tyN, Mi.tyB, Mi.x_pass, Mi.x_asg, Mi.x_do, Mi.x_ret, Mi.x_raise, Mi.x_if, Mi.x_bk, Mi.x_ct, Mi.x_app, Mi.x_setI, Mi.x_setK, Mi.x_pop, Mi.x_isL, Mi.x_tn, Mi.x_t0, Mi.x_st0, Mi.x_st1, Mi.x_rest0, Mi.x_rest1, Mi.x_putn, Mi.x_putt, Mi.x_set0, Mi.x_set1, Mi.x_out0, Mi.x_out1, Mi.truth, Mi.seqOf, Mi.startE, Mi.pE_tup, Mi.wipe0, Mi.wipe1, Option.getD_some, Mi.isBl_ite, Mi.toB_ite, Mi.allD_map, Mi.anyD_map, Mi.filter_tt, -List.mem_map, List.forall_mem_map, -List.map_tail, -List.map_take, -List.map_drop, Mi.take_mp, Mi.drop_mp, Mi.tail_mp, Mi.min_cap, List.length_zip, Mi.zip2_map, Mi.okV_ite, Mi.okB_ite, Mi.getV_ite, Mi.getB_ite, Mi.bind_ite, Mi.out_ite, Mi.lc_s, Mi.lc_sS, Mi.lc_sN, Mi.lc_sM, List.filter_map, List.map_map, Function.comp_def, cut_free_slots h]
theorem cut_fewest_cancelled (h : f_check_timetable [B, x] = .exc "NoTimetable" i) : f_fewest_cancelled [B, x] = .exc "NoTimetable" i := by
  refine e_fewest_cancelled rfl ?_
  unfold m_fewest_cancelled
  simp (maxDischargeDepth := 7) [List.getElem?_cons_zero, List.getElem?_cons_succ, Mi.bind_out, Mi.bind_bind, Mi.sq_asg, Mi.sq_do, Mi.sq_ret, Mi.sq_raise, Mi.sq_seq, Mi.sq_pass, Mi.sq_if, Mi.sq_app, Mi.sq_setI, Mi.sq_setK, Mi.sq_ct, Mi.sq_bk, Mi.x_V, Mi.x_C, Mi.x_1, Mi.x_2, Mi.x_O2, Mi.x_P0, Mi.x_P1, Mi.x_3, Mi.x_O3, Mi.x_And, Mi.x_Or, Mi.x_Not, Mi.x_If, Mi.x_L0, Mi.x_L1, Mi.x_Tup, Mi.x_Lst, Mi.x_Ch, Mi.x_Call, Mi.x_CallO, Mi.x_CallP, Mi.x_CallN, Mi.x_Meth, Mi.x_Seq, Mi.x_Rng, Mi.x_Rng2, Mi.x_Enum, Mi.x_Zip, Mi.x_Zip3, Mi.x_Ix, Mi.x_Make, Mi.x_Try, Mi.x_TryO, Mi.sq_try, Mi.sq_tryO, Mi.x_setF, Mi.sq_setF, Mi.isD, Mi.tyN, Mi.tyB, Mi.x_pass, Mi.x_asg, Mi.x_do, Mi.x_ret, Mi.x_raise, Mi.x_if, Mi.x_bk, Mi.x_ct, Mi.x_app, Mi.x_setI, Mi.x_setK, Mi.x_pop, Mi.x_isL, Mi.x_tn, Mi.x_t0, Mi.x_st0, Mi.x_st1, Mi.x_rest0, Mi.x_rest1, Mi.x_putn, Mi.x_putt, Mi.x_set0, Mi.x_set1, Mi.x_out0, Mi.x_out1, Mi.truth, Mi.seqOf, Mi.startE, Mi.pE_tup, Mi.wipe0, Mi.wipe1, Option.getD_some, Mi.isBl_ite, Mi.toB_ite, Mi.allD_map, Mi.anyD_map, Mi.filter_tt, -List.mem_map, List.forall_mem_map, -List.map_tail, -List.map_take, -List.map_drop, Mi.take_mp, Mi.drop_mp, Mi.tail_mp, Mi.min_cap, List.length_zip, Mi.zip2_map, Mi.okV_ite, Mi.okB_ite, Mi.getV_ite, Mi.getB_ite, Mi.bind_ite, Mi.out_ite, Mi.lc_s, Mi.lc_sS, Mi.lc_sN, Mi.lc_sM, List.filter_map, List.map_map, Function.comp_def, cut_tight_sets h]
theorem cut_steps_from_free (h : f_check_timetable [B, x] = .exc "NoTimetable" i) : f_steps_from_free [B, x] = .exc "NoTimetable" i := by
  refine e_steps_from_free rfl ?_
  unfold m_steps_from_free
  simp (maxDischargeDepth := 7) [List.getElem?_cons_zero, List.getElem?_cons_succ, Mi.bind_out, Mi.bind_bind, Mi.sq_asg, Mi.sq_do, Mi.sq_ret, Mi.sq_raise, Mi.sq_seq, Mi.sq_pass, Mi.sq_if, Mi.sq_app, Mi.sq_setI, Mi.sq_setK, Mi.sq_ct, Mi.sq_bk, Mi.x_V, Mi.x_C, Mi.x_1, Mi.x_2, Mi.x_O2, Mi.x_P0, Mi.x_P1, Mi.x_3, Mi.x_O3, Mi.x_And, Mi.x_Or, Mi.x_Not, Mi.x_If, Mi.x_L0, Mi.x_L1, Mi.x_Tup, Mi.x_Lst, Mi.x_Ch, Mi.x_Call, Mi.x_CallO, Mi.x_CallP, Mi.x_CallN, Mi.x_Meth, Mi.x_Seq, Mi.x_Rng, Mi.x_Rng2, Mi.x_Enum, Mi.x_Zip, Mi.x_Zip3, Mi.x_Ix, Mi.x_Make, Mi.x_Try, Mi.x_TryO, Mi.sq_try, Mi.sq_tryO, Mi.x_setF, Mi.sq_setF, Mi.isD, Mi.tyN, Mi.tyB, Mi.x_pass, Mi.x_asg, Mi.x_do, Mi.x_ret, Mi.x_raise, Mi.x_if, Mi.x_bk, Mi.x_ct, Mi.x_app, Mi.x_setI, Mi.x_setK, Mi.x_pop, Mi.x_isL, Mi.x_tn, Mi.x_t0, Mi.x_st0, Mi.x_st1, Mi.x_rest0, Mi.x_rest1, Mi.x_putn, Mi.x_putt, Mi.x_set0, Mi.x_set1, Mi.x_out0, Mi.x_out1, Mi.truth, Mi.seqOf, Mi.startE, Mi.pE_tup, Mi.wipe0, Mi.wipe1, Option.getD_some, Mi.isBl_ite, Mi.toB_ite, Mi.allD_map, Mi.anyD_map, Mi.filter_tt, -List.mem_map, List.forall_mem_map, -List.map_tail, -List.map_take, -List.map_drop, Mi.take_mp, Mi.drop_mp, Mi.tail_mp, Mi.min_cap, List.length_zip, Mi.zip2_map, Mi.okV_ite, Mi.okB_ite, Mi.getV_ite, Mi.getB_ite, Mi.bind_ite, Mi.out_ite, Mi.lc_s, Mi.lc_sS, Mi.lc_sN, Mi.lc_sM, List.filter_map, List.map_map, Function.comp_def, eDc, cut_free_slots h]
theorem cut_frozen (h : f_check_timetable [B, x] = .exc "NoTimetable" i) : f_frozen [B, x] = .exc "NoTimetable" i := by
  refine e_frozen rfl ?_
  unfold m_frozen
  simp (maxDischargeDepth := 7) [List.getElem?_cons_zero, List.getElem?_cons_succ, Mi.bind_out, Mi.bind_bind, Mi.sq_asg, Mi.sq_do, Mi.sq_ret, Mi.sq_raise, Mi.sq_seq, Mi.sq_pass, Mi.sq_if, Mi.sq_app, Mi.sq_setI, Mi.sq_setK, Mi.sq_ct, Mi.sq_bk, Mi.x_V, Mi.x_C, Mi.x_1, Mi.x_2, Mi.x_O2, Mi.x_P0, Mi.x_P1, Mi.x_3, Mi.x_O3, Mi.x_And, Mi.x_Or, Mi.x_Not, Mi.x_If, Mi.x_L0, Mi.x_L1, Mi.x_Tup, Mi.x_Lst, Mi.x_Ch, Mi.x_Call, Mi.x_CallO, Mi.x_CallP, Mi.x_CallN, Mi.x_Meth, Mi.x_Seq, Mi.x_Rng, Mi.x_Rng2, Mi.x_Enum, Mi.x_Zip, Mi.x_Zip3, Mi.x_Ix, Mi.x_Make, Mi.x_Try, Mi.x_TryO, Mi.sq_try, Mi.sq_tryO, Mi.x_setF, Mi.sq_setF, Mi.isD, Mi.tyN, Mi.tyB, Mi.x_pass, Mi.x_asg, Mi.x_do, Mi.x_ret, Mi.x_raise, Mi.x_if, Mi.x_bk, Mi.x_ct, Mi.x_app, Mi.x_setI, Mi.x_setK, Mi.x_pop, Mi.x_isL, Mi.x_tn, Mi.x_t0, Mi.x_st0, Mi.x_st1, Mi.x_rest0, Mi.x_rest1, Mi.x_putn, Mi.x_putt, Mi.x_set0, Mi.x_set1, Mi.x_out0, Mi.x_out1, Mi.truth, Mi.seqOf, Mi.startE, Mi.pE_tup, Mi.wipe0, Mi.wipe1, Option.getD_some, Mi.isBl_ite, Mi.toB_ite, Mi.allD_map, Mi.anyD_map, Mi.filter_tt, -List.mem_map, List.forall_mem_map, -List.map_tail, -List.map_take, -List.map_drop, Mi.take_mp, Mi.drop_mp, Mi.tail_mp, Mi.min_cap, List.length_zip, Mi.zip2_map, Mi.okV_ite, Mi.okB_ite, Mi.getV_ite, Mi.getB_ite, Mi.bind_ite, Mi.out_ite, Mi.lc_s, Mi.lc_sS, Mi.lc_sN, Mi.lc_sM, List.filter_map, List.map_map, Function.comp_def, cut_steps_from_free h]
theorem cut_open_slots (h : f_check_timetable [B, x] = .exc "NoTimetable" i) : f_open_slots [B, x] = .exc "NoTimetable" i := by
  refine e_open_slots rfl ?_
  unfold m_open_slots
  simp (maxDischargeDepth := 7) [List.getElem?_cons_zero, List.getElem?_cons_succ, Mi.bind_out, Mi.bind_bind, Mi.sq_asg, Mi.sq_do, Mi.sq_ret, Mi.sq_raise, Mi.sq_seq, Mi.sq_pass, Mi.sq_if, Mi.sq_app, Mi.sq_setI, Mi.sq_setK, Mi.sq_ct, Mi.sq_bk, Mi.x_V, Mi.x_C, Mi.x_1, Mi.x_2, Mi.x_O2, Mi.x_P0, Mi.x_P1, Mi.x_3, Mi.x_O3, Mi.x_And, Mi.x_Or, Mi.x_Not, Mi.x_If, Mi.x_L0, Mi.x_L1, Mi.x_Tup, Mi.x_Lst, Mi.x_Ch, Mi.x_Call, Mi.x_CallO, Mi.x_CallP, Mi.x_CallN, Mi.x_Meth, Mi.x_Seq, Mi.x_Rng, Mi.x_Rng2, Mi.x_Enum, Mi.x_Zip, Mi.x_Zip3, Mi.x_Ix, Mi.x_Make, Mi.x_Try, Mi.x_TryO, Mi.sq_try, Mi.sq_tryO, Mi.x_setF, Mi.sq_setF, Mi.isD, Mi.tyN, Mi.tyB, Mi.x_pass, Mi.x_asg, Mi.x_do, Mi.x_ret, Mi.x_raise, Mi.x_if, Mi.x_bk, Mi.x_ct, Mi.x_app, Mi.x_setI, Mi.x_setK, Mi.x_pop, Mi.x_isL, Mi.x_tn, Mi.x_t0, Mi.x_st0, Mi.x_st1, Mi.x_rest0, Mi.x_rest1, Mi.x_putn, Mi.x_putt, Mi.x_set0, Mi.x_set1, Mi.x_out0, Mi.x_out1, Mi.truth, Mi.seqOf, Mi.startE, Mi.pE_tup, Mi.wipe0, Mi.wipe1, Option.getD_some, Mi.isBl_ite, Mi.toB_ite, Mi.allD_map, Mi.anyD_map, Mi.filter_tt, -List.mem_map, List.forall_mem_map, -List.map_tail, -List.map_take, -List.map_drop, Mi.take_mp, Mi.drop_mp, Mi.tail_mp, Mi.min_cap, List.length_zip, Mi.zip2_map, Mi.okV_ite, Mi.okB_ite, Mi.getV_ite, Mi.getB_ite, Mi.bind_ite, Mi.out_ite, Mi.lc_s, Mi.lc_sS, Mi.lc_sN, Mi.lc_sM, List.filter_map, List.map_map, Function.comp_def, cut_steps_from_free h]
theorem doors_ok (h : f_check_timetable [B, x] = .exc "NoTimetable" i) : f_law_doors [B, x] = .ok (.lst (List.replicate 9 i)) [] := by
  refine e_law_doors rfl ?_
  unfold m_law_doors
  have c : ∀ n : Nat, n ≤ 20 → n < cap := fun n hn => cap_s (by omega)
  simp (maxDischargeDepth := 7) [List.getElem?_cons_zero, List.getElem?_cons_succ, Mi.bind_out, Mi.bind_bind, Mi.sq_asg, Mi.sq_do, Mi.sq_ret, Mi.sq_raise, Mi.sq_seq, Mi.sq_pass, Mi.sq_if, Mi.sq_app, Mi.sq_setI, Mi.sq_setK, Mi.sq_ct, Mi.sq_bk, Mi.x_V, Mi.x_C, Mi.x_1, Mi.x_2, Mi.x_O2, Mi.x_P0, Mi.x_P1, Mi.x_3, Mi.x_O3, Mi.x_And, Mi.x_Or, Mi.x_Not, Mi.x_If, Mi.x_L0, Mi.x_L1, Mi.x_Tup, Mi.x_Lst, Mi.x_Ch, Mi.x_Call, Mi.x_CallO, Mi.x_CallP, Mi.x_CallN, Mi.x_Meth, Mi.x_Seq, Mi.x_Rng, Mi.x_Rng2, Mi.x_Enum, Mi.x_Zip, Mi.x_Zip3, Mi.x_Ix, Mi.x_Make, Mi.x_Try, Mi.x_TryO, Mi.sq_try, Mi.sq_tryO, Mi.x_setF, Mi.sq_setF, Mi.isD, Mi.tyN, Mi.tyB, Mi.x_pass, Mi.x_asg, Mi.x_do, Mi.x_ret, Mi.x_raise, Mi.x_if, Mi.x_bk, Mi.x_ct, Mi.x_app, Mi.x_setI, Mi.x_setK, Mi.x_pop, Mi.x_isL, Mi.x_tn, Mi.x_t0, Mi.x_st0, Mi.x_st1, Mi.x_rest0, Mi.x_rest1, Mi.x_putn, Mi.x_putt, Mi.x_set0, Mi.x_set1, Mi.x_out0, Mi.x_out1, Mi.truth, Mi.seqOf, Mi.startE, Mi.pE_tup, Mi.wipe0, Mi.wipe1, Option.getD_some, Mi.isBl_ite, Mi.toB_ite, Mi.allD_map, Mi.anyD_map, Mi.filter_tt, -List.mem_map, List.forall_mem_map, -List.map_tail, -List.map_take, -List.map_drop, Mi.take_mp, Mi.drop_mp, Mi.tail_mp, Mi.min_cap, List.length_zip, Mi.zip2_map, Mi.okV_ite, Mi.okB_ite, Mi.getV_ite, Mi.getB_ite, Mi.bind_ite, Mi.out_ite, Mi.lc_s, Mi.lc_sS, Mi.lc_sN, Mi.lc_sM, List.filter_map, List.map_map, Function.comp_def, x_Thunk, wipe0, wipe1, askOf, raised_exc, h, cut_free_slots h, cut_moves h, cut_moved h, cut_reached h, cut_open_slots h, cut_frozen h, cut_check_tight h, cut_vacated h, sel, negD, c]
theorem later_ok (h : f_check_timetable [B, x] = .exc "NoTimetable" i) : f_law_later_doors [B, x] = .ok (.lst (List.replicate 13 i)) [] := by
  refine e_law_later_doors rfl ?_
  unfold m_law_later_doors
  have c : ∀ n : Nat, n ≤ 20 → n < cap := fun n hn => cap_s (by omega)
  simp (maxDischargeDepth := 7) [List.getElem?_cons_zero, List.getElem?_cons_succ, Mi.bind_out, Mi.bind_bind, Mi.sq_asg, Mi.sq_do, Mi.sq_ret, Mi.sq_raise, Mi.sq_seq, Mi.sq_pass, Mi.sq_if, Mi.sq_app, Mi.sq_setI, Mi.sq_setK, Mi.sq_ct, Mi.sq_bk, Mi.x_V, Mi.x_C, Mi.x_1, Mi.x_2, Mi.x_O2, Mi.x_P0, Mi.x_P1, Mi.x_3, Mi.x_O3, Mi.x_And, Mi.x_Or, Mi.x_Not, Mi.x_If, Mi.x_L0, Mi.x_L1, Mi.x_Tup, Mi.x_Lst, Mi.x_Ch, Mi.x_Call, Mi.x_CallO, Mi.x_CallP, Mi.x_CallN, Mi.x_Meth, Mi.x_Seq, Mi.x_Rng, Mi.x_Rng2, Mi.x_Enum, Mi.x_Zip, Mi.x_Zip3, Mi.x_Ix, Mi.x_Make, Mi.x_Try, Mi.x_TryO, Mi.sq_try, Mi.sq_tryO, Mi.x_setF, Mi.sq_setF, Mi.isD, Mi.tyN, Mi.tyB, Mi.x_pass, Mi.x_asg, Mi.x_do, Mi.x_ret, Mi.x_raise, Mi.x_if, Mi.x_bk, Mi.x_ct, Mi.x_app, Mi.x_setI, Mi.x_setK, Mi.x_pop, Mi.x_isL, Mi.x_tn, Mi.x_t0, Mi.x_st0, Mi.x_st1, Mi.x_rest0, Mi.x_rest1, Mi.x_putn, Mi.x_putt, Mi.x_set0, Mi.x_set1, Mi.x_out0, Mi.x_out1, Mi.truth, Mi.seqOf, Mi.startE, Mi.pE_tup, Mi.wipe0, Mi.wipe1, Option.getD_some, Mi.isBl_ite, Mi.toB_ite, Mi.allD_map, Mi.anyD_map, Mi.filter_tt, -List.mem_map, List.forall_mem_map, -List.map_tail, -List.map_take, -List.map_drop, Mi.take_mp, Mi.drop_mp, Mi.tail_mp, Mi.min_cap, List.length_zip, Mi.zip2_map, Mi.okV_ite, Mi.okB_ite, Mi.getV_ite, Mi.getB_ite, Mi.bind_ite, Mi.out_ite, Mi.lc_s, Mi.lc_sS, Mi.lc_sN, Mi.lc_sM, List.filter_map, List.map_map, Function.comp_def, x_Thunk, wipe0, wipe1, askOf, raised_exc, cut_options h, cut_bring h, cut_insert h, cut_check_insert h, cut_granted h, cut_check_granted h, cut_most_granted h, cut_cheapest h, cut_check_cheapest h, cut_tight_sets h, cut_cancelled h, cut_fewest_cancelled h, cut_check_cancelled h, negD, c]
theorem pairs_1 (h : f_check_timetable [B, x] = .exc "NoTimetable" i) (y : D) : f_law_pairs [B, x, y] = .ok (.lst (List.replicate 3 i)) [] := by
  have p1 : f_plan [B, x, y] = .exc "NoTimetable" i := by
    refine e_plan rfl ?_
    unfold m_plan
    simp (maxDischargeDepth := 7) [List.getElem?_cons_zero, List.getElem?_cons_succ, Mi.bind_out, Mi.bind_bind, Mi.sq_asg, Mi.sq_do, Mi.sq_ret, Mi.sq_raise, Mi.sq_seq, Mi.sq_pass, Mi.sq_if, Mi.sq_app, Mi.sq_setI, Mi.sq_setK, Mi.sq_ct, Mi.sq_bk, Mi.x_V, Mi.x_C, Mi.x_1, Mi.x_2, Mi.x_O2, Mi.x_P0, Mi.x_P1, Mi.x_3, Mi.x_O3, Mi.x_And, Mi.x_Or, Mi.x_Not, Mi.x_If, Mi.x_L0, Mi.x_L1, Mi.x_Tup, Mi.x_Lst, Mi.x_Ch, Mi.x_Call, Mi.x_CallO, Mi.x_CallP, Mi.x_CallN, Mi.x_Meth, Mi.x_Seq, Mi.x_Rng, Mi.x_Rng2, Mi.x_Enum, Mi.x_Zip, Mi.x_Zip3, Mi.x_Ix, Mi.x_Make, Mi.x_Try, Mi.x_TryO, Mi.sq_try, Mi.sq_tryO, Mi.x_setF, Mi.sq_setF, Mi.isD, Mi.tyN, Mi.tyB, Mi.x_pass, Mi.x_asg, Mi.x_do, Mi.x_ret, Mi.x_raise, Mi.x_if, Mi.x_bk, Mi.x_ct, Mi.x_app, Mi.x_setI, Mi.x_setK, Mi.x_pop, Mi.x_isL, Mi.x_tn, Mi.x_t0, Mi.x_st0, Mi.x_st1, Mi.x_rest0, Mi.x_rest1, Mi.x_putn, Mi.x_putt, Mi.x_set0, Mi.x_set1, Mi.x_out0, Mi.x_out1, Mi.truth, Mi.seqOf, Mi.startE, Mi.pE_tup, Mi.wipe0, Mi.wipe1, Option.getD_some, Mi.isBl_ite, Mi.toB_ite, Mi.allD_map, Mi.anyD_map, Mi.filter_tt, -List.mem_map, List.forall_mem_map, -List.map_tail, -List.map_take, -List.map_drop, Mi.take_mp, Mi.drop_mp, Mi.tail_mp, Mi.min_cap, List.length_zip, Mi.zip2_map, Mi.okV_ite, Mi.okB_ite, Mi.getV_ite, Mi.getB_ite, Mi.bind_ite, Mi.out_ite, Mi.lc_s, Mi.lc_sS, Mi.lc_sN, Mi.lc_sM, List.filter_map, List.map_map, Function.comp_def, h]
  have p2 : f_least [B, x, y] = .exc "NoTimetable" i := by
    refine e_least rfl ?_
    unfold m_least
    simp (maxDischargeDepth := 7) [List.getElem?_cons_zero, List.getElem?_cons_succ, Mi.bind_out, Mi.bind_bind, Mi.sq_asg, Mi.sq_do, Mi.sq_ret, Mi.sq_raise, Mi.sq_seq, Mi.sq_pass, Mi.sq_if, Mi.sq_app, Mi.sq_setI, Mi.sq_setK, Mi.sq_ct, Mi.sq_bk, Mi.x_V, Mi.x_C, Mi.x_1, Mi.x_2, Mi.x_O2, Mi.x_P0, Mi.x_P1, Mi.x_3, Mi.x_O3, Mi.x_And, Mi.x_Or, Mi.x_Not, Mi.x_If, Mi.x_L0, Mi.x_L1, Mi.x_Tup, Mi.x_Lst, Mi.x_Ch, Mi.x_Call, Mi.x_CallO, Mi.x_CallP, Mi.x_CallN, Mi.x_Meth, Mi.x_Seq, Mi.x_Rng, Mi.x_Rng2, Mi.x_Enum, Mi.x_Zip, Mi.x_Zip3, Mi.x_Ix, Mi.x_Make, Mi.x_Try, Mi.x_TryO, Mi.sq_try, Mi.sq_tryO, Mi.x_setF, Mi.sq_setF, Mi.isD, Mi.tyN, Mi.tyB, Mi.x_pass, Mi.x_asg, Mi.x_do, Mi.x_ret, Mi.x_raise, Mi.x_if, Mi.x_bk, Mi.x_ct, Mi.x_app, Mi.x_setI, Mi.x_setK, Mi.x_pop, Mi.x_isL, Mi.x_tn, Mi.x_t0, Mi.x_st0, Mi.x_st1, Mi.x_rest0, Mi.x_rest1, Mi.x_putn, Mi.x_putt, Mi.x_set0, Mi.x_set1, Mi.x_out0, Mi.x_out1, Mi.truth, Mi.seqOf, Mi.startE, Mi.pE_tup, Mi.wipe0, Mi.wipe1, Option.getD_some, Mi.isBl_ite, Mi.toB_ite, Mi.allD_map, Mi.anyD_map, Mi.filter_tt, -List.mem_map, List.forall_mem_map, -List.map_tail, -List.map_take, -List.map_drop, Mi.take_mp, Mi.drop_mp, Mi.tail_mp, Mi.min_cap, List.length_zip, Mi.zip2_map, Mi.okV_ite, Mi.okB_ite, Mi.getV_ite, Mi.getB_ite, Mi.bind_ite, Mi.out_ite, Mi.lc_s, Mi.lc_sS, Mi.lc_sN, Mi.lc_sM, List.filter_map, List.map_map, Function.comp_def, h]
  have p3 : ∀ z, f_check_plan [B, x, y, z] = .exc "NoTimetable" i := fun z => by
    refine e_check_plan rfl ?_
    unfold m_check_plan
    simp (maxDischargeDepth := 7) [List.getElem?_cons_zero, List.getElem?_cons_succ, Mi.bind_out, Mi.bind_bind, Mi.sq_asg, Mi.sq_do, Mi.sq_ret, Mi.sq_raise, Mi.sq_seq, Mi.sq_pass, Mi.sq_if, Mi.sq_app, Mi.sq_setI, Mi.sq_setK, Mi.sq_ct, Mi.sq_bk, Mi.x_V, Mi.x_C, Mi.x_1, Mi.x_2, Mi.x_O2, Mi.x_P0, Mi.x_P1, Mi.x_3, Mi.x_O3, Mi.x_And, Mi.x_Or, Mi.x_Not, Mi.x_If, Mi.x_L0, Mi.x_L1, Mi.x_Tup, Mi.x_Lst, Mi.x_Ch, Mi.x_Call, Mi.x_CallO, Mi.x_CallP, Mi.x_CallN, Mi.x_Meth, Mi.x_Seq, Mi.x_Rng, Mi.x_Rng2, Mi.x_Enum, Mi.x_Zip, Mi.x_Zip3, Mi.x_Ix, Mi.x_Make, Mi.x_Try, Mi.x_TryO, Mi.sq_try, Mi.sq_tryO, Mi.x_setF, Mi.sq_setF, Mi.isD, Mi.tyN, Mi.tyB, Mi.x_pass, Mi.x_asg, Mi.x_do, Mi.x_ret, Mi.x_raise, Mi.x_if, Mi.x_bk, Mi.x_ct, Mi.x_app, Mi.x_setI, Mi.x_setK, Mi.x_pop, Mi.x_isL, Mi.x_tn, Mi.x_t0, Mi.x_st0, Mi.x_st1, Mi.x_rest0, Mi.x_rest1, Mi.x_putn, Mi.x_putt, Mi.x_set0, Mi.x_set1, Mi.x_out0, Mi.x_out1, Mi.truth, Mi.seqOf, Mi.startE, Mi.pE_tup, Mi.wipe0, Mi.wipe1, Option.getD_some, Mi.isBl_ite, Mi.toB_ite, Mi.allD_map, Mi.anyD_map, Mi.filter_tt, -List.mem_map, List.forall_mem_map, -List.map_tail, -List.map_take, -List.map_drop, Mi.take_mp, Mi.drop_mp, Mi.tail_mp, Mi.min_cap, List.length_zip, Mi.zip2_map, Mi.okV_ite, Mi.okB_ite, Mi.getV_ite, Mi.getB_ite, Mi.bind_ite, Mi.out_ite, Mi.lc_s, Mi.lc_sS, Mi.lc_sN, Mi.lc_sM, List.filter_map, List.map_map, Function.comp_def, h]
  refine e_law_pairs rfl ?_
  unfold m_law_pairs
  have c : ∀ n : Nat, n ≤ 20 → n < cap := fun n hn => cap_s (by omega)
  simp (maxDischargeDepth := 7) [List.getElem?_cons_zero, List.getElem?_cons_succ, Mi.bind_out, Mi.bind_bind, Mi.sq_asg, Mi.sq_do, Mi.sq_ret, Mi.sq_raise, Mi.sq_seq, Mi.sq_pass, Mi.sq_if, Mi.sq_app, Mi.sq_setI, Mi.sq_setK, Mi.sq_ct, Mi.sq_bk, Mi.x_V, Mi.x_C, Mi.x_1, Mi.x_2, Mi.x_O2, Mi.x_P0, Mi.x_P1, Mi.x_3, Mi.x_O3, Mi.x_And, Mi.x_Or, Mi.x_Not, Mi.x_If, Mi.x_L0, Mi.x_L1, Mi.x_Tup, Mi.x_Lst, Mi.x_Ch, Mi.x_Call, Mi.x_CallO, Mi.x_CallP, Mi.x_CallN, Mi.x_Meth, Mi.x_Seq, Mi.x_Rng, Mi.x_Rng2, Mi.x_Enum, Mi.x_Zip, Mi.x_Zip3, Mi.x_Ix, Mi.x_Make, Mi.x_Try, Mi.x_TryO, Mi.sq_try, Mi.sq_tryO, Mi.x_setF, Mi.sq_setF, Mi.isD, Mi.tyN, Mi.tyB, Mi.x_pass, Mi.x_asg, Mi.x_do, Mi.x_ret, Mi.x_raise, Mi.x_if, Mi.x_bk, Mi.x_ct, Mi.x_app, Mi.x_setI, Mi.x_setK, Mi.x_pop, Mi.x_isL, Mi.x_tn, Mi.x_t0, Mi.x_st0, Mi.x_st1, Mi.x_rest0, Mi.x_rest1, Mi.x_putn, Mi.x_putt, Mi.x_set0, Mi.x_set1, Mi.x_out0, Mi.x_out1, Mi.truth, Mi.seqOf, Mi.startE, Mi.pE_tup, Mi.wipe0, Mi.wipe1, Option.getD_some, Mi.isBl_ite, Mi.toB_ite, Mi.allD_map, Mi.anyD_map, Mi.filter_tt, -List.mem_map, List.forall_mem_map, -List.map_tail, -List.map_take, -List.map_drop, Mi.take_mp, Mi.drop_mp, Mi.tail_mp, Mi.min_cap, List.length_zip, Mi.zip2_map, Mi.okV_ite, Mi.okB_ite, Mi.getV_ite, Mi.getB_ite, Mi.bind_ite, Mi.out_ite, Mi.lc_s, Mi.lc_sS, Mi.lc_sN, Mi.lc_sM, List.filter_map, List.map_map, Function.comp_def, x_Thunk, wipe0, wipe1, askOf, raised_exc, p1, p2, p3, c]
theorem pairs_2 {y : D} (h0 : f_check_timetable [B, y] = .ok .non []) (h : f_check_timetable [B, x] = .exc "NoTimetable" i) : f_law_pairs [B, y, x] = .ok (.lst (List.replicate 3 i)) [] := by
  have p1 : f_plan [B, y, x] = .exc "NoTimetable" i := by
    refine e_plan rfl ?_
    unfold m_plan
    simp (maxDischargeDepth := 7) [List.getElem?_cons_zero, List.getElem?_cons_succ, Mi.bind_out, Mi.bind_bind, Mi.sq_asg, Mi.sq_do, Mi.sq_ret, Mi.sq_raise, Mi.sq_seq, Mi.sq_pass, Mi.sq_if, Mi.sq_app, Mi.sq_setI, Mi.sq_setK, Mi.sq_ct, Mi.sq_bk, Mi.x_V, Mi.x_C, Mi.x_1, Mi.x_2, Mi.x_O2, Mi.x_P0, Mi.x_P1, Mi.x_3, Mi.x_O3, Mi.x_And, Mi.x_Or, Mi.x_Not, Mi.x_If, Mi.x_L0, Mi.x_L1, Mi.x_Tup, Mi.x_Lst, Mi.x_Ch, Mi.x_Call, Mi.x_CallO, Mi.x_CallP, Mi.x_CallN, Mi.x_Meth, Mi.x_Seq, Mi.x_Rng, Mi.x_Rng2, Mi.x_Enum, Mi.x_Zip, Mi.x_Zip3, Mi.x_Ix, Mi.x_Make, Mi.x_Try, Mi.x_TryO, Mi.sq_try, Mi.sq_tryO, Mi.x_setF, Mi.sq_setF, Mi.isD, Mi.tyN, Mi.tyB, Mi.x_pass, Mi.x_asg, Mi.x_do, Mi.x_ret, Mi.x_raise, Mi.x_if, Mi.x_bk, Mi.x_ct, Mi.x_app, Mi.x_setI, Mi.x_setK, Mi.x_pop, Mi.x_isL, Mi.x_tn, Mi.x_t0, Mi.x_st0, Mi.x_st1, Mi.x_rest0, Mi.x_rest1, Mi.x_putn, Mi.x_putt, Mi.x_set0, Mi.x_set1, Mi.x_out0, Mi.x_out1, Mi.truth, Mi.seqOf, Mi.startE, Mi.pE_tup, Mi.wipe0, Mi.wipe1, Option.getD_some, Mi.isBl_ite, Mi.toB_ite, Mi.allD_map, Mi.anyD_map, Mi.filter_tt, -List.mem_map, List.forall_mem_map, -List.map_tail, -List.map_take, -List.map_drop, Mi.take_mp, Mi.drop_mp, Mi.tail_mp, Mi.min_cap, List.length_zip, Mi.zip2_map, Mi.okV_ite, Mi.okB_ite, Mi.getV_ite, Mi.getB_ite, Mi.bind_ite, Mi.out_ite, Mi.lc_s, Mi.lc_sS, Mi.lc_sN, Mi.lc_sM, List.filter_map, List.map_map, Function.comp_def, h0, h]
  have p2 : f_least [B, y, x] = .exc "NoTimetable" i := by
    refine e_least rfl ?_
    unfold m_least
    simp (maxDischargeDepth := 7) [List.getElem?_cons_zero, List.getElem?_cons_succ, Mi.bind_out, Mi.bind_bind, Mi.sq_asg, Mi.sq_do, Mi.sq_ret, Mi.sq_raise, Mi.sq_seq, Mi.sq_pass, Mi.sq_if, Mi.sq_app, Mi.sq_setI, Mi.sq_setK, Mi.sq_ct, Mi.sq_bk, Mi.x_V, Mi.x_C, Mi.x_1, Mi.x_2, Mi.x_O2, Mi.x_P0, Mi.x_P1, Mi.x_3, Mi.x_O3, Mi.x_And, Mi.x_Or, Mi.x_Not, Mi.x_If, Mi.x_L0, Mi.x_L1, Mi.x_Tup, Mi.x_Lst, Mi.x_Ch, Mi.x_Call, Mi.x_CallO, Mi.x_CallP, Mi.x_CallN, Mi.x_Meth, Mi.x_Seq, Mi.x_Rng, Mi.x_Rng2, Mi.x_Enum, Mi.x_Zip, Mi.x_Zip3, Mi.x_Ix, Mi.x_Make, Mi.x_Try, Mi.x_TryO, Mi.sq_try, Mi.sq_tryO, Mi.x_setF, Mi.sq_setF, Mi.isD, Mi.tyN, Mi.tyB, Mi.x_pass, Mi.x_asg, Mi.x_do, Mi.x_ret, Mi.x_raise, Mi.x_if, Mi.x_bk, Mi.x_ct, Mi.x_app, Mi.x_setI, Mi.x_setK, Mi.x_pop, Mi.x_isL, Mi.x_tn, Mi.x_t0, Mi.x_st0, Mi.x_st1, Mi.x_rest0, Mi.x_rest1, Mi.x_putn, Mi.x_putt, Mi.x_set0, Mi.x_set1, Mi.x_out0, Mi.x_out1, Mi.truth, Mi.seqOf, Mi.startE, Mi.pE_tup, Mi.wipe0, Mi.wipe1, Option.getD_some, Mi.isBl_ite, Mi.toB_ite, Mi.allD_map, Mi.anyD_map, Mi.filter_tt, -List.mem_map, List.forall_mem_map, -List.map_tail, -List.map_take, -List.map_drop, Mi.take_mp, Mi.drop_mp, Mi.tail_mp, Mi.min_cap, List.length_zip, Mi.zip2_map, Mi.okV_ite, Mi.okB_ite, Mi.getV_ite, Mi.getB_ite, Mi.bind_ite, Mi.out_ite, Mi.lc_s, Mi.lc_sS, Mi.lc_sN, Mi.lc_sM, List.filter_map, List.map_map, Function.comp_def, h0, h]
  have p3 : ∀ z, f_check_plan [B, y, x, z] = .exc "NoTimetable" i := fun z => by
    refine e_check_plan rfl ?_
    unfold m_check_plan
    simp (maxDischargeDepth := 7) [List.getElem?_cons_zero, List.getElem?_cons_succ, Mi.bind_out, Mi.bind_bind, Mi.sq_asg, Mi.sq_do, Mi.sq_ret, Mi.sq_raise, Mi.sq_seq, Mi.sq_pass, Mi.sq_if, Mi.sq_app, Mi.sq_setI, Mi.sq_setK, Mi.sq_ct, Mi.sq_bk, Mi.x_V, Mi.x_C, Mi.x_1, Mi.x_2, Mi.x_O2, Mi.x_P0, Mi.x_P1, Mi.x_3, Mi.x_O3, Mi.x_And, Mi.x_Or, Mi.x_Not, Mi.x_If, Mi.x_L0, Mi.x_L1, Mi.x_Tup, Mi.x_Lst, Mi.x_Ch, Mi.x_Call, Mi.x_CallO, Mi.x_CallP, Mi.x_CallN, Mi.x_Meth, Mi.x_Seq, Mi.x_Rng, Mi.x_Rng2, Mi.x_Enum, Mi.x_Zip, Mi.x_Zip3, Mi.x_Ix, Mi.x_Make, Mi.x_Try, Mi.x_TryO, Mi.sq_try, Mi.sq_tryO, Mi.x_setF, Mi.sq_setF, Mi.isD, Mi.tyN, Mi.tyB, Mi.x_pass, Mi.x_asg, Mi.x_do, Mi.x_ret, Mi.x_raise, Mi.x_if, Mi.x_bk, Mi.x_ct, Mi.x_app, Mi.x_setI, Mi.x_setK, Mi.x_pop, Mi.x_isL, Mi.x_tn, Mi.x_t0, Mi.x_st0, Mi.x_st1, Mi.x_rest0, Mi.x_rest1, Mi.x_putn, Mi.x_putt, Mi.x_set0, Mi.x_set1, Mi.x_out0, Mi.x_out1, Mi.truth, Mi.seqOf, Mi.startE, Mi.pE_tup, Mi.wipe0, Mi.wipe1, Option.getD_some, Mi.isBl_ite, Mi.toB_ite, Mi.allD_map, Mi.anyD_map, Mi.filter_tt, -List.mem_map, List.forall_mem_map, -List.map_tail, -List.map_take, -List.map_drop, Mi.take_mp, Mi.drop_mp, Mi.tail_mp, Mi.min_cap, List.length_zip, Mi.zip2_map, Mi.okV_ite, Mi.okB_ite, Mi.getV_ite, Mi.getB_ite, Mi.bind_ite, Mi.out_ite, Mi.lc_s, Mi.lc_sS, Mi.lc_sN, Mi.lc_sM, List.filter_map, List.map_map, Function.comp_def, h0, h]
  refine e_law_pairs rfl ?_
  unfold m_law_pairs
  have c : ∀ n : Nat, n ≤ 20 → n < cap := fun n hn => cap_s (by omega)
  simp (maxDischargeDepth := 7) [List.getElem?_cons_zero, List.getElem?_cons_succ, Mi.bind_out, Mi.bind_bind, Mi.sq_asg, Mi.sq_do, Mi.sq_ret, Mi.sq_raise, Mi.sq_seq, Mi.sq_pass, Mi.sq_if, Mi.sq_app, Mi.sq_setI, Mi.sq_setK, Mi.sq_ct, Mi.sq_bk, Mi.x_V, Mi.x_C, Mi.x_1, Mi.x_2, Mi.x_O2, Mi.x_P0, Mi.x_P1, Mi.x_3, Mi.x_O3, Mi.x_And, Mi.x_Or, Mi.x_Not, Mi.x_If, Mi.x_L0, Mi.x_L1, Mi.x_Tup, Mi.x_Lst, Mi.x_Ch, Mi.x_Call, Mi.x_CallO, Mi.x_CallP, Mi.x_CallN, Mi.x_Meth, Mi.x_Seq, Mi.x_Rng, Mi.x_Rng2, Mi.x_Enum, Mi.x_Zip, Mi.x_Zip3, Mi.x_Ix, Mi.x_Make, Mi.x_Try, Mi.x_TryO, Mi.sq_try, Mi.sq_tryO, Mi.x_setF, Mi.sq_setF, Mi.isD, Mi.tyN, Mi.tyB, Mi.x_pass, Mi.x_asg, Mi.x_do, Mi.x_ret, Mi.x_raise, Mi.x_if, Mi.x_bk, Mi.x_ct, Mi.x_app, Mi.x_setI, Mi.x_setK, Mi.x_pop, Mi.x_isL, Mi.x_tn, Mi.x_t0, Mi.x_st0, Mi.x_st1, Mi.x_rest0, Mi.x_rest1, Mi.x_putn, Mi.x_putt, Mi.x_set0, Mi.x_set1, Mi.x_out0, Mi.x_out1, Mi.truth, Mi.seqOf, Mi.startE, Mi.pE_tup, Mi.wipe0, Mi.wipe1, Option.getD_some, Mi.isBl_ite, Mi.toB_ite, Mi.allD_map, Mi.anyD_map, Mi.filter_tt, -List.mem_map, List.forall_mem_map, -List.map_tail, -List.map_take, -List.map_drop, Mi.take_mp, Mi.drop_mp, Mi.tail_mp, Mi.min_cap, List.length_zip, Mi.zip2_map, Mi.okV_ite, Mi.okB_ite, Mi.getV_ite, Mi.getB_ite, Mi.bind_ite, Mi.out_ite, Mi.lc_s, Mi.lc_sS, Mi.lc_sN, Mi.lc_sM, List.filter_map, List.map_map, Function.comp_def, x_Thunk, wipe0, wipe1, askOf, raised_exc, p1, p2, p3, c]
end
end Mi

end
section
set_option linter.all false
set_option autoImplicit false
set_option maxRecDepth 20000
namespace Mi
open PySem PySem.Spec
theorem eq_intsL (a b : List Int) : eqD (.lst (a.map .int)) (.lst (b.map .int)) = some (.bl (decide (a = b))) ∧ neD (.lst (a.map .int)) (.lst (b.map .int)) = some (.bl (!decide (a = b))) ∧ eqD (.tup (a.map .int)) (.tup (b.map .int)) = some (.bl (decide (a = b))) ∧ neD (.tup (a.map .int)) (.tup (b.map .int)) = some (.bl (!decide (a = b))) := by
  have key : ∀ a b : List Int, PyData.eqvAll (D.pys (a.map D.int)) (D.pys (b.map D.int)) = decide (a = b) := by
    intro a
    induction a with
    | nil => intro b; cases b <;> simp [D.pys, PyData.eqvAll]
    | cons x a ih =>
      intro b
      cases b with
      | nil => simp [D.pys, PyData.eqvAll]
      | cons y b =>
        simp only [List.map_cons, D.pys, PyData.eqvAll, ih b, eqv_int]
        by_cases h1 : x = y <;> by_cases h2 : a = b <;> simp [h1, h2]
  refine ⟨?_, ?_, ?_, ?_⟩
  · unfold eqD; rw [ok_ints, ok_ints]; simp only [D.py, PyData.eqv, key]; rfl
  · unfold neD; rw [ok_ints, ok_ints]; simp only [D.py, PyData.eqv, key]; rfl
  · unfold eqD; rw [ok_intsT, ok_intsT]; simp only [D.py, PyData.eqv, key]; rfl
  · unfold neD; rw [ok_intsT, ok_intsT]; simp only [D.py, PyData.eqv, key]; rfl
theorem ne_bl (b : Bool) : neD (.bl b) (.bl b) = some (.bl false) := by
  unfold neD
  rw [okD_of (d := .bl b) (by simp [D.py, PyData.canLay0]) (by simp [D.py, PyData.depth])]
  cases b <;> simp [D.py, PyData.eqv]
theorem idx3 {a b c : D} {i : Int} (h0 : 0 ≤ i) (h1 : i < 3) : idxD (.lst [a, b, c]) (.int i) = some (if i = 0 then a else if i = 1 then b else c) := by
  have : i = 0 ∨ i = 1 ∨ i = 2 := by omega
  rcases this with rfl | rfl | rfl <;> rfl
theorem ne_rep (k : Nat) (i : Int) : neD (.lst (List.replicate k (.int i))) (.lst (List.replicate k (.int i))) = some (.bl false) := by
  have := (eq_intsL (List.replicate k i) (List.replicate k i)).2.1
  rw [List.map_replicate] at this
  rw [this]
  simp
theorem rep_int (k : Nat) (hk : k ≤ 1000) (d : D) : repD (.lst [d]) (.int (k : Nat)) = some (.lst (List.replicate k d)) := by
  have c := cap_60 (n := k) (by omega)
  have e : (List.replicate k [d]).flatten = List.replicate k d := by
    clear c hk
    induction k with
    | zero => rfl
    | succ k ih => rw [List.replicate_succ, List.flatten_cons, ih]; rfl
  show (if _ then _ else _) = _
  rw [if_pos ⟨by omega, by omega, by simpa using c⟩]
  simp only [Int.toNat_natCast, e]
end Mi

end
section
set_option linter.all false
set_option autoImplicit false
set_option maxRecDepth 20000
namespace Mi
open PySem PySem.Spec
theorem is_due (n : Nat) (al : List (List Int)) (x : D) : Due n al x → ∃ d, f_law_due [.lst (lsD al), x] = .ok d [] ∧ ((d = .non ∧ f_check_timetable [bookD n al, x] = .ok .non []) ∨ ∃ i : Int, d = .int i ∧ f_check_timetable [bookD n al, x] = .exc "NoTimetable" (.int i)) := fun h => by
  rcases h with ⟨h1, h2⟩ | ⟨i, h1, h2⟩
  · exact ⟨_, h1, .inl ⟨rfl, h2⟩⟩
  · exact ⟨_, h1, .inr ⟨i, rfl, h2⟩⟩
theorem right_ok {W : D} (hW : WL W) : ∃ W', f_law_right [W] = .ok (.bl true) [W'] := by
  have ex : ∃ r, (∃ W', r = Fr.ok (.bl true) [W']) ∧ f_law_right [W] = r := by
    refine ⟨_, ?_, rfl⟩
    rw [d_law_right]
    refine fn_run (n := 9) (p := 1) (own := [0]) (b := m_law_right) (Q := fun r => ∃ W', r = Fr.ok (.bl true) [W']) rfl ?_
    unfold m_law_right
    obtain ⟨W2, n, al, tt, hW2, hB, eb⟩ := book_ok hW (most := 10) (by omega) (by omega)
    obtain ⟨h, t⟩ := hB.bk
    have t60 : tt.length ≤ 60 := by have := t.len; have := h.len; omega
    have tsm : Sms 60 (tt.map .int) := sms_ints (fun x hx => by
      obtain ⟨j, hj⟩ := List.getElem?_of_mem hx
      have hj2 := (List.getElem?_eq_some_iff.mp hj).1
      have tl := t.len
      have hj3 : j < al.length := by omega
      have ea : al[j]? = some al[j] := List.getElem?_eq_getElem hj3
      have := h.rng _ (List.mem_of_getElem? ea) x (t.may j _ x ea hj)
      have := h.n60
      omega) t60
    have ed := draw_eq hW2 (m := 4) (by omega) (by omega)
    have d0 := dr_0 W2 4
    have d1 := dr_lt (W := W2) (m := 4) (by omega)
    have W3 := dw_ok W2 4
    generalize dr W2 4 = v at ed d0 d1
    generalize dw W2 4 = V3 at ed W3
    obtain ⟨odd, ei, od, os⟩ : ∃ odd : D, idxD (.lst [.lst (tt.map .int), .non, .dic [], .int 0]) (.int v) = some odd ∧ Due n al odd ∧ Shows odd := by
      have : v = 0 ∨ v = 1 ∨ v = 2 ∨ v = 3 := by omega
      rcases this with rfl | rfl | rfl | rfl
      · exact ⟨_, rfl, due_other rfl, shows_lst tsm (by omega)⟩
      · exact ⟨_, rfl, due_other rfl, shows_small (List.mem_append_left _ (by simp))⟩
      · exact ⟨_, rfl, due_other rfl, shows_empty⟩
      · exact ⟨_, rfl, due_other rfl, shows_small (small_int (by omega) (by omega))⟩
    obtain ⟨W4, ys, hW4, hy, eq4⟩ := bent_ok W3 h.n1 h.n60 tsm
    have bd := due_sms (n := n) h hy
    have bs := shows_tup hy (by omega)
    have ck := chk_ok h t
    have lc : tt.length ≤ cap := cap_60 (by omega)
    simp (maxDischargeDepth := 7) [List.getElem?_cons_zero, List.getElem?_cons_succ, Mi.bind_out, Mi.bind_bind, Mi.sq_asg, Mi.sq_do, Mi.sq_ret, Mi.sq_raise, Mi.sq_seq, Mi.sq_pass, Mi.sq_if, Mi.sq_app, Mi.sq_setI, Mi.sq_setK, Mi.sq_ct, Mi.sq_bk, Mi.x_V, Mi.x_C, Mi.x_1, Mi.x_2, Mi.x_O2, Mi.x_P0, Mi.x_P1, Mi.x_3, Mi.x_O3, Mi.x_And, Mi.x_Or, Mi.x_Not, Mi.x_If, Mi.x_L0, Mi.x_L1, Mi.x_Tup, Mi.x_Lst, Mi.x_Ch, Mi.x_Call, Mi.x_CallO, Mi.x_CallP, Mi.x_CallN, Mi.x_Meth, Mi.x_Seq, Mi.x_Rng, Mi.x_Rng2, Mi.x_Enum, Mi.x_Zip, Mi.x_Zip3, Mi.x_Ix, Mi.x_Make, Mi.x_Try, Mi.x_TryO, Mi.sq_try, Mi.sq_tryO, Mi.x_setF, Mi.sq_setF, Mi.isD, Mi.tyN, Mi.tyB, Mi.x_pass, Mi.x_asg, Mi.x_do, Mi.x_ret, Mi.x_raise, Mi.x_if, Mi.x_bk, Mi.x_ct, Mi.x_app, Mi.x_setI, Mi.x_setK, Mi.x_pop, Mi.x_isL, Mi.x_tn, Mi.x_t0, Mi.x_st0, Mi.x_st1, Mi.x_rest0, Mi.x_rest1, Mi.x_putn, Mi.x_putt, Mi.x_set0, Mi.x_set1, Mi.x_out0, Mi.x_out1, Mi.truth, Mi.seqOf, Mi.startE, Mi.pE_tup, Mi.wipe0, Mi.wipe1, Option.getD_some, Mi.isBl_ite, Mi.toB_ite, Mi.allD_map, Mi.anyD_map, Mi.filter_tt, -List.mem_map, List.forall_mem_map, -List.map_tail, -List.map_take, -List.map_drop, Mi.take_mp, Mi.drop_mp, Mi.tail_mp, Mi.min_cap, List.length_zip, Mi.zip2_map, Mi.okV_ite, Mi.okB_ite, Mi.getV_ite, Mi.getB_ite, Mi.bind_ite, Mi.out_ite, Mi.lc_s, Mi.lc_sS, Mi.lc_sN, Mi.lc_sM, List.filter_map, List.map_map, Function.comp_def, eb, init_ok h, listD, ed, ei]
    refine q_for (as := [D.tup ys, odd]) (f := fun _ d => d) (ds := [D.tup ys, odd]) (by simp (maxDischargeDepth := 7) [List.getElem?_cons_zero, List.getElem?_cons_succ, Mi.bind_out, Mi.bind_bind, Mi.sq_asg, Mi.sq_do, Mi.sq_ret, Mi.sq_raise, Mi.sq_seq, Mi.sq_pass, Mi.sq_if, Mi.sq_app, Mi.sq_setI, Mi.sq_setK, Mi.sq_ct, Mi.sq_bk, Mi.x_V, Mi.x_C, Mi.x_1, Mi.x_2, Mi.x_O2, Mi.x_P0, Mi.x_P1, Mi.x_3, Mi.x_O3, Mi.x_And, Mi.x_Or, Mi.x_Not, Mi.x_If, Mi.x_L0, Mi.x_L1, Mi.x_Tup, Mi.x_Lst, Mi.x_Ch, Mi.x_Call, Mi.x_CallO, Mi.x_CallP, Mi.x_CallN, Mi.x_Meth, Mi.x_Seq, Mi.x_Rng, Mi.x_Rng2, Mi.x_Enum, Mi.x_Zip, Mi.x_Zip3, Mi.x_Ix, Mi.x_Make, Mi.x_Try, Mi.x_TryO, Mi.sq_try, Mi.sq_tryO, Mi.x_setF, Mi.sq_setF, Mi.isD, Mi.tyN, Mi.tyB, Mi.x_pass, Mi.x_asg, Mi.x_do, Mi.x_ret, Mi.x_raise, Mi.x_if, Mi.x_bk, Mi.x_ct, Mi.x_app, Mi.x_setI, Mi.x_setK, Mi.x_pop, Mi.x_isL, Mi.x_tn, Mi.x_t0, Mi.x_st0, Mi.x_st1, Mi.x_rest0, Mi.x_rest1, Mi.x_putn, Mi.x_putt, Mi.x_set0, Mi.x_set1, Mi.x_out0, Mi.x_out1, Mi.truth, Mi.seqOf, Mi.startE, Mi.pE_tup, Mi.wipe0, Mi.wipe1, Option.getD_some, Mi.isBl_ite, Mi.toB_ite, Mi.allD_map, Mi.anyD_map, Mi.filter_tt, -List.mem_map, List.forall_mem_map, -List.map_tail, -List.map_take, -List.map_drop, Mi.take_mp, Mi.drop_mp, Mi.tail_mp, Mi.min_cap, List.length_zip, Mi.zip2_map, Mi.okV_ite, Mi.okB_ite, Mi.getV_ite, Mi.getB_ite, Mi.bind_ite, Mi.out_ite, Mi.lc_s, Mi.lc_sS, Mi.lc_sN, Mi.lc_sM, List.filter_map, List.map_map, Function.comp_def, eq4]; rfl) ⟨rfl, fun _ _ h => h⟩ (fun δ0 i δ => ∃ x6 x7 x8, δ = stE δ0 [(6, x6), (7, x7), (8, x8)]) ⟨none, none, none, by simp (maxDischargeDepth := 7) [List.getElem?_cons_zero, List.getElem?_cons_succ, Mi.bind_out, Mi.bind_bind, Mi.sq_asg, Mi.sq_do, Mi.sq_ret, Mi.sq_raise, Mi.sq_seq, Mi.sq_pass, Mi.sq_if, Mi.sq_app, Mi.sq_setI, Mi.sq_setK, Mi.sq_ct, Mi.sq_bk, Mi.x_V, Mi.x_C, Mi.x_1, Mi.x_2, Mi.x_O2, Mi.x_P0, Mi.x_P1, Mi.x_3, Mi.x_O3, Mi.x_And, Mi.x_Or, Mi.x_Not, Mi.x_If, Mi.x_L0, Mi.x_L1, Mi.x_Tup, Mi.x_Lst, Mi.x_Ch, Mi.x_Call, Mi.x_CallO, Mi.x_CallP, Mi.x_CallN, Mi.x_Meth, Mi.x_Seq, Mi.x_Rng, Mi.x_Rng2, Mi.x_Enum, Mi.x_Zip, Mi.x_Zip3, Mi.x_Ix, Mi.x_Make, Mi.x_Try, Mi.x_TryO, Mi.sq_try, Mi.sq_tryO, Mi.x_setF, Mi.sq_setF, Mi.isD, Mi.tyN, Mi.tyB, Mi.x_pass, Mi.x_asg, Mi.x_do, Mi.x_ret, Mi.x_raise, Mi.x_if, Mi.x_bk, Mi.x_ct, Mi.x_app, Mi.x_setI, Mi.x_setK, Mi.x_pop, Mi.x_isL, Mi.x_tn, Mi.x_t0, Mi.x_st0, Mi.x_st1, Mi.x_rest0, Mi.x_rest1, Mi.x_putn, Mi.x_putt, Mi.x_set0, Mi.x_set1, Mi.x_out0, Mi.x_out1, Mi.truth, Mi.seqOf, Mi.startE, Mi.pE_tup, Mi.wipe0, Mi.wipe1, Option.getD_some, Mi.isBl_ite, Mi.toB_ite, Mi.allD_map, Mi.anyD_map, Mi.filter_tt, -List.mem_map, List.forall_mem_map, -List.map_tail, -List.map_take, -List.map_drop, Mi.take_mp, Mi.drop_mp, Mi.tail_mp, Mi.min_cap, List.length_zip, Mi.zip2_map, Mi.okV_ite, Mi.okB_ite, Mi.getV_ite, Mi.getB_ite, Mi.bind_ite, Mi.out_ite, Mi.lc_s, Mi.lc_sS, Mi.lc_sN, Mi.lc_sM, List.filter_map, List.map_map, Function.comp_def]⟩ ?_ ?_
    · rintro i x δ hi ⟨x6, x7, x8, rfl⟩
      obtain ⟨dx, sx⟩ : Due n al x ∧ Shows x := by
        have hm := List.mem_of_getElem? hi
        simp only [List.mem_cons, List.not_mem_nil, or_false] at hm
        rcases hm with rfl | rfl
        · exact ⟨bd, bs⟩
        · exact ⟨od, os⟩
      obtain ⟨s, r1, r2⟩ := sx
      obtain ⟨d, q1, q2⟩ := is_due n al x dx
      rcases q2 with ⟨rfl, q3⟩ | ⟨j, rfl, q3⟩
      · have nn : nisND .non .non = some (.bl false) := rfl
        simp (maxDischargeDepth := 7) [List.getElem?_cons_zero, List.getElem?_cons_succ, Mi.bind_out, Mi.bind_bind, Mi.sq_asg, Mi.sq_do, Mi.sq_ret, Mi.sq_raise, Mi.sq_seq, Mi.sq_pass, Mi.sq_if, Mi.sq_app, Mi.sq_setI, Mi.sq_setK, Mi.sq_ct, Mi.sq_bk, Mi.x_V, Mi.x_C, Mi.x_1, Mi.x_2, Mi.x_O2, Mi.x_P0, Mi.x_P1, Mi.x_3, Mi.x_O3, Mi.x_And, Mi.x_Or, Mi.x_Not, Mi.x_If, Mi.x_L0, Mi.x_L1, Mi.x_Tup, Mi.x_Lst, Mi.x_Ch, Mi.x_Call, Mi.x_CallO, Mi.x_CallP, Mi.x_CallN, Mi.x_Meth, Mi.x_Seq, Mi.x_Rng, Mi.x_Rng2, Mi.x_Enum, Mi.x_Zip, Mi.x_Zip3, Mi.x_Ix, Mi.x_Make, Mi.x_Try, Mi.x_TryO, Mi.sq_try, Mi.sq_tryO, Mi.x_setF, Mi.sq_setF, Mi.isD, Mi.tyN, Mi.tyB, Mi.x_pass, Mi.x_asg, Mi.x_do, Mi.x_ret, Mi.x_raise, Mi.x_if, Mi.x_bk, Mi.x_ct, Mi.x_app, Mi.x_setI, Mi.x_setK, Mi.x_pop, Mi.x_isL, Mi.x_tn, Mi.x_t0, Mi.x_st0, Mi.x_st1, Mi.x_rest0, Mi.x_rest1, Mi.x_putn, Mi.x_putt, Mi.x_set0, Mi.x_set1, Mi.x_out0, Mi.x_out1, Mi.truth, Mi.seqOf, Mi.startE, Mi.pE_tup, Mi.wipe0, Mi.wipe1, Option.getD_some, Mi.isBl_ite, Mi.toB_ite, Mi.allD_map, Mi.anyD_map, Mi.filter_tt, -List.mem_map, List.forall_mem_map, -List.map_tail, -List.map_take, -List.map_drop, Mi.take_mp, Mi.drop_mp, Mi.tail_mp, Mi.min_cap, List.length_zip, Mi.zip2_map, Mi.okV_ite, Mi.okB_ite, Mi.getV_ite, Mi.getB_ite, Mi.bind_ite, Mi.out_ite, Mi.lc_s, Mi.lc_sS, Mi.lc_sN, Mi.lc_sM, List.filter_map, List.map_map, Function.comp_def, q1, r1, nn]
        exact hd ⟨_, _, _, rfl⟩
      · have n9 : repD (.lst [.int j]) (.int 9) = some (.lst (List.replicate 9 (.int j))) := rep_int 9 (by omega) (.int j)
        have n13 : repD (.lst [.int j]) (.int 13) = some (.lst (List.replicate 13 (.int j))) := rep_int 13 (by omega) (.int j)
        have n3 : repD (.lst [.int j]) (.int 3) = some (.lst (List.replicate 3 (.int j))) := rep_int 3 (by omega) (.int j)
        have p9 := ne_rep 9 j
        have p13 := ne_rep 13 j
        have p3 := ne_rep 3 j
        simp only [List.replicate] at n9 n13 n3 p9 p13 p3
        have e9 := doors_ok q3
        have e13 := later_ok q3
        have e3 := pairs_1 q3 (.str "x")
        have e3' := pairs_2 ck q3
        simp only [List.replicate] at e9 e13 e3 e3'
        have nn : nisND (.int j) .non = some (.bl true) := rfl
        simp (maxDischargeDepth := 7) [List.getElem?_cons_zero, List.getElem?_cons_succ, Mi.bind_out, Mi.bind_bind, Mi.sq_asg, Mi.sq_do, Mi.sq_ret, Mi.sq_raise, Mi.sq_seq, Mi.sq_pass, Mi.sq_if, Mi.sq_app, Mi.sq_setI, Mi.sq_setK, Mi.sq_ct, Mi.sq_bk, Mi.x_V, Mi.x_C, Mi.x_1, Mi.x_2, Mi.x_O2, Mi.x_P0, Mi.x_P1, Mi.x_3, Mi.x_O3, Mi.x_And, Mi.x_Or, Mi.x_Not, Mi.x_If, Mi.x_L0, Mi.x_L1, Mi.x_Tup, Mi.x_Lst, Mi.x_Ch, Mi.x_Call, Mi.x_CallO, Mi.x_CallP, Mi.x_CallN, Mi.x_Meth, Mi.x_Seq, Mi.x_Rng, Mi.x_Rng2, Mi.x_Enum, Mi.x_Zip, Mi.x_Zip3, Mi.x_Ix, Mi.x_Make, Mi.x_Try, Mi.x_TryO, Mi.sq_try, Mi.sq_tryO, Mi.x_setF, Mi.sq_setF, Mi.isD, Mi.tyN, Mi.tyB, Mi.x_pass, Mi.x_asg, Mi.x_do, Mi.x_ret, Mi.x_raise, Mi.x_if, Mi.x_bk, Mi.x_ct, Mi.x_app, Mi.x_setI, Mi.x_setK, Mi.x_pop, Mi.x_isL, Mi.x_tn, Mi.x_t0, Mi.x_st0, Mi.x_st1, Mi.x_rest0, Mi.x_rest1, Mi.x_putn, Mi.x_putt, Mi.x_set0, Mi.x_set1, Mi.x_out0, Mi.x_out1, Mi.truth, Mi.seqOf, Mi.startE, Mi.pE_tup, Mi.wipe0, Mi.wipe1, Option.getD_some, Mi.isBl_ite, Mi.toB_ite, Mi.allD_map, Mi.anyD_map, Mi.filter_tt, -List.mem_map, List.forall_mem_map, -List.map_tail, -List.map_take, -List.map_drop, Mi.take_mp, Mi.drop_mp, Mi.tail_mp, Mi.min_cap, List.length_zip, Mi.zip2_map, Mi.okV_ite, Mi.okB_ite, Mi.getV_ite, Mi.getB_ite, Mi.bind_ite, Mi.out_ite, Mi.lc_s, Mi.lc_sS, Mi.lc_sN, Mi.lc_sM, List.filter_map, List.map_map, Function.comp_def, q1, r1, nn, e9, e13, e3, e3', r2, n9, n13, n3, p9, p13, p3]
        exact hd ⟨_, _, _, rfl⟩
    · rintro δ ⟨x6, x7, x8, rfl⟩
      simp (maxDischargeDepth := 7) [List.getElem?_cons_zero, List.getElem?_cons_succ, Mi.bind_out, Mi.bind_bind, Mi.sq_asg, Mi.sq_do, Mi.sq_ret, Mi.sq_raise, Mi.sq_seq, Mi.sq_pass, Mi.sq_if, Mi.sq_app, Mi.sq_setI, Mi.sq_setK, Mi.sq_ct, Mi.sq_bk, Mi.x_V, Mi.x_C, Mi.x_1, Mi.x_2, Mi.x_O2, Mi.x_P0, Mi.x_P1, Mi.x_3, Mi.x_O3, Mi.x_And, Mi.x_Or, Mi.x_Not, Mi.x_If, Mi.x_L0, Mi.x_L1, Mi.x_Tup, Mi.x_Lst, Mi.x_Ch, Mi.x_Call, Mi.x_CallO, Mi.x_CallP, Mi.x_CallN, Mi.x_Meth, Mi.x_Seq, Mi.x_Rng, Mi.x_Rng2, Mi.x_Enum, Mi.x_Zip, Mi.x_Zip3, Mi.x_Ix, Mi.x_Make, Mi.x_Try, Mi.x_TryO, Mi.sq_try, Mi.sq_tryO, Mi.x_setF, Mi.sq_setF, Mi.isD, Mi.tyN, Mi.tyB, Mi.x_pass, Mi.x_asg, Mi.x_do, Mi.x_ret, Mi.x_raise, Mi.x_if, Mi.x_bk, Mi.x_ct, Mi.x_app, Mi.x_setI, Mi.x_setK, Mi.x_pop, Mi.x_isL, Mi.x_tn, Mi.x_t0, Mi.x_st0, Mi.x_st1, Mi.x_rest0, Mi.x_rest1, Mi.x_putn, Mi.x_putt, Mi.x_set0, Mi.x_set1, Mi.x_out0, Mi.x_out1, Mi.truth, Mi.seqOf, Mi.startE, Mi.pE_tup, Mi.wipe0, Mi.wipe1, Option.getD_some, Mi.isBl_ite, Mi.toB_ite, Mi.allD_map, Mi.anyD_map, Mi.filter_tt, -List.mem_map, List.forall_mem_map, -List.map_tail, -List.map_take, -List.map_drop, Mi.take_mp, Mi.drop_mp, Mi.tail_mp, Mi.min_cap, List.length_zip, Mi.zip2_map, Mi.okV_ite, Mi.okB_ite, Mi.getV_ite, Mi.getB_ite, Mi.bind_ite, Mi.out_ite, Mi.lc_s, Mi.lc_sS, Mi.lc_sN, Mi.lc_sM, List.filter_map, List.map_map, Function.comp_def]
  obtain ⟨r, ⟨W', rfl⟩, e⟩ := ex
  exact ⟨W', e⟩
end Mi

end
section
set_option linter.all false
set_option autoImplicit false
set_option maxRecDepth 20000
namespace Mi
open PySem PySem.Spec
theorem cell_ok (c : Int) : ∃ a : Int, (∀ δ : Env, (if 1000000000000000000 ≤ c then (1 : Int) else 0) = a) ∧ (a = 0 ∨ a = 1) := by
  by_cases h : 1000000000000000000 ≤ c
  · exact ⟨1, fun _ => if_pos h, .inr rfl⟩
  · exact ⟨0, fun _ => if_neg h, .inl rfl⟩
theorem law_true : ∀ ns : List Int, ns.length ≤ 63 → f_law [.lst (ns.map .int)] = .ok (.bl true) [] := by
  intro ns hl
  refine e_law rfl ?_
  unfold m_law
  have c1 : ns.length + 1 ≤ cap := cap_60 (by omega)
  have c2 : cutD (ns.map D.int ++ [.int 0]) none (some 6) = ((ns ++ [0]).take 6).map .int := by rw [slice_take (by omega), List.map_take, List.map_append]; rfl
  refine q_for (as := (ns ++ [0]).take 6) (f := fun i k => .tup [.int i, .int k]) (ds := enumD 0 (((ns ++ [0]).take 6).map .int)) (by simp (maxDischargeDepth := 7) [List.getElem?_cons_zero, List.getElem?_cons_succ, Mi.bind_out, Mi.bind_bind, Mi.sq_asg, Mi.sq_do, Mi.sq_ret, Mi.sq_raise, Mi.sq_seq, Mi.sq_pass, Mi.sq_if, Mi.sq_app, Mi.sq_setI, Mi.sq_setK, Mi.sq_ct, Mi.sq_bk, Mi.x_V, Mi.x_C, Mi.x_1, Mi.x_2, Mi.x_O2, Mi.x_P0, Mi.x_P1, Mi.x_3, Mi.x_O3, Mi.x_And, Mi.x_Or, Mi.x_Not, Mi.x_If, Mi.x_L0, Mi.x_L1, Mi.x_Tup, Mi.x_Lst, Mi.x_Ch, Mi.x_Call, Mi.x_CallO, Mi.x_CallP, Mi.x_CallN, Mi.x_Meth, Mi.x_Seq, Mi.x_Rng, Mi.x_Rng2, Mi.x_Enum, Mi.x_Zip, Mi.x_Zip3, Mi.x_Ix, Mi.x_Make, Mi.x_Try, Mi.x_TryO, Mi.sq_try, Mi.sq_tryO, Mi.x_setF, Mi.sq_setF, Mi.isD, Mi.tyN, Mi.tyB, Mi.x_pass, Mi.x_asg, Mi.x_do, Mi.x_ret, Mi.x_raise, Mi.x_if, Mi.x_bk, Mi.x_ct, Mi.x_app, Mi.x_setI, Mi.x_setK, Mi.x_pop, Mi.x_isL, Mi.x_tn, Mi.x_t0, Mi.x_st0, Mi.x_st1, Mi.x_rest0, Mi.x_rest1, Mi.x_putn, Mi.x_putt, Mi.x_set0, Mi.x_set1, Mi.x_out0, Mi.x_out1, Mi.truth, Mi.seqOf, Mi.startE, Mi.pE_tup, Mi.wipe0, Mi.wipe1, Option.getD_some, Mi.isBl_ite, Mi.toB_ite, Mi.allD_map, Mi.anyD_map, Mi.filter_tt, -List.mem_map, List.forall_mem_map, -List.map_tail, -List.map_take, -List.map_drop, Mi.take_mp, Mi.drop_mp, Mi.tail_mp, Mi.min_cap, List.length_zip, Mi.zip2_map, Mi.okV_ite, Mi.okB_ite, Mi.getV_ite, Mi.getB_ite, Mi.bind_ite, Mi.out_ite, Mi.lc_s, Mi.lc_sS, Mi.lc_sN, Mi.lc_sM, List.filter_map, List.map_map, Function.comp_def, addD, c1, slD, c2]; rfl) its_enum (fun δ0 i δ => ∃ x1 x2 : Option D, δ = stE δ0 [(1, x1), (2, x2)]) ⟨none, none, rfl⟩ ?_ ?_
  · rintro i c δ hc ⟨x1, x2, rfl⟩
    have p1 : powD (.int 10) (.int 18) = some (.int 1000000000000000000) := rfl
    by_cases h : (1000000000000000000 : Int) ≤ c
    · obtain ⟨W', hw⟩ := right_ok (W := .lst [.int c, .int (c % 2147483647 + 7919 * (i : Nat)), .int 0]) ⟨_, _, _, rfl⟩
      have m1 : mulD (.int c) (.int 1) = some (.int c) := by simp [mulD]
      have m2 : modD (.int c) (.int 2147483647) = some (.int (c % 2147483647)) := by simp [modD]
      have m3 : mulD (.int 7919) (.int (i : Nat)) = some (.int (7919 * (i : Nat))) := by simp [mulD]
      have m4 : addD (.int (c % 2147483647)) (.int (7919 * (i : Nat))) = some (.int (c % 2147483647 + 7919 * (i : Nat))) := rfl
      have g1 : geD (.int c) (.int 1000000000000000000) = some (.bl true) := by simp [cmpD, h]
      have i1 : intD (.bl true) = some (.int 1) := rfl
      simp (maxDischargeDepth := 7) [List.getElem?_cons_zero, List.getElem?_cons_succ, Mi.bind_out, Mi.bind_bind, Mi.sq_asg, Mi.sq_do, Mi.sq_ret, Mi.sq_raise, Mi.sq_seq, Mi.sq_pass, Mi.sq_if, Mi.sq_app, Mi.sq_setI, Mi.sq_setK, Mi.sq_ct, Mi.sq_bk, Mi.x_V, Mi.x_C, Mi.x_1, Mi.x_2, Mi.x_O2, Mi.x_P0, Mi.x_P1, Mi.x_3, Mi.x_O3, Mi.x_And, Mi.x_Or, Mi.x_Not, Mi.x_If, Mi.x_L0, Mi.x_L1, Mi.x_Tup, Mi.x_Lst, Mi.x_Ch, Mi.x_Call, Mi.x_CallO, Mi.x_CallP, Mi.x_CallN, Mi.x_Meth, Mi.x_Seq, Mi.x_Rng, Mi.x_Rng2, Mi.x_Enum, Mi.x_Zip, Mi.x_Zip3, Mi.x_Ix, Mi.x_Make, Mi.x_Try, Mi.x_TryO, Mi.sq_try, Mi.sq_tryO, Mi.x_setF, Mi.sq_setF, Mi.isD, Mi.tyN, Mi.tyB, Mi.x_pass, Mi.x_asg, Mi.x_do, Mi.x_ret, Mi.x_raise, Mi.x_if, Mi.x_bk, Mi.x_ct, Mi.x_app, Mi.x_setI, Mi.x_setK, Mi.x_pop, Mi.x_isL, Mi.x_tn, Mi.x_t0, Mi.x_st0, Mi.x_st1, Mi.x_rest0, Mi.x_rest1, Mi.x_putn, Mi.x_putt, Mi.x_set0, Mi.x_set1, Mi.x_out0, Mi.x_out1, Mi.truth, Mi.seqOf, Mi.startE, Mi.pE_tup, Mi.wipe0, Mi.wipe1, Option.getD_some, Mi.isBl_ite, Mi.toB_ite, Mi.allD_map, Mi.anyD_map, Mi.filter_tt, -List.mem_map, List.forall_mem_map, -List.map_tail, -List.map_take, -List.map_drop, Mi.take_mp, Mi.drop_mp, Mi.tail_mp, Mi.min_cap, List.length_zip, Mi.zip2_map, Mi.okV_ite, Mi.okB_ite, Mi.getV_ite, Mi.getB_ite, Mi.bind_ite, Mi.out_ite, Mi.lc_s, Mi.lc_sS, Mi.lc_sN, Mi.lc_sM, List.filter_map, List.map_map, Function.comp_def, p1, g1, i1, m1, m2, m3, m4, hw]
      exact hd ⟨_, _, rfl⟩
    · obtain ⟨W', hw⟩ := right_ok (W := .lst [.int 0, .int (c % 2147483647 + 7919 * (i : Nat)), .int 0]) ⟨_, _, _, rfl⟩
      have m1 : mulD (.int c) (.int 0) = some (.int 0) := by simp [mulD]
      have m2 : modD (.int c) (.int 2147483647) = some (.int (c % 2147483647)) := by simp [modD]
      have m3 : mulD (.int 7919) (.int (i : Nat)) = some (.int (7919 * (i : Nat))) := by simp [mulD]
      have m4 : addD (.int (c % 2147483647)) (.int (7919 * (i : Nat))) = some (.int (c % 2147483647 + 7919 * (i : Nat))) := rfl
      have g1 : geD (.int c) (.int 1000000000000000000) = some (.bl false) := by simp [cmpD, h]
      have i1 : intD (.bl false) = some (.int 0) := rfl
      simp (maxDischargeDepth := 7) [List.getElem?_cons_zero, List.getElem?_cons_succ, Mi.bind_out, Mi.bind_bind, Mi.sq_asg, Mi.sq_do, Mi.sq_ret, Mi.sq_raise, Mi.sq_seq, Mi.sq_pass, Mi.sq_if, Mi.sq_app, Mi.sq_setI, Mi.sq_setK, Mi.sq_ct, Mi.sq_bk, Mi.x_V, Mi.x_C, Mi.x_1, Mi.x_2, Mi.x_O2, Mi.x_P0, Mi.x_P1, Mi.x_3, Mi.x_O3, Mi.x_And, Mi.x_Or, Mi.x_Not, Mi.x_If, Mi.x_L0, Mi.x_L1, Mi.x_Tup, Mi.x_Lst, Mi.x_Ch, Mi.x_Call, Mi.x_CallO, Mi.x_CallP, Mi.x_CallN, Mi.x_Meth, Mi.x_Seq, Mi.x_Rng, Mi.x_Rng2, Mi.x_Enum, Mi.x_Zip, Mi.x_Zip3, Mi.x_Ix, Mi.x_Make, Mi.x_Try, Mi.x_TryO, Mi.sq_try, Mi.sq_tryO, Mi.x_setF, Mi.sq_setF, Mi.isD, Mi.tyN, Mi.tyB, Mi.x_pass, Mi.x_asg, Mi.x_do, Mi.x_ret, Mi.x_raise, Mi.x_if, Mi.x_bk, Mi.x_ct, Mi.x_app, Mi.x_setI, Mi.x_setK, Mi.x_pop, Mi.x_isL, Mi.x_tn, Mi.x_t0, Mi.x_st0, Mi.x_st1, Mi.x_rest0, Mi.x_rest1, Mi.x_putn, Mi.x_putt, Mi.x_set0, Mi.x_set1, Mi.x_out0, Mi.x_out1, Mi.truth, Mi.seqOf, Mi.startE, Mi.pE_tup, Mi.wipe0, Mi.wipe1, Option.getD_some, Mi.isBl_ite, Mi.toB_ite, Mi.allD_map, Mi.anyD_map, Mi.filter_tt, -List.mem_map, List.forall_mem_map, -List.map_tail, -List.map_take, -List.map_drop, Mi.take_mp, Mi.drop_mp, Mi.tail_mp, Mi.min_cap, List.length_zip, Mi.zip2_map, Mi.okV_ite, Mi.okB_ite, Mi.getV_ite, Mi.getB_ite, Mi.bind_ite, Mi.out_ite, Mi.lc_s, Mi.lc_sS, Mi.lc_sN, Mi.lc_sM, List.filter_map, List.map_map, Function.comp_def, p1, g1, i1, m1, m2, m3, m4, hw]
      exact hd ⟨_, _, rfl⟩
  · rintro δ ⟨x1, x2, rfl⟩
    simp (maxDischargeDepth := 7) [List.getElem?_cons_zero, List.getElem?_cons_succ, Mi.bind_out, Mi.bind_bind, Mi.sq_asg, Mi.sq_do, Mi.sq_ret, Mi.sq_raise, Mi.sq_seq, Mi.sq_pass, Mi.sq_if, Mi.sq_app, Mi.sq_setI, Mi.sq_setK, Mi.sq_ct, Mi.sq_bk, Mi.x_V, Mi.x_C, Mi.x_1, Mi.x_2, Mi.x_O2, Mi.x_P0, Mi.x_P1, Mi.x_3, Mi.x_O3, Mi.x_And, Mi.x_Or, Mi.x_Not, Mi.x_If, Mi.x_L0, Mi.x_L1, Mi.x_Tup, Mi.x_Lst, Mi.x_Ch, Mi.x_Call, Mi.x_CallO, Mi.x_CallP, Mi.x_CallN, Mi.x_Meth, Mi.x_Seq, Mi.x_Rng, Mi.x_Rng2, Mi.x_Enum, Mi.x_Zip, Mi.x_Zip3, Mi.x_Ix, Mi.x_Make, Mi.x_Try, Mi.x_TryO, Mi.sq_try, Mi.sq_tryO, Mi.x_setF, Mi.sq_setF, Mi.isD, Mi.tyN, Mi.tyB, Mi.x_pass, Mi.x_asg, Mi.x_do, Mi.x_ret, Mi.x_raise, Mi.x_if, Mi.x_bk, Mi.x_ct, Mi.x_app, Mi.x_setI, Mi.x_setK, Mi.x_pop, Mi.x_isL, Mi.x_tn, Mi.x_t0, Mi.x_st0, Mi.x_st1, Mi.x_rest0, Mi.x_rest1, Mi.x_putn, Mi.x_putt, Mi.x_set0, Mi.x_set1, Mi.x_out0, Mi.x_out1, Mi.truth, Mi.seqOf, Mi.startE, Mi.pE_tup, Mi.wipe0, Mi.wipe1, Option.getD_some, Mi.isBl_ite, Mi.toB_ite, Mi.allD_map, Mi.anyD_map, Mi.filter_tt, -List.mem_map, List.forall_mem_map, -List.map_tail, -List.map_take, -List.map_drop, Mi.take_mp, Mi.drop_mp, Mi.tail_mp, Mi.min_cap, List.length_zip, Mi.zip2_map, Mi.okV_ite, Mi.okB_ite, Mi.getV_ite, Mi.getB_ite, Mi.bind_ite, Mi.out_ite, Mi.lc_s, Mi.lc_sS, Mi.lc_sN, Mi.lc_sM, List.filter_map, List.map_map, Function.comp_def]
end Mi

end
section
set_option Elab.async false
set_option linter.all false
set_option maxRecDepth 100000
set_option autoImplicit false
set_option maxHeartbeats 4000000
namespace Mi
open PySem PySem.Spec PyProof.Rows L2
/-! ### the end -/
def lamNames : List Str := [(("_law_pairs" : Str) ++ ".<locals>.") ++ "<lambda>", (("_law_later_doors" : Str) ++ ".<locals>.") ++ "<lambda>", (("_law_doors" : Str) ++ ".<locals>.") ++ "<lambda>"]
theorem all_mk {P prog : Program} {w : World} {K : PySem.W.Frag} {h : Heap} {mg : Str → Option Value} {fa : Addr} (X : K.In h) (G : h.Ns mainGlobals mg) (hfa : mg "law" = some (.ref fa)) (top : TopT prog K mg h)
    {C_SlotError : Addr}
    {C_NoBook : Addr}
    {C_NoTimetable : Addr}
    {C_Book : Addr}
    {g_law_draw : Addr} {oc_law_draw kV_law_draw dc_law_draw pm_law_draw cd_law_draw ct_law_draw : Value} {od_law_draw an_law_draw : Option Addr} {sl_law_draw : Array (Option Value)}
    {g_NoTimetable_init : Addr} {oc_NoTimetable_init kV_NoTimetable_init dc_NoTimetable_init pm_NoTimetable_init cd_NoTimetable_init ct_NoTimetable_init : Value} {od_NoTimetable_init an_NoTimetable_init : Option Addr} {sl_NoTimetable_init : Array (Option Value)}
    {g_is_int : Addr} {oc_is_int kV_is_int dc_is_int pm_is_int cd_is_int ct_is_int : Value} {od_is_int an_is_int : Option Addr} {sl_is_int : Array (Option Value)}
    {g_Book_len : Addr} {oc_Book_len kV_Book_len dc_Book_len pm_Book_len cd_Book_len ct_Book_len : Value} {od_Book_len an_Book_len : Option Addr} {sl_Book_len : Array (Option Value)}
    {g_law_raised : Addr} {oc_law_raised kV_law_raised dc_law_raised pm_law_raised cd_law_raised ct_law_raised : Value} {od_law_raised an_law_raised : Option Addr} {sl_law_raised : Array (Option Value)}
    {g_NoBook_init : Addr} {oc_NoBook_init kV_NoBook_init dc_NoBook_init pm_NoBook_init cd_NoBook_init ct_NoBook_init : Value} {od_NoBook_init an_NoBook_init : Option Addr} {sl_NoBook_init : Array (Option Value)}
    {g_law_due : Addr} {oc_law_due kV_law_due dc_law_due pm_law_due cd_law_due ct_law_due : Value} {od_law_due an_law_due : Option Addr} {sl_law_due : Array (Option Value)}
    {g_is_slot_list : Addr} {oc_is_slot_list kV_is_slot_list dc_is_slot_list pm_is_slot_list cd_is_slot_list ct_is_slot_list : Value} {od_is_slot_list an_is_slot_list : Option Addr} {sl_is_slot_list : Array (Option Value)}
    {g_law_book : Addr} {oc_law_book kV_law_book dc_law_book pm_law_book cd_law_book ct_law_book : Value} {od_law_book an_law_book : Option Addr} {sl_law_book : Array (Option Value)}
    {g_law_bent : Addr} {oc_law_bent kV_law_bent dc_law_bent pm_law_bent cd_law_bent ct_law_bent : Value} {od_law_bent an_law_bent : Option Addr} {sl_law_bent : Array (Option Value)}
    {g_check_timetable : Addr} {oc_check_timetable kV_check_timetable dc_check_timetable pm_check_timetable cd_check_timetable ct_check_timetable : Value} {od_check_timetable an_check_timetable : Option Addr} {sl_check_timetable : Array (Option Value)}
    {g_Book_init : Addr} {oc_Book_init kV_Book_init dc_Book_init pm_Book_init cd_Book_init ct_Book_init : Value} {od_Book_init an_Book_init : Option Addr} {sl_Book_init : Array (Option Value)}
    {g_vacated : Addr} {oc_vacated kV_vacated dc_vacated pm_vacated cd_vacated ct_vacated : Value} {od_vacated an_vacated : Option Addr} {sl_vacated : Array (Option Value)}
    {g_moved : Addr} {oc_moved kV_moved dc_moved pm_moved cd_moved ct_moved : Value} {od_moved an_moved : Option Addr} {sl_moved : Array (Option Value)}
    {g_check_tight : Addr} {oc_check_tight kV_check_tight dc_check_tight pm_check_tight cd_check_tight ct_check_tight : Value} {od_check_tight an_check_tight : Option Addr} {sl_check_tight : Array (Option Value)}
    {g_free_slots : Addr} {oc_free_slots kV_free_slots dc_free_slots pm_free_slots cd_free_slots ct_free_slots : Value} {od_free_slots an_free_slots : Option Addr} {sl_free_slots : Array (Option Value)}
    {g_reached : Addr} {oc_reached kV_reached dc_reached pm_reached cd_reached ct_reached : Value} {od_reached an_reached : Option Addr} {sl_reached : Array (Option Value)}
    {g_check_plan : Addr} {oc_check_plan kV_check_plan dc_check_plan pm_check_plan cd_check_plan ct_check_plan : Value} {od_check_plan an_check_plan : Option Addr} {sl_check_plan : Array (Option Value)}
    {g_plan : Addr} {oc_plan kV_plan dc_plan pm_plan cd_plan ct_plan : Value} {od_plan an_plan : Option Addr} {sl_plan : Array (Option Value)}
    {g_least : Addr} {oc_least kV_least dc_least pm_least cd_least ct_least : Value} {od_least an_least : Option Addr} {sl_least : Array (Option Value)}
    {g_tight_sets : Addr} {oc_tight_sets kV_tight_sets dc_tight_sets pm_tight_sets cd_tight_sets ct_tight_sets : Value} {od_tight_sets an_tight_sets : Option Addr} {sl_tight_sets : Array (Option Value)}
    {g_bring : Addr} {oc_bring kV_bring dc_bring pm_bring cd_bring ct_bring : Value} {od_bring an_bring : Option Addr} {sl_bring : Array (Option Value)}
    {g_cancelled : Addr} {oc_cancelled kV_cancelled dc_cancelled pm_cancelled cd_cancelled ct_cancelled : Value} {od_cancelled an_cancelled : Option Addr} {sl_cancelled : Array (Option Value)}
    {g_granted : Addr} {oc_granted kV_granted dc_granted pm_granted cd_granted ct_granted : Value} {od_granted an_granted : Option Addr} {sl_granted : Array (Option Value)}
    {g_check_granted : Addr} {oc_check_granted kV_check_granted dc_check_granted pm_check_granted cd_check_granted ct_check_granted : Value} {od_check_granted an_check_granted : Option Addr} {sl_check_granted : Array (Option Value)}
    {g_check_insert : Addr} {oc_check_insert kV_check_insert dc_check_insert pm_check_insert cd_check_insert ct_check_insert : Value} {od_check_insert an_check_insert : Option Addr} {sl_check_insert : Array (Option Value)}
    {g_most_granted : Addr} {oc_most_granted kV_most_granted dc_most_granted pm_most_granted cd_most_granted ct_most_granted : Value} {od_most_granted an_most_granted : Option Addr} {sl_most_granted : Array (Option Value)}
    {g_cheapest : Addr} {oc_cheapest kV_cheapest dc_cheapest pm_cheapest cd_cheapest ct_cheapest : Value} {od_cheapest an_cheapest : Option Addr} {sl_cheapest : Array (Option Value)}
    {g_options : Addr} {oc_options kV_options dc_options pm_options cd_options ct_options : Value} {od_options an_options : Option Addr} {sl_options : Array (Option Value)}
    {g_check_cancelled : Addr} {oc_check_cancelled kV_check_cancelled dc_check_cancelled pm_check_cancelled cd_check_cancelled ct_check_cancelled : Value} {od_check_cancelled an_check_cancelled : Option Addr} {sl_check_cancelled : Array (Option Value)}
    {g_check_cheapest : Addr} {oc_check_cheapest kV_check_cheapest dc_check_cheapest pm_check_cheapest cd_check_cheapest ct_check_cheapest : Value} {od_check_cheapest an_check_cheapest : Option Addr} {sl_check_cheapest : Array (Option Value)}
    {g_insert : Addr} {oc_insert kV_insert dc_insert pm_insert cd_insert ct_insert : Value} {od_insert an_insert : Option Addr} {sl_insert : Array (Option Value)}
    {g_steps_from_free : Addr} {oc_steps_from_free kV_steps_from_free dc_steps_from_free pm_steps_from_free cd_steps_from_free ct_steps_from_free : Value} {od_steps_from_free an_steps_from_free : Option Addr} {sl_steps_from_free : Array (Option Value)}
    {g_moves : Addr} {oc_moves kV_moves dc_moves pm_moves cd_moves ct_moves : Value} {od_moves an_moves : Option Addr} {sl_moves : Array (Option Value)}
    {g_fewest_cancelled : Addr} {oc_fewest_cancelled kV_fewest_cancelled dc_fewest_cancelled pm_fewest_cancelled cd_fewest_cancelled ct_fewest_cancelled : Value} {od_fewest_cancelled an_fewest_cancelled : Option Addr} {sl_fewest_cancelled : Array (Option Value)}
    {g_open_slots : Addr} {oc_open_slots kV_open_slots dc_open_slots pm_open_slots cd_open_slots ct_open_slots : Value} {od_open_slots an_open_slots : Option Addr} {sl_open_slots : Array (Option Value)}
    {g_frozen : Addr} {oc_frozen kV_frozen dc_frozen pm_frozen cd_frozen ct_frozen : Value} {od_frozen an_frozen : Option Addr} {sl_frozen : Array (Option Value)}
    {g_law_pairs : Addr} {oc_law_pairs kV_law_pairs dc_law_pairs pm_law_pairs cd_law_pairs ct_law_pairs : Value} {od_law_pairs an_law_pairs : Option Addr} {sl_law_pairs : Array (Option Value)}
    {g_law_later_doors : Addr} {oc_law_later_doors kV_law_later_doors dc_law_later_doors pm_law_later_doors cd_law_later_doors ct_law_later_doors : Value} {od_law_later_doors an_law_later_doors : Option Addr} {sl_law_later_doors : Array (Option Value)}
    {g_law_doors : Addr} {oc_law_doors kV_law_doors dc_law_doors pm_law_doors cd_law_doors ct_law_doors : Value} {od_law_doors an_law_doors : Option Addr} {sl_law_doors : Array (Option Value)}
    {g_law_right : Addr} {oc_law_right kV_law_right dc_law_right pm_law_right cd_law_right ct_law_right : Value} {od_law_right an_law_right : Option Addr} {sl_law_right : Array (Option Value)}
    {g_law : Addr} {oc_law kV_law dc_law pm_law cd_law ct_law : Value} {od_law an_law : Option Addr} {sl_law : Array (Option Value)}
    {nm_NoBook q_NoBook : Str} {N_NoBook : Addr} {bs_NoBook bm_NoBook : List Value} {sn_NoBook : List Str} {sub_NoBook : List Value} {ab_NoBook : Bool} {col_NoBook : Option Bool} {dd_NoBook : Option Addr} {m0_NoBook m1_NoBook m2_NoBook m3_NoBook m5_NoBook : Option Value}
    {nm_NoTimetable q_NoTimetable : Str} {N_NoTimetable : Addr} {bs_NoTimetable bm_NoTimetable : List Value} {sn_NoTimetable : List Str} {sub_NoTimetable : List Value} {ab_NoTimetable : Bool} {col_NoTimetable : Option Bool} {dd_NoTimetable : Option Addr} {m0_NoTimetable m1_NoTimetable m2_NoTimetable m3_NoTimetable m5_NoTimetable : Option Value}
    {tk_MAX_SIZE : Tok}
    {cc_law_pairs P_law_pairs : Addr} {te_law_pairs : Value} {td_law_pairs : Option Addr} {tv_law_pairs : Array Value} {tl_law_pairs : Array (Option Value)}
    {cc_law_later_doors P_law_later_doors : Addr} {te_law_later_doors : Value} {td_law_later_doors : Option Addr} {tv_law_later_doors : Array Value} {tl_law_later_doors : Array (Option Value)}
    {cc_law_doors P_law_doors : Addr} {te_law_doors : Value} {td_law_doors : Option Addr} {tv_law_doors : Array Value} {tl_law_doors : Array (Option Value)}
    (n_SlotError : PySem.W.nsIn K mainGlobals "SlotError" = some (some (.ref C_SlotError)))
    (n_NoBook : PySem.W.nsIn K mainGlobals "NoBook" = some (some (.ref C_NoBook)))
    (n_NoTimetable : PySem.W.nsIn K mainGlobals "NoTimetable" = some (some (.ref C_NoTimetable)))
    (n_Book : PySem.W.nsIn K mainGlobals "Book" = some (some (.ref C_Book)))
    (a_law_draw : PySem.W.nsIn K mainGlobals "_law_draw" = some (some (.ref g_law_draw)))
    (l_law_draw : K.lookup g_law_draw = some ⟨oc_law_draw, od_law_draw, .func (PySem.W.fnOf "_law_draw" "_law_draw" (defArgs st_law_draw) (defBody st_law_draw) (defScope st_law_draw) .none kV_law_draw dc_law_draw pm_law_draw an_law_draw cd_law_draw ct_law_draw), sl_law_draw⟩)
    (c_law_draw : PySem.W.codeIn K cd_law_draw "_law_draw" = true)
    (k_law_draw : PySem.W.keepIn K (.ref g_law_draw) = true)
    (a_NoTimetable_init : PySem.W.findIn K (.ref C_NoTimetable) "__init__" = some (some (.ref g_NoTimetable_init)))
    (t_NoTimetable_init : PySem.W.typeIn K (.ref g_NoTimetable_init) = some (.type "function"))
    (l_NoTimetable_init : K.lookup g_NoTimetable_init = some ⟨oc_NoTimetable_init, od_NoTimetable_init, .func (PySem.W.fnOf "__init__" "NoTimetable.__init__" (defArgs st_NoTimetable_init) (defBody st_NoTimetable_init) (defScope st_NoTimetable_init) .none kV_NoTimetable_init dc_NoTimetable_init pm_NoTimetable_init an_NoTimetable_init cd_NoTimetable_init ct_NoTimetable_init), sl_NoTimetable_init⟩)
    (c_NoTimetable_init : PySem.W.codeIn K cd_NoTimetable_init "NoTimetable.__init__" = true)
    (k_NoTimetable_init : PySem.W.keepIn K (.ref g_NoTimetable_init) = true)
    (a_is_int : PySem.W.nsIn K mainGlobals "is_int" = some (some (.ref g_is_int)))
    (l_is_int : K.lookup g_is_int = some ⟨oc_is_int, od_is_int, .func (PySem.W.fnOf "is_int" "is_int" (defArgs st_is_int) (defBody st_is_int) (defScope st_is_int) .none kV_is_int dc_is_int pm_is_int an_is_int cd_is_int ct_is_int), sl_is_int⟩)
    (c_is_int : PySem.W.codeIn K cd_is_int "is_int" = true)
    (k_is_int : PySem.W.keepIn K (.ref g_is_int) = true)
    (a_Book_len : PySem.W.findIn K (.ref C_Book) "__len__" = some (some (.ref g_Book_len)))
    (t_Book_len : PySem.W.typeIn K (.ref g_Book_len) = some (.type "function"))
    (i_Book_len : PySem.W.isFn K (.ref g_Book_len) = true)
    (l_Book_len : K.lookup g_Book_len = some ⟨oc_Book_len, od_Book_len, .func (PySem.W.fnOf "__len__" "Book.__len__" (defArgs st_Book_len) (defBody st_Book_len) (defScope st_Book_len) .none kV_Book_len dc_Book_len pm_Book_len an_Book_len cd_Book_len ct_Book_len), sl_Book_len⟩)
    (c_Book_len : PySem.W.codeIn K cd_Book_len "Book.__len__" = true)
    (k_Book_len : PySem.W.keepIn K (.ref g_Book_len) = true)
    (a_law_raised : PySem.W.nsIn K mainGlobals "_law_raised" = some (some (.ref g_law_raised)))
    (l_law_raised : K.lookup g_law_raised = some ⟨oc_law_raised, od_law_raised, .func (PySem.W.fnOf "_law_raised" "_law_raised" (defArgs st_law_raised) (defBody st_law_raised) (defScope st_law_raised) .none kV_law_raised dc_law_raised pm_law_raised an_law_raised cd_law_raised ct_law_raised), sl_law_raised⟩)
    (c_law_raised : PySem.W.codeIn K cd_law_raised "_law_raised" = true)
    (k_law_raised : PySem.W.keepIn K (.ref g_law_raised) = true)
    (a_NoBook_init : PySem.W.findIn K (.ref C_NoBook) "__init__" = some (some (.ref g_NoBook_init)))
    (t_NoBook_init : PySem.W.typeIn K (.ref g_NoBook_init) = some (.type "function"))
    (l_NoBook_init : K.lookup g_NoBook_init = some ⟨oc_NoBook_init, od_NoBook_init, .func (PySem.W.fnOf "__init__" "NoBook.__init__" (defArgs st_NoBook_init) (defBody st_NoBook_init) (defScope st_NoBook_init) .none kV_NoBook_init dc_NoBook_init pm_NoBook_init an_NoBook_init cd_NoBook_init ct_NoBook_init), sl_NoBook_init⟩)
    (c_NoBook_init : PySem.W.codeIn K cd_NoBook_init "NoBook.__init__" = true)
    (k_NoBook_init : PySem.W.keepIn K (.ref g_NoBook_init) = true)
    (a_law_due : PySem.W.nsIn K mainGlobals "_law_due" = some (some (.ref g_law_due)))
    (l_law_due : K.lookup g_law_due = some ⟨oc_law_due, od_law_due, .func (PySem.W.fnOf "_law_due" "_law_due" (defArgs st_law_due) (defBody st_law_due) (defScope st_law_due) .none kV_law_due dc_law_due pm_law_due an_law_due cd_law_due ct_law_due), sl_law_due⟩)
    (c_law_due : PySem.W.codeIn K cd_law_due "_law_due" = true)
    (k_law_due : PySem.W.keepIn K (.ref g_law_due) = true)
    (a_is_slot_list : PySem.W.nsIn K mainGlobals "is_slot_list" = some (some (.ref g_is_slot_list)))
    (l_is_slot_list : K.lookup g_is_slot_list = some ⟨oc_is_slot_list, od_is_slot_list, .func (PySem.W.fnOf "is_slot_list" "is_slot_list" (defArgs st_is_slot_list) (defBody st_is_slot_list) (defScope st_is_slot_list) .none kV_is_slot_list dc_is_slot_list pm_is_slot_list an_is_slot_list cd_is_slot_list ct_is_slot_list), sl_is_slot_list⟩)
    (c_is_slot_list : PySem.W.codeIn K cd_is_slot_list "is_slot_list" = true)
    (k_is_slot_list : PySem.W.keepIn K (.ref g_is_slot_list) = true)
    (a_law_book : PySem.W.nsIn K mainGlobals "_law_book" = some (some (.ref g_law_book)))
    (l_law_book : K.lookup g_law_book = some ⟨oc_law_book, od_law_book, .func (PySem.W.fnOf "_law_book" "_law_book" (defArgs st_law_book) (defBody st_law_book) (defScope st_law_book) .none kV_law_book dc_law_book pm_law_book an_law_book cd_law_book ct_law_book), sl_law_book⟩)
    (c_law_book : PySem.W.codeIn K cd_law_book "_law_book" = true)
    (k_law_book : PySem.W.keepIn K (.ref g_law_book) = true)
    (a_law_bent : PySem.W.nsIn K mainGlobals "_law_bent" = some (some (.ref g_law_bent)))
    (l_law_bent : K.lookup g_law_bent = some ⟨oc_law_bent, od_law_bent, .func (PySem.W.fnOf "_law_bent" "_law_bent" (defArgs st_law_bent) (defBody st_law_bent) (defScope st_law_bent) .none kV_law_bent dc_law_bent pm_law_bent an_law_bent cd_law_bent ct_law_bent), sl_law_bent⟩)
    (c_law_bent : PySem.W.codeIn K cd_law_bent "_law_bent" = true)
    (k_law_bent : PySem.W.keepIn K (.ref g_law_bent) = true)
    (a_check_timetable : PySem.W.nsIn K mainGlobals "check_timetable" = some (some (.ref g_check_timetable)))
    (l_check_timetable : K.lookup g_check_timetable = some ⟨oc_check_timetable, od_check_timetable, .func (PySem.W.fnOf "check_timetable" "check_timetable" (defArgs st_check_timetable) (defBody st_check_timetable) (defScope st_check_timetable) .none kV_check_timetable dc_check_timetable pm_check_timetable an_check_timetable cd_check_timetable ct_check_timetable), sl_check_timetable⟩)
    (c_check_timetable : PySem.W.codeIn K cd_check_timetable "check_timetable" = true)
    (k_check_timetable : PySem.W.keepIn K (.ref g_check_timetable) = true)
    (a_Book_init : PySem.W.findIn K (.ref C_Book) "__init__" = some (some (.ref g_Book_init)))
    (t_Book_init : PySem.W.typeIn K (.ref g_Book_init) = some (.type "function"))
    (i_Book_init : PySem.W.isFn K (.ref g_Book_init) = true)
    (l_Book_init : K.lookup g_Book_init = some ⟨oc_Book_init, od_Book_init, .func (PySem.W.fnOf "__init__" "Book.__init__" (defArgs st_Book_init) (defBody st_Book_init) (defScope st_Book_init) .none kV_Book_init dc_Book_init pm_Book_init an_Book_init cd_Book_init ct_Book_init), sl_Book_init⟩)
    (c_Book_init : PySem.W.codeIn K cd_Book_init "Book.__init__" = true)
    (k_Book_init : PySem.W.keepIn K (.ref g_Book_init) = true)
    (a_vacated : PySem.W.nsIn K mainGlobals "vacated" = some (some (.ref g_vacated)))
    (l_vacated : K.lookup g_vacated = some ⟨oc_vacated, od_vacated, .func (PySem.W.fnOf "vacated" "vacated" (defArgs st_vacated) (defBody st_vacated) (defScope st_vacated) .none kV_vacated dc_vacated pm_vacated an_vacated cd_vacated ct_vacated), sl_vacated⟩)
    (c_vacated : PySem.W.codeIn K cd_vacated "vacated" = true)
    (k_vacated : PySem.W.keepIn K (.ref g_vacated) = true)
    (a_moved : PySem.W.nsIn K mainGlobals "moved" = some (some (.ref g_moved)))
    (l_moved : K.lookup g_moved = some ⟨oc_moved, od_moved, .func (PySem.W.fnOf "moved" "moved" (defArgs st_moved) (defBody st_moved) (defScope st_moved) .none kV_moved dc_moved pm_moved an_moved cd_moved ct_moved), sl_moved⟩)
    (c_moved : PySem.W.codeIn K cd_moved "moved" = true)
    (k_moved : PySem.W.keepIn K (.ref g_moved) = true)
    (a_check_tight : PySem.W.nsIn K mainGlobals "check_tight" = some (some (.ref g_check_tight)))
    (l_check_tight : K.lookup g_check_tight = some ⟨oc_check_tight, od_check_tight, .func (PySem.W.fnOf "check_tight" "check_tight" (defArgs st_check_tight) (defBody st_check_tight) (defScope st_check_tight) .none kV_check_tight dc_check_tight pm_check_tight an_check_tight cd_check_tight ct_check_tight), sl_check_tight⟩)
    (c_check_tight : PySem.W.codeIn K cd_check_tight "check_tight" = true)
    (k_check_tight : PySem.W.keepIn K (.ref g_check_tight) = true)
    (a_free_slots : PySem.W.nsIn K mainGlobals "free_slots" = some (some (.ref g_free_slots)))
    (l_free_slots : K.lookup g_free_slots = some ⟨oc_free_slots, od_free_slots, .func (PySem.W.fnOf "free_slots" "free_slots" (defArgs st_free_slots) (defBody st_free_slots) (defScope st_free_slots) .none kV_free_slots dc_free_slots pm_free_slots an_free_slots cd_free_slots ct_free_slots), sl_free_slots⟩)
    (c_free_slots : PySem.W.codeIn K cd_free_slots "free_slots" = true)
    (k_free_slots : PySem.W.keepIn K (.ref g_free_slots) = true)
    (a_reached : PySem.W.nsIn K mainGlobals "reached" = some (some (.ref g_reached)))
    (l_reached : K.lookup g_reached = some ⟨oc_reached, od_reached, .func (PySem.W.fnOf "reached" "reached" (defArgs st_reached) (defBody st_reached) (defScope st_reached) .none kV_reached dc_reached pm_reached an_reached cd_reached ct_reached), sl_reached⟩)
    (c_reached : PySem.W.codeIn K cd_reached "reached" = true)
    (k_reached : PySem.W.keepIn K (.ref g_reached) = true)
    (a_check_plan : PySem.W.nsIn K mainGlobals "check_plan" = some (some (.ref g_check_plan)))
    (l_check_plan : K.lookup g_check_plan = some ⟨oc_check_plan, od_check_plan, .func (PySem.W.fnOf "check_plan" "check_plan" (defArgs st_check_plan) (defBody st_check_plan) (defScope st_check_plan) .none kV_check_plan dc_check_plan pm_check_plan an_check_plan cd_check_plan ct_check_plan), sl_check_plan⟩)
    (c_check_plan : PySem.W.codeIn K cd_check_plan "check_plan" = true)
    (k_check_plan : PySem.W.keepIn K (.ref g_check_plan) = true)
    (a_plan : PySem.W.nsIn K mainGlobals "plan" = some (some (.ref g_plan)))
    (l_plan : K.lookup g_plan = some ⟨oc_plan, od_plan, .func (PySem.W.fnOf "plan" "plan" (defArgs st_plan) (defBody st_plan) (defScope st_plan) .none kV_plan dc_plan pm_plan an_plan cd_plan ct_plan), sl_plan⟩)
    (c_plan : PySem.W.codeIn K cd_plan "plan" = true)
    (k_plan : PySem.W.keepIn K (.ref g_plan) = true)
    (a_least : PySem.W.nsIn K mainGlobals "least" = some (some (.ref g_least)))
    (l_least : K.lookup g_least = some ⟨oc_least, od_least, .func (PySem.W.fnOf "least" "least" (defArgs st_least) (defBody st_least) (defScope st_least) .none kV_least dc_least pm_least an_least cd_least ct_least), sl_least⟩)
    (c_least : PySem.W.codeIn K cd_least "least" = true)
    (k_least : PySem.W.keepIn K (.ref g_least) = true)
    (a_tight_sets : PySem.W.nsIn K mainGlobals "tight_sets" = some (some (.ref g_tight_sets)))
    (l_tight_sets : K.lookup g_tight_sets = some ⟨oc_tight_sets, od_tight_sets, .func (PySem.W.fnOf "tight_sets" "tight_sets" (defArgs st_tight_sets) (defBody st_tight_sets) (defScope st_tight_sets) .none kV_tight_sets dc_tight_sets pm_tight_sets an_tight_sets cd_tight_sets ct_tight_sets), sl_tight_sets⟩)
    (c_tight_sets : PySem.W.codeIn K cd_tight_sets "tight_sets" = true)
    (k_tight_sets : PySem.W.keepIn K (.ref g_tight_sets) = true)
    (a_bring : PySem.W.nsIn K mainGlobals "bring" = some (some (.ref g_bring)))
    (l_bring : K.lookup g_bring = some ⟨oc_bring, od_bring, .func (PySem.W.fnOf "bring" "bring" (defArgs st_bring) (defBody st_bring) (defScope st_bring) .none kV_bring dc_bring pm_bring an_bring cd_bring ct_bring), sl_bring⟩)
    (c_bring : PySem.W.codeIn K cd_bring "bring" = true)
    (k_bring : PySem.W.keepIn K (.ref g_bring) = true)
    (a_cancelled : PySem.W.nsIn K mainGlobals "cancelled" = some (some (.ref g_cancelled)))
    (l_cancelled : K.lookup g_cancelled = some ⟨oc_cancelled, od_cancelled, .func (PySem.W.fnOf "cancelled" "cancelled" (defArgs st_cancelled) (defBody st_cancelled) (defScope st_cancelled) .none kV_cancelled dc_cancelled pm_cancelled an_cancelled cd_cancelled ct_cancelled), sl_cancelled⟩)
    (c_cancelled : PySem.W.codeIn K cd_cancelled "cancelled" = true)
    (k_cancelled : PySem.W.keepIn K (.ref g_cancelled) = true)
    (a_granted : PySem.W.nsIn K mainGlobals "granted" = some (some (.ref g_granted)))
    (l_granted : K.lookup g_granted = some ⟨oc_granted, od_granted, .func (PySem.W.fnOf "granted" "granted" (defArgs st_granted) (defBody st_granted) (defScope st_granted) .none kV_granted dc_granted pm_granted an_granted cd_granted ct_granted), sl_granted⟩)
    (c_granted : PySem.W.codeIn K cd_granted "granted" = true)
    (k_granted : PySem.W.keepIn K (.ref g_granted) = true)
    (a_check_granted : PySem.W.nsIn K mainGlobals "check_granted" = some (some (.ref g_check_granted)))
    (l_check_granted : K.lookup g_check_granted = some ⟨oc_check_granted, od_check_granted, .func (PySem.W.fnOf "check_granted" "check_granted" (defArgs st_check_granted) (defBody st_check_granted) (defScope st_check_granted) .none kV_check_granted dc_check_granted pm_check_granted an_check_granted cd_check_granted ct_check_granted), sl_check_granted⟩)
    (c_check_granted : PySem.W.codeIn K cd_check_granted "check_granted" = true)
    (k_check_granted : PySem.W.keepIn K (.ref g_check_granted) = true)
    (a_check_insert : PySem.W.nsIn K mainGlobals "check_insert" = some (some (.ref g_check_insert)))
    (l_check_insert : K.lookup g_check_insert = some ⟨oc_check_insert, od_check_insert, .func (PySem.W.fnOf "check_insert" "check_insert" (defArgs st_check_insert) (defBody st_check_insert) (defScope st_check_insert) .none kV_check_insert dc_check_insert pm_check_insert an_check_insert cd_check_insert ct_check_insert), sl_check_insert⟩)
    (c_check_insert : PySem.W.codeIn K cd_check_insert "check_insert" = true)
    (k_check_insert : PySem.W.keepIn K (.ref g_check_insert) = true)
    (a_most_granted : PySem.W.nsIn K mainGlobals "most_granted" = some (some (.ref g_most_granted)))
    (l_most_granted : K.lookup g_most_granted = some ⟨oc_most_granted, od_most_granted, .func (PySem.W.fnOf "most_granted" "most_granted" (defArgs st_most_granted) (defBody st_most_granted) (defScope st_most_granted) .none kV_most_granted dc_most_granted pm_most_granted an_most_granted cd_most_granted ct_most_granted), sl_most_granted⟩)
    (c_most_granted : PySem.W.codeIn K cd_most_granted "most_granted" = true)
    (k_most_granted : PySem.W.keepIn K (.ref g_most_granted) = true)
    (a_cheapest : PySem.W.nsIn K mainGlobals "cheapest" = some (some (.ref g_cheapest)))
    (l_cheapest : K.lookup g_cheapest = some ⟨oc_cheapest, od_cheapest, .func (PySem.W.fnOf "cheapest" "cheapest" (defArgs st_cheapest) (defBody st_cheapest) (defScope st_cheapest) .none kV_cheapest dc_cheapest pm_cheapest an_cheapest cd_cheapest ct_cheapest), sl_cheapest⟩)
    (c_cheapest : PySem.W.codeIn K cd_cheapest "cheapest" = true)
    (k_cheapest : PySem.W.keepIn K (.ref g_cheapest) = true)
    (a_options : PySem.W.nsIn K mainGlobals "options" = some (some (.ref g_options)))
    (l_options : K.lookup g_options = some ⟨oc_options, od_options, .func (PySem.W.fnOf "options" "options" (defArgs st_options) (defBody st_options) (defScope st_options) .none kV_options dc_options pm_options an_options cd_options ct_options), sl_options⟩)
    (c_options : PySem.W.codeIn K cd_options "options" = true)
    (k_options : PySem.W.keepIn K (.ref g_options) = true)
    (a_check_cancelled : PySem.W.nsIn K mainGlobals "check_cancelled" = some (some (.ref g_check_cancelled)))
    (l_check_cancelled : K.lookup g_check_cancelled = some ⟨oc_check_cancelled, od_check_cancelled, .func (PySem.W.fnOf "check_cancelled" "check_cancelled" (defArgs st_check_cancelled) (defBody st_check_cancelled) (defScope st_check_cancelled) .none kV_check_cancelled dc_check_cancelled pm_check_cancelled an_check_cancelled cd_check_cancelled ct_check_cancelled), sl_check_cancelled⟩)
    (c_check_cancelled : PySem.W.codeIn K cd_check_cancelled "check_cancelled" = true)
    (k_check_cancelled : PySem.W.keepIn K (.ref g_check_cancelled) = true)
    (a_check_cheapest : PySem.W.nsIn K mainGlobals "check_cheapest" = some (some (.ref g_check_cheapest)))
    (l_check_cheapest : K.lookup g_check_cheapest = some ⟨oc_check_cheapest, od_check_cheapest, .func (PySem.W.fnOf "check_cheapest" "check_cheapest" (defArgs st_check_cheapest) (defBody st_check_cheapest) (defScope st_check_cheapest) .none kV_check_cheapest dc_check_cheapest pm_check_cheapest an_check_cheapest cd_check_cheapest ct_check_cheapest), sl_check_cheapest⟩)
    (c_check_cheapest : PySem.W.codeIn K cd_check_cheapest "check_cheapest" = true)
    (k_check_cheapest : PySem.W.keepIn K (.ref g_check_cheapest) = true)
    (a_insert : PySem.W.nsIn K mainGlobals "insert" = some (some (.ref g_insert)))
    (l_insert : K.lookup g_insert = some ⟨oc_insert, od_insert, .func (PySem.W.fnOf "insert" "insert" (defArgs st_insert) (defBody st_insert) (defScope st_insert) .none kV_insert dc_insert pm_insert an_insert cd_insert ct_insert), sl_insert⟩)
    (c_insert : PySem.W.codeIn K cd_insert "insert" = true)
    (k_insert : PySem.W.keepIn K (.ref g_insert) = true)
    (a_steps_from_free : PySem.W.nsIn K mainGlobals "steps_from_free" = some (some (.ref g_steps_from_free)))
    (l_steps_from_free : K.lookup g_steps_from_free = some ⟨oc_steps_from_free, od_steps_from_free, .func (PySem.W.fnOf "steps_from_free" "steps_from_free" (defArgs st_steps_from_free) (defBody st_steps_from_free) (defScope st_steps_from_free) .none kV_steps_from_free dc_steps_from_free pm_steps_from_free an_steps_from_free cd_steps_from_free ct_steps_from_free), sl_steps_from_free⟩)
    (c_steps_from_free : PySem.W.codeIn K cd_steps_from_free "steps_from_free" = true)
    (k_steps_from_free : PySem.W.keepIn K (.ref g_steps_from_free) = true)
    (a_moves : PySem.W.nsIn K mainGlobals "moves" = some (some (.ref g_moves)))
    (l_moves : K.lookup g_moves = some ⟨oc_moves, od_moves, .func (PySem.W.fnOf "moves" "moves" (defArgs st_moves) (defBody st_moves) (defScope st_moves) .none kV_moves dc_moves pm_moves an_moves cd_moves ct_moves), sl_moves⟩)
    (c_moves : PySem.W.codeIn K cd_moves "moves" = true)
    (k_moves : PySem.W.keepIn K (.ref g_moves) = true)
    (a_fewest_cancelled : PySem.W.nsIn K mainGlobals "fewest_cancelled" = some (some (.ref g_fewest_cancelled)))
    (l_fewest_cancelled : K.lookup g_fewest_cancelled = some ⟨oc_fewest_cancelled, od_fewest_cancelled, .func (PySem.W.fnOf "fewest_cancelled" "fewest_cancelled" (defArgs st_fewest_cancelled) (defBody st_fewest_cancelled) (defScope st_fewest_cancelled) .none kV_fewest_cancelled dc_fewest_cancelled pm_fewest_cancelled an_fewest_cancelled cd_fewest_cancelled ct_fewest_cancelled), sl_fewest_cancelled⟩)
    (c_fewest_cancelled : PySem.W.codeIn K cd_fewest_cancelled "fewest_cancelled" = true)
    (k_fewest_cancelled : PySem.W.keepIn K (.ref g_fewest_cancelled) = true)
    (a_open_slots : PySem.W.nsIn K mainGlobals "open_slots" = some (some (.ref g_open_slots)))
    (l_open_slots : K.lookup g_open_slots = some ⟨oc_open_slots, od_open_slots, .func (PySem.W.fnOf "open_slots" "open_slots" (defArgs st_open_slots) (defBody st_open_slots) (defScope st_open_slots) .none kV_open_slots dc_open_slots pm_open_slots an_open_slots cd_open_slots ct_open_slots), sl_open_slots⟩)
    (c_open_slots : PySem.W.codeIn K cd_open_slots "open_slots" = true)
    (k_open_slots : PySem.W.keepIn K (.ref g_open_slots) = true)
    (a_frozen : PySem.W.nsIn K mainGlobals "frozen" = some (some (.ref g_frozen)))
    (l_frozen : K.lookup g_frozen = some ⟨oc_frozen, od_frozen, .func (PySem.W.fnOf "frozen" "frozen" (defArgs st_frozen) (defBody st_frozen) (defScope st_frozen) .none kV_frozen dc_frozen pm_frozen an_frozen cd_frozen ct_frozen), sl_frozen⟩)
    (c_frozen : PySem.W.codeIn K cd_frozen "frozen" = true)
    (k_frozen : PySem.W.keepIn K (.ref g_frozen) = true)
    (a_law_pairs : PySem.W.nsIn K mainGlobals "_law_pairs" = some (some (.ref g_law_pairs)))
    (l_law_pairs : K.lookup g_law_pairs = some ⟨oc_law_pairs, od_law_pairs, .func (PySem.W.fnOf "_law_pairs" "_law_pairs" (defArgs st_law_pairs) (defBody st_law_pairs) (defScope st_law_pairs) .none kV_law_pairs dc_law_pairs pm_law_pairs an_law_pairs cd_law_pairs ct_law_pairs), sl_law_pairs⟩)
    (c_law_pairs : PySem.W.codeIn K cd_law_pairs "_law_pairs" = true)
    (k_law_pairs : PySem.W.keepIn K (.ref g_law_pairs) = true)
    (a_law_later_doors : PySem.W.nsIn K mainGlobals "_law_later_doors" = some (some (.ref g_law_later_doors)))
    (l_law_later_doors : K.lookup g_law_later_doors = some ⟨oc_law_later_doors, od_law_later_doors, .func (PySem.W.fnOf "_law_later_doors" "_law_later_doors" (defArgs st_law_later_doors) (defBody st_law_later_doors) (defScope st_law_later_doors) .none kV_law_later_doors dc_law_later_doors pm_law_later_doors an_law_later_doors cd_law_later_doors ct_law_later_doors), sl_law_later_doors⟩)
    (c_law_later_doors : PySem.W.codeIn K cd_law_later_doors "_law_later_doors" = true)
    (k_law_later_doors : PySem.W.keepIn K (.ref g_law_later_doors) = true)
    (a_law_doors : PySem.W.nsIn K mainGlobals "_law_doors" = some (some (.ref g_law_doors)))
    (l_law_doors : K.lookup g_law_doors = some ⟨oc_law_doors, od_law_doors, .func (PySem.W.fnOf "_law_doors" "_law_doors" (defArgs st_law_doors) (defBody st_law_doors) (defScope st_law_doors) .none kV_law_doors dc_law_doors pm_law_doors an_law_doors cd_law_doors ct_law_doors), sl_law_doors⟩)
    (c_law_doors : PySem.W.codeIn K cd_law_doors "_law_doors" = true)
    (k_law_doors : PySem.W.keepIn K (.ref g_law_doors) = true)
    (a_law_right : PySem.W.nsIn K mainGlobals "_law_right" = some (some (.ref g_law_right)))
    (l_law_right : K.lookup g_law_right = some ⟨oc_law_right, od_law_right, .func (PySem.W.fnOf "_law_right" "_law_right" (defArgs st_law_right) (defBody st_law_right) (defScope st_law_right) .none kV_law_right dc_law_right pm_law_right an_law_right cd_law_right ct_law_right), sl_law_right⟩)
    (c_law_right : PySem.W.codeIn K cd_law_right "_law_right" = true)
    (k_law_right : PySem.W.keepIn K (.ref g_law_right) = true)
    (a_law : PySem.W.nsIn K mainGlobals "law" = some (some (.ref g_law)))
    (l_law : K.lookup g_law = some ⟨oc_law, od_law, .func (PySem.W.fnOf "law" "law" (defArgs st_law) (defBody st_law) (defScope st_law) .none kV_law dc_law pm_law an_law cd_law ct_law), sl_law⟩)
    (c_law : PySem.W.codeIn K cd_law "law" = true)
    (k_law : PySem.W.keepIn K (.ref g_law) = true)
    (B_pg : PySem.W.plainGet K C_Book Str.empty = true)
    (B_hd : PySem.W.hasDictIn K C_Book = true)
    (B_po : PySem.W.plainOver K C_Book = true)
    (B_sa : PySem.W.findIn K (.ref C_Book) "__setattr__" = some (some (.builtin "object.__setattr__")))
    (B_mk : PySem.W.makesIn K C_Book = true)
    (B_kc : PySem.W.keepIn K (.ref C_Book) = true)
    (B_total : PySem.W.findIn K (.ref C_Book) "total" = some none)
    (B_rows : PySem.W.findIn K (.ref C_Book) "rows" = some none)
    (B_users : PySem.W.findIn K (.ref C_Book) "users" = some none)
    (x_NoBook : K.lookup C_NoBook = some (excClassObj nm_NoBook q_NoBook C_NoBook N_NoBook bs_NoBook bm_NoBook true sn_NoBook sub_NoBook ab_NoBook col_NoBook dd_NoBook m0_NoBook m1_NoBook m2_NoBook m3_NoBook m5_NoBook "ValueError.__new__"))
    (rv_NoBook : PySem.HandSPX.refsVE bm_NoBook = true)
    (sa_NoBook : PySem.W.findIn K (.ref C_NoBook) "__setattr__" = some (some (.builtin "object.__setattr__")))
    (ex_NoBook : PySem.W.subIn K (.ref C_NoBook) (.type "BaseException") = some true)
    (ty_NoBook : PySem.W.typeIn K (.ref C_NoBook) = some (.type "type"))
    (kc_NoBook : PySem.W.keepIn K (.ref C_NoBook) = true)
    (nf_NoBook : PySem.W.findIn K (.ref C_NoBook) "index" = some none)
    (ga_NoBook : PySem.W.findIn K (.ref C_NoBook) "__getattribute__" = some (some (.builtin "BaseException.__getattribute__")))
    (gg_NoBook : PySem.W.findIn K (.ref C_NoBook) "__getattr__" = some none)
    (hd_NoBook : PySem.W.hasDictIn K C_NoBook = true)
    (em_NoBook : PySem.W.exmOne K (.ref C_NoBook) (.ref C_NoBook) = some true)
    (x_NoTimetable : K.lookup C_NoTimetable = some (excClassObj nm_NoTimetable q_NoTimetable C_NoTimetable N_NoTimetable bs_NoTimetable bm_NoTimetable true sn_NoTimetable sub_NoTimetable ab_NoTimetable col_NoTimetable dd_NoTimetable m0_NoTimetable m1_NoTimetable m2_NoTimetable m3_NoTimetable m5_NoTimetable "ValueError.__new__"))
    (rv_NoTimetable : PySem.HandSPX.refsVE bm_NoTimetable = true)
    (sa_NoTimetable : PySem.W.findIn K (.ref C_NoTimetable) "__setattr__" = some (some (.builtin "object.__setattr__")))
    (ex_NoTimetable : PySem.W.subIn K (.ref C_NoTimetable) (.type "BaseException") = some true)
    (ty_NoTimetable : PySem.W.typeIn K (.ref C_NoTimetable) = some (.type "type"))
    (kc_NoTimetable : PySem.W.keepIn K (.ref C_NoTimetable) = true)
    (nf_NoTimetable : PySem.W.findIn K (.ref C_NoTimetable) "index" = some none)
    (ga_NoTimetable : PySem.W.findIn K (.ref C_NoTimetable) "__getattribute__" = some (some (.builtin "BaseException.__getattribute__")))
    (gg_NoTimetable : PySem.W.findIn K (.ref C_NoTimetable) "__getattr__" = some none)
    (hd_NoTimetable : PySem.W.hasDictIn K C_NoTimetable = true)
    (em_NoTimetable : PySem.W.exmOne K (.ref C_NoTimetable) (.ref C_NoTimetable) = some true)
    (S_rd : PySem.W.readsIn K C_SlotError (.type "type") = true)
    (S_ga : PySem.W.specialIn K (.ref C_SlotError) "__getattribute__" = some (some (.builtin "type.__getattribute__")))
    (S_in : PySem.W.findCls K (.ref C_SlotError) (.type "type") "__init__" = some (.val (.builtin "ValueError.__init__")))
    (z_all : PySem.W.nsIn K mainGlobals "all" = some none)
    (z_bool : PySem.W.nsIn K mainGlobals "bool" = some none)
    (z_enumerate : PySem.W.nsIn K mainGlobals "enumerate" = some none)
    (z_int : PySem.W.nsIn K mainGlobals "int" = some none)
    (z_isinstance : PySem.W.nsIn K mainGlobals "isinstance" = some none)
    (z_len : PySem.W.nsIn K mainGlobals "len" = some none)
    (z_list : PySem.W.nsIn K mainGlobals "list" = some none)
    (z_max : PySem.W.nsIn K mainGlobals "max" = some none)
    (z_range : PySem.W.nsIn K mainGlobals "range" = some none)
    (z_repr : PySem.W.nsIn K mainGlobals "repr" = some none)
    (z_set : PySem.W.nsIn K mainGlobals "set" = some none)
    (z_sorted : PySem.W.nsIn K mainGlobals "sorted" = some none)
    (z_tuple : PySem.W.nsIn K mainGlobals "tuple" = some none)
    (z_zip : PySem.W.nsIn K mainGlobals "zip" = some none)
    (v_MAX_SIZE : PySem.W.nsIn K mainGlobals "MAX_SIZE" = some (some (.int 60 tk_MAX_SIZE)))
    (cr_law_pairs : cd_law_pairs = .ref cc_law_pairs)
    (tc_law_pairs : K.lookup cc_law_pairs = some ⟨te_law_pairs, td_law_pairs, .fields tv_law_pairs, tl_law_pairs⟩)
    (tp_law_pairs : tv_law_pairs[11]? = some (.ref P_law_pairs))
    (tn_law_pairs : K.lookup P_law_pairs = none)
    (tu_law_pairs : ((recsOf prog).any fun d => d.name == ("_law_pairs" : Str)) = true)
    (cr_law_later_doors : cd_law_later_doors = .ref cc_law_later_doors)
    (tc_law_later_doors : K.lookup cc_law_later_doors = some ⟨te_law_later_doors, td_law_later_doors, .fields tv_law_later_doors, tl_law_later_doors⟩)
    (tp_law_later_doors : tv_law_later_doors[11]? = some (.ref P_law_later_doors))
    (tn_law_later_doors : K.lookup P_law_later_doors = none)
    (tu_law_later_doors : ((recsOf prog).any fun d => d.name == ("_law_later_doors" : Str)) = true)
    (cr_law_doors : cd_law_doors = .ref cc_law_doors)
    (tc_law_doors : K.lookup cc_law_doors = some ⟨te_law_doors, td_law_doors, .fields tv_law_doors, tl_law_doors⟩)
    (tp_law_doors : tv_law_doors[11]? = some (.ref P_law_doors))
    (tn_law_doors : K.lookup P_law_doors = none)
    (tu_law_doors : ((recsOf prog).any fun d => d.name == ("_law_doors" : Str)) = true)
    (t_nd : [(P_law_pairs : Addr), (P_law_later_doors : Addr), (P_law_doors : Addr)].Nodup) :
    ∃ (ts : List (Addr × Addr)) (fd : FuncData), (∀ p ∈ ts, TbAt K h p.1 p.2) ∧ (∀ (s : Shared) (v : Value), BindsTo s fd ⟨[v], []⟩ [("script", v)]) ∧ ∀ base : Heap, K.In base → base.Ns mainGlobals mg → (∀ p ∈ ts, LamX.TabB base mg p.1 p.2) → FnG P w K mg base (L2.CX P w) 11 fa fd ["script"] (spLT K lamNames ts) := by
  have e := hfa.symm.trans (PySem.W.mg_of X G a_law)
  cases e
  obtain ⟨cm, m_SlotError, m_NoBook, m_NoTimetable, m_Book, m_T⟩ : ∃ cm : CM, cm "SlotError" = C_SlotError ∧ cm "NoBook" = C_NoBook ∧ cm "NoTimetable" = C_NoTimetable ∧ cm "Book" = C_Book ∧ cm.T = (([(cc_law_pairs, P_law_pairs), (cc_law_later_doors, P_law_later_doors), (cc_law_doors, P_law_doors)] : List (Addr × Addr)).map (·.2)).zip lamNames := ⟨⟨asc 0 [("SlotError", C_SlotError), ("NoBook", C_NoBook), ("NoTimetable", C_NoTimetable), ("Book", C_Book)], (([(cc_law_pairs, P_law_pairs), (cc_law_later_doors, P_law_later_doors), (cc_law_doors, P_law_doors)] : List (Addr × Addr)).map (·.2)).zip lamNames⟩, (show asc 0 [("SlotError", C_SlotError), ("NoBook", C_NoBook), ("NoTimetable", C_NoTimetable), ("Book", C_Book)] "SlotError" = C_SlotError from by (repeat (first | exact Mi.asc_at | refine Mi.asc_on (by decide +kernel) ?_))), (show asc 0 [("SlotError", C_SlotError), ("NoBook", C_NoBook), ("NoTimetable", C_NoTimetable), ("Book", C_Book)] "NoBook" = C_NoBook from by (repeat (first | exact Mi.asc_at | refine Mi.asc_on (by decide +kernel) ?_))), (show asc 0 [("SlotError", C_SlotError), ("NoBook", C_NoBook), ("NoTimetable", C_NoTimetable), ("Book", C_Book)] "NoTimetable" = C_NoTimetable from by (repeat (first | exact Mi.asc_at | refine Mi.asc_on (by decide +kernel) ?_))), (show asc 0 [("SlotError", C_SlotError), ("NoBook", C_NoBook), ("NoTimetable", C_NoTimetable), ("Book", C_Book)] "Book" = C_Book from by (repeat (first | exact Mi.asc_at | refine Mi.asc_on (by decide +kernel) ?_))), rfl⟩
  obtain ⟨fld, f_NoBook, f_NoTimetable⟩ : ∃ fld : Str → Str, fld "NoBook" = "index" ∧ fld "NoTimetable" = "index" := ⟨asc Str.empty [("NoBook", "index"), ("NoTimetable", "index")], by (repeat (first | exact Mi.asc_at | refine Mi.asc_on (by decide +kernel) ?_)), by (repeat (first | exact Mi.asc_at | refine Mi.asc_on (by decide +kernel) ?_))⟩
  have T : Tx K mg cm fld := { n_all := PySem.W.mg_none_of X G z_all, n_bool := PySem.W.mg_none_of X G z_bool, n_enumerate := PySem.W.mg_none_of X G z_enumerate, n_int := PySem.W.mg_none_of X G z_int, n_isinstance := PySem.W.mg_none_of X G z_isinstance, n_len := PySem.W.mg_none_of X G z_len, n_list := PySem.W.mg_none_of X G z_list, n_max := PySem.W.mg_none_of X G z_max, n_range := PySem.W.mg_none_of X G z_range, n_repr := PySem.W.mg_none_of X G z_repr, n_set := PySem.W.mg_none_of X G z_set, n_sorted := PySem.W.mg_none_of X G z_sorted, n_tuple := PySem.W.mg_none_of X G z_tuple, n_zip := PySem.W.mg_none_of X G z_zip, k_MAX_SIZE := ⟨tk_MAX_SIZE, PySem.W.mg_of X G v_MAX_SIZE⟩, no_Book_total := by rw [m_Book]; exact B_total, no_Book_rows := by rw [m_Book]; exact B_rows, no_Book_users := by rw [m_Book]; exact B_users, cl_Book := by rw [m_Book]; exact ⟨B_pg, B_hd, B_po, B_sa⟩, f_NoBook := f_NoBook, no_NoBook := by rw [m_NoBook]; exact nf_NoBook, em_NoBook := by rw [m_NoBook]; exact em_NoBook, f_NoTimetable := f_NoTimetable, no_NoTimetable := by rw [m_NoTimetable]; exact nf_NoTimetable, em_NoTimetable := by rw [m_NoTimetable]; exact em_NoTimetable, sb := by rw [m_SlotError]; exact ⟨PySem.W.mg_of X G n_SlotError, S_rd, S_ga, S_in⟩ }
  have F_law_draw := fun_mk (st := st_law_draw) l_law_draw c_law_draw k_law_draw
  have bd_law_draw := F_law_draw.binds (ps := ["well", "many"]) fun _ _ _ _ _ _ us hl => match us, hl with | [_, _], _ => rfl
  have F_NoTimetable_init := fun_mk (st := st_NoTimetable_init) l_NoTimetable_init c_NoTimetable_init k_NoTimetable_init
  have bd_NoTimetable_init := F_NoTimetable_init.binds (ps := ["self", "index"]) fun _ _ _ _ _ _ us hl => match us, hl with | [_, _], _ => rfl
  have F_is_int := fun_mk (st := st_is_int) l_is_int c_is_int k_is_int
  have bd_is_int := F_is_int.binds (ps := ["value"]) fun _ _ _ _ _ _ us hl => match us, hl with | [_], _ => rfl
  have F_Book_len := fun_mk (st := st_Book_len) l_Book_len c_Book_len k_Book_len
  have bd_Book_len := F_Book_len.binds (ps := ["self"]) fun _ _ _ _ _ _ us hl => match us, hl with | [_], _ => rfl
  have F_law_raised := fun_mk (st := st_law_raised) l_law_raised c_law_raised k_law_raised
  have bd_law_raised := F_law_raised.binds (ps := ["ask"]) fun _ _ _ _ _ _ us hl => match us, hl with | [_], _ => rfl
  have F_NoBook_init := fun_mk (st := st_NoBook_init) l_NoBook_init c_NoBook_init k_NoBook_init
  have bd_NoBook_init := F_NoBook_init.binds (ps := ["self", "index"]) fun _ _ _ _ _ _ us hl => match us, hl with | [_, _], _ => rfl
  have F_law_due := fun_mk (st := st_law_due) l_law_due c_law_due k_law_due
  have bd_law_due := F_law_due.binds (ps := ["allowed", "timetable"]) fun _ _ _ _ _ _ us hl => match us, hl with | [_, _], _ => rfl
  have F_is_slot_list := fun_mk (st := st_is_slot_list) l_is_slot_list c_is_slot_list k_is_slot_list
  have bd_is_slot_list := F_is_slot_list.binds (ps := ["value", "slots"]) fun _ _ _ _ _ _ us hl => match us, hl with | [_, _], _ => rfl
  have F_law_book := fun_mk (st := st_law_book) l_law_book c_law_book k_law_book
  have bd_law_book := F_law_book.binds (ps := ["well", "cap"]) fun _ _ _ _ _ _ us hl => match us, hl with | [_, _], _ => rfl
  have F_law_bent := fun_mk (st := st_law_bent) l_law_bent c_law_bent k_law_bent
  have bd_law_bent := F_law_bent.binds (ps := ["well", "timetable", "slots"]) fun _ _ _ _ _ _ us hl => match us, hl with | [_, _, _], _ => rfl
  have F_check_timetable := fun_mk (st := st_check_timetable) l_check_timetable c_check_timetable k_check_timetable
  have bd_check_timetable := F_check_timetable.binds (ps := ["book", "timetable"]) fun _ _ _ _ _ _ us hl => match us, hl with | [_, _], _ => rfl
  have F_Book_init := fun_mk (st := st_Book_init) l_Book_init c_Book_init k_Book_init
  have bd_Book_init := F_Book_init.binds (ps := ["self", "slots", "allowed"]) fun _ _ _ _ _ _ us hl => match us, hl with | [_, _, _], _ => rfl
  have F_vacated := fun_mk (st := st_vacated) l_vacated c_vacated k_vacated
  have bd_vacated := F_vacated.binds (ps := ["book", "timetable", "slot"]) fun _ _ _ _ _ _ us hl => match us, hl with | [_, _, _], _ => rfl
  have F_moved := fun_mk (st := st_moved) l_moved c_moved k_moved
  have bd_moved := F_moved.binds (ps := ["book", "timetable", "steps"]) fun _ _ _ _ _ _ us hl => match us, hl with | [_, _, _], _ => rfl
  have F_check_tight := fun_mk (st := st_check_tight) l_check_tight c_check_tight k_check_tight
  have bd_check_tight := F_check_tight.binds (ps := ["book", "timetable", "slots"]) fun _ _ _ _ _ _ us hl => match us, hl with | [_, _, _], _ => rfl
  have F_free_slots := fun_mk (st := st_free_slots) l_free_slots c_free_slots k_free_slots
  have bd_free_slots := F_free_slots.binds (ps := ["book", "timetable"]) fun _ _ _ _ _ _ us hl => match us, hl with | [_, _], _ => rfl
  have F_reached := fun_mk (st := st_reached) l_reached c_reached k_reached
  have F_check_plan := fun_mk (st := st_check_plan) l_check_plan c_check_plan k_check_plan
  have bd_check_plan := F_check_plan.binds (ps := ["book", "one", "other", "answer"]) fun _ _ _ _ _ _ us hl => match us, hl with | [_, _, _, _], _ => rfl
  have F_plan := fun_mk (st := st_plan) l_plan c_plan k_plan
  have bd_plan := F_plan.binds (ps := ["book", "one", "other"]) fun _ _ _ _ _ _ us hl => match us, hl with | [_, _, _], _ => rfl
  have F_least := fun_mk (st := st_least) l_least c_least k_least
  have bd_least := F_least.binds (ps := ["book", "one", "other"]) fun _ _ _ _ _ _ us hl => match us, hl with | [_, _, _], _ => rfl
  have F_tight_sets := fun_mk (st := st_tight_sets) l_tight_sets c_tight_sets k_tight_sets
  have bd_tight_sets := F_tight_sets.binds (ps := ["book", "timetable"]) fun _ _ _ _ _ _ us hl => match us, hl with | [_, _], _ => rfl
  have F_bring := fun_mk (st := st_bring) l_bring c_bring k_bring
  have bd_bring := F_bring.binds (ps := ["book", "timetable", "appointment", "slot"]) fun _ _ _ _ _ _ us hl => match us, hl with | [_, _, _, _], _ => rfl
  have F_cancelled := fun_mk (st := st_cancelled) l_cancelled c_cancelled k_cancelled
  have bd_cancelled := F_cancelled.binds (ps := ["book", "timetable", "appointments"]) fun _ _ _ _ _ _ us hl => match us, hl with | [_, _, _], _ => rfl
  have F_granted := fun_mk (st := st_granted) l_granted c_granted k_granted
  have bd_granted := F_granted.binds (ps := ["book", "timetable", "wishes"]) fun _ _ _ _ _ _ us hl => match us, hl with | [_, _, _], _ => rfl
  have F_check_granted := fun_mk (st := st_check_granted) l_check_granted c_check_granted k_check_granted
  have bd_check_granted := F_check_granted.binds (ps := ["book", "timetable", "wishes", "answer"]) fun _ _ _ _ _ _ us hl => match us, hl with | [_, _, _, _], _ => rfl
  have F_check_insert := fun_mk (st := st_check_insert) l_check_insert c_check_insert k_check_insert
  have bd_check_insert := F_check_insert.binds (ps := ["book", "timetable", "allowed", "answer"]) fun _ _ _ _ _ _ us hl => match us, hl with | [_, _, _, _], _ => rfl
  have F_most_granted := fun_mk (st := st_most_granted) l_most_granted c_most_granted k_most_granted
  have bd_most_granted := F_most_granted.binds (ps := ["book", "timetable", "wishes"]) fun _ _ _ _ _ _ us hl => match us, hl with | [_, _, _], _ => rfl
  have F_cheapest := fun_mk (st := st_cheapest) l_cheapest c_cheapest k_cheapest
  have bd_cheapest := F_cheapest.binds (ps := ["book", "timetable", "costs"]) fun _ _ _ _ _ _ us hl => match us, hl with | [_, _, _], _ => rfl
  have F_options := fun_mk (st := st_options) l_options c_options k_options
  have bd_options := F_options.binds (ps := ["book", "timetable", "appointment"]) fun _ _ _ _ _ _ us hl => match us, hl with | [_, _, _], _ => rfl
  have F_check_cancelled := fun_mk (st := st_check_cancelled) l_check_cancelled c_check_cancelled k_check_cancelled
  have bd_check_cancelled := F_check_cancelled.binds (ps := ["book", "timetable", "answer"]) fun _ _ _ _ _ _ us hl => match us, hl with | [_, _, _], _ => rfl
  have F_check_cheapest := fun_mk (st := st_check_cheapest) l_check_cheapest c_check_cheapest k_check_cheapest
  have bd_check_cheapest := F_check_cheapest.binds (ps := ["book", "timetable", "costs", "answer"]) fun _ _ _ _ _ _ us hl => match us, hl with | [_, _, _, _], _ => rfl
  have F_insert := fun_mk (st := st_insert) l_insert c_insert k_insert
  have bd_insert := F_insert.binds (ps := ["book", "timetable", "allowed"]) fun _ _ _ _ _ _ us hl => match us, hl with | [_, _, _], _ => rfl
  have F_steps_from_free := fun_mk (st := st_steps_from_free) l_steps_from_free c_steps_from_free k_steps_from_free
  have bd_steps_from_free := F_steps_from_free.binds (ps := ["book", "timetable"]) fun _ _ _ _ _ _ us hl => match us, hl with | [_, _], _ => rfl
  have F_moves := fun_mk (st := st_moves) l_moves c_moves k_moves
  have bd_moves := F_moves.binds (ps := ["book", "timetable"]) fun _ _ _ _ _ _ us hl => match us, hl with | [_, _], _ => rfl
  have F_fewest_cancelled := fun_mk (st := st_fewest_cancelled) l_fewest_cancelled c_fewest_cancelled k_fewest_cancelled
  have bd_fewest_cancelled := F_fewest_cancelled.binds (ps := ["book", "timetable"]) fun _ _ _ _ _ _ us hl => match us, hl with | [_, _], _ => rfl
  have F_open_slots := fun_mk (st := st_open_slots) l_open_slots c_open_slots k_open_slots
  have bd_open_slots := F_open_slots.binds (ps := ["book", "timetable"]) fun _ _ _ _ _ _ us hl => match us, hl with | [_, _], _ => rfl
  have F_frozen := fun_mk (st := st_frozen) l_frozen c_frozen k_frozen
  have bd_frozen := F_frozen.binds (ps := ["book", "timetable"]) fun _ _ _ _ _ _ us hl => match us, hl with | [_, _], _ => rfl
  have F_law_pairs := fun_mk (st := st_law_pairs) l_law_pairs c_law_pairs k_law_pairs
  have bd_law_pairs := F_law_pairs.binds (ps := ["book", "one", "other"]) fun _ _ _ _ _ _ us hl => match us, hl with | [_, _, _], _ => rfl
  have F_law_later_doors := fun_mk (st := st_law_later_doors) l_law_later_doors c_law_later_doors k_law_later_doors
  have bd_law_later_doors := F_law_later_doors.binds (ps := ["book", "one"]) fun _ _ _ _ _ _ us hl => match us, hl with | [_, _], _ => rfl
  have F_law_doors := fun_mk (st := st_law_doors) l_law_doors c_law_doors k_law_doors
  have bd_law_doors := F_law_doors.binds (ps := ["book", "one"]) fun _ _ _ _ _ _ us hl => match us, hl with | [_, _], _ => rfl
  have F_law_right := fun_mk (st := st_law_right) l_law_right c_law_right k_law_right
  have bd_law_right := F_law_right.binds (ps := ["well"]) fun _ _ _ _ _ _ us hl => match us, hl with | [_], _ => rfl
  have F_law := fun_mk (st := st_law) l_law c_law k_law
  have tb_law_pairs := top "_law_pairs" _ _ _ _ _ _ _ _ _ tu_law_pairs (PySem.W.mg_of X G a_law_pairs) l_law_pairs rfl cr_law_pairs tc_law_pairs tp_law_pairs tn_law_pairs
  have tb_law_later_doors := top "_law_later_doors" _ _ _ _ _ _ _ _ _ tu_law_later_doors (PySem.W.mg_of X G a_law_later_doors) l_law_later_doors rfl cr_law_later_doors tc_law_later_doors tp_law_later_doors tn_law_later_doors
  have tb_law_doors := top "_law_doors" _ _ _ _ _ _ _ _ _ tu_law_doors (PySem.W.mg_of X G a_law_doors) l_law_doors rfl cr_law_doors tc_law_doors tp_law_doors tn_law_doors
  refine ⟨[(cc_law_pairs, P_law_pairs), (cc_law_later_doors, P_law_later_doors), (cc_law_doors, P_law_doors)], PySem.W.fnOf "law" "law" (defArgs st_law) (defBody st_law) (defScope st_law) .none kV_law dc_law pm_law an_law cd_law ct_law, fun p hp => by
    simp only [List.mem_cons, List.not_mem_nil, or_false] at hp
    rcases hp with rfl | rfl | rfl
    · exact tb_law_pairs
    · exact tb_law_later_doors
    · exact tb_law_doors
  , fun s v => .of_eq rfl, fun base _ _ tB => ?_⟩
  have L_law_pairs : LamD mg base cm (PySem.W.fnOf "_law_pairs" "_law_pairs" (defArgs st_law_pairs) (defBody st_law_pairs) (defScope st_law_pairs) .none kV_law_pairs dc_law_pairs pm_law_pairs an_law_pairs cd_law_pairs ct_law_pairs) "_law_pairs" := lam_d (i := 0) cr_law_pairs (tB (cc_law_pairs, P_law_pairs) (by simp)) m_T t_nd rfl rfl
  have L_law_later_doors : LamD mg base cm (PySem.W.fnOf "_law_later_doors" "_law_later_doors" (defArgs st_law_later_doors) (defBody st_law_later_doors) (defScope st_law_later_doors) .none kV_law_later_doors dc_law_later_doors pm_law_later_doors an_law_later_doors cd_law_later_doors ct_law_later_doors) "_law_later_doors" := lam_d (i := 1) cr_law_later_doors (tB (cc_law_later_doors, P_law_later_doors) (by simp)) m_T t_nd rfl rfl
  have L_law_doors : LamD mg base cm (PySem.W.fnOf "_law_doors" "_law_doors" (defArgs st_law_doors) (defBody st_law_doors) (defScope st_law_doors) .none kV_law_doors dc_law_doors pm_law_doors an_law_doors cd_law_doors ct_law_doors) "_law_doors" := lam_d (i := 2) cr_law_doors (tB (cc_law_doors, P_law_doors) (by simp)) m_T t_nd rfl rfl
  have e_NoBook : ExK K mg cm fld "NoBook" := ⟨by rw [m_NoBook]; exact ⟨⟨nm_NoBook, q_NoBook, N_NoBook, bs_NoBook, bm_NoBook, sn_NoBook, sub_NoBook, ab_NoBook, col_NoBook, dd_NoBook, m0_NoBook, m1_NoBook, m2_NoBook, m3_NoBook, m5_NoBook, x_NoBook, rv_NoBook⟩, sa_NoBook, ex_NoBook, ty_NoBook, kc_NoBook⟩, T.f_NoBook.symm ▸ T.no_NoBook, by rw [m_NoBook]; exact PySem.W.mg_of X G n_NoBook, by rw [m_NoBook]; exact ⟨ga_NoBook, gg_NoBook, ex_NoBook, hd_NoBook⟩⟩
  have e_NoTimetable : ExK K mg cm fld "NoTimetable" := ⟨by rw [m_NoTimetable]; exact ⟨⟨nm_NoTimetable, q_NoTimetable, N_NoTimetable, bs_NoTimetable, bm_NoTimetable, sn_NoTimetable, sub_NoTimetable, ab_NoTimetable, col_NoTimetable, dd_NoTimetable, m0_NoTimetable, m1_NoTimetable, m2_NoTimetable, m3_NoTimetable, m5_NoTimetable, x_NoTimetable, rv_NoTimetable⟩, sa_NoTimetable, ex_NoTimetable, ty_NoTimetable, kc_NoTimetable⟩, T.f_NoTimetable.symm ▸ T.no_NoTimetable, by rw [m_NoTimetable]; exact PySem.W.mg_of X G n_NoTimetable, by rw [m_NoTimetable]; exact ⟨ga_NoTimetable, gg_NoTimetable, ex_NoTimetable, hd_NoTimetable⟩⟩
  have Z_law_draw := _root_.Mi.k_law_draw (P := P) (w := w) (base := base) T  F_law_draw (PySem.W.mg_of X G a_law_draw) bd_law_draw
  have X_NoTimetable : ExI P w K mg base cm fld "NoTimetable" := _root_.Mi.k_NoTimetable_init T e_NoTimetable F_NoTimetable_init (by rw [m_NoTimetable]; exact a_NoTimetable_init) t_NoTimetable_init bd_NoTimetable_init
  have Z_is_int := _root_.Mi.k_is_int (P := P) (w := w) (base := base) T  F_is_int (PySem.W.mg_of X G a_is_int) bd_is_int
  have Y_Book_len := _root_.Mi.k_Book_len (P := P) (w := w) (base := base) T  F_Book_len (by rw [m_Book]; exact a_Book_len) i_Book_len t_Book_len bd_Book_len
  have Z_law_raised := _root_.Mi.k_law_raised (P := P) (w := w) (base := base) T X_NoTimetable F_law_raised (PySem.W.mg_of X G a_law_raised) bd_law_raised
  have X_NoBook : ExI P w K mg base cm fld "NoBook" := _root_.Mi.k_NoBook_init T e_NoBook F_NoBook_init (by rw [m_NoBook]; exact a_NoBook_init) t_NoBook_init bd_NoBook_init
  have Z_law_due := _root_.Mi.k_law_due (P := P) (w := w) (base := base) T  F_law_due (PySem.W.mg_of X G a_law_due) bd_law_due
  have Z_is_slot_list := _root_.Mi.k_is_slot_list (P := P) (w := w) (base := base) T Z_is_int F_is_slot_list (PySem.W.mg_of X G a_is_slot_list) bd_is_slot_list
  have Z_law_book := _root_.Mi.k_law_book (P := P) (w := w) (base := base) T Z_law_draw F_law_book (PySem.W.mg_of X G a_law_book) bd_law_book
  have Z_law_bent := _root_.Mi.k_law_bent (P := P) (w := w) (base := base) T Z_law_draw F_law_bent (PySem.W.mg_of X G a_law_bent) bd_law_bent
  have Z_check_timetable := _root_.Mi.k_check_timetable (P := P) (w := w) (base := base) T Z_is_int X_NoTimetable Y_Book_len F_check_timetable (PySem.W.mg_of X G a_check_timetable) bd_check_timetable
  have M_Book := _root_.Mi.k_Book_init (P := P) (w := w) (base := base) T Z_is_int Z_is_slot_list X_NoBook F_Book_init (by rw [m_Book]; exact ⟨B_mk, a_Book_init, i_Book_init, B_kc⟩) (by rw [m_Book]; exact PySem.W.mg_of X G n_Book) bd_Book_init
  have Z_vacated := _root_.Mi.k_vacated (P := P) (w := w) (base := base) T Z_check_timetable F_vacated (PySem.W.mg_of X G a_vacated) bd_vacated
  have Z_moved := _root_.Mi.k_moved (P := P) (w := w) (base := base) T Z_check_timetable F_moved (PySem.W.mg_of X G a_moved) bd_moved
  have Z_check_tight := _root_.Mi.k_check_tight (P := P) (w := w) (base := base) T Z_check_timetable F_check_tight (PySem.W.mg_of X G a_check_tight) bd_check_tight
  have Z_free_slots := _root_.Mi.k_free_slots (P := P) (w := w) (base := base) T Z_check_timetable F_free_slots (PySem.W.mg_of X G a_free_slots) bd_free_slots
  have O_reached := _root_.Mi.o_reached (P := P) (w := w) (base := base) T Z_check_timetable F_reached
  have Q_reached_2_most : CalK P w K mg base cm fld "reached" 4 3 2 ["most"] [0, 1, 2] f_reached := ⟨⟨_, _, _, O_reached, PySem.W.mg_of X G a_reached, F_reached.kp, kw_b F_reached fun _ _ _ _ _ _ us ws h1 h2 => match us, ws, h1, h2 with | [_, _], [_], _, _ => rfl⟩⟩
  have Z_check_plan := _root_.Mi.k_check_plan (P := P) (w := w) (base := base) T Z_check_timetable F_check_plan (PySem.W.mg_of X G a_check_plan) bd_check_plan
  have Z_plan := _root_.Mi.k_plan (P := P) (w := w) (base := base) T Z_check_timetable F_plan (PySem.W.mg_of X G a_plan) bd_plan
  have Z_least := _root_.Mi.k_least (P := P) (w := w) (base := base) T Z_check_timetable F_least (PySem.W.mg_of X G a_least) bd_least
  have Z_tight_sets := _root_.Mi.k_tight_sets (P := P) (w := w) (base := base) T Z_check_timetable F_tight_sets (PySem.W.mg_of X G a_tight_sets) bd_tight_sets
  have Z_bring := _root_.Mi.k_bring (P := P) (w := w) (base := base) T Z_check_timetable F_bring (PySem.W.mg_of X G a_bring) bd_bring
  have Z_cancelled := _root_.Mi.k_cancelled (P := P) (w := w) (base := base) T Z_check_timetable F_cancelled (PySem.W.mg_of X G a_cancelled) bd_cancelled
  have Z_granted := _root_.Mi.k_granted (P := P) (w := w) (base := base) T Z_check_timetable F_granted (PySem.W.mg_of X G a_granted) bd_granted
  have Z_check_granted := _root_.Mi.k_check_granted (P := P) (w := w) (base := base) T Z_check_timetable F_check_granted (PySem.W.mg_of X G a_check_granted) bd_check_granted
  have Z_check_insert := _root_.Mi.k_check_insert (P := P) (w := w) (base := base) T Z_check_timetable F_check_insert (PySem.W.mg_of X G a_check_insert) bd_check_insert
  have Z_most_granted := _root_.Mi.k_most_granted (P := P) (w := w) (base := base) T Z_check_timetable F_most_granted (PySem.W.mg_of X G a_most_granted) bd_most_granted
  have Z_cheapest := _root_.Mi.k_cheapest (P := P) (w := w) (base := base) T Z_check_timetable F_cheapest (PySem.W.mg_of X G a_cheapest) bd_cheapest
  have Z_options := _root_.Mi.k_options (P := P) (w := w) (base := base) T Z_check_timetable F_options (PySem.W.mg_of X G a_options) bd_options
  have Z_check_cancelled := _root_.Mi.k_check_cancelled (P := P) (w := w) (base := base) T Z_check_timetable F_check_cancelled (PySem.W.mg_of X G a_check_cancelled) bd_check_cancelled
  have Z_check_cheapest := _root_.Mi.k_check_cheapest (P := P) (w := w) (base := base) T Z_check_timetable F_check_cheapest (PySem.W.mg_of X G a_check_cheapest) bd_check_cheapest
  have Z_insert := _root_.Mi.k_insert (P := P) (w := w) (base := base) T Z_check_timetable F_insert (PySem.W.mg_of X G a_insert) bd_insert
  have Z_steps_from_free := _root_.Mi.k_steps_from_free (P := P) (w := w) (base := base) T Z_free_slots F_steps_from_free (PySem.W.mg_of X G a_steps_from_free) bd_steps_from_free
  have Z_moves := _root_.Mi.k_moves (P := P) (w := w) (base := base) T Z_free_slots F_moves (PySem.W.mg_of X G a_moves) bd_moves
  have Z_fewest_cancelled := _root_.Mi.k_fewest_cancelled (P := P) (w := w) (base := base) T Z_tight_sets F_fewest_cancelled (PySem.W.mg_of X G a_fewest_cancelled) bd_fewest_cancelled
  have Z_open_slots := _root_.Mi.k_open_slots (P := P) (w := w) (base := base) T Z_steps_from_free F_open_slots (PySem.W.mg_of X G a_open_slots) bd_open_slots
  have Z_frozen := _root_.Mi.k_frozen (P := P) (w := w) (base := base) T Z_steps_from_free F_frozen (PySem.W.mg_of X G a_frozen) bd_frozen
  have Z_law_pairs := _root_.Mi.k_law_pairs (P := P) (w := w) (base := base) T Z_plan Z_least Z_check_plan Z_law_raised F_law_pairs (PySem.W.mg_of X G a_law_pairs) bd_law_pairs L_law_pairs
  have Z_law_later_doors := _root_.Mi.k_law_later_doors (P := P) (w := w) (base := base) T Z_options Z_bring Z_insert Z_check_insert Z_granted Z_check_granted Z_most_granted Z_cheapest Z_check_cheapest Z_tight_sets Z_cancelled Z_fewest_cancelled Z_check_cancelled Z_law_raised F_law_later_doors (PySem.W.mg_of X G a_law_later_doors) bd_law_later_doors L_law_later_doors
  have Z_law_doors := _root_.Mi.k_law_doors (P := P) (w := w) (base := base) T Z_check_timetable Z_free_slots Z_moves Z_moved Z_open_slots Z_frozen Z_check_tight Z_vacated Z_law_raised Q_reached_2_most F_law_doors (PySem.W.mg_of X G a_law_doors) bd_law_doors L_law_doors
  have Z_law_right := _root_.Mi.k_law_right (P := P) (w := w) (base := base) T Z_law_book Z_law_draw Z_law_bent Z_law_due Z_law_doors Z_law_later_doors Z_law_pairs M_Book F_law_right (PySem.W.mg_of X G a_law_right) bd_law_right
  exact law_endT (m_T ▸ law_end (_root_.Mi.k_law (P := P) (w := w) (base := base) T Z_law_right F_law) law_true) rfl
end Mi
open PySem PySem.W PyProof.Rows
set_option maxRecDepth 100000 in
set_option maxHeartbeats 0 in
theorem PySem.Challenge.cw_reslot_k04_invalid_timetables_holds : PySem.Challenge.rw_reslot_k04_invalid_timetables.Holds := by
  w_on; o_law; k_head; (case hw => w_witness2)
  k_fill
  refine Mi.walkT (l := PySem.Challenge.rw_reslot_k04_invalid_timetables) (k := 11) (x := "script") (CX := fun w => L2.CX PySem.Challenge.rw_reslot_k04_invalid_timetables.prog w) (sp := fun w ts => Mi.spLT _ Mi.lamNames ts) rfl (by decide) rfl ⟨rfl, by decide, by decide⟩ (fun w h Y => by first | exact PySem.W.kIn_of Y | exact PySem.W.km_in_of Y) ?F (fun w ts J a ns hl nt nz hS => Mi.spLT_in hl nt nz hS) (fun w H s e s' => Mi.cx_no)
  case F =>
    intro w mg fa h KX G hmg top
    refine' Mi.all_mk KX G hmg top ?n_SlotError ?n_NoBook ?n_NoTimetable ?n_Book ?a_law_draw ?l_law_draw ?c_law_draw ?k_law_draw ?a_NoTimetable_init ?t_NoTimetable_init ?l_NoTimetable_init ?c_NoTimetable_init ?k_NoTimetable_init ?a_is_int ?l_is_int ?c_is_int ?k_is_int ?a_Book_len ?t_Book_len ?i_Book_len ?l_Book_len ?c_Book_len ?k_Book_len ?a_law_raised ?l_law_raised ?c_law_raised ?k_law_raised ?a_NoBook_init ?t_NoBook_init ?l_NoBook_init ?c_NoBook_init ?k_NoBook_init ?a_law_due ?l_law_due ?c_law_due ?k_law_due ?a_is_slot_list ?l_is_slot_list ?c_is_slot_list ?k_is_slot_list ?a_law_book ?l_law_book ?c_law_book ?k_law_book ?a_law_bent ?l_law_bent ?c_law_bent ?k_law_bent ?a_check_timetable ?l_check_timetable ?c_check_timetable ?k_check_timetable ?a_Book_init ?t_Book_init ?i_Book_init ?l_Book_init ?c_Book_init ?k_Book_init ?a_vacated ?l_vacated ?c_vacated ?k_vacated ?a_moved ?l_moved ?c_moved ?k_moved ?a_check_tight ?l_check_tight ?c_check_tight ?k_check_tight ?a_free_slots ?l_free_slots ?c_free_slots ?k_free_slots ?a_reached ?l_reached ?c_reached ?k_reached ?a_check_plan ?l_check_plan ?c_check_plan ?k_check_plan ?a_plan ?l_plan ?c_plan ?k_plan ?a_least ?l_least ?c_least ?k_least ?a_tight_sets ?l_tight_sets ?c_tight_sets ?k_tight_sets ?a_bring ?l_bring ?c_bring ?k_bring ?a_cancelled ?l_cancelled ?c_cancelled ?k_cancelled ?a_granted ?l_granted ?c_granted ?k_granted ?a_check_granted ?l_check_granted ?c_check_granted ?k_check_granted ?a_check_insert ?l_check_insert ?c_check_insert ?k_check_insert ?a_most_granted ?l_most_granted ?c_most_granted ?k_most_granted ?a_cheapest ?l_cheapest ?c_cheapest ?k_cheapest ?a_options ?l_options ?c_options ?k_options ?a_check_cancelled ?l_check_cancelled ?c_check_cancelled ?k_check_cancelled ?a_check_cheapest ?l_check_cheapest ?c_check_cheapest ?k_check_cheapest ?a_insert ?l_insert ?c_insert ?k_insert ?a_steps_from_free ?l_steps_from_free ?c_steps_from_free ?k_steps_from_free ?a_moves ?l_moves ?c_moves ?k_moves ?a_fewest_cancelled ?l_fewest_cancelled ?c_fewest_cancelled ?k_fewest_cancelled ?a_open_slots ?l_open_slots ?c_open_slots ?k_open_slots ?a_frozen ?l_frozen ?c_frozen ?k_frozen ?a_law_pairs ?l_law_pairs ?c_law_pairs ?k_law_pairs ?a_law_later_doors ?l_law_later_doors ?c_law_later_doors ?k_law_later_doors ?a_law_doors ?l_law_doors ?c_law_doors ?k_law_doors ?a_law_right ?l_law_right ?c_law_right ?k_law_right ?a_law ?l_law ?c_law ?k_law ?B_pg ?B_hd ?B_po ?B_sa ?B_mk ?B_kc ?B_total ?B_rows ?B_users ?x_NoBook ?rv_NoBook ?sa_NoBook ?ex_NoBook ?ty_NoBook ?kc_NoBook ?nf_NoBook ?ga_NoBook ?gg_NoBook ?hd_NoBook ?em_NoBook ?x_NoTimetable ?rv_NoTimetable ?sa_NoTimetable ?ex_NoTimetable ?ty_NoTimetable ?kc_NoTimetable ?nf_NoTimetable ?ga_NoTimetable ?gg_NoTimetable ?hd_NoTimetable ?em_NoTimetable ?S_rd ?S_ga ?S_in ?z_all ?z_bool ?z_enumerate ?z_int ?z_isinstance ?z_len ?z_list ?z_max ?z_range ?z_repr ?z_set ?z_sorted ?z_tuple ?z_zip ?v_MAX_SIZE ?cr_law_pairs ?tc_law_pairs ?tp_law_pairs ?tn_law_pairs ?tu_law_pairs ?cr_law_later_doors ?tc_law_later_doors ?tp_law_later_doors ?tn_law_later_doors ?tu_law_later_doors ?cr_law_doors ?tc_law_doors ?tp_law_doors ?tn_law_doors ?tu_law_doors ?t_nd
    (case n_SlotError => k_is)
    (case n_NoBook => k_is)
    (case n_NoTimetable => k_is)
    (case n_Book => k_is)
    (case a_law_draw => k_is)
    (case l_law_draw => k_is)
    (case c_law_draw => k_is)
    (case k_law_draw => k_is)
    (case a_NoTimetable_init => k_is)
    (case t_NoTimetable_init => k_is)
    (case l_NoTimetable_init => k_is)
    (case c_NoTimetable_init => k_is)
    (case k_NoTimetable_init => k_is)
    (case a_is_int => k_is)
    (case l_is_int => k_is)
    (case c_is_int => k_is)
    (case k_is_int => k_is)
    (case a_Book_len => k_is)
    (case t_Book_len => k_is)
    (case i_Book_len => k_is)
    (case l_Book_len => k_is)
    (case c_Book_len => k_is)
    (case k_Book_len => k_is)
    (case a_law_raised => k_is)
    (case l_law_raised => k_is)
    (case c_law_raised => k_is)
    (case k_law_raised => k_is)
    (case a_NoBook_init => k_is)
    (case t_NoBook_init => k_is)
    (case l_NoBook_init => k_is)
    (case c_NoBook_init => k_is)
    (case k_NoBook_init => k_is)
    (case a_law_due => k_is)
    (case l_law_due => k_is)
    (case c_law_due => k_is)
    (case k_law_due => k_is)
    (case a_is_slot_list => k_is)
    (case l_is_slot_list => k_is)
    (case c_is_slot_list => k_is)
    (case k_is_slot_list => k_is)
    (case a_law_book => k_is)
    (case l_law_book => k_is)
    (case c_law_book => k_is)
    (case k_law_book => k_is)
    (case a_law_bent => k_is)
    (case l_law_bent => k_is)
    (case c_law_bent => k_is)
    (case k_law_bent => k_is)
    (case a_check_timetable => k_is)
    (case l_check_timetable => k_is)
    (case c_check_timetable => k_is)
    (case k_check_timetable => k_is)
    (case a_Book_init => k_is)
    (case t_Book_init => k_is)
    (case i_Book_init => k_is)
    (case l_Book_init => k_is)
    (case c_Book_init => k_is)
    (case k_Book_init => k_is)
    (case a_vacated => k_is)
    (case l_vacated => k_is)
    (case c_vacated => k_is)
    (case k_vacated => k_is)
    (case a_moved => k_is)
    (case l_moved => k_is)
    (case c_moved => k_is)
    (case k_moved => k_is)
    (case a_check_tight => k_is)
    (case l_check_tight => k_is)
    (case c_check_tight => k_is)
    (case k_check_tight => k_is)
    (case a_free_slots => k_is)
    (case l_free_slots => k_is)
    (case c_free_slots => k_is)
    (case k_free_slots => k_is)
    (case a_reached => k_is)
    (case l_reached => k_is)
    (case c_reached => k_is)
    (case k_reached => k_is)
    (case a_check_plan => k_is)
    (case l_check_plan => k_is)
    (case c_check_plan => k_is)
    (case k_check_plan => k_is)
    (case a_plan => k_is)
    (case l_plan => k_is)
    (case c_plan => k_is)
    (case k_plan => k_is)
    (case a_least => k_is)
    (case l_least => k_is)
    (case c_least => k_is)
    (case k_least => k_is)
    (case a_tight_sets => k_is)
    (case l_tight_sets => k_is)
    (case c_tight_sets => k_is)
    (case k_tight_sets => k_is)
    (case a_bring => k_is)
    (case l_bring => k_is)
    (case c_bring => k_is)
    (case k_bring => k_is)
    (case a_cancelled => k_is)
    (case l_cancelled => k_is)
    (case c_cancelled => k_is)
    (case k_cancelled => k_is)
    (case a_granted => k_is)
    (case l_granted => k_is)
    (case c_granted => k_is)
    (case k_granted => k_is)
    (case a_check_granted => k_is)
    (case l_check_granted => k_is)
    (case c_check_granted => k_is)
    (case k_check_granted => k_is)
    (case a_check_insert => k_is)
    (case l_check_insert => k_is)
    (case c_check_insert => k_is)
    (case k_check_insert => k_is)
    (case a_most_granted => k_is)
    (case l_most_granted => k_is)
    (case c_most_granted => k_is)
    (case k_most_granted => k_is)
    (case a_cheapest => k_is)
    (case l_cheapest => k_is)
    (case c_cheapest => k_is)
    (case k_cheapest => k_is)
    (case a_options => k_is)
    (case l_options => k_is)
    (case c_options => k_is)
    (case k_options => k_is)
    (case a_check_cancelled => k_is)
    (case l_check_cancelled => k_is)
    (case c_check_cancelled => k_is)
    (case k_check_cancelled => k_is)
    (case a_check_cheapest => k_is)
    (case l_check_cheapest => k_is)
    (case c_check_cheapest => k_is)
    (case k_check_cheapest => k_is)
    (case a_insert => k_is)
    (case l_insert => k_is)
    (case c_insert => k_is)
    (case k_insert => k_is)
    (case a_steps_from_free => k_is)
    (case l_steps_from_free => k_is)
    (case c_steps_from_free => k_is)
    (case k_steps_from_free => k_is)
    (case a_moves => k_is)
    (case l_moves => k_is)
    (case c_moves => k_is)
    (case k_moves => k_is)
    (case a_fewest_cancelled => k_is)
    (case l_fewest_cancelled => k_is)
    (case c_fewest_cancelled => k_is)
    (case k_fewest_cancelled => k_is)
    (case a_open_slots => k_is)
    (case l_open_slots => k_is)
    (case c_open_slots => k_is)
    (case k_open_slots => k_is)
    (case a_frozen => k_is)
    (case l_frozen => k_is)
    (case c_frozen => k_is)
    (case k_frozen => k_is)
    (case a_law_pairs => k_is)
    (case l_law_pairs => k_is)
    (case c_law_pairs => k_is)
    (case k_law_pairs => k_is)
    (case a_law_later_doors => k_is)
    (case l_law_later_doors => k_is)
    (case c_law_later_doors => k_is)
    (case k_law_later_doors => k_is)
    (case a_law_doors => k_is)
    (case l_law_doors => k_is)
    (case c_law_doors => k_is)
    (case k_law_doors => k_is)
    (case a_law_right => k_is)
    (case l_law_right => k_is)
    (case c_law_right => k_is)
    (case k_law_right => k_is)
    (case a_law => k_is)
    (case l_law => k_is)
    (case c_law => k_is)
    (case k_law => k_is)
    (case B_pg => k_is)
    (case B_hd => k_is)
    (case B_po => k_is)
    (case B_sa => k_is)
    (case B_mk => k_is)
    (case B_kc => k_is)
    (case B_total => k_is)
    (case B_rows => k_is)
    (case B_users => k_is)
    (case x_NoBook => k_is)
    (case rv_NoBook => decide +kernel)
    (case sa_NoBook => k_is)
    (case ex_NoBook => k_is)
    (case ty_NoBook => k_is)
    (case kc_NoBook => k_is)
    (case nf_NoBook => k_is)
    (case ga_NoBook => k_is)
    (case gg_NoBook => k_is)
    (case hd_NoBook => k_is)
    (case em_NoBook => refine PySem.W.exm_ref ?_ ?_ ?_ ?_ <;> k_is)
    (case x_NoTimetable => k_is)
    (case rv_NoTimetable => decide +kernel)
    (case sa_NoTimetable => k_is)
    (case ex_NoTimetable => k_is)
    (case ty_NoTimetable => k_is)
    (case kc_NoTimetable => k_is)
    (case nf_NoTimetable => k_is)
    (case ga_NoTimetable => k_is)
    (case gg_NoTimetable => k_is)
    (case hd_NoTimetable => k_is)
    (case em_NoTimetable => refine PySem.W.exm_ref ?_ ?_ ?_ ?_ <;> k_is)
    (case S_rd => k_is)
    (case S_ga => k_is)
    (case S_in => k_is)
    (case z_all => k_is)
    (case z_bool => k_is)
    (case z_enumerate => k_is)
    (case z_int => k_is)
    (case z_isinstance => k_is)
    (case z_len => k_is)
    (case z_list => k_is)
    (case z_max => k_is)
    (case z_range => k_is)
    (case z_repr => k_is)
    (case z_set => k_is)
    (case z_sorted => k_is)
    (case z_tuple => k_is)
    (case z_zip => k_is)
    (case v_MAX_SIZE => k_is)
    (case cr_law_pairs => rfl)
    (case tc_law_pairs => k_is)
    (case tp_law_pairs => rfl)
    (case tn_law_pairs => kernel_rfl)
    (case tu_law_pairs => decide +kernel)
    (case cr_law_later_doors => rfl)
    (case tc_law_later_doors => k_is)
    (case tp_law_later_doors => rfl)
    (case tn_law_later_doors => kernel_rfl)
    (case tu_law_later_doors => decide +kernel)
    (case cr_law_doors => rfl)
    (case tc_law_doors => k_is)
    (case tp_law_doors => rfl)
    (case tn_law_doors => kernel_rfl)
    (case tu_law_doors => decide +kernel)
    (case t_nd => decide)

end
