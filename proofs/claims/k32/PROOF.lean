import PyProof.Rows.All
import Wide.All
import OpenK.AllK
import Wide.FinOn
import HandS.ForMost
import HandS.ForExc
import HandS.TryMany
import HandS.CallSlots
import HandS.TupSets
import HandS.Zip
import HandS.Deep
import HandS.Flow
import HandS.IsInst
import KE.GoesNew
import KE.GoesMore
import KE.GoesEnum
import HandS.TupAny
import HandS.TupLe
import HandS.TupMul
import HandS.SortInts
import HandS.EndBits
import HandS.Head0
import HandS.Head1
import HandS.Head2
import HandS.HeadEnd
import HandS.HeadHook1
import HandS.HeadHook2
import KE.DataMinMax
import KE.SortData
import KE.DataCmp
import HandS.SetFor
import HandS.Strs
import HandS.Style
import HandS.Conv
import PySem.Challenge.RW_ringtable_k32_rings_refused
set_option Elab.async false
set_option linter.all false
set_option maxRecDepth 100000
set_option maxHeartbeats 4000000
/-! Sim0: the data level. A def of the program is mirrored by a function over PyData; R is what such a function gives: a value, a refusal (Xc), or no (nothing is said). -/
namespace Rt
open PySem
abbrev D := PyData
inductive Xc where
  | table | ring | places | point | nofit | many | full | text | far | bag | told | deed
  deriving DecidableEq
inductive R (α : Type) where
  | ok (a : α) | exc (c : Xc) | no
def R.bind {α β : Type} (x : R α) (f : α → R β) : R β := match x with
  | .ok a => f a
  | .exc c => .exc c
  | .no => .no
instance : Monad R where
  pure := R.ok
  bind := R.bind
@[simp] theorem ok_bind {α β : Type} (a : α) (f : α → R β) : (R.ok a >>= f) = f a := rfl
@[simp] theorem exc_bind {α β : Type} (c : Xc) (f : α → R β) : (R.exc c >>= f) = R.exc c := rfl
@[simp] theorem no_bind {α β : Type} (f : α → R β) : ((R.no : R α) >>= f) = R.no := rfl
@[simp] theorem pure_ok {α : Type} (a : α) : (pure a : R α) = R.ok a := rfl
theorem bind_ok {α β : Type} {x : R α} {f : α → R β} {b : β} (h : (x >>= f) = R.ok b) : ∃ a, x = R.ok a ∧ f a = R.ok b := by
  cases x with
  | ok a => exact ⟨a, rfl, h⟩
  | exc c => cases h
  | no => cases h
theorem bind_exc {α β : Type} {x : R α} {f : α → R β} {c : Xc} (h : (x >>= f) = R.exc c) : x = R.exc c ∨ ∃ a, x = R.ok a ∧ f a = R.exc c := by
  cases x with
  | ok a => exact .inr ⟨a, rfl, h⟩
  | exc e => cases h; exact .inl rfl
  | no => cases h
theorem bind_ne {α β : Type} {x : R α} {f : α → R β} (h : (x >>= f) ≠ R.no) : x ≠ R.no ∧ ∀ a, x = R.ok a → f a ≠ R.no := by
  cases x with
  | ok a => exact ⟨(fun z => by cases z), (fun b e => by cases e; exact h)⟩
  | exc c => exact ⟨(fun z => by cases z), (fun b e => by cases e)⟩
  | no => exact absurd rfl h
abbrev Env := List (Option D)
abbrev EF := Env → R D
abbrev TF := Env → R Bool
abbrev AF := Env → R (List D)
/-- what a statement comes to -/
inductive Out where
  | nx (e : Env) | rt (d : D) | bk (e : Env) | ex (c : Xc) (e : Env) | no
abbrev SF := Env → Out
abbrev GF := D → Env → R Env
/-! ### expressions -/
def slot (env : Env) (i : Nat) : R D := match env[i]? with
  | some (some d) => .ok d
  | _ => .no
def eVar (i : Nat) : EF := fun env => slot env i
def eC (d : D) : EF := fun _ => .ok d
def eNo : EF := fun _ => .no
/-- a refusal by a built-in thing is not told -/
def quiet {α : Type} : R α → R α
  | .ok a => .ok a
  | _ => .no
@[simp] theorem quiet_ok {α : Type} (a : α) : quiet (R.ok a) = R.ok a := rfl
@[simp] theorem quiet_no {α : Type} : quiet (R.no : R α) = R.no := rfl
theorem of_quiet {α : Type} {x : R α} {a : α} (h : quiet x = R.ok a) : x = R.ok a := by
  cases x with
  | ok b => exact h
  | exc c => cases h
  | no => cases h
theorem quiet_exc {α : Type} {x : R α} {c : Xc} : quiet x ≠ R.exc c := by
  cases x <;> (intro h; cases h)
theorem quiet_ne {α : Type} {x : R α} (h : quiet x ≠ R.no) : ∃ a, x = R.ok a := by
  cases x with
  | ok a => exact ⟨a, rfl⟩
  | exc c => exact absurd rfl h
  | no => exact absurd rfl h
def eOp1 (g : D → R D) (a : EF) : EF := fun env => a env >>= fun x => quiet (g x)
def eOp2 (g : D → D → R D) (a b : EF) : EF := fun env => a env >>= fun x => b env >>= fun y => quiet (g x y)
def truthD : D → R Bool
  | .none => .ok false
  | .bool b => .ok b
  | .int i => .ok (i != 0)
  | .str s => if s.length ≤ sizeLine then .ok ((s.length : Int) != 0) else .no
  | .list xs => .ok !xs.isEmpty
  | .tuple xs => .ok !xs.isEmpty
  | .dict _ => .no
def tTru (a : EF) : TF := fun env => a env >>= truthD
/-- a test whose value is True or False -/
def tVal (a : EF) : TF := fun env => a env >>= fun d => match d with
  | .bool b => .ok b
  | _ => .no
def tNot (t : TF) : TF := fun env => t env >>= fun b => .ok !b
def tAnd (t u : TF) : TF := fun env => t env >>= fun b => if b = true then u env else .ok false
def tOr (t u : TF) : TF := fun env => t env >>= fun b => if b = true then .ok true else u env
def eIf (t : TF) (a b : EF) : EF := fun env => t env >>= fun k => if k = true then a env else b env
def eAnd (a b : EF) : EF := fun env => a env >>= fun x => truthD x >>= fun k => if k = true then b env else .ok x
def eOr (a b : EF) : EF := fun env => a env >>= fun x => truthD x >>= fun k => if k = true then .ok x else b env
def eNot (a : EF) : EF := fun env => a env >>= fun x => truthD x >>= fun k => .ok (.bool !k)
/-- a < b < c -/
def eChain (g g' : D → D → R D) (a b c : EF) : EF := fun env => a env >>= fun x => b env >>= fun y => quiet (g x y) >>= fun z => match z with
  | .bool true => c env >>= fun w => quiet (g' y w)
  | .bool false => .ok (.bool false)
  | _ => .no
def aNil : AF := fun _ => .ok []
def aCons (a : EF) (r : AF) : AF := fun env => a env >>= fun x => r env >>= fun xs => .ok (x :: xs)
def eList (a : AF) : EF := fun env => a env >>= fun xs => if xs.length ≤ sizeLine then .ok (.list xs) else .no
def eTup (a : AF) : EF := fun env => a env >>= fun xs => if xs.length ≤ sizeLine then .ok (.tuple xs) else .no
def eCall (f : List D → R D) (a : AF) : EF := fun env => a env >>= f
/-- a built-in thing called -/
def eCallB (f : List D → R D) (a : AF) : EF := fun env => a env >>= fun xs => quiet (f xs)
/-! ### targets -/
def gName (i : Nat) : GF := fun d env => .ok (env.set i (some d))
def gNil : List D → Env → R Env := fun ds env => match ds with
  | [] => .ok env
  | _ => .no
def gCons (g : GF) (r : List D → Env → R Env) : List D → Env → R Env := fun ds env => match ds with
  | d :: ds => g d env >>= fun e => r ds e
  | [] => .no
def gTup (n : Nat) (gs : List D → Env → R Env) : GF := fun d env => match d with
  | .tuple ds => if ds.length = n then gs ds env else .no
  | _ => .no
/-! ### what is walked: the items -/
abbrev IF_ := Env → R (List D)
def iSeq (a : EF) : IF_ := fun env => a env >>= fun d => match d with
  | .list xs => .ok xs
  | .tuple xs => .ok xs
  | _ => .no
def iKeys (a : EF) : IF_ := fun env => a env >>= fun d => match d with
  | .dict es => .ok (es.map (·.1))
  | _ => .no
def rangeL (lo hi : Int) : List D := (List.range (hi - lo).toNat).map fun i : Nat => .int (lo + (i : Int))
def iRange1 (a : EF) : IF_ := fun env => a env >>= fun d => match d with
  | .int n => if -100000 ≤ n ∧ n ≤ 100000 then .ok (rangeL 0 n) else .no
  | _ => .no
def iRange2 (a b : EF) : IF_ := fun env => a env >>= fun d => b env >>= fun e => match d, e with
  | .int m, .int n => if -100000 ≤ m ∧ m ≤ 100000 ∧ -100000 ≤ n ∧ n ≤ 100000 then .ok (rangeL m n) else .no
  | _, _ => .no
def seqOf : D → R (List D)
  | .list xs => .ok xs
  | .tuple xs => .ok xs
  | _ => .no
def zipL (xs ys : List D) : List D := List.zipWith (fun a b => .tuple [a, b]) xs ys
def iZip (a b : EF) : IF_ := fun env => a env >>= fun d => b env >>= fun e => seqOf d >>= fun xs => seqOf e >>= fun ys => .ok (zipL xs ys)
def enumL (n : Nat) : List D → List D
  | [] => []
  | x :: xs => .tuple [.int n, x] :: enumL (n + 1) xs
def iEnum (a : EF) : IF_ := fun env => a env >>= fun d => seqOf d >>= fun xs => .ok (enumL 0 xs)
/-! ### comprehensions -/
def wipeE (env : Env) : List Nat → Env
  | [] => env
  | v :: vs => (wipeE env vs).set v none
def compL (g : GF) (t : TF) (e : EF) (env : Env) : List D → R (List D)
  | [] => .ok []
  | d :: ds => g d env >>= fun env' => t env' >>= fun b => if b = true then e env' >>= fun x => compL g t e env ds >>= fun r => .ok (x :: r) else compL g t e env ds
def tYes : TF := fun _ => .ok true
def eComp (src : IF_) (g : GF) (vs : List Nat) (t : TF) (e : EF) : EF := fun env => src env >>= fun ds => quiet (compL g t e (wipeE env vs) ds) >>= fun r => .ok (.list r)
/-! ### statements -/
def sPass : SF := fun env => .nx env
def sSeq (a b : SF) : SF := fun env => match a env with
  | .nx e => b e
  | o => o
def outR {α : Type} (x : R α) (env : Env) (k : α → Out) : Out := match x with
  | .ok a => k a
  | .exc c => .ex c env
  | .no => .no
def sAsg (e : EF) (g : GF) : SF := fun env => outR (e env) env fun d => match g d env with
  | .ok env' => .nx env'
  | _ => .no
/-- x = e, a new object that x owns -/
def sSetO (i : Nat) (e : EF) : SF := fun env => if i < env.length then sAsg e (gName i) env else .no
def sExpr (e : EF) : SF := fun env => outR (e env) env fun _ => .nx env
def sRet (e : EF) : SF := fun env => outR (e env) env fun d => .rt d
def sRaise (c : Xc) : SF := fun env => .ex c env
def sIf (t : TF) (a b : SF) : SF := fun env => outR (t env) env fun k => if k = true then a env else b env
def sNo : SF := fun _ => .no
def sBreak : SF := fun env => .bk env
def loopL (g : GF) (body : SF) : List D → SF
  | [], env => .nx env
  | d :: ds, env => match g d env with
    | .ok e => (match body e with
      | .nx e' => loopL g body ds e'
      | .bk e' => .nx e'
      | o => o)
    | _ => .no
def sFor (src : IF_) (g : GF) (body : SF) : SF := fun env => outR (src env) env fun ds => loopL g body ds env
def whileN (t : TF) (body : SF) : Nat → SF
  | 0, _ => .no
  | n + 1, env => outR (t env) env fun k => if k = true then (match body env with
      | .nx e' => whileN t body n e'
      | .bk e' => .nx e'
      | o => o) else .nx env
/-- x op= e -/
def sAug (i : Nat) (g : D → D → R D) (e : EF) : SF := fun env => outR (slot env i) env fun x => outR (e env) env fun y => match g x y with
  | .ok z => .nx (env.set i (some z))
  | _ => .no
/-- the own list in slot i is changed by f -/
def sMut (i : Nat) (f : List D → D → R (List D)) (e : EF) : SF := fun env => match slot env i with
  | .ok (.list xs) => outR (e env) env fun y => (match f xs y with
    | .ok zs => .nx (env.set i (some (.list zs)))
    | _ => .no)
  | _ => .no
/-- the own object in slot i is changed at a place k -/
def sPut (i : Nat) (f : D → D → D → R D) (k e : EF) : SF := fun env => outR (e env) env fun y => outR (k env) env fun q => match slot env i with
  | .ok x => (match f x q y with
    | .ok z => .nx (env.set i (some z))
    | _ => .no)
  | _ => .no
def appendD (xs : List D) (y : D) : R (List D) := if xs.length < sizeLine then .ok (xs ++ [y]) else .no
def extendD (xs : List D) (y : D) : R (List D) := match y with
  | .list ys => if xs.length + ys.length ≤ sizeLine then .ok (xs ++ ys) else .no
  | _ => .no
/-- try: body except c: suite .. ; each handler: which refusals it takes, its suite -/
def catchBy : List ((Xc → Bool) × SF) → Xc → SF
  | [], c, env => .ex c env
  | (p, s) :: r, c, env => if p c = true then s env else catchBy r c env
def sTry (body : SF) (hs : List ((Xc → Bool) × SF)) : SF := fun env => match body env with
  | .ex c e => catchBy hs c e
  | o => o
/-! ### a def: n slots -/
def run (n : Nat) (body : SF) (as : List D) : R D := match body (as.map some ++ List.replicate (n - as.length) none) with
  | .nx _ => .ok .none
  | .rt d => .ok d
  | .ex c _ => .exc c
  | _ => .no
end Rt
/-! Sim1: how data stands in the abstract heap. F: the part of the heap that is never changed any more; H: the heap. -/
namespace Rt
open PySem L2
def Ex (H H' : Hp) : Prop := ∀ a o, H a = some o → H' a = some o
theorem Ex.refl (H : Hp) : Ex H H := fun _ _ h => h
theorem Ex.trans {H H1 H2 : Hp} (a : Ex H H1) (b : Ex H1 H2) : Ex H H2 := fun x o h => b x o (a x o h)
theorem Ex.new {H : Hp} {p : Addr} {o : HO} (h : H p = none) : Ex H (upd H p o) := fun a u e => by
  rw [upd_ne (ne_of_none e h)]
  exact e
theorem Ex.back {H H' : Hp} {p : Addr} (e : Ex H H') (h : H' p = none) : H p = none := by
  cases h1 : H p with
  | none => rfl
  | some o =>
    rw [e p o h1] at h
    cases h
theorem Ex.rd {H H' : Hp} {a : Addr} {u : HO} (e : Ex H H') (h : Rd H a u) : Rd H' a u := by
  rcases h with h | ⟨o, h⟩
  · exact .inl (e a _ h)
  · exact .inr ⟨o, e a _ h⟩
theorem Ex.l {K : PySem.W.Frag} {H H' : Hp} {a : Addr} {xs : List V} (e : Ex H H') (h : SqL K H a xs) : SqL K H' a xs := by
  rcases h with h | h
  · exact .inl (e.rd h)
  · exact .inr h
theorem Ex.t {K : PySem.W.Frag} {H H' : Hp} {a : Addr} {xs : List V} (e : Ex H H') (h : SqT K H a xs) : SqT K H' a xs := by
  rcases h with h | h
  · exact .inl (e.rd h)
  · exact .inr h
/-- new things alone: they are frozen (F') or free -/
structure Ext (F H F' H' : Hp) : Prop where
  ff : Ex F F'
  hh : Ex H H'
  fh : Ex F' H'
  keep : ∀ q, H q ≠ none → F' q = F q
theorem Ext.refl {F H : Hp} (h : Ex F H) : Ext F H F H := ⟨Ex.refl F, Ex.refl H, h, fun _ _ => rfl⟩
theorem Ext.trans {F H F1 H1 F2 H2 : Hp} (a : Ext F H F1 H1) (b : Ext F1 H1 F2 H2) : Ext F H F2 H2 :=
  ⟨a.ff.trans b.ff, a.hh.trans b.hh, b.fh, fun q h => by
    rw [b.keep q ?_, a.keep q h]
    intro z
    exact h (a.hh.back z)⟩
theorem Ext.own {F H : Hp} {p : Addr} {o : HO} (h : Ex F H) (n : H p = none) : Ext F H F (upd H p o) := ⟨Ex.refl F, Ex.new n, h.trans (Ex.new n), fun _ _ => rfl⟩
theorem Ext.frz {F H : Hp} {p : Addr} {o : HO} (h : Ex F H) (n : H p = none) : Ext F H (upd F p o) (upd H p o) :=
  ⟨Ex.new (h.back n), Ex.new n, fun a u e => by
    by_cases z : a = p
    · subst z
      rw [upd_same] at e ⊢
      exact e
    · rw [upd_ne z] at e ⊢
      exact h a u e, fun q hq => by
    rw [upd_ne]
    intro z
    subst z
    exact hq n⟩
/-- what is free is frozen -/
theorem Ext.freeze {F0 B F H : Hp} {p : Addr} {o : HO} (e : Ext F0 B F H) (b : B p = none) (f : F p = none) (h : H p = some o) : Ext F0 B (upd F p o) H :=
  ⟨e.ff.trans (Ex.new f), e.hh, fun a u q => by
    by_cases z : a = p
    · subst z
      rw [upd_same] at q
      rw [h]
      exact q
    · rw [upd_ne z] at q
      exact e.fh a u q, fun q hq => by
    rw [upd_ne, e.keep q hq]
    intro z
    subst z
    exact hq b⟩
/-- what is free is changed -/
theorem Ext.mut {F0 B F H : Hp} {p : Addr} {o : HO} (e : Ext F0 B F H) (b : B p = none) (f : F p = none) : Ext F0 B F (upd H p o) :=
  ⟨e.ff, fun a u q => by
    rw [upd_ne (ne_of_none q b)]
    exact e.hh a u q, fun a u q => by
    rw [upd_ne (ne_of_none q f)]
    exact e.fh a u q, e.keep⟩
def kD : Key → D
  | .inl i => .int i
  | .inr x => .str x
/-! The script itself is the dict that has None as its one key: no dict of the program is so. -/
section
variable (K : PySem.W.Frag)
mutual
def Rep (F : Hp) : D → V → Prop
  | .none, v => v = .non
  | .bool b, v => v = .bl b
  | .int i, v => v = .int i
  | .str x, v => v = .str x
  | .list ds, v => ∃ p xs, v = .ref p ∧ F p = some (.lst xs) ∧ xs.length ≤ sizeLine ∧ Reps F ds xs
  | .tuple ds, v => ∃ p xs, v = .ref p ∧ F p = some (.tup xs) ∧ xs.length ≤ sizeLine ∧ Reps F ds xs
  | .dict es, v => ∃ p, v = .ref p ∧ ((∃ kvs, F p = some (.dK kvs) ∧ RepK F es kvs) ∨ (∃ kvs, F p = some (.dT kvs) ∧ RepT F es kvs) ∨ (∃ ns : List Int, es = [(.none, .list (ns.map PyData.int))] ∧ SqL K F p (ns.map V.int) ∧ ns.length ≤ 100))
def Reps (F : Hp) : List D → List V → Prop
  | [], xs => xs = []
  | d :: ds, xs => ∃ v vs, xs = v :: vs ∧ Rep F d v ∧ Reps F ds vs
def RepK (F : Hp) : List (D × D) → List (Key × V) → Prop
  | [], kvs => kvs = []
  | e :: es, kvs => ∃ q v r, kvs = (q, v) :: r ∧ RepP F e (kD q) v ∧ RepK F es r
def RepT (F : Hp) : List (D × D) → List (List Key × V) → Prop
  | [], kvs => kvs = []
  | e :: es, kvs => ∃ q v r, kvs = (q, v) :: r ∧ RepP F e (.tuple (q.map kD)) v ∧ RepT F es r
def RepP (F : Hp) : D × D → D → V → Prop
  | (k, d), q, v => k = q ∧ Rep F d v
end
end
section
variable {K : PySem.W.Frag} {F F' H H' : Hp}
mutual
theorem Rep.mono (e : Ex F F') : ∀ (d : D) (v : V), Rep K F d v → Rep K F' d v
  | .none, _, h => h
  | .bool _, _, h => h
  | .int _, _, h => h
  | .str _, _, h => h
  | .list ds, _, ⟨p, xs, a, b, z, c⟩ => ⟨p, xs, a, e _ _ b, z, Reps.mono e ds xs c⟩
  | .tuple ds, _, ⟨p, xs, a, b, z, c⟩ => ⟨p, xs, a, e _ _ b, z, Reps.mono e ds xs c⟩
  | .dict es, _, ⟨p, a, b⟩ => ⟨p, a, b.elim (fun ⟨kvs, b, c⟩ => .inl ⟨kvs, e _ _ b, RepK.mono e es kvs c⟩) (fun b => .inr (b.elim (fun ⟨kvs, b, c⟩ => .inl ⟨kvs, e _ _ b, RepT.mono e es kvs c⟩) (fun ⟨ns, b, c, z⟩ => .inr ⟨ns, b, e.l c, z⟩)))⟩
theorem Reps.mono (e : Ex F F') : ∀ (ds : List D) (xs : List V), Reps K F ds xs → Reps K F' ds xs
  | [], _, h => h
  | d :: ds, _, ⟨v, vs, a, b, c⟩ => ⟨v, vs, a, Rep.mono e d v b, Reps.mono e ds vs c⟩
theorem RepK.mono (e : Ex F F') : ∀ (es : List (D × D)) (kvs : List (Key × V)), RepK K F es kvs → RepK K F' es kvs
  | [], _, h => h
  | p :: es, _, ⟨q, v, r, a, b, c⟩ => ⟨q, v, r, a, RepP.mono e p _ v b, RepK.mono e es r c⟩
theorem RepT.mono (e : Ex F F') : ∀ (es : List (D × D)) (kvs : List (List Key × V)), RepT K F es kvs → RepT K F' es kvs
  | [], _, h => h
  | p :: es, _, ⟨q, v, r, a, b, c⟩ => ⟨q, v, r, a, RepP.mono e p _ v b, RepT.mono e es r c⟩
theorem RepP.mono (e : Ex F F') : ∀ (p : D × D) (q : D) (v : V), RepP K F p q v → RepP K F' p q v
  | (_, d), _, v, ⟨a, b⟩ => ⟨a, Rep.mono e d v b⟩
end
theorem Reps.length : ∀ {ds : List D} {xs : List V}, Reps K F ds xs → xs.length = ds.length
  | [], xs, h => by cases h; rfl
  | d :: ds, _, ⟨v, vs, a, b, c⟩ => by
    subst a
    rw [List.length_cons, List.length_cons, Reps.length c]
theorem Reps.get : ∀ {ds : List D} {xs : List V} {i : Nat} {x : V}, Reps K F ds xs → xs[i]? = some x → ∃ d, ds[i]? = some d ∧ Rep K F d x
  | [], xs, i, x, h, e => by cases h; simp at e
  | d :: ds, _, 0, x, ⟨v, vs, a, b, c⟩, e => by
    subst a
    simp at e
    subst e
    exact ⟨d, rfl, b⟩
  | d :: ds, _, i + 1, x, ⟨v, vs, a, b, c⟩, e => by
    subst a
    simp at e
    obtain ⟨d', h1, h2⟩ := Reps.get c e
    exact ⟨d', by simpa using h1, h2⟩
theorem Reps.gets : ∀ {ds : List D} {xs : List V} {i : Nat} {d : D}, Reps K F ds xs → ds[i]? = some d → ∃ x, xs[i]? = some x ∧ Rep K F d x
  | [], xs, i, x, h, e => by simp at e
  | d :: ds, _, 0, x, ⟨v, vs, a, b, c⟩, e => by
    subst a
    simp at e
    subst e
    exact ⟨v, rfl, b⟩
  | d :: ds, _, i + 1, x, ⟨v, vs, a, b, c⟩, e => by
    subst a
    simp at e
    obtain ⟨d', h1, h2⟩ := Reps.gets c e
    exact ⟨d', by simpa using h1, h2⟩
theorem Reps.append : ∀ {ds es : List D} {xs ys : List V}, Reps K F ds xs → Reps K F es ys → Reps K F (ds ++ es) (xs ++ ys)
  | [], es, xs, ys, h, g => by cases h; exact g
  | d :: ds, es, _, ys, ⟨v, vs, a, b, c⟩, g => by
    subst a
    exact ⟨v, vs ++ ys, rfl, b, Reps.append c g⟩
theorem Reps.one {d : D} {v : V} (h : Rep K F d v) : Reps K F [d] [v] := ⟨v, [], rfl, h, rfl⟩
theorem Reps.take : ∀ {ds : List D} {xs : List V} (n : Nat), Reps K F ds xs → Reps K F (ds.take n) (xs.take n)
  | _, _, 0, _ => rfl
  | [], xs, n + 1, h => by cases h; rfl
  | d :: ds, _, n + 1, ⟨v, vs, a, b, c⟩ => by
    subst a
    exact ⟨v, vs.take n, rfl, b, Reps.take n c⟩
theorem Reps.drop : ∀ {ds : List D} {xs : List V} (n : Nat), Reps K F ds xs → Reps K F (ds.drop n) (xs.drop n)
  | _, _, 0, h => h
  | [], xs, n + 1, h => by cases h; rfl
  | d :: ds, _, n + 1, ⟨v, vs, a, b, c⟩ => by
    subst a
    exact Reps.drop n c
theorem Reps.set : ∀ {ds : List D} {xs : List V} {d : D} {v : V} (i : Nat), Reps K F ds xs → Rep K F d v → Reps K F (ds.set i d) (xs.set i v)
  | [], xs, _, _, i, h, _ => by cases h; rfl
  | d :: ds, _, _, _, 0, ⟨v, vs, a, b, c⟩, g => by
    subst a
    exact ⟨_, vs, rfl, g, c⟩
  | d :: ds, _, _, _, i + 1, ⟨v, vs, a, b, c⟩, g => by
    subst a
    exact ⟨v, _, rfl, b, Reps.set i c g⟩
theorem Reps.reverse : ∀ {ds : List D} {xs : List V}, Reps K F ds xs → Reps K F ds.reverse xs.reverse
  | [], xs, h => by cases h; rfl
  | d :: ds, _, ⟨v, vs, a, b, c⟩ => by
    subst a
    rw [List.reverse_cons, List.reverse_cons]
    exact Reps.append (Reps.reverse c) (Reps.one b)
theorem Reps.ints : ∀ (ns : List Int), Reps K F (ns.map PyData.int) (ns.map V.int)
  | [] => rfl
  | n :: ns => ⟨.int n, ns.map V.int, rfl, rfl, Reps.ints ns⟩
theorem Reps.of_ints : ∀ {ns : List Int} {xs : List V}, Reps K F (ns.map PyData.int) xs → xs = ns.map V.int
  | [], xs, h => h
  | n :: ns, _, ⟨v, vs, a, b, c⟩ => by
    subst a
    have b' : v = .int n := b
    rw [b', Reps.of_ints c]
    rfl
/-- an object bears a datum -/
def ORep (K : PySem.W.Frag) (F : Hp) : HO → D → Prop
  | .lst xs, .list ds => xs.length ≤ sizeLine ∧ Reps K F ds xs
  | .dK kvs, .dict es => RepK K F es kvs
  | .dT kvs, .dict es => RepT K F es kvs
  | _, _ => False
theorem ORep.mono (e : Ex F F') {o : HO} {d : D} (h : ORep K F o d) : ORep K F' o d := by
  cases o <;> cases d <;> first | exact h.elim | exact ⟨h.1, Reps.mono e _ _ h.2⟩ | exact RepK.mono e _ _ h | exact RepT.mono e _ _ h
/-- frozen -/
theorem ORep.rep {o : HO} {d : D} {p : Addr} (h : ORep K F o d) (hp : F p = some o) : Rep K F d (.ref p) := by
  cases o <;> cases d <;> first | exact h.elim | exact ⟨p, _, rfl, hp, h.1, h.2⟩ | exact ⟨p, rfl, .inl ⟨_, hp, h⟩⟩ | exact ⟨p, rfl, .inr (.inl ⟨_, hp, h⟩)⟩
/-- what may be looked at: frozen, or a free object as it stands -/
def View (K : PySem.W.Frag) (F H : Hp) (d : D) (v : V) : Prop := Rep K F d v ∨ ∃ p o, v = .ref p ∧ H p = some o ∧ ORep K F o d
theorem View.mono (e : Ex F F') (g : Ex H H') {d : D} {v : V} (h : View K F H d v) : View K F' H' d v := by
  rcases h with h | ⟨p, o, a, b, c⟩
  · exact .inl (h.mono e)
  · exact .inr ⟨p, o, a, g _ _ b, c.mono e⟩
theorem View.list (fh : Ex F H) {ds : List D} {v : V} (h : View K F H (.list ds) v) : ∃ p xs, v = .ref p ∧ H p = some (.lst xs) ∧ xs.length ≤ sizeLine ∧ Reps K F ds xs := by
  rcases h with ⟨p, xs, a, b, z, c⟩ | ⟨p, o, a, b, c⟩
  · exact ⟨p, xs, a, fh _ _ b, z, c⟩
  · cases o <;> first | exact c.elim | exact ⟨p, _, a, b, c.1, c.2⟩
theorem View.tup (fh : Ex F H) {ds : List D} {v : V} (h : View K F H (.tuple ds) v) : ∃ p xs, v = .ref p ∧ H p = some (.tup xs) ∧ F p = some (.tup xs) ∧ xs.length ≤ sizeLine ∧ Reps K F ds xs := by
  rcases h with ⟨p, xs, a, b, z, c⟩ | ⟨p, o, a, b, c⟩
  · exact ⟨p, xs, a, fh _ _ b, b, z, c⟩
  · cases o <;> exact c.elim
theorem View.dict (fh : Ex F H) {es : List (D × D)} {v : V} (h : View K F H (.dict es) v) : ∃ p, v = .ref p ∧ ((∃ kvs, H p = some (.dK kvs) ∧ RepK K F es kvs) ∨ (∃ kvs, H p = some (.dT kvs) ∧ RepT K F es kvs) ∨
    (∃ ns : List Int, es = [(.none, .list (ns.map PyData.int))] ∧ SqL K H p (ns.map V.int) ∧ ns.length ≤ 100)) := by
  rcases h with ⟨p, a, b⟩ | ⟨p, o, a, b, c⟩
  · refine ⟨p, a, ?_⟩
    rcases b with ⟨kvs, b, c⟩ | ⟨kvs, b, c⟩ | ⟨ns, b, c, z⟩
    · exact .inl ⟨kvs, fh _ _ b, c⟩
    · exact .inr (.inl ⟨kvs, fh _ _ b, c⟩)
    · exact .inr (.inr ⟨ns, b, fh.l c, z⟩)
  · cases o <;> first | exact c.elim | exact ⟨p, a, .inl ⟨_, b, c⟩⟩ | exact ⟨p, a, .inr (.inl ⟨_, b, c⟩)⟩
theorem View.none {v : V} (h : View K F H .none v) : v = .non := by
  rcases h with h | ⟨p, o, a, b, c⟩
  · exact h
  · cases o <;> exact c.elim
theorem View.bool {b : Bool} {v : V} (h : View K F H (.bool b) v) : v = .bl b := by
  rcases h with h | ⟨p, o, a, b, c⟩
  · exact h
  · cases o <;> exact c.elim
theorem View.int {i : Int} {v : V} (h : View K F H (.int i) v) : v = .int i := by
  rcases h with h | ⟨p, o, a, b, c⟩
  · exact h
  · cases o <;> exact c.elim
theorem View.str {x : Str} {v : V} (h : View K F H (.str x) v) : v = .str x := by
  rcases h with h | ⟨p, o, a, b, c⟩
  · exact h
  · cases o <;> exact c.elim
def Views (K : PySem.W.Frag) (F H : Hp) : List D → List V → Prop
  | [], xs => xs = []
  | d :: ds, xs => ∃ v vs, xs = v :: vs ∧ View K F H d v ∧ Views K F H ds vs
theorem Views.mono (e : Ex F F') (g : Ex H H') : ∀ {ds : List D} {xs : List V}, Views K F H ds xs → Views K F' H' ds xs
  | [], _, h => h
  | d :: ds, _, ⟨v, vs, a, b, c⟩ => ⟨v, vs, a, b.mono e g, Views.mono e g c⟩
theorem Reps.views : ∀ {ds : List D} {xs : List V}, Reps K F ds xs → Views K F H ds xs
  | [], _, h => h
  | d :: ds, _, ⟨v, vs, a, b, c⟩ => ⟨v, vs, a, .inl b, Reps.views c⟩
end
end Rt
/-! Sim2: the state of a def's body against its data (SR), and what it means that a reading is mirrored by a function of the data (SimE, SimT, SimA, SimS); the plain forms. -/
namespace Rt
open PySem L2
/-- B, F0: heap and frozen part at the def's entry; O: the slots that own their object (nobody else has it) -/
structure SR (K : PySem.W.Frag) (B F0 : Hp) (O : List Nat) (F H : Hp) (σ : St) (env : Env) : Prop where
  ext : Ext F0 B F H
  len : env.length = σ.length
  frz : ∀ i d, i ∉ O → env[i]? = some (some d) → ∃ v, σ[i]? = some (some v) ∧ Rep K F d v
  own : ∀ i, i ∈ O → ∃ p o d, env[i]? = some (some d) ∧ σ[i]? = some (some (.ref p)) ∧ F p = none ∧ B p = none ∧ H p = some o ∧ ORep K F o d
  sep : ∀ i j p, i ∈ O → j ∈ O → σ[i]? = some (some (.ref p)) → σ[j]? = some (some (.ref p)) → i = j
section
variable {K : PySem.W.Frag} {B F0 F H F' H' : Hp} {O O' : List Nat} {σ : St} {env : Env}
theorem SR.fh (s : SR K B F0 O F H σ env) : Ex F H := s.ext.fh
theorem SR.step (s : SR K B F0 O F H σ env) (e : Ext F H F' H') : SR K B F0 O F' H' σ env where
  ext := s.ext.trans e
  len := s.len
  frz := fun i d hi h => by
    obtain ⟨v, a, b⟩ := s.frz i d hi h
    exact ⟨v, a, b.mono e.ff⟩
  own := fun i hi => by
    obtain ⟨p, o, d, a, b, c1, c2, c3, c4⟩ := s.own i hi
    refine ⟨p, o, d, a, b, ?_, c2, e.hh _ _ c3, c4.mono e.ff⟩
    rw [e.keep p (by rw [c3]; intro z; cases z)]
    exact c1
  sep := s.sep
theorem SR.view (s : SR K B F0 O F H σ env) {i : Nat} {d : D} (h : env[i]? = some (some d)) : ∃ v, σ[i]? = some (some v) ∧ View K F H d v := by
  by_cases hi : i ∈ O
  · obtain ⟨p, o, d', a, b, c1, c2, c3, c4⟩ := s.own i hi
    rw [h] at a
    cases a
    exact ⟨.ref p, b, .inr ⟨p, o, rfl, c3, c4⟩⟩
  · obtain ⟨v, a, b⟩ := s.frz i d hi h
    exact ⟨v, a, .inl b⟩
/-- a slot is filled by a frozen value -/
theorem SR.set (s : SR K B F0 O F H σ env) {i : Nat} {d : D} {v : V} (hi : i ∉ O) (r : Rep K F d v) : SR K B F0 O F H (σ.set i (some v)) (env.set i (some d)) where
  ext := s.ext
  len := by rw [List.length_set, List.length_set, s.len]
  frz := fun j e hj h => by
    by_cases z : i = j
    · subst z
      by_cases l : i < env.length
      · rw [List.getElem?_set_self l] at h
        cases h
        rw [List.getElem?_set_self (by rw [← s.len]; exact l)]
        exact ⟨v, rfl, r⟩
      · rw [List.getElem?_eq_none (by rw [List.length_set]; omega)] at h
        cases h
    · rw [List.getElem?_set_ne z] at h ⊢
      exact s.frz j e hj h
  own := fun j hj => by
    have z : i ≠ j := fun z => hi (z ▸ hj)
    rw [List.getElem?_set_ne z, List.getElem?_set_ne z]
    exact s.own j hj
  sep := fun j k p hj hk h1 h2 => by
    rw [List.getElem?_set_ne (show i ≠ j from fun z => hi (z ▸ hj))] at h1
    rw [List.getElem?_set_ne (show i ≠ k from fun z => hi (z ▸ hk))] at h2
    exact s.sep j k p hj hk h1 h2
/-- a slot is emptied -/
theorem SR.unset (s : SR K B F0 O F H σ env) {i : Nat} (hi : i ∉ O) : SR K B F0 O F H (σ.set i none) (env.set i none) where
  ext := s.ext
  len := by rw [List.length_set, List.length_set, s.len]
  frz := fun j e hj h => by
    by_cases z : i = j
    · subst z
      by_cases l : i < env.length
      · rw [List.getElem?_set_self l] at h
        cases h
      · rw [List.getElem?_eq_none (by rw [List.length_set]; omega)] at h
        cases h
    · rw [List.getElem?_set_ne z] at h ⊢
      exact s.frz j e hj h
  own := fun j hj => by
    have z : i ≠ j := fun z => hi (z ▸ hj)
    rw [List.getElem?_set_ne z, List.getElem?_set_ne z]
    exact s.own j hj
  sep := fun j k p hj hk h1 h2 => by
    rw [List.getElem?_set_ne (show i ≠ j from fun z => hi (z ▸ hj))] at h1
    rw [List.getElem?_set_ne (show i ≠ k from fun z => hi (z ▸ hk))] at h2
    exact s.sep j k p hj hk h1 h2
theorem SR.wipe (s : SR K B F0 O F H σ env) : ∀ {vs : List Nat}, (∀ i ∈ vs, i ∉ O) → SR K B F0 O F H (wipe σ vs) (wipeE env vs)
  | [], _ => s
  | v :: vs, h => SR.unset (SR.wipe s fun i hi => h i (List.mem_cons_of_mem _ hi)) (h v List.mem_cons_self)
/-- an own thing goes into a slot -/
theorem SR.setO (s : SR K B F0 O F H σ env) {i : Nat} {d : D} {p : Addr} {o : HO} (hi : i ∉ O) (hl : i < env.length) (f : F p = none) (b : B p = none) (h : H p = some o) (r : ORep K F o d) (n : ∀ j ∈ O, σ[j]? ≠ some (some (.ref p))) :
    SR K B F0 (i :: O) F H (σ.set i (some (.ref p))) (env.set i (some d)) where
  ext := s.ext
  len := by rw [List.length_set, List.length_set, s.len]
  frz := fun j e hj h => by
    have z : i ≠ j := fun z => hj (z ▸ List.mem_cons_self)
    rw [List.getElem?_set_ne z] at h ⊢
    exact s.frz j e (fun q => hj (List.mem_cons_of_mem _ q)) h
  own := fun j hj => by
    by_cases z : i = j
    · subst z
      rw [List.getElem?_set_self hl, List.getElem?_set_self (by rw [← s.len]; exact hl)]
      exact ⟨p, o, d, rfl, rfl, f, b, h, r⟩
    · rw [List.getElem?_set_ne z, List.getElem?_set_ne z]
      exact s.own j ((List.mem_cons.mp hj).resolve_left fun q => z q.symm)
  sep := fun j k q hj hk h1 h2 => by
    have hl' : i < σ.length := by rw [← s.len]; exact hl
    by_cases z1 : i = j
    · by_cases z2 : i = k
      · rw [← z1, ← z2]
      · subst z1
        rw [List.getElem?_set_self hl'] at h1
        cases h1
        rw [List.getElem?_set_ne z2] at h2
        exact absurd h2 (n k ((List.mem_cons.mp hk).resolve_left fun q => z2 q.symm))
    · rw [List.getElem?_set_ne z1] at h1
      have hj' := (List.mem_cons.mp hj).resolve_left fun q => z1 q.symm
      by_cases z2 : i = k
      · subst z2
        rw [List.getElem?_set_self hl'] at h2
        cases h2
        exact absurd h1 (n j hj')
      · rw [List.getElem?_set_ne z2] at h2
        exact s.sep j k q hj' ((List.mem_cons.mp hk).resolve_left fun q => z2 q.symm) h1 h2
/-- an own object is changed -/
theorem SR.mut (s : SR K B F0 O F H σ env) {i : Nat} {d : D} {p : Addr} {o : HO} (hi : i ∈ O) (hs : σ[i]? = some (some (.ref p))) (r : ORep K F o d) : SR K B F0 O F (upd H p o) σ (env.set i (some d)) := by
  obtain ⟨p', o', d', a, b, c1, c2, c3, c4⟩ := s.own i hi
  rw [hs] at b
  cases b
  refine ⟨s.ext.mut c2 c1, ?_, ?_, ?_, s.sep⟩
  · rw [List.length_set]
    exact s.len
  · intro j e hj h
    rw [List.getElem?_set_ne (show i ≠ j from fun z => hj (z ▸ hi))] at h
    exact s.frz j e hj h
  · intro j hj
    by_cases z : i = j
    · subst z
      have l : i < env.length := by
        rcases Nat.lt_or_ge i env.length with l | l
        · exact l
        · rw [List.getElem?_eq_none l] at a
          cases a
      rw [List.getElem?_set_self l]
      exact ⟨p, o, d, rfl, hs, c1, c2, upd_same, r⟩
    · rw [List.getElem?_set_ne z]
      obtain ⟨q, u, e, a2, b2, d1, d2, d3, d4⟩ := s.own j hj
      refine ⟨q, u, e, a2, b2, d1, d2, ?_, d4⟩
      rw [upd_ne]
      · exact d3
      · intro w
        subst w
        exact z (s.sep i j q hi hj hs b2)
/-- a slot that owns its object lets it be frozen -/
theorem SR.frz1 (s : SR K B F0 (i :: O) F H σ env) (hi : i ∉ O) : ∃ F', Ex F F' ∧ SR K B F0 O F' H σ env := by
  obtain ⟨p, o, d, a, b, c1, c2, c3, c4⟩ := s.own i List.mem_cons_self
  have x : Ex F (upd F p o) := Ex.new c1
  refine ⟨upd F p o, x, s.ext.freeze c2 c1 c3, s.len, ?_, ?_, fun j k q hj hk => s.sep j k q (List.mem_cons_of_mem _ hj) (List.mem_cons_of_mem _ hk)⟩
  · intro j e hj h
    by_cases z : j = i
    · subst z
      rw [a] at h
      cases h
      exact ⟨_, b, (c4.mono x).rep upd_same⟩
    · obtain ⟨v, a2, b2⟩ := s.frz j e (fun q => (List.mem_cons.mp q).elim z hj) h
      exact ⟨v, a2, b2.mono x⟩
  · intro j hj
    obtain ⟨q, u, e, a2, b2, d1, d2, d3, d4⟩ := s.own j (List.mem_cons_of_mem _ hj)
    refine ⟨q, u, e, a2, b2, ?_, d2, d3, d4.mono x⟩
    rw [upd_ne]
    · exact d1
    · intro w
      subst w
      exact hi (s.sep i j q List.mem_cons_self (List.mem_cons_of_mem _ hj) b b2 ▸ hj)
theorem SR.perm (s : SR K B F0 O F H σ env) (h : ∀ i, i ∈ O ↔ i ∈ O') : SR K B F0 O' F H σ env :=
  ⟨s.ext, s.len, fun i d hi => s.frz i d (fun z => hi ((h i).mp z)), fun i hi => s.own i ((h i).mpr hi), fun i j p hi hj => s.sep i j p ((h i).mpr hi) ((h j).mpr hj)⟩
theorem SR.drop1 (s : SR K B F0 O F H σ env) (x : Nat) : ∃ F', Ex F F' ∧ SR K B F0 (O.filter fun i => decide (i ≠ x)) F' H σ env := by
  by_cases hx : x ∈ O
  · have s1 : SR K B F0 (x :: O.filter fun i => decide (i ≠ x)) F H σ env := s.perm fun i => by
      constructor
      · intro hi
        by_cases z : i = x
        · rw [z]; exact List.mem_cons_self
        · exact List.mem_cons_of_mem _ (List.mem_filter.mpr ⟨hi, decide_eq_true z⟩)
      · intro hi
        rcases List.mem_cons.mp hi with z | z
        · rw [z]; exact hx
        · exact (List.mem_filter.mp z).1
    exact s1.frz1 (fun z => (of_decide_eq_true (List.mem_filter.mp z).2) rfl)
  · exact ⟨F, Ex.refl F, s.perm fun i => ⟨fun hi => List.mem_filter.mpr ⟨hi, decide_eq_true fun z => hx (z ▸ hi)⟩, fun hi => (List.mem_filter.mp hi).1⟩⟩
theorem SR.drops : ∀ (L : List Nat) {O : List Nat} {F : Hp}, SR K B F0 O F H σ env → ∃ F', Ex F F' ∧ SR K B F0 (O.filter fun i => decide (i ∉ L)) F' H σ env
  | [], O, F, s => ⟨F, Ex.refl F, s.perm fun i => ⟨fun hi => List.mem_filter.mpr ⟨hi, decide_eq_true (by simp)⟩, fun hi => (List.mem_filter.mp hi).1⟩⟩
  | x :: L, O, F, s => by
    obtain ⟨F1, e1, s1⟩ := s.drop1 x
    obtain ⟨F2, e2, s2⟩ := SR.drops L s1
    refine ⟨F2, e1.trans e2, s2.perm fun i => ?_⟩
    simp only [List.mem_filter, decide_eq_true_eq, List.mem_cons, not_or]
    constructor
    · rintro ⟨⟨a, b⟩, c⟩
      exact ⟨a, b, c⟩
    · rintro ⟨a, b, c⟩
      exact ⟨⟨a, b⟩, c⟩
/-- any slots that own their objects let them be frozen -/
theorem SR.sub (s : SR K B F0 O F H σ env) (h : ∀ i ∈ O', i ∈ O) : ∃ F', Ex F F' ∧ SR K B F0 O' F' H σ env := by
  obtain ⟨F1, e1, s1⟩ := s.drops (O.filter fun i => decide (i ∉ O'))
  refine ⟨F1, e1, s1.perm fun i => ?_⟩
  simp only [List.mem_filter, decide_eq_true_eq, not_and, Decidable.not_not]
  exact ⟨fun ⟨a, b⟩ => b a, fun a => ⟨h i a, fun _ => a⟩⟩
theorem SR.ext_to (s : SR K B F0 O F H σ env) {O2 : List Nat} {F2 H2 : Hp} {σ2 : St} {env2 : Env} (t : SR K B F0 O2 F2 H2 σ2 env2) : Ext F0 B F2 H2 := t.ext
end
/-! ### what it means that a reading is mirrored -/
inductive Md where | E | O | B
def MdOk (K : PySem.W.Frag) (H0 F H : Hp) : Md → D → V → Prop
  | .E, d, v => Rep K F d v
  | .O, d, v => ∃ p o, v = .ref p ∧ H0 p = none ∧ F p = none ∧ H p = some o ∧ ORep K F o d
  | .B, d, v => View K F H d v
theorem MdOk.back {K : PySem.W.Frag} {H0 H1 F H : Hp} {m : Md} {d : D} {v : V} (e : Ex H0 H1) (h : MdOk K H1 F H m d v) : MdOk K H0 F H m d v := by
  cases m with
  | E => exact h
  | B => exact h
  | O =>
    obtain ⟨p, o, a, b, c⟩ := h
    exact ⟨p, o, a, e.back b, c⟩
def MdsOk (K : PySem.W.Frag) (F H : Hp) : Md → List D → List V → Prop
  | .E, d, v => Reps K F d v
  | _, d, v => Views K F H d v
def SimE (K : PySem.W.Frag) (ca : Xc → Addr) (W : WX) (O : List Nat) (m : Md) (t : TE) (f : EF) : Prop := ∀ (B F0 F H : Hp) (σ : St) (env : Env) (Q : VK), SR K B F0 O F H σ env → f env ≠ .no →
  (∀ d, f env = .ok d → ∀ v F' H', Ext F H F' H' → MdOk K H F' H' m d v → Q v H') → (∀ c, f env = .exc c → ∀ F' H', Ext F H F' H' → W (.ref (ca c)) none σ H') → t σ H Q
def SimT (K : PySem.W.Frag) (ca : Xc → Addr) (W : WX) (O : List Nat) (t : TT) (f : TF) : Prop := ∀ (B F0 F H : Hp) (σ : St) (env : Env) (Q : Bool → Hp → Prop), SR K B F0 O F H σ env → f env ≠ .no →
  (∀ b, f env = .ok b → ∀ F' H', Ext F H F' H' → Q b H') → (∀ c, f env = .exc c → ∀ F' H', Ext F H F' H' → W (.ref (ca c)) none σ H') → t σ H Q
def SimA (K : PySem.W.Frag) (ca : Xc → Addr) (W : WX) (O : List Nat) (m : Md) (t : TA) (f : AF) : Prop := ∀ (B F0 F H : Hp) (σ : St) (env : Env) (Q : List V → Hp → Prop), SR K B F0 O F H σ env → f env ≠ .no →
  (∀ ds, f env = .ok ds → ∀ vs F' H', Ext F H F' H' → MdsOk K F' H' m ds vs → Q vs H') → (∀ c, f env = .exc c → ∀ F' H', Ext F H F' H' → W (.ref (ca c)) none σ H') → t σ H Q
structure Lk where
  ro : Bool
  bk : List Nat
  ex : List Nat
def SimS (K : PySem.W.Frag) (ca : Xc → Addr) (W : WX) (L : Lk) (O O' : List Nat) (t : TS) (f : SF) : Prop := ∀ (B F0 F H : Hp) (σ : St) (env : Env) (N : Ends), SR K B F0 O F H σ env → f env ≠ .no →
  (∀ e, f env = .nx e → ∀ σ' F' H', Ex F F' → SR K B F0 O' F' H' σ' e → N.nx σ' H') →
  (∀ d, f env = .rt d → ∀ v F' H', Ext F0 B F' H' → MdOk K B F' H' (if L.ro = true then .O else .E) d v → N.rt v H') →
  (∀ e, f env = .bk e → ∀ σ' F' H', Ex F F' → SR K B F0 L.bk F' H' σ' e → N.bk σ' H') →
  (∀ c e, f env = .ex c e → ∀ σ' F' H', Ex F F' → SR K B F0 L.ex F' H' σ' e → W (.ref (ca c)) none σ' H') → t N σ H
/-! ### the judgements -/
def SE (ca : Xc → Addr) (X : Cx) (W : WX) (O : List Nat) (m : Md) (e : Expr) (f : EF) : Prop := ∃ t, PE X e t ∧ SimE X.K ca W O m t f
def ST (ca : Xc → Addr) (X : Cx) (W : WX) (O : List Nat) (e : Expr) (f : TF) : Prop := ∃ t, PT X e t ∧ SimT X.K ca W O t f
def SW (ca : Xc → Addr) (X : Cx) (W : WX) (O : List Nat) (e : Expr) (f : TF) : Prop := ∃ t, PW X e t ∧ SimT X.K ca W O t f
def SA (ca : Xc → Addr) (X : Cx) (W : WX) (O : List Nat) (m : Md) (es : List Expr) (f : AF) : Prop := ∃ t, PA X es t ∧ SimA X.K ca W O m t f
def SS (ca : Xc → Addr) (X : Cx) (W : WX) (L : Lk) (O O' : List Nat) (st : Stmt) (f : SF) : Prop := ∃ t, PS X st t ∧ SimS X.K ca W L O O' t f
def SSs (ca : Xc → Addr) (X : Cx) (W : WX) (L : Lk) (O O' : List Nat) (st : List Stmt) (f : SF) : Prop := ∃ t, PSs X st t ∧ SimS X.K ca W L O O' t f
section
variable {ca : Xc → Addr} {X : Cx} {W : WX} {L : Lk} {O O' O2 : List Nat} {m : Md} {a b c e : Expr} {fa fb fc : EF} {pos : Pos} {rest : List Expr} {es : List Expr}
/-! ### expressions -/
theorem SE.vw (h : SE ca X W O .E e fa) : SE ca X W O .B e fa := by
  obtain ⟨t, p, q⟩ := h
  exact ⟨t, p, fun B F0 F H σ env Q s n k x => q B F0 F H σ env Q s n (fun d hd v F' H' e r => k d hd v F' H' e (.inl r)) x⟩
theorem SE.ov (h : SE ca X W O .O e fa) : SE ca X W O .B e fa := by
  obtain ⟨t, p, q⟩ := h
  exact ⟨t, p, fun B F0 F H σ env Q s n k x => q B F0 F H σ env Q s n (fun d hd v F' H' e r => by
    obtain ⟨p, o, r1, r2, r3, r4, r5⟩ := r
    exact k d hd v F' H' e (.inr ⟨p, o, r1, r4, r5⟩)) x⟩
/-- a new object is frozen at once -/
theorem SE.fz (h : SE ca X W O .O e fa) : SE ca X W O .E e fa := by
  obtain ⟨t, p, q⟩ := h
  exact ⟨t, p, fun B F0 F H σ env Q s n k x => q B F0 F H σ env Q s n (fun d hd v F' H' e r => by
    obtain ⟨p, o, r1, r2, r3, r4, r5⟩ := r
    subst r1
    refine k d hd _ (upd F' p o) H' (e.freeze r2 r3 r4) ((r5.mono (Ex.new r3)).rep upd_same)) x⟩
theorem slot_ok {env : Env} {i : Nat} {d : D} (h : slot env i = .ok d) : env[i]? = some (some d) := by
  unfold slot at h
  split at h
  · cases h
    assumption
  · cases h
theorem slot_exc {env : Env} {i : Nat} {c : Xc} : slot env i ≠ .exc c := by
  unfold slot
  split <;> (intro h; cases h)
/-- a name that owns nothing -/
theorem se_var (i : Nat) {x : Str} (hv : Vis X.env.scope x) (hN : X.N[i]? = some x := by kernel_rfl) (hi : i ∉ O := by decide) (hd : (x == ("__debug__" : Str)) = false := by kernel_rfl)
    (hcd : (x == ("__classdict__" : Str)) = false := by kernel_rfl) : SE ca X W O .E (.Name x pos) (eVar i) :=
  ⟨tVar i, pe_var hN hv hd hcd, fun B F0 F H σ env Q s n k x => by
    cases q : eVar i env with
    | no => exact absurd q n
    | exc c => exact absurd q slot_exc
    | ok d =>
      obtain ⟨v, h1, h2⟩ := s.frz i d hi (slot_ok q)
      exact ⟨v, h1, k d q v F H (Ext.refl s.fh) h2⟩⟩
/-- any name, looked at -/
theorem se_look (i : Nat) {x : Str} (hv : Vis X.env.scope x) (hN : X.N[i]? = some x := by kernel_rfl) (hd : (x == ("__debug__" : Str)) = false := by kernel_rfl)
    (hcd : (x == ("__classdict__" : Str)) = false := by kernel_rfl) : SE ca X W O .B (.Name x pos) (eVar i) :=
  ⟨tVar i, pe_var hN hv hd hcd, fun B F0 F H σ env Q s n k x => by
    cases q : eVar i env with
    | no => exact absurd q n
    | exc c => exact absurd q slot_exc
    | ok d =>
      obtain ⟨v, h1, h2⟩ := s.view (slot_ok q)
      exact ⟨v, h1, k d q v F H (Ext.refl s.fh) h2⟩⟩
theorem sim_c {K : PySem.W.Frag} {v : V} {d : D} (h : ∀ F, Rep K F d v) : SimE K ca W O .E (tC v) (eC d) := fun B F0 F H σ env Q s n k x => k d rfl v F H (Ext.refl s.fh) (h F)
theorem se_int {i j} : SE ca X W O .E (.Constant (.int i) j pos) (eC (.int i)) := ⟨_, pe_int, sim_c fun _ => rfl⟩
theorem se_bool {i j} : SE ca X W O .E (.Constant (.bool i) j pos) (eC (.bool i)) := ⟨_, pe_bl, sim_c fun _ => rfl⟩
theorem se_none {j} : SE ca X W O .E (.Constant .none j pos) (eC .none) := ⟨_, pe_non, sim_c fun _ => rfl⟩
theorem se_str {i j} : SE ca X W O .E (.Constant (.str i) j pos) (eC (.str i)) := ⟨_, pe_str, sim_c fun _ => rfl⟩
/-- a whole number of the module's -/
theorem se_glob {x : Str} {i : Int} {u : Value} (hg : Gl X x) (hm : X.mg x = some u) (r : RelV (.int i) u) (hd : (x == ("__debug__" : Str)) = false := by kernel_rfl) : SE ca X W O .E (.Name x pos) (eC (.int i)) := ⟨_, pe_glob hg hm r hd, sim_c fun _ => rfl⟩
theorem se_globS {x : Str} {i : Str} {u : Value} (hg : Gl X x) (hm : X.mg x = some u) (r : RelV (.str i) u) (hd : (x == ("__debug__" : Str)) = false := by kernel_rfl) : SE ca X W O .E (.Name x pos) (eC (.str i)) := ⟨_, pe_glob hg hm r hd, sim_c fun _ => rfl⟩
/-- an expression that is not reached -/
theorem se_no : SE ca X W O m e eNo := ⟨fun _ _ _ => False, ⟨fun _ _ _ _ _ _ h => h.elim⟩, fun B F0 F H σ env Q s n k x => absurd rfl n⟩
/-- x, then y -/
theorem sim_two {α : Type} {K : PySem.W.Frag} {ta tb : TE} {m1 m2 : Md} (ha : SimE K ca W O m1 ta fa) (hb : SimE K ca W O m2 tb fb) {g : D → D → R α} {B F0 F H : Hp} {σ : St} {env : Env} {P : V → V → Hp → Prop} (s : SR K B F0 O F H σ env)
    (n : (fa env >>= fun x => fb env >>= fun y => g x y) ≠ .no)
    (x : ∀ c, (fa env >>= fun x => fb env >>= fun y => g x y) = .exc c → ∀ F' H', Ext F H F' H' → W (.ref (ca c)) none σ H')
    (k : ∀ d1 d2, fa env = .ok d1 → fb env = .ok d2 → g d1 d2 ≠ .no → (fa env >>= fun x => fb env >>= fun y => g x y) = g d1 d2 → ∀ v1 v2 F1 H1 F2 H2, Ext F H F1 H1 → MdOk K H F1 H1 m1 d1 v1 → Ext F1 H1 F2 H2 → MdOk K H1 F2 H2 m2 d2 v2 → P v1 v2 H2) :
    ta σ H fun v1 H1 => tb σ H1 fun v2 H2 => P v1 v2 H2 := by
  have n1 := bind_ne n
  refine ha B F0 F H σ env _ s n1.1 (fun d1 h1 v1 F1 H1 e1 r1 => ?_) (fun c hc => x c (by rw [hc]; rfl))
  have n2 := bind_ne (n1.2 d1 h1)
  refine hb B F0 F1 H1 σ env _ (s.step e1) n2.1 (fun d2 h2 v2 F2 H2 e2 r2 => ?_) (fun c hc F2 H2 e2 => x c (by rw [h1, ok_bind, hc]; rfl) F2 H2 (e1.trans e2))
  exact k d1 d2 h1 h2 (n2.2 d2 h2) (by rw [h1, ok_bind, h2, ok_bind]) v1 v2 F1 H1 F2 H2 e1 r1 e2 r2
/-- a two-place operation by values: its rule r gives what g says -/
def SimR2 (K : PySem.W.Frag) (m : Md) (r : R2) (g : D → D → R D) : Prop := ∀ (F H : Hp) (x y : V) (d1 d2 z : D) (Q : VK), Ex F H → View K F H d1 x → View K F H d2 y → g d1 d2 = .ok z →
  (∀ v F' H', Ext F H F' H' → MdOk K H F' H' m z v → Q v H') → r x y H Q
theorem sim_op {K : PySem.W.Frag} {ta tb : TE} {r : R2} {g : D → D → R D} (hr : SimR2 K m r g) (ha : SimE K ca W O .B ta fa) (hb : SimE K ca W O .B tb fb) : SimE K ca W O m (tOp r ta tb) (eOp2 g fa fb) := fun B F0 F H σ env Q s n k x =>
  sim_two ha hb (g := fun x y => quiet (g x y)) s n x fun d1 d2 h1 h2 n2 e v1 v2 F1 H1 F2 H2 e1 r1 e2 r2 => by
    obtain ⟨z, hz⟩ := quiet_ne n2
    refine hr F2 H2 v1 v2 d1 d2 z Q e2.fh (r1.mono e2.ff e2.hh) r2 hz fun v F' H' e' r' => k z ?_ v F' H' ((e1.trans e2).trans e') (r'.back (e1.hh.trans e2.hh))
    exact e.trans (by show quiet (g d1 d2) = _; rw [hz]; rfl)
theorem se_bin {op : Operator} {r : R2} {g : D → D → R D} (ho : OpR X (binaryOp op) r) (hr : SimR2 X.K m r g) (ha : SE ca X W O .B a fa) (hb : SE ca X W O .B b fb) : SE ca X W O m (.BinOp a op b pos) (eOp2 g fa fb) := by
  obtain ⟨ta, pa, qa⟩ := ha
  obtain ⟨tb, pb, qb⟩ := hb
  exact ⟨_, pe_op ho pa pb, sim_op hr qa qb⟩
theorem se_cmp {op : CmpOp} {r : R2} {g : D → D → R D} (ho : OpR X (compareOp op) r) (hr : SimR2 X.K m r g) (ha : SE ca X W O .B a fa) (hb : SE ca X W O .B b fb) (hm : behindInMarks op b = false) : SE ca X W O m (.Compare a [op] [b] pos) (eOp2 g fa fb) := by
  obtain ⟨ta, pa, qa⟩ := ha
  obtain ⟨tb, pb, qb⟩ := hb
  exact ⟨_, pe_cmpR ho pa pb hm, sim_op hr qa qb⟩
def SimR1 (K : PySem.W.Frag) (m : Md) (r : V → Hp → VK → Prop) (g : D → R D) : Prop := ∀ (F H : Hp) (x : V) (d1 z : D) (Q : VK), Ex F H → View K F H d1 x → g d1 = .ok z →
  (∀ v F' H', Ext F H F' H' → MdOk K H F' H' m z v → Q v H') → r x H Q
theorem se_un {op : UnaryOp} {r : V → Hp → VK → Prop} {g : D → R D} (ho : UnR X (unaryOp op) r) (hr : SimR1 X.K m r g) (ha : SE ca X W O .B a fa) : SE ca X W O m (.UnaryOp op a pos) (eOp1 g fa) := by
  obtain ⟨ta, pa, qa⟩ := ha
  refine ⟨_, pe_un ho pa, fun B F0 F H σ env Q s n k x => ?_⟩
  have n1 := bind_ne n
  refine qa B F0 F H σ env _ s n1.1 (fun d1 h1 v1 F1 H1 e1 r1 => ?_) (fun c hc => x c (by show (fa env >>= _) = _; rw [hc]; rfl))
  obtain ⟨z, hz⟩ := quiet_ne (n1.2 d1 h1)
  exact hr F1 H1 v1 d1 z Q e1.fh r1 hz fun v F' H' e' r' => k z (by show (fa env >>= _) = _; rw [h1, ok_bind, hz]; rfl) v F' H' (e1.trans e') (r'.back e1.hh)
/-! ### truth -/
theorem truthD_exc {d : D} {c : Xc} : truthD d ≠ .exc c := by
  cases d <;> (simp only [truthD]; first | (intro h; cases h; done) | (split <;> (intro h; cases h)))
theorem Reps.emp {K : PySem.W.Frag} {F : Hp} {ds : List D} {xs : List V} (h : Reps K F ds xs) : xs.isEmpty = ds.isEmpty := by
  cases ds with
  | nil => cases h; rfl
  | cons d ds => obtain ⟨v, vs, a, _⟩ := h; subst a; rfl
theorem tru_of {K : PySem.W.Frag} {F H : Hp} {d : D} {v : V} {k : Bool} (fh : Ex F H) (h : View K F H d v) (e : truthD d = .ok k) : TruV K v H k := by
  cases d with
  | none => rw [h.none]; cases e; rfl
  | bool b => rw [h.bool]; cases e; rfl
  | int i => rw [h.int]; cases e; rfl
  | str x =>
    rw [h.str]
    simp only [truthD] at e
    split at e
    · cases e; exact ⟨by assumption, rfl⟩
    · cases e
  | list ds =>
    obtain ⟨p, xs, a, b, _, c⟩ := h.list fh
    subst a
    cases e
    exact .inl ⟨xs, SqL.of b, by rw [c.emp]⟩
  | tuple ds =>
    obtain ⟨p, xs, a, b, _, _, c⟩ := h.tup fh
    subst a
    cases e
    exact .inr (.inl ⟨xs, SqT.of b, by rw [c.emp]⟩)
  | dict es => cases e
/-- an expression of any kind but not, and, or -/
theorem st_tru (ha : SE ca X W O .B a fa) (he : ∀ whole, isTrue a X.env whole = (do let v ← whole; standAt a.pos; holding [v] (truthy v)) := by intro _; kernel_rfl) : ST ca X W O a (tTru fa) := by
  obtain ⟨ta, pa, qa⟩ := ha
  refine ⟨_, pt_truth pa he, fun B F0 F H σ env Q s n k x => ?_⟩
  have n1 := bind_ne n
  refine qa B F0 F H σ env _ s n1.1 (fun d1 h1 v1 F1 H1 e1 r1 => ?_) (fun c hc => x c (by show (fa env >>= _) = _; rw [hc]; rfl))
  cases z : truthD d1 with
  | no => exact absurd z (n1.2 d1 h1)
  | exc c => exact absurd z truthD_exc
  | ok b => exact ⟨b, tru_of e1.fh r1 z, k b (by show (fa env >>= _) = _; rw [h1, ok_bind, z]) F1 H1 e1⟩
theorem sim_test {K : PySem.W.Frag} {t : TE} (qa : SimE K ca W O .E t fa) : SimT K ca W O (tTest t) (tVal fa) := fun B F0 F H σ env Q s n k x => by
  have n1 := bind_ne n
  refine qa B F0 F H σ env _ s n1.1 (fun d1 h1 v1 F1 H1 e1 r1 => ?_) (fun c hc => x c (by show (fa env >>= _) = _; rw [hc]; rfl))
  have n2 := n1.2 d1 h1
  cases d1 <;> try (exact absurd rfl n2)
  exact ⟨_, r1, k _ (by show (fa env >>= _) = _; rw [h1]; rfl) F1 H1 e1⟩
/-- a comparison as a test -/
theorem st_cmp {op : CmpOp} {r : R2} {g : D → D → R D} (ho : OpR X (compareOp op) r) (hr : SimR2 X.K .E r g) (ha : SE ca X W O .B a fa) (hb : SE ca X W O .B b fb) (hm : behindInMarks op b = false) : ST ca X W O (.Compare a [op] [b] pos) (tVal (eOp2 g fa fb)) := by
  obtain ⟨ta, pa, qa⟩ := ha
  obtain ⟨tb, pb, qb⟩ := hb
  exact ⟨_, pt_cmpR ho pa pb hm, sim_test (sim_op hr qa qb)⟩
variable {ft fu : TF}
theorem st_not (h : ST ca X W O a ft) : ST ca X W O (.UnaryOp .Not a pos) (tNot ft) := by
  obtain ⟨t, p, q⟩ := h
  refine ⟨_, pt_not p, fun B F0 F H σ env Q s n k x => ?_⟩
  have n1 := bind_ne n
  exact q B F0 F H σ env _ s n1.1 (fun b h1 F1 H1 e1 => k (!b) (by show (ft env >>= _) = _; rw [h1]; rfl) F1 H1 e1) (fun c hc => x c (by show (ft env >>= _) = _; rw [hc]; rfl))
theorem SW.st (h : SW ca X W O a ft) : ST ca X W O a ft := by
  obtain ⟨t, p, q⟩ := h
  exact ⟨t, p.pt, q⟩
theorem sw_and1 (h : ST ca X W O a ft) : SW ca X W O (.BoolOp .And [a] pos) ft := by
  obtain ⟨t, p, q⟩ := h
  exact ⟨t, pw_and1 p, q⟩
theorem sw_or1 (h : ST ca X W O a ft) : SW ca X W O (.BoolOp .Or [a] pos) ft := by
  obtain ⟨t, p, q⟩ := h
  exact ⟨t, pw_or1 p, q⟩
theorem sw_and (h1 : ST ca X W O a ft) (h2 : SW ca X W O (.BoolOp .And (b :: rest) pos) fu) : SW ca X W O (.BoolOp .And (a :: b :: rest) pos) (tAnd ft fu) := by
  obtain ⟨t, p, q⟩ := h1
  obtain ⟨u, p2, q2⟩ := h2
  refine ⟨_, pw_and p p2, fun B F0 F H σ env Q s n k x => ?_⟩
  have n1 := bind_ne n
  refine q B F0 F H σ env _ s n1.1 (fun b h1 F1 H1 e1 => ?_) (fun c hc => x c (by show (ft env >>= _) = _; rw [hc]; rfl))
  have e : tAnd ft fu env = if b = true then fu env else .ok false := by show (ft env >>= _) = _; rw [h1]; rfl
  cases b with
  | false => exact k false e F1 H1 e1
  | true =>
    have n2 := n1.2 true h1
    exact q2 B F0 F1 H1 σ env _ (s.step e1) n2 (fun b hb F2 H2 e2 => k b (e.trans hb) F2 H2 (e1.trans e2)) (fun c hc F2 H2 e2 => x c (e.trans hc) F2 H2 (e1.trans e2))
theorem sw_or (h1 : ST ca X W O a ft) (h2 : SW ca X W O (.BoolOp .Or (b :: rest) pos) fu) : SW ca X W O (.BoolOp .Or (a :: b :: rest) pos) (tOr ft fu) := by
  obtain ⟨t, p, q⟩ := h1
  obtain ⟨u, p2, q2⟩ := h2
  refine ⟨_, pw_or p p2, fun B F0 F H σ env Q s n k x => ?_⟩
  have n1 := bind_ne n
  refine q B F0 F H σ env _ s n1.1 (fun b h1 F1 H1 e1 => ?_) (fun c hc => x c (by show (ft env >>= _) = _; rw [hc]; rfl))
  have e : tOr ft fu env = if b = true then .ok true else fu env := by show (ft env >>= _) = _; rw [h1]; rfl
  cases b with
  | true => exact k true e F1 H1 e1
  | false =>
    have n2 := n1.2 false h1
    exact q2 B F0 F1 H1 σ env _ (s.step e1) n2 (fun b hb F2 H2 e2 => k b (e.trans hb) F2 H2 (e1.trans e2)) (fun c hc F2 H2 e2 => x c (e.trans hc) F2 H2 (e1.trans e2))
theorem st_no : ST ca X W O e (fun _ => .no) := ⟨fun _ _ _ => False, ⟨fun _ _ _ _ _ _ h => h.elim⟩, fun B F0 F H σ env Q s n k x => absurd rfl n⟩
theorem se_if (hc : ST ca X W O c ft) (ha : SE ca X W O m a fa) (hb : SE ca X W O m b fb) : SE ca X W O m (.IfExp c a b pos) (eIf ft fa fb) := by
  obtain ⟨t, p, q⟩ := hc
  obtain ⟨ta, pa, qa⟩ := ha
  obtain ⟨tb, pb, qb⟩ := hb
  refine ⟨_, pe_ifExp p pa pb, fun B F0 F H σ env Q s n k x => ?_⟩
  have n1 := bind_ne n
  refine q B F0 F H σ env _ s n1.1 (fun b h1 F1 H1 e1 => ?_) (fun c hc => x c (by show (ft env >>= _) = _; rw [hc]; rfl))
  have e : eIf ft fa fb env = if b = true then fa env else fb env := by show (ft env >>= _) = _; rw [h1]; rfl
  have n2 := n1.2 b h1
  cases b with
  | true => exact qa B F0 F1 H1 σ env _ (s.step e1) n2 (fun d hd v F2 H2 e2 r => k d (e.trans hd) v F2 H2 (e1.trans e2) (r.back e1.hh)) (fun c hc F2 H2 e2 => x c (e.trans hc) F2 H2 (e1.trans e2))
  | false => exact qb B F0 F1 H1 σ env _ (s.step e1) n2 (fun d hd v F2 H2 e2 r => k d (e.trans hd) v F2 H2 (e1.trans e2) (r.back e1.hh)) (fun c hc F2 H2 e2 => x c (e.trans hc) F2 H2 (e1.trans e2))
theorem se_one {op : BoolOp} (h : SE ca X W O m a fa) : SE ca X W O m (.BoolOp op [a] pos) fa := by
  obtain ⟨t, p, q⟩ := h
  exact ⟨t, pe_one p, q⟩
theorem se_and (h1 : SE ca X W O .E a fa) (h2 : SE ca X W O .E (.BoolOp .And (b :: rest) pos) fb) : SE ca X W O .E (.BoolOp .And (a :: b :: rest) pos) (eAnd fa fb) := by
  obtain ⟨t, p, q⟩ := h1
  obtain ⟨u, p2, q2⟩ := h2
  refine ⟨_, pe_andT p p2, fun B F0 F H σ env Q s n k x => ?_⟩
  have n1 := bind_ne n
  refine q B F0 F H σ env _ s n1.1 (fun d h1 v F1 H1 e1 r1 => ?_) (fun c hc => x c (by show (fa env >>= _) = _; rw [hc]; rfl))
  have n2 := bind_ne (n1.2 d h1)
  cases z : truthD d with
  | no => exact absurd z n2.1
  | exc c => exact absurd z truthD_exc
  | ok b =>
    have e : eAnd fa fb env = if b = true then fb env else .ok d := by show (fa env >>= _) = _; rw [h1, ok_bind, z]; rfl
    refine ⟨b, tru_of e1.fh (.inl r1) z, ?_⟩
    cases b with
    | false => exact k d e v F1 H1 e1 r1
    | true =>
      have n3 := n2.2 true z
      exact q2 B F0 F1 H1 σ env _ (s.step e1) n3 (fun d hd v F2 H2 e2 r => k d (e.trans hd) v F2 H2 (e1.trans e2) r) (fun c hc F2 H2 e2 => x c (e.trans hc) F2 H2 (e1.trans e2))
theorem se_or (h1 : SE ca X W O .E a fa) (h2 : SE ca X W O .E (.BoolOp .Or (b :: rest) pos) fb) : SE ca X W O .E (.BoolOp .Or (a :: b :: rest) pos) (eOr fa fb) := by
  obtain ⟨t, p, q⟩ := h1
  obtain ⟨u, p2, q2⟩ := h2
  refine ⟨_, pe_orT p p2, fun B F0 F H σ env Q s n k x => ?_⟩
  have n1 := bind_ne n
  refine q B F0 F H σ env _ s n1.1 (fun d h1 v F1 H1 e1 r1 => ?_) (fun c hc => x c (by show (fa env >>= _) = _; rw [hc]; rfl))
  have n2 := bind_ne (n1.2 d h1)
  cases z : truthD d with
  | no => exact absurd z n2.1
  | exc c => exact absurd z truthD_exc
  | ok b =>
    have e : eOr fa fb env = if b = true then .ok d else fb env := by show (fa env >>= _) = _; rw [h1, ok_bind, z]; rfl
    refine ⟨b, tru_of e1.fh (.inl r1) z, ?_⟩
    cases b with
    | true => exact k d e v F1 H1 e1 r1
    | false =>
      have n3 := n2.2 false z
      exact q2 B F0 F1 H1 σ env _ (s.step e1) n3 (fun d hd v F2 H2 e2 r => k d (e.trans hd) v F2 H2 (e1.trans e2) r) (fun c hc F2 H2 e2 => x c (e.trans hc) F2 H2 (e1.trans e2))
theorem se_not (h1 : SE ca X W O .B a fa) : SE ca X W O .E (.UnaryOp .Not a pos) (eNot fa) := by
  obtain ⟨t, p, q⟩ := h1
  refine ⟨_, pe_notT p, fun B F0 F H σ env Q s n k x => ?_⟩
  have n1 := bind_ne n
  refine q B F0 F H σ env _ s n1.1 (fun d h1 v F1 H1 e1 r1 => ?_) (fun c hc => x c (by show (fa env >>= _) = _; rw [hc]; rfl))
  have n2 := bind_ne (n1.2 d h1)
  cases z : truthD d with
  | no => exact absurd z n2.1
  | exc c => exact absurd z truthD_exc
  | ok b => exact ⟨b, tru_of e1.fh r1 z, k (.bool !b) (by show (fa env >>= _) = _; rw [h1, ok_bind, z]; rfl) (.bl !b) F1 H1 e1 rfl⟩
/-! ### arguments, tuples, lists -/
theorem sa_nil : SA ca X W O m [] aNil := ⟨_, pa_nil, fun B F0 F H σ env Q s n k x => k [] rfl [] F H (Ext.refl s.fh) (by cases m <;> rfl)⟩
theorem sa_consE {ga : AF} (h1 : SE ca X W O .E e fa) (h2 : SA ca X W O .E es ga) (hs : starEach (e :: es) X.env = (false, eval e X.env) :: starEach es X.env := by kernel_rfl) : SA ca X W O .E (e :: es) (aCons fa ga) := by
  obtain ⟨t, p, q⟩ := h1
  obtain ⟨u, p2, q2⟩ := h2
  refine ⟨_, pa_cons p p2 hs, fun B F0 F H σ env Q s n k x => ?_⟩
  have n1 := bind_ne n
  refine q B F0 F H σ env _ s n1.1 (fun d h1 v F1 H1 e1 r1 => ?_) (fun c hc => x c (by show (fa env >>= _) = _; rw [hc]; rfl))
  have n2 := bind_ne (n1.2 d h1)
  exact q2 B F0 F1 H1 σ env _ (s.step e1) n2.1 (fun ds hds vs F2 H2 e2 r => k (d :: ds) (by show (fa env >>= _) = _; rw [h1, ok_bind, hds]; rfl) (v :: vs) F2 H2 (e1.trans e2) ⟨v, vs, rfl, r1.mono e2.ff, r⟩)
    (fun c hc F2 H2 e2 => x c (by show (fa env >>= _) = _; rw [h1, ok_bind, hc]; rfl) F2 H2 (e1.trans e2))
theorem sa_cons {ga : AF} (h1 : SE ca X W O .B e fa) (h2 : SA ca X W O .B es ga) (hs : starEach (e :: es) X.env = (false, eval e X.env) :: starEach es X.env := by kernel_rfl) : SA ca X W O .B (e :: es) (aCons fa ga) := by
  obtain ⟨t, p, q⟩ := h1
  obtain ⟨u, p2, q2⟩ := h2
  refine ⟨_, pa_cons p p2 hs, fun B F0 F H σ env Q s n k x => ?_⟩
  have n1 := bind_ne n
  refine q B F0 F H σ env _ s n1.1 (fun d h1 v F1 H1 e1 r1 => ?_) (fun c hc => x c (by show (fa env >>= _) = _; rw [hc]; rfl))
  have n2 := bind_ne (n1.2 d h1)
  exact q2 B F0 F1 H1 σ env _ (s.step e1) n2.1 (fun ds hds vs F2 H2 e2 r => k (d :: ds) (by show (fa env >>= _) = _; rw [h1, ok_bind, hds]; rfl) (v :: vs) F2 H2 (e1.trans e2) ⟨v, vs, rfl, r1.mono e2.ff e2.hh, r⟩)
    (fun c hc F2 H2 e2 => x c (by show (fa env >>= _) = _; rw [h1, ok_bind, hc]; rfl) F2 H2 (e1.trans e2))
theorem se_tup {ga : AF} {n1 : Nat} (h : SA ca X W O .E es ga) : SE ca X W O .E (.Tuple es n1 pos) (eTup ga) := by
  obtain ⟨t, p, q⟩ := h
  refine ⟨_, pe_tup p, fun B F0 F H σ env Q s n k x => ?_⟩
  have n1 := bind_ne n
  refine q B F0 F H σ env _ s n1.1 (fun ds h1 vs F1 H1 e1 r1 => ?_) (fun c hc => x c (by show (ga env >>= _) = _; rw [hc]; rfl))
  have n2 := n1.2 ds h1
  by_cases z : ds.length ≤ sizeLine
  · have zl : vs.length ≤ sizeLine := by rw [Reps.length r1]; exact z
    refine ⟨zl, fun p hp => k (.tuple ds) (by show (ga env >>= _) = _; rw [h1, ok_bind, if_pos z]) _ (upd F1 p (.tup vs)) _ (e1.trans (Ext.frz e1.fh hp)) ?_⟩
    exact ⟨p, vs, rfl, upd_same, zl, Reps.mono (Ex.new (e1.fh.back hp)) _ _ r1⟩
  · rw [if_neg z] at n2
    exact absurd rfl n2
theorem se_lst {ga : AF} (h : SA ca X W O .E es ga) : SE ca X W O .O (.List es pos) (eList ga) := by
  obtain ⟨t, p, q⟩ := h
  refine ⟨_, pe_lst p, fun B F0 F H σ env Q s n k x => ?_⟩
  have n1 := bind_ne n
  refine q B F0 F H σ env _ s n1.1 (fun ds h1 vs F1 H1 e1 r1 => ?_) (fun c hc => x c (by show (ga env >>= _) = _; rw [hc]; rfl))
  have n2 := n1.2 ds h1
  by_cases z : ds.length ≤ sizeLine
  · have zl : vs.length ≤ sizeLine := by rw [Reps.length r1]; exact z
    exact ⟨zl, fun p hp => k (.list ds) (by show (ga env >>= _) = _; rw [h1, ok_bind, if_pos z]) _ F1 _ (e1.trans (Ext.own e1.fh hp)) ⟨p, _, rfl, e1.hh.back hp, e1.fh.back hp, upd_same, zl, r1⟩⟩
  · rw [if_neg z] at n2
    exact absurd rfl n2
/-! ### built-in things called -/
def SimC (K : PySem.W.Frag) (m : Md) (r : List V → Hp → VK → Prop) (g : List D → R D) : Prop := ∀ (F H : Hp) (vs : List V) (ds : List D) (z : D) (Q : VK), Ex F H → Views K F H ds vs → g ds = .ok z →
  (∀ v F' H', Ext F H F' H' → MdOk K H F' H' m z v → Q v H') → r vs H Q
theorem sim_cb {K : PySem.W.Frag} {t : TA} {ga : AF} {r : List V → Hp → VK → Prop} {g : List D → R D} (hr : SimC K m r g) (q : SimA K ca W O .B t ga) : SimE K ca W O m (tCB r t) (eCallB g ga) := fun B F0 F H σ env Q s n k x => by
  have n1 := bind_ne n
  refine q B F0 F H σ env _ s n1.1 (fun ds h1 vs F1 H1 e1 r1 => ?_) (fun c hc => x c (by show (ga env >>= _) = _; rw [hc]; rfl))
  obtain ⟨z, hz⟩ := quiet_ne (n1.2 ds h1)
  exact hr F1 H1 vs ds z Q e1.fh r1 hz fun v F' H' e' r' => k z (by show (ga env >>= _) = _; rw [h1, ok_bind, hz]; rfl) v F' H' (e1.trans e') (r'.back e1.hh)
theorem se_callB {x : Str} {id : String} {p : Pos} {ga : AF} {r : List V → Hp → VK → Prop} {g : List D → R D} (hc : CallR X (.builtin id) r) (hr : SimC X.K m r g) (hg : Gl X x) (hm : X.mg x = none) (hv : bootBuiltins x = some (.builtin id)) (ha : SA ca X W O .B (e :: es) ga)
    (hd : (x == ("__debug__" : Str)) = false := by kernel_rfl) (hn : x ≠ "__name__" := by decide)
    (he : starEach (e :: es) X.env = (false, eval e X.env) :: starEach es X.env := by kernel_rfl) (hpl : (backTo pos (starEach es X.env)).any (·.1) = false := by kernel_rfl) : SE ca X W O m (.Call (.Name x p) (e :: es) [] pos) (eCallB g ga) := by
  obtain ⟨t, pt, q⟩ := ha
  exact ⟨_, pe_callB hc hg hm hv pt hn hd he hpl, sim_cb hr q⟩
theorem se_callTy {x : Str} {T : String} {p : Pos} {ga : AF} {r : List V → Hp → VK → Prop} {g : List D → R D} (hc : CallR X (.type T) r) (hr : SimC X.K m r g) (hg : Gl X x) (hm : X.mg x = none) (hv : bootBuiltins x = some (.type T)) (ha : SA ca X W O .B (e :: es) ga)
    (hd : (x == ("__debug__" : Str)) = false := by kernel_rfl) (hn : x ≠ "__name__" := by decide)
    (he : starEach (e :: es) X.env = (false, eval e X.env) :: starEach es X.env := by kernel_rfl) (hpl : (backTo pos (starEach es X.env)).any (·.1) = false := by kernel_rfl) : SE ca X W O m (.Call (.Name x p) (e :: es) [] pos) (eCallB g ga) := by
  obtain ⟨t, pt, q⟩ := ha
  exact ⟨_, pe_callTy hc hg hm hv pt hn hd he hpl, sim_cb hr q⟩
end
end Rt
/-! Sim3: statements, loops, comprehensions, calls, defs. -/
namespace Rt
open PySem L2
/-! ### targets -/
def SimG (K : PySem.W.Frag) (O ts : List Nat) (g : TG) (f : GF) : Prop := ∀ (B F0 F H : Hp) (σ : St) (env env' : Env) (v : V) (d : D) (Q : St → Hp → Prop), SR K B F0 O F H σ env → Rep K F d v → f d env = .ok env' →
  (∀ σ', SR K B F0 O F H σ' env' → (∀ vs : List Nat, (∀ i ∈ ts, i ∈ vs) → wipe σ' vs = wipe σ vs) → Q σ' H) → g v σ H Q
def SimGs (K : PySem.W.Frag) (O ts : List Nat) (g : TGs) (f : List D → Env → R Env) : Prop := ∀ (B F0 F H : Hp) (σ : St) (env env' : Env) (xs : List V) (ds : List D) (Q : St → Hp → Prop), SR K B F0 O F H σ env → Reps K F ds xs → f ds env = .ok env' →
  (∀ σ', SR K B F0 O F H σ' env' → (∀ vs : List Nat, (∀ i ∈ ts, i ∈ vs) → wipe σ' vs = wipe σ vs) → Q σ' H) → g xs σ H Q
def SG (X : Cx) (O ts : List Nat) (tg : Expr) (f : GF) : Prop := ∃ g, PG X tg g ∧ SimG X.K O ts g f
def SGs (X : Cx) (O ts : List Nat) (tg : List Expr) (f : List D → Env → R Env) : Prop := ∃ g, PGs X tg g ∧ SimGs X.K O ts g f
theorem wipe_get (σ : St) : ∀ (vs : List Nat) (i : Nat), (wipe σ vs)[i]? = if i ∈ vs ∧ i < σ.length then some none else σ[i]?
  | [], i => by
    rw [if_neg (fun z => by cases z.1)]
    rfl
  | v :: vs, i => by
    unfold wipe
    by_cases e : v = i
    · subst e
      by_cases l : v < σ.length
      · rw [if_pos ⟨List.mem_cons_self, l⟩, List.getElem?_set_self (by rw [wipe_length]; exact l)]
      · rw [if_neg (fun z => l z.2), List.getElem?_eq_none (by rw [List.length_set, wipe_length]; omega), List.getElem?_eq_none (by omega)]
    · rw [List.getElem?_set_ne e, wipe_get σ vs i]
      by_cases q : i ∈ vs ∧ i < σ.length
      · rw [if_pos q, if_pos ⟨List.mem_cons_of_mem _ q.1, q.2⟩]
      · rw [if_neg q, if_neg (fun z => q ⟨(List.mem_cons.mp z.1).resolve_left fun w => e w.symm, z.2⟩)]
theorem wipe_set {σ : St} {vs : List Nat} {i : Nat} {x : Option V} (h : i ∈ vs) : wipe (σ.set i x) vs = wipe σ vs := by
  apply List.ext_getElem?
  intro j
  rw [wipe_get, wipe_get, List.length_set]
  by_cases q : j ∈ vs ∧ j < σ.length
  · rw [if_pos q, if_pos q]
  · rw [if_neg q, if_neg q]
    by_cases e : i = j
    · subst e
      have l : ¬ i < σ.length := fun l => q ⟨h, l⟩
      rw [List.getElem?_eq_none (by rw [List.length_set]; omega), List.getElem?_eq_none (by omega)]
    · rw [List.getElem?_set_ne e]
theorem wipe_wipe {σ : St} {vs : List Nat} : wipe (wipe σ vs) vs = wipe σ vs := by
  apply List.ext_getElem?
  intro j
  rw [wipe_get, wipe_get, wipe_length]
  by_cases q : j ∈ vs ∧ j < σ.length
  · rw [if_pos q, if_pos q]
  · rw [if_neg q]
section
variable {ca : Xc → Addr} {X : Cx} {W : WX} {L : Lk} {O O' O1 O2 O3 : List Nat} {m : Md} {a b c e : Expr} {fa fb fc : EF} {pos : Pos} {es : List Expr} {ft : TF} {s1 s2 : SF} {st : Stmt} {sts : List Stmt} {ts us : List Nat}
theorem sg_name (i : Nat) {x : Str} (hN : X.N.Nodup) (hx : Loc X.env.scope x) (hf : X.fn x = true ∨ X.env.scope.names.lookup x = some .local) (hi : X.N[i]? = some x := by kernel_rfl) (ho : i ∉ O := by decide) :
    SG X O [i] (.Name x pos) (gName i) := ⟨_, pg_name hN hi hx hf, fun B F0 F H σ env env' v d Q s r h k => by
  cases h
  exact k _ (s.set ho r) fun vs h => wipe_set (h i List.mem_cons_self)⟩
theorem sgs_nil : SGs X O [] [] gNil := ⟨_, pgs_nil, fun B F0 F H σ env env' xs ds Q s r h k => by
  cases ds with
  | cons d ds => cases h
  | nil =>
    cases h
    cases r
    exact ⟨rfl, k σ s fun _ _ => rfl⟩⟩
theorem sgs_cons {f : GF} {g : List D → Env → R Env} (h1 : SG X O ts e f) (h2 : SGs X O us es g) (hs : (assignEach (e :: es) X.env).map (·.2) = assign e X.env :: (assignEach es X.env).map (·.2) := by kernel_rfl) : SGs X O (ts ++ us) (e :: es) (gCons f g) := by
  obtain ⟨t, p, q⟩ := h1
  obtain ⟨u, p2, q2⟩ := h2
  refine ⟨_, pgs_cons p p2 hs, fun B F0 F H σ env env' xs ds Q s r h k => ?_⟩
  cases ds with
  | nil => cases h
  | cons d ds =>
    obtain ⟨v, vs, e1, r1, r2⟩ := r
    subst e1
    obtain ⟨e2, h1, h2⟩ := bind_ok h
    refine ⟨v, vs, rfl, q B F0 F H σ env e2 v d _ s r1 h1 fun σ' s' w' => q2 B F0 F H σ' e2 env' vs ds _ s' r2 h2 fun σ2 s2 w2 => k σ2 s2 fun vs hv => ?_⟩
    rw [w2 vs fun i hi => hv i (List.mem_append_right _ hi), w' vs fun i hi => hv i (List.mem_append_left _ hi)]
theorem sg_tup {g : List D → Env → R Env} {k n : Nat} (hc : X.calm = true) (h : SGs X O ts es g) (hn : (assignEach es X.env).length = n := by kernel_rfl) (hst : (assignEach es X.env).findIdx? (·.1) = none := by kernel_rfl) : SG X O ts (.Tuple es k pos) (gTup n g) := by
  obtain ⟨t, p, q⟩ := h
  refine ⟨_, pg_tup hc p hn hst, fun B F0 F H σ env env' v d Q s r h kk => ?_⟩
  cases d <;> try (cases h; done)
  rename_i ds
  obtain ⟨p, xs, a, b, z, c⟩ := r
  subst a
  have e : (if ds.length = n then g ds env else R.no) = .ok env' := h
  by_cases l : ds.length = n
  · rw [if_pos l] at e
    exact ⟨p, xs, rfl, SqT.of (s.fh _ _ b), by rw [c.length]; exact l, q B F0 F H σ env env' xs ds Q s c e kk⟩
  · rw [if_neg l] at e
    cases e
/-! ### plain statements -/
theorem SR.toEx {K : PySem.W.Frag} {B F0 F H : Hp} {σ : St} {env : Env} (s : SR K B F0 O F H σ env) (h : ∀ i ∈ L.ex, i ∈ O) : ∃ F', Ex F F' ∧ SR K B F0 L.ex F' H σ env := s.sub h
/-- an expression, then a statement's end -/
theorem sim_then {K : PySem.W.Frag} {ta : TE} {k : D → Out} {B F0 F H : Hp} {σ : St} {env : Env} {Q : VK} (hx : ∀ i ∈ L.ex, i ∈ O) (q : SimE K ca W O m ta fa) (s : SR K B F0 O F H σ env) (n : outR (fa env) env k ≠ .no)
    (x : ∀ c e, outR (fa env) env k = .ex c e → ∀ σ' F' H', Ex F F' → SR K B F0 L.ex F' H' σ' e → W (.ref (ca c)) none σ' H')
    (kk : ∀ d, fa env = .ok d → outR (fa env) env k = k d → ∀ v F' H', Ext F H F' H' → MdOk K H F' H' m d v → Q v H') : ta σ H Q := by
  refine q B F0 F H σ env Q s ?_ (fun d hd v F' H' e r => kk d hd (by rw [hd]; rfl) v F' H' e r) (fun c hc F' H' e => ?_)
  · intro z
    rw [z] at n
    exact n rfl
  · obtain ⟨F2, e2, s2⟩ := (s.step e).sub hx
    exact x c env (by rw [hc]; rfl) σ F2 H' (e.ff.trans e2) s2
theorem sim_thenT {K : PySem.W.Frag} {ta : TT} {k : Bool → Out} {B F0 F H : Hp} {σ : St} {env : Env} {Q : Bool → Hp → Prop} (hx : ∀ i ∈ L.ex, i ∈ O) (q : SimT K ca W O ta ft) (s : SR K B F0 O F H σ env) (n : outR (ft env) env k ≠ .no)
    (x : ∀ c e, outR (ft env) env k = .ex c e → ∀ σ' F' H', Ex F F' → SR K B F0 L.ex F' H' σ' e → W (.ref (ca c)) none σ' H')
    (kk : ∀ d, ft env = .ok d → outR (ft env) env k = k d → ∀ F' H', Ext F H F' H' → Q d H') : ta σ H Q := by
  refine q B F0 F H σ env Q s ?_ (fun d hd F' H' e => kk d hd (by rw [hd]; rfl) F' H' e) (fun c hc F' H' e => ?_)
  · intro z
    rw [z] at n
    exact n rfl
  · obtain ⟨F2, e2, s2⟩ := (s.step e).sub hx
    exact x c env (by rw [hc]; rfl) σ F2 H' (e.ff.trans e2) s2
theorem ss_frz (h : ∀ i ∈ O1, i ∈ O) (k : SSs ca X W L O1 O2 sts s1) : SSs ca X W L O O2 sts s1 := by
  obtain ⟨t, p, q⟩ := k
  refine ⟨t, p, fun B F0 F H σ env N s n k1 k2 k3 k4 => ?_⟩
  obtain ⟨F1, e1, s1'⟩ := s.sub h
  exact q B F0 F1 H σ env N s1' n (fun e he σ' F' H' x => k1 e he σ' F' H' (e1.trans x)) k2 (fun e he σ' F' H' x => k3 e he σ' F' H' (e1.trans x)) (fun c e he σ' F' H' x => k4 c e he σ' F' H' (e1.trans x))
theorem ss_out (h : ∀ i ∈ O2, i ∈ O1) (k : SSs ca X W L O O1 sts s1) : SSs ca X W L O O2 sts s1 := by
  obtain ⟨t, p, q⟩ := k
  refine ⟨t, p, fun B F0 F H σ env N s n k1 k2 k3 k4 => ?_⟩
  refine q B F0 F H σ env N s n (fun e he σ' F' H' x s' => ?_) k2 k3 k4
  obtain ⟨F1, e1, s1'⟩ := s'.sub h
  exact k1 e he σ' F1 H' (x.trans e1) s1'
theorem ss_nil : SSs ca X W L O O [] sPass := ⟨_, pss_nil, fun B F0 F H σ env N s n k1 k2 k3 k4 => k1 env rfl σ F H (Ex.refl F) s⟩
theorem sim_seq {K : PySem.W.Frag} {t u : TS} (q : SimS K ca W L O O1 t s1) (q2 : SimS K ca W L O1 O2 u s2) : SimS K ca W L O O2 (tSeq t u) (sSeq s1 s2) := fun B F0 F H σ env N s n k1 k2 k3 k4 => by
  have n1 : s1 env ≠ .no := fun z => n (by show (match s1 env with | .nx e => s2 e | o => o) = _; rw [z])
  refine q B F0 F H σ env _ s n1 (fun e he σ' F' H' x s' => ?_) (fun d hd => ?_) (fun e he => ?_) (fun c e he => ?_)
  · have ee : sSeq s1 s2 env = s2 e := by show (match s1 env with | .nx e => s2 e | o => o) = _; rw [he]
    rw [ee] at n k1 k2 k3 k4
    exact q2 B F0 F' H' σ' e N s' n (fun e1 h1 σ2 F2 H2 x2 => k1 e1 h1 σ2 F2 H2 (x.trans x2)) k2 (fun e1 h1 σ2 F2 H2 x2 => k3 e1 h1 σ2 F2 H2 (x.trans x2)) (fun c e1 h1 σ2 F2 H2 x2 => k4 c e1 h1 σ2 F2 H2 (x.trans x2))
  · exact k2 d (by show (match s1 env with | .nx e => s2 e | o => o) = _; rw [hd])
  · exact k3 e (by show (match s1 env with | .nx e => s2 e | o => o) = _; rw [he])
  · exact k4 c e (by show (match s1 env with | .nx e => s2 e | o => o) = _; rw [he])
theorem ss_cons (h1 : SS ca X W L O O1 st s1) (h2 : SSs ca X W L O1 O2 sts s2) : SSs ca X W L O O2 (st :: sts) (sSeq s1 s2) := by
  obtain ⟨t, p, q⟩ := h1
  obtain ⟨u, p2, q2⟩ := h2
  exact ⟨_, pss_cons p p2, sim_seq q q2⟩
theorem ss_one (h1 : SS ca X W L O O1 st s1) : SSs ca X W L O O1 [st] s1 := by
  obtain ⟨t, p, q⟩ := h1
  exact ⟨_, pss_one p, q⟩
theorem ss_no : SS ca X W L O O1 st sNo := ⟨_, ps_never, fun B F0 F H σ env N s n k1 k2 k3 k4 => absurd rfl n⟩
theorem sss_no : SSs ca X W L O O1 sts sNo := ⟨_, pss_never, fun B F0 F H σ env N s n k1 k2 k3 k4 => absurd rfl n⟩
theorem ss_pass : SS ca X W L O O (.Pass pos) sPass := ⟨_, ps_pass, fun B F0 F H σ env N s n k1 k2 k3 k4 => k1 env rfl σ F H (Ex.refl F) s⟩
theorem ss_break (h : ∀ i ∈ L.bk, i ∈ O := by decide) : SS ca X W L O O1 (.Break pos) sBreak := ⟨_, ps_break, fun B F0 F H σ env N s n k1 k2 k3 k4 => by
  obtain ⟨F1, e1, s1⟩ := s.sub h
  exact k3 env rfl σ F1 H e1 s1⟩
theorem ss_expr (he : SE ca X W O m e fa) (hx : ∀ i ∈ L.ex, i ∈ O := by decide) (hs : swapsWith e none pos.line X.env = pure false := by kernel_rfl) : SS ca X W L O O (.Expr e pos) (sExpr fa) := by
  obtain ⟨t, p, q⟩ := he
  refine ⟨_, ps_expr p hs, fun B F0 F H σ env N s n k1 k2 k3 k4 => ?_⟩
  exact sim_then hx q s n k4 fun d hd ee v F' H' e r => k1 env ee σ F' H' e.ff (s.step e)
/-- return e, a frozen value -/
theorem ss_ret {bk ex : List Nat} (he : SE ca X W O .E e fa) (hx : ∀ i ∈ ex, i ∈ O := by decide) : SS ca X W ⟨false, bk, ex⟩ O O1 (.Return (some e) pos) (sRet fa) := by
  obtain ⟨t, p, q⟩ := he
  refine ⟨_, ps_ret p, fun B F0 F H σ env N s n k1 k2 k3 k4 => ?_⟩
  exact sim_then (L := ⟨false, bk, ex⟩) hx q s n k4 fun d hd ee v F' H' e r => k2 d ee v F' H' (s.ext.trans e) r
/-- return e, a new object -/
theorem ss_retN {bk ex : List Nat} (he : SE ca X W O .O e fa) (hx : ∀ i ∈ ex, i ∈ O := by decide) : SS ca X W ⟨true, bk, ex⟩ O O1 (.Return (some e) pos) (sRet fa) := by
  obtain ⟨t, p, q⟩ := he
  refine ⟨_, ps_ret p, fun B F0 F H σ env N s n k1 k2 k3 k4 => ?_⟩
  exact sim_then (L := ⟨true, bk, ex⟩) hx q s n k4 fun d hd ee v F' H' e r => k2 d ee v F' H' (s.ext.trans e) (r.back s.ext.hh)
/-- return x, x owning its object -/
theorem ss_retO {bk ex : List Nat} (i : Nat) {x : Str} {p' : Pos} (hv : Vis X.env.scope x) (hN : X.N[i]? = some x := by kernel_rfl) (hi : i ∈ O := by decide) (hd : (x == ("__debug__" : Str)) = false := by kernel_rfl)
    (hcd : (x == ("__classdict__" : Str)) = false := by kernel_rfl) : SS ca X W ⟨true, bk, ex⟩ O O1 (.Return (some (.Name x p')) pos) (sRet (eVar i)) :=
  ⟨_, ps_ret (pe_var hN hv hd hcd), fun B F0 F H σ env N s n k1 k2 k3 k4 => by
    obtain ⟨p, o, d, a1, a2, a3, a4, a5, a6⟩ := s.own i hi
    have e : eVar i env = .ok d := by
      show slot env i = _
      unfold slot
      rw [a1]
    refine ⟨.ref p, a2, k2 d (by show outR (eVar i env) env _ = _; rw [e]; rfl) _ F H s.ext ⟨p, o, rfl, a4, a3, a5, a6⟩⟩⟩
theorem ss_retNone {bk ex : List Nat} : SS ca X W ⟨false, bk, ex⟩ O O1 (.Return none pos) (sRet (eC .none)) :=
  ⟨_, ps_retN, fun B F0 F H σ env N s n k1 k2 k3 k4 => k2 .none rfl .non F H s.ext rfl⟩
theorem sim_asg {K : PySem.W.Frag} {te : TE} {g : TG} {gf : GF} (hx : ∀ i ∈ L.ex, i ∈ O) (q : SimE K ca W O .E te fa) (q2 : SimG K O ts g gf) : SimS K ca W L O O (tAsg te g) (sAsg fa gf) := fun B F0 F H σ env N s n k1 k2 k3 k4 =>
  sim_then hx q s n k4 fun d hd ee v F' H' e r => by
    have n2 : (match gf d env with | .ok env' => Out.nx env' | _ => Out.no) ≠ .no := fun z => n (ee.trans z)
    cases w : gf d env with
    | ok env' => exact q2 B F0 F' H' σ env env' v d _ (s.step e) r w fun σ' s' _ => k1 env' (ee.trans (by show (match gf d env with | .ok env' => Out.nx env' | _ => Out.no) = _; rw [w])) σ' F' H' e.ff s'
    | exc c => rw [w] at n2; exact absurd rfl n2
    | no => rw [w] at n2; exact absurd rfl n2
/-- x = e -/
theorem ss_set (i : Nat) {x : Str} {p' : Pos} (hN : X.N.Nodup) (he : SE ca X W O .E e fa) (hl : Loc X.env.scope x) (hf : X.fn x = true ∨ X.env.scope.names.lookup x = some .local) (hi : X.N[i]? = some x := by kernel_rfl) (ho : i ∉ O := by decide) (hx : ∀ i ∈ L.ex, i ∈ O := by decide)
    (hs : swapsWith e (some (.Name x p')) pos.line X.env = pure false := by kernel_rfl) : SS ca X W L O O (.Assign [.Name x p'] e pos) (sAsg fa (gName i)) := by
  obtain ⟨t, p, q⟩ := he
  exact ⟨_, ps_set hN hi hl p hs hf, sim_asg (ts := [i]) hx q fun B F0 F H σ env env' v d Q s r h k => by
    cases h
    exact k _ (s.set ho r) fun vs h => wipe_set (h i List.mem_cons_self)⟩
theorem sim_setO {K : PySem.W.Frag} {te : TE} {i : Nat} (ho : i ∉ O) (hx : ∀ i ∈ L.ex, i ∈ O) (q : SimE K ca W O .O te fa) : ∀ (B F0 F H : Hp) (σ : St) (env : Env) (N : Ends), i < env.length → SR K B F0 O F H σ env → sAsg fa (gName i) env ≠ .no →
  (∀ e, sAsg fa (gName i) env = .nx e → ∀ σ' F' H', Ex F F' → SR K B F0 (i :: O) F' H' σ' e → N.nx σ' H') →
  (∀ c e, sAsg fa (gName i) env = .ex c e → ∀ σ' F' H', Ex F F' → SR K B F0 L.ex F' H' σ' e → W (.ref (ca c)) none σ' H') → tAsg te (L2.gName i) N σ H := fun B F0 F H σ env N hlen s n k1 k4 =>
  sim_then hx q s n k4 fun d hd ee v F' H' e r => by
    obtain ⟨p, o, r1, r2, r3, r4, r5⟩ := r
    subst r1
    refine k1 _ (ee.trans rfl) _ F' H' e.ff ((s.step e).setO ho hlen r3 (s.ext.hh.back r2) r4 r5 fun j hj z => ?_)
    obtain ⟨p2, o2, d2, a1, a2, a3, a4, a5, a6⟩ := s.own j hj
    rw [a2] at z
    cases z
    rw [a5] at r2
    cases r2
/-- x = e, e a new object: x owns it -/
theorem ss_setO (i : Nat) {x : Str} {p' : Pos} (hN : X.N.Nodup) (he : SE ca X W O .O e fa) (hl : Loc X.env.scope x) (hf : X.fn x = true ∨ X.env.scope.names.lookup x = some .local) (hi : X.N[i]? = some x := by kernel_rfl) (ho : i ∉ O := by decide) (hx : ∀ i ∈ L.ex, i ∈ O := by decide)
    (hs : swapsWith e (some (.Name x p')) pos.line X.env = pure false := by kernel_rfl) : SS ca X W L O (i :: O) (.Assign [.Name x p'] e pos) (sSetO i fa) := by
  obtain ⟨t, p, q⟩ := he
  refine ⟨_, ps_set hN hi hl p hs hf, fun B F0 F H σ env N s n k1 k2 k3 k4 => ?_⟩
  by_cases hlen : i < env.length
  · have ee : sSetO i fa env = sAsg fa (gName i) env := if_pos hlen
    rw [ee] at n k1 k4
    exact sim_setO ho hx q B F0 F H σ env N hlen s n k1 k4
  · exact absurd (if_neg hlen) n
/-- a, b = e -/
theorem ss_asg {gf : GF} {tg : Expr} (he : SE ca X W O .E e fa) (hg : SG X O ts tg gf) (hx : ∀ i ∈ L.ex, i ∈ O := by decide) (hs : swapsWithSole [tg] e pos.line X.env = pure false := by kernel_rfl) (hw : swappedStores [tg] e X.env = pure none := by kernel_rfl) (h1 : (assignEach [tg] X.env).map (·.2) = [assign tg X.env] := by kernel_rfl) : SS ca X W L O O (.Assign [tg] e pos) (sAsg fa gf) := by
  obtain ⟨t, p, q⟩ := he
  obtain ⟨g, p2, q2⟩ := hg
  exact ⟨_, ps_asg p p2 hs hw h1, sim_asg hx q q2⟩
theorem ss_if (hc : ST ca X W O c ft) (h1 : SSs ca X W L O O1 sts s1) {sts2 : List Stmt} (h2 : SSs ca X W L O O1 sts2 s2) (hx : ∀ i ∈ L.ex, i ∈ O := by decide) : SS ca X W L O O1 (.If c sts sts2 pos) (sIf ft s1 s2) := by
  obtain ⟨t, p, q⟩ := hc
  obtain ⟨ta, pa, qa⟩ := h1
  obtain ⟨tb, pb, qb⟩ := h2
  refine ⟨_, ps_if p pa pb, fun B F0 F H σ env N s n k1 k2 k3 k4 => ?_⟩
  refine sim_thenT hx q s n k4 fun b hb ee F' H' e => ?_
  have ee' : sIf ft s1 s2 env = if b = true then s1 env else s2 env := ee
  rw [ee'] at n k1 k2 k3 k4
  cases b with
  | true => exact qa B F0 F' H' σ env N (s.step e) n (fun e1 h1 σ2 F2 H2 x2 => k1 e1 h1 σ2 F2 H2 (e.ff.trans x2)) k2 (fun e1 h1 σ2 F2 H2 x2 => k3 e1 h1 σ2 F2 H2 (e.ff.trans x2)) (fun c e1 h1 σ2 F2 H2 x2 => k4 c e1 h1 σ2 F2 H2 (e.ff.trans x2))
  | false => exact qb B F0 F' H' σ env N (s.step e) n (fun e1 h1 σ2 F2 H2 x2 => k1 e1 h1 σ2 F2 H2 (e.ff.trans x2)) k2 (fun e1 h1 σ2 F2 H2 x2 => k3 e1 h1 σ2 F2 H2 (e.ff.trans x2)) (fun c e1 h1 σ2 F2 H2 x2 => k4 c e1 h1 σ2 F2 H2 (e.ff.trans x2))
/-- x += e, whole numbers -/
theorem ss_aug (i : Nat) {x : Str} {p' : Pos} {op : Operator} {f : Int → Int → Int} {g : D → D → R D} (hN : X.N.Nodup) (ho : PIp X op (ipI f)) (hg : ∀ a b z, g a b = .ok z → ∃ i j, a = .int i ∧ b = .int j ∧ z = .int (f i j)) (he : SE ca X W O .E e fa) (hl : Loc X.env.scope x) (hf : X.fn x = true ∨ X.env.scope.names.lookup x = some .local) (hi : X.N[i]? = some x := by kernel_rfl) (hoo : i ∉ O := by decide) (hx : ∀ i ∈ L.ex, i ∈ O := by decide)
    : SS ca X W L O O (.AugAssign (.Name x p') op e pos) (sAug i g fa) := by
  obtain ⟨t, p, q⟩ := he
  refine ⟨_, ps_aug hN hi hl p ho hf, fun B F0 F H σ env N s n k1 k2 k3 k4 => ?_⟩
  cases z : slot env i with
  | no => exact absurd (by show outR (slot env i) env _ = _; rw [z]; rfl) n
  | exc c => exact absurd z slot_exc
  | ok d1 =>
    obtain ⟨v, h1, h2⟩ := s.frz i d1 hoo (slot_ok z)
    have e0 : sAug i g fa env = outR (fa env) env (fun y => match g d1 y with | .ok z => .nx (env.set i (some z)) | _ => .no) := by
      show outR (slot env i) env _ = _
      rw [z]
      rfl
    rw [e0] at n k1 k4
    refine ⟨v, h1, sim_then hx q s n k4 fun d hd ee v2 F' H' e r => ?_⟩
    have n2 : (match g d1 d with | .ok z => Out.nx (env.set i (some z)) | _ => Out.no) ≠ .no := fun w => n (ee.trans w)
    cases w : g d1 d with
    | ok z1 =>
      obtain ⟨i1, j1, a1, a2, a3⟩ := hg d1 d z1 w
      subst a1 a2 a3
      have b1 : v = .int i1 := h2
      have b2 : v2 = .int j1 := r
      exact ⟨i1, j1, b1, b2, k1 _ (ee.trans (by show (match g (.int i1) (.int j1) with | .ok z => Out.nx (env.set i (some z)) | _ => Out.no) = _; rw [w])) _ F' H' e.ff ((s.step e).set (d := .int (f i1 j1)) hoo rfl)⟩
    | exc c => rw [w] at n2; exact absurd rfl n2
    | no => rw [w] at n2; exact absurd rfl n2
/-! ### what is walked -/
def WalkB (K : PySem.W.Frag) (J : It) (F H : Hp) (ds : List D) : Prop := ds.length ≤ sizeLine ∧ ∀ (i : Nat) (F1 H1 : Hp), i ≤ ds.length → Ex F F1 → Ex F1 H1 → Ex H H1 →
  (∀ d, ds[i]? = some d → J.go i H1 ∧ ∀ x H2, J.yld i H1 x H2 → ∃ F2, Ext F1 H1 F2 H2 ∧ Rep K F2 d x) ∧ (ds[i]? = none → J.stop i H1)
def WalkE (K : PySem.W.Frag) (J : It) (F : Hp) (ds : List D) : Prop := ds.length ≤ sizeLine ∧ ∀ (i : Nat) (F1 H1 : Hp), i ≤ ds.length → Ex F F1 → Ex F1 H1 →
  (∀ d, ds[i]? = some d → J.go i H1 ∧ ∀ x H2, J.yld i H1 x H2 → ∃ F2, Ext F1 H1 F2 H2 ∧ Rep K F2 d x) ∧ (ds[i]? = none → J.stop i H1)
def WalkM (K : PySem.W.Frag) : Md → It → Hp → Hp → List D → Prop
  | .E, J, F, _, ds => WalkE K J F ds
  | _, J, F, H, ds => WalkB K J F H ds
def SimI (K : PySem.W.Frag) (ca : Xc → Addr) (W : WX) (O : List Nat) (m : Md) (t : TI) (f : IF_) : Prop := ∀ (B F0 F H : Hp) (σ : St) (env : Env) (Q : It → Hp → Prop), SR K B F0 O F H σ env → f env ≠ .no →
  (∀ ds, f env = .ok ds → ∀ J F' H', Ext F H F' H' → WalkM K m J F' H' ds → Q J H') → (∀ c, f env = .exc c → ∀ F' H', Ext F H F' H' → W (.ref (ca c)) none σ H') → t σ H Q
def SI (ca : Xc → Addr) (X : Cx) (W : WX) (O : List Nat) (m : Md) (tg iter : Expr) (f : IF_) : Prop := ∃ t, PI X tg iter t ∧ SimI X.K ca W O m t f
variable {tg iter : Expr} {src : IF_} {gf : GF}
theorem drop_cons {α : Type} {l : List α} {i : Nat} {x : α} (h : l[i]? = some x) : l.drop i = x :: l.drop (i + 1) := by
  obtain ⟨hl, e⟩ := List.getElem?_eq_some_iff.mp h
  rw [List.drop_eq_getElem_cons hl, e]
theorem ss_for (hp : PassesOwn (model X.prog X.w) X.A X.env X.xe) (hc : X.calm = true) (hi : SI ca X W O .E tg iter src) (hg : SG X O ts tg gf) (hb : SSs ca X W ⟨L.ro, O, L.ex⟩ O O sts s1) (hx : ∀ i ∈ L.ex, i ∈ O := by decide)
    (hs : ∀ x, foldedSetIterable iter X.env x = pure x := by intro _; kernel_rfl) : SS ca X W L O O (.For tg iter sts [] pos) (sFor src gf s1) := by
  obtain ⟨wi, p1, q1⟩ := hi
  obtain ⟨g, p2, q2⟩ := hg
  obtain ⟨tb, p3, q3⟩ := hb
  refine ⟨_, ps_for hp hc p1 p2 p3 hs, fun B F0 F H σ env N s n k1 k2 k3 k4 => ?_⟩
  refine q1 B F0 F H σ env _ s (fun z => n (by show outR (src env) env _ = _; rw [z]; rfl)) (fun ds hds J F1 H1 e1 w => ?_) (fun c hc F' H' e => ?_)
  · have ee : sFor src gf s1 env = loopL gf s1 ds env := by show outR (src env) env _ = _; rw [hds]; rfl
    rw [ee] at n k1 k2 k3 k4
    generalize ho : loopL gf s1 ds env = out at n k1 k2 k3 k4
    refine ⟨fun i mm σ' H' => mm = ds.length - i ∧ i ≤ ds.length ∧ ∃ F' env', SR X.K B F0 O F' H' σ' env' ∧ Ex F1 F' ∧ loopL gf s1 (ds.drop i) env' = out, ⟨ds.length, rfl, Nat.zero_le _, F1, env, s.step e1, Ex.refl F1, ho⟩, ?_⟩
    rintro i mm σ' H' ⟨rfl, hil, F', env', s', x', ho'⟩
    have wk := w.2 i F' H' hil x' s'.fh
    cases hd : ds[i]? with
    | none =>
      have il : i = ds.length := Nat.le_antisymm hil (List.getElem?_eq_none_iff.mp hd)
      rw [il, List.drop_length] at ho'
      exact .inl ⟨wk.2 hd, k1 env' ho'.symm σ' F' H' (e1.ff.trans x') s'⟩
    | some d =>
      have il : i < ds.length := (List.getElem?_eq_some_iff.mp hd).1
      rw [drop_cons hd] at ho'
      obtain ⟨go, yl⟩ := wk.1 d hd
      refine .inr ⟨go, fun σ2 H2 => ∃ F2 env2, SR X.K B F0 O F2 H2 σ2 env2 ∧ Ex F1 F2 ∧ loopL gf s1 (ds.drop (i + 1)) env2 = out, fun σ2 H2 ⟨F2, env2, a1, a2, a3⟩ => ⟨ds.length - (i + 1), by omega, rfl, il, F2, env2, a1, a2, a3⟩, fun x H2 hy => ?_⟩
      obtain ⟨F2, e2, r2⟩ := yl x H2 hy
      have o1 : (match gf d env' with
        | .ok e => (match s1 e with
          | .nx e' => loopL gf s1 (ds.drop (i + 1)) e'
          | .bk e' => .nx e'
          | o => o)
        | _ => .no) = out := ho'
      cases hg1 : gf d env' with
      | no => rw [hg1] at o1; exact absurd o1.symm n
      | exc c => rw [hg1] at o1; exact absurd o1.symm n
      | ok en =>
        rw [hg1] at o1
        refine q2 B F0 F2 H2 σ' env' en x d _ (s'.step e2) r2 hg1 fun σ3 s3 _ => ?_
        have o2 : (match s1 en with
          | .nx e' => loopL gf s1 (ds.drop (i + 1)) e'
          | .bk e' => .nx e'
          | o => o) = out := o1
        have xf : Ex F F2 := e1.ff.trans (x'.trans e2.ff)
        refine q3 B F0 F2 H2 σ3 en _ s3 (fun z => n (by rw [z] at o2; exact o2.symm)) (fun e4 h4 σ4 F4 H4 x4 s4 => ?_) (fun d4 h4 => ?_) (fun e4 h4 σ4 F4 H4 x4 s4 => ?_) (fun c4 e4 h4 σ4 F4 H4 x4 s4 => ?_)
        · rw [h4] at o2
          exact ⟨F4, e4, s4, x'.trans (e2.ff.trans x4), o2⟩
        · rw [h4] at o2
          exact k2 d4 o2.symm
        · rw [h4] at o2
          exact k1 e4 o2.symm σ4 F4 H4 (xf.trans x4) s4
        · rw [h4] at o2
          exact k4 c4 e4 o2.symm σ4 F4 H4 (xf.trans x4) s4
  · obtain ⟨F2, e2, s2⟩ := (s.step e).sub hx
    exact k4 c env (by show outR (src env) env _ = _; rw [hc]; rfl) σ F2 H' (e.ff.trans e2) s2
theorem ss_while (n0 : Nat) (hp : PassesOwn (model X.prog X.w) X.A X.env X.xe) (hc : ST ca X W O c ft) (hb : SSs ca X W ⟨L.ro, O, L.ex⟩ O O sts s1) (hx : ∀ i ∈ L.ex, i ∈ O := by decide) : SS ca X W L O O (.While c sts [] pos) (whileN ft s1 n0) := by
  obtain ⟨t, p1, q1⟩ := hc
  obtain ⟨tb, p3, q3⟩ := hb
  refine ⟨_, ps_while hp p1 p3, fun B F0 F H σ env N s n k1 k2 k3 k4 => ?_⟩
  generalize ho : whileN ft s1 n0 env = out at n k1 k2 k3 k4
  refine ⟨fun mm σ' H' => ∃ F' env', SR X.K B F0 O F' H' σ' env' ∧ Ex F F' ∧ whileN ft s1 mm env' = out, ⟨n0, F, env, s, Ex.refl F, ho⟩, ?_⟩
  rintro mm σ' H' ⟨F', env', s', x', ho'⟩
  cases mm with
  | zero => exact absurd ho'.symm n
  | succ mm =>
    have ho2 : outR (ft env') env' (fun k => if k = true then (match s1 env' with
      | .nx e' => whileN ft s1 mm e'
      | .bk e' => .nx e'
      | o => o) else .nx env') = out := ho'
    refine sim_thenT (L := L) (k := fun k => if k = true then (match s1 env' with
      | .nx e' => whileN ft s1 mm e'
      | .bk e' => .nx e'
      | o => o) else .nx env') hx q1 s' (by rw [ho2]; exact n) (fun c4 e4 h4 σ4 F4 H4 x4 => k4 c4 e4 (ho2.symm.trans h4) σ4 F4 H4 (x'.trans x4)) fun b hb ee F1 H1 e1 => ?_
    have o1 := ee.symm.trans ho2
    cases b with
    | false => exact k1 env' o1.symm σ' F1 H1 (x'.trans e1.ff) (s'.step e1)
    | true =>
      have o2 : (match s1 env' with
        | .nx e' => whileN ft s1 mm e'
        | .bk e' => .nx e'
        | o => o) = out := o1
      show ∃ N1 : St → Hp → Prop, _ ∧ _
      refine ⟨fun σ2 H2 => ∃ F2 env2, SR X.K B F0 O F2 H2 σ2 env2 ∧ Ex F F2 ∧ whileN ft s1 mm env2 = out, fun σ2 H2 h => ⟨mm, Nat.lt_succ_self _, h⟩, ?_⟩
      have xf : Ex F F1 := x'.trans e1.ff
      refine q3 B F0 F1 H1 σ' env' _ (s'.step e1) (fun z => n (by rw [z] at o2; exact o2.symm)) (fun e4 h4 σ4 F4 H4 x4 s4 => ?_) (fun d4 h4 => ?_) (fun e4 h4 σ4 F4 H4 x4 s4 => ?_) (fun c4 e4 h4 σ4 F4 H4 x4 s4 => ?_)
      · rw [h4] at o2
        exact ⟨F4, e4, s4, xf.trans x4, o2⟩
      · rw [h4] at o2
        exact k2 d4 o2.symm
      · rw [h4] at o2
        exact k1 e4 o2.symm σ4 F4 H4 (xf.trans x4) s4
      · rw [h4] at o2
        exact k4 c4 e4 o2.symm σ4 F4 H4 (xf.trans x4) s4
end
end Rt
/-! Sim4: what is walked (lists, tuples, ranges, zip), comprehensions, changes of own objects, calls, defs, try. -/
namespace Rt
open PySem L2
section
variable {ca : Xc → Addr} {X : Cx} {W : WX} {L : Lk} {O O' O1 O2 O3 : List Nat} {m : Md} {a b c e : Expr} {fa fb fc : EF} {pos : Pos} {es : List Expr} {ft : TF} {s1 s2 : SF} {st : Stmt} {sts : List Stmt} {ts us : List Nat} {tg iter : Expr} {src : IF_} {gf : GF}
/-! ### what is walked -/
theorem WalkE.vw {K : PySem.W.Frag} {J : It} {F H : Hp} {ds : List D} (h : WalkE K J F ds) : WalkB K J F H ds := ⟨h.1, fun i F1 H1 l a b _ => h.2 i F1 H1 l a b⟩
theorem SI.vw (h : SI ca X W O .E tg iter src) : SI ca X W O .B tg iter src := by
  obtain ⟨t, p, q⟩ := h
  exact ⟨t, p, fun B F0 F H σ env Q s n k x => q B F0 F H σ env Q s n (fun ds hds J F' H' e w => k ds hds J F' H' e (WalkE.vw w)) x⟩
/-- a list or a tuple -/
def tiSeq (K : PySem.W.Frag) (tl : TE) : TI := fun σ H R => tl σ H fun x H1 => ∃ a, x = .ref a ∧ (((∃ xs, SqL K H1 a xs) ∧ R (Itl K a) H1) ∨ ((∃ xs, SqT K H1 a xs) ∧ R (Itt K a) H1))
theorem pi_seq {l : Expr} {tl : TE} (hl : PE X l tl) : PI X tg l (tiSeq X.K tl) := by
  refine ⟨fun pins s σ H R I h => ?_⟩
  refine thn (hl.run pins s σ H _ I h) fun v s1 ⟨x, H1, I1, r1, q1⟩ => ?_
  obtain ⟨a, e, q⟩ := q1
  subst e
  cases r1
  have fp : ∀ b ∈ [s1.heap.objs.size], FpOk X pins H1 b := fun b hb => by
    have e : b = s1.heap.objs.size := by simpa using hb
    subst e
    exact I1.fpOk (Nat.le_refl _) (I1.hok.fresh (Nat.le_refl _))
  rcases q with ⟨⟨xs, hq⟩, q⟩ | ⟨⟨xs, hq⟩, q⟩
  · obtain ⟨its, rv, p, hz⟩ := I1.list hq
    refine wpAny_pyIter_list p.isList ?_
    exact ⟨s1.heap.objs.size, [s1.heap.objs.size], _, _, H1, rfl, I1.kept (t' := s1.toks) fun b o e => Heap.get?_push_of_some _ e, turn_list a _, ⟨_, Heap.get?_push_size _ rfl, rfl, rfl⟩, fp, q⟩
  · obtain ⟨its, rv, p, hz⟩ := I1.tuple hq
    refine wpAny_pyIter_tuple (show s1.heap.IsTuple a its.toArray from p) ?_
    exact ⟨s1.heap.objs.size, [s1.heap.objs.size], _, _, H1, rfl, I1.kept (t' := s1.toks) fun b o e => Heap.get?_push_of_some _ e, turn_tuple a _, ⟨_, Heap.get?_push_size _ rfl, rfl, rfl⟩, fp, q⟩
theorem walk_itl {K : PySem.W.Frag} {a : Addr} {xs : List V} {ds : List D} {F H1 : Hp} (i : Nat) (h : SqL K H1 a xs) (c : Reps K F ds xs) (F1 : Hp) (x1 : Ex F F1) (x2 : Ex F1 H1) :
    (∀ d, ds[i]? = some d → (Itl K a).go i H1 ∧ ∀ x H2, (Itl K a).yld i H1 x H2 → ∃ F2, Ext F1 H1 F2 H2 ∧ Rep K F2 d x) ∧ (ds[i]? = none → (Itl K a).stop i H1) := by
  constructor
  · intro d hd
    obtain ⟨x, hx, hr⟩ := c.gets hd
    refine ⟨⟨xs, x, h, hx⟩, fun y H2 hy => ?_⟩
    obtain ⟨e, hy⟩ := hy
    subst e
    have := hy xs h
    rw [hx] at this
    cases this
    exact ⟨F1, Ext.refl x2, hr.mono x1⟩
  · intro hd
    exact ⟨xs, h, by rw [c.length]; exact List.getElem?_eq_none_iff.mp hd⟩
theorem walk_itt {K : PySem.W.Frag} {a : Addr} {xs : List V} {ds : List D} {F H1 : Hp} (i : Nat) (h : SqT K H1 a xs) (c : Reps K F ds xs) (F1 : Hp) (x1 : Ex F F1) (x2 : Ex F1 H1) :
    (∀ d, ds[i]? = some d → (Itt K a).go i H1 ∧ ∀ x H2, (Itt K a).yld i H1 x H2 → ∃ F2, Ext F1 H1 F2 H2 ∧ Rep K F2 d x) ∧ (ds[i]? = none → (Itt K a).stop i H1) := by
  constructor
  · intro d hd
    obtain ⟨x, hx, hr⟩ := c.gets hd
    refine ⟨⟨xs, x, h, hx⟩, fun y H2 hy => ?_⟩
    obtain ⟨e, hy⟩ := hy
    subst e
    have := hy xs h
    rw [hx] at this
    cases this
    exact ⟨F1, Ext.refl x2, hr.mono x1⟩
  · intro hd
    exact ⟨xs, h, by rw [c.length]; exact List.getElem?_eq_none_iff.mp hd⟩
theorem si_seq (h : SE ca X W O .E iter fa) : SI ca X W O .E tg iter (iSeq fa) := by
  obtain ⟨t, p, q⟩ := h
  refine ⟨_, pi_seq p, fun B F0 F H σ env Q s n k x => ?_⟩
  have n1 := bind_ne n
  refine q B F0 F H σ env _ s n1.1 (fun d h1 v F1 H1 e1 r1 => ?_) (fun c hc => x c (by show (fa env >>= _) = _; rw [hc]; rfl))
  have n2 := n1.2 d h1
  cases d <;> try (exact absurd rfl n2)
  · rename_i ds
    obtain ⟨p, xs, a, b, z, c⟩ := r1
    subst a
    exact ⟨p, rfl, .inl ⟨⟨xs, SqL.of (e1.fh _ _ b)⟩, k ds (by show (fa env >>= _) = _; rw [h1]; rfl) _ F1 H1 e1 ⟨by rw [← c.length]; exact z, fun i F2 H2 _ x1 x2 => walk_itl i (SqL.of (x2 _ _ (x1 _ _ b))) c F2 x1 x2⟩⟩⟩
  · rename_i ds
    obtain ⟨p, xs, a, b, z, c⟩ := r1
    subst a
    exact ⟨p, rfl, .inr ⟨⟨xs, SqT.of (e1.fh _ _ b)⟩, k ds (by show (fa env >>= _) = _; rw [h1]; rfl) _ F1 H1 e1 ⟨by rw [← c.length]; exact z, fun i F2 H2 _ x1 x2 => walk_itt i (SqT.of (x2 _ _ (x1 _ _ b))) c F2 x1 x2⟩⟩⟩
/-- looked at alone: for comprehensions -/
theorem si_look (h : SE ca X W O .B iter fa) : SI ca X W O .B tg iter (iSeq fa) := by
  obtain ⟨t, p, q⟩ := h
  refine ⟨_, pi_seq p, fun B F0 F H σ env Q s n k x => ?_⟩
  have n1 := bind_ne n
  refine q B F0 F H σ env _ s n1.1 (fun d h1 v F1 H1 e1 r1 => ?_) (fun c hc => x c (by show (fa env >>= _) = _; rw [hc]; rfl))
  have n2 := n1.2 d h1
  cases d <;> try (exact absurd rfl n2)
  · rename_i ds
    obtain ⟨p, xs, a, b, z, c⟩ := View.list e1.fh r1
    subst a
    exact ⟨p, rfl, .inl ⟨⟨xs, SqL.of b⟩, k ds (by show (fa env >>= _) = _; rw [h1]; rfl) _ F1 H1 e1 ⟨by rw [← c.length]; exact z, fun i F2 H2 _ x1 x2 x3 => walk_itl i (SqL.of (x3 _ _ b)) c F2 x1 x2⟩⟩⟩
  · rename_i ds
    obtain ⟨p, xs, a, b, _, z, c⟩ := View.tup e1.fh r1
    subst a
    exact ⟨p, rfl, .inr ⟨⟨xs, SqT.of b⟩, k ds (by show (fa env >>= _) = _; rw [h1]; rfl) _ F1 H1 e1 ⟨by rw [← c.length]; exact z, fun i F2 H2 _ x1 x2 x3 => walk_itt i (SqT.of (x3 _ _ b)) c F2 x1 x2⟩⟩⟩
theorem rangeL_get (lo hi : Int) (i : Nat) : (rangeL lo hi)[i]? = if i < (hi - lo).toNat then some (.int (lo + (i : Int))) else none := by
  unfold rangeL
  rw [List.getElem?_map]
  by_cases h : i < (hi - lo).toNat
  · rw [if_pos h, List.getElem?_range h]
    rfl
  · rw [if_neg h, List.getElem?_eq_none (by rw [List.length_range]; omega)]
    rfl
theorem walk_itr {K : PySem.W.Frag} {F : Hp} {lo hi : Int} (h : (hi - lo).toNat ≤ 200000) : WalkE K (Itr lo (hi - lo).toNat) F (rangeL lo hi) := by
  refine ⟨?_, fun i F1 H1 _ x1 x2 => ⟨fun d hd => ?_, fun hd => ?_⟩⟩
  · unfold rangeL
    rw [List.length_map, List.length_range]
    exact Nat.le_trans h (by decide)
  · rw [rangeL_get] at hd
    split at hd
    · cases hd
      refine ⟨by assumption, fun x H2 hy => ?_⟩
      obtain ⟨e1, e2⟩ := hy
      subst e1 e2
      exact ⟨F1, Ext.refl x2, rfl⟩
    · cases hd
  · rw [rangeL_get] at hd
    split at hd
    · cases hd
    · rename_i z
      exact Nat.le_of_not_lt z
theorem si_range1 {p : Pos} (hg : Gl X "range") (hm : X.mg "range" = none) (h : SE ca X W O .E a fa) (hs : starEach [a] X.env = [(false, eval a X.env)] := by kernel_rfl) : SI ca X W O .E tg (.Call (.Name "range" p) [a] [] pos) (iRange1 fa) := by
  obtain ⟨t, pp, q⟩ := h
  refine ⟨_, pi_range1 hg hm (pa_cons pp pa_nil hs) hs, fun B F0 F H σ env Q s n k x => ?_⟩
  have n1 := bind_ne n
  refine q B F0 F H σ env _ s n1.1 (fun d h1 v F1 H1 e1 r1 => ?_) (fun c hc => x c (by show (fa env >>= _) = _; rw [hc]; rfl))
  have n2 := n1.2 d h1
  cases d <;> try (exact absurd rfl n2)
  rename_i j
  have n3 : (if -100000 ≤ j ∧ j ≤ 100000 then R.ok (rangeL 0 j) else R.no) ≠ .no := n2
  by_cases hj : -100000 ≤ j ∧ j ≤ 100000
  · have rv : v = .int j := r1
    subst rv
    refine ⟨j, rfl, by omega, by omega, ?_⟩
    have e0 : j - 0 = j := by omega
    have w := walk_itr (K := X.K) (F := F1) (lo := 0) (hi := j) (by omega)
    rw [e0] at w
    exact k _ (by show (fa env >>= _) = _; rw [h1]; exact if_pos hj) _ F1 H1 e1 w
  · rw [if_neg hj] at n3
    exact absurd rfl n3
theorem si_range2 {p : Pos} (hg : Gl X "range") (hm : X.mg "range" = none) (ha : SE ca X W O .E a fa) (hb : SE ca X W O .E b fb) (hs : starEach [a, b] X.env = [(false, eval a X.env), (false, eval b X.env)] := by kernel_rfl) (hs2 : starEach [b] X.env = [(false, eval b X.env)] := by kernel_rfl) :
    SI ca X W O .E tg (.Call (.Name "range" p) [a, b] [] pos) (iRange2 fa fb) := by
  obtain ⟨t, pp, q⟩ := ha
  obtain ⟨t2, pp2, q2⟩ := hb
  refine ⟨_, pi_range2 hg hm (pa_cons pp (pa_cons pp2 pa_nil hs2) (by rw [hs, hs2])) hs hs2, fun B F0 F H σ env Q s n k x => ?_⟩
  refine sim_two q q2 (g := fun d e => match d, e with
    | .int m, .int n => if -100000 ≤ m ∧ m ≤ 100000 ∧ -100000 ≤ n ∧ n ≤ 100000 then .ok (rangeL m n) else .no
    | _, _ => .no) s n x fun d1 d2 h1 h2 n2 ee v1 v2 F1 H1 F2 H2 e1 r1 e2 r2 => ?_
  cases d1 <;> try (exact absurd rfl n2)
  cases d2 <;> try (exact absurd rfl n2)
  rename_i i j
  have n3 : (if -100000 ≤ i ∧ i ≤ 100000 ∧ -100000 ≤ j ∧ j ≤ 100000 then R.ok (rangeL i j) else R.no) ≠ .no := n2
  by_cases hj : -100000 ≤ i ∧ i ≤ 100000 ∧ -100000 ≤ j ∧ j ≤ 100000
  · have rv : v1 = .int i := r1
    have rv2 : v2 = .int j := r2
    subst rv rv2
    refine ⟨i, j, rfl, ⟨by omega, by omega, by omega, by omega⟩, ?_⟩
    exact k _ (ee.trans (if_pos hj)) _ F2 H2 (e1.trans e2) (walk_itr (by omega))
  · rw [if_neg hj] at n3
    exact absurd rfl n3
/-! ### zip -/
theorem zip_get (xs ys : List D) (i : Nat) : (zipL xs ys)[i]? = match xs[i]?, ys[i]? with
    | some x, some y => some (.tuple [x, y])
    | _, _ => none := by
  unfold zipL
  rw [List.getElem?_zipWith]
  cases xs[i]? <;> cases ys[i]? <;> rfl
theorem rep_pair {K : PySem.W.Frag} {F1 H1 : Hp} {T : Addr} {x y : V} {d e : D} (x2 : Ex F1 H1) (hT : H1 T = none) (rx : Rep K F1 d x) (ry : Rep K F1 e y) : ∃ F2, Ext F1 H1 F2 (upd H1 T (.tup [x, y])) ∧ Rep K F2 (.tuple [d, e]) (.ref T) := by
  have n : Ex F1 (upd F1 T (.tup [x, y])) := Ex.new (x2.back hT)
  exact ⟨_, Ext.frz x2 hT, T, [x, y], rfl, upd_same, by show 2 ≤ sizeLine; decide, x, [y], rfl, rx.mono n, y, [], rfl, ry.mono n, rfl⟩
/-! ### comprehensions -/
theorem compL_ok {g : GF} {t : TF} {f : EF} {env : Env} {d : D} {ds r : List D} (h : compL g t f env (d :: ds) = .ok r) : ∃ env', g d env = .ok env' ∧ ∃ b, t env' = .ok b ∧
    ((b = true ∧ ∃ x r', f env' = .ok x ∧ compL g t f env ds = .ok r' ∧ r = x :: r') ∨ (b = false ∧ compL g t f env ds = .ok r)) := by
  obtain ⟨env', h1, h⟩ := bind_ok (show (g d env >>= fun env' => t env' >>= fun b => if b = true then f env' >>= fun x => compL g t f env ds >>= fun r => .ok (x :: r) else compL g t f env ds) = .ok r from h)
  obtain ⟨b, h2, h⟩ := bind_ok h
  refine ⟨env', h1, b, h2, ?_⟩
  cases b with
  | true =>
    obtain ⟨x, h3, h⟩ := bind_ok (show (f env' >>= fun x => compL g t f env ds >>= fun r => .ok (x :: r)) = .ok r from h)
    obtain ⟨r', h4, h5⟩ := bind_ok h
    exact .inl ⟨rfl, x, r', h3, h4, by cases h5; rfl⟩
  | false => exact .inr ⟨rfl, h⟩
theorem wipeE_length (env : Env) : ∀ vs : List Nat, (wipeE env vs).length = env.length
  | [] => rfl
  | v :: vs => by unfold wipeE; rw [List.length_set, wipeE_length env vs]
abbrev W0 : WX := fun _ _ _ _ => False
theorem sim_lc {K : PySem.W.Frag} {wi : TI} {g : TG} {tt : TT} {te : TE} {vs : List Nat} (hi : SimI K ca W O .B wi src) (hg : SimG K O ts g gf) (ht : SimT K ca W0 O tt ft) (he : SimE K ca W0 O .E te fa) (hv : ∀ i ∈ vs, i ∉ O) (hts : ∀ i ∈ ts, i ∈ vs) :
    SimE K ca W O .O (tLc wi g tt te vs) (eComp src gf vs ft fa) := fun B F0 F H σ env Q s n k x => by
  have n1 := bind_ne n
  refine hi B F0 F H σ env _ s n1.1 (fun ds hds J F1 H1 e1 w => ?_) (fun c hc => x c (by show (src env >>= _) = _; rw [hc]; rfl))
  have n2 := bind_ne (n1.2 ds hds)
  obtain ⟨r, hr⟩ := quiet_ne n2.1
  intro Dl hD
  have fD : F1 Dl = none := e1.fh.back hD
  have sw := s.wipe hv
  refine ⟨fun i mm H' => mm = ds.length - i ∧ i ≤ ds.length ∧ ∃ F' acc racc r', Ext F1 H1 F' H' ∧ F' Dl = none ∧ H' Dl = some (.lst acc) ∧ Reps K F' racc acc ∧ compL gf ft fa (wipeE env vs) (ds.drop i) = .ok r' ∧ r = racc ++ r' ∧ acc.length ≤ i,
    ⟨ds.length, rfl, Nat.zero_le _, F1, [], [], r, Ext.own e1.fh hD, fD, upd_same, rfl, hr, rfl, Nat.zero_le _⟩, ?_⟩
  rintro i mm H' ⟨rfl, hil, F', acc, racc, r', x', fD', hD', ra, hc', hr', hlen⟩
  have wk := w.2 i F' H' hil x'.ff x'.fh x'.hh
  cases hd : ds[i]? with
  | none =>
    have il : i = ds.length := Nat.le_antisymm hil (List.getElem?_eq_none_iff.mp hd)
    rw [il, List.drop_length] at hc'
    cases hc'
    rw [List.append_nil] at hr'
    subst hr'
    refine .inl ⟨wk.2 hd, k (.list r) (by show (src env >>= _) = _; rw [hds, ok_bind, hr]; rfl) _ F' H' (e1.trans x') ⟨Dl, _, rfl, e1.hh.back hD, fD', hD', ?_, ra⟩⟩
    have := w.1
    omega
  | some d =>
    have il : i < ds.length := (List.getElem?_eq_some_iff.mp hd).1
    rw [drop_cons hd] at hc'
    obtain ⟨env', hg1, bb, ht1, hb⟩ := compL_ok hc'
    obtain ⟨go, yl⟩ := wk.1 d hd
    refine .inr ⟨go, fun H2 => ∃ F' acc racc r', Ext F1 H1 F' H2 ∧ F' Dl = none ∧ H2 Dl = some (.lst acc) ∧ Reps K F' racc acc ∧ compL gf ft fa (wipeE env vs) (ds.drop (i + 1)) = .ok r' ∧ r = racc ++ r' ∧ acc.length ≤ i + 1,
      fun H2 h => ⟨ds.length - (i + 1), by omega, rfl, il, h⟩, fun xv H2 hy => ?_⟩
    obtain ⟨F2, e2, r2⟩ := yl xv H2 hy
    have nD : ∀ {F3 H3 : Hp}, Ext F' H' F3 H3 → F3 Dl = none ∧ H3 Dl = some (.lst acc) := fun e3 => ⟨by
      rw [e3.keep Dl (by rw [hD']; intro z; cases z)]
      exact fD', e3.hh _ _ hD'⟩
    refine hg B F0 F2 H2 (wipe σ vs) (wipeE env vs) env' xv d _ (sw.step ((e1.trans x').trans e2)) r2 hg1 fun σ2 s2 w2 => ⟨?_, ?_⟩
    · rw [w2 vs hts, wipe_wipe]
    · refine ht B F0 F2 H2 σ2 env' _ s2 (by rw [ht1]; intro z; cases z) (fun b hb3 F3 H3 e3 => ?_) (fun c hc => by rw [ht1] at hc; cases hc)
      rw [ht1] at hb3
      cases hb3
      rcases hb with ⟨rfl, y, r'', h3, h4, h5⟩ | ⟨rfl, h4⟩
      · show te σ2 H3 _
        refine he B F0 F3 H3 σ2 env' _ (s2.step e3) (by rw [h3]; intro z; cases z) (fun d4 hd4 v4 F4 H4 e4 r4 => ?_) (fun c hc => by rw [h3] at hc; cases hc)
        rw [h3] at hd4
        cases hd4
        have e24 := (e2.trans e3).trans e4
        obtain ⟨f4, h4'⟩ := nD e24
        have hl := w.1
        refine ⟨acc, h4', by omega, F4, acc ++ [v4], racc ++ [y], r'', (x'.trans e24).mut hD f4, f4, upd_same, Reps.append (Reps.mono e24.ff _ _ ra) (Reps.one r4), h4, ?_, ?_⟩
        · rw [hr', h5, List.append_assoc]
          rfl
        · rw [List.length_append, List.length_singleton]
          omega
      · show ∃ F' acc racc r', _
        have e23 := e2.trans e3
        obtain ⟨f3, h3'⟩ := nD e23
        exact ⟨F3, acc, racc, r', x'.trans e23, f3, h3', Reps.mono e23.ff _ _ ra, h4, hr', by omega⟩
/-- the if part of a comprehension -/
def STs (ca : Xc → Addr) (X : Cx) (W : WX) (O : List Nat) (ifs : List Expr) (f : TF) : Prop := ∃ t, PTs X ifs t ∧ SimT X.K ca W O t f
theorem sts_nil : STs ca X W O [] tYes := ⟨_, pts_nil, fun B F0 F H σ env Q s n k x => k true rfl F H (Ext.refl s.fh)⟩
theorem sts_one (h : ST ca X W O c ft) : STs ca X W O [c] ft := by
  obtain ⟨t, p, q⟩ := h
  exact ⟨t, pts_one p, q⟩
/-- the block of a comprehension, whatever its frame -/
abbrev Blk (X : Cx) (scope : Scope) (P : Cx → Prop) : Prop := ∀ (s : Shared) (H : Hp) (C : Addr) (cl : List (Str × Addr)) (fp : List Addr), P (X.blk s H scope (compEnvC scope cl C X.env) fp)
theorem blk_e {scope : Scope} (h : Blk X scope fun Y => SE ca Y W0 O m e fa) : ∃ te, (Blk X scope fun Y => PE Y e te) ∧ SimE X.K ca W0 O m te fa := by
  refine ⟨fun σ H Q => ∀ s H' C cl fp, (Classical.choose (h s H' C cl fp)) σ H Q, fun s H' C cl fp => ?_, fun B F0 F H σ env Q s n k x s' H' C cl fp => ?_⟩
  · exact ⟨fun pins s2 σ H Q I hw => (Classical.choose_spec (h s H' C cl fp)).1.run pins s2 σ H Q I (hw s H' C cl fp)⟩
  · exact (Classical.choose_spec (h s' H' C cl fp)).2 B F0 F H σ env Q s n k x
theorem blk_t {scope : Scope} {ifs : List Expr} (h : Blk X scope fun Y => STs ca Y W0 O ifs ft) : ∃ te, (Blk X scope fun Y => PTs Y ifs te) ∧ SimT X.K ca W0 O te ft := by
  refine ⟨fun σ H Q => ∀ s H' C cl fp, (Classical.choose (h s H' C cl fp)) σ H Q, fun s H' C cl fp => ?_, fun B F0 F H σ env Q s n k x s' H' C cl fp => ?_⟩
  · exact ⟨fun pins s2 σ H Q I hw => (Classical.choose_spec (h s H' C cl fp)).1.run pins s2 σ H Q I (hw s H' C cl fp)⟩
  · exact (Classical.choose_spec (h s' H' C cl fp)).2 B F0 F H σ env Q s n k x
theorem blk_g {scope : Scope} (h : Blk X scope fun Y => SG Y O ts tg gf) : ∃ g, (Blk X scope fun Y => PG Y tg g) ∧ SimG X.K O ts g gf := by
  refine ⟨fun v σ H Q => ∀ s H' C cl fp, (Classical.choose (h s H' C cl fp)) v σ H Q, fun s H' C cl fp => ?_, fun B F0 F H σ env env' v d Q s r h1 k s' H' C cl fp => ?_⟩
  · exact ⟨fun pins s2 σ H v u Q I r hw => (Classical.choose_spec (h s H' C cl fp)).1.run pins s2 σ H v u Q I r (hw s H' C cl fp)⟩
  · exact (Classical.choose_spec (h s' H' C cl fp)).2 B F0 F H σ env env' v d Q s r h1 k
theorem se_lc {scope : Scope} {ifs : List Expr} (own : List (Str × Nat)) (hc : X.calm = true) (hN : X.N.Nodup) (hi : SI ca X W O .B tg iter src) (ok : BlkOk X.N X.env.scope scope own) (hg : Blk X scope fun Y => SG Y O ts tg gf) (ht : Blk X scope fun Y => STs ca Y W0 O ifs ft)
    (he : Blk X scope fun Y => SE ca Y W0 O .E e fa) (hv : ∀ i ∈ own.map (·.2), i ∉ O := by decide) (hts : ∀ i ∈ ts, i ∈ own.map (·.2) := by decide) (hs : ∀ x, foldedSetIterable iter X.env x = pure x := by intro _; kernel_rfl) :
    SE ca X W O .O (.ListComp e [⟨tg, iter, ifs, 0⟩] scope pos) (eComp src gf (own.map (·.2)) ft fa) := by
  obtain ⟨wi, p1, q1⟩ := hi
  obtain ⟨g, p2, q2⟩ := blk_g hg
  obtain ⟨tt, p3, q3⟩ := blk_t ht
  obtain ⟨te, p4, q4⟩ := blk_e he
  exact ⟨_, pe_lc hc hN p1 ok p2 p3 p4 hs, sim_lc q1 q2 q3 q4 hv hts⟩
/-- x = [..], x a local, owned -/
theorem ss_lcO (i : Nat) {x : Str} {p' : Pos} {scope : Scope} {ifs : List Expr} {lpos : Pos} (own : List (Str × Nat)) (hc : X.calm = true) (hN : X.N.Nodup) (hi : SI ca X W O .B tg iter src) (ok : BlkOk X.N X.env.scope scope own) (hg : Blk X scope fun Y => SG Y O ts tg gf) (ht : Blk X scope fun Y => STs ca Y W0 O ifs ft)
    (he : Blk X scope fun Y => SE ca Y W0 O .E e fa) (hsw : swapsWith (.ListComp e [⟨tg, iter, ifs, 0⟩] scope lpos) (some (.Name x p')) pos.line X.env = pure true) (hy : X.N[i]? = some x := by kernel_rfl) (hyl : X.env.scope.names.lookup x = some .local := by kernel_rfl) (ho : i ∉ O := by decide) (hx : ∀ i ∈ L.ex, i ∈ O := by decide)
    (hv : ∀ i ∈ own.map (·.2), i ∉ O := by decide) (hts : ∀ i ∈ ts, i ∈ own.map (·.2) := by decide) (hs : ∀ x, foldedSetIterable iter X.env x = pure x := by intro _; kernel_rfl) :
    SS ca X W L O (i :: O) (.Assign [.Name x p'] (.ListComp e [⟨tg, iter, ifs, 0⟩] scope lpos) pos) (sSetO i (eComp src gf (own.map (·.2)) ft fa)) := by
  obtain ⟨wi, p1, q1⟩ := hi
  obtain ⟨g, p2, q2⟩ := blk_g hg
  obtain ⟨tt, p3, q3⟩ := blk_t ht
  obtain ⟨te, p4, q4⟩ := blk_e he
  refine ⟨_, ps_setLc hc hN hy hyl hsw p1 ok p2 p3 p4 hs, fun B F0 F H σ env N s n k1 k2 k3 k4 => ?_⟩
  by_cases hlen : i < env.length
  · have ee : sSetO i (eComp src gf (own.map (·.2)) ft fa) env = sAsg (eComp src gf (own.map (·.2)) ft fa) (gName i) env := if_pos hlen
    rw [ee] at n k1 k4
    exact sim_setO ho hx (sim_lc q1 q2 q3 q4 hv hts) B F0 F H σ env N hlen s n k1 k4
  · exact absurd (if_neg hlen) n
theorem sim_fz {K : PySem.W.Frag} {t : TE} (q : SimE K ca W O .O t fa) : SimE K ca W O .E t fa := fun B F0 F H σ env Q s n k x => q B F0 F H σ env Q s n (fun d hd v F' H' e r => by
    obtain ⟨p, o, r1, r2, r3, r4, r5⟩ := r
    subst r1
    exact k d hd _ (upd F' p o) H' (e.freeze r2 r3 r4) ((r5.mono (Ex.new r3)).rep upd_same)) x
/-- x = [..], x a local, frozen -/
theorem ss_lc (i : Nat) {x : Str} {p' : Pos} {scope : Scope} {ifs : List Expr} {lpos : Pos} (own : List (Str × Nat)) (hc : X.calm = true) (hN : X.N.Nodup) (hi : SI ca X W O .B tg iter src) (ok : BlkOk X.N X.env.scope scope own) (hg : Blk X scope fun Y => SG Y O ts tg gf) (ht : Blk X scope fun Y => STs ca Y W0 O ifs ft)
    (he : Blk X scope fun Y => SE ca Y W0 O .E e fa) (hsw : swapsWith (.ListComp e [⟨tg, iter, ifs, 0⟩] scope lpos) (some (.Name x p')) pos.line X.env = pure true) (hy : X.N[i]? = some x := by kernel_rfl) (hyl : X.env.scope.names.lookup x = some .local := by kernel_rfl) (ho : i ∉ O := by decide) (hx : ∀ i ∈ L.ex, i ∈ O := by decide)
    (hv : ∀ i ∈ own.map (·.2), i ∉ O := by decide) (hts : ∀ i ∈ ts, i ∈ own.map (·.2) := by decide) (hs : ∀ x, foldedSetIterable iter X.env x = pure x := by intro _; kernel_rfl) :
    SS ca X W L O O (.Assign [.Name x p'] (.ListComp e [⟨tg, iter, ifs, 0⟩] scope lpos) pos) (sAsg (eComp src gf (own.map (·.2)) ft fa) (gName i)) := by
  obtain ⟨wi, p1, q1⟩ := hi
  obtain ⟨g, p2, q2⟩ := blk_g hg
  obtain ⟨tt, p3, q3⟩ := blk_t ht
  obtain ⟨te, p4, q4⟩ := blk_e he
  exact ⟨_, ps_setLc hc hN hy hyl hsw p1 ok p2 p3 p4 hs, sim_asg (ts := [i]) hx (sim_fz (sim_lc q1 q2 q3 q4 hv hts)) fun B F0 F H σ env env' v d Q s r h k => by
    cases h
    exact k _ (s.set ho r) fun vs h => wipe_set (h i List.mem_cons_self)⟩
/-! ### own lists changed -/
theorem sim_mut {K : PySem.W.Frag} {te : TE} {i : Nat} {f : List D → D → R (List D)} {r : V → List V → Hp → VK → Prop} (hx : ∀ i ∈ L.ex, i ∈ O) (hi : i ∈ O) (q : SimE K ca W O m te fa)
    (hr : ∀ (F H0 H : Hp) (p : Addr) (xs : List V) (ds zs : List D) (d : D) (y : V) (Q : VK), Ex F H → F p = none → H0 p ≠ none → H p = some (.lst xs) → xs.length ≤ sizeLine → Reps K F ds xs → MdOk K H0 F H m d y → f ds d = .ok zs →
      (∀ ys, ys.length ≤ sizeLine → Reps K F zs ys → Q .non (upd H p (.lst ys))) → r (.ref p) [y] H Q) :
    SimS K ca W L O O (tDrop (tBM K "list" r (tVar i) (tCons te tNil))) (sMut i f fa) := fun B F0 F H σ env N s n k1 k2 k3 k4 => by
  obtain ⟨p, o, d, a1, a2, a3, a4, a5, a6⟩ := s.own i hi
  have es : slot env i = .ok d := by
    unfold slot
    rw [a1]
  cases d with
  | list ds =>
    cases o <;> try (exact a6.elim)
    rename_i xs
    have ee : sMut i f fa env = outR (fa env) env (fun y => (match f ds y with
      | .ok zs => .nx (env.set i (some (.list zs)))
      | _ => .no)) := by
      show (match slot env i with
        | .ok (.list xs) => outR (fa env) env fun y => (match f xs y with
          | .ok zs => .nx (env.set i (some (.list zs)))
          | _ => .no)
        | _ => .no) = _
      rw [es]
    rw [ee] at n k1 k4
    refine ⟨.ref p, a2, .inl ⟨rfl, xs, SqL.of a5⟩, sim_then hx q s n k4 fun y hy ee2 v F1 H1 e1 r1 => ?_⟩
    cases w : f ds y with
    | ok zs =>
      have f1 : F1 p = none := by
        rw [e1.keep p (by rw [a5]; intro z; cases z)]
        exact a3
      refine hr F1 H H1 p xs ds zs y v _ e1.fh f1 (by rw [a5]; intro z; cases z) (e1.hh _ _ a5) a6.1 (Reps.mono e1.ff _ _ a6.2) r1 w fun ys hz ry => ?_
      refine k1 _ (ee2.trans ?_) σ F1 _ e1.ff ((s.step e1).mut (d := .list zs) hi a2 ⟨hz, ry⟩)
      simp only [w]
    | exc c => exact absurd (ee2.trans (by simp only [w])) n
    | no => exact absurd (ee2.trans (by simp only [w])) n
  | none => exact absurd (by unfold sMut; rw [es]) n
  | bool b => exact absurd (by unfold sMut; rw [es]) n
  | int b => exact absurd (by unfold sMut; rw [es]) n
  | str b => exact absurd (by unfold sMut; rw [es]) n
  | tuple b => exact absurd (by unfold sMut; rw [es]) n
  | dict b => exact absurd (by unfold sMut; rw [es]) n
/-- x.m(e), a method that changes the own list of x -/
theorem ss_method {name : Str} {id : String} {f : List D → D → R (List D)} {r : V → List V → Hp → VK → Prop} (i : Nat) {x : Str} {p1 p2 p3 : Pos} (slot : Slot "list" name id) (hty : typeOf (.builtin id) = pure (.type "method_descriptor")) (hm : MtR X id r) (he : SE ca X W O m e fa)
    (hr : ∀ (F H0 H : Hp) (p : Addr) (xs : List V) (ds zs : List D) (d : D) (y : V) (Q : VK), Ex F H → F p = none → H0 p ≠ none → H p = some (.lst xs) → xs.length ≤ sizeLine → Reps X.K F ds xs → MdOk X.K H0 F H m d y → f ds d = .ok zs →
      (∀ ys, ys.length ≤ sizeLine → Reps X.K F zs ys → Q .non (upd H p (.lst ys))) → r (.ref p) [y] H Q)
    (hv : Vis X.env.scope x) (hN : X.N[i]? = some x := by kernel_rfl) (hi : i ∈ O := by decide) (hx : ∀ i ∈ L.ex, i ∈ O := by decide)
    (hd : (x == ("__debug__" : Str)) = false := by kernel_rfl) (hcd : (x == ("__classdict__" : Str)) = false := by kernel_rfl)
    (hbase : attributeBase (.Name x p1) name X.env (eval (.Name x p1) X.env) = eval (.Name x p1) X.env := by kernel_rfl)
    (hfew : ((backTo p3 (starEach [e] X.env)).all (fun x => !x.1) && (backToKw p3 (keywordEach [] X.env)).all (fun x => x.1.isSome)
      && decide ([e].length + ([] : List Keyword).length + (if ([] : List Keyword).isEmpty then 0 else 1) < 30)) = true := by kernel_rfl)
    (hline : (p2.endLine == p3.line) = true := by kernel_rfl) (hs : starEach [e] X.env = [(false, eval e X.env)] := by kernel_rfl)
    (hsw : swapsWith (.Call (.Attribute (.Name x p1) name p2) [e] [] p3) none pos.line X.env = pure false := by kernel_rfl) : SS ca X W L O O (.Expr (.Call (.Attribute (.Name x p1) name p2) [e] [] p3) pos) (sMut i f fa) := by
  obtain ⟨t, p, q⟩ := he
  exact ⟨_, ps_expr (pe_bm PySem.F.plainAttrs_list slot hty hm (pe_var hN hv hd hcd) (pa_cons p pa_nil hs) hbase hfew hline hs rfl) hsw, sim_mut hx hi q hr⟩
theorem hr_append {K : PySem.W.Frag} : ∀ (F H0 H : Hp) (p : Addr) (xs : List V) (ds zs : List D) (d : D) (y : V) (Q : VK), Ex F H → F p = none → H0 p ≠ none → H p = some (.lst xs) → xs.length ≤ sizeLine → Reps K F ds xs → MdOk K H0 F H .E d y → appendD ds d = .ok zs →
      (∀ ys, ys.length ≤ sizeLine → Reps K F zs ys → Q .non (upd H p (.lst ys))) → rAppend (.ref p) [y] H Q := fun F H0 H p xs ds zs d y Q fh fp h0 hp hz hr hm hf k => by
  unfold appendD at hf
  split at hf
  · cases hf
    have hl : xs.length < sizeLine := by rw [hr.length]; assumption
    exact ⟨p, xs, y, rfl, rfl, hp, hl, k _ (by rw [List.length_append, List.length_singleton]; omega) (Reps.append hr (Reps.one hm))⟩
  · cases hf
theorem hr_extend {K : PySem.W.Frag} : ∀ (F H0 H : Hp) (p : Addr) (xs : List V) (ds zs : List D) (d : D) (y : V) (Q : VK), Ex F H → F p = none → H0 p ≠ none → H p = some (.lst xs) → xs.length ≤ sizeLine → Reps K F ds xs → MdOk K H0 F H .E d y → extendD ds d = .ok zs →
      (∀ ys, ys.length ≤ sizeLine → Reps K F zs ys → Q .non (upd H p (.lst ys))) → rExtend (.ref p) [y] H Q := fun F H0 H p xs ds zs d y Q fh fp h0 hp hz hr hm hf k => by
  unfold extendD at hf
  split at hf
  · rename_i ys
    obtain ⟨b, ws, a1, a2, a3, a4⟩ := hm
    subst a1
    split at hf
    · cases hf
      have hl : xs.length + ws.length ≤ sizeLine := by rw [hr.length, a4.length]; assumption
      exact ⟨p, b, xs, ws, rfl, rfl, hp, fh _ _ a2, hl, k _ (by rw [List.length_append]; exact hl) (Reps.append hr a4)⟩
    · cases hf
  · cases hf
end
/-! ### calls of own defs -/
def MdR (ro : Bool) : Md := if ro = true then .O else .E
def spD (K : PySem.W.Frag) (ca : Xc → Addr) (ro : Bool) (n : Nat) (f : List D → R D) : Sp := fun vs H Q E => vs.length = n ∧ ∃ (F : Hp) (ds : List D), Ex F H ∧ Reps K F ds vs ∧ f ds ≠ .no ∧
  (∀ d, f ds = .ok d → ∀ v F' H', Ext F H F' H' → MdOk K H F' H' (MdR ro) d v → Q v H') ∧ (∀ c, f ds = .exc c → ∀ F' H', Ext F H F' H' → E (.ref (ca c)) none H')
section
variable {ca : Xc → Addr} {X : Cx} {W : WX} {L : Lk} {O O' O1 O2 O3 : List Nat} {m : Md} {a b c e : Expr} {fa fb fc : EF} {pos : Pos} {es : List Expr}
theorem sim_call {K : PySem.W.Frag} {t : TA} {ga : AF} {ro : Bool} {n : Nat} {f : List D → R D} (q : SimA K ca W O .E t ga) (hn : ∀ env ds, ga env = .ok ds → ds.length = n) : SimE K ca W O (MdR ro) (tCallS (spD K ca ro n f) (WE W) t) (eCall f ga) := fun B F0 F H σ env Q s nn k x => by
  have n1 := bind_ne nn
  refine q B F0 F H σ env _ s n1.1 (fun ds h1 vs F1 H1 e1 r1 => ?_) (fun c hc => x c (by show (ga env >>= _) = _; rw [hc]; rfl))
  have ee : eCall f ga env = f ds := by show (ga env >>= _) = _; rw [h1]; rfl
  rw [ee] at nn k x
  have r1' : Reps K F1 ds vs := r1
  refine ⟨by rw [r1'.length]; exact hn env ds h1, F1, ds, e1.fh, r1', nn, fun d hd v F' H' e r => k d hd v F' H' (e1.trans e) (r.back e1.hh), fun c hc F' H' e => x c hc F' H' (e1.trans e)⟩
theorem se_call {k n : Nat} {f : Addr} {fd : FuncData} {ps : List Str} {ro : Bool} {g : List D → R D} {x : Str} {p : Pos} {ga : AF} (F : FnOk X.prog X.w X.K X.mg X.base (L2.CX X.prog X.w) k f fd ps (spD X.K ca ro n g)) (hr : Room k X.A) (tk : Takes X W) (hm : X.mg x = some (.ref f)) (hk : PySem.W.keepIn X.K (.ref f) = true) (hb : Binds X.K fd ps [])
    (ha : SA ca X W O .E (e :: es) ga) (hn : ∀ env ds, ga env = .ok ds → ds.length = n) (hg : Gl X x) (hdb : (x == ("__debug__" : Str)) = false := by kernel_rfl) (he : starEach (e :: es) X.env = (false, eval e X.env) :: starEach es X.env := by kernel_rfl) (hpl : (backTo pos (starEach es X.env)).any (·.1) = false := by kernel_rfl) :
    SE ca X W O (MdR ro) (.Call (.Name x p) (e :: es) [] pos) (eCall g ga) := by
  obtain ⟨t, pp, q⟩ := ha
  exact ⟨_, pe_callS F hr hg hm hk hb (fun σ => passAt tk σ) pp hdb he hpl, sim_call q hn⟩
theorem aNil_len : ∀ (env : Env) ds, aNil env = .ok ds → ds.length = 0 := fun env ds h => by cases h; rfl
theorem aCons_len {a : EF} {r : AF} {n : Nat} (h : ∀ (env : Env) ds, r env = .ok ds → ds.length = n) : ∀ (env : Env) ds, aCons a r env = .ok ds → ds.length = n + 1 := fun env ds h1 => by
  obtain ⟨x, h2, h3⟩ := bind_ok (show (a env >>= fun x => r env >>= fun xs => .ok (x :: xs)) = .ok ds from h1)
  obtain ⟨xs, h4, h5⟩ := bind_ok h3
  cases h5
  rw [List.length_cons, h env xs h4]
/-! ### a def -/
theorem start_len {N : List Str} {vs : List V} (h : vs.length ≤ N.length) : (start N vs).length = N.length := by
  unfold L2.start
  rw [List.length_append, List.length_map, List.length_replicate]
  omega
theorem sr_start {K : PySem.W.Frag} {F H : Hp} {N : List Str} {vs : List V} {ds : List D} (fh : Ex F H) (r : Reps K F ds vs) : SR K H F [] F H (start N vs) (ds.map some ++ List.replicate (N.length - ds.length) none) where
  ext := Ext.refl fh
  len := by
    unfold L2.start
    rw [List.length_append, List.length_append, List.length_map, List.length_map, List.length_replicate, List.length_replicate, r.length]
  frz := fun i d _ h => by
    have hl := r.length
    by_cases l : i < ds.length
    · rw [List.getElem?_append_left (by rw [List.length_map]; exact l), List.getElem?_map] at h
      obtain ⟨d', h1, h2⟩ := Option.map_eq_some_iff.mp h
      cases h2
      obtain ⟨v, h3, h4⟩ := r.gets h1
      refine ⟨v, ?_, h4⟩
      unfold L2.start
      rw [List.getElem?_append_left (by rw [List.length_map, hl]; exact l), List.getElem?_map, h3]
      rfl
    · rw [List.getElem?_append_right (by rw [List.length_map]; omega), List.getElem?_replicate] at h
      split at h <;> cases h
  own := fun i hi => by cases hi
  sep := fun i j p hi => by cases hi
theorem run_ne {n : Nat} {body : SF} {ds : List D} (h : run n body ds ≠ .no) : body (ds.map some ++ List.replicate (n - ds.length) none) ≠ .no := fun z => h (by unfold run; rw [z])
/-- a def keeps the promise to be its mirror -/
theorem fn_sim {P : Program} {w : World} {K : PySem.W.Frag} {mg : Str → Option Value} {base : Heap} {x qual : Str} {st : Stmt} {f : Addr} {fd : FuncData} {N ps : List Str} {k : Nat} {ro : Bool} {body : SF} (F : Fun K x qual st f fd) (S : FnScope N ps (defScope st))
    (hb : ∀ (cdv : Value) (A : Around) (outer : List PySem.Env) (s : Shared) (H : Hp) (E : XK), Room k (A.deeper (PyProof.Rows.envOfC qual (defScope st) s.heap.objs.size f cdv)) →
      SSs ca (cxOf (L2.CX P w) P w K mg base N qual (defScope st) f cdv A outer s H E) (fun cls d _ H => E cls d H) ⟨ro, [], []⟩ [] [] (defBody st) body)
    (hro : ro = true → ∀ env e, body env ≠ .nx e) :
    FnOk P w K mg base (L2.CX P w) (k + 1) f fd ps (spD K ca ro ps.length (run N.length body)) := by
  refine F.okX S (fun vs H Q E h => h.1) fun cdv A outer s H vs Q E hr h => ?_
  obtain ⟨hl, F0, ds, fh, r, n, k1, k2⟩ := h
  obtain ⟨t, p, q⟩ := hb cdv A outer s H E hr
  refine ⟨t, p, q H F0 F0 H (start N vs) _ _ (sr_start (N := N) fh r) (run_ne n) (fun e he σ' F' H' x s' => ?_) (fun d hd v F' H' e r => ?_) (fun e he => ?_) (fun c e he σ' F' H' x s' => ?_)⟩
  · cases ro with
    | true => exact absurd he (hro rfl _ _)
    | false => exact k1 .none (by unfold run; rw [he]) .non F' H' s'.ext rfl
  · exact k1 d (by unfold run; rw [hd]) v F' H' e r
  · exact absurd (by unfold run; rw [he]) n
  · exact k2 c (by unfold run; rw [he]) F' H' s'.ext
end
end Rt
/-! Sim5: operators, comparisons, subscripts, built-ins, by their data. -/
namespace Rt
open PySem L2
/-! ### data -/
def addD : D → D → R D
  | .int a, .int b => .ok (.int (a + b))
  | .list a, .list b => if a.length + b.length ≤ sizeLine then .ok (.list (a ++ b)) else .no
  | .tuple a, .tuple b => if a.length + b.length ≤ sizeLine then .ok (.tuple (a ++ b)) else .no
  | .str a, .str b => if a.length + b.length ≤ sizeLine then .ok (.str (a ++ b)) else .no
  | _, _ => .no
def subD : D → D → R D
  | .int a, .int b => .ok (.int (a - b))
  | _, _ => .no
def mulD : D → D → R D
  | .int a, .int b => if (-(2 ^ 64) < a ∧ a < 2 ^ 64) ∨ (-(2 ^ 64) < b ∧ b < 2 ^ 64) then .ok (.int (a * b)) else .no
  | .list a, .int k => if -1000000 ≤ k ∧ k ≤ 1000000 ∧ a.length * k.toNat ≤ sizeLine then .ok (.list (List.replicate k.toNat a).flatten) else .no
  | .tuple a, .int k => if a ≠ [] ∧ 2 ≤ k ∧ k ≤ 1000 ∧ a.length ≤ 1000 then .ok (.tuple (List.replicate k.toNat a).flatten) else .no
  | _, _ => .no
def fdivD : D → D → R D
  | .int a, .int b => if 0 < b ∧ b < 1073741824 then .ok (.int (a / b)) else .no
  | _, _ => .no
def modD : D → D → R D
  | .int a, .int b => if 0 < b then .ok (.int (a % b)) else .no
  | _, _ => .no
def powD : D → D → R D
  | .int a, .int b => if 0 ≤ b ∧ (Builtin.Int.intBits a : Int) * b ≤ 2 ^ 27 then .ok (.int (a ^ b.toNat)) else .no
  | _, _ => .no
def negD : D → R D
  | .int a => .ok (.int (-a))
  | _ => .no
def cmpD (p : Int → Int → Bool) : D → D → R D
  | .int a, .int b => .ok (.bool (p a b))
  | _, _ => .no
def ltI (a b : Int) : Bool := decide (a < b)
def leI (a b : Int) : Bool := decide (a ≤ b)
def gtI (a b : Int) : Bool := decide (b < a)
def geI (a b : Int) : Bool := decide (b ≤ a)
def eqD (a b : D) : R D := if SeqAt.shaped a = true ∧ SeqAt.shaped b = true then .ok (.bool (PyData.eqv a b)) else .no
def neD (a b : D) : R D := if SeqAt.shaped a = true ∧ SeqAt.shaped b = true then .ok (.bool (!PyData.eqv a b)) else .no
def isNone : D → Bool
  | .none => true
  | _ => false
def isD (neg : Bool) : D → D → R D
  | a, .none => .ok (.bool (neg ^^ isNone a))
  | .bool a, .bool b => .ok (.bool (neg ^^ decide (a = b)))
  | _, _ => .no
def inD (neg : Bool) : D → D → R D
  | x, .list ys => if SeqAt.shaped x = true ∧ SeqAt.shaped (.list ys) = true then .ok (.bool (neg ^^ ys.any fun z => PyData.eqv z x)) else .no
  | _, _ => .no
def atD : List D → Int → R D := fun xs i => match atI xs i with
  | some d => .ok d
  | none => .no
def ixD : D → D → R D
  | .list xs, .int i => atD xs i
  | .tuple xs, .int i => atD xs i
  | .dict [(.none, .list xs)], .int i => atD xs i
  | _, _ => .no
def cutD (xs : List D) (lo hi : Option Int) : List D := (xs.drop (HT.sIx xs.length 0 lo)).take (HT.sIx xs.length xs.length hi - HT.sIx xs.length 0 lo)
def sliceD (x : D) (lo hi : Option Int) : R D := match x with
  | .list xs => .ok (.list (cutD xs lo hi))
  | .tuple xs => .ok (.tuple (cutD xs lo hi))
  | _ => .no
abbrev OF := Env → R (Option Int)
def oNone : OF := fun _ => .ok none
def oSome (e : EF) : OF := fun env => e env >>= fun d => match d with
  | .int i => .ok (some i)
  | _ => .no
def eSlice (a : EF) (lo hi : OF) : EF := fun env => a env >>= fun x => lo env >>= fun l => hi env >>= fun h => quiet (sliceD x l h)
def lenD : List D → R D
  | [.list xs] => .ok (.int (xs.length : Int))
  | [.tuple xs] => .ok (.int (xs.length : Int))
  | [.dict [(.none, .list xs)]] => .ok (.int (xs.length : Int))
  | _ => .no
def min2D : List D → R D
  | [.int a, .int b] => .ok (.int (if b < a then b else a))
  | _ => .no
def max2D : List D → R D
  | [.int a, .int b] => .ok (.int (if b > a then b else a))
  | _ => .no
def absD : List D → R D
  | [.int a] => .ok (.int (if a < 0 then -a else a))
  | _ => .no
def tupleD : List D → R D
  | [.list xs] => .ok (.tuple xs)
  | [.tuple xs] => .ok (.tuple xs)
  | _ => .no
def listD : List D → R D
  | [.list xs] => .ok (.list xs)
  | [.tuple xs] => .ok (.list xs)
  | _ => .no
/-- whole numbers out of data -/
def intsD : List D → Option (List Int)
  | [] => some []
  | .int i :: r => (intsD r).map (i :: ·)
  | _ => none
theorem intsD_eq : ∀ {ds : List D} {ns : List Int}, intsD ds = some ns → ds = ns.map PyData.int
  | [], ns, h => by cases h; rfl
  | .int i :: r, ns, h => by
    obtain ⟨l, h1, h2⟩ := Option.map_eq_some_iff.mp (show (intsD r).map (i :: ·) = some ns from h)
    subst h2
    rw [intsD_eq h1]
    rfl
  | .none :: _, _, h => by cases h
  | .bool _ :: _, _, h => by cases h
  | .str _ :: _, _, h => by cases h
  | .list _ :: _, _, h => by cases h
  | .tuple _ :: _, _, h => by cases h
  | .dict _ :: _, _, h => by cases h
@[simp] theorem intsD_map : ∀ (ns : List Int), intsD (ns.map PyData.int) = some ns
  | [] => rfl
  | n :: ns => by
    show (intsD (ns.map PyData.int)).map (n :: ·) = _
    rw [intsD_map ns]
    rfl
def insI (x : Int) : List Int → List Int
  | [] => [x]
  | y :: r => if x ≤ y then x :: y :: r else y :: insI x r
def sortI : List Int → List Int
  | [] => []
  | x :: r => insI x (sortI r)
theorem insI_perm (x : Int) : ∀ l : List Int, (insI x l).Perm (x :: l)
  | [] => List.Perm.refl _
  | y :: r => by
    unfold insI
    split
    · exact List.Perm.refl _
    · exact (List.Perm.cons y (insI_perm x r)).trans (List.Perm.swap x y r)
theorem sortI_perm : ∀ l : List Int, (sortI l).Perm l
  | [] => List.Perm.refl _
  | x :: r => (insI_perm x (sortI r)).trans (List.Perm.cons x (sortI_perm r))
theorem insI_sorted (x : Int) : ∀ l : List Int, l.Pairwise (· ≤ ·) → (insI x l).Pairwise (· ≤ ·)
  | [], _ => List.pairwise_singleton _ _
  | y :: r, h => by
    unfold insI
    have h1 := List.pairwise_cons.mp h
    split
    · rename_i z
      exact List.pairwise_cons.mpr ⟨fun a ha => by
        rcases List.mem_cons.mp ha with q | q
        · rw [q]; exact z
        · exact Int.le_trans z (h1.1 a q), h⟩
    · rename_i z
      refine List.pairwise_cons.mpr ⟨fun a ha => ?_, insI_sorted x r h1.2⟩
      rcases List.mem_cons.mp ((insI_perm x r).mem_iff.mp ha) with q | q
      · rw [q]; omega
      · exact h1.1 a q
theorem sortI_sorted : ∀ l : List Int, (sortI l).Pairwise (· ≤ ·)
  | [] => List.Pairwise.nil
  | x :: r => insI_sorted x _ (sortI_sorted r)
theorem sorted_uniq : ∀ {a b : List Int}, a.Perm b → a.Pairwise (· ≤ ·) → b.Pairwise (· ≤ ·) → a = b
  | [], b, p, _, _ => by rw [List.nil_perm.mp p]
  | x :: a, [], p, _, _ => by cases List.perm_nil.mp p
  | x :: a, y :: b, p, ha, hb => by
    have h1 := List.pairwise_cons.mp ha
    have h2 := List.pairwise_cons.mp hb
    have e : x = y := by
      have m1 : x ∈ y :: b := p.mem_iff.mp List.mem_cons_self
      have m2 : y ∈ x :: a := p.mem_iff.mpr List.mem_cons_self
      rcases List.mem_cons.mp m1 with q | q
      · exact q
      · rcases List.mem_cons.mp m2 with q2 | q2
        · exact q2.symm
        · have := h1.1 y q2
          have := h2.1 x q
          omega
    subst e
    rw [sorted_uniq (List.perm_cons x |>.mp p) h1.2 h2.2]
def seqI : D → Option (List Int)
  | .list xs => intsD xs
  | .tuple xs => intsD xs
  | _ => none
def sortedD : List D → R D
  | [d] => (match seqI d with
    | some ns => .ok (.list ((sortI ns).map PyData.int))
    | none => .no)
  | _ => .no
def sumD : List D → R D
  | [.list xs] => (match intsD xs with
    | some ns => .ok (.int ns.sum)
    | none => .no)
  | _ => .no
def maxI : List Int → Int
  | [] => 0
  | [x] => x
  | x :: r => max x (maxI r)
def minI : List Int → Int
  | [] => 0
  | [x] => x
  | x :: r => min x (minI r)
def maxD : List D → R D
  | [.list xs] => (match intsD xs with
    | some (n :: ns) => .ok (.int (maxI (n :: ns)))
    | _ => .no)
  | _ => .no
def isiD (T : String) : D → R D
  | .none => .ok (.bool false)
  | .bool _ => .ok (.bool (T == "bool" || T == "int"))
  | .int _ => .ok (.bool (T == "int"))
  | .str _ => .ok (.bool (T == "str"))
  | .list _ => .ok (.bool (T == "list"))
  | .tuple _ => .ok (.bool (T == "tuple"))
  | .dict _ => .no
/-! ### operators -/
section
variable {K : PySem.W.Frag} {X : Cx}
theorem simI {C : Int → Int → Prop} {g : Int → Int → Int} {f : D → D → R D} (h : ∀ a b z, f a b = .ok z → ∃ i j, a = .int i ∧ b = .int j ∧ C i j ∧ z = .int (g i j)) : SimR2 K .E (rI C fun i j => .int (g i j)) f := fun F H x y d1 d2 z Q fh v1 v2 e k => by
  obtain ⟨i, j, h1, h2, h3, h4⟩ := h d1 d2 z e
  subst h1 h2 h4
  exact ⟨i, j, v1.int, v2.int, h3, k _ F H (Ext.refl fh) rfl⟩
theorem simI0 {g : Int → Int → Int} {f : D → D → R D} (h : ∀ a b z, f a b = .ok z → ∃ i j, a = .int i ∧ b = .int j ∧ z = .int (g i j)) : SimR2 K .E (rI0 fun i j => .int (g i j)) f := fun F H x y d1 d2 z Q fh v1 v2 e k => by
  obtain ⟨i, j, h1, h2, h4⟩ := h d1 d2 z e
  subst h1 h2 h4
  exact ⟨i, j, v1.int, v2.int, k _ F H (Ext.refl fh) rfl⟩
theorem simB0 {g : Int → Int → Bool} : SimR2 K .E (rI0 fun i j => .bl (g i j)) (cmpD g) := fun F H x y d1 d2 z Q fh v1 v2 e k => by
  cases d1 <;> try (cases e; done)
  cases d2 <;> try (cases e; done)
  cases e
  exact ⟨_, _, v1.int, v2.int, k _ F H (Ext.refl fh) rfl⟩
theorem r_sub : SimR2 K .E (rI0 fun i j => .int (i - j)) subD := simI0 fun a b z h => by
  cases a <;> try (cases h; done)
  cases b <;> try (cases h; done)
  cases h
  exact ⟨_, _, rfl, rfl, rfl⟩
theorem r_fdiv : SimR2 K .E (rI CDiv fun i j => .int (i / j)) fdivD := simI fun a b z h => by
  cases a <;> try (cases h; done)
  cases b <;> try (cases h; done)
  simp only [fdivD] at h
  split at h
  · cases h
    exact ⟨_, _, rfl, rfl, by assumption, rfl⟩
  · cases h
theorem r_mod : SimR2 K .E (rI (fun _ j => 0 < j) fun i j => .int (i % j)) modD := simI fun a b z h => by
  cases a <;> try (cases h; done)
  cases b <;> try (cases h; done)
  simp only [modD] at h
  split at h
  · cases h
    exact ⟨_, _, rfl, rfl, by assumption, rfl⟩
  · cases h
def CPowB (i j : Int) : Prop := 0 ≤ j ∧ (Builtin.Int.intBits i : Int) * j ≤ 2 ^ 27
theorem op_powB : OpR X (binaryOp .Pow) (rI CPowB fun i j => .int (i ^ j.toNat)) := opI fun _ _ _ _ _ _ _ hc q => PyProof.Rows.pow_int hc.1 hc.2 q
theorem r_pow : SimR2 K .E (rI CPowB fun i j => .int (i ^ j.toNat)) powD := simI fun a b z h => by
  cases a <;> try (cases h; done)
  cases b <;> try (cases h; done)
  simp only [powD] at h
  split at h
  · cases h
    exact ⟨_, _, rfl, rfl, by assumption, rfl⟩
  · cases h
/-- either rule -/
theorem SimR2.or {m : Md} {r1 r2 : R2} {f : D → D → R D} (h : ∀ F H x y d1 d2 z Q, Ex F H → View K F H d1 x → View K F H d2 y → f d1 d2 = .ok z → (∀ v F' H', Ext F H F' H' → MdOk K H F' H' m z v → Q v H') → r1 x y H Q ∨ r2 x y H Q) :
    SimR2 K m (fun x y H Q => r1 x y H Q ∨ r2 x y H Q) f := h
theorem fz_new {F H : Hp} {p : Addr} {xs : List V} {ds : List D} {Q : VK} (fh : Ex F H) (hp : H p = none) (hz : xs.length ≤ sizeLine) (r : Reps K F ds xs) (k : ∀ v F' H', Ext F H F' H' → Rep K F' (.list ds) v → Q v H') : Q (.ref p) (upd H p (.lst xs)) :=
  k _ (upd F p (.lst xs)) _ (Ext.frz fh hp) ⟨p, xs, rfl, upd_same, hz, Reps.mono (Ex.new (fh.back hp)) _ _ r⟩
theorem fz_newT {F H : Hp} {p : Addr} {xs : List V} {ds : List D} {Q : VK} (fh : Ex F H) (hp : H p = none) (hz : xs.length ≤ sizeLine) (r : Reps K F ds xs) (k : ∀ v F' H', Ext F H F' H' → Rep K F' (.tuple ds) v → Q v H') : Q (.ref p) (upd H p (.tup xs)) :=
  k _ (upd F p (.tup xs)) _ (Ext.frz fh hp) ⟨p, xs, rfl, upd_same, hz, Reps.mono (Ex.new (fh.back hp)) _ _ r⟩
theorem op_addA : OpR X (binaryOp .Add) (fun x y H Q => (rI0 fun i j => .int (i + j)) x y H Q ∨ (rCat x y H Q ∨ (rCatA X.K x y H Q ∨ (fun x y H Q => ∃ i j, x = V.str i ∧ y = V.str j ∧ i.length + j.length ≤ sizeLine ∧ Q (.str (i ++ j)) H) x y H Q))) := OpR.or op_add (OpR.or op_cat (OpR.or op_catA op_add_str))
theorem r_add : SimR2 K .E (fun x y H Q => (rI0 fun i j => .int (i + j)) x y H Q ∨ (rCat x y H Q ∨ (rCatA K x y H Q ∨ (fun x y H Q => ∃ i j, x = V.str i ∧ y = V.str j ∧ i.length + j.length ≤ sizeLine ∧ Q (.str (i ++ j)) H) x y H Q))) addD := fun F H x y d1 d2 z Q fh v1 v2 e k => by
  cases d1 <;> cases d2 <;> try (cases e; done)
  · cases e
    exact .inl ⟨_, _, v1.int, v2.int, k _ F H (Ext.refl fh) rfl⟩
  · simp only [addD] at e
    split at e
    · cases e
      exact .inr (.inr (.inr ⟨_, _, v1.str, v2.str, by assumption, k _ F H (Ext.refl fh) rfl⟩))
    · cases e
  · obtain ⟨p, xs, a1, a2, a3, a4⟩ := v1.list fh
    obtain ⟨q, ys, b1, b2, b3, b4⟩ := v2.list fh
    simp only [addD] at e
    split at e
    · cases e
      have hz : xs.length + ys.length ≤ sizeLine := by rw [a4.length, b4.length]; assumption
      exact .inr (.inl ⟨p, q, xs, ys, a1, b1, a2, b2, hz, fun r hr => fz_new fh hr (by rw [List.length_append]; exact hz) (Reps.append a4 b4) k⟩)
    · cases e
  · obtain ⟨p, xs, a1, a2, a2', a3, a4⟩ := v1.tup fh
    obtain ⟨q, ys, b1, b2, b2', b3, b4⟩ := v2.tup fh
    simp only [addD] at e
    split at e
    · cases e
      have hz : xs.length + ys.length ≤ sizeLine := by rw [a4.length, b4.length]; assumption
      refine .inr (.inr (.inl ⟨p, q, xs, ys, a1, b1, SqT.of a2, SqT.of b2, hz, fun ex => ?_, fun _ ey => ?_, fun _ _ r hr => fz_newT fh hr (by rw [List.length_append]; exact hz) (Reps.append a4 b4) k⟩))
      · have en := a4.length
        rw [ex] at en
        have en2 := List.eq_nil_of_length_eq_zero en.symm
        rw [en2] at k
        exact k _ F H (Ext.refl fh) ⟨q, ys, rfl, b2', b3, b4⟩
      · have en := b4.length
        rw [ey] at en
        have en2 := List.eq_nil_of_length_eq_zero en.symm
        rw [en2, List.append_nil] at k
        exact k _ F H (Ext.refl fh) ⟨p, xs, rfl, a2', a3, a4⟩
    · cases e
theorem op_mulA : OpR X (binaryOp .Mult) (fun x y H Q => (rI CMul fun i j => .int (i * j)) x y H Q ∨ (rRep x y H Q ∨ rRepT X.K x y H Q)) := OpR.or op_mul (OpR.or op_rep op_repT)
theorem Reps.rep {F : Hp} {ds : List D} {xs : List V} (h : Reps K F ds xs) : ∀ k : Nat, Reps K F (List.replicate k ds).flatten (List.replicate k xs).flatten
  | 0 => rfl
  | k + 1 => by
    rw [List.replicate_succ, List.replicate_succ, List.flatten_cons, List.flatten_cons]
    exact Reps.append h (Reps.rep h k)
theorem rep_len {α : Type} (l : List α) : ∀ k : Nat, (List.replicate k l).flatten.length = l.length * k
  | 0 => rfl
  | k + 1 => by rw [List.replicate_succ, List.flatten_cons, List.length_append, rep_len l k, Nat.mul_succ, Nat.add_comm]
theorem r_mul : SimR2 K .E (fun x y H Q => (rI CMul fun i j => .int (i * j)) x y H Q ∨ (rRep x y H Q ∨ rRepT K x y H Q)) mulD := fun F H x y d1 d2 z Q fh v1 v2 e k => by
  cases d1 <;> cases d2 <;> try (cases e; done)
  · simp only [mulD] at e
    split at e
    · cases e
      exact .inl ⟨_, _, v1.int, v2.int, by assumption, k _ F H (Ext.refl fh) rfl⟩
    · cases e
  · obtain ⟨p, xs, a1, a2, a3, a4⟩ := v1.list fh
    simp only [mulD] at e
    split at e
    · rename_i dd kk c
      cases e
      have hz : xs.length * kk.toNat ≤ sizeLine := by rw [a4.length]; exact c.2.2
      exact .inr (.inl ⟨p, _, xs, a1, v2.int, a2, by omega, by omega, hz, fun r hr => fz_new fh hr (by rw [rep_len]; exact hz) (Reps.rep a4 _) k⟩)
    · cases e
  · obtain ⟨p, xs, a1, a2, a2', a3, a4⟩ := v1.tup fh
    simp only [mulD] at e
    split at e
    · rename_i c
      cases e
      have hl := a4.length
      refine .inr (.inr ⟨p, _, xs, a1, v2.int, SqT.of a2, fun w => ?_, c.2.1, c.2.2.1, by rw [hl]; exact c.2.2.2, fun r hr => fz_newT fh hr ?_ (Reps.rep a4 _) k⟩)
      · rw [w] at hl
        exact c.1 (List.eq_nil_of_length_eq_zero hl.symm)
      · rw [rep_len, hl]
        rename_i dd kk
        have h1 : dd.length * kk.toNat ≤ 1000 * 1000 := Nat.mul_le_mul c.2.2.2 (by omega)
        exact Nat.le_trans h1 (by decide)
    · cases e
theorem r_neg : SimR1 K .E (rU fun i => .int (-i)) negD := fun F H x d1 z Q fh v1 e k => by
  cases d1 <;> try (cases e; done)
  cases e
  exact ⟨_, v1.int, k _ F H (Ext.refl fh) rfl⟩
end
end Rt
/-! Sim6: equality, in, is, subscripts, slices, built-ins. -/
namespace Rt
open PySem L2
section
variable {K : PySem.W.Frag} {X : Cx} {F H : Hp}
/-! ### equality -/
mutual
theorem Rep.dp (fh : Ex F H) : ∀ (d : D) (v : V), d.canLay0 = true → Rep K F d v → Dp K H v d
  | .none, _, _, h => by
    have e : _ = V.non := h
    rw [e]; exact .non
  | .bool b, _, _, h => by
    have e : _ = V.bl b := h
    rw [e]; exact .bl b
  | .int i, _, _, h => by
    have e : _ = V.int i := h
    rw [e]; exact .int i
  | .str x, _, _, h => by
    have e : _ = V.str x := h
    rw [e]; exact .str x
  | .list ds, _, c, ⟨p, xs, a, b, z, r⟩ => by
    rw [a]
    exact .lst (SqL.of (fh _ _ b)) (Reps.dp fh ds xs (by simpa only [PyData.canLay0] using c) r)
  | .tuple ds, _, c, ⟨p, xs, a, b, z, r⟩ => by
    rw [a]
    exact .tup (SqT.of (fh _ _ b)) (Reps.dp fh ds xs (by simpa only [PyData.canLay0] using c) r)
  | .dict es, _, c, _ => by
    simp only [PyData.canLay0] at c
    cases c
theorem Reps.dp (fh : Ex F H) : ∀ (ds : List D) (xs : List V), PyData.canLayAll0 ds = true → Reps K F ds xs → DpAll K H xs ds
  | [], _, _, h => by
    have e : _ = ([] : List V) := h
    rw [e]; exact .nil
  | d :: ds, _, c, ⟨v, vs, a, b, r⟩ => by
    rw [a]
    simp only [PyData.canLayAll0, Bool.and_eq_true] at c
    exact .cons (Rep.dp fh d v c.1 b) (Reps.dp fh ds vs c.2 r)
end
theorem View.dp (fh : Ex F H) {d : D} {v : V} (c : d.canLay0 = true) (h : View K F H d v) : Dp K H v d := by
  rcases h with h | ⟨p, o, a, b, r⟩
  · exact h.dp fh _ _ c
  · cases o <;> cases d <;> try (exact r.elim)
    · rw [a]
      exact .lst (SqL.of b) (Reps.dp fh _ _ (by simpa only [PyData.canLay0] using c) r.2)
    · simp only [PyData.canLay0] at c
      cases c
    · simp only [PyData.canLay0] at c
      cases c
theorem lay_of {d : D} (h : SeqAt.shaped d = true) : d.canLay0 = true := SeqAt.canLay_of_shaped h
theorem r_eq : SimR2 K .E (rEqD K) eqD := fun F H x y d1 d2 z Q fh v1 v2 e k => by
  unfold eqD at e
  split at e
  · rename_i c
    cases e
    exact ⟨d1, d2, v1.dp fh (lay_of c.1), v2.dp fh (lay_of c.2), c.1, c.2, k _ F H (Ext.refl fh) rfl⟩
  · cases e
theorem r_ne : SimR2 K .E (rNeD K) neD := fun F H x y d1 d2 z Q fh v1 v2 e k => by
  unfold neD at e
  split at e
  · rename_i c
    cases e
    exact ⟨d1, d2, v1.dp fh (lay_of c.1), v2.dp fh (lay_of c.2), c.1, c.2, k _ F H (Ext.refl fh) rfl⟩
  · cases e
theorem Dp.list_inv {v : V} {d : D} {ds : List D} (h : Dp K H v d) (e : d = .list ds) : True := trivial
theorem r_in : SimR2 K .E (rInD K) (inD false) := fun F H x y d1 d2 z Q fh v1 v2 e k => by
  cases d2 <;> try (cases e; done)
  simp only [inD] at e
  split at e
  · rename_i ys c
    cases e
    refine ⟨d1, _, v1.dp fh (lay_of c.1), v2.dp fh (lay_of c.2), c.1, c.2, k _ F H (Ext.refl fh) ?_⟩
    show V.bl (ys.any _) = .bl (false ^^ _)
    rw [Bool.false_xor]
  · cases e
theorem r_notIn : SimR2 K .E (rNotInD K) (inD true) := fun F H x y d1 d2 z Q fh v1 v2 e k => by
  cases d2 <;> try (cases e; done)
  simp only [inD] at e
  split at e
  · rename_i ys c
    cases e
    refine ⟨d1, _, v1.dp fh (lay_of c.1), v2.dp fh (lay_of c.2), c.1, c.2, k _ F H (Ext.refl fh) ?_⟩
    show V.bl (!ys.any _) = .bl (true ^^ _)
    rw [Bool.true_xor]
  · cases e
/-! ### is -/
theorem none_iff {d : D} {v : V} (fh : Ex F H) (h : View K F H d v) : decide (v = .non) = isNone d := by
  cases d with
  | none => rw [h.none]; rfl
  | bool b => rw [h.bool]; rfl
  | int b => rw [h.int]; rfl
  | str b => rw [h.str]; rfl
  | list b => obtain ⟨p, xs, a, _⟩ := h.list fh; rw [a]; rfl
  | tuple b => obtain ⟨p, xs, a, _⟩ := h.tup fh; rw [a]; rfl
  | dict b => obtain ⟨p, a, _⟩ := h.dict fh; rw [a]; rfl
theorem op_isA : OpR X (compareOp .Is) (fun x y H Q => (fun x y H Q => y = V.non ∧ Q (.bl (decide (x = .non))) H) x y H Q ∨ (fun x y H Q => ∃ a b, x = V.bl a ∧ y = V.bl b ∧ Q (.bl (decide (a = b))) H) x y H Q) := OpR.or op_isN op_is_bl
theorem op_isnA : OpR X (compareOp .IsNot) (fun x y H Q => (fun x y H Q => y = V.non ∧ Q (.bl (!decide (x = .non))) H) x y H Q ∨ (fun x y H Q => ∃ a b, x = V.bl a ∧ y = V.bl b ∧ Q (.bl (!decide (a = b))) H) x y H Q) := OpR.or op_notN op_isnot_bl
theorem isD_ok {neg : Bool} {d1 d2 z : D} (e : isD neg d1 d2 = .ok z) : (d2 = .none ∧ z = .bool (neg ^^ isNone d1)) ∨ ∃ a b, d1 = .bool a ∧ d2 = .bool b ∧ z = .bool (neg ^^ decide (a = b)) := by
  unfold isD at e
  split at e
  · cases e; exact .inl ⟨rfl, rfl⟩
  · cases e; exact .inr ⟨_, _, rfl, rfl, rfl⟩
  · cases e
theorem r_is : SimR2 K .E (fun x y H Q => (fun x y H Q => y = V.non ∧ Q (.bl (decide (x = .non))) H) x y H Q ∨ (fun x y H Q => ∃ a b, x = V.bl a ∧ y = V.bl b ∧ Q (.bl (decide (a = b))) H) x y H Q) (isD false) := fun F H x y d1 d2 z Q fh v1 v2 e k => by
  rcases isD_ok e with ⟨e1, e2⟩ | ⟨a, b, e1, e2, e3⟩
  · subst e1 e2
    refine .inl ⟨v2.none, k _ F H (Ext.refl fh) ?_⟩
    show V.bl (decide (x = .non)) = .bl (false ^^ isNone d1)
    rw [none_iff fh v1, Bool.false_xor]
  · subst e1 e2 e3
    refine .inr ⟨a, b, v1.bool, v2.bool, k _ F H (Ext.refl fh) ?_⟩
    show V.bl _ = .bl (false ^^ _)
    rw [Bool.false_xor]
theorem r_isn : SimR2 K .E (fun x y H Q => (fun x y H Q => y = V.non ∧ Q (.bl (!decide (x = .non))) H) x y H Q ∨ (fun x y H Q => ∃ a b, x = V.bl a ∧ y = V.bl b ∧ Q (.bl (!decide (a = b))) H) x y H Q) (isD true) := fun F H x y d1 d2 z Q fh v1 v2 e k => by
  rcases isD_ok e with ⟨e1, e2⟩ | ⟨a, b, e1, e2, e3⟩
  · subst e1 e2
    refine .inl ⟨v2.none, k _ F H (Ext.refl fh) ?_⟩
    show V.bl (!decide (x = .non)) = .bl (true ^^ isNone d1)
    rw [none_iff fh v1, Bool.true_xor]
  · subst e1 e2 e3
    refine .inr ⟨a, b, v1.bool, v2.bool, k _ F H (Ext.refl fh) ?_⟩
    show V.bl _ = .bl (true ^^ _)
    rw [Bool.true_xor]
/-! ### subscripts -/
theorem at_of {ds : List D} {xs : List V} {i : Int} {d : D} (r : Reps K F ds xs) (e : atD ds i = .ok d) : ∃ v, atI xs i = some v ∧ Rep K F d v := by
  unfold atD at e
  split at e
  · rename_i d' h
    cases e
    unfold atI at h ⊢
    rw [r.length]
    obtain ⟨j, h1, h2⟩ := Option.bind_eq_some_iff.mp h
    rw [h1]
    exact r.gets h2
  · cases e
theorem r_ix : SimR2 K .E (rIx K) ixD := fun F H x y d1 d2 z Q fh v1 v2 e k => by
  unfold ixD at e
  split at e
  · obtain ⟨p, xs, a1, a2, a3, a4⟩ := v1.list fh
    obtain ⟨v, h1, h2⟩ := at_of a4 e
    exact .inl ⟨p, xs, _, v, a1, v2.int, SqL.of a2, h1, k v F H (Ext.refl fh) h2⟩
  · obtain ⟨p, xs, a1, a2, a2', a3, a4⟩ := v1.tup fh
    obtain ⟨v, h1, h2⟩ := at_of a4 e
    exact .inr (.inl ⟨p, xs, _, v, a1, v2.int, SqT.of a2, h1, k v F H (Ext.refl fh) h2⟩)
  · obtain ⟨p, a1, a2⟩ := v1.dict fh
    rcases a2 with ⟨kvs, _, b2⟩ | ⟨kvs, _, b2⟩ | ⟨ns, b1, b2, b3⟩
    · obtain ⟨q, v, r, _, b, _⟩ := b2
      have b' : PyData.none = kD q := b.1
      cases q <;> cases b'
    · obtain ⟨q, v, r, _, b, _⟩ := b2
      have b' : PyData.none = .tuple (q.map kD) := b.1
      cases b'
    · simp only [List.cons.injEq, Prod.mk.injEq, PyData.list.injEq, true_and, and_true] at b1
      subst b1
      obtain ⟨v, h1, h2⟩ := at_of (Reps.ints (K := K) (F := F) ns) e
      exact .inl ⟨p, _, _, v, a1, v2.int, b2, h1, k v F H (Ext.refl fh) h2⟩
  · cases e
end
section
variable {ca : Xc → Addr} {X : Cx} {W : WX} {O : List Nat} {m : Md} {a b c e : Expr} {fa fb fc : EF} {pos : Pos} {es : List Expr}
theorem se_ix (ha : SE ca X W O .B a fa) (hb : SE ca X W O .B b fb) (hs : PlainIx b := by exact fun _ _ => by kernel_rfl) : SE ca X W O .E (.Subscript a b pos) (eOp2 ixD fa fb) := by
  obtain ⟨ta, pa, qa⟩ := ha
  obtain ⟨tb, pb, qb⟩ := hb
  exact ⟨_, pe_ix ix_seq pa pb hs, sim_op r_ix qa qb⟩
/-! ### slices -/
def SimO (K : PySem.W.Frag) (ca : Xc → Addr) (W : WX) (O : List Nat) (t : TO) (f : OF) : Prop := ∀ (B F0 F H : Hp) (σ : St) (env : Env) (Q : Option Int → Hp → Prop), SR K B F0 O F H σ env → f env ≠ .no →
  (∀ o, f env = .ok o → ∀ F' H', Ext F H F' H' → Q o H') → (∀ c, f env = .exc c → ∀ F' H', Ext F H F' H' → W (.ref (ca c)) none σ H') → t σ H Q
def SO (ca : Xc → Addr) (X : Cx) (W : WX) (O : List Nat) (e : Option Expr) (f : OF) : Prop := ∃ t, PO X e t ∧ SimO X.K ca W O t f
theorem so_none : SO ca X W O none oNone := ⟨_, po_none, fun B F0 F H σ env Q s n k x => k none rfl F H (Ext.refl s.fh)⟩
theorem so_some (h : SE ca X W O .E e fa) : SO ca X W O (some e) (oSome fa) := by
  obtain ⟨t, p, q⟩ := h
  refine ⟨_, po_some p, fun B F0 F H σ env Q s n k x => ?_⟩
  have n1 := bind_ne n
  refine q B F0 F H σ env _ s n1.1 (fun d h1 v F1 H1 e1 r1 => ?_) (fun c hc => x c (by show (fa env >>= _) = _; rw [hc]; rfl))
  have n2 := n1.2 d h1
  cases d <;> try (exact absurd rfl n2)
  rename_i i
  exact ⟨i, r1, k (some i) (by show (fa env >>= _) = _; rw [h1]; rfl) F1 H1 e1⟩
theorem cut_rep {K : PySem.W.Frag} {F : Hp} {ds : List D} {xs : List V} (lo hi : Option Int) (r : Reps K F ds xs) : Reps K F (cutD ds lo hi) (cutV xs lo hi) := by
  unfold cutD cutV
  rw [r.length]
  exact Reps.take _ (Reps.drop _ r)
theorem cutV_all {xs : List V} {lo hi : Option Int} (h : HT.sIx xs.length 0 lo = 0 ∧ HT.sIx xs.length xs.length hi = xs.length) : cutV xs lo hi = xs := by
  unfold cutV
  rw [h.1, h.2]
  simp
theorem cutD_all {xs : List D} {lo hi : Option Int} (h : HT.sIx xs.length 0 lo = 0 ∧ HT.sIx xs.length xs.length hi = xs.length) : cutD xs lo hi = xs := by
  unfold cutD
  rw [h.1, h.2]
  simp
/-- a[lo:hi], a list or a tuple; the new list is frozen -/
theorem se_slice {lo hi : Option Expr} {p2 : Pos} {fl fh' : OF} (ha : SE ca X W O .B a fa) (hl : SO ca X W O lo fl) (hh : SO ca X W O hi fh') : SE ca X W O .E (.Subscript a (.Slice lo hi none p2) pos) (eSlice fa fl fh') := by
  obtain ⟨ta, pa, qa⟩ := ha
  obtain ⟨tl, pl, ql⟩ := hl
  obtain ⟨th, ph, qh⟩ := hh
  refine ⟨_, pe_slice (SlR.or sl_list sl_tupA) pa pl ph, fun B F0 F H σ env Q s n k x => ?_⟩
  have n1 := bind_ne n
  refine qa B F0 F H σ env _ s n1.1 (fun d h1 v F1 H1 e1 r1 => ?_) (fun c hc => x c (by show (fa env >>= _) = _; rw [hc]; rfl))
  have n2 := bind_ne (n1.2 d h1)
  refine ql B F0 F1 H1 σ env _ (s.step e1) n2.1 (fun l h2 F2 H2 e2 => ?_) (fun c hc F2 H2 e2 => x c (by show (fa env >>= _) = _; rw [h1, ok_bind, hc]; rfl) F2 H2 (e1.trans e2))
  have n3 := bind_ne (n2.2 l h2)
  refine qh B F0 F2 H2 σ env _ (s.step (e1.trans e2)) n3.1 (fun u h3 F3 H3 e3 => ?_) (fun c hc F3 H3 e3 => x c (by show (fa env >>= _) = _; rw [h1, ok_bind, h2, ok_bind, hc]; rfl) F3 H3 ((e1.trans e2).trans e3))
  obtain ⟨z, hz⟩ := quiet_ne (n3.2 u h3)
  have e13 := (e1.trans e2).trans e3
  have ee : eSlice fa fl fh' env = .ok z := by
    show (fa env >>= _) = _
    rw [h1, ok_bind, h2, ok_bind, h3, ok_bind, hz]
    rfl
  have r3 : View X.K F3 H3 d v := View.mono (e2.ff.trans e3.ff) (e2.hh.trans e3.hh) r1
  cases d <;> try (cases hz; done)
  · obtain ⟨p, xs, a1, a2, a3, a4⟩ := r3.list e13.fh
    cases hz
    exact .inl ⟨p, xs, a1, SqL.of a2, fun r hr => fz_new e13.fh hr (Nat.le_trans (cutV_length xs l u) a3) (cut_rep l u a4) fun v F' H' e' => k _ ee v F' H' (e13.trans e')⟩
  · obtain ⟨p, xs, a1, a2, a2', a3, a4⟩ := r3.tup e13.fh
    cases hz
    refine .inr ⟨p, xs, a1, SqT.of a2, fun hw => k _ ee _ F3 H3 e13 ?_, fun _ r hr => fz_newT e13.fh hr (Nat.le_trans (cutV_length xs l u) a3) (cut_rep l u a4) fun v F' H' e' => k _ ee v F' H' (e13.trans e')⟩
    have hw' := hw
    rw [a4.length] at hw'
    show Rep X.K F3 (.tuple (cutD _ l u)) (.ref p)
    rw [cutD_all hw']
    exact ⟨p, xs, rfl, a2', a3, a4⟩
/-! ### built-ins -/
theorem views1 {K : PySem.W.Frag} {F H : Hp} {d : D} {vs : List V} (h : Views K F H [d] vs) : ∃ v, vs = [v] ∧ View K F H d v := by
  obtain ⟨v, r, a, b, c⟩ := h
  have c' : r = [] := c
  subst c' a
  exact ⟨v, rfl, b⟩
theorem views2 {K : PySem.W.Frag} {F H : Hp} {d e : D} {vs : List V} (h : Views K F H [d, e] vs) : ∃ v w, vs = [v, w] ∧ View K F H d v ∧ View K F H e w := by
  obtain ⟨v, r, a, b, c⟩ := h
  obtain ⟨w, r2, a2, b2, c2⟩ := c
  have c' : r2 = [] := c2
  subst c' a2 a
  exact ⟨v, w, rfl, b, b2⟩
theorem c_len {K : PySem.W.Frag} : SimC K .E (fun xs H Q => ∃ p ys, xs = [V.ref p] ∧ (SqL K H p ys ∨ SqT K H p ys) ∧ Q (.int ys.length) H) lenD := fun F H vs ds z Q fh v e k => by
  unfold lenD at e
  split at e
  · obtain ⟨v1, rfl, w⟩ := views1 v
    obtain ⟨p, xs, a1, a2, a3, a4⟩ := w.list fh
    cases e
    subst a1
    exact ⟨p, xs, rfl, .inl (SqL.of a2), k _ F H (Ext.refl fh) (by rw [a4.length]; rfl)⟩
  · obtain ⟨v1, rfl, w⟩ := views1 v
    obtain ⟨p, xs, a1, a2, a2', a3, a4⟩ := w.tup fh
    cases e
    subst a1
    exact ⟨p, xs, rfl, .inr (SqT.of a2), k _ F H (Ext.refl fh) (by rw [a4.length]; rfl)⟩
  · obtain ⟨v1, rfl, w⟩ := views1 v
    obtain ⟨p, a1, a2⟩ := w.dict fh
    cases e
    subst a1
    rcases a2 with ⟨kvs, _, b2⟩ | ⟨kvs, _, b2⟩ | ⟨ns, b1, b2, b3⟩
    · obtain ⟨q, v, r, _, b, _⟩ := b2
      have b' : PyData.none = kD q := b.1
      cases q <;> cases b'
    · obtain ⟨q, v, r, _, b, _⟩ := b2
      have b' : PyData.none = .tuple (q.map kD) := b.1
      cases b'
    · simp only [List.cons.injEq, Prod.mk.injEq, PyData.list.injEq, true_and, and_true] at b1
      subst b1
      refine ⟨p, _, rfl, .inl b2, k _ F H (Ext.refl fh) ?_⟩
      show V.int _ = V.int _
      rw [List.length_map, List.length_map]
  · cases e
theorem c_min2 {K : PySem.W.Frag} : SimC K .E (fun xs H Q => ∃ i j, xs = [V.int i, V.int j] ∧ Q (.int (if j < i then j else i)) H) min2D := fun F H vs ds z Q fh v e k => by
  unfold min2D at e
  split at e
  · obtain ⟨v1, v2, rfl, w1, w2⟩ := views2 v
    cases e
    rw [w1.int, w2.int]
    exact ⟨_, _, rfl, k _ F H (Ext.refl fh) rfl⟩
  · cases e
theorem c_max2 {K : PySem.W.Frag} : SimC K .E (fun xs H Q => ∃ i j, xs = [V.int i, V.int j] ∧ Q (.int (if j > i then j else i)) H) max2D := fun F H vs ds z Q fh v e k => by
  unfold max2D at e
  split at e
  · obtain ⟨v1, v2, rfl, w1, w2⟩ := views2 v
    cases e
    rw [w1.int, w2.int]
    exact ⟨_, _, rfl, k _ F H (Ext.refl fh) rfl⟩
  · cases e
theorem c_abs {K : PySem.W.Frag} : SimC K .E (fun xs H Q => ∃ i, xs = [V.int i] ∧ Q (.int (if i < 0 then -i else i)) H) absD := fun F H vs ds z Q fh v e k => by
  unfold absD at e
  split at e
  · obtain ⟨v1, rfl, w⟩ := views1 v
    cases e
    rw [w.int]
    exact ⟨_, rfl, k _ F H (Ext.refl fh) rfl⟩
  · cases e
theorem c_tuple {K : PySem.W.Frag} : SimC K .E (fun xs H Q => ∃ p ys, xs = [V.ref p] ∧ ((SqL K H p ys ∧ ∀ l, H l = none → Q (.ref l) (upd H l (.tup ys))) ∨ (SqT K H p ys ∧ Q (.ref p) H))) tupleD := fun F H vs ds z Q fh v e k => by
  unfold tupleD at e
  split at e
  · obtain ⟨v1, rfl, w⟩ := views1 v
    obtain ⟨p, xs, a1, a2, a3, a4⟩ := w.list fh
    cases e
    subst a1
    exact ⟨p, xs, rfl, .inl ⟨SqL.of a2, fun l hl => fz_newT fh hl a3 a4 k⟩⟩
  · obtain ⟨v1, rfl, w⟩ := views1 v
    obtain ⟨p, xs, a1, a2, a2', a3, a4⟩ := w.tup fh
    cases e
    subst a1
    exact ⟨p, xs, rfl, .inr ⟨SqT.of a2, k _ F H (Ext.refl fh) ⟨p, xs, rfl, a2', a3, a4⟩⟩⟩
  · cases e
theorem own_new {K : PySem.W.Frag} {F H : Hp} {p : Addr} {xs : List V} {ds : List D} {Q : VK} (fh : Ex F H) (hp : H p = none) (hz : xs.length ≤ sizeLine) (r : Reps K F ds xs) (k : ∀ v F' H', Ext F H F' H' → MdOk K H F' H' .O (.list ds) v → Q v H') : Q (.ref p) (upd H p (.lst xs)) :=
  k _ F _ (Ext.own fh hp) ⟨p, _, rfl, hp, fh.back hp, upd_same, hz, r⟩
theorem c_list {K : PySem.W.Frag} : SimC K .O (fun xs H Q => ∃ p ys, xs = [V.ref p] ∧ (SqL K H p ys ∨ SqT K H p ys) ∧ ∀ l, H l = none → Q (.ref l) (upd H l (.lst ys))) listD := fun F H vs ds z Q fh v e k => by
  unfold listD at e
  split at e
  · obtain ⟨v1, rfl, w⟩ := views1 v
    obtain ⟨p, xs, a1, a2, a3, a4⟩ := w.list fh
    cases e
    subst a1
    exact ⟨p, xs, rfl, .inl (SqL.of a2), fun l hl => own_new fh hl a3 a4 k⟩
  · obtain ⟨v1, rfl, w⟩ := views1 v
    obtain ⟨p, xs, a1, a2, a2', a3, a4⟩ := w.tup fh
    cases e
    subst a1
    exact ⟨p, xs, rfl, .inr (SqT.of a2), fun l hl => own_new fh hl a3 a4 k⟩
  · cases e
theorem c_sum {K : PySem.W.Frag} : SimC K .E (rSum K) sumD := fun F H vs ds z Q fh v e k => by
  unfold sumD at e
  split at e
  · obtain ⟨v1, rfl, w⟩ := views1 v
    obtain ⟨p, xs, a1, a2, a3, a4⟩ := w.list fh
    split at e
    · rename_i ns hn
      cases e
      have := intsD_eq hn
      subst this
      have := a4.of_ints
      subst this a1
      exact ⟨p, ns, rfl, SqL.of a2, k _ F H (Ext.refl fh) rfl⟩
    · cases e
  · cases e
theorem maxI_mem : ∀ (n : Int) (ns : List Int), maxI (n :: ns) ∈ n :: ns
  | n, [] => List.mem_cons_self
  | n, m :: r => by
    show max n (maxI (m :: r)) ∈ _
    have := maxI_mem m r
    by_cases h : n ≤ maxI (m :: r)
    · rw [Int.max_eq_right h]; exact List.mem_cons_of_mem _ this
    · rw [Int.max_eq_left (by omega)]; exact List.mem_cons_self
theorem maxI_le : ∀ (n : Int) (ns : List Int), ∀ y ∈ n :: ns, y ≤ maxI (n :: ns)
  | n, [], y, h => by
    rcases List.mem_cons.mp h with q | q
    · rw [q]; exact Int.le_refl _
    · cases q
  | n, m :: r, y, h => by
    show y ≤ max n (maxI (m :: r))
    rcases List.mem_cons.mp h with q | q
    · rw [q]; exact Int.le_max_left _ _
    · exact Int.le_trans (maxI_le m r y q) (Int.le_max_right _ _)
theorem c_max {K : PySem.W.Frag} : SimC K .E (rMax K) maxD := fun F H vs ds z Q fh v e k => by
  unfold maxD at e
  split at e
  · obtain ⟨v1, rfl, w⟩ := views1 v
    obtain ⟨p, xs, a1, a2, a3, a4⟩ := w.list fh
    split at e
    · rename_i n ns hn
      cases e
      have := intsD_eq hn
      subst this
      have := a4.of_ints
      subst this a1
      refine ⟨p, n :: ns, rfl, SqL.of a2, Nat.succ_pos _, fun m hm hle => ?_⟩
      have e : m = maxI (n :: ns) := Int.le_antisymm (maxI_le n ns m hm) (hle _ (maxI_mem n ns))
      rw [e]
      exact k _ F H (Ext.refl fh) rfl
    · cases e
  · cases e
/-! ### isinstance -/
theorem kb (a b : String) (r : Bool) (h : kitB a b = some r) {K : PySem.W.Frag} : PySem.W.kitOne K (.type a) (.type b) = some r := kit_ty h
def Isi (T : String) : Prop := kitB "NoneType" T = some false ∧ kitB "bool" T = some (T == "bool" || T == "int") ∧ kitB "int" T = some (T == "int") ∧ kitB "str" T = some (T == "str") ∧ kitB "list" T = some (T == "list") ∧ kitB "tuple" T = some (T == "tuple")
theorem isi_int : Isi "int" := by unfold Isi; decide +kernel
theorem isi_bool : Isi "bool" := by unfold Isi; decide +kernel
theorem isi_tuple : Isi "tuple" := by unfold Isi; decide +kernel
theorem isi_list : Isi "list" := by unfold Isi; decide +kernel
theorem isi_str : Isi "str" := by unfold Isi; decide +kernel
theorem se_isi {T : String} {x : Str} {p p2 : Pos} (hT : Isi T) (hm : X.mg "isinstance" = none) (hx : X.mg x = none) (hv : bootBuiltins x = some (.type T)) (ha : SE ca X W O .B a fa) (hg : Gl X "isinstance") (hgx : Gl X x) (hn : x ≠ "__name__" := by decide) (hd : (x == ("__debug__" : Str)) = false := by kernel_rfl)
    (h1 : starEach [a, .Name x p2] X.env = (false, eval a X.env) :: starEach [.Name x p2] X.env := by kernel_rfl) (h2 : starEach [Expr.Name x p2] X.env = [(false, eval (.Name x p2) X.env)] := by kernel_rfl) (hpl : (backTo pos (starEach [Expr.Name x p2] X.env)).any (·.1) = false := by kernel_rfl) :
    SE ca X W O .E (.Call (.Name "isinstance" p) [a, .Name x p2] [] pos) (eOp1 (isiD T) fa) := by
  obtain ⟨ta, pa, qa⟩ := ha
  refine ⟨_, pe_callB call_isi hg hm (by decide +kernel) (pa_cons pa (pa_cons (pe_bltn hgx hx hv (v := .ty T) rfl hn hd) pa_nil h2) h1) (by decide) (by decide) h1 hpl, fun B F0 F H σ env Q s n k x => ?_⟩
  have n1 := bind_ne n
  refine qa B F0 F H σ env _ s n1.1 (fun d h1 v F1 H1 e1 r1 => ?_) (fun c hc => x c (by show (fa env >>= _) = _; rw [hc]; rfl))
  obtain ⟨z, hz⟩ := quiet_ne (n1.2 d h1)
  have ee : eOp1 (isiD T) fa env = .ok z := by
    show (fa env >>= _) = _
    rw [h1, ok_bind, hz]
    rfl
  have r : View X.K F1 H1 d v := r1
  obtain ⟨t0, t1, t2, t3, t4, t5⟩ := hT
  cases d with
  | none => cases hz; rw [r.none]; exact ⟨_, _, _, _, _, rfl, .ty T, .base .non, kit_ty t0, k _ ee _ F1 H1 e1 rfl⟩
  | bool b => cases hz; rw [r.bool]; exact ⟨_, _, _, _, _, rfl, .ty T, .base (.bl b), kit_ty t1, k _ ee _ F1 H1 e1 rfl⟩
  | int b => cases hz; rw [r.int]; exact ⟨_, _, _, _, _, rfl, .ty T, .base (.int b), kit_ty t2, k _ ee _ F1 H1 e1 rfl⟩
  | str b => cases hz; rw [r.str]; exact ⟨_, _, _, _, _, rfl, .ty T, .base (.str b), kit_ty t3, k _ ee _ F1 H1 e1 rfl⟩
  | list b => obtain ⟨p, xs, a1, a2, _⟩ := r.list e1.fh; cases hz; rw [a1]; exact ⟨_, _, _, _, _, rfl, .ty T, .base (.lst a2), kit_ty t4, k _ ee _ F1 H1 e1 rfl⟩
  | tuple b => obtain ⟨p, xs, a1, a2, _⟩ := r.tup e1.fh; cases hz; rw [a1]; exact ⟨_, _, _, _, _, rfl, .ty T, .base (.tup a2), kit_ty t5, k _ ee _ F1 H1 e1 rfl⟩
  | dict b => cases hz
end
end Rt
/-! Sim7: zip and enumerate of lists and tuples in any mix. -/
namespace Rt
open PySem L2
inductive Kd where | l | t
def IterAt : Kd → Heap → Addr → Addr → Nat → Prop
  | .l, h, it, a, i => h.IsListIter it a i
  | .t, h, it, a, i => h.IsTupleIter it a i
def HoldAt : Kd → Heap → Addr → Array Value → Prop
  | .l, h, a, xs => h.IsList a xs
  | .t, h, a, xs => h.IsTuple a xs
def SqK (K : PySem.W.Frag) : Kd → Hp → Addr → List V → Prop
  | .l, H, a, xs => SqL K H a xs
  | .t, H, a, xs => SqT K H a xs
def itObj : Kd → Addr → Obj
  | .l, a => { cls := .type "list_iterator", data := .fields #[.ref a, .int 0 0] }
  | .t, a => { cls := .type "tuple_iterator", data := .fields #[.ref a, .int 0 0] }
theorem draws_k {prog : Program} {w : World} {A : Around} (hh : A.handled = none) (k : Kd) (it a : Addr) (hne : a ≠ it) (items : Array Value) :
    Draws prog w A it [it, a] items.size (fun i v => items[i]? = some v) (fun i h => IterAt k h it a i ∧ HoldAt k h a items) := by
  cases k with
  | l => exact Draws.list hh it a hne items
  | t => exact Draws.tuple hh it a hne items
theorem begins_k (k : Kd) (a : Addr) (items : Array Value) : Begins (.ref a) (itObj k a) fun h => HoldAt k h a items := by
  cases k with
  | l => exact begins_list a items
  | t => exact begins_tuple a items
theorem iter0_k (k : Kd) {h : Heap} {it a : Addr} (e : h.get? it = some (itObj k a)) : IterAt k h it a 0 := by
  cases k with
  | l => exact ⟨_, e, rfl, rfl⟩
  | t => exact ⟨_, e, rfl, rfl⟩
theorem IterAt.there {k : Kd} {h : Heap} {it a : Addr} {i : Nat} (x : IterAt k h it a i) : ∃ o, h.get? it = some o ∧ ∀ v, o.data ≠ .cell v := by
  cases k with
  | l => obtain ⟨o, e, _, d⟩ := x; exact ⟨o, e, fun v z => by rw [d] at z; cases z⟩
  | t => obtain ⟨o, e, _, d⟩ := x; exact ⟨o, e, fun v z => by rw [d] at z; cases z⟩
theorem IterAt.keep {k : Kd} {h h' : Heap} {it a : Addr} {i : Nat} (x : IterAt k h it a i) (y : ∀ o, h.get? it = some o → h'.get? it = some o) : IterAt k h' it a i := by
  cases k with
  | l => obtain ⟨o, e, c⟩ := x; exact ⟨o, y o e, c⟩
  | t => obtain ⟨o, e, c⟩ := x; exact ⟨o, y o e, c⟩
section
variable {X : Cx} {pins : List (Addr × Obj)} {σ : St} {H : Hp} {s : Shared}
theorem inv_k (I : Inv X pins σ H s) {k : Kd} {a : Addr} {xs : List V} (h : SqK X.K k H a xs) : ∃ its : List Value, Vals xs its ∧ HoldAt k s.heap a its.toArray ∧ a < s.heap.objs.size := by
  cases k with
  | l => obtain ⟨its, rv, p, _⟩ := I.list h; exact ⟨its, rv, p.isList, p.lt⟩
  | t => obtain ⟨its, rv, p, _⟩ := I.tuple h; exact ⟨its, rv, p, p.lt⟩
theorem inj_k (I : Inv X pins σ H s) {k : Kd} {a : Addr} {xs ys : List V} (h : SqK X.K k H a xs) (h' : SqK X.K k H a ys) : xs = ys := by
  cases k with
  | l => exact I.list_inj h h'
  | t => exact I.tuple_inj h h'
end
def ItzM (K : PySem.W.Frag) (k1 k2 : Kd) (a b : Addr) : It :=
  ⟨fun i H => ∃ (xs ys : List V) (x y : V), SqK K k1 H a xs ∧ SqK K k2 H b ys ∧ xs[i]? = some x ∧ ys[i]? = some y,
    fun i H v H' => ∃ T x y, v = .ref T ∧ H T = none ∧ H' = upd H T (.tup [x, y]) ∧ (∀ xs, SqK K k1 H a xs → xs[i]? = some x) ∧ ∀ ys, SqK K k2 H b ys → ys[i]? = some y,
    fun i H => ∃ xs ys : List V, SqK K k1 H a xs ∧ SqK K k2 H b ys ∧ i = min xs.length ys.length⟩
theorem turn_zipM {P : Program} {w : World} {K : PySem.W.Frag} {elts : List Expr} {kk : Nat} {tpos : Pos} {a b z TI TO i1 i2 : Addr} {k1 k2 : Kd} (S : ZipSep2 z TI TO i1 i2 [i1, a] [i2, b]) (ha : a ≠ i1) (hb : b ≠ i2) :
    Turn P w K (.Tuple elts kk tpos) (ItzM K k1 k2 a b) [z, TI, TO, i1, i2] z (fun i h => IsZip h z TI TO .none ∧ IsTupOf2 h TI (.ref i1) (.ref i2) ∧ (∃ x y, IsTupOf2 h TO x y) ∧ IterAt k1 h i1 a i ∧ IterAt k2 h i2 b i) where
  mem := by simp
  obj := fun i h st c hc => by
    obtain ⟨hz, hTI, ⟨x, y, hTO⟩, h1, h2⟩ := st
    simp only [List.mem_cons, List.not_mem_nil, or_false] at hc
    rcases hc with q | q | q | q | q <;> subst q
    · exact ⟨_, hz, fun v q => by cases q⟩
    · exact ⟨_, hTI, fun v q => by cases q⟩
    · exact ⟨_, hTO, fun v q => by cases q⟩
    · exact h1.there
    · exact h2.there
  keep := fun i h h' st k => by
    obtain ⟨hz, hTI, ⟨x, y, hTO⟩, h1, h2⟩ := st
    exact ⟨k z (by simp) _ hz, k TI (by simp) _ hTI, ⟨x, y, k TO (by simp) _ hTO⟩, h1.keep fun o q => k i1 (by simp) o q, h2.keep fun o q => k i2 (by simp) o q⟩
  item := by
    intro X hP hw hK hc i pins s σ H E I hf st hg
    subst hP hw hK
    obtain ⟨hz, hTI, hTO, h1, h2⟩ := st
    obtain ⟨xs, ys, x, y, hqx, hqy, hx, hy⟩ := hg
    obtain ⟨its, rv, p, _⟩ := inv_k I hqx
    obtain ⟨its2, rv2, p2, _⟩ := inv_k I hqy
    obtain ⟨u, hu, ru⟩ := rv.get hx
    obtain ⟨u2, hu2, ru2⟩ := rv2.get hy
    have hh : X.A.in1.handled = none := I.ok.hd hc
    have li : i < min its.toArray.size its2.toArray.size := by
      have q1 := (List.getElem?_eq_some_iff.mp hu).1
      have q2 := (List.getElem?_eq_some_iff.mp hu2).1
      simp only [List.size_toArray]
      omega
    refine (GoesN.zip2 S (draws_k hh k1 i1 a ha its.toArray) (draws_k hh k2 i2 b hb its2.toArray)).goes i s _ E li ⟨hz, hTI, hTO, ⟨h1, p⟩, h2, p2⟩ fun v h' tk hY st' hk _ => ?_
    obtain ⟨T, x', y', rfl, hT, e1, e2, hT2⟩ := hY
    have e1' : x' = u := by
      have q : its.toArray[i]? = its[i]? := by simp
      rw [q, hu] at e1
      cases e1
      rfl
    have e2' : y' = u2 := by
      have q : its2.toArray[i]? = its2[i]? := by simp
      rw [q, hu2] at e2
      cases e2
      rfl
    subst e1' e2'
    have new : ObjOk X.prog X.w (upd H T (.tup [x, y])) h' T (.tup [x, y]) := ⟨by show 2 ≤ sizeLine; decide, [_, _], .cons ru (.cons ru2 .nil), hT2⟩
    have I1 : Inv X pins σ (upd H T (.tup [x, y])) { s with heap := h', toks := tk } := I.turnedNew (t' := tk) (ch := [z, TI, TO, i1, i2]) (fun c o hb q => hk c o (fun z => hb (by
      simp only [List.mem_cons, List.not_mem_nil, or_false] at z ⊢
      rcases z with z | z | z | z
      · exact .inl z
      · exact .inr (.inr (.inl z))
      · exact .inr (.inr (.inr (.inl z)))
      · exact .inr (.inr (.inr (.inr z))))) q) hf hT new
    refine ⟨.ref T, _, I1, rfl, ⟨T, x, y, rfl, I.hok.fresh hT, rfl, fun l hl => by rw [inj_k I hl hqx]; exact hx, fun l hl => by rw [inj_k I hl hqy]; exact hy⟩, ⟨st'.1, st'.2.1, st'.2.2.1, st'.2.2.2.1.1, st'.2.2.2.2.1⟩, fun c hcm => ?_⟩
    rw [upd_ne]
    · exact (hf c hcm).1
    · intro q
      subst q
      have lt : c < s.heap.objs.size := by
        simp only [List.mem_cons, List.not_mem_nil, or_false] at hcm
        obtain ⟨_, _, hTO⟩ := hTO
        rcases hcm with q | q | q | q | q <;> subst q
        · exact Heap.lt_size hz
        · exact Heap.lt_size hTI
        · exact Heap.lt_size hTO
        · obtain ⟨_, e, _⟩ := h1.there; exact Heap.lt_size e
        · obtain ⟨_, e, _⟩ := h2.there; exact Heap.lt_size e
      exact absurd lt (Nat.not_lt.mpr hT)
  done := by
    intro X hP hw hK hc i pins s σ H E I hf st hg
    subst hP hw hK
    obtain ⟨hz, hTI, hTO, h1, h2⟩ := st
    obtain ⟨xs, ys, hqx, hqy, hend⟩ := hg
    obtain ⟨its, rv, p, _⟩ := inv_k I hqx
    obtain ⟨its2, rv2, p2, _⟩ := inv_k I hqy
    have hh : X.A.in1.handled = none := I.ok.hd hc
    have en : i = min its.toArray.size its2.toArray.size := by
      rw [hend, rv.length, rv2.length]
      simp
    subst en
    refine (GoesN.zip2 (elts := elts) (x1 := kk) (pos := tpos) S (draws_k hh k1 i1 a ha its.toArray) (draws_k hh k2 i2 b hb its2.toArray)).stops s _ E ⟨hz, hTI, hTO, ⟨h1, p⟩, h2, p2⟩ fun h' tk hk _ => ?_
    exact I.turnedL (t' := tk) (ch := [z, TI, TO, i1, i2]) (fun c o hb q => hk c o (fun z => hb (by
      simp only [List.mem_cons, List.not_mem_nil, or_false] at z ⊢
      rcases z with z | z | z | z
      · exact .inl z
      · exact .inr (.inr (.inl z))
      · exact .inr (.inr (.inr (.inl z)))
      · exact .inr (.inr (.inr (.inr z))))) q) hf
  self := fun A i s Q E st h => wpAny_pyIter_zip st.1 h
section
variable {ca : Xc → Addr} {X : Cx} {W : WX} {O : List Nat} {m : Md} {a b c e : Expr} {fa fb fc : EF} {pos : Pos} {es : List Expr}
def tiZip (K : PySem.W.Frag) (ta : TA) : TI := fun σ H R => ta σ H fun vs H2 => ∃ p q k1 k2 xs ys, vs = [.ref p, .ref q] ∧ SqK K k1 H2 p xs ∧ SqK K k2 H2 q ys ∧ R (ItzM K k1 k2 p q) H2
theorem pi_zipM {ta : TA} {p tpos : Pos} {elts : List Expr} {kk : Nat} (hg : Gl X "zip") (hm : X.mg "zip" = none) (hp : PA X [a, b] ta) (hs : starEach [a, b] X.env = (false, eval a X.env) :: starEach [b] X.env)
    (hpl : (backTo pos (starEach [b] X.env)).any (·.1) = false) : PI X (.Tuple elts kk tpos) (.Call (.Name "zip" p) [a, b] [] pos) (tiZip X.K ta) := by
  refine ⟨fun pins s σ H R I h => ?_⟩
  refine PyProof.Rows.Call_ (ld_blt I hg hm PyProof.Rows.boot_zip (PyProof.Rows.callWith_type1 (thn (hp.run pos pins s σ H _ I h) fun us s1 ⟨vs, H1, I1, r1, q1⟩ => ?_) hs hpl))
  obtain ⟨p, q, k1, k2, xs, ys, ex, hqx, hqy, q1⟩ := q1
  subst ex
  obtain ⟨u1, u2, rfl, ru1, ru2⟩ := r1.two
  cases ru1
  cases ru2
  obtain ⟨its, rv, hp1, l1⟩ := inv_k I1 hqx
  obtain ⟨its2, rv2, hp2, l2⟩ := inv_k I1 hqy
  refine zip_begins2 (begins_k k1 p its.toArray) (begins_k k2 q its2.toArray) hp1 hp2 fun h' hz hTI hTO h1 h2 hsz hk => wpAny_pyIter_zip hz ?_
  have sep : ZipSep2 (s1.heap.objs.size + 4) (s1.heap.objs.size + 2) (s1.heap.objs.size + 3) s1.heap.objs.size (s1.heap.objs.size + 1) [s1.heap.objs.size, p] [s1.heap.objs.size + 1, q] :=
    zip_sep2 (N := s1.heap.objs.size) (fp1 := [p]) (fp2 := [q]) (fun b hb => by rw [List.mem_singleton.mp hb]; exact l1) (fun b hb => by rw [List.mem_singleton.mp hb]; exact l2)
  refine ⟨s1.heap.objs.size + 4, [s1.heap.objs.size + 4, s1.heap.objs.size + 2, s1.heap.objs.size + 3, s1.heap.objs.size, s1.heap.objs.size + 1], _, _, H1, rfl, I1.kept (t' := s1.toks) hk, turn_zipM sep (Nat.ne_of_lt l1) (Nat.ne_of_lt (Nat.lt_succ_of_lt l2)), ⟨hz, hTI, ⟨_, _, hTO⟩, iter0_k k1 h1, iter0_k k2 h2⟩, fun c hcm => ?_, q1⟩
  have hle : s1.heap.objs.size ≤ c := by
    simp only [List.mem_cons, List.not_mem_nil, or_false] at hcm
    rcases hcm with z | z | z | z | z <;> (rw [z]; first | exact Nat.le_refl _ | exact Nat.le_add_right _ _)
  exact I1.fpOk hle (I1.hok.fresh hle)
theorem seq_view {K : PySem.W.Frag} {F H : Hp} {d : D} {v : V} {ds : List D} (fh : Ex F H) (h : View K F H d v) (e : seqOf d = .ok ds) : ∃ p k xs, v = .ref p ∧ SqK K k H p xs ∧ (∀ H', Ex H H' → SqK K k H' p xs) ∧ xs.length ≤ sizeLine ∧ Reps K F ds xs := by
  unfold seqOf at e
  split at e
  · cases e
    obtain ⟨p, xs, a1, a2, a3, a4⟩ := h.list fh
    exact ⟨p, .l, xs, a1, SqL.of a2, fun H' x => SqL.of (x _ _ a2), a3, a4⟩
  · cases e
    obtain ⟨p, xs, a1, a2, a2', a3, a4⟩ := h.tup fh
    exact ⟨p, .t, xs, a1, SqT.of a2, fun H' x => SqT.of (x _ _ a2), a3, a4⟩
  · cases e
theorem seq_rep {K : PySem.W.Frag} {F : Hp} {d : D} {v : V} {ds : List D} (h : Rep K F d v) (e : seqOf d = .ok ds) : ∃ p k xs, v = .ref p ∧ (∀ H', Ex F H' → SqK K k H' p xs) ∧ xs.length ≤ sizeLine ∧ Reps K F ds xs := by
  unfold seqOf at e
  split at e
  · cases e
    obtain ⟨p, xs, a1, a2, a3, a4⟩ := h
    exact ⟨p, .l, xs, a1, fun H' x => SqL.of (x _ _ a2), a3, a4⟩
  · cases e
    obtain ⟨p, xs, a1, a2, a3, a4⟩ := h
    exact ⟨p, .t, xs, a1, fun H' x => SqT.of (x _ _ a2), a3, a4⟩
  · cases e
theorem zip_len2 (xs ys : List D) : (zipL xs ys).length = min xs.length ys.length := by
  unfold zipL
  rw [List.length_zipWith]
theorem walk_zipM {K : PySem.W.Frag} {k1 k2 : Kd} {p q : Addr} {xs ys : List V} {ds es : List D} {F H1 : Hp} (i : Nat) (hi : i ≤ (zipL ds es).length) (h : SqK K k1 H1 p xs) (h' : SqK K k2 H1 q ys) (c : Reps K F ds xs) (c' : Reps K F es ys) (F1 : Hp) (x1 : Ex F F1) (x2 : Ex F1 H1) :
    (∀ d, (zipL ds es)[i]? = some d → (ItzM K k1 k2 p q).go i H1 ∧ ∀ x H2, (ItzM K k1 k2 p q).yld i H1 x H2 → ∃ F2, Ext F1 H1 F2 H2 ∧ Rep K F2 d x) ∧ ((zipL ds es)[i]? = none → (ItzM K k1 k2 p q).stop i H1) := by
  refine ⟨fun d hd => ?_, fun hd => ⟨xs, ys, h, h', ?_⟩⟩
  · rw [zip_get] at hd
    cases hx : ds[i]? with
    | none => rw [hx] at hd; cases hd
    | some d1 =>
      cases hy : es[i]? with
      | none => rw [hx, hy] at hd; cases hd
      | some d2 =>
        rw [hx, hy] at hd
        cases hd
        obtain ⟨x, gx, rx⟩ := c.gets hx
        obtain ⟨y, gy, ry⟩ := c'.gets hy
        refine ⟨⟨xs, ys, x, y, h, h', gx, gy⟩, fun v H2 hv => ?_⟩
        obtain ⟨T, x', y', e1, hT, e2, f1, f2⟩ := hv
        have g1 := f1 xs h
        have g2 := f2 ys h'
        rw [gx] at g1
        rw [gy] at g2
        cases g1
        cases g2
        subst e1 e2
        exact rep_pair x2 hT (rx.mono x1) (ry.mono x1)
  · have l := List.getElem?_eq_none_iff.mp hd
    rw [zip_len2] at l hi
    rw [c.length, c'.length]
    omega
theorem si_zip {p tpos : Pos} {elts : List Expr} {kk : Nat} (hm : X.mg "zip" = none) (ha : SE ca X W O .E a fa) (hb : SE ca X W O .E b fb) (hg : Gl X "zip") (hs : starEach [a, b] X.env = (false, eval a X.env) :: starEach [b] X.env := by kernel_rfl) (hs2 : starEach [b] X.env = [(false, eval b X.env)] := by kernel_rfl)
    (hpl : (backTo pos (starEach [b] X.env)).any (·.1) = false := by kernel_rfl) : SI ca X W O .E (.Tuple elts kk tpos) (.Call (.Name "zip" p) [a, b] [] pos) (iZip fa fb) := by
  obtain ⟨ta, pa, qa⟩ := ha
  obtain ⟨tb, pb, qb⟩ := hb
  refine ⟨_, pi_zipM hg hm (pa_cons pa (pa_cons pb pa_nil hs2) hs) hs hpl, fun B F0 F H σ env Q s n k x => ?_⟩
  refine sim_two qa qb (g := fun d e => seqOf d >>= fun xs => seqOf e >>= fun ys => R.ok (zipL xs ys)) s n x fun d1 d2 h1 h2 n2 ee v1 v2 F1 H1 F2 H2 e1 r1 e2 r2 => ?_
  have m1 := bind_ne n2
  cases w1 : seqOf d1 with
  | no => exact absurd w1 m1.1
  | exc c => unfold seqOf at w1; split at w1 <;> cases w1
  | ok ds =>
    have m2 := bind_ne (m1.2 ds w1)
    cases w2 : seqOf d2 with
    | no => exact absurd w2 m2.1
    | exc c => unfold seqOf at w2; split at w2 <;> cases w2
    | ok es =>
      obtain ⟨p1, k1, xs, a1, a2, a3, a4⟩ := seq_rep (Rep.mono e2.ff _ _ r1) w1
      obtain ⟨p2, k2, ys, b1, b2, b3, b4⟩ := seq_rep r2 w2
      subst a1 b1
      refine ⟨p1, p2, k1, k2, xs, ys, rfl, a2 _ e2.fh, b2 _ e2.fh, k _ (ee.trans (by rw [w1, ok_bind, w2]; rfl)) _ F2 H2 (e1.trans e2) ⟨?_, fun i F3 H3 hi x1 x2 => walk_zipM i hi (a2 _ (x1.trans x2)) (b2 _ (x1.trans x2)) a4 b4 F3 x1 x2⟩⟩
      have := zip_len2 ds es
      rw [← a4.length] at this
      omega
theorem si_zipB {p tpos : Pos} {elts : List Expr} {kk : Nat} (hm : X.mg "zip" = none) (ha : SE ca X W O .B a fa) (hb : SE ca X W O .B b fb) (hg : Gl X "zip") (hs : starEach [a, b] X.env = (false, eval a X.env) :: starEach [b] X.env := by kernel_rfl) (hs2 : starEach [b] X.env = [(false, eval b X.env)] := by kernel_rfl)
    (hpl : (backTo pos (starEach [b] X.env)).any (·.1) = false := by kernel_rfl) : SI ca X W O .B (.Tuple elts kk tpos) (.Call (.Name "zip" p) [a, b] [] pos) (iZip fa fb) := by
  obtain ⟨ta, pa, qa⟩ := ha
  obtain ⟨tb, pb, qb⟩ := hb
  refine ⟨_, pi_zipM hg hm (pa_cons pa (pa_cons pb pa_nil hs2) hs) hs hpl, fun B F0 F H σ env Q s n k x => ?_⟩
  refine sim_two qa qb (g := fun d e => seqOf d >>= fun xs => seqOf e >>= fun ys => R.ok (zipL xs ys)) s n x fun d1 d2 h1 h2 n2 ee v1 v2 F1 H1 F2 H2 e1 r1 e2 r2 => ?_
  have m1 := bind_ne n2
  cases w1 : seqOf d1 with
  | no => exact absurd w1 m1.1
  | exc c => unfold seqOf at w1; split at w1 <;> cases w1
  | ok ds =>
    have m2 := bind_ne (m1.2 ds w1)
    cases w2 : seqOf d2 with
    | no => exact absurd w2 m2.1
    | exc c => unfold seqOf at w2; split at w2 <;> cases w2
    | ok es =>
      obtain ⟨p1, k1, xs, a1, _, a2, a3, a4⟩ := seq_view e2.fh (View.mono e2.ff e2.hh r1) w1
      obtain ⟨p2, k2, ys, b1, _, b2, b3, b4⟩ := seq_view e2.fh r2 w2
      subst a1 b1
      refine ⟨p1, p2, k1, k2, xs, ys, rfl, a2 _ (Ex.refl _), b2 _ (Ex.refl _), k _ (ee.trans (by rw [w1, ok_bind, w2]; rfl)) _ F2 H2 (e1.trans e2) ⟨?_, fun i F3 H3 hi x1 x2 x3 => walk_zipM i hi (a2 _ x3) (b2 _ x3) a4 b4 F3 x1 x2⟩⟩
      have := zip_len2 ds es
      rw [← a4.length] at this
      omega
end
/-! ### enumerate -/
def ItnM (K : PySem.W.Frag) (k : Kd) (a : Addr) : It :=
  ⟨fun i H => ∃ (xs : List V) (x : V), SqK K k H a xs ∧ xs[i]? = some x,
    fun i H v H' => ∃ T x, v = .ref T ∧ H T = none ∧ H' = upd H T (.tup [.int (i : Int), x]) ∧ ∀ xs, SqK K k H a xs → xs[i]? = some x,
    fun i H => ∃ xs : List V, SqK K k H a xs ∧ i = xs.length⟩
theorem turn_enumM {P : Program} {w : World} {K : PySem.W.Frag} {elts : List Expr} {kk : Nat} {tpos : Pos} {a e it : Addr} {k : Kd} (ha : a ≠ it) (hei : e ≠ it) (hea : e ≠ a) :
    Turn P w K (.Tuple elts kk tpos) (ItnM K k a) [e, it] e (fun i h => (∃ old, IsEnum h e it (0 + (i : Int)) old) ∧ IterAt k h it a i) where
  mem := by simp
  obj := fun i h st c hc => by
    obtain ⟨⟨old, he⟩, h1⟩ := st
    simp only [List.mem_cons, List.not_mem_nil, or_false] at hc
    rcases hc with q | q <;> subst q
    · exact ⟨_, he, fun v q => by cases q⟩
    · exact h1.there
  keep := fun i h h' st k => by
    obtain ⟨⟨old, he⟩, h1⟩ := st
    exact ⟨⟨old, k e (by simp) _ he⟩, h1.keep fun o q => k it (by simp) o q⟩
  item := by
    intro X hP hw hK hc i pins s σ H E I hf st hg
    subst hP hw hK
    obtain ⟨he, h1⟩ := st
    obtain ⟨xs, x, hqx, hx⟩ := hg
    obtain ⟨its, rv, p, _⟩ := inv_k I hqx
    obtain ⟨u, hu, ru⟩ := rv.get hx
    have hh : X.A.in1.handled = none := I.ok.hd hc
    have li : i < its.toArray.size := by
      have q1 := (List.getElem?_eq_some_iff.mp hu).1
      simp only [List.size_toArray]
      omega
    refine (GoesN.enumFrom 0 (draws_k hh k it a ha its.toArray) e hei (by simp only [List.mem_cons, List.not_mem_nil, or_false, not_or]; exact ⟨hei, hea⟩) (by simp)).goes i s _ E li ⟨he, h1, p⟩ fun v h' tk hY st' hk _ => ?_
    obtain ⟨T, t, x', rfl, hT, e1, hT2⟩ := hY
    have e1' : x' = u := by
      have q : its.toArray[i]? = its[i]? := by simp
      rw [q, hu] at e1
      cases e1
      rfl
    subst e1'
    have e0 : (0 : Int) + (i : Int) = (i : Int) := Int.zero_add _
    rw [e0] at hT2
    have new : ObjOk X.prog X.w (upd H T (.tup [.int (i : Int), x])) h' T (.tup [.int (i : Int), x]) := ⟨by show 2 ≤ sizeLine; decide, [_, _], .cons ⟨t, rfl⟩ (.cons ru .nil), hT2⟩
    have I1 : Inv X pins σ (upd H T (.tup [.int (i : Int), x])) { s with heap := h', toks := tk } := I.turnedNew (t' := tk) (ch := [e, it]) (fun c o hb q => hk c o hb q) hf hT new
    refine ⟨.ref T, _, I1, rfl, ⟨T, x, rfl, I.hok.fresh hT, rfl, fun l hl => by rw [inj_k I hl hqx]; exact hx⟩, ⟨st'.1, st'.2.1⟩, fun c hcm => ?_⟩
    rw [upd_ne]
    · exact (hf c hcm).1
    · intro q
      subst q
      have lt : c < s.heap.objs.size := by
        simp only [List.mem_cons, List.not_mem_nil, or_false] at hcm
        obtain ⟨_, he⟩ := he
        rcases hcm with q | q <;> subst q
        · exact Heap.lt_size he
        · obtain ⟨_, e, _⟩ := h1.there; exact Heap.lt_size e
      exact absurd lt (Nat.not_lt.mpr hT)
  done := by
    intro X hP hw hK hc i pins s σ H E I hf st hg
    subst hP hw hK
    obtain ⟨he, h1⟩ := st
    obtain ⟨xs, hqx, hend⟩ := hg
    obtain ⟨its, rv, p, _⟩ := inv_k I hqx
    have hh : X.A.in1.handled = none := I.ok.hd hc
    have en : i = its.toArray.size := by
      rw [hend, rv.length]
      simp
    subst en
    refine (GoesN.enumFrom (elts := elts) (x1 := kk) (pos := tpos) 0 (draws_k hh k it a ha its.toArray) e hei (by simp only [List.mem_cons, List.not_mem_nil, or_false, not_or]; exact ⟨hei, hea⟩) (by simp)).stops s _ E ⟨he, h1, p⟩ fun h' tk hk _ => ?_
    exact I.turnedL (t' := tk) (ch := [e, it]) (fun c o hb q => hk c o hb q) hf
  self := fun A i s Q E st h => by
    obtain ⟨⟨old, he⟩, _⟩ := st
    exact wpAny_pyIter_enum he h
/-- enumerate(v), v a list or a tuple: two new cells -/
theorem enum_new1 {v : Value} {o : Obj} {G : Heap → Prop} (B : Begins v o G) : Meets (Builtin.«enumerate.__new__» ⟨[.type "enumerate", v], []⟩) (fun _ R s => G s.heap ∧ R (.ok (.ret (.ref (s.heap.push o).objs.size)))
      { s with heap := (s.heap.push o).push { cls := .type "enumerate", data := .fields #[.none, .bool false, .ref s.heap.objs.size, rawInt 0, .none, .none] } }) := .of_wp fun prog w A R s hs => by
  obtain ⟨hp, g, d, tk, os⟩ := s
  obtain ⟨g1, r⟩ := hs
  have hsub := sub_enumerate
  have q1 : ∀ {A' : Around} {E : Value → Shared → Prop} {Q : Value → Shared → Prop}, Q (.ref hp.objs.size) ⟨hp.push o, g, d, tk, os⟩ → wpAny (model prog w) A' (pyIter v) Q E ⟨hp, g, d, tk, os⟩ := fun q => B.iter prog w _ _ _ _ g1 q
  wp_walk using q1
  refine wpAny_stack_any fun st => wpAny_pure ?_
  split
  · rename_i c _ _ _ _ _
    cases (c == Value.type "enumerate") <;> (wp_walk using q1; exact ⟨_, rfl, r⟩)
  · wp_walk using q1
    exact ⟨_, rfl, r⟩
theorem call_enum1 {prog : Program} {w : World} {A : Around} {E : Value → Shared → Prop} {s : Shared} {v : Value} {o : Obj} {G : Heap → Prop} {Q : Value → Shared → Prop} (B : Begins v o G) (g1 : G s.heap)
    (r : ∀ h', IsEnum h' (s.heap.objs.size + 1) s.heap.objs.size 0 .none → h'.get? s.heap.objs.size = some o → (∀ b u, s.heap.get? b = some u → h'.get? b = some u) → Q (.ref (s.heap.objs.size + 1)) { s with heap := h' }) :
    wpAny (model prog w) A (call (.type "enumerate") [v]) Q E s := by
  refine callType_new F.called_enumerate (by decide) (F.typeCall_enumerate_1 _) (F.newCall_enumerate_1 _) (fun obj => F.args_object_init_2 obj _) F.entry_enumerate_new (enum_new1 B) ⟨g1, ?_⟩
  have hz : (s.heap.push o).objs.size = s.heap.objs.size + 1 := Heap.size_push ..
  have he : IsEnum ((s.heap.push o).push { cls := .type "enumerate", data := .fields #[.none, .bool false, .ref s.heap.objs.size, rawInt 0, .none, .none] }) (s.heap.objs.size + 1) s.heap.objs.size 0 .none := by
    rw [← hz]
    exact Heap.get?_push_size _ rfl
  show _ ∧ _
  rw [hz]
  exact ⟨⟨_, he, rfl⟩, r _ he (Heap.get?_push_of_some _ (Heap.get?_push_size _ B.free)) fun b u x => Heap.get?_push_of_some _ (Heap.get?_push_of_some _ x)⟩
section
variable {ca : Xc → Addr} {X : Cx} {W : WX} {O : List Nat} {m : Md} {a b c e : Expr} {fa fb fc : EF} {pos : Pos} {es : List Expr}
def tiEnum (K : PySem.W.Frag) (ta : TA) : TI := fun σ H R => ta σ H fun vs H2 => ∃ p k xs, vs = [.ref p] ∧ SqK K k H2 p xs ∧ R (ItnM K k p) H2
theorem pi_enumM {ta : TA} {p tpos : Pos} {elts : List Expr} {kk : Nat} (hg : Gl X "enumerate") (hm : X.mg "enumerate" = none) (hp : PA X [a] ta) (hs : starEach [a] X.env = [(false, eval a X.env)]) : PI X (.Tuple elts kk tpos) (.Call (.Name "enumerate" p) [a] [] pos) (tiEnum X.K ta) := by
  refine ⟨fun pins s σ H R I h => ?_⟩
  refine PyProof.Rows.Call_ (ld_blt I hg hm PyProof.Rows.boot_enumerate (PyProof.Rows.callWith_type1 (thn (hp.run pos pins s σ H _ I h) fun us s1 ⟨vs, H1, I1, r1, q1⟩ => ?_) hs rfl))
  obtain ⟨p, k, xs, ex, hqx, q1⟩ := q1
  subst ex
  obtain ⟨u1, rfl, ru1⟩ := r1.one
  cases ru1
  obtain ⟨its, rv, hp1, l1⟩ := inv_k I1 hqx
  refine call_enum1 (begins_k k p its.toArray) hp1 fun h' he h1 hk => wpAny_pyIter_enum he ?_
  refine ⟨s1.heap.objs.size + 1, [s1.heap.objs.size + 1, s1.heap.objs.size], _, _, H1, rfl, I1.kept (t' := s1.toks) hk, turn_enumM (Nat.ne_of_lt l1) (Nat.succ_ne_self _) (Nat.ne_of_gt (Nat.lt_succ_of_lt l1)), ⟨⟨.none, he⟩, iter0_k k h1⟩, fun c hcm => ?_, q1⟩
  have hle : s1.heap.objs.size ≤ c := by
    simp only [List.mem_cons, List.not_mem_nil, or_false] at hcm
    rcases hcm with z | z <;> (rw [z]; first | exact Nat.le_refl _ | exact Nat.le_add_right _ _)
  exact I1.fpOk hle (I1.hok.fresh hle)
theorem enum_get : ∀ (n : Nat) (xs : List D) (i : Nat), (enumL n xs)[i]? = (xs[i]?).map fun x => .tuple [.int ((n + i : Nat) : Int), x]
  | n, [], i => by simp [enumL]
  | n, x :: xs, 0 => rfl
  | n, x :: xs, i + 1 => by
    show (enumL (n + 1) xs)[i]? = (xs[i]?).map _
    rw [enum_get (n + 1) xs i]
    congr 1
    funext y
    rw [show n + 1 + i = n + (i + 1) by omega]
theorem enum_len : ∀ (n : Nat) (xs : List D), (enumL n xs).length = xs.length
  | n, [] => rfl
  | n, x :: xs => by
    show (enumL (n + 1) xs).length + 1 = _
    rw [enum_len (n + 1) xs]
    rfl
theorem walk_enumM {K : PySem.W.Frag} {k : Kd} {p : Addr} {xs : List V} {ds : List D} {F H1 : Hp} (i : Nat) (hi : i ≤ (enumL 0 ds).length) (h : SqK K k H1 p xs) (c : Reps K F ds xs) (F1 : Hp) (x1 : Ex F F1) (x2 : Ex F1 H1) :
    (∀ d, (enumL 0 ds)[i]? = some d → (ItnM K k p).go i H1 ∧ ∀ x H2, (ItnM K k p).yld i H1 x H2 → ∃ F2, Ext F1 H1 F2 H2 ∧ Rep K F2 d x) ∧ ((enumL 0 ds)[i]? = none → (ItnM K k p).stop i H1) := by
  refine ⟨fun d hd => ?_, fun hd => ⟨xs, h, ?_⟩⟩
  · rw [enum_get, Nat.zero_add] at hd
    obtain ⟨d1, hx, hd1⟩ := Option.map_eq_some_iff.mp hd
    subst hd1
    obtain ⟨x, gx, rx⟩ := c.gets hx
    refine ⟨⟨xs, x, h, gx⟩, fun v H2 hv => ?_⟩
    obtain ⟨T, x', e1, hT, e2, f1⟩ := hv
    have g1 := f1 xs h
    rw [gx] at g1
    cases g1
    subst e1 e2
    exact rep_pair x2 hT rfl (rx.mono x1)
  · have l := List.getElem?_eq_none_iff.mp hd
    rw [enum_len] at l hi
    rw [c.length]
    omega
theorem si_enum {p tpos : Pos} {elts : List Expr} {kk : Nat} (hm : X.mg "enumerate" = none) (ha : SE ca X W O .E a fa) (hg : Gl X "enumerate") (hs : starEach [a] X.env = [(false, eval a X.env)] := by kernel_rfl) : SI ca X W O .E (.Tuple elts kk tpos) (.Call (.Name "enumerate" p) [a] [] pos) (iEnum fa) := by
  obtain ⟨ta, pa, qa⟩ := ha
  refine ⟨_, pi_enumM hg hm (pa_cons pa pa_nil hs) hs, fun B F0 F H σ env Q s n k x => ?_⟩
  have n1 := bind_ne n
  refine qa B F0 F H σ env _ s n1.1 (fun d h1 v F1 H1 e1 r1 => ?_) (fun c hc => x c (by show (fa env >>= _) = _; rw [hc]; rfl))
  have n2 := bind_ne (n1.2 d h1)
  cases w1 : seqOf d with
  | no => exact absurd w1 n2.1
  | exc c => unfold seqOf at w1; split at w1 <;> cases w1
  | ok ds =>
    obtain ⟨p1, k1, xs, a1, a2, a3, a4⟩ := seq_rep r1 w1
    subst a1
    exact ⟨p1, k1, xs, rfl, a2 _ e1.fh, k _ (by show (fa env >>= _) = _; rw [h1, ok_bind, w1]; rfl) _ F1 H1 e1 ⟨by rw [enum_len, ← a4.length]; exact a3, fun i F3 H3 hi x1 x2 => walk_enumM i hi (a2 _ (x1.trans x2)) a4 F3 x1 x2⟩⟩
end
end Rt
/-! Sim8: sorted of whole numbers, chains, raise, try. -/
namespace Rt
open PySem L2
section
variable {prog : Program} {w : World} {A : Around} {E : Value → Shared → Prop} {s : Shared}
def gathered (h : Heap) (vs : List Value) : Heap := (h.push { cls := .type "list", data := .seq ([] : List Value).toArray }).update h.objs.size (Obj.mapSeq (· ++ vs.toArray))
theorem gathered_size (h : Heap) (vs : List Value) : (gathered h vs).objs.size = h.objs.size + 1 := by
  unfold gathered
  rw [Heap.size_update, Heap.size_push]
theorem gathered_old {h : Heap} {vs : List Value} {b : Addr} {o : Obj} (e : h.get? b = some o) : (gathered h vs).get? b = some o :=
  (Heap.get?_update_other _ _ (Nat.ne_of_gt (Heap.lt_size e))).trans (Heap.get?_push_of_some _ e)
/-- the items of a list or tuple, gathered -/
theorem collect_k {k : Kd} {l : Addr} {vs : List Value} {Q : List Value → Shared → Prop} (hl : HoldAt k s.heap l vs.toArray) (hz : vs.length ≤ sizeLine) (q : Q vs { s with heap := gathered s.heap vs }) : wpAny (model prog w) A (collect (.ref l)) Q E s := by
  obtain ⟨T, hT, o, ho, hc, n, hd⟩ : ∃ T, (T = "list" ∨ T = "tuple") ∧ ∃ o, s.heap.get? l = some o ∧ o.cls = .type T ∧ ∃ n, o.data = .seq vs.toArray n := by
    cases k with
    | l => obtain ⟨o, a, b, n, c⟩ := hl; exact ⟨_, .inl rfl, o, a, b, n, c⟩
    | t => obtain ⟨o, a, b, n, c⟩ := hl; exact ⟨_, .inr rfl, o, a, b, n, c⟩
  have zl : vs.toArray.size ≤ sizeLine := by rw [List.size_toArray]; exact hz
  unfold collect
  refine wpAny_bind (wpAny_runValue (codeAny_builtin F.entry_proto_collect ?_))
  rw [Around.under_plainId F.plain_proto_collect _]
  show wpAny _ A.in1 (newList [] >>= fun x => again (.builtin "list.__iadd__" ⟨[x, .ref l], []⟩)) _ _ s
  refine wpAny_bind (wpAny_newObj_type (wpAny_pure ⟨plainId_quiet F.plain_list_iadd _, codeAny_builtin F.entry_list_iadd ?_⟩))
  rw [Around.under_plainId F.plain_list_iadd _]
  show wpAny _ A.in1 (Builtin.List.listExtendWith (.ref s.heap.objs.size) (.ref l) (.ref s.heap.objs.size)) _ _ _
  have e0 : (s.heap.push { cls := .type "list", data := .seq ([] : List Value).toArray }).get? s.heap.objs.size = some { cls := .type "list", data := .seq #[] 0 } := Heap.get?_push_size _ rfl
  have e1 := Heap.get?_update_self (Obj.mapSeq (· ++ vs.toArray)) e0 rfl
  have back : wpAny (model prog w) A (match Value.ref s.heap.objs.size with
      | Value.ref a => do
        match (← load a).data with
          | Data.seq xs _ => pure xs.toList
          | _ => unsupported "internal:collect"
      | _ => unsupported "internal:collect") Q E { s with heap := gathered s.heap vs } := by
    show wpAny _ A (load s.heap.objs.size >>= _) _ _ _
    refine wpAny_bind (wpAny_load e1 (wpAny_pure ?_))
    show Q ((#[] : Array Value) ++ vs.toArray).toList _
    rw [show ((#[] : Array Value) ++ vs.toArray).toList = vs by simp]
    exact q
  refine wpAny_mono (wpAny_extend_seq (hsz := zl) (A := A) (R := fun r s' => r = .ok (.ret (.ref s.heap.objs.size)) ∧ s' = { s with heap := gathered s.heap vs })
    (s := { s with heap := s.heap.push { cls := .type "list", data := .seq ([] : List Value).toArray } }) _ l _ 0 hT e0 (Heap.get?_push_of_some _ ho) hc hd ⟨rfl, rfl⟩) (fun fin s' h => ?_) (fun e s' h => absurd h.1 (by simp))
  cases fin with
  | done f =>
    obtain ⟨e, rfl⟩ := h
    cases e
    exact back
  | again c' => exact ⟨h.1, codeAny_mono h.2 fun r s'' hr => by obtain ⟨rfl, rfl⟩ := hr; exact back⟩
open PyProof.Rows in
/-- sorted(x), x a list or a tuple -/
theorem sorted_seq {l : Addr} {vs : List Value} {ltv : Value → Value → Bool} {Q : Value → Shared → Prop} {k : Kd} (O : SrtO.Swo ltv) (hl : HoldAt k s.heap l vs.toArray) (hz : vs.length ≤ sizeLine)
    (hS : 2 ≤ vs.length → ∀ (h₁ : Heap) (a : Addr), h₁.get? a = some (seqObj "list" vs.toArray 0) → (∀ b o, s.heap.get? b = some o → b ≠ a ∧ h₁.get? b = some o) → SrtO.SortableO prog w A.in1.in1 { s with heap := h₁ } a vs ltv)
    (h : ∀ (out : List Value) (h' : Heap) (p : Addr) (n : Nat), SrtO.Srtd ltv out → SrtO.Stb ltv out vs → s.heap.objs.size ≤ p → (∀ b o, s.heap.get? b = some o → h'.get? b = some o) → h'.get? p = some (seqObj "list" out.toArray n) → Q (.ref p) { s with heap := h' }) :
    wpAny (model prog w) A (call (.builtin "sorted") [.ref l]) Q E s := by
  refine Calls.call_function_entry kind_sorted plain_sorted entry_sorted (args_sorted1 _) ?_
  unfold Builtin.«sorted»
  refine wpAny_bind (m := checkCount "sorted" 1 1 _) (wpAny_pure ?_)
  refine wpAny_bind (collect_k hl hz ?_)
  refine wpAny_bind (wpAny_newList ?_ hz)
  have gs := gathered_size s.heap vs
  have at1 : ((gathered s.heap vs).push (seqObj "list" vs.toArray 0)).get? (gathered s.heap vs).objs.size = some (seqObj "list" vs.toArray 0) := Heap.get?_push_size _ rfl
  have old : ∀ b o, s.heap.get? b = some o → b ≠ (gathered s.heap vs).objs.size ∧ ((gathered s.heap vs).push (seqObj "list" vs.toArray 0)).get? b = some o := fun b o q =>
    ⟨by have := Heap.lt_size q; rw [gs]; exact Nat.ne_of_lt (Nat.lt_succ_of_lt this), Heap.get?_push_of_some _ (gathered_old q)⟩
  show wpAny _ _ _ _ _ { s with heap := (gathered s.heap vs).push (seqObj "list" vs.toArray 0) }
  refine wpAny_bind (wpAny_holding (wpAny_call_entry slot_list_sort ⟨_, at1, rfl⟩ entry_list_sort (SrtO.list_sort_ord O at1 hz (fun h2 => hS h2 _ _ at1 old) fun out hs hb => ⟨_, rfl, ?_⟩) (args_list_sort _)))
  obtain ⟨n, hn⟩ := sortedHeap_at (vs := vs) (out := out.toArray) at1
  refine wpAny_pure ⟨_, rfl, h out _ _ n hs hb (by rw [gs]; exact Nat.le_succ _) (fun b o q => ?_) hn⟩
  show (sortedHeap ((gathered s.heap vs).push (seqObj "list" vs.toArray 0)) (gathered s.heap vs).objs.size vs out.toArray).get? b = some o
  rw [sortedHeap_old (old b o q).1 (Heap.lt_size (old b o q).2)]
  exact (old b o q).2
end
section
variable {X : Cx}
def rSortK (K : PySem.W.Frag) : List V → Hp → VK → Prop := fun vs H Q => ∃ (a : Addr) (k : Kd) (ns : List Int), vs = [V.ref a] ∧ SqK K k H a (ns.map V.int) ∧ ns.length ≤ sizeLine ∧
  ∀ (ns' : List Int) (p : Addr), ns'.Perm ns → ns'.Pairwise (· ≤ ·) → H p = none → Q (.ref p) (upd H p (.lst (ns'.map V.int)))
theorem cr_sortK : CallR X (.builtin "sorted") (rSortK X.K) := by
  intro pins s σ H vs us Q I r h
  obtain ⟨a, k, ns, rfl, hs, hz, q⟩ := h
  obtain ⟨its, rv, hl, _⟩ := inv_k I hs
  rw [Vals.ref1 r]
  have hi := rv.ints
  have zl : its.length ≤ sizeLine := by rw [← rv.length, List.length_map]; exact hz
  refine sorted_seq SrtO.swo_int hl zl (fun h2 h₁ a' _ _ => SrtO.ints_sortable hi h2) fun out h' p n h1 h2 hp hk hat => ?_
  obtain ⟨k1, k2, k3⟩ := SrtO.ints_out hi h1 h2
  have hlen : ((out.map SrtO.iv).map V.int).length ≤ sizeLine := by
    rw [List.length_map, k2.length_eq]
    exact hz
  exact ⟨.ref p, upd H p (.lst ((out.map SrtO.iv).map V.int)), I.laid (t' := s.toks) hk hp ⟨hlen, out, n, vals_of_ints k1, hat⟩, rfl, q _ p k2 k3 (I.hok.fresh hp)⟩
theorem seqI_view {K : PySem.W.Frag} {F H : Hp} {d : D} {v : V} {ns : List Int} (fh : Ex F H) (h : View K F H d v) (e : seqI d = some ns) : ∃ p k, v = .ref p ∧ SqK K k H p (ns.map V.int) ∧ ns.length ≤ sizeLine := by
  unfold seqI at e
  split at e
  · obtain ⟨p, xs, a1, a2, a3, a4⟩ := h.list fh
    rw [intsD_eq e] at a4
    have := a4.of_ints
    subst this
    rw [List.length_map] at a3
    exact ⟨p, .l, a1, SqL.of a2, a3⟩
  · obtain ⟨p, xs, a1, a2, a2', a3, a4⟩ := h.tup fh
    rw [intsD_eq e] at a4
    have := a4.of_ints
    subst this
    rw [List.length_map] at a3
    exact ⟨p, .t, a1, SqT.of a2, a3⟩
  · cases e
theorem c_sorted {K : PySem.W.Frag} : SimC K .O (rSortK K) sortedD := fun F H vs ds z Q fh v e k => by
  unfold sortedD at e
  split at e
  · obtain ⟨v1, rfl, w⟩ := views1 v
    split at e
    · rename_i ns hn
      cases e
      obtain ⟨p, kk, a1, a2, a3⟩ := seqI_view fh w hn
      subst a1
      refine ⟨p, kk, ns, rfl, a2, a3, fun ns' q hp hs hq => ?_⟩
      have en : ns' = sortI ns := sorted_uniq (hp.trans (sortI_perm ns).symm) hs (sortI_sorted ns)
      subst en
      exact own_new fh hq (by rw [List.length_map, hp.length_eq]; exact a3) (Reps.ints _) k
    · cases e
  · cases e
end
section
variable {ca : Xc → Addr} {X : Cx} {W : WX} {L : Lk} {O O1 : List Nat} {m : Md} {a b c e : Expr} {fa fb fc : EF} {pos : Pos} {es : List Expr} {sts : List Stmt} {s1 : SF}
/-! ### a < b < c -/
theorem sim_chain {K : PySem.W.Frag} {r r' : R2} {g g' : D → D → R D} {ta tb tc : TE} (hr : SimR2 K .E r g) (hr' : SimR2 K .E r' g') (hgb : ∀ x y z, g x y = .ok z → ∃ b, z = .bool b) (qa : SimE K ca W O .B ta fa) (qb : SimE K ca W O .B tb fb) (qc : SimE K ca W O .B tc fc) :
    SimE K ca W O .E (tChain r r' ta tb tc) (eChain g g' fa fb fc) := fun B F0 F H σ env Q s n k x => by
  refine sim_two qa qb (g := fun x y => quiet (g x y) >>= fun z => match z with
    | .bool true => fc env >>= fun w => quiet (g' y w)
    | .bool false => .ok (.bool false)
    | _ => .no) s n x fun d1 d2 h1 h2 n2 ee v1 v2 F1 H1 F2 H2 e1 r1 e2 r2 => ?_
  have m1 := bind_ne n2
  obtain ⟨z, hz⟩ := quiet_ne m1.1
  obtain ⟨bb, hbb⟩ := hgb _ _ _ hz
  subst hbb
  refine hr F2 H2 v1 v2 d1 d2 _ _ e2.fh (View.mono e2.ff e2.hh r1) r2 hz fun v F3 H3 e3 r3 => ⟨bb, r3, ?_⟩
  have ee2 : eChain g g' fa fb fc env = (match (PyData.bool bb : D) with
    | .bool true => fc env >>= fun w => quiet (g' d2 w)
    | .bool false => .ok (.bool false)
    | _ => .no) := ee.trans (by rw [hz]; rfl)
  have e13 := (e1.trans e2).trans e3
  cases bb with
  | false => exact k _ ee2 _ F3 H3 e13 rfl
  | true =>
    have n3 := m1.2 _ (by rw [hz]; rfl)
    have m3 := bind_ne (show (fc env >>= fun w => quiet (g' d2 w)) ≠ .no from n3)
    show tc σ H3 _
    refine qc B F0 F3 H3 σ env _ (s.step e13) m3.1 (fun d4 h4 v4 F4 H4 e4 r4 => ?_) (fun c hc F4 H4 e4 => x c (ee2.trans (by show (fc env >>= _) = _; rw [hc]; rfl)) F4 H4 (e13.trans e4))
    obtain ⟨z2, hz2⟩ := quiet_ne (m3.2 d4 h4)
    refine hr' F4 H4 v2 v4 d2 d4 z2 Q e4.fh (View.mono (e3.ff.trans e4.ff) (e3.hh.trans e4.hh) r2) r4 hz2 fun v F' H' e' r' => k z2 (ee2.trans ?_) v F' H' ((e13.trans e4).trans e') r'
    show (fc env >>= _) = _
    rw [h4, ok_bind, hz2]
    rfl
theorem se_chain {op op' : CmpOp} {r r' : R2} {g g' : D → D → R D} (ho : OpR X (compareOp op) r) (ho' : OpR X (compareOp op') r') (hr : SimR2 X.K .E r g) (hr' : SimR2 X.K .E r' g') (hgb : ∀ x y z, g x y = .ok z → ∃ b, z = .bool b) (ha : SE ca X W O .B a fa) (hb : SE ca X W O .B b fb) (hc : SE ca X W O .B c fc) (hm : lastMarks [op, op'] [b, c] = false := by kernel_rfl) :
    SE ca X W O .E (.Compare a [op, op'] [b, c] pos) (eChain g g' fa fb fc) := by
  obtain ⟨ta, pa, qa⟩ := ha
  obtain ⟨tb, pb, qb⟩ := hb
  obtain ⟨tc, pc, qc⟩ := hc
  exact ⟨_, pe_chain ho ho' pa pb pc hm, sim_chain hr hr' hgb qa qb qc⟩
theorem st_chain {op op' : CmpOp} {r r' : R2} {g g' : D → D → R D} (ho : OpR X (compareOp op) r) (ho' : OpR X (compareOp op') r') (hr : SimR2 X.K .E r g) (hr' : SimR2 X.K .E r' g') (hgb : ∀ x y z, g x y = .ok z → ∃ b, z = .bool b) (ha : SE ca X W O .B a fa) (hb : SE ca X W O .B b fb) (hc : SE ca X W O .B c fc) (hm : lastMarks [op, op'] [b, c] = false := by kernel_rfl) :
    ST ca X W O (.Compare a [op, op'] [b, c] pos) (tVal (eChain g g' fa fb fc)) := by
  obtain ⟨ta, pa, qa⟩ := ha
  obtain ⟨tb, pb, qb⟩ := hb
  obtain ⟨tc, pc, qc⟩ := hc
  exact ⟨_, pt_chain ho ho' pa pb pc hm, sim_test (sim_chain hr hr' hgb qa qb qc)⟩
theorem cmpD_bool {p : Int → Int → Bool} (x y z : D) (h : cmpD p x y = .ok z) : ∃ b, z = .bool b := by
  cases x <;> try (cases h; done)
  cases y <;> try (cases h; done)
  cases h
  exact ⟨_, rfl⟩
/-! ### raise -/
theorem ss_raise {x msg : Str} {j : Nat} {p p2 p3 : Pos} (xc : Xc) (hc : X.calm = true) (tk : Takes X W) (gC : X.mg x = some (.ref (ca xc))) (q : PySem.W.excIn X.K (ca xc) He.veBase "ValueError.__new__" = true) (kC : PySem.W.keepIn X.K (.ref (ca xc)) = true) (r : Raises X (.ref (ca xc))) (hg : Gl X x)
    (hx : ∀ i ∈ L.ex, i ∈ O := by decide) (hdb : (x == ("__debug__" : Str)) = false := by kernel_rfl) : SS ca X W L O O1 (.Raise (some (.Call (.Name x p) [.Constant (.str msg) j p2] [] p3)) none pos) (sRaise xc) :=
  ⟨_, L2.ps_raise hc tk (pmk_own PySem.F.excBase_ValueError q gC kC r hg hdb), fun B F0 F H σ env N s n k1 k2 k3 k4 => by
    obtain ⟨F1, e1, s1⟩ := s.sub hx
    exact k4 xc env rfl σ F1 H e1 s1⟩
end
end Rt
/-! Sim9: a def by its name, its call, the end of a law. -/
namespace Rt
open PySem L2
def xcName : Xc → Str
  | .table => "BadTable"
  | .ring => "BadRing"
  | .places => "BadPlaces"
  | .point => "BadPoint"
  | .nofit => "NoFit"
  | .many => "TooMany"
  | .full => "Full"
  | .text => "BadText"
  | .far => "BadFar"
  | .bag => "BadBag"
  | .told => "Told"
  | .deed => "NoDeed"
def caK (K : PySem.W.Frag) (c : Xc) : Addr := He.ga K (xcName c)
/-- the def of the text st stands by its name -/
def Here (K : PySem.W.Frag) (mg : Str → Option Value) (x : Str) (st : Stmt) : Prop := mg x = some (.ref (He.ga K x)) ∧ ∃ fd, FunD K x x (defArgs st) (defBody st) (defScope st) [] [] (He.ga K x) fd
/-- what stands at the base of all -/
def Bas (K : PySem.W.Frag) (mg : Str → Option Value) (base : Heap) : Prop := K.In base ∧ base.Ns mainGlobals mg
/-- it is mirrored by f -/
def Ok (P : Program) (w : World) (K : PySem.W.Frag) (mg : Str → Option Value) (k : Nat) (x : Str) (ps : List Str) (ro : Bool) (f : List D → R D) : Prop :=
  mg x = some (.ref (He.ga K x)) ∧ PySem.W.keepIn K (.ref (He.ga K x)) = true ∧ ∃ fd, (∀ base, Bas K mg base → FnOk P w K mg base (L2.CX P w) k (He.ga K x) fd ps (spD K (caK K) ro ps.length f)) ∧ Binds K fd ps [] ∧ ∀ (s : Shared) (us : List Value), us.length = ps.length → BindsTo s fd ⟨us, []⟩ (ps.zip us)
theorem def_sim {P : Program} {w : World} {K : PySem.W.Frag} {mg : Str → Option Value} {x : Str} {st : Stmt} {N ps : List Str} {k : Nat} {ro : Bool} {f : List D → R D} (n : Nat) (body : SF) (hf : f = run n body) (F : Here K mg x st) (S : FnScope N ps (defScope st)) (hn : N.length = n)
    (hb : ∀ (base : Heap), Bas K mg base → ∀ (cdv : Value) (A : Around) (outer : List PySem.Env) (s : Shared) (H : Hp) (E : XK), Room k (A.deeper (PyProof.Rows.envOfC x (defScope st) s.heap.objs.size (He.ga K x) cdv)) →
      SSs (caK K) (cxOf (L2.CX P w) P w K mg base N x (defScope st) (He.ga K x) cdv A outer s H E) (fun cls d _ H => E cls d H) ⟨ro, [], []⟩ [] [] (defBody st) body)
    (hro : ro = true → ∀ env e, body env ≠ .nx e)
    (hbi : ∀ (kV doc pm : Value) (an : Option Addr) (cdv ct : Value) (us : List Value), us.length = ps.length → bindArgs (PySem.W.fnOf x x (defArgs st) (defBody st) (defScope st) .none kV doc pm an cdv ct) ⟨us, []⟩ = pure (ps.zip us)) :
    Ok P w K mg (k + 1) x ps ro f := by
  subst hf hn
  obtain ⟨h1, fd, F⟩ := F
  refine ⟨h1, F.kp, fd, fun base bs => F.ok S (fun vs H Q E h => h.1) fun cdv A outer s H vs Q E hr h => ?_, F.bindsN hbi, F.bindsA hbi⟩
  obtain ⟨hl, F0, ds, fh, r, n, k1, k2⟩ := h
  obtain ⟨t, p, q⟩ := hb base bs cdv A outer s H E hr
  refine ⟨t, p, q H F0 F0 H (L2.start N vs) _ _ (sr_start (N := N) fh r) (run_ne n) (fun e he σ' F' H' x s' => ?_) (fun d hd v F' H' e r => ?_) (fun e he => ?_) (fun c e he σ' F' H' x s' => ?_)⟩
  · cases ro with
    | true => exact absurd he (hro rfl _ _)
    | false => exact k1 .none (by unfold run; rw [he]) .non F' H' s'.ext rfl
  · exact k1 d (by unfold run; rw [hd]) v F' H' e r
  · exact absurd (by unfold run; rw [he]) n
  · exact k2 c (by unfold run; rw [he]) F' H' s'.ext
theorem Ok.lift {P : Program} {w : World} {K : PySem.W.Frag} {mg : Str → Option Value} {x : Str} {ps : List Str} {k j : Nat} {ro : Bool} {f : List D → R D} (h : Ok P w K mg k x ps ro f) (l : k ≤ j) : Ok P w K mg j x ps ro f := by
  obtain ⟨a, b, fd, c, d⟩ := h
  exact ⟨a, b, fd, fun base bs => (c base bs).mono l, d⟩
section
variable {X : Cx} {W : WX} {L : Lk} {O O1 : List Nat} {m : Md} {a b c e : Expr} {fa fb fc : EF} {pos : Pos} {es : List Expr} {sts : List Stmt} {s1 : SF}
theorem se_def {k : Nat} {ps : List Str} {g : List D → R D} {x : Str} {p : Pos} {ga : AF} (F : Ok X.prog X.w X.K X.mg k x ps false g) (bs : Bas X.K X.mg X.base) (hr : Room k X.A) (tk : Takes X W) (ha : SA (caK X.K) X W O .E (e :: es) ga) (hn : ∀ env ds, ga env = .ok ds → ds.length = ps.length) (hg : Gl X x) (hdb : (x == ("__debug__" : Str)) = false)
    (he : starEach (e :: es) X.env = (false, eval e X.env) :: starEach es X.env := by kernel_rfl) (hpl : (backTo pos (starEach es X.env)).any (·.1) = false := by kernel_rfl) : SE (caK X.K) X W O .E (.Call (.Name x p) (e :: es) [] pos) (eCall g ga) := by
  obtain ⟨h1, h2, fd, h3, h4, _⟩ := F
  exact se_call (h3 _ bs) hr tk h1 h2 h4 ha hn hg hdb he hpl
theorem se_defO {k : Nat} {ps : List Str} {g : List D → R D} {x : Str} {p : Pos} {ga : AF} (F : Ok X.prog X.w X.K X.mg k x ps true g) (bs : Bas X.K X.mg X.base) (hr : Room k X.A) (tk : Takes X W) (ha : SA (caK X.K) X W O .E (e :: es) ga) (hn : ∀ env ds, ga env = .ok ds → ds.length = ps.length) (hg : Gl X x) (hdb : (x == ("__debug__" : Str)) = false)
    (he : starEach (e :: es) X.env = (false, eval e X.env) :: starEach es X.env := by kernel_rfl) (hpl : (backTo pos (starEach es X.env)).any (·.1) = false := by kernel_rfl) : SE (caK X.K) X W O .O (.Call (.Name x p) (e :: es) [] pos) (eCall g ga) := by
  obtain ⟨h1, h2, fd, h3, h4, _⟩ := F
  exact se_call (h3 _ bs) hr tk h1 h2 h4 ha hn hg hdb he hpl
theorem se_globE {ca : Xc → Addr} {x : Str} {i : Int} (h : ∃ t, X.mg x = some (.int i t)) (hg : Gl X x) (hd : (x == ("__debug__" : Str)) = false) : SE ca X W O .E (.Name x pos) (eC (.int i)) := by
  obtain ⟨t, h⟩ := h
  exact se_glob hg h ⟨t, rfl⟩ hd
theorem gl_of {x : Str} (h : X.env.kindOf x = some .globalImplicit) : Gl X x := h
theorem vl {sc : Scope} {x : Str} (h : sc.names.lookup x = some .local) : Vis sc x := .inl h
theorem vc {sc : Scope} {x : Str} (h : sc.names.lookup x = some .cell) : Vis sc x := .inr (.inl h)
theorem vf {sc : Scope} {x : Str} (h : sc.names.lookup x = some .free) : Vis sc x := .inr (.inr h)
theorem ll {sc : Scope} {x : Str} (h : sc.names.lookup x = some .local) : Loc sc x := .inl h
theorem lc {sc : Scope} {x : Str} (h : sc.names.lookup x = some .cell) : Loc sc x := .inr h
theorem tk0 {P : Program} {w : World} {K : PySem.W.Frag} {mg : Str → Option Value} {base : Heap} {N : List Str} {x : Str} {sc : Scope} {f : Addr} {cdv : Value} {A : Around} {outer : List PySem.Env} {s : Shared} {H : Hp} {E : XK} :
    Takes (cxOf (L2.CX P w) P w K mg base N x sc f cdv A outer s H E) (fun cls d _ H => E cls d H) := takes_of rfl rfl rfl rfl
theorem po0 {P : Program} {w : World} {K : PySem.W.Frag} {mg : Str → Option Value} {base : Heap} {N : List Str} {x : Str} {sc : Scope} {f : Addr} {cdv : Value} {A : Around} {outer : List PySem.Env} {s : Shared} {H : Hp} {E : XK} :
    PassesOwn (model P w) (cxOf (L2.CX P w) P w K mg base N x sc f cdv A outer s H E).A (cxOf (L2.CX P w) P w K mg base N x sc f cdv A outer s H E).env (cxOf (L2.CX P w) P w K mg base N x sc f cdv A outer s H E).xe := passes_of rfl
def addI : D → D → R D
  | .int a, .int b => .ok (.int (a + b))
  | _, _ => .no
theorem addI_ok (a b z : D) (h : addI a b = .ok z) : ∃ i j, a = .int i ∧ b = .int j ∧ z = .int (i + j) := by
  cases a <;> try (cases h; done)
  cases b <;> try (cases h; done)
  cases h
  exact ⟨_, _, rfl, rfl, rfl⟩
theorem u65 {k : Nat} {A : Around} (r : Room k A) : A.units + 65 < cLine := by
  have := r.un
  omega
/-- what a refusal's class is -/
def Exc (K : PySem.W.Frag) (mg : Str → Option Value) (c : Xc) : Prop := mg (xcName c) = some (.ref (caK K c)) ∧ PySem.W.excIn K (caK K c) He.veBase "ValueError.__new__" = true ∧ PySem.W.keepIn K (.ref (caK K c)) = true ∧
  PySem.W.subIn K (.ref (caK K c)) (.type "BaseException") = some true ∧ PySem.W.typeIn K (.ref (caK K c)) = some (.type "type")
theorem ss_exc {msg : Str} {j : Nat} {p p2 p3 : Pos} (xc : Xc) (T : Exc X.K X.mg xc) (hc : X.calm = true) (tk : Takes X W) (hg : Gl X (xcName xc)) (hdb : (xcName xc == ("__debug__" : Str)) = false)
    (hx : ∀ i ∈ L.ex, i ∈ O := by decide) : SS (caK X.K) X W L O O1 (.Raise (some (.Call (.Name (xcName xc) p) [.Constant (.str msg) j p2] [] p3)) none pos) (sRaise xc) := by
  obtain ⟨h1, h2, h3, h4, h5⟩ := T
  exact ss_raise xc hc tk h1 h2 h3 (raises_own h4 h5) hg hx hdb
end
/-! ### a body that never comes to its end -/
abbrev NoNx (b : SF) : Prop := ∀ env e, b env ≠ .nx e
theorem nx_ret {f : EF} : NoNx (sRet f) := fun env e h => by
  unfold sRet outR at h
  split at h <;> cases h
theorem nx_raise {c : Xc} : NoNx (sRaise c) := fun env e h => by cases h
theorem nx_no : NoNx sNo := fun env e h => by cases h
theorem nx_seq {a b : SF} (hb : NoNx b) : NoNx (sSeq a b) := fun env e h => by
  unfold sSeq at h
  split at h
  · exact hb _ _ h
  · rename_i z
    exact z e h
theorem nx_if {t : TF} {a b : SF} (ha : NoNx a) (hb : NoNx b) : NoNx (sIf t a b) := fun env e h => by
  unfold sIf outR at h
  split at h
  · dsimp only at h
    split at h
    · exact ha _ _ h
    · exact hb _ _ h
  · cases h
  · cases h
/-! ### the end of a law -/
/-- the script as a datum -/
def scriptD (ns : List Int) : D := .dict [(.none, .list (ns.map PyData.int))]
theorem walk_sim {l : PySem.W.OpenLaw} {k : Nat} {q : Program} {loose : List Str} {XP : (Str → Option Value) → Heap → Prop} {YP : World → Heap → Prop} {d : DefRec} {f : List D → R D} (hn : l.most = some 63) (hdf : d.params.defaults = []) (hr : Room k callerA) (hd : d.name = ("law" : Str))
    (F : ∀ (w : World) (mg : Str → Option Value) (h : Heap), YP w h → h.Ns mainGlobals mg → ∃ K : PySem.W.Frag, K.In h ∧ Ok l.prog w K mg k "law" ["script"] false f)
    (hf : ∀ ns : List Int, ns.length ≤ 63 → (∀ z ∈ ns, Builtin.Int.intBits z ≤ 1048576) → f [scriptD ns] = .ok (.bool true)) : PySem.W.WalkO q loose XP YP l.row.toRowW d [] (fun f vs => PySem.call f vs) := by
  refine Att.attach_callB hn hdf fun w s₀ s₁ mg mb fa o pm cd doc a vs ns G Y ho hdd hcd hmg hobj hints hlen hbits hg => ?_
  obtain ⟨K, KX, h1, h2, fd, h3, h4, h5⟩ := F w mg _ Y G.T.g
  have hfa : fa = He.ga K "law" := by
    rw [hd, h1] at hmg
    cases hmg
    rfl
  subst hfa
  refine law_call KX G.T.g G.T.b G.T.builtins G.T.nolimit hg hobj hints (Nat.le_trans hlen (by decide)) hr (fun base kb nb => h3 base ⟨kb, nb⟩) (fun s u => h5 s [u] rfl) (fun H hO hS => ?_) fun H e s' c => ?_
  · have e := hf ns hlen hbits
    refine ⟨rfl, H, [scriptD ns], Ex.refl H, ⟨.ref a, [], rfl, ⟨a, rfl, .inr (.inr ⟨ns, rfl, hS, by omega⟩)⟩, rfl⟩, (by rw [e]; intro z; cases z), fun d hd v F' H' x r => ?_, (fun c hc => by rw [e] at hc; cases hc)⟩
    rw [e] at hd
    cases hd
    exact r
  · obtain ⟨_, _, _, _, _, _, _, _, _, _, _, _, z⟩ := c
    exact z
end Rt
/-! Sim10: less, least, greatest, sorted: data of any depth that are alike. -/
namespace Rt
open PySem L2
def alikeL (ds : List D) : Bool := ds.all (fun x => ds.all fun y => W.alike x y) && ds.all (fun x => !isNone x) && PyData.canLayAll0 ds && decide (PyData.depthAll ds ≤ 60)
theorem alikeL_ok {ds : List D} (h : alikeL ds = true) : W.AlikeAll ds ∧ PyData.canLayAll0 ds = true ∧ PyData.depthAll ds ≤ 60 := by
  unfold alikeL at h
  rw [Bool.and_eq_true, Bool.and_eq_true, Bool.and_eq_true] at h
  obtain ⟨⟨⟨h1, h2⟩, h3⟩, h4⟩ := h
  refine ⟨⟨fun x hx y hy => ?_, fun x hx e => ?_⟩, h3, of_decide_eq_true h4⟩
  · exact List.all_eq_true.mp (List.all_eq_true.mp h1 x hx) y hy
  · have := List.all_eq_true.mp h2 x hx
    rw [e] at this
    exact absurd this (by decide)
def minAD : List D → R D
  | [.list (x :: xs)] => if alikeL (x :: xs) = true then .ok (W.minD x xs) else .no
  | [.tuple (x :: xs)] => if alikeL (x :: xs) = true then .ok (W.minD x xs) else .no
  | _ => .no
def maxAD : List D → R D
  | [.list (x :: xs)] => if alikeL (x :: xs) = true then .ok (W.maxD x xs) else .no
  | [.tuple (x :: xs)] => if alikeL (x :: xs) = true then .ok (W.maxD x xs) else .no
  | _ => .no
def ltAD : D → D → R D
  | .int i, .int j => .ok (.bool (ltI i j))
  | x, y => if W.alike x y = true ∧ isNone x = false ∧ SeqAt.shaped x = true ∧ SeqAt.shaped y = true then .ok (.bool (W.dataLt x y)) else .no
def sortable (ds : List D) : Bool := (ds.all fun d => match d with | .tuple (_ :: _) => true | _ => false) || (ds.all fun d => match d with | .tuple _ => false | .none => false | _ => true)
theorem sortable_ok {ds : List D} (h : sortable ds = true) : W.Sortable ds := by
  unfold sortable at h
  rw [Bool.or_eq_true] at h
  rcases h with h | h
  · refine .inl fun d hd => ?_
    have := List.all_eq_true.mp h d hd
    split at this
    · exact ⟨_, _, rfl⟩
    · cases this
  · refine .inr fun d hd => ?_
    have := List.all_eq_true.mp h d hd
    refine ⟨fun e => ?_, fun xs e => ?_⟩
    · rw [e] at this
      cases this
    · rw [e] at this
      cases this
def sortAD : List D → R D
  | [d] => match seqI d with
    | some ns => .ok (.list ((sortI ns).map PyData.int))
    | none => match d with
      | .list ds => if alikeL ds = true ∧ sortable ds = true then .ok (.list (ds.mergeSort (W.dataLe false id))) else .no
      | _ => .no
  | _ => .no
section
variable {X : Cx}
theorem vals_at : ∀ {xs : List V} {us : List Value}, Vals xs us → ∀ (i : Nat) (u : Value), us[i]? = some u → ∃ v, xs[i]? = some v ∧ RelV v u
  | _, _, .nil, i, u, h => by simp at h
  | _, _, .cons r t, 0, u, h => by
    have e := Option.some.inj (show some _ = some u from h)
    subst e
    exact ⟨_, rfl, r⟩
  | _, _, .cons r t, i + 1, u, h => by
    obtain ⟨v, a, b⟩ := vals_at t i u (by simpa using h)
    exact ⟨v, by simpa using a, b⟩
theorem reps_at {K : PySem.W.Frag} {F : Hp} : ∀ {ds : List D} {xs : List V}, Reps K F ds xs → ∀ (i : Nat) (v : V), xs[i]? = some v → ∃ d, ds[i]? = some d ∧ Rep K F d v
  | [], xs, h, i, v, e => by
    have h : xs = [] := h
    subst h
    simp at e
  | d :: ds, xs, ⟨w, ws, a, b, c⟩, 0, v, e => by
    subst a
    have e := Option.some.inj (show some _ = some v from e)
    subst e
    exact ⟨d, rfl, b⟩
  | d :: ds, xs, ⟨w, ws, a, b, c⟩, i + 1, v, e => by
    subst a
    obtain ⟨d', p, q⟩ := reps_at c i v (by simpa using e)
    exact ⟨d', by simpa using p, q⟩
/-- one of them, which is d -/
def rPick (K : PySem.W.Frag) (f : D → List D → D) : List V → Hp → VK → Prop := fun vs H Q => ∃ (a : Addr) (k : Kd) (xs : List V) (x : D) (ds : List D), vs = [V.ref a] ∧ SqK K k H a xs ∧ DpAll K H xs (x :: ds) ∧ alikeL (x :: ds) = true ∧
  ∀ (i : Nat) (v : V), xs[i]? = some v → (x :: ds)[i]? = some (f x ds) → Q v H
theorem pick_data {h : Heap} {us : List Value} {ds : List D} {as bs : List Addr} {i : Nat} {u : Value} {d : D} (r : ReadsAll h us ds as) (c : PyData.canLayAll0 ds = true) (hu : us[i]? = some u) (r2 : Reads h u d bs) (cd : d.canLay0 = true) : ds[i]? = some d := by
  have e := SeqAt.readsAll_map ds us as c r
  have e2 := SeqAt.readOf_eq cd r2
  rw [← e, List.getElem?_map, hu, ← e2]
  rfl
theorem canLay_mem : ∀ {ds : List D}, PyData.canLayAll0 ds = true → ∀ d ∈ ds, d.canLay0 = true
  | [], _, d, h => by cases h
  | x :: ds, c, d, h => by
    simp only [PyData.canLayAll0, Bool.and_eq_true] at c
    rcases List.mem_cons.mp h with e | e
    · rw [e]; exact c.1
    · exact canLay_mem c.2 d e
theorem fold_mem {f : D → D → Bool} : ∀ (xs : List D) (x : D), xs.foldl (fun a y => if f y a = true then y else a) x ∈ x :: xs
  | [], x => List.mem_cons_self
  | y :: xs, x => by
    rw [List.foldl_cons]
    have := fold_mem (f := f) xs (if f y x = true then y else x)
    rcases List.mem_cons.mp this with e | e
    · rw [e]
      by_cases z : f y x = true
      · rw [if_pos z]; exact List.mem_cons_of_mem _ List.mem_cons_self
      · rw [if_neg z]; exact List.mem_cons_self
    · exact List.mem_cons_of_mem _ (List.mem_cons_of_mem _ e)
theorem depth_mem : ∀ {ds : List D} {d : D}, d ∈ ds → d.depth ≤ PyData.depthAll ds
  | x :: ds, d, h => by
    simp only [PyData.depthAll]
    rcases List.mem_cons.mp h with e | e
    · rw [e]; exact Nat.le_max_left _ _
    · exact Nat.le_trans (depth_mem e) (Nat.le_max_right _ _)
theorem depth_of_shaped {d : D} (h : SeqAt.shaped d = true) : d.depth ≤ 64 := by
  unfold SeqAt.shaped at h
  simp only [Bool.and_eq_true, decide_eq_true_eq] at h
  exact h.2
theorem cr_minA (hc : X.calm = true) (hu : X.A.units + 65 < cLine) : CallR X (.builtin "min") (rPick X.K W.minD) := by
  intro pins s σ H vs us Q I r h
  obtain ⟨a, k, xs, x, ds, rfl, hs, hd, ha, q⟩ := h
  obtain ⟨aa, cl, dp⟩ := alikeL_ok ha
  obtain ⟨its, rv, hl, _⟩ := inv_k I hs
  obtain ⟨as, hr⟩ := Dp.readsAll I _ _ _ hd rv
  rw [Vals.ref1 r]
  have fin : ∀ (i : Nat) v h' tk bs, its.toArray[i]? = some v → Reads h' v (W.minD x ds) bs → (∀ b o, s.heap.get? b = some o → h'.get? b = some o) → ∃ v' H', Inv X pins σ H' { s with heap := h', toks := tk } ∧ RelV v' v ∧ Q v' H' := fun i v h' tk bs hv r2 hk => by
    have hv' : its[i]? = some v := by simpa using hv
    obtain ⟨v', b1, b2⟩ := vals_at rv i v hv'
    exact ⟨v', H, I.kept hk, b2, q i v' b1 (pick_data (PyProof.Rows.ReadsAll.keeps hk hr) cl hv' r2 (canLay_mem cl _ (fold_mem ds x)))⟩
  cases k with
  | l => exact W.min_list_data (I.ok.hd hc) hl hr aa (by omega) fin
  | t => exact W.min_tuple_data (I.ok.hd hc) hl hr aa (by omega) fin
theorem cr_maxA (hc : X.calm = true) (hu : X.A.units + 65 < cLine) : CallR X (.builtin "max") (rPick X.K W.maxD) := by
  intro pins s σ H vs us Q I r h
  obtain ⟨a, k, xs, x, ds, rfl, hs, hd, ha, q⟩ := h
  obtain ⟨aa, cl, dp⟩ := alikeL_ok ha
  obtain ⟨its, rv, hl, _⟩ := inv_k I hs
  obtain ⟨as, hr⟩ := Dp.readsAll I _ _ _ hd rv
  rw [Vals.ref1 r]
  have fin : ∀ (i : Nat) v h' tk bs, its.toArray[i]? = some v → Reads h' v (W.maxD x ds) bs → (∀ b o, s.heap.get? b = some o → h'.get? b = some o) → ∃ v' H', Inv X pins σ H' { s with heap := h', toks := tk } ∧ RelV v' v ∧ Q v' H' := fun i v h' tk bs hv r2 hk => by
    have hv' : its[i]? = some v := by simpa using hv
    obtain ⟨v', b1, b2⟩ := vals_at rv i v hv'
    exact ⟨v', H, I.kept hk, b2, q i v' b1 (pick_data (PyProof.Rows.ReadsAll.keeps hk hr) cl hv' r2 (canLay_mem cl _ (fold_mem (f := fun a b => W.dataLt b a) ds x)))⟩
  cases k with
  | l => exact W.max_list_data (I.ok.hd hc) hl hr aa (by omega) fin
  | t => exact W.max_tuple_data (I.ok.hd hc) hl hr aa (by omega) fin
theorem pick_sim {K : PySem.W.Frag} {F H : Hp} {d x z : D} {xs : List D} {f : D → List D → D} {v : V} {Q : VK} (fh : Ex F H) (w : View K F H d v) (hd : d = .list (x :: xs) ∨ d = .tuple (x :: xs)) (ha : alikeL (x :: xs) = true) (k : ∀ v F' H', Ext F H F' H' → MdOk K H F' H' .E (f x xs) v → Q v H') : rPick K f [v] H Q := by
  obtain ⟨aa, cl, dp⟩ := alikeL_ok ha
  rcases hd with e | e
  · subst e
    obtain ⟨p, ys, a1, a2, a3, a4⟩ := w.list fh
    subst a1
    refine ⟨p, .l, ys, x, xs, rfl, SqL.of a2, Reps.dp fh _ _ cl a4, ha, fun i v hv hi => ?_⟩
    obtain ⟨d, b1, b2⟩ := reps_at a4 i v hv
    rw [hi] at b1
    cases b1
    exact k v F H (Ext.refl fh) b2
  · subst e
    obtain ⟨p, ys, a1, a2, a2', a3, a4⟩ := w.tup fh
    subst a1
    refine ⟨p, .t, ys, x, xs, rfl, SqT.of a2, Reps.dp fh _ _ cl a4, ha, fun i v hv hi => ?_⟩
    obtain ⟨d, b1, b2⟩ := reps_at a4 i v hv
    rw [hi] at b1
    cases b1
    exact k v F H (Ext.refl fh) b2
theorem c_minA {K : PySem.W.Frag} : SimC K .E (rPick K W.minD) minAD := fun F H vs ds z Q fh v e k => by
  unfold minAD at e
  split at e
  · obtain ⟨v1, rfl, w⟩ := views1 v
    split at e
    · rename_i c
      cases e
      exact pick_sim (z := .none) fh w (.inl rfl) c k
    · cases e
  · obtain ⟨v1, rfl, w⟩ := views1 v
    split at e
    · rename_i c
      cases e
      exact pick_sim (z := .none) fh w (.inr rfl) c k
    · cases e
  · cases e
theorem c_maxA {K : PySem.W.Frag} : SimC K .E (rPick K W.maxD) maxAD := fun F H vs ds z Q fh v e k => by
  unfold maxAD at e
  split at e
  · obtain ⟨v1, rfl, w⟩ := views1 v
    split at e
    · rename_i c
      cases e
      exact pick_sim (z := .none) fh w (.inl rfl) c k
    · cases e
  · obtain ⟨v1, rfl, w⟩ := views1 v
    split at e
    · rename_i c
      cases e
      exact pick_sim (z := .none) fh w (.inr rfl) c k
    · cases e
  · cases e
/-! ### sorted -/
theorem each_pairs {K : PySem.W.Frag} {H : Hp} {s : Shared} : ∀ {xs : List V} {ds : List D} {us : List Value} {as : List Addr}, Vals xs us → ReadsAll s.heap us ds as → W.EachIs (fun u (b : V × D) => RelV b.1 u) us (xs.zip ds) ∧ W.EachIs (fun u (b : V × D) => ∃ as, Reads s.heap u b.2 as) us (xs.zip ds) ∧ (xs.zip ds).map Prod.snd = ds
  | _, ds, _, _, .nil, r => by
    cases r
    exact ⟨.nil, .nil, rfl⟩
  | _, _, _, _, .cons r t, .cons h1 h2 => by
    obtain ⟨a, b, c⟩ := each_pairs (K := K) (H := H) t h2
    exact ⟨.cons r a, .cons ⟨_, h1⟩ b, by rw [List.zip_cons_cons, List.map_cons, c]⟩
theorem vals_each : ∀ {us : List Value} {bs : List (V × D)}, W.EachIs (fun u (b : V × D) => RelV b.1 u) us bs → Vals (bs.map Prod.fst) us
  | _, _, .nil => .nil
  | _, _, .cons h t => .cons h (vals_each t)
def rSortA (K : PySem.W.Frag) : List V → Hp → VK → Prop := fun vs H Q => ∃ (a : Addr) (xs : List V) (ds : List D), vs = [V.ref a] ∧ SqL K H a xs ∧ DpAll K H xs ds ∧ alikeL ds = true ∧ sortable ds = true ∧ xs.length = ds.length ∧ ds.length ≤ sizeLine ∧
  ∀ (p : Addr), H p = none → Q (.ref p) (upd H p (.lst (((xs.zip ds).mergeSort (W.dataLe false Prod.snd)).map Prod.fst)))
theorem cr_sortA (hu : X.A.units + 65 < cLine) : CallR X (.builtin "sorted") (rSortA X.K) := by
  intro pins s σ H vs us Q I r h
  obtain ⟨a, xs, ds, rfl, hs, hd, ha, hst, hln, hz, q⟩ := h
  obtain ⟨aa, cl, dp⟩ := alikeL_ok ha
  obtain ⟨its, rv, hl, _⟩ := I.list hs
  obtain ⟨as, hr⟩ := Dp.readsAll I _ _ _ hd rv
  rw [Vals.ref1 r]
  obtain ⟨e1, e2, e3⟩ := each_pairs (K := X.K) (H := H) rv hr
  have zl : (xs.zip ds).length = ds.length := by rw [List.length_zip, hln, Nat.min_self]
  refine W.sorted_data (enc := Prod.snd) (bs := xs.zip ds) hl.isList e1 e2 (by rw [e3]; exact fun x hx y hy => aa.1 x hx y hy) (by rw [e3]; exact sortable_ok hst) (by rw [zl]; exact hz) (fun b hb => ?_) fun out ho eo => ?_
  · have hb : b.2 ∈ ds := by rw [← e3]; exact List.mem_map.mpr ⟨b, hb, rfl⟩
    have := depth_mem hb
    omega
  · obtain ⟨n, he'⟩ := PyProof.Rows.sortedAll_at s.heap its out.toArray
    have hlen : (((xs.zip ds).mergeSort (W.dataLe false Prod.snd)).map Prod.fst).length ≤ sizeLine := by rw [List.length_map, List.length_mergeSort, zl]; exact hz
    exact ⟨.ref _, upd H (s.heap.objs.size + 1) (.lst _), I.laid (t' := s.toks) (fun _ _ => PyProof.Rows.sortedAll_old) (Nat.le_succ _) ⟨hlen, out, n, vals_each eo, he'⟩, rfl, q _ (I.hok.fresh (Nat.le_succ _))⟩
theorem cr_sort2 (hu : X.A.units + 65 < cLine) : CallR X (.builtin "sorted") (fun vs H Q => rSortK X.K vs H Q ∨ rSortA X.K vs H Q) := by
  intro pins s σ H vs us Q I r h
  rcases h with h | h
  · exact cr_sortK pins s σ H vs us Q I r h
  · exact cr_sortA hu pins s σ H vs us Q I r h
theorem reps_zip {K : PySem.W.Frag} {F : Hp} : ∀ {ds : List D} {xs : List V}, Reps K F ds xs → xs.length = ds.length ∧ (xs.zip ds).map Prod.snd = ds ∧ ∀ b ∈ xs.zip ds, Rep K F b.2 b.1
  | [], xs, h => by
    have h : xs = [] := h
    subst h
    exact ⟨rfl, rfl, fun b hb => by cases hb⟩
  | d :: ds, xs, ⟨w, ws, a, b, c⟩ => by
    subst a
    obtain ⟨h0, h1, h2⟩ := reps_zip c
    refine ⟨by simp [h0], by rw [List.zip_cons_cons, List.map_cons, h1], fun q hq => ?_⟩
    rw [List.zip_cons_cons] at hq
    rcases List.mem_cons.mp hq with e | e
    · rw [e]; exact b
    · exact h2 q e
theorem reps_of_pairs {K : PySem.W.Frag} {F : Hp} : ∀ (ps : List (V × D)), (∀ b ∈ ps, Rep K F b.2 b.1) → Reps K F (ps.map Prod.snd) (ps.map Prod.fst)
  | [], _ => rfl
  | p :: ps, h => ⟨_, _, rfl, h p List.mem_cons_self, reps_of_pairs ps fun b hb => h b (List.mem_cons_of_mem _ hb)⟩
theorem c_sortA {K : PySem.W.Frag} : SimC K .O (fun vs H Q => rSortK K vs H Q ∨ rSortA K vs H Q) sortAD := fun F H vs ds z Q fh v e k => by
  unfold sortAD at e
  split at e
  · rename_i d
    split at e
    · rename_i ns hn
      refine .inl (c_sorted F H vs [d] z Q fh v ?_ k)
      unfold sortedD
      simp only [hn]
      exact e
    · split at e
      · rename_i ds hn
        split at e
        · rename_i c
          cases e
          obtain ⟨v1, rfl, w⟩ := views1 v
          obtain ⟨p, ys, a1, a2, a3, a4⟩ := w.list fh
          subst a1
          obtain ⟨aa, cl, dp⟩ := alikeL_ok c.1
          obtain ⟨h0, h1, h2⟩ := reps_zip a4
          refine .inr ⟨p, ys, ds, rfl, SqL.of a2, Reps.dp fh _ _ cl a4, c.1, c.2, h0, by rw [← h0]; exact a3, fun q hq => ?_⟩
          have em : ((ys.zip ds).mergeSort (W.dataLe false Prod.snd)).map Prod.snd = ds.mergeSort (W.dataLe false id) := by
            have := List.map_mergeSort (r := W.dataLe false Prod.snd) (s := W.dataLe false id) (f := Prod.snd) (l := ys.zip ds) (fun a _ b _ => rfl)
            rw [this, h1]
          have rr := reps_of_pairs (K := K) (F := F) ((ys.zip ds).mergeSort (W.dataLe false Prod.snd)) fun b hb => h2 b (List.mem_mergeSort.mp hb)
          rw [em] at rr
          exact own_new fh hq (by rw [List.length_map, List.length_mergeSort, List.length_zip, h0, Nat.min_self, ← h0]; exact a3) rr k
        · cases e
      · cases e
  · cases e
/-! ### less -/
def rLtA (K : PySem.W.Frag) : R2 := fun x y H Q => (rI0 fun i j => .bl (ltI i j)) x y H Q ∨ ∃ d e, Dp K H x d ∧ Dp K H y e ∧ W.alike d e = true ∧ isNone d = false ∧ SeqAt.shaped d = true ∧ Q (.bl (W.dataLt d e)) H
theorem op_ltA (hu : X.A.units + 65 < cLine) : OpR X (compareOp .Lt) (rLtA X.K) := by
  intro pins s σ H x y v u Q I rx ry h
  rcases h with h | ⟨d, e, h1, h2, h3, h4, h5, q⟩
  · exact op_lt pins s σ H x y v u Q I rx ry h
  · obtain ⟨as, r1⟩ := Dp.reads I d x v h1 rx
    obtain ⟨bs, r2⟩ := Dp.reads I e y u h2 ry
    have := depth_of_shaped h5
    exact W.lt_data r1 r2 h3 (fun z => by rw [z] at h4; cases h4) (by have := Nat.min_le_left d.depth e.depth; omega) ⟨.bl _, H, I, rfl, q⟩
theorem r_ltA {K : PySem.W.Frag} : SimR2 K .E (rLtA K) ltAD := fun F H x y d1 d2 z Q fh v1 v2 e k => by
  unfold ltAD at e
  split at e
  · exact .inl (simB0 (g := ltI) F H x y _ _ z Q fh v1 v2 e k)
  · split at e
    · rename_i c
      cases e
      exact .inr ⟨d1, d2, v1.dp fh (lay_of c.2.2.1), v2.dp fh (lay_of c.2.2.2), c.1, c.2.1, c.2.2.1, k _ F H (Ext.refl fh) rfl⟩
    · cases e
end
end Rt
/-! Sim11: x[k] = e for an own object; a, b = c, d. -/
namespace Rt
open PySem L2
section
variable {ca : Xc → Addr} {X : Cx} {W : WX} {L : Lk} {O O1 : List Nat} {m : Md} {a b c e : Expr} {fa fb fc fk : EF} {pos : Pos} {es : List Expr} {sts : List Stmt} {s1 : SF}
theorem sim_put {K : PySem.W.Frag} {te tk : TE} {i : Nat} {f : D → D → D → R D} {r : V → V → V → Hp → (Hp → Prop) → Prop} (hx : ∀ i ∈ L.ex, i ∈ O) (hi : i ∈ O) (qe : SimE K ca W O .E te fa) (qk : SimE K ca W O .E tk fk)
    (hr : ∀ (F H : Hp) (p : Addr) (o : HO) (x q y z : D) (kv v : V) (Q : Hp → Prop), Ex F H → F p = none → H p = some o → ORep K F o x → Rep K F q kv → Rep K F y v → f x q y = .ok z → (∀ o', ORep K F o' z → Q (upd H p o')) → r (.ref p) kv v H Q) :
    SimS K ca W L O O (tAsg te (gSub (tVar i) tk r)) (sPut i f fk fa) := fun B F0 F H σ env N s n k1 k2 k3 k4 => by
  obtain ⟨p, o, d, a1, a2, a3, a4, a5, a6⟩ := s.own i hi
  have es : slot env i = .ok d := by
    unfold slot
    rw [a1]
  have ee : sPut i f fk fa env = outR (fa env) env fun y => outR (fk env) env fun q => (match f d q y with
      | .ok z => .nx (env.set i (some z))
      | _ => .no) := by
    show (outR (fa env) env fun y => outR (fk env) env fun q => match slot env i with
      | .ok x => (match f x q y with
        | .ok z => .nx (env.set i (some z))
        | _ => .no)
      | _ => .no) = _
    rw [es]
  rw [ee] at n k1 k4
  refine sim_then hx qe s n k4 fun y hy ee1 v F1 H1 e1 r1 => ?_
  rw [ee1] at n k1 k4
  refine ⟨.ref p, a2, sim_then hx qk (s.step e1) n (fun c e hc σ' F' H' x => k4 c e hc σ' F' H' (e1.ff.trans x)) fun q hq ee2 kv F2 H2 e2 r2 => ?_⟩
  rw [ee2] at n k1 k4
  have ne : H p ≠ none := by rw [a5]; intro z; cases z
  have f1 : F1 p = none := by
    rw [e1.keep p ne]
    exact a3
  have ne1 : H1 p ≠ none := by rw [e1.hh _ _ a5]; intro z; cases z
  have f2 : F2 p = none := by
    rw [e2.keep p ne1]
    exact f1
  cases w : f d q y with
  | ok z =>
    refine hr F2 H2 p o d q y z kv v _ e2.fh f2 (e2.hh _ _ (e1.hh _ _ a5)) ((a6.mono e1.ff).mono e2.ff) r2 (Rep.mono e2.ff _ _ r1) w fun o' ho' => ?_
    refine k1 _ (by simp only [w]) σ F2 _ (e1.ff.trans e2.ff) (((s.step e1).step e2).mut (d := z) hi a2 ho')
  | exc c => exact absurd (by simp only [w]) n
  | no => exact absurd (by simp only [w]) n
/-- a list's item is exchanged -/
def setL : D → D → D → R D
  | .list ds, .int k, y => (match ixN ds.length k with
    | some j => .ok (.list (ds.set j y))
    | none => .no)
  | _, _, _ => .no
theorem hr_setL {K : PySem.W.Frag} : ∀ (F H : Hp) (p : Addr) (o : HO) (x q y z : D) (kv v : V) (Q : Hp → Prop), Ex F H → F p = none → H p = some o → ORep K F o x → Rep K F q kv → Rep K F y v → setL x q y = .ok z → (∀ o', ORep K F o' z → Q (upd H p o')) → rSetL (.ref p) kv v H Q :=
    fun F H p o x q y z kv v Q fh fp hp ho hq hy e k => by
  unfold setL at e
  split at e
  · rename_i ds n
    cases o <;> try (exact ho.elim)
    rename_i xs
    have e2 : kv = V.int n := hq
    subst e2
    split at e
    · rename_i j hj
      cases e
      have hl : xs.length = ds.length := ho.2.length
      exact ⟨p, xs, n, j, rfl, rfl, hp, by rw [hl]; exact hj, k (.lst (xs.set j v)) ⟨by rw [List.length_set]; exact ho.1, Reps.set j ho.2 hy⟩⟩
    · cases e
  · cases e
/-- x[k] = e, an own list -/
theorem ss_put {ke : Expr} {f : D → D → D → R D} {r : V → V → V → Hp → (Hp → Prop) → Prop} (i : Nat) {x : Str} {p1 p2 : Pos} (hs : PSet X r) (hr : ∀ (F H : Hp) (p : Addr) (o : HO) (x q y z : D) (kv v : V) (Q : Hp → Prop), Ex F H → F p = none → H p = some o → ORep X.K F o x → Rep X.K F q kv → Rep X.K F y v → f x q y = .ok z → (∀ o', ORep X.K F o' z → Q (upd H p o')) → r (.ref p) kv v H Q)
    (hk : SE ca X W O .E ke fk) (he : SE ca X W O .E e fa) (hv : Vis X.env.scope x) (hN : X.N[i]? = some x := by kernel_rfl) (hi : i ∈ O := by decide) (hx : ∀ i ∈ L.ex, i ∈ O := by decide)
    (hd : (x == ("__debug__" : Str)) = false := by kernel_rfl) (hcd : (x == ("__classdict__" : Str)) = false := by kernel_rfl)
    (ha : ∀ v, assign (.Subscript (.Name x p1) ke p2) X.env v = (do
      let ov ← holding [v] (eval (.Name x p1) X.env)
      let iv ← holding [v, ov] (eval ke X.env)
      standAt p2
      holding [v, ov, iv] (setItem ov iv v)
      release [v, ov, iv] []) := by intro _; kernel_rfl)
    (h2 : swapsWithSole [.Subscript (.Name x p1) ke p2] e pos.line X.env = pure false := by kernel_rfl) (h3 : swappedStores [.Subscript (.Name x p1) ke p2] e X.env = pure none := by kernel_rfl)
    (h4 : (assignEach [.Subscript (.Name x p1) ke p2] X.env).map (·.2) = [assign (.Subscript (.Name x p1) ke p2) X.env] := by kernel_rfl) : SS ca X W L O O (.Assign [.Subscript (.Name x p1) ke p2] e pos) (sPut i f fk fa) := by
  obtain ⟨t, p, q⟩ := he
  obtain ⟨t2, p2, q2⟩ := hk
  exact ⟨_, ps_asg p (pg_sub (pe_var hN hv hd hcd) p2 hs ha) h2 h3 h4, sim_put hx hi q q2 hr⟩
/-! ### a, b = c, d -/
def parK (env : Env) (i j : Nat) : List D → Out
  | [d, e] => .nx ((env.set i (some d)).set j (some e))
  | _ => .no
def sPar (i j : Nat) (ga : AF) : SF := fun env => outR (ga env) env (parK env i j)
theorem ss_par {ga : AF} (i j : Nat) {x y : Str} {px py pt : Pos} {kt k2 pt2} (hc : X.calm = true) (hN : X.N.Nodup) (ha : SA ca X W O .E [a, b] ga) (hi : X.N[i]? = some x := by kernel_rfl) (hj : X.N[j]? = some y := by kernel_rfl) (hij : i ≠ j := by decide)
    (hxl : X.env.scope.names.lookup x = some .local := by kernel_rfl) (hyl : X.env.scope.names.lookup y = some .local := by kernel_rfl) (ho : i ∉ O := by decide) (hq : j ∉ O := by decide) (hx : ∀ i ∈ L.ex, i ∈ O := by decide)
    (hw : swappedStores [.Tuple [.Name x px, .Name y py] kt pt] (.Tuple [a, b] k2 pt2) X.env = pure (some [x, y]) := by kernel_rfl)
    (hs : swapsWithSole [.Tuple [.Name x px, .Name y py] kt pt] (.Tuple [a, b] k2 pt2) pos.line X.env = pure false := by kernel_rfl) :
    SS ca X W L O O (.Assign [.Tuple [.Name x px, .Name y py] kt pt] (.Tuple [a, b] k2 pt2) pos) (sPar i j ga) := by
  obtain ⟨t, p, q⟩ := ha
  refine ⟨_, ps_par hc hN hi hj hij hxl hyl p hw hs, fun B F0 F H σ env N s n k1 k2 k3 k4 => ?_⟩
  refine q B F0 F H σ env _ s (fun z => n (by show outR (ga env) env _ = _; rw [z]; rfl)) (fun ds hd vs F' H' e r => ?_) (fun c hc F' H' e => ?_)
  · have ee : sPar i j ga env = parK env i j ds := by
      show outR (ga env) env _ = _
      rw [hd]
      rfl
    rw [ee] at n k1
    clear ee hd
    rcases ds with _ | ⟨d1, _ | ⟨d2, _ | ⟨d3, ds⟩⟩⟩
    · exact absurd rfl n
    · exact absurd rfl n
    · 
      obtain ⟨v1, vs1, e1, r1, v2, vs2, e2, r2, e3⟩ := r
      subst e1 e2
      have e3 : vs2 = [] := e3
      subst e3
      exact ⟨v1, v2, rfl, k1 _ rfl _ F' H' e.ff (((s.step e).set ho r1).set hq r2)⟩
    · exact absurd rfl n
  · obtain ⟨F2, e2, s2⟩ := (s.step e).sub hx
    exact k4 c env (by show outR (ga env) env _ = _; rw [hc]; rfl) σ F2 H' (e.ff.trans e2) s2
end
end Rt
/-! Sim12: sorted(set(x)) of whole numbers. -/
namespace Rt
open PySem L2
/-! ### rising rows -/
def insU (x : Int) : List Int → List Int
  | [] => [x]
  | y :: r => if x < y then x :: y :: r else if x = y then y :: r else y :: insU x r
def usortI : List Int → List Int
  | [] => []
  | x :: r => insU x (usortI r)
theorem insU_mem (x : Int) : ∀ (l : List Int) (k : Int), k ∈ insU x l ↔ k = x ∨ k ∈ l
  | [], k => by simp [insU]
  | y :: r, k => by
    unfold insU
    by_cases h1 : x < y
    · rw [if_pos h1]; simp
    · rw [if_neg h1]
      by_cases h2 : x = y
      · rw [if_pos h2, h2]; simp
      · rw [if_neg h2, List.mem_cons, insU_mem x r k, List.mem_cons]
        constructor
        · rintro (h | h | h)
          · exact .inr (.inl h)
          · exact .inl h
          · exact .inr (.inr h)
        · rintro (h | h | h)
          · exact .inr (.inl h)
          · exact .inl h
          · exact .inr (.inr h)
theorem usortI_mem : ∀ (l : List Int) (k : Int), k ∈ usortI l ↔ k ∈ l
  | [], k => Iff.rfl
  | x :: r, k => by
    show k ∈ insU x (usortI r) ↔ _
    rw [insU_mem, usortI_mem r k, List.mem_cons]
theorem insU_rises (x : Int) : ∀ (l : List Int), l.Pairwise (· < ·) → (insU x l).Pairwise (· < ·)
  | [], _ => List.pairwise_singleton _ _
  | y :: r, h => by
    obtain ⟨h1, h2⟩ := List.pairwise_cons.mp h
    unfold insU
    by_cases z : x < y
    · rw [if_pos z]
      refine List.pairwise_cons.mpr ⟨fun k hk => ?_, h⟩
      rcases List.mem_cons.mp hk with e | e
      · rw [e]; exact z
      · exact Int.lt_trans z (h1 k e)
    · rw [if_neg z]
      by_cases z2 : x = y
      · rw [if_pos z2]; exact h
      · rw [if_neg z2]
        refine List.pairwise_cons.mpr ⟨fun k hk => ?_, insU_rises x r h2⟩
        rcases (insU_mem x r k).mp hk with e | e
        · rw [e]; omega
        · exact h1 k e
theorem usortI_rises : ∀ (l : List Int), (usortI l).Pairwise (· < ·)
  | [] => List.Pairwise.nil
  | x :: r => insU_rises x _ (usortI_rises r)
theorem insU_len (x : Int) : ∀ l : List Int, (insU x l).length ≤ l.length + 1
  | [] => Nat.le_refl _
  | y :: r => by
    unfold insU
    split
    · exact Nat.le_refl _
    · split
      · exact Nat.le_succ _
      · exact Nat.succ_le_succ (insU_len x r)
theorem usortI_len : ∀ l : List Int, (usortI l).length ≤ l.length
  | [] => Nat.le_refl _
  | x :: r => Nat.le_trans (insU_len x _) (Nat.succ_le_succ (usortI_len r))
/-- two rising rows of the same numbers are one -/
theorem rises_uniq : ∀ {a b : List Int}, a.Pairwise (· < ·) → b.Pairwise (· < ·) → (∀ k, k ∈ a ↔ k ∈ b) → a = b
  | [], [], _, _, _ => rfl
  | [], y :: b, _, _, h => absurd ((h y).mpr List.mem_cons_self) (by simp)
  | x :: a, [], _, _, h => absurd ((h x).mp List.mem_cons_self) (by simp)
  | x :: a, y :: b, ha, hb, h => by
    obtain ⟨a1, a2⟩ := List.pairwise_cons.mp ha
    obtain ⟨b1, b2⟩ := List.pairwise_cons.mp hb
    have e : x = y := by
      rcases List.mem_cons.mp ((h x).mp List.mem_cons_self) with e | e
      · exact e
      · rcases List.mem_cons.mp ((h y).mpr List.mem_cons_self) with e2 | e2
        · exact e2.symm
        · have := b1 x e
          have := a1 y e2
          omega
    subst e
    have : a = b := rises_uniq a2 b2 fun k => by
      constructor
      · intro hk
        rcases List.mem_cons.mp ((h k).mp (List.mem_cons_of_mem _ hk)) with e | e
        · have := a1 k hk
          omega
        · exact e
      · intro hk
        rcases List.mem_cons.mp ((h k).mpr (List.mem_cons_of_mem _ hk)) with e | e
        · have := b1 k hk
          omega
        · exact e
    rw [this]
def sortSetD : List D → R D
  | [.tuple ds] => (match intsD ds with
    | some ns => if ns.length < 64 then .ok (.list ((usortI ns).map PyData.int)) else .no
    | none => .no)
  | _ => .no
section
variable {X : Cx}
def rSetT (K : PySem.W.Frag) (w : World) : List V → Hp → VK → Prop := fun vs H Q => ∃ (a : Addr) (ns : List Int), vs = [V.ref a] ∧ SqT K H a (ns.map V.int) ∧ ns.length < 64 ∧
  ∀ (p : Addr) (c : Nat), c ≤ ns.length → H p = none → Q (.ref p) (upd H p (SetO w p (fun j => decide (j ∈ ns)) c))
theorem cr_setT (hc : X.calm = true) : CallR X (.type "set") (rSetT X.K X.w) := by
  intro pins s σ H vs us Q I r h
  obtain ⟨a, ns, rfl, hs, h64, q⟩ := h
  obtain ⟨its, rv, hl, _⟩ := I.tuple hs
  rw [Vals.ref1 r]
  refine call_set_tupI ns (I.ok.hd hc) hl (by simpa using rv.ints) (by unfold scanBound; omega) fun h' tk c hR hcn hk => ?_
  exact ⟨.ref _, upd H s.heap.objs.size (SetO X.w s.heap.objs.size (fun j => decide (j ∈ ns)) c), I.laid (t' := tk) hk (Nat.le_refl _) (setO_new hR), rfl, q _ c hcn (I.hok.fresh (Nat.le_refl _))⟩
def rSortSet (K : PySem.W.Frag) (w : World) : List V → Hp → VK → Prop := fun vs H Q => rSetT K w vs H fun v H1 => rSortedSet w [v] H1 Q
theorem c_sortSet {K : PySem.W.Frag} {w : World} : SimC K .O (rSortSet K w) sortSetD := fun F H vs ds z Q fh v e k => by
  unfold sortSetD at e
  split at e
  · obtain ⟨v1, rfl, vw⟩ := views1 v
    obtain ⟨p, xs, a1, a2, a2', a3, a4⟩ := vw.tup fh
    split at e
    · rename_i ns hn
      split at e
      · rename_i h64
        cases e
        rw [intsD_eq hn] at a4
        have := a4.of_ints
        subst this a1
        refine ⟨p, ns, rfl, SqT.of a2, h64, fun p2 c hcn hp2 => ⟨p2, _, c, rfl, upd_same, by omega, fun ms p3 hms hmem hlen hp3 => ?_⟩⟩
        have em : ms = usortI ns := rises_uniq hms (usortI_rises ns) fun j => by
          rw [hmem j, usortI_mem]
          exact decide_eq_true_iff
        subst em
        have e1 : Ext F H F (upd H p2 (SetO w p2 (fun j => decide (j ∈ ns)) c)) := Ext.own fh hp2
        refine own_new (ds := (usortI ns).map PyData.int) e1.fh hp3 (by rw [List.length_map]; have := usortI_len ns; exact Nat.le_trans (show (usortI ns).length ≤ 64 by omega) (by decide)) (Reps.ints _) fun v F' H' e2 m => k v F' H' (e1.trans e2) (m.back e1.hh)
      · cases e
    · cases e
  · cases e
end
section
variable {ca : Xc → Addr} {X : Cx} {W : WX} {O : List Nat} {a : Expr} {pos : Pos}
theorem se_sortSet {ga : AF} {p p2 q : Pos} (hc : X.calm = true) (hg : Gl X "sorted") (hm : X.mg "sorted" = none) (hg2 : Gl X "set") (hm2 : X.mg "set" = none) (ha : SA ca X W O .B [a] ga)
    (he : starEach [a] X.env = (false, eval a X.env) :: starEach [] X.env := by kernel_rfl) (hp : (backTo q (starEach [] X.env)).any (·.1) = false := by kernel_rfl)
    (he2 : starEach [.Call (.Name "set" p2) [a] [] q] X.env = (false, eval (.Call (.Name "set" p2) [a] [] q) X.env) :: starEach [] X.env := by kernel_rfl) (hp2 : (backTo pos (starEach [] X.env)).any (·.1) = false := by kernel_rfl) :
    SE ca X W O .O (.Call (.Name "sorted" p) [.Call (.Name "set" p2) [a] [] q] [] pos) (eCallB sortSetD ga) := by
  obtain ⟨t, pt, qt⟩ := ha
  have inner := pe_callTy (pos := q) (p := p2) (cr_setT hc) hg2 hm2 (by decide +kernel) pt (by decide) (by kernel_rfl) he hp
  have outer := pe_callB (pos := pos) (p := p) (cr_sortedSet hc) hg hm (by decide +kernel) (pa_cons inner pa_nil he2) (by decide) (by kernel_rfl) he2 hp2
  exact ⟨_, outer, sim_cb (r := rSortSet X.K X.w) c_sortSet qt⟩
end
end Rt
/-! Sim13: in, of lists and tuples. -/
namespace Rt
open PySem L2
def inA (neg : Bool) : D → D → R D
  | x, .tuple ys => if SeqAt.shaped x = true ∧ SeqAt.shaped (.tuple ys) = true then .ok (.bool (neg ^^ ys.any fun z => PyData.eqv z x)) else .no
  | x, y => inD neg x y
section
variable {X : Cx}
def rInT (K : PySem.W.Frag) (neg : Bool) : R2 := fun x y H Q => ∃ d ds, Dp K H x d ∧ Dp K H y (.tuple ds) ∧ SeqAt.shaped d = true ∧ SeqAt.shaped (.tuple ds) = true ∧ Q (.bl (neg ^^ ds.any fun z => PyData.eqv z d)) H
theorem op_inA (hu : X.A.units + 65 < cLine) : OpR X (compareOp .In) (fun x y H Q => rInD X.K x y H Q ∨ rInT X.K false x y H Q) := by
  intro pins s σ H x y v u Q I rx ry h
  rcases h with h | ⟨d, ds, hd, he, sd, se, q⟩
  · exact op_inD hu pins s σ H x y v u Q I rx ry h
  · obtain ⟨as, r1⟩ := Dp.reads I d x v hd rx
    obtain ⟨bs, r2⟩ := Dp.reads I (.tuple ds) y u he ry
    rw [Bool.false_xor] at q
    exact SeqAt.in_tuple_reads r2 r1 (SeqAt.canLay_of_shaped se) (SeqAt.canLay_of_shaped sd) (PyProof.Rows.room_in_shaped sd hu) ⟨.bl _, H, I, rfl, q⟩
theorem op_notInA (hu : X.A.units + 65 < cLine) : OpR X (compareOp .NotIn) (fun x y H Q => rNotInD X.K x y H Q ∨ rInT X.K true x y H Q) := by
  intro pins s σ H x y v u Q I rx ry h
  rcases h with h | ⟨d, ds, hd, he, sd, se, q⟩
  · exact op_notInD hu pins s σ H x y v u Q I rx ry h
  · obtain ⟨as, r1⟩ := Dp.reads I d x v hd rx
    obtain ⟨bs, r2⟩ := Dp.reads I (.tuple ds) y u he ry
    rw [Bool.true_xor] at q
    exact SeqAt.notIn_tuple_reads r2 r1 (SeqAt.canLay_of_shaped se) (SeqAt.canLay_of_shaped sd) (PyProof.Rows.room_in_shaped sd hu) ⟨.bl _, H, I, rfl, q⟩
theorem r_inA {K : PySem.W.Frag} : SimR2 K .E (fun x y H Q => rInD K x y H Q ∨ rInT K false x y H Q) (inA false) := fun F H x y d1 d2 z Q fh v1 v2 e k => by
  unfold inA at e
  split at e
  · split at e
    · rename_i c
      cases e
      exact .inr ⟨d1, _, v1.dp fh (lay_of c.1), v2.dp fh (lay_of c.2), c.1, c.2, k _ F H (Ext.refl fh) rfl⟩
    · cases e
  · exact .inl (r_in F H x y d1 d2 z Q fh v1 v2 e k)
theorem r_notInA {K : PySem.W.Frag} : SimR2 K .E (fun x y H Q => rNotInD K x y H Q ∨ rInT K true x y H Q) (inA true) := fun F H x y d1 d2 z Q fh v1 v2 e k => by
  unfold inA at e
  split at e
  · split at e
    · rename_i c
      cases e
      exact .inr ⟨d1, _, v1.dp fh (lay_of c.1), v2.dp fh (lay_of c.2), c.1, c.2, k _ F H (Ext.refl fh) rfl⟩
    · cases e
  · exact .inl (r_notIn F H x y d1 d2 z Q fh v1 v2 e k)
end
end Rt
/-! Sim14: try, except. -/
namespace Rt
open PySem L2
/-- the clauses, one after the other; a suite that refuses is not told -/
def catchK : List (Xc × SF) → Xc → SF
  | [], c, env => .ex c env
  | (h, s) :: r, c, env => if c = h then (match s env with
    | .ex _ _ => .no
    | o => o) else catchK r c env
def sTryK (cs : List Xc) (body : SF) (hs : List (Xc × SF)) : SF := fun env => match body env with
  | .ex c e => if c ∈ cs then catchK hs c e else .no
  | o => o
/-- which refusals the class h takes -/
def Exms (K : PySem.W.Frag) (cs : List Xc) (h : Xc) : Prop := ∀ c ∈ cs, PySem.W.exmOne K (.ref (caK K c)) (.ref (caK K h)) = some (decide (c = h))
theorem exms_nil {K : PySem.W.Frag} {h : Xc} : Exms K [] h := fun _ hc => nomatch hc
theorem exms_cons {K : PySem.W.Frag} {cs : List Xc} {c h : Xc} (e : PySem.W.exmOne K (.ref (caK K c)) (.ref (caK K h)) = some (decide (c = h))) (r : Exms K cs h) : Exms K (c :: cs) h := fun d hd => by
  rcases List.mem_cons.mp hd with z | z
  · subst z; exact e
  · exact r d z
inductive Hds (X : Cx) (L : Lk) (O O2 : List Nat) (cs : List Xc) : List ExceptHandler → List (Xc × SF) → Prop
  | nil : Hds X L O O2 cs [] []
  | cons {b₀ : Stmt} {suite : List Stmt} {np pos' : Pos} {hds : List ExceptHandler} {hs : List (Xc × SF)} {f : SF} (h : Xc) (nm : Names X (xcName h) (.ref (caK X.K h))) (ex : Exms X.K cs h)
      (su : ∀ (a : Addr) (pn : List (Addr × Obj)), SSs (caK X.K) (X.suite a pn) (fun _ _ _ _ => False) L O O2 (b₀ :: suite) f) (r : Hds X L O O2 cs hds hs) :
      Hds X L O O2 cs (.ExceptHandler (some (.Name (xcName h) np)) none (b₀ :: suite) pos' :: hds) ((h, f) :: hs)
theorem hds_sim {X : Cx} {W : WX} {L : Lk} {O O2 : List Nat} {cs : List Xc} (hx : ∀ i ∈ L.ex, i ∈ O) {hds : List ExceptHandler} {hs : List (Xc × SF)} (h : Hds X L O O2 cs hds hs) : ∃ l, HdsOk X hds l ∧ ∀ (B F0 F H : Hp) (σ : St) (env : Env) (c : Xc) (N : Ends), c ∈ cs → SR X.K B F0 O F H σ env → catchK hs c env ≠ .no →
    (∀ e, catchK hs c env = .nx e → ∀ σ' F' H', Ex F F' → SR X.K B F0 O2 F' H' σ' e → N.nx σ' H') →
    (∀ d, catchK hs c env = .rt d → ∀ v F' H', Ext F0 B F' H' → MdOk X.K B F' H' (if L.ro = true then .O else .E) d v → N.rt v H') →
    (∀ e, catchK hs c env = .bk e → ∀ σ' F' H', Ex F F' → SR X.K B F0 L.bk F' H' σ' e → N.bk σ' H') →
    (∀ c' e, catchK hs c env = .ex c' e → ∀ σ' F' H', Ex F F' → SR X.K B F0 L.ex F' H' σ' e → W (.ref (caK X.K c')) none σ' H') → wMany X.K W N l (.ref (caK X.K c)) none σ H := by
  induction h with
  | nil =>
    refine ⟨[], HdsOk.nil, fun B F0 F H σ env c N hc s n k1 k2 k3 k4 => ?_⟩
    obtain ⟨F1, e1, s1⟩ := s.sub hx
    exact k4 c env rfl σ F1 H e1 s1
  | @cons b₀ suite np pos' hds hs f h nm ex su r ih =>
    obtain ⟨l, hl, kl⟩ := ih
    refine ⟨(.ref (caK X.K h), fun a cls d N σ H => ∀ oe pn, Zc cls d oe → (∃ vs, oe.data = .fields vs) → ∃ t, PSs (X.suite a ((a, oe) :: pn)) (b₀ :: suite) t ∧ t N σ H) :: l, HdsOk.cons nm (fun a oe cls d pn z q => ⟨fun pins s σ H D I hh => ?_⟩) hl, fun B F0 F H σ env c N hc s n k1 k2 k3 k4 => ?_⟩
    · obtain ⟨t, p, w⟩ := hh oe pn z q
      exact p.run pins s σ H D I w
    · refine ⟨decide (c = h), ex c hc, fun hb a na oe pn hz hd => ?_, fun hb => ?_⟩
      · have e : c = h := of_decide_eq_true hb
        have ee : catchK ((h, f) :: hs) c env = (match f env with
          | .ex _ _ => .no
          | o => o) := if_pos e
        rw [ee] at n k1 k2 k3 k4
        obtain ⟨t, p, q⟩ := su a ((a, oe) :: pn)
        refine ⟨t, p, q B F0 F H σ env N s ?_ (fun e' he => k1 e' (by rw [he])) (fun d hd => k2 d (by rw [hd])) (fun e' he => k3 e' (by rw [he])) (fun c' e' he => ?_)⟩
        · intro z
          exact n (by rw [z])
        · exact absurd (by rw [he]) n
      · have e : ¬ c = h := of_decide_eq_false hb
        have ee : catchK ((h, f) :: hs) c env = catchK hs c env := if_neg e
        rw [ee] at n k1 k2 k3 k4
        exact kl B F0 F H σ env c N hc s n k1 k2 k3 k4
theorem ss_try {X : Cx} {W : WX} {L : Lk} {O O2 : List Nat} {cs : List Xc} {body : List Stmt} {h₀ : ExceptHandler} {hds : List ExceptHandler} {hs : List (Xc × SF)} {fb : SF} {pos : Pos} (hst : X.stack = X.env :: X.outer) (hfr : X.env.frame = some X.env.locals) (tk : Takes X W)
    (hb : ∀ (W' : WX) (pn : List (Addr × Obj)) (xe : Value → Shared → Prop), Takes (X.tr pn xe) W' → PassesOwn (model X.prog X.w) X.A X.env xe → SSs (caK X.K) (X.tr pn xe) W' ⟨L.ro, L.bk, O⟩ O O2 body fb)
    (hh : Hds X L O O2 cs (h₀ :: hds) hs) (hx : ∀ i ∈ L.ex, i ∈ O := by decide) : SS (caK X.K) X W L O O2 (.Try body (h₀ :: hds) [] [] pos) (sTryK cs fb hs) := by
  obtain ⟨l, hl, kl⟩ := hds_sim (W := W) hx hh
  refine ⟨_, ps_try_many hst hfr tk (tb := fun W' N σ H => ∀ pn xe, Takes (X.tr pn xe) W' → PassesOwn (model X.prog X.w) X.A X.env xe → ∃ t, PSs (X.tr pn xe) body t ∧ t N σ H) (fun W' pn xe t1 po => ⟨fun pins s σ H D I h => ?_⟩) hl, fun B F0 F H σ env N s n k1 k2 k3 k4 pn xe t1 po => ?_⟩
  · obtain ⟨t, p, w⟩ := h pn xe t1 po
    exact p.run pins s σ H D I w
  · obtain ⟨t, p, q⟩ := hb _ pn xe t1 po
    refine ⟨t, p, q B F0 F H σ env N s ?_ (fun e he => k1 e ?_) (fun d hd => k2 d ?_) (fun e he => k3 e ?_) (fun c e he σ' F' H' x s' => ?_)⟩
    · intro z
      exact n (by unfold sTryK; rw [z])
    · unfold sTryK; rw [he]
    · unfold sTryK; rw [hd]
    · unfold sTryK; rw [he]
    · have ee : sTryK cs fb hs env = if c ∈ cs then catchK hs c e else .no := by unfold sTryK; rw [he]
      by_cases hc : c ∈ cs
      · rw [if_pos hc] at ee
        rw [ee] at n k1 k2 k3 k4
        exact kl B F0 F' H' σ' e c N hc s' n (fun e1 h1 σ2 F2 H2 x2 => k1 e1 h1 σ2 F2 H2 (x.trans x2)) k2 (fun e1 h1 σ2 F2 H2 x2 => k3 e1 h1 σ2 F2 H2 (x.trans x2)) (fun c' e1 h1 σ2 F2 H2 x2 => k4 c' e1 h1 σ2 F2 H2 (x.trans x2))
      · rw [if_neg hc] at ee
        exact absurd ee n
end Rt
/-! Sim15: list(range(..)), tuple(range(..)), int(x), x[::-1]. -/
namespace Rt
open PySem L2
theorem Reps.range {K : PySem.W.Frag} {F : Hp} (a b : Int) : Reps K F (rangeL a b) (rgV a b) := by
  have e1 : rangeL a b = ((List.range (b - a).toNat).map fun i : Nat => a + (i : Int)).map PyData.int := by
    rw [List.map_map]; rfl
  have e2 : rgV a b = ((List.range (b - a).toNat).map fun i : Nat => a + (i : Int)).map V.int := by
    rw [List.map_map]; rfl
  rw [e1, e2]
  exact Reps.ints _
def eLRg (src : IF_) : EF := fun env => src env >>= fun ds => .ok (.list ds)
def eTRg (src : IF_) : EF := fun env => src env >>= fun ds => .ok (.tuple ds)
section
variable {ca : Xc → Addr} {X : Cx} {W : WX} {L : Lk} {O O1 : List Nat} {m : Md} {a b c e : Expr} {fa fb fc : EF} {pos : Pos} {es : List Expr} {sts : List Stmt} {s1 : SF}
/-- an expression that makes a range -/
def SRg (ca : Xc → Addr) (X : Cx) (W : WX) (O : List Nat) (e : Expr) (f : IF_) : Prop := ∃ te, PRg X e te ∧ ∀ (B F0 F H : Hp) (σ : St) (env : Env) (Q : Int → Int → Hp → Prop), SR X.K B F0 O F H σ env → f env ≠ .no →
  (∀ ds, f env = .ok ds → ∀ x y F' H', Ext F H F' H' → ds = rangeL x y → -100000 ≤ x → x ≤ 100000 → -100000 ≤ y → y ≤ 100000 → Q x y H') → (∀ c, f env = .exc c → ∀ F' H', Ext F H F' H' → W (.ref (ca c)) none σ H') → te σ H Q
theorem srg_1 {p : Pos} (hg : Gl X "range") (hm : X.mg "range" = none) (h : SE ca X W O .E a fa) (hs : starEach [a] X.env = (false, eval a X.env) :: starEach [] X.env := by kernel_rfl) : SRg ca X W O (.Call (.Name "range" p) [a] [] pos) (iRange1 fa) := by
  obtain ⟨t, pp, q⟩ := h
  refine ⟨_, prg_1 hg hm pp hs, fun B F0 F H σ env Q s n k x => ?_⟩
  have n1 := bind_ne n
  refine q B F0 F H σ env _ s n1.1 (fun d h1 v F1 H1 e1 r1 => ?_) (fun c hc => x c (by show (fa env >>= _) = _; rw [hc]; rfl))
  have n2 := n1.2 d h1
  cases d <;> try (exact absurd rfl n2)
  rename_i j
  have n3 : (if -100000 ≤ j ∧ j ≤ 100000 then R.ok (rangeL 0 j) else R.no) ≠ .no := n2
  by_cases hj : -100000 ≤ j ∧ j ≤ 100000
  · refine ⟨j, r1, k (rangeL 0 j) ?_ 0 j F1 H1 e1 rfl (by decide) (by decide) hj.1 hj.2⟩
    show (fa env >>= _) = _
    rw [h1]
    exact if_pos hj
  · exact absurd (if_neg hj) n3
theorem srg_2 {p : Pos} (hg : Gl X "range") (hm : X.mg "range" = none) (h : SE ca X W O .E a fa) (h' : SE ca X W O .E b fb) (hs : starEach [a, b] X.env = (false, eval a X.env) :: starEach [b] X.env := by kernel_rfl)
    (hs2 : starEach [b] X.env = (false, eval b X.env) :: starEach [] X.env := by kernel_rfl) (hp : (backTo pos (starEach [b] X.env)).any (·.1) = false := by kernel_rfl) : SRg ca X W O (.Call (.Name "range" p) [a, b] [] pos) (iRange2 fa fb) := by
  obtain ⟨t, pp, q⟩ := h
  obtain ⟨t2, pp2, q2⟩ := h'
  refine ⟨_, prg_2 hg hm pp pp2 hs hs2 hp, fun B F0 F H σ env Q s n k x => ?_⟩
  refine sim_two q q2 (g := fun d e => match d, e with
  | .int m, .int n => if -100000 ≤ m ∧ m ≤ 100000 ∧ -100000 ≤ n ∧ n ≤ 100000 then R.ok (rangeL m n) else .no
  | _, _ => .no) s n x fun d1 d2 h1 h2 n2 ee v1 v2 F1 H1 F2 H2 e1 r1 e2 r2 => ?_
  cases d1 <;> try (exact absurd rfl n2)
  cases d2 <;> try (exact absurd rfl n2)
  rename_i i j
  by_cases hj : -100000 ≤ i ∧ i ≤ 100000 ∧ -100000 ≤ j ∧ j ≤ 100000
  · exact ⟨i, j, r1, r2, k (rangeL i j) (ee.trans (if_pos hj)) i j F2 H2 (e1.trans e2) rfl hj.1 hj.2.1 hj.2.2.1 hj.2.2.2⟩
  · exact absurd (if_neg hj) n2
theorem rgOk_small {x y : Int} (h1 : -100000 ≤ x) (h2 : x ≤ 100000) (h3 : -100000 ≤ y) (h4 : y ≤ 100000) : RgOk x y := ⟨by omega, by omega, by omega, by omega, by omega⟩
theorem rg_len {x y : Int} (h1 : -100000 ≤ x) (h4 : y ≤ 100000) : (rgV x y).length ≤ sizeLine := by
  rw [rgV_length]
  exact Nat.le_trans (show (y - x).toNat ≤ 200000 by omega) (by decide)
theorem se_listRg {f : IF_} {p : Pos} (hc : X.calm = true) (hg : Gl X "list") (hm : X.mg "list" = none) (h : SRg ca X W O e f) (hs : starEach [e] X.env = (false, eval e X.env) :: starEach [] X.env := by kernel_rfl) : SE ca X W O .O (.Call (.Name "list" p) [e] [] pos) (eLRg f) := by
  obtain ⟨te, pp, q⟩ := h
  refine ⟨_, pe_listRg hc hg hm pp hs, fun B F0 F H σ env Q s n k x => ?_⟩
  have n1 := bind_ne n
  refine q B F0 F H σ env _ s n1.1 (fun ds h1 i j F1 H1 e1 ed b1 b2 b3 b4 => ?_) (fun c hc => x c (by show (f env >>= _) = _; rw [hc]; rfl))
  refine ⟨rgOk_small b1 b2 b3 b4, fun r hr => ?_⟩
  subst ed
  exact own_new (ds := rangeL i j) e1.fh hr (rg_len b1 b4) (Reps.range i j) fun v F' H' ee r' => k (.list (rangeL i j)) (by show (f env >>= _) = _; rw [h1]; rfl) v F' H' (e1.trans ee) (r'.back e1.hh)
theorem se_tupRg {f : IF_} {p : Pos} (hc : X.calm = true) (hg : Gl X "tuple") (hm : X.mg "tuple" = none) (h : SRg ca X W O e f) (hs : starEach [e] X.env = (false, eval e X.env) :: starEach [] X.env := by kernel_rfl) : SE ca X W O .E (.Call (.Name "tuple" p) [e] [] pos) (eTRg f) := by
  obtain ⟨te, pp, q⟩ := h
  refine ⟨_, pe_tupRg hc hg hm pp hs, fun B F0 F H σ env Q s n k x => ?_⟩
  have n1 := bind_ne n
  refine q B F0 F H σ env _ s n1.1 (fun ds h1 i j F1 H1 e1 ed b1 b2 b3 b4 => ?_) (fun c hc => x c (by show (f env >>= _) = _; rw [hc]; rfl))
  refine ⟨rgOk_small b1 b2 b3 b4, fun r hr => ?_⟩
  subst ed
  exact fz_newT (ds := rangeL i j) e1.fh hr (rg_len b1 b4) (Reps.range i j) fun v F' H' ee r' => k (.tuple (rangeL i j)) (by show (f env >>= _) = _; rw [h1]; rfl) v F' H' (e1.trans ee) r'
theorem se_globSE {x : Str} {i : Str} (h : ∃ t, X.mg x = some (.str i t)) (hg : Gl X x) (hd : (x == ("__debug__" : Str)) = false) : SE ca X W O .E (.Name x pos) (eC (.str i)) := by
  obtain ⟨t, h⟩ := h
  exact se_globS hg h ⟨t, rfl⟩ hd
/-! ### int(x) -/
def intD : List D → R D
  | [.int i] => .ok (.int i)
  | [.bool b] => .ok (.int (if b = true then 1 else 0))
  | _ => .no
theorem c_int {K : PySem.W.Frag} : SimC K .E (fun xs H Q => (∃ i, xs = [V.int i] ∧ Q (.int i) H) ∨ ∃ k : Bool, xs = [V.bl k] ∧ Q (.int (if k then 1 else 0)) H) intD := fun F H vs ds z Q fh v e k => by
  unfold intD at e
  split at e
  · obtain ⟨v1, rfl, w⟩ := views1 v
    cases e
    rw [w.int]
    exact .inl ⟨_, rfl, k _ F H (Ext.refl fh) rfl⟩
  · obtain ⟨v1, rfl, w⟩ := views1 v
    cases e
    rw [w.bool]
    exact .inr ⟨_, rfl, k _ F H (Ext.refl fh) rfl⟩
  · cases e
end
/-! ### x[::-1] -/
section
variable {prog : Program} {w : World} {A : Around} {E : Value → Shared → Prop} {s : Shared}
theorem rv_applied {sl : Addr} {t : Tok} {n : Nat} {Q : Int × Int × Nat → Shared → Prop} (hs : s.heap.IsSliceOf sl .none .none (.int (-1) t)) (h : Q ((n : Int) - 1, -1, n) s) : wpAny (model prog w) A (Builtin.Slice.sliceApplied (.ref sl) (pure (n : Int))) Q E s := by
  obtain ⟨os, g1, g2, g3⟩ := id hs
  unfold Builtin.Slice.sliceApplied
  unfold Builtin.Slice.sliceFields
  refine wpAny_bind (wpAny_bind (wpAny_field g1 g3 (x := .none) rfl (wpAny_bind (wpAny_field g1 g3 (x := .none) rfl (wpAny_bind (wpAny_field g1 g3 (x := .int (-1) t) rfl (wpAny_pure ?_)))))))
  refine wpAny_bind (HT.slicePart_ (.int (-1) t) ?_)
  show wpAny _ _ (if ((-1 : Int) == 0) = true then _ else _) _ _ s
  rw [if_neg (show ¬ ((-1 : Int) == 0) = true by decide)]
  refine wpAny_bind (HT.slicePart_ .none (wpAny_bind (HT.slicePart_ .none (wpAny_bind (wpAny_pure ?_)))))
  have e1 : Builtin.Slice.sliceAdjust none none (-1) (n : Int) = ((n : Int) - 1, -1) := rfl
  have e2 : Builtin.Slice.slicePlaces ((n : Int) - 1) (-1) (-1) = n := by
    unfold Builtin.Slice.slicePlaces
    rw [if_neg (show ¬ ((-1 : Int) > 0) by decide)]
    by_cases z : n = 0
    · subst z; rfl
    · rw [if_pos (show ((n : Int) - 1) > -1 by omega), show -(-1 : Int) = 1 from rfl, Int.ediv_one]
      omega
  show wpAny _ _ (match Builtin.Slice.sliceAdjust none none (-1) (n : Int) with | (l, u) => pure (l, (-1 : Int), Builtin.Slice.slicePlaces l u (-1))) _ _ s
  rw [e1]
  show wpAny _ _ (pure ((n : Int) - 1, (-1 : Int), Builtin.Slice.slicePlaces ((n : Int) - 1) (-1) (-1))) _ _ s
  rw [e2]
  exact wpAny_pure h
theorem rv_pick (xs : List Value) : ((List.range xs.length).filterMap fun m : Nat => xs.toArray[((xs.length : Int) - 1 + (m : Int) * -1).toNat]?) = xs.reverse := by
  have e : ((List.range xs.length).filterMap fun m : Nat => xs.toArray[((xs.length : Int) - 1 + (m : Int) * -1).toNat]?) = (List.range xs.length).filterMap fun m : Nat => xs.reverse[m]? := by
    have gen : ∀ l : List Nat, (∀ m ∈ l, m < xs.length) → (l.filterMap fun m : Nat => xs.toArray[((xs.length : Int) - 1 + (m : Int) * -1).toNat]?) = l.filterMap fun m : Nat => xs.reverse[m]? := fun l => by
      induction l with
      | nil => exact fun _ => rfl
      | cons a t ih =>
        intro hl
        have ea : xs.toArray[((xs.length : Int) - 1 + (a : Int) * -1).toNat]? = xs.reverse[a]? := by
          have hm := hl a List.mem_cons_self
          rw [List.getElem?_toArray, List.getElem?_reverse hm]
          congr 1
          omega
        rw [List.filterMap_cons, List.filterMap_cons, ea, ih fun m hm => hl m (List.mem_cons_of_mem _ hm)]
    exact gen _ fun m hm => List.mem_range.mp hm
  rw [e]
  have g : ∀ l : List Value, ((List.range l.length).filterMap fun m : Nat => l[m]?) = l := fun l => by
    induction l with
    | nil => rfl
    | cons a t ih =>
      rw [List.length_cons, List.range_succ_eq_map, List.filterMap_cons, List.filterMap_map]
      show a :: (List.range t.length).filterMap (fun m : Nat => t[m]?) = a :: t
      rw [ih]
  have := g xs.reverse
  rwa [List.length_reverse] at this
theorem rv_item {t sl : Addr} {its : List Value} {u : Tok} {Q : Value → Shared → Prop} (ht : PyProof.Rows.IsTup s.heap t its.toArray) (hs : s.heap.IsSliceOf sl .none .none (.int (-1) u)) (hz : its.length ≤ sizeLine)
    (h : Q (.ref s.heap.objs.size) { s with heap := s.heap.push { cls := .type "tuple", data := .seq its.reverse.toArray } }) : wpAny (model prog w) A (getItem (.ref t) (.ref sl)) Q E s := by
  have sz : sizeOk (.seq its.reverse.toArray) := by
    show its.reverse.toArray.size ≤ sizeLine
    rw [List.size_toArray, List.length_reverse]; exact hz
  obtain ⟨os, g1, g2, g3⟩ := id hs
  have ty : s.TypeIs (.ref sl) "slice" := ⟨os, g1, g2⟩
  unfold getItem
  (try with_reducible refine wpAny_holding ?_); (first | refine wpAny_bind (wpAny_pure ?_) | skip)
  refine wpAny_bind (wpAny_sequenceKey ht.typeIs (by decide) (wpAny_bind (wpAny_callSpecial?_slot (name := Str.ofString "__getitem__") ht.typeIs PyProof.Rows.slot_tuple_getitem (wpAny_call_entry PyProof.Rows.slot_tuple_getitem ht.typeIs PyProof.Rows.entry_tuple_getitem ?_ (PyProof.Rows.args_tuple_getitem _ _)))))
  show wpAny _ _ (Builtin.Tuple.tupleItemsOf (.ref t) >>= _) _ _ s
  refine wpAny_bind (PyProof.Rows.tupleItemsOf_ ht (wpAny_bind (wpAny_typeOf ty ?_)))
  rw [if_pos (show (Value.type "slice" == Value.type "slice") = true by decide)]
  have sa : its.toArray.size = its.length := List.size_toArray
  rw [sa]
  refine wpAny_bind (rv_applied hs ?_)
  show wpAny _ _ (if ((((its.length : Int) - 1) == 0) && ((-1 : Int) == 1) && (its.length == its.length)) = true then _ else _) _ _ s
  rw [if_neg (by simp), rv_pick]
  first
    | exact wpAny_bind (m := Builtin.Tuple.tupleExact _) (wpAny_newObj_type (wpAny_pure ⟨_, rfl, wpAny_pure h⟩) sz)
    | exact wpAny_bind (m := Builtin.Tuple.tupleExact _) (wpAny_newObj_type (wpAny_bind (wpAny_pure (wpAny_pure ⟨_, rfl, wpAny_pure h⟩))) sz)
    | exact wpAny_bind (wpAny_bind (m := Builtin.Tuple.tupleExact _) (wpAny_newObj_type (wpAny_pure (wpAny_pure ⟨_, rfl, wpAny_pure h⟩)) sz))
    | exact wpAny_bind (wpAny_bind (m := Builtin.Tuple.tupleExact _) (wpAny_newObj_type (wpAny_pure ⟨_, rfl, wpAny_pure h⟩) sz))
end
section
variable {ca : Xc → Addr} {X : Cx} {W : WX} {L : Lk} {O O1 : List Nat} {m : Md} {a b c e : Expr} {fa fb fc : EF} {pos : Pos} {es : List Expr} {sts : List Stmt} {s1 : SF}
def tRevT (K : PySem.W.Frag) (te : TE) : TE := fun σ H Q => te σ H fun x H1 => ∃ a xs, x = .ref a ∧ SqT K H1 a xs ∧ ∀ p, H1 p = none → Q (.ref p) (upd H1 p (.tup xs.reverse))
theorem pe_revT {te : TE} {k : Nat} {p1 p2 p3 pos : Pos} (he : PE X e te) : PE X (.Subscript e (.Slice none none (some (.UnaryOp .USub (.Constant (.int 1) k p1) p2)) p3) pos) (tRevT X.K te) := by
  refine ⟨fun pins s σ H Q I h => PyProof.Rows.Subscript_ (thn (he.run pins s σ H _ I h) fun v s1 ⟨x, H1, I1, r1, q1⟩ => ?_)⟩
  obtain ⟨a, xs, ex, hx, q⟩ := q1
  subst ex
  cases r1
  have st : PO X (some (.UnaryOp .USub (.Constant (.int 1) k p1) p2)) (tPart (tUn (rU fun i => .int (-i)) (tC (.int 1)))) := po_some (pe_un un_neg pe_int)
  refine wpAny_Slice (thn (po_none.run pins s1 σ H1 (fun o H2 => o = none ∧ H2 = H1) I1 ⟨rfl, rfl⟩) fun vl s2 ⟨l, H2, I2, pl, el, z2⟩ => thn (po_none.run pins s2 σ H2 (fun o H3 => o = none ∧ H3 = H2) I2 ⟨rfl, rfl⟩) fun vu s3 ⟨u, H3, I3, pu, eu, z3⟩ => thn (st.run pins s3 σ H3 (fun o H4 => o = some (-1) ∧ H4 = H3) I3 ⟨1, rfl, -1, rfl, rfl, rfl⟩) fun vs s4 ⟨o, H4, I4, ps, eo, z4⟩ => ?_)
  subst el z2 eu z3 eo z4
  cases pl
  cases pu
  obtain ⟨tok, rfl⟩ : ∃ tok, vs = Value.int (-1) tok := by
    cases ps with
    | int i t => exact ⟨t, rfl⟩
  have I5 : L2.Inv X pins σ H4 { s4 with heap := s4.heap.push { cls := .type "slice", data := .fields #[.none, .none, .int (-1) tok] } } := I4.kept (t' := s4.toks) fun _ _ q => Heap.get?_push_of_some _ q
  obtain ⟨its, r, ht, hz⟩ := I5.tuple hx
  have ln := r.length
  refine PyProof.Rows.tail_any (ops := [.ref a, .ref s4.heap.objs.size]) ht.typeIs (PyProof.Rows.slot_tuple_getitem.lookup) ?_ (by with_unfolding_all rfl)
  refine rv_item ht (Heap.IsSliceOf.new _ _ _ _) (by omega) ?_
  exact ⟨.ref _, _, I5.laid (t' := s4.toks) (o := .tup xs.reverse) (fun _ _ q => Heap.get?_push_of_some _ q) (Nat.le_refl _) (show ObjOk X.prog X.w _ _ _ (.tup xs.reverse) from ⟨by rw [List.length_reverse]; exact hz, _, r.reverse, PyProof.Rows.IsTup.new _ _⟩), rfl, q _ (I5.hok.fresh (Nat.le_refl _))⟩
def revLD : D → R D
  | .list xs => .ok (.list xs.reverse)
  | _ => .no
def revTD : D → R D
  | .tuple xs => .ok (.tuple xs.reverse)
  | _ => .no
theorem se_revL {k : Nat} {p1 p2 p3 : Pos} (h : SE ca X W O .B e fa) : SE ca X W O .O (.Subscript e (.Slice none none (some (.UnaryOp .USub (.Constant (.int 1) k p1) p2)) p3) pos) (eOp1 revLD fa) := by
  obtain ⟨t, pp, q⟩ := h
  refine ⟨_, pe_revL pp, fun B F0 F H σ env Q s n k x => ?_⟩
  have n1 := bind_ne n
  refine q B F0 F H σ env _ s n1.1 (fun d h1 v F1 H1 e1 r1 => ?_) (fun c hc => x c (by show (fa env >>= _) = _; rw [hc]; rfl))
  obtain ⟨z, hz⟩ := quiet_ne (n1.2 d h1)
  cases d <;> try (cases hz; done)
  rename_i ds
  cases hz
  obtain ⟨p, xs, a1, a2, a3, a4⟩ := View.list e1.fh r1
  subst a1
  refine ⟨p, xs, rfl, SqL.of a2, fun r hr => own_new (ds := ds.reverse) e1.fh hr (by rw [List.length_reverse]; exact a3) a4.reverse fun v F' H' ee r' => k _ (by show (fa env >>= _) = _; rw [h1]; rfl) v F' H' (e1.trans ee) (r'.back e1.hh)⟩
theorem se_revT {k : Nat} {p1 p2 p3 : Pos} (h : SE ca X W O .B e fa) : SE ca X W O .E (.Subscript e (.Slice none none (some (.UnaryOp .USub (.Constant (.int 1) k p1) p2)) p3) pos) (eOp1 revTD fa) := by
  obtain ⟨t, pp, q⟩ := h
  refine ⟨_, pe_revT pp, fun B F0 F H σ env Q s n k x => ?_⟩
  have n1 := bind_ne n
  refine q B F0 F H σ env _ s n1.1 (fun d h1 v F1 H1 e1 r1 => ?_) (fun c hc => x c (by show (fa env >>= _) = _; rw [hc]; rfl))
  obtain ⟨z, hz⟩ := quiet_ne (n1.2 d h1)
  cases d <;> try (cases hz; done)
  rename_i ds
  cases hz
  obtain ⟨p, xs, a1, a2, a2', a3, a4⟩ := View.tup e1.fh r1
  subst a1
  refine ⟨p, xs, rfl, SqT.of a2, fun r hr => fz_newT (ds := ds.reverse) e1.fh hr (by rw [List.length_reverse]; exact a3) a4.reverse fun v F' H' ee r' => k (.tuple ds.reverse) (by show (fa env >>= _) = _; rw [h1]; rfl) v F' H' (e1.trans ee) r'⟩
end
end Rt
/-! M0: reckoning with mirrors: the rows for simp. -/
namespace Rt
open PySem L2
section
variable {env : Env} {a b c : EF} {t u : TF} {x y : D}
@[simp] theorem slot_zero (d : D) (env : Env) : slot (some d :: env) 0 = .ok d := rfl
@[simp] theorem slot_succ (o : Option D) (env : Env) (i : Nat) : slot (o :: env) (i + 1) = slot env i := by
  unfold slot
  rw [List.getElem?_cons_succ]
@[simp] theorem eVar_ap (i : Nat) : eVar i env = slot env i := rfl
@[simp] theorem eC_ap (d : D) : eC d env = .ok d := rfl
@[simp] theorem eOp1_ap (g : D → R D) : eOp1 g a env = (a env >>= fun x => quiet (g x)) := rfl
@[simp] theorem eOp2_ap (g : D → D → R D) : eOp2 g a b env = (a env >>= fun x => b env >>= fun y => quiet (g x y)) := rfl
@[simp] theorem tTru_ap : tTru a env = (a env >>= truthD) := rfl
@[simp] theorem tVal_ap : tVal a env = (a env >>= fun d => match d with | .bool b => .ok b | _ => .no) := rfl
@[simp] theorem tNot_ap : tNot t env = (t env >>= fun b => .ok !b) := rfl
@[simp] theorem tAnd_ap : tAnd t u env = (t env >>= fun b => if b = true then u env else .ok false) := rfl
@[simp] theorem tOr_ap : tOr t u env = (t env >>= fun b => if b = true then .ok true else u env) := rfl
@[simp] theorem tYes_ap : tYes env = .ok true := rfl
@[simp] theorem eIf_ap : eIf t a b env = (t env >>= fun k => if k = true then a env else b env) := rfl
@[simp] theorem eAnd_ap : eAnd a b env = (a env >>= fun x => truthD x >>= fun k => if k = true then b env else .ok x) := rfl
@[simp] theorem eOr_ap : eOr a b env = (a env >>= fun x => truthD x >>= fun k => if k = true then .ok x else b env) := rfl
@[simp] theorem eNot_ap : eNot a env = (a env >>= fun x => truthD x >>= fun k => .ok (.bool !k)) := rfl
@[simp] theorem eChain_ap (g g' : D → D → R D) : eChain g g' a b c env = (a env >>= fun x => b env >>= fun y => quiet (g x y) >>= fun z => match z with
  | .bool true => c env >>= fun w => quiet (g' y w)
  | .bool false => .ok (.bool false)
  | _ => .no) := rfl
@[simp] theorem aNil_ap : aNil env = .ok [] := rfl
@[simp] theorem aCons_ap (r : AF) : aCons a r env = (a env >>= fun x => r env >>= fun xs => .ok (x :: xs)) := rfl
@[simp] theorem eCall_ap (f : List D → R D) (r : AF) : eCall f r env = (r env >>= f) := rfl
@[simp] theorem eCallB_ap (f : List D → R D) (r : AF) : eCallB f r env = (r env >>= fun xs => quiet (f xs)) := rfl
@[simp] theorem eTup_ap (r : AF) : eTup r env = (r env >>= fun xs => if xs.length ≤ sizeLine then .ok (.tuple xs) else .no) := rfl
@[simp] theorem eList_ap (r : AF) : eList r env = (r env >>= fun xs => if xs.length ≤ sizeLine then .ok (.list xs) else .no) := rfl
@[simp] theorem gName_ap (i : Nat) (d : D) : gName i d env = .ok (env.set i (some d)) := rfl
@[simp] theorem gNil_ap : gNil [] env = .ok env := rfl
@[simp] theorem gCons_ap (g : GF) (r : List D → Env → R Env) (d : D) (ds : List D) : gCons g r (d :: ds) env = (g d env >>= fun e => r ds e) := rfl
theorem gTup_ap (n : Nat) (gs : List D → Env → R Env) (ds : List D) (h : ds.length = n) : gTup n gs (.tuple ds) env = gs ds env := if_pos h
@[simp] theorem gTup2 (gs : List D → Env → R Env) (x y : D) : gTup 2 gs (.tuple [x, y]) env = gs [x, y] env := rfl
@[simp] theorem gTup3 (gs : List D → Env → R Env) (x y z : D) : gTup 3 gs (.tuple [x, y, z]) env = gs [x, y, z] env := rfl
@[simp] theorem truth_none : truthD .none = .ok false := rfl
@[simp] theorem truth_bool (b : Bool) : truthD (.bool b) = .ok b := rfl
@[simp] theorem truth_int (i : Int) : truthD (.int i) = .ok (i != 0) := rfl
@[simp] theorem truth_list (l : List D) : truthD (.list l) = .ok !l.isEmpty := rfl
@[simp] theorem truth_tuple (l : List D) : truthD (.tuple l) = .ok !l.isEmpty := rfl
@[simp] theorem addD_int (i j : Int) : addD (.int i) (.int j) = .ok (.int (i + j)) := rfl
@[simp] theorem addI_int (i j : Int) : addI (.int i) (.int j) = .ok (.int (i + j)) := rfl
@[simp] theorem subD_int (i j : Int) : subD (.int i) (.int j) = .ok (.int (i - j)) := rfl
@[simp] theorem negD_int (i : Int) : negD (.int i) = .ok (.int (-i)) := rfl
@[simp] theorem cmpD_int (p : Int → Int → Bool) (i j : Int) : cmpD p (.int i) (.int j) = .ok (.bool (p i j)) := rfl
theorem modD_int {i j : Int} (h : 0 < j) : modD (.int i) (.int j) = .ok (.int (i % j)) := if_pos h
theorem fdivD_int {i j : Int} (h : 0 < j ∧ j < 1073741824) : fdivD (.int i) (.int j) = .ok (.int (i / j)) := if_pos h
theorem mulD_int {i j : Int} (h : (-(2 ^ 64) < i ∧ i < 2 ^ 64) ∨ (-(2 ^ 64) < j ∧ j < 2 ^ 64)) : mulD (.int i) (.int j) = .ok (.int (i * j)) := if_pos h
theorem powD_int {i j : Int} (h : 0 ≤ j ∧ (Builtin.Int.intBits i : Int) * j ≤ 2 ^ 27) : powD (.int i) (.int j) = .ok (.int (i ^ j.toNat)) := if_pos h
@[simp] theorem isD_none (neg : Bool) (d : D) : isD neg d .none = .ok (.bool (neg ^^ isNone d)) := by cases d <;> rfl
@[simp] theorem isD_bool (neg a b : Bool) : isD neg (.bool a) (.bool b) = .ok (.bool (neg ^^ decide (a = b))) := rfl
@[simp] theorem isNone_none : isNone .none = true := rfl
@[simp] theorem isNone_int (i : Int) : isNone (.int i) = false := rfl
@[simp] theorem isNone_tuple (i : List D) : isNone (.tuple i) = false := rfl
@[simp] theorem isNone_list (i : List D) : isNone (.list i) = false := rfl
@[simp] theorem isNone_bool (i : Bool) : isNone (.bool i) = false := rfl
@[simp] theorem lenD_list (l : List D) : lenD [.list l] = .ok (.int (l.length : Int)) := rfl
@[simp] theorem lenD_tuple (l : List D) : lenD [.tuple l] = .ok (.int (l.length : Int)) := rfl
@[simp] theorem lenD_script (ns : List Int) : lenD [scriptD ns] = .ok (.int (ns.length : Int)) := by
  show R.ok (PyData.int (((ns.map PyData.int).length : Nat) : Int)) = _
  rw [List.length_map]
@[simp] theorem tupleD_list (l : List D) : tupleD [.list l] = .ok (.tuple l) := rfl
@[simp] theorem tupleD_tuple (l : List D) : tupleD [.tuple l] = .ok (.tuple l) := rfl
@[simp] theorem listD_list (l : List D) : listD [.list l] = .ok (.list l) := rfl
@[simp] theorem listD_tuple (l : List D) : listD [.tuple l] = .ok (.list l) := rfl
@[simp] theorem min2D_int (i j : Int) : min2D [.int i, .int j] = .ok (.int (if j < i then j else i)) := rfl
@[simp] theorem max2D_int (i j : Int) : max2D [.int i, .int j] = .ok (.int (if j > i then j else i)) := rfl
@[simp] theorem absD_int (i : Int) : absD [.int i] = .ok (.int (if i < 0 then -i else i)) := rfl
@[simp] theorem isi_none (T : String) : isiD T .none = .ok (.bool false) := rfl
@[simp] theorem isiD_bool (T : String) (b : Bool) : isiD T (.bool b) = .ok (.bool (T == "bool" || T == "int")) := rfl
@[simp] theorem isiD_int (T : String) (i : Int) : isiD T (.int i) = .ok (.bool (T == "int")) := rfl
@[simp] theorem isiD_str (T : String) (i : Str) : isiD T (.str i) = .ok (.bool (T == "str")) := rfl
@[simp] theorem isiD_list (T : String) (i : List D) : isiD T (.list i) = .ok (.bool (T == "list")) := rfl
@[simp] theorem isiD_tuple (T : String) (i : List D) : isiD T (.tuple i) = .ok (.bool (T == "tuple")) := rfl
@[simp] theorem iSeq_ap : iSeq a env = (a env >>= fun d => match d with | .list xs => .ok xs | .tuple xs => .ok xs | _ => .no) := rfl
@[simp] theorem iZip_ap : iZip a b env = (a env >>= fun d => b env >>= fun e => seqOf d >>= fun xs => seqOf e >>= fun ys => .ok (zipL xs ys)) := rfl
@[simp] theorem iEnum_ap : iEnum a env = (a env >>= fun d => seqOf d >>= fun xs => .ok (enumL 0 xs)) := rfl
@[simp] theorem seqOf_list (l : List D) : seqOf (.list l) = .ok l := rfl
@[simp] theorem seqOf_tuple (l : List D) : seqOf (.tuple l) = .ok l := rfl
@[simp] theorem iRange1_ap : iRange1 a env = (a env >>= fun d => match d with | .int n => if -100000 ≤ n ∧ n ≤ 100000 then .ok (rangeL 0 n) else .no | _ => .no) := rfl
@[simp] theorem iRange2_ap : iRange2 a b env = (a env >>= fun d => b env >>= fun e => match d, e with
  | .int m, .int n => if -100000 ≤ m ∧ m ≤ 100000 ∧ -100000 ≤ n ∧ n ≤ 100000 then .ok (rangeL m n) else .no
  | _, _ => .no) := rfl
theorem eComp_ap (src : IF_) (g : GF) (vs : List Nat) (t : TF) (e : EF) : eComp src g vs t e env = (src env >>= fun ds => quiet (compL g t e (wipeE env vs) ds) >>= fun r => .ok (.list r)) := rfl
@[simp] theorem eSlice_ap (lo hi : OF) : eSlice a lo hi env = (a env >>= fun x => lo env >>= fun l => hi env >>= fun h => quiet (sliceD x l h)) := rfl
@[simp] theorem oNone_ap : oNone env = .ok none := rfl
@[simp] theorem oSome_ap : oSome a env = (a env >>= fun d => match d with | .int i => .ok (some i) | _ => .no) := rfl
@[simp] theorem sPass_ap : sPass env = .nx env := rfl
@[simp] theorem outR_ok {α : Type} (z : α) (k : α → Out) : outR (.ok z) env k = k z := rfl
@[simp] theorem outR_exc {α : Type} (z : Xc) (k : α → Out) : outR (.exc z) env k = .ex z env := rfl
@[simp] theorem sSeq_ap (p q : SF) : sSeq p q env = (match p env with | .nx e => q e | o => o) := rfl
@[simp] theorem sAsg_ap (g : GF) : sAsg a g env = outR (a env) env (fun d => match g d env with | .ok env' => .nx env' | _ => .no) := rfl
@[simp] theorem sExpr_ap : sExpr a env = outR (a env) env (fun _ => .nx env) := rfl
@[simp] theorem sRet_ap : sRet a env = outR (a env) env (fun d => .rt d) := rfl
@[simp] theorem sRaise_ap (z : Xc) : sRaise z env = .ex z env := rfl
@[simp] theorem sIf_ap (p q : SF) : sIf t p q env = outR (t env) env (fun k => if k = true then p env else q env) := rfl
@[simp] theorem sSetO_ap (i : Nat) : sSetO i a env = if i < env.length then sAsg a (gName i) env else .no := rfl
@[simp] theorem sFor_ap (src : IF_) (g : GF) (body : SF) : sFor src g body env = outR (src env) env (fun ds => loopL g body ds env) := rfl
@[simp] theorem sMut_ap (i : Nat) (f : List D → D → R (List D)) : sMut i f a env = (match slot env i with
  | .ok (.list xs) => outR (a env) env fun y => (match f xs y with
    | .ok zs => .nx (env.set i (some (.list zs)))
    | _ => .no)
  | _ => .no) := rfl
@[simp] theorem sAug_ap (i : Nat) (g : D → D → R D) : sAug i g a env = outR (slot env i) env (fun x => outR (a env) env fun y => match g x y with
  | .ok z => .nx (env.set i (some z))
  | _ => .no) := rfl
@[simp] theorem sTryK_ap (cs : List Xc) (b : SF) (hs : List (Xc × SF)) : sTryK cs b hs env = (match b env with
  | .ex c e => if c ∈ cs then catchK hs c e else .no
  | o => o) := rfl
@[simp] theorem catchK_nil (c : Xc) : catchK [] c env = .ex c env := rfl
@[simp] theorem catchK_cons (h c : Xc) (s : SF) (r : List (Xc × SF)) : catchK ((h, s) :: r) c env = if c = h then (match s env with
    | .ex _ _ => .no
    | o => o) else catchK r c env := rfl
@[simp] theorem eLRg_ap (src : IF_) : eLRg src env = (src env >>= fun ds => .ok (.list ds)) := rfl
@[simp] theorem eTRg_ap (src : IF_) : eTRg src env = (src env >>= fun ds => .ok (.tuple ds)) := rfl
@[simp] theorem intD_int (i : Int) : intD [.int i] = .ok (.int i) := rfl
@[simp] theorem intD_bool (i : Bool) : intD [.bool i] = .ok (.int (if i = true then 1 else 0)) := rfl
@[simp] theorem revLD_list (l : List D) : revLD (.list l) = .ok (.list l.reverse) := rfl
@[simp] theorem revTD_tuple (l : List D) : revTD (.tuple l) = .ok (.tuple l.reverse) := rfl
@[simp] theorem loopL_nil (g : GF) (body : SF) : loopL g body [] env = .nx env := rfl
@[simp] theorem compL_nil (g : GF) : compL g t a env [] = .ok [] := rfl
end
/-! ### loops and comprehensions -/
theorem comp_map {α : Type} {g : GF} {t : TF} {e : EF} {env : Env} (f h : α → D) : ∀ (l : List α), (∀ x ∈ l, ∃ env', g (f x) env = .ok env' ∧ t env' = .ok true ∧ e env' = .ok (h x)) → compL g t e env (l.map f) = .ok (l.map h)
  | [], _ => rfl
  | x :: l, H => by
    obtain ⟨env', h1, h2, h3⟩ := H x List.mem_cons_self
    show (g (f x) env >>= fun env' => t env' >>= fun b => if b = true then e env' >>= fun x => compL g t e env (l.map f) >>= fun r => .ok (x :: r) else compL g t e env (l.map f)) = _
    rw [h1, ok_bind, h2, ok_bind, if_pos rfl, h3, ok_bind, comp_map f h l fun y hy => H y (List.mem_cons_of_mem _ hy)]
    rfl
theorem comp_filter {α : Type} {g : GF} {t : TF} {e : EF} {env : Env} (f h : α → D) (p : α → Bool) : ∀ (l : List α), (∀ x ∈ l, ∃ env', g (f x) env = .ok env' ∧ t env' = .ok (p x) ∧ (p x = true → e env' = .ok (h x))) → compL g t e env (l.map f) = .ok ((l.filter p).map h)
  | [], _ => rfl
  | x :: l, H => by
    obtain ⟨env', h1, h2, h3⟩ := H x List.mem_cons_self
    have ih := comp_filter f h p l fun y hy => H y (List.mem_cons_of_mem _ hy)
    show (g (f x) env >>= fun env' => t env' >>= fun b => if b = true then e env' >>= fun x => compL g t e env (l.map f) >>= fun r => .ok (x :: r) else compL g t e env (l.map f)) = _
    rw [h1, ok_bind, h2, ok_bind, List.filter_cons]
    cases hp : p x with
    | true =>
      rw [if_pos rfl, h3 hp, ok_bind, ih, if_pos rfl]
      rfl
    | false =>
      rw [if_neg (by decide), ih, if_neg (by decide)]
theorem loop_cons {g : GF} {body : SF} {d : D} {ds : List D} {env e e' : Env} (h1 : g d env = .ok e) (h2 : body e = .nx e') : loopL g body (d :: ds) env = loopL g body ds e' := by
  show (match g d env with
    | .ok e => (match body e with
      | .nx e' => loopL g body ds e'
      | .bk e' => .nx e'
      | o => o)
    | _ => .no) = _
  rw [h1]
  show (match body e with
      | .nx e' => loopL g body ds e'
      | .bk e' => .nx e'
      | o => o) = _
  rw [h2]
theorem loop_inv {α : Type} {g : GF} {body : SF} (f : α → D) (Inv : Env → Prop) : ∀ (l : List α) (env : Env), Inv env → (∀ x ∈ l, ∀ env, Inv env → ∃ e e', g (f x) env = .ok e ∧ body e = .nx e' ∧ Inv e') → ∃ env', loopL g body (l.map f) env = .nx env' ∧ Inv env'
  | [], env, h, _ => ⟨env, rfl, h⟩
  | x :: l, env, h, H => by
    obtain ⟨e, e', h1, h2, h3⟩ := H x List.mem_cons_self env h
    obtain ⟨env', h4, h5⟩ := loop_inv f Inv l e' h3 fun y hy => H y (List.mem_cons_of_mem _ hy)
    exact ⟨env', by rw [List.map_cons, loop_cons h1 h2, h4], h5⟩
/-- a loop as a fold over a state that the slots bear -/
theorem loop_fold {α β : Type} {g : GF} {body : SF} (f : α → D) (En : β → Env → Prop) (step : β → α → β) : ∀ (l : List α) (b : β) (env : Env), En b env → (∀ x ∈ l, ∀ b env, En b env → ∃ e e', g (f x) env = .ok e ∧ body e = .nx e' ∧ En (step b x) e') → ∃ env', loopL g body (l.map f) env = .nx env' ∧ En (l.foldl step b) env'
  | [], b, env, h, _ => ⟨env, rfl, h⟩
  | x :: l, b, env, h, H => by
    obtain ⟨e, e', h1, h2, h3⟩ := H x List.mem_cons_self b env h
    obtain ⟨env', h4, h5⟩ := loop_fold f En step l (step b x) e' h3 fun y hy => H y (List.mem_cons_of_mem _ hy)
    exact ⟨env', by rw [List.map_cons, loop_cons h1 h2, h4], h5⟩
theorem rangeL_nat (n : Nat) : rangeL 0 (n : Int) = (List.range n).map fun i : Nat => .int (i : Int) := by
  unfold rangeL
  rw [show ((n : Int) - 0).toNat = n by omega]
  congr 1
  funext i
  rw [Int.zero_add]
theorem rangeL_two (m n : Nat) : rangeL (m : Int) (n : Int) = (List.range (n - m)).map fun i : Nat => .int ((m + i : Nat) : Int) := by
  unfold rangeL
  rw [show ((n : Int) - (m : Int)).toNat = n - m by omega]
  congr 1
/-! ### what may be compared -/
/-- no dict in it, at most k deep -/
def Sh (k : Nat) (d : D) : Prop := d.canLay0 = true ∧ d.depth ≤ k
theorem Sh.none {k : Nat} : Sh k .none := ⟨rfl, Nat.zero_le _⟩
theorem Sh.int {k : Nat} (i : Int) : Sh k (.int i) := ⟨rfl, Nat.zero_le _⟩
theorem Sh.str {k : Nat} (i : Str) (h : (PyData.str i).canLay0 = true := by decide +kernel) : Sh k (.str i) := ⟨h, Nat.zero_le _⟩
theorem Sh.bool {k : Nat} (i : Bool) : Sh k (.bool i) := ⟨rfl, Nat.zero_le _⟩
theorem Sh.mono {j k : Nat} {d : D} (h : Sh j d) (l : j ≤ k) : Sh k d := ⟨h.1, Nat.le_trans h.2 l⟩
theorem sh_all {k : Nat} : ∀ {xs : List D}, (∀ x ∈ xs, Sh k x) → PyData.canLayAll0 xs = true ∧ PyData.depthAll xs ≤ k
  | [], _ => ⟨rfl, Nat.zero_le _⟩
  | x :: xs, h => by
    have h1 := h x List.mem_cons_self
    have h2 := sh_all fun y hy => h y (List.mem_cons_of_mem _ hy)
    refine ⟨?_, ?_⟩
    · simp only [PyData.canLayAll0, h1.1, h2.1, Bool.and_self]
    · show max (PyData.depth x) (PyData.depthAll xs) ≤ k
      exact Nat.max_le.mpr ⟨h1.2, h2.2⟩
theorem Sh.list {k : Nat} {xs : List D} (h : ∀ x ∈ xs, Sh k x) : Sh (k + 1) (.list xs) := by
  obtain ⟨a, b⟩ := sh_all h
  refine ⟨by simp only [PyData.canLay0]; exact a, ?_⟩
  show PyData.depthAll xs + 1 ≤ k + 1
  omega
theorem Sh.tuple {k : Nat} {xs : List D} (h : ∀ x ∈ xs, Sh k x) : Sh (k + 1) (.tuple xs) := by
  obtain ⟨a, b⟩ := sh_all h
  refine ⟨by simp only [PyData.canLay0]; exact a, ?_⟩
  show PyData.depthAll xs + 1 ≤ k + 1
  omega
theorem Sh.ok {k : Nat} {d : D} (h : Sh k d) (l : k ≤ 64 := by decide) : SeqAt.shaped d = true := by
  unfold SeqAt.shaped
  rw [h.1, decide_eq_true (Nat.le_trans h.2 l)]
  rfl
theorem sh_ints (ns : List Int) : ∀ x ∈ ns.map PyData.int, Sh 0 x := fun x hx => by
  obtain ⟨i, _, e⟩ := List.mem_map.mp hx
  rw [← e]
  exact Sh.int i
theorem eq_same {k : Nat} {d : D} (h : Sh k d) (l : k ≤ 64 := by decide) : eqD d d = .ok (.bool true) := by
  unfold eqD
  rw [if_pos ⟨h.ok l, h.ok l⟩, SeqAt.eqv_refl d h.1]
theorem ne_same {k : Nat} {d : D} (h : Sh k d) (l : k ≤ 64 := by decide) : neD d d = .ok (.bool false) := by
  unfold neD
  rw [if_pos ⟨h.ok l, h.ok l⟩, SeqAt.eqv_refl d h.1]
  rfl
theorem eqD_sh {j k : Nat} {d e : D} (h : Sh j d) (h' : Sh k e) (l : j ≤ 64 := by decide) (l' : k ≤ 64 := by decide) : eqD d e = .ok (.bool (PyData.eqv d e)) := by
  unfold eqD
  rw [if_pos ⟨h.ok l, h'.ok l'⟩]
theorem neD_sh {j k : Nat} {d e : D} (h : Sh j d) (h' : Sh k e) (l : j ≤ 64 := by decide) (l' : k ≤ 64 := by decide) : neD d e = .ok (.bool (!PyData.eqv d e)) := by
  unfold neD
  rw [if_pos ⟨h.ok l, h'.ok l'⟩]
@[simp] theorem eqD_int (i j : Int) : eqD (.int i) (.int j) = .ok (.bool (i == j)) := by
  rw [eqD_sh (Sh.int (k := 0) i) (Sh.int (k := 0) j)]
  rfl
@[simp] theorem neD_int (i j : Int) : neD (.int i) (.int j) = .ok (.bool (i != j)) := by
  rw [neD_sh (Sh.int (k := 0) i) (Sh.int (k := 0) j)]
  rfl
theorem eqD_str (i j : Str) (h : (PyData.str i).canLay0 = true := by decide +kernel) (h' : (PyData.str j).canLay0 = true := by decide +kernel) : eqD (.str i) (.str j) = .ok (.bool (i == j)) := by
  rw [eqD_sh (j := 0) (k := 0) (Sh.str i h) (Sh.str j h')]
  rfl
theorem neD_str (i j : Str) (h : (PyData.str i).canLay0 = true := by decide +kernel) (h' : (PyData.str j).canLay0 = true := by decide +kernel) : neD (.str i) (.str j) = .ok (.bool (i != j)) := by
  rw [neD_sh (j := 0) (k := 0) (Sh.str i h) (Sh.str j h')]
  rfl
theorem neS_same (i : Str) (h : (PyData.str i).canLay0 = true := by decide +kernel) : neD (.str i) (.str i) = .ok (.bool false) := ne_same (k := 0) (Sh.str i h)
theorem eqS_same (i : Str) (h : (PyData.str i).canLay0 = true := by decide +kernel) : eqD (.str i) (.str i) = .ok (.bool true) := eq_same (k := 0) (Sh.str i h)
theorem neS_diff {i j : Str} (e : (i == j) = false := by decide +kernel) (h : (PyData.str i).canLay0 = true := by decide +kernel) (h' : (PyData.str j).canLay0 = true := by decide +kernel) : neD (.str i) (.str j) = .ok (.bool true) := by
  rw [neD_str i j h h']
  show R.ok (PyData.bool (!(i == j))) = _
  rw [e]
  rfl
example : neD (.str "table") (.str "ring") = .ok (.bool true) := neS_diff
@[simp] theorem eqD_bool (i j : Bool) : eqD (.bool i) (.bool j) = .ok (.bool (i == j)) := by
  rw [eqD_sh (Sh.bool (k := 0) i) (Sh.bool (k := 0) j)]
  rfl
@[simp] theorem neD_bool (i j : Bool) : neD (.bool i) (.bool j) = .ok (.bool (i != j)) := by
  rw [neD_sh (Sh.bool (k := 0) i) (Sh.bool (k := 0) j)]
  rfl
theorem eqv_nil : ∀ (xs : List D), PyData.eqv (.list xs) (.list []) = xs.isEmpty
  | [] => rfl
  | _ :: _ => rfl
theorem eqv_ints : ∀ (a b : List Int), PyData.eqvAll (a.map PyData.int) (b.map PyData.int) = decide (a = b)
  | [], [] => rfl
  | [], _ :: _ => rfl
  | _ :: _, [] => rfl
  | x :: a, y :: b => by
    show (PyData.eqv (.int x) (.int y) && PyData.eqvAll (a.map PyData.int) (b.map PyData.int)) = _
    rw [eqv_ints a b]
    show ((x == y) && decide (a = b)) = _
    by_cases h1 : x = y
    · by_cases h2 : a = b
      · simp [h1, h2]
      · simp [h1, h2]
    · simp [h1]
theorem in_ints (neg : Bool) (x : Int) (ns : List Int) : inA neg (.int x) (.list (ns.map PyData.int)) = .ok (.bool (neg ^^ decide (x ∈ ns))) := by
  show (if SeqAt.shaped (.int x) = true ∧ SeqAt.shaped (.list (ns.map PyData.int)) = true then R.ok (PyData.bool (neg ^^ (ns.map PyData.int).any fun z => PyData.eqv z (.int x))) else R.no) = _
  rw [if_pos ⟨(Sh.int (k := 0) x).ok, (Sh.list (sh_ints ns)).ok⟩]
  congr 3
  rw [List.any_map]
  induction ns with
  | nil => rfl
  | cons y r ih =>
    rw [List.any_cons, ih]
    show ((y == x) || decide (x ∈ r)) = _
    by_cases h : x = y
    · simp [h]
    · have h' : ¬ y = x := fun z => h z.symm
      simp [h, h']
theorem in_tints (neg : Bool) (x : Int) (ns : List Int) : inA neg (.int x) (.tuple (ns.map PyData.int)) = .ok (.bool (neg ^^ decide (x ∈ ns))) := by
  have h := in_ints neg x ns
  have e1 : inA neg (.int x) (.list (ns.map PyData.int)) = if SeqAt.shaped (.int x) = true ∧ SeqAt.shaped (.list (ns.map PyData.int)) = true then R.ok (PyData.bool (neg ^^ (ns.map PyData.int).any fun z => PyData.eqv z (.int x))) else R.no := rfl
  rw [e1, if_pos ⟨(Sh.int (k := 0) x).ok, (Sh.list (sh_ints ns)).ok⟩] at h
  show (if SeqAt.shaped (.int x) = true ∧ SeqAt.shaped (.tuple (ns.map PyData.int)) = true then R.ok (PyData.bool (neg ^^ (ns.map PyData.int).any fun z => PyData.eqv z (.int x))) else R.no) = _
  rw [if_pos ⟨(Sh.int (k := 0) x).ok, (Sh.tuple (sh_ints ns)).ok⟩, h]
theorem ix_list_nat {l : List D} {i : Nat} {d : D} (h : l[i]? = some d) : ixD (.list l) (.int (i : Int)) = .ok d := by
  show atD l (i : Int) = _
  unfold atD
  rw [atI_nat h]
theorem ix_tuple_nat {l : List D} {i : Nat} {d : D} (h : l[i]? = some d) : ixD (.tuple l) (.int (i : Int)) = .ok d := by
  show atD l (i : Int) = _
  unfold atD
  rw [atI_nat h]
theorem ix_ints {l : List Int} {i : Int} (h0 : 0 ≤ i) (h : i < l.length) : ixD (.list (l.map PyData.int)) (.int i) = .ok (.int (l.getD i.toNat 0)) := by
  have e : i = (i.toNat : Int) := by omega
  rw [e]
  refine ix_list_nat ?_
  rw [List.getElem?_map, Int.toNat_natCast, List.getElem?_eq_getElem (by omega), List.getD_eq_getElem?_getD, List.getElem?_eq_getElem (by omega)]
  rfl
theorem ix_intsT {l : List Int} {i : Int} (h0 : 0 ≤ i) (h : i < l.length) : ixD (.tuple (l.map PyData.int)) (.int i) = .ok (.int (l.getD i.toNat 0)) := by
  have e : i = (i.toNat : Int) := by omega
  rw [e]
  refine ix_tuple_nat ?_
  rw [List.getElem?_map, Int.toNat_natCast, List.getElem?_eq_getElem (by omega), List.getD_eq_getElem?_getD, List.getElem?_eq_getElem (by omega)]
  rfl
theorem shaped_scalar {d : D} (h : d.canLay0 = true) (h2 : d.depth ≤ 64) : SeqAt.shaped d = true := by
  unfold SeqAt.shaped
  rw [h, decide_eq_true h2]
  rfl
end Rt
/-! M1: more rows for reckoning: sums, greatest, least, pairs, zip, last items. -/
namespace Rt
open PySem L2
theorem small6 {n : Nat} (h : n ≤ 100) : n ≤ sizeLine := Nat.le_trans h (by decide)
theorem sPut_ap {env : Env} (i : Nat) (f : D → D → D → R D) (k e : EF) : sPut i f k e env = outR (e env) env fun y => outR (k env) env fun q => match slot env i with
  | .ok x => (match f x q y with
    | .ok z => .nx (env.set i (some z))
    | _ => .no)
  | _ => .no := rfl
@[simp] theorem sumD_ints (ns : List Int) : sumD [.list (ns.map PyData.int)] = .ok (.int ns.sum) := by
  unfold sumD
  simp
theorem maxD_ints {ns : List Int} (h : ns ≠ []) : maxD [.list (ns.map PyData.int)] = .ok (.int (maxI ns)) := by
  cases ns with
  | nil => exact absurd rfl h
  | cons n ns =>
    unfold maxD
    simp only [intsD_map]
theorem zipL_map {α β : Type} (f : α → D) (g : β → D) : ∀ (xs : List α) (ys : List β), zipL (xs.map f) (ys.map g) = (xs.zip ys).map fun p => .tuple [f p.1, g p.2]
  | [], ys => by simp [zipL]
  | x :: xs, [] => by simp [zipL]
  | x :: xs, y :: ys => by
    have := zipL_map f g xs ys
    simp only [zipL, List.map_cons, List.zipWith_cons_cons, List.zip_cons_cons] at *
    rw [this]
theorem cut_take1 (l : List D) : cutD l none (some 1) = l.take 1 := by
  unfold cutD
  rw [show HT.sIx l.length l.length (some 1) = min 1 l.length from HT.sIx_nat l.length l.length 1, HT.sIx_none]
  cases l with
  | nil => rfl
  | cons x r =>
    rw [List.length_cons, show min 1 (r.length + 1) = 1 by omega]
    rfl
theorem cut_drop1 (l : List D) : cutD l (some 1) none = l.drop 1 := by
  unfold cutD
  rw [show HT.sIx l.length 0 (some 1) = min 1 l.length from HT.sIx_nat l.length 0 1, HT.sIx_none]
  cases l with
  | nil => rfl
  | cons x r =>
    rw [List.length_cons, show min 1 (r.length + 1) = 1 by omega]
    show List.take (r.length + 1 - 1) r = r
    rw [Nat.add_sub_cancel, List.take_length]
/-! ### pairs of numbers, in order -/
def pair (p : Int × Int) : D := .tuple [.int p.1, .int p.2]
def ltPr (p q : Int × Int) : Bool := decide (p.1 < q.1 ∨ (p.1 = q.1 ∧ p.2 < q.2))
def minP (p : Int × Int) (ps : List (Int × Int)) : Int × Int := ps.foldl (fun a y => if ltPr y a = true then y else a) p
theorem minD_pairs : ∀ (ps : List (Int × Int)) (p : Int × Int), W.minD (pair p) (ps.map pair) = pair (minP p ps)
  | [], p => rfl
  | q :: ps, p => by
    have e : W.dataLt (pair q) (pair p) = ltPr q p := W.dataLt_ii q.1 q.2 p.1 p.2
    show W.minD (if W.dataLt (pair q) (pair p) = true then pair q else pair p) (ps.map pair) = pair (minP (if ltPr q p = true then q else p) ps)
    rw [e]
    by_cases z : ltPr q p = true
    · rw [if_pos z, if_pos z, minD_pairs ps q]
    · rw [if_neg z, if_neg z, minD_pairs ps p]
theorem minP_spec : ∀ (ps : List (Int × Int)) (p : Int × Int), minP p ps ∈ p :: ps ∧ ∀ q ∈ p :: ps, ltPr q (minP p ps) = false
  | [], p => ⟨List.mem_cons_self, fun q hq => by
    rcases List.mem_cons.mp hq with e | e
    · rw [e]
      show ltPr p p = false
      unfold ltPr
      exact decide_eq_false (by omega)
    · cases e⟩
  | y :: ps, p => by
    obtain ⟨h1, h2⟩ := minP_spec ps (if ltPr y p = true then y else p)
    have e : minP p (y :: ps) = minP (if ltPr y p = true then y else p) ps := rfl
    rw [e]
    generalize minP (if ltPr y p = true then y else p) ps = m at *
    by_cases z : ltPr y p = true
    · rw [if_pos z] at h1 h2
      refine ⟨List.mem_cons_of_mem _ h1, fun q hq => ?_⟩
      rcases List.mem_cons.mp hq with e | e
      · rw [e]
        have := h2 y List.mem_cons_self
        unfold ltPr at *
        have z := of_decide_eq_true z
        have this := of_decide_eq_false this
        exact decide_eq_false (by omega)
      · exact h2 q e
    · rw [if_neg z] at h1 h2
      refine ⟨?_, fun q hq => ?_⟩
      · rcases List.mem_cons.mp h1 with e | e
        · rw [e]; exact List.mem_cons_self
        · exact List.mem_cons_of_mem _ (List.mem_cons_of_mem _ e)
      · rcases List.mem_cons.mp hq with e | e
        · rw [e]; exact h2 p List.mem_cons_self
        · rcases List.mem_cons.mp e with e | e
          · rw [e]
            have := h2 p List.mem_cons_self
            unfold ltPr at *
            have z : ¬ (y.1 < p.1 ∨ (y.1 = p.1 ∧ y.2 < p.2)) := fun w => z (decide_eq_true w)
            have this := of_decide_eq_false this
            exact decide_eq_false (by omega)
          · exact h2 q (List.mem_cons_of_mem _ e)
theorem alikeL_of {ds : List D} {k : Nat} (h : ∀ x ∈ ds, ∀ y ∈ ds, W.alike x y = true) (hn : ∀ x ∈ ds, isNone x = false) (hs : ∀ x ∈ ds, Sh k x) (hk : k ≤ 60 := by decide) : alikeL ds = true := by
  unfold alikeL
  obtain ⟨a, b⟩ := sh_all hs
  rw [Bool.and_eq_true, Bool.and_eq_true, Bool.and_eq_true]
  refine ⟨⟨⟨List.all_eq_true.mpr fun x hx => List.all_eq_true.mpr fun y hy => h x hx y hy, List.all_eq_true.mpr fun x hx => by rw [hn x hx]; rfl⟩, a⟩, decide_eq_true (Nat.le_trans b hk)⟩
theorem Sh.pair (p : Int × Int) : Sh 1 (pair p) := Sh.tuple fun x hx => by
  rcases List.mem_cons.mp hx with e | e
  · rw [e]; exact Sh.int _
  · rcases List.mem_cons.mp e with e | e
    · rw [e]; exact Sh.int _
    · cases e
theorem alikeL_pairs (ps : List (Int × Int)) : alikeL (ps.map pair) = true := by
  refine alikeL_of (k := 1) (fun x hx y hy => ?_) (fun x hx => ?_) fun x hx => ?_
  · obtain ⟨p, _, e⟩ := List.mem_map.mp hx
    obtain ⟨q, _, e2⟩ := List.mem_map.mp hy
    rw [← e, ← e2]
    simp [Rt.pair, W.alike, W.alikeAll]
  · obtain ⟨p, _, e⟩ := List.mem_map.mp hx
    rw [← e]; rfl
  · obtain ⟨p, _, e⟩ := List.mem_map.mp hx
    rw [← e]; exact Sh.pair p
theorem minAD_pairs (p : Int × Int) (ps : List (Int × Int)) : minAD [.list ((p :: ps).map pair)] = .ok (pair (minP p ps)) := by
  have a := alikeL_pairs (p :: ps)
  show (if alikeL (pair p :: ps.map pair) = true then R.ok (W.minD (pair p) (ps.map pair)) else .no) = _
  rw [if_pos (show alikeL (pair p :: ps.map pair) = true from a), minD_pairs]
theorem atI_neg1 {l : List D} {d : D} (h : l[l.length - 1]? = some d) (hl : 0 < l.length) : atI l (-1) = some d := by
  unfold atI ixN
  rw [if_neg (by decide), if_pos (by omega)]
  show l[((l.length : Int) + -1).toNat]? = some d
  rw [show ((l.length : Int) + -1).toNat = l.length - 1 by omega, h]
theorem ix_neg1 {l : List Int} (h : 0 < l.length) : ixD (.tuple (l.map PyData.int)) (.int (-1)) = .ok (.int (l.getD (l.length - 1) 0)) := by
  show atD (l.map PyData.int) (-1) = _
  unfold atD
  rw [atI_neg1 (d := .int (l.getD (l.length - 1) 0)) (by
    rw [List.length_map, List.getElem?_map, List.getElem?_eq_getElem (show l.length - 1 < l.length by omega), List.getD_eq_getElem?_getD, List.getElem?_eq_getElem (show l.length - 1 < l.length by omega)]
    rfl) (by rw [List.length_map]; exact h)]
theorem maxI_spec {l : List Int} (h : l ≠ []) : maxI l ∈ l ∧ ∀ y ∈ l, y ≤ maxI l := by
  cases l with
  | nil => exact absurd rfl h
  | cons n ns => exact ⟨maxI_mem n ns, maxI_le n ns⟩
/-! ### rows of numbers, in order -/
def tupI (l : List Int) : D := .tuple (l.map PyData.int)
theorem Sh.tupI (l : List Int) : Sh 1 (tupI l) := Sh.tuple (sh_ints l)
theorem alike_tup (a b : List Int) : W.alike (tupI a) (tupI b) = true := by
  unfold tupI
  simp only [W.alike]
  exact W.alike_ints a b
theorem lt_tup (a b : List Int) : W.dataLt (tupI a) (tupI b) = decide (a < b) := by
  unfold tupI
  rw [W.dataLt_tuple]
  exact W.dataLt_ints a b
theorem ltAD_tup (a b : List Int) : ltAD (tupI a) (tupI b) = .ok (.bool (decide (a < b))) := by
  show (if W.alike (tupI a) (tupI b) = true ∧ isNone (tupI a) = false ∧ SeqAt.shaped (tupI a) = true ∧ SeqAt.shaped (tupI b) = true then R.ok (PyData.bool (W.dataLt (tupI a) (tupI b))) else .no) = _
  rw [if_pos ⟨alike_tup a b, rfl, (Sh.tupI a).ok, (Sh.tupI b).ok⟩, lt_tup]
def minR (p : List Int) (ps : List (List Int)) : List Int := ps.foldl (fun a y => if y < a then y else a) p
theorem minD_rows : ∀ (ps : List (List Int)) (p : List Int), W.minD (tupI p) (ps.map tupI) = tupI (minR p ps)
  | [], p => rfl
  | q :: ps, p => by
    show W.minD (if W.dataLt (tupI q) (tupI p) = true then tupI q else tupI p) (ps.map tupI) = tupI (minR (if q < p then q else p) ps)
    rw [lt_tup]
    by_cases z : q < p
    · rw [if_pos (decide_eq_true z), if_pos z, minD_rows ps q]
    · rw [if_neg (by simp [z]), if_neg z, minD_rows ps p]
theorem minR_spec : ∀ (ps : List (List Int)) (p : List Int), minR p ps ∈ p :: ps ∧ ∀ q ∈ p :: ps, ¬ q < minR p ps
  | [], p => ⟨List.mem_cons_self, fun q hq => by
    rcases List.mem_cons.mp hq with e | e
    · rw [e]; exact List.lt_irrefl p
    · cases e⟩
  | y :: ps, p => by
    obtain ⟨h1, h2⟩ := minR_spec ps (if y < p then y else p)
    have e : minR p (y :: ps) = minR (if y < p then y else p) ps := rfl
    rw [e]
    generalize minR (if y < p then y else p) ps = m at *
    by_cases z : y < p
    · rw [if_pos z] at h1 h2
      refine ⟨List.mem_cons_of_mem _ h1, fun q hq => ?_⟩
      rcases List.mem_cons.mp hq with e | e
      · rw [e]
        exact fun w => h2 y List.mem_cons_self (List.lt_trans z w)
      · exact h2 q e
    · rw [if_neg z] at h1 h2
      refine ⟨?_, fun q hq => ?_⟩
      · rcases List.mem_cons.mp h1 with e | e
        · rw [e]; exact List.mem_cons_self
        · exact List.mem_cons_of_mem _ (List.mem_cons_of_mem _ e)
      · rcases List.mem_cons.mp hq with e | e
        · rw [e]; exact h2 p List.mem_cons_self
        · rcases List.mem_cons.mp e with e | e
          · rw [e]
            exact fun w => h2 p List.mem_cons_self (List.lt_of_le_of_lt (List.not_lt.mp z) w)
          · exact h2 q (List.mem_cons_of_mem _ e)
theorem lt_leL {a b c : List Int} (h : a < b) (k : b ≤ c) : a < c := Classical.byContradiction fun n => List.not_lt.mpr k (List.lt_of_le_of_lt (List.not_lt.mp n) h)
theorem alikeL_rows (ps : List (List Int)) : alikeL (ps.map tupI) = true := by
  refine alikeL_of (k := 1) (fun x hx y hy => ?_) (fun x hx => ?_) fun x hx => ?_
  · obtain ⟨p, _, e⟩ := List.mem_map.mp hx
    obtain ⟨q, _, e2⟩ := List.mem_map.mp hy
    rw [← e, ← e2]
    exact alike_tup p q
  · obtain ⟨p, _, e⟩ := List.mem_map.mp hx
    rw [← e]; rfl
  · obtain ⟨p, _, e⟩ := List.mem_map.mp hx
    rw [← e]; exact Sh.tupI p
theorem minAD_rows (p : List Int) (ps : List (List Int)) : minAD [.list ((p :: ps).map tupI)] = .ok (tupI (minR p ps)) := by
  have a := alikeL_rows (p :: ps)
  show (if alikeL (tupI p :: ps.map tupI) = true then R.ok (W.minD (tupI p) (ps.map tupI)) else .no) = _
  rw [if_pos (show alikeL (tupI p :: ps.map tupI) = true from a), minD_rows]
/-! ### sorting -/
theorem sortI_of_perm {a b : List Int} (h : a.Perm b) : sortI a = sortI b := sorted_uniq (((sortI_perm a).trans h).trans (sortI_perm b).symm) (sortI_sorted a) (sortI_sorted b)
theorem sortI_id {a : List Int} (h : a.Pairwise (· ≤ ·)) : sortI a = a := sorted_uniq (sortI_perm a) (sortI_sorted a) h
theorem sortAD_list (ns : List Int) : sortAD [.list (ns.map PyData.int)] = .ok (.list ((sortI ns).map PyData.int)) := by
  unfold sortAD seqI
  simp
/-- a loop over 0 .. n - 1, by what stands before each turn -/
theorem loop_range {g : GF} {body : SF} (Inv : Nat → Env → Prop) : ∀ (n m : Nat) (env : Env), Inv m env → (∀ i, m ≤ i → i < m + n → ∀ env, Inv i env → ∃ e e', g (.int (i : Int)) env = .ok e ∧ body e = .nx e' ∧ Inv (i + 1) e') → ∃ env', loopL g body ((List.range' m n).map fun i : Nat => .int (i : Int)) env = .nx env' ∧ Inv (m + n) env'
  | 0, m, env, h, _ => ⟨env, rfl, h⟩
  | n + 1, m, env, h, H => by
    obtain ⟨e, e', h1, h2, h3⟩ := H m (Nat.le_refl _) (by omega) env h
    obtain ⟨env', h4, h5⟩ := loop_range Inv n (m + 1) e' h3 fun i a b => H i (by omega) (by omega)
    refine ⟨env', ?_, by rw [show m + (n + 1) = m + 1 + n by omega]; exact h5⟩
    rw [List.range'_succ, List.map_cons, loop_cons h1 h2, h4]
theorem loop_upto {g : GF} {body : SF} (Inv : Nat → Env → Prop) (n : Nat) (env : Env) (h : Inv 0 env) (H : ∀ i, i < n → ∀ env, Inv i env → ∃ e e', g (.int (i : Int)) env = .ok e ∧ body e = .nx e' ∧ Inv (i + 1) e') : ∃ env', loopL g body (rangeL 0 (n : Int)) env = .nx env' ∧ Inv n env' := by
  rw [rangeL_nat, List.range_eq_range']
  have := loop_range Inv n 0 env h fun i _ hi => H i (by omega)
  rwa [Nat.zero_add] at this
theorem cut_take {l : List D} (k : Nat) (h : k ≤ l.length) : cutD l none (some (k : Int)) = l.take k := by
  unfold cutD
  rw [HT.sIx_nat, HT.sIx_none, Nat.min_eq_left h]
  rfl
theorem cut_drop {l : List D} (k : Nat) (h : k ≤ l.length) : cutD l (some (k : Int)) none = l.drop k := by
  unfold cutD
  rw [HT.sIx_nat, HT.sIx_none, Nat.min_eq_left h, List.take_of_length_le (by rw [List.length_drop]; exact Nat.le_refl _)]
theorem ne_ints_same (l : List Int) : neD (.list (l.map PyData.int)) (.list (l.map PyData.int)) = .ok (.bool false) := ne_same (k := 1) (Sh.list (sh_ints l))
theorem eq_ints_same (l : List Int) : eqD (.list (l.map PyData.int)) (.list (l.map PyData.int)) = .ok (.bool true) := eq_same (k := 1) (Sh.list (sh_ints l))
theorem ne_tints_same (l : List Int) : neD (.tuple (l.map PyData.int)) (.tuple (l.map PyData.int)) = .ok (.bool false) := ne_same (k := 1) (Sh.tuple (sh_ints l))
theorem eq_tints_same (l : List Int) : eqD (.tuple (l.map PyData.int)) (.tuple (l.map PyData.int)) = .ok (.bool true) := eq_same (k := 1) (Sh.tuple (sh_ints l))
theorem eq_ints_nil (l : List Int) : eqD (.list (l.map PyData.int)) (.list []) = .ok (.bool l.isEmpty) := by
  rw [eqD_sh (j := 1) (k := 1) (Sh.list (sh_ints l)) (Sh.list fun x hx => by cases hx), eqv_nil, List.isEmpty_map]
/-- a loop that lengthens a row by at most one in each turn -/
theorem loop_acc {α β : Type} {g : GF} {body : SF} (f : α → D) (En : List β → Env → Prop) (h : α → List β) (hh : ∀ x, (h x).length ≤ 1) (N : Nat) : ∀ (l : List α) (pre : List β) (env : Env), En pre env → pre.length + l.length ≤ N → (∀ x ∈ l, ∀ (pre : List β) (env : Env), pre.length < N → En pre env → ∃ e e', g (f x) env = .ok e ∧ body e = .nx e' ∧ En (pre ++ h x) e') → ∃ env', loopL g body (l.map f) env = .nx env' ∧ En (pre ++ l.flatMap h) env'
  | [], pre, env, he, _, _ => ⟨env, rfl, by simpa using he⟩
  | x :: l, pre, env, he, hl, H => by
    rw [List.length_cons] at hl
    obtain ⟨e, e', h1, h2, h3⟩ := H x List.mem_cons_self pre env (by omega) he
    have hx := hh x
    obtain ⟨env', h4, h5⟩ := loop_acc f En h hh N l (pre ++ h x) e' h3 (by rw [List.length_append]; omega) fun y hy => H y (List.mem_cons_of_mem _ hy)
    refine ⟨env', by rw [List.map_cons, loop_cons h1 h2, h4], ?_⟩
    rw [List.flatMap_cons, ← List.append_assoc]
    exact h5
theorem enumL_map (f : Int → D) : ∀ (l : List Int) (n : Nat), enumL n (l.map f) = (List.range l.length).map fun i : Nat => .tuple [.int ((n + i : Nat) : Int), f (l.getD i 0)]
  | [], n => rfl
  | x :: l, n => by
    rw [List.map_cons, List.length_cons, List.range_succ_eq_map, List.map_cons, List.map_map]
    show PyData.tuple [.int (n : Int), f x] :: enumL (n + 1) (l.map f) = _
    rw [enumL_map f l (n + 1)]
    congr 1
    refine List.map_congr_left fun i _ => ?_
    show PyData.tuple [.int ((n + 1 + i : Nat) : Int), f (l.getD i 0)] = .tuple [.int ((n + (i + 1) : Nat) : Int), f ((x :: l).getD (i + 1) 0)]
    rw [List.getD_cons_succ, show n + 1 + i = n + (i + 1) by omega]
theorem whileN_succ (t : TF) (body : SF) (n : Nat) (env : Env) : whileN t body (n + 1) env = outR (t env) env fun k => if k = true then (match body env with
      | .nx e' => whileN t body n e'
      | .bk e' => .nx e'
      | o => o) else .nx env := rfl
theorem ne_ints_nil (l : List Int) : neD (.list (l.map PyData.int)) (.list []) = .ok (.bool (!l.isEmpty)) := by
  rw [neD_sh (j := 1) (k := 1) (Sh.list (sh_ints l)) (Sh.list fun x hx => by cases hx), eqv_nil, List.isEmpty_map]
/-- a loop that lengthens a row by at most c in each turn -/
theorem loop_flat {α β : Type} {g : GF} {body : SF} (f : α → D) (En : List β → Env → Prop) (h : α → List β) (c N : Nat) : ∀ (l : List α) (pre : List β) (env : Env), (∀ x ∈ l, (h x).length ≤ c) → En pre env → pre.length + c * l.length ≤ N → (∀ x ∈ l, ∀ (pre : List β) (env : Env), pre.length + c ≤ N → En pre env → ∃ e e', g (f x) env = .ok e ∧ body e = .nx e' ∧ En (pre ++ h x) e') → ∃ env', loopL g body (l.map f) env = .nx env' ∧ En (pre ++ l.flatMap h) env'
  | [], pre, env, _, he, _, _ => ⟨env, rfl, by simpa using he⟩
  | x :: l, pre, env, hh, he, hl, H => by
    rw [List.length_cons, Nat.mul_add, Nat.mul_one] at hl
    obtain ⟨e, e', h1, h2, h3⟩ := H x List.mem_cons_self pre env (by omega) he
    have hx := hh x List.mem_cons_self
    obtain ⟨env', h4, h5⟩ := loop_flat f En h c N l (pre ++ h x) e' (fun y hy => hh y (List.mem_cons_of_mem _ hy)) h3 (by rw [List.length_append]; omega) fun y hy => H y (List.mem_cons_of_mem _ hy)
    refine ⟨env', by rw [List.map_cons, loop_cons h1 h2, h4], ?_⟩
    rw [List.flatMap_cons, ← List.append_assoc]
    exact h5
theorem flat_len {α β : Type} (h : α → List β) (c : Nat) (hh : ∀ x, (h x).length ≤ c) : ∀ l : List α, (l.flatMap h).length ≤ c * l.length
  | [] => Nat.zero_le _
  | x :: l => by
    rw [List.flatMap_cons, List.length_append, List.length_cons, Nat.mul_add, Nat.mul_one]
    have := flat_len h c hh l
    have := hh x
    omega
end Rt
/-! Sim24: a Hook that looks at some names of the module alone (long tops). -/
namespace Rt
open PySem L2
def selN (xs : List Str) (g : Addr → Option Obj) : List Addr := match g mainGlobals with
  | some o => (match o.data with
    | .dict es _ => es.toList.flatMap fun e => (match e.key with
      | .str x _ => if xs.contains x = true then He.refV e.val else []
      | _ => [])
    | _ => [])
  | none => []
def asN (n : Nat) (xs : List Str) (g : Addr → Option Obj) : List Addr := mainGlobals :: (match n with
  | 0 => selN xs g
  | 1 => He.growD g (selN xs g)
  | 2 => He.growD g (He.growD g (selN xs g))
  | _ => He.growD g (He.growD g (He.growD g (selN xs g))))
def obsN (n : Nat) (xs : List Str) (fa : List He.Fa) (fn : List He.DefD) (g : Addr → Option Obj) : He.AlD := He.obsD fa fn (He.frG g (asN n xs g))
def hookN (n : Nat) (xs : List Str) (fa : List He.Fa) (fn : List He.DefD) : PySem.W.Hook where
  α := He.AlD
  obs := fun s => obsN n xs fa fn s.heap.get?
  val := fun _ => He.valD fn
  says := fun _ h => ∃ K : PySem.W.Frag, K.In h ∧ He.SaysD fa fn K
  of := fun _ _ e => ⟨_, He.frG_in, e⟩
  keeps := fun _ _ _ ⟨K, hK, c⟩ k => ⟨K, PySem.W.Frag.In.keeps hK k, c⟩
theorem obsN_eq {n : Nat} {xs : List Str} {fa : List He.Fa} {fn : List He.DefD} {g : Addr → Option Obj} {s : Shared} (h : ∀ a, g a = s.heap.get? a) : obsN n xs fa fn g = (hookN n xs fa fn).obs s := by
  have e : g = s.heap.get? := funext h
  rw [e] <;> rfl
end Rt
namespace G
open PySem L2 Rt
def topS (i : Nat) : Stmt := PySem.Challenge.pw_ringtable_k32_rings_refused.main.body.getD i (.Pass ⟨0, 0, 0, 0⟩)
/-! ### the mirrors -/
def B__law_cell : SF := (sSeq (sIf (tVal (eOp2 (cmpD ltI) (eVar 1) (eCallB lenD (aCons (eVar 0) aNil))))
  (sRet (eOp2 ixD (eVar 0) (eVar 1)))
  sPass)
  (sRet (eC (.int 0))))
def F__law_cell : List D → R D := run 2 B__law_cell
def B__law_seed : SF := (sRet (eOp2 modD (eOp2 powD (eOp2 modD (eOp2 addD (eOp2 addD (eOp2 mulD (eVar 0) (eC (.int 1103515245))) (eOp2 mulD (eC (.int 7919)) (eVar 1))) (eC (.int 12345))) (eC (.int 2147483647))) (eC (.int 5))) (eC (.int 2147483647))))
def F__law_seed : List D → R D := run 2 B__law_seed
def B_is_within : SF := (sRet (eAnd (eOp1 (isiD "int") (eVar 0)) (eAnd (eNot (eOp1 (isiD "bool") (eVar 0))) (eChain (cmpD leI) (cmpD leI) (eVar 1) (eVar 0) (eVar 2)))))
def F_is_within : List D → R D := run 3 B_is_within
def B_is_far : SF := (sRet (eOr (eOp2 (isD false) (eVar 0) (eC .none)) (eCall F_is_within (aCons (eVar 0) (aCons (eC (.int 0)) (aCons (eC (.int 30)) aNil))))))
def F_is_far : List D → R D := run 1 B_is_far
def L_pairs_1 : SF := (sMut 1 extendD (eComp (iRange2 (eOp2 addD (eVar 2) (eC (.int 1))) (eVar 0)) (gName 3) [3] tYes (eTup (aCons (eVar 2) (aCons (eVar 3) aNil)))))
def B_pairs : SF := (sSeq (sSetO 1 (eList aNil))
  (sSeq (sFor (iRange1 (eVar 0)) (gName 2)
  L_pairs_1)
  (sRet (eVar 1))))
def F_pairs : List D → R D := run 4 B_pairs
def B_is_table : SF := (sSeq (sIf (tOr (tNot (tTru (eOp1 (isiD "tuple") (eVar 0)))) (tOr (tVal (eOp2 neD (eCallB lenD (aCons (eVar 0) aNil)) (eC (.int 2)))) (tNot (tTru (eCall F_is_within (aCons (eOp2 ixD (eVar 0) (eC (.int 0))) (aCons (eC (.int 1)) (aCons (eC (.int 6)) aNil))))))))
  (sRet (eC (.bool false)))
  sPass)
  (sSeq (sIf (tOr (tNot (tTru (eOp1 (isiD "tuple") (eOp2 ixD (eVar 0) (eC (.int 1)))))) (tVal (eOp2 neD (eCallB lenD (aCons (eOp2 ixD (eVar 0) (eC (.int 1))) aNil)) (eCallB lenD (aCons (eCall F_pairs (aCons (eOp2 ixD (eVar 0) (eC (.int 0))) aNil)) aNil)))))
  (sRet (eC (.bool false)))
  sPass)
  (sRet (eNot (eComp (iSeq (eOp2 ixD (eVar 0) (eC (.int 1)))) (gName 1) [1] (tNot (tTru (eCall F_is_far (aCons (eVar 1) aNil)))) (eVar 1))))))
def F_is_table : List D → R D := run 2 B_is_table
def B_look : SF := (sIf (tNot (tTru (eCall F_is_table (aCons (eVar 0) aNil))))
  (sRaise .table)
  sPass)
def F_look : List D → R D := run 1 B_look
def L_look_pair_1 : SF := (sIf (tNot (tTru (eCall F_is_within (aCons (eVar 3) (aCons (eC (.int 0)) (aCons (eOp2 subD (eOp2 ixD (eVar 0) (eC (.int 0))) (eC (.int 1))) aNil))))))
  (sRaise .point)
  sPass)
def B_look_pair : SF := (sSeq (sFor (iSeq (eTup (aCons (eVar 1) (aCons (eVar 2) aNil)))) (gName 3)
  L_look_pair_1)
  (sIf (tVal (eOp2 eqD (eVar 1) (eVar 2)))
  (sRaise .point)
  sPass))
def F_look_pair : List D → R D := run 4 B_look_pair
def B_far_in : SF := sNo
def F_far_in : List D → R D := run 5 B_far_in
def L_made_1 : SF := sNo
def B_made : SF := (sSeq (sSetO 2 (eList aNil))
  (sSeq (sFor (iSeq (eCall F_pairs (aCons (eVar 0) aNil))) (gTup 2 (gCons (gName 3) (gCons (gName 4) gNil)))
  L_made_1)
  (sRet (eTup (aCons (eVar 0) (aCons (eCallB tupleD (aCons (eVar 2) aNil)) aNil))))))
def F_made : List D → R D := run 5 B_made
def B_with_far : SF := (sSeq (sSetO 4 (eCall F_far_in (aCons (eVar 0) aNil)))
  (sSeq (sPut 4 setL (eTup (aCons (eVar 1) (aCons (eVar 2) aNil))) (eVar 3))
  (sSeq (sPut 4 setL (eTup (aCons (eVar 2) (aCons (eVar 1) aNil))) (eVar 3))
  (sRet (eCall F_made (aCons (eOp2 ixD (eVar 0) (eC (.int 0))) (aCons (eVar 4) aNil)))))))
def F_with_far : List D → R D := run 5 B_with_far
def B_retold : SF := (sSeq (sExpr (eCall F_look (aCons (eVar 0) aNil)))
  (sSeq (sExpr (eCall F_look_pair (aCons (eVar 0) (aCons (eVar 1) (aCons (eVar 2) aNil)))))
  (sSeq (sIf (tNot (tTru (eCall F_is_far (aCons (eVar 3) aNil))))
  (sRaise .far)
  sPass)
  (sRet (eCall F_with_far (aCons (eVar 0) (aCons (eVar 1) (aCons (eVar 2) (aCons (eVar 3) aNil)))))))))
def F_retold : List D → R D := run 4 B_retold
def B_renumbered : SF := (sSeq (sExpr (eCall F_look (aCons (eVar 0) aNil)))
  (sSeq (sIf (tOr (tNot (tTru (eOp1 (isiD "tuple") (eVar 1)))) (tTru (eComp (iSeq (eVar 1)) (gName 3) [3] (tNot (tTru (eCall F_is_within (aCons (eVar 3) (aCons (eC (.int 0)) (aCons (eOp2 subD (eOp2 ixD (eVar 0) (eC (.int 0))) (eC (.int 1))) aNil)))))) (eVar 3))))
  (sRaise .point)
  sPass)
  (sSeq (sIf (tVal (eOp2 neD (eCallB sortAD (aCons (eVar 1) aNil)) (eLRg (iRange1 (eOp2 ixD (eVar 0) (eC (.int 0)))))))
  (sRaise .point)
  sPass)
  (sSeq (sAsg (eCall F_far_in (aCons (eVar 0) aNil)) (gName 2))
  sNo))))
def F_renumbered : List D → R D := run 5 B_renumbered
def L_put_together_1 : SF := (sPut 4 setL (eTup (aCons (eOp2 ixD (eVar 2) (eVar 6)) (aCons (eOp2 ixD (eVar 2) (eVar 7)) aNil))) (eOp2 ixD (eVar 5) (eTup (aCons (eVar 6) (aCons (eVar 7) aNil)))))
def B_put_together : SF := (sSeq (sSetO 4 (eCall F_far_in (aCons (eVar 0) aNil)))
  (sSeq (sAsg (eCall F_far_in (aCons (eVar 1) aNil)) (gName 5))
  (sSeq (sFor (iSeq (eVar 5)) (gTup 2 (gCons (gName 6) (gCons (gName 7) gNil)))
  L_put_together_1)
  (sRet (eCall F_made (aCons (eVar 3) (aCons (eVar 4) aNil)))))))
def F_put_together : List D → R D := run 8 B_put_together
def B_look_both : SF := (sSeq (sExpr (eCall F_look (aCons (eVar 0) aNil)))
  (sExpr (eCall F_look (aCons (eVar 1) aNil))))
def F_look_both : List D → R D := run 2 B_look_both
def B_beside : SF := (sSeq (sExpr (eCall F_look_both (aCons (eVar 0) (aCons (eVar 1) aNil))))
  (sSeq (sAsg (eOp2 addD (eOp2 ixD (eVar 0) (eC (.int 0))) (eOp2 ixD (eVar 1) (eC (.int 0)))) (gName 2))
  (sSeq (sIf (tVal (eOp2 (cmpD gtI) (eVar 2) (eC (.int 6))))
  (sRaise .full)
  sPass)
  (sRet (eCall F_put_together (aCons (eVar 0) (aCons (eVar 1) (aCons (eComp (iRange1 (eOp2 ixD (eVar 1) (eC (.int 0)))) (gName 3) [3] tYes (eOp2 addD (eOp2 ixD (eVar 0) (eC (.int 0))) (eVar 3))) (aCons (eVar 2) aNil)))))))))
def F_beside : List D → R D := run 4 B_beside
def B_glued : SF := (sSeq (sExpr (eCall F_look_both (aCons (eVar 0) (aCons (eVar 1) aNil))))
  (sSeq (sIf (tOr (tNot (tTru (eCall F_is_within (aCons (eVar 2) (aCons (eC (.int 0)) (aCons (eOp2 subD (eOp2 ixD (eVar 0) (eC (.int 0))) (eC (.int 1))) aNil)))))) (tNot (tTru (eCall F_is_within (aCons (eVar 3) (aCons (eC (.int 0)) (aCons (eOp2 subD (eOp2 ixD (eVar 1) (eC (.int 0))) (eC (.int 1))) aNil)))))))
  (sRaise .point)
  sPass)
  (sSeq (sAsg (eOp2 subD (eOp2 addD (eOp2 ixD (eVar 0) (eC (.int 0))) (eOp2 ixD (eVar 1) (eC (.int 0)))) (eC (.int 1))) (gName 4))
  (sSeq (sIf (tVal (eOp2 (cmpD gtI) (eVar 4) (eC (.int 6))))
  (sRaise .full)
  sPass)
  (sSeq (sSetO 5 (eComp (iRange1 (eOp2 ixD (eVar 1) (eC (.int 0)))) (gName 6) [6] tYes (eOp2 subD (eOp2 addD (eOp2 ixD (eVar 0) (eC (.int 0))) (eVar 6)) (eCallB intD (aCons (eOp2 (cmpD gtI) (eVar 6) (eVar 3)) aNil)))))
  (sSeq (sPut 5 setL (eVar 3) (eVar 2))
  (sRet (eCall F_put_together (aCons (eVar 0) (aCons (eVar 1) (aCons (eVar 5) (aCons (eVar 4) aNil))))))))))))
def F_glued : List D → R D := run 7 B_glued
def B_do_agree : SF := (sSeq (sIf (tVal (eOp2 neD (eOp2 ixD (eVar 0) (eC (.int 0))) (eOp2 ixD (eVar 1) (eC (.int 0)))))
  (sRet (eC (.bool false)))
  sPass)
  (sRet (eNot (eComp (iZip (eOp2 ixD (eVar 0) (eC (.int 1))) (eOp2 ixD (eVar 1) (eC (.int 1)))) (gTup 2 (gCons (gName 2) (gCons (gName 3) gNil))) [2, 3] (tAnd (tVal (eOp2 (isD true) (eVar 2) (eC .none))) (tAnd (tVal (eOp2 (isD true) (eVar 3) (eC .none))) (tVal (eOp2 neD (eVar 2) (eVar 3))))) (eC (.int 1))))))
def F_do_agree : List D → R D := run 4 B_do_agree
def B_agree : SF := (sSeq (sExpr (eCall F_look_both (aCons (eVar 0) (aCons (eVar 1) aNil))))
  (sRet (eCall F_do_agree (aCons (eVar 0) (aCons (eVar 1) aNil)))))
def F_agree : List D → R D := run 2 B_agree
def B_united : SF := (sSeq (sExpr (eCall F_look_both (aCons (eVar 0) (aCons (eVar 1) aNil))))
  (sSeq (sIf (tNot (tTru (eCall F_do_agree (aCons (eVar 0) (aCons (eVar 1) aNil)))))
  (sRaise .nofit)
  sPass)
  (sRet (eTup (aCons (eOp2 ixD (eVar 0) (eC (.int 0))) (aCons (eCallB tupleD (aCons (eComp (iZip (eOp2 ixD (eVar 0) (eC (.int 1))) (eOp2 ixD (eVar 1) (eC (.int 1)))) (gTup 2 (gCons (gName 2) (gCons (gName 3) gNil))) [2, 3] tYes (eIf (tVal (eOp2 (isD false) (eVar 2) (eC .none))) (eVar 3) (eVar 2))) aNil)) aNil))))))
def F_united : List D → R D := run 4 B_united
def B_open_in : SF := (sSeq (sAsg (eCall F_far_in (aCons (eVar 0) aNil)) (gName 1))
  (sRet (eComp (iSeq (eCall F_pairs (aCons (eOp2 ixD (eVar 0) (eC (.int 0))) aNil))) (gName 2) [2] (tVal (eOp2 (inA true) (eVar 2) (eVar 1))) (eVar 2))))
def F_open_in : List D → R D := run 3 B_open_in
def B_open_pairs : SF := (sSeq (sExpr (eCall F_look (aCons (eVar 0) aNil)))
  (sRet (eCall F_open_in (aCons (eVar 0) aNil))))
def F_open_pairs : List D → R D := run 1 B_open_pairs
def B_look_ring : SF := (sIf (tNot (tTru (eCall F_is_within (aCons (eVar 0) (aCons (eC (.int 1)) (aCons (eC (.int 60)) aNil))))))
  (sRaise .ring)
  sPass)
def F_look_ring : List D → R D := run 1 B_look_ring
def L_pieces_1 : SF := (sMut 4 extendD (eComp (iSeq (eVar 2)) (gName 6) [6] (tAnd (tVal (eOp2 (inA true) (eVar 6) (eVar 4))) (tTru (eComp (iSeq (eVar 4)) (gName 7) [7] (tVal (eOp2 (inA false) (eTup (aCons (eVar 6) (aCons (eVar 7) aNil))) (eVar 1))) (eC (.int 1))))) (eVar 6)))
def L_pieces_2 : SF := (sSeq (sSetO 4 (eList (aCons (eOp2 ixD (eVar 2) (eC (.int 0))) aNil)))
  (sSeq (sFor (iRange1 (eOp2 ixD (eVar 0) (eC (.int 0)))) (gName 5)
  L_pieces_1)
  (sSeq (sMut 3 appendD (eCallB sortAD (aCons (eVar 4) aNil)))
  (sSeq (sAsg (eComp (iSeq (eVar 2)) (gName 6) [6] (tVal (eOp2 (inA true) (eVar 6) (eVar 4))) (eVar 6)) (gName 2))
  sPass))))
def B_pieces : SF := (sSeq (sAsg (eCall F_far_in (aCons (eVar 0) aNil)) (gName 1))
  (sSeq (sAsg (eLRg (iRange1 (eOp2 ixD (eVar 0) (eC (.int 0))))) (gName 2))
  (sSeq (sSetO 3 (eList aNil))
  (sSeq (whileN (tTru (eVar 2))
  L_pieces_2 100)
  (sRet (eVar 3))))))
def F_pieces : List D → R D := run 8 B_pieces
def L_path_of_1 : SF := (sMut 2 appendD (eOp2 ixD (eComp (iSeq (eVar 1)) (gName 3) [3] (tAnd (tVal (eOp2 (inA true) (eVar 3) (eVar 2))) (tTru (eComp (iSeq (eVar 2)) (gName 4) [4] (tVal (eOp2 (inA false) (eTup (aCons (eVar 3) (aCons (eVar 4) aNil))) (eVar 0))) (eC (.int 1))))) (eVar 3)) (eC (.int 0))))
def B_path_of : SF := (sSeq (sSetO 2 (eList (aCons (eOp2 ixD (eVar 1) (eC (.int 0))) aNil)))
  (sSeq (whileN (tVal (eOp2 (cmpD ltI) (eCallB lenD (aCons (eVar 2) aNil)) (eCallB lenD (aCons (eVar 1) aNil))))
  L_path_of_1 100)
  (sRet (eVar 2))))
def F_path_of : List D → R D := run 5 B_path_of
def B_away : SF := (sSeq (sAsg (eOp2 modD (eOp2 subD (eVar 1) (eVar 2)) (eVar 0)) (gName 3))
  (sRet (eCallB min2D (aCons (eVar 3) (aCons (eOp2 subD (eVar 0) (eVar 3)) aNil)))))
def F_away : List D → R D := run 4 B_away
def L_agrees_1 : SF := (sIf (tAnd (tVal (eOp2 (inA false) (eTup (aCons (eVar 3) (aCons (eVar 5) aNil))) (eVar 0))) (tVal (eOp2 neD (eCall F_away (aCons (eVar 1) (aCons (eVar 4) (aCons (eOp2 ixD (eVar 2) (eVar 5)) aNil)))) (eOp2 ixD (eVar 0) (eTup (aCons (eVar 3) (aCons (eVar 5) aNil)))))))
  (sRet (eC (.bool false)))
  sPass)
def B_agrees : SF := (sSeq (sFor (iSeq (eVar 2)) (gName 5)
  L_agrees_1)
  (sRet (eC (.bool true))))
def F_agrees : List D → R D := run 6 B_agrees
def B_ways_of : SF := (sSeq (sAsg (eCall F_far_in (aCons (eVar 0) aNil)) (gName 3))
  (sSeq (sAsg (eCall F_path_of (aCons (eVar 3) (aCons (eVar 2) aNil))) (gName 4))
  sNo))
def F_ways_of : List D → R D := run 14 B_ways_of
def B_fit_in : SF := (sRet (eNot (eComp (iSeq (eCall F_pieces (aCons (eVar 0) aNil))) (gName 2) [2] (tNot (tTru (eCall F_ways_of (aCons (eVar 0) (aCons (eVar 1) (aCons (eVar 2) aNil)))))) (eVar 2))))
def F_fit_in : List D → R D := run 3 B_fit_in
def B_look_fit : SF := (sSeq (sExpr (eCall F_look (aCons (eVar 0) aNil)))
  (sSeq (sExpr (eCall F_look_ring (aCons (eVar 1) aNil)))
  (sIf (tNot (tTru (eCall F_fit_in (aCons (eVar 0) (aCons (eVar 1) aNil)))))
  (sRaise .nofit)
  sPass)))
def F_look_fit : List D → R D := run 2 B_look_fit
def L_count_1 : SF := (sAsg (eOp2 mulD (eVar 2) (eCallB lenD (aCons (eCall F_ways_of (aCons (eVar 0) (aCons (eVar 1) (aCons (eVar 3) aNil)))) aNil))) (gName 2))
def B_count : SF := (sSeq (sExpr (eCall F_look (aCons (eVar 0) aNil)))
  (sSeq (sExpr (eCall F_look_ring (aCons (eVar 1) aNil)))
  (sSeq (sAsg (eC (.int 1)) (gName 2))
  (sSeq (sFor (iSeq (eCall F_pieces (aCons (eVar 0) aNil))) (gName 3)
  L_count_1)
  (sRet (eVar 2))))))
def F_count : List D → R D := run 4 B_count
def B_could : SF := sNo
def F_could : List D → R D := run 7 B_could
def L_splits_of_1 : SF := (sMut 4 appendD (eTup (aCons (eVar 5) (aCons (eCall F_count (aCons (eCall F_with_far (aCons (eVar 0) (aCons (eVar 2) (aCons (eVar 3) (aCons (eVar 5) aNil))))) (aCons (eVar 1) aNil))) aNil))))
def B_splits_of : SF := (sSeq (sSetO 4 (eList aNil))
  (sSeq (sFor (iSeq (eCall F_could (aCons (eVar 0) (aCons (eVar 1) (aCons (eVar 2) (aCons (eVar 3) aNil)))))) (gName 5)
  L_splits_of_1)
  (sRet (eVar 4))))
def F_splits_of : List D → R D := run 6 B_splits_of
def B_splits : SF := (sSeq (sExpr (eCall F_look_fit (aCons (eVar 0) (aCons (eVar 1) aNil))))
  (sSeq (sExpr (eCall F_look_pair (aCons (eVar 0) (aCons (eVar 2) (aCons (eVar 3) aNil)))))
  (sSeq (sIf (tVal (eOp2 (inA false) (eTup (aCons (eVar 2) (aCons (eVar 3) aNil))) (eCall F_far_in (aCons (eVar 0) aNil))))
  (sRaise .told)
  sPass)
  (sRet (eCall F_splits_of (aCons (eVar 0) (aCons (eVar 1) (aCons (eVar 2) (aCons (eVar 3) aNil)))))))))
def F_splits : List D → R D := run 4 B_splits
def I_best_pair_1 : SF := (sIf (tOr (tVal (eOp2 (isD false) (eVar 2) (eC .none))) (tVal (eOp2 (cmpD ltI) (eVar 5) (eOp2 ixD (eVar 2) (eC (.int 0))))))
  (sAsg (eTup (aCons (eVar 5) (aCons (eTup (aCons (eVar 3) (aCons (eVar 4) aNil))) aNil))) (gName 2))
  sPass)
def L_best_pair_1 : SF := (sSeq (sAsg (eCallB maxD (aCons (eComp (iSeq (eCall F_splits_of (aCons (eVar 0) (aCons (eVar 1) (aCons (eVar 3) (aCons (eVar 4) aNil)))))) (gTup 2 (gCons (gName 6) (gCons (gName 7) gNil))) [6, 7] tYes (eVar 7)) aNil)) (gName 5))
  I_best_pair_1)
def B_best_pair : SF := (sSeq (sExpr (eCall F_look_fit (aCons (eVar 0) (aCons (eVar 1) aNil))))
  (sSeq (sAsg (eC .none) (gName 2))
  (sSeq (sFor (iSeq (eCall F_open_in (aCons (eVar 0) aNil))) (gTup 2 (gCons (gName 3) (gCons (gName 4) gNil)))
  L_best_pair_1)
  (sRet (eIf (tVal (eOp2 (isD false) (eVar 2) (eC .none))) (eC .none) (eOp2 ixD (eVar 2) (eC (.int 1))))))))
def F_best_pair : List D → R D := run 8 B_best_pair
def B_look_places : SF := (sSeq (sExpr (eCall F_look_ring (aCons (eVar 1) aNil)))
  (sSeq (sIf (tOr (tNot (tTru (eOp1 (isiD "tuple") (eVar 0)))) (tNot (tVal (eChain (cmpD leI) (cmpD leI) (eC (.int 1)) (eCallB lenD (aCons (eVar 0) aNil)) (eC (.int 6))))))
  (sRaise .places)
  sPass)
  (sIf (tTru (eComp (iSeq (eVar 0)) (gName 2) [2] (tNot (tTru (eCall F_is_within (aCons (eVar 2) (aCons (eC (.int 0)) (aCons (eOp2 subD (eVar 1) (eC (.int 1))) aNil)))))) (eVar 2)))
  (sRaise .places)
  sPass)))
def F_look_places : List D → R D := run 3 B_look_places
def B_full_of : SF := (sSeq (sAsg (eComp (iSeq (eCall F_pairs (aCons (eCallB lenD (aCons (eVar 0) aNil)) aNil))) (gTup 2 (gCons (gName 3) (gCons (gName 4) gNil))) [3, 4] tYes (eCall F_away (aCons (eVar 1) (aCons (eOp2 ixD (eVar 0) (eVar 3)) (aCons (eOp2 ixD (eVar 0) (eVar 4)) aNil))))) (gName 2))
  (sRet (eTup (aCons (eCallB lenD (aCons (eVar 0) aNil)) (aCons (eCallB tupleD (aCons (eVar 2) aNil)) aNil)))))
def F_full_of : List D → R D := run 5 B_full_of
def B_bag_of : SF := (sRet (eCallB sortAD (aCons (eOp2 ixD (eCall F_full_of (aCons (eVar 0) (aCons (eVar 1) aNil))) (eC (.int 1))) aNil)))
def F_bag_of : List D → R D := run 2 B_bag_of
def B_bag : SF := (sSeq (sExpr (eCall F_look_places (aCons (eVar 0) (aCons (eVar 1) aNil))))
  (sRet (eCall F_bag_of (aCons (eVar 0) (aCons (eVar 1) aNil)))))
def F_bag : List D → R D := run 2 B_bag
def L_shape_of_1 : SF := (sSeq (sMut 2 appendD (eCallB tupleD (aCons (eCallB sortAD (aCons (eComp (iSeq (eVar 0)) (gName 4) [4] tYes (eOp2 modD (eOp2 subD (eVar 4) (eVar 3)) (eVar 1))) aNil)) aNil)))
  (sMut 2 appendD (eCallB tupleD (aCons (eCallB sortAD (aCons (eComp (iSeq (eVar 0)) (gName 4) [4] tYes (eOp2 modD (eOp2 subD (eVar 3) (eVar 4)) (eVar 1))) aNil)) aNil))))
def B_shape_of : SF := (sSeq (sSetO 2 (eList aNil))
  (sSeq (sFor (iSeq (eVar 0)) (gName 3)
  L_shape_of_1)
  (sRet (eCallB minAD (aCons (eVar 2) aNil)))))
def F_shape_of : List D → R D := run 5 B_shape_of
def B_shape : SF := (sSeq (sExpr (eCall F_look_places (aCons (eVar 0) (aCons (eVar 1) aNil))))
  (sRet (eCall F_shape_of (aCons (eVar 0) (aCons (eVar 1) aNil)))))
def F_shape : List D → R D := run 2 B_shape
def L_left_of_1 : SF := (sSeq (sAsg (eOp2 modD (eOp2 subD (eVar 2) (eVar 5)) (eVar 3)) (gName 6))
  (sSeq (sAsg (eCallB min2D (aCons (eVar 6) (aCons (eOp2 subD (eVar 3) (eVar 6)) aNil))) (gName 6))
  (sSeq (sIf (tVal (eOp2 (inA true) (eVar 6) (eVar 4)))
  (sRet (eC .none))
  sPass)
  sNo)))
def B_left_of : SF := (sSeq (sSetO 4 (eCallB listD (aCons (eVar 0) aNil)))
  (sSeq (sFor (iSeq (eVar 1)) (gName 5)
  L_left_of_1)
  (sRet (eVar 4))))
def F_left_of : List D → R D := run 7 B_left_of
def I_rows_with_1 (rec : List D → R D) : SF := (sIf (tVal (eOp2 (isD true) (eVar 6) (eC .none)))
  (sMut 4 extendD (eCall rec (aCons (eVar 6) (aCons (eOp2 addD (eVar 1) (eTup (aCons (eVar 5) aNil))) (aCons (eVar 2) (aCons (eVar 3) aNil))))))
  sPass)
def L_rows_with_1 (rec : List D → R D) : SF := (sSeq (sAsg (eCall F_left_of (aCons (eVar 0) (aCons (eVar 1) (aCons (eVar 5) (aCons (eVar 3) aNil))))) (gName 6))
  (I_rows_with_1 rec))
def B_rows_with (rec : List D → R D) : SF := (sSeq (sIf (tVal (eOp2 eqD (eCallB lenD (aCons (eVar 1) aNil)) (eVar 2)))
  (sRet (eList (aCons (eVar 1) aNil)))
  sPass)
  (sSeq (sSetO 4 (eList aNil))
  (sSeq (sFor (iRange2 (eOp2 ixD (eVar 1) (eOp1 negD (eC (.int 1)))) (eVar 3)) (gName 5)
  (L_rows_with_1 rec))
  (sRet (eVar 4)))))
def F_rows_with : Nat → List D → R D
  | 0 => run 7 sNo
  | m + 1 => run 7 (B_rows_with (F_rows_with m))
def B_shapes_of : SF := sNo
def F_shapes_of : List D → R D := run 5 B_shapes_of
def B_look_small : SF := (sSeq (sExpr (eCall F_look_ring (aCons (eVar 1) aNil)))
  (sIf (tOr (tNot (tTru (eCall F_is_within (aCons (eVar 0) (aCons (eC (.int 1)) (aCons (eC (.int 5)) aNil)))))) (tVal (eOp2 (cmpD gtI) (eVar 1) (eC (.int 20)))))
  (sRaise .many)
  sPass))
def F_look_small : List D → R D := run 2 B_look_small
def B_twins : SF := (sSeq (sExpr (eCall F_look_places (aCons (eVar 0) (aCons (eVar 1) aNil))))
  (sSeq (sExpr (eCall F_look_small (aCons (eCallB lenD (aCons (eVar 0) aNil)) (aCons (eVar 1) aNil))))
  (sSeq (sAsg (eCall F_shape_of (aCons (eVar 0) (aCons (eVar 1) aNil))) (gName 2))
  (sRet (eComp (iSeq (eCall F_shapes_of (aCons (eCall F_bag_of (aCons (eVar 0) (aCons (eVar 1) aNil))) (aCons (eCallB lenD (aCons (eVar 0) aNil)) (aCons (eVar 1) aNil))))) (gName 3) [3] (tVal (eOp2 neD (eVar 3) (eVar 2))) (eVar 3))))))
def F_twins : List D → R D := run 4 B_twins
def B_lacks : SF := (sSeq (sAsg (eCall F_bag_of (aCons (eVar 0) (aCons (eVar 1) aNil))) (gName 2))
  (sRet (eComp (iRange2 (eC (.int 1)) (eOp2 addD (eOp2 fdivD (eVar 1) (eC (.int 2))) (eC (.int 1)))) (gName 3) [3] (tVal (eOp2 (inA true) (eVar 3) (eVar 2))) (eVar 3))))
def F_lacks : List D → R D := run 4 B_lacks
def B_lacking : SF := (sSeq (sExpr (eCall F_look_places (aCons (eVar 0) (aCons (eVar 1) aNil))))
  (sRet (eCall F_lacks (aCons (eVar 0) (aCons (eVar 1) aNil)))))
def F_lacking : List D → R D := run 2 B_lacking
def B_is_full : SF := (sSeq (sExpr (eCall F_look_places (aCons (eVar 0) (aCons (eVar 1) aNil))))
  (sRet (eNot (eCall F_lacks (aCons (eVar 0) (aCons (eVar 1) aNil))))))
def F_is_full : List D → R D := run 2 B_is_full
def B_parted : SF := (sSeq (sAsg (eCall F_bag_of (aCons (eVar 0) (aCons (eVar 1) aNil))) (gName 2))
  (sRet (eAnd (eOp2 (inA true) (eC (.int 0)) (eVar 2)) (eNot (eComp (iZip (eVar 2) (eSlice (eVar 2) (oSome (eC (.int 1))) oNone)) (gTup 2 (gCons (gName 3) (gCons (gName 4) gNil))) [3, 4] (tVal (eOp2 eqD (eVar 3) (eVar 4))) (eC (.int 1)))))))
def F_parted : List D → R D := run 5 B_parted
def B_is_spread : SF := (sSeq (sExpr (eCall F_look_places (aCons (eVar 0) (aCons (eVar 1) aNil))))
  (sRet (eCall F_parted (aCons (eVar 0) (aCons (eVar 1) aNil)))))
def F_is_spread : List D → R D := run 2 B_is_spread
def B_stride : SF := (sSeq (sAsg (eOp2 modD (eOp2 subD (eVar 1) (eVar 0)) (eVar 2)) (gName 3))
  (sRet (eIf (tVal (eOp2 (cmpD leI) (eOp2 mulD (eC (.int 2)) (eVar 3)) (eVar 2))) (eVar 3) (eOp2 subD (eVar 3) (eVar 2)))))
def F_stride : List D → R D := run 4 B_stride
def B_strides_of : SF := (sRet (eComp (iZip (eVar 0) (eOp2 addD (eSlice (eVar 0) (oSome (eC (.int 1))) oNone) (eSlice (eVar 0) oNone (oSome (eC (.int 1)))))) (gTup 2 (gCons (gName 2) (gCons (gName 3) gNil))) [2, 3] tYes (eCall F_stride (aCons (eVar 2) (aCons (eVar 3) (aCons (eVar 1) aNil))))))
def F_strides_of : List D → R D := run 4 B_strides_of
def B_strides : SF := (sSeq (sExpr (eCall F_look_places (aCons (eVar 0) (aCons (eVar 1) aNil))))
  (sRet (eCall F_strides_of (aCons (eVar 0) (aCons (eVar 1) aNil)))))
def F_strides : List D → R D := run 2 B_strides
def B_rounds : SF := (sSeq (sExpr (eCall F_look_places (aCons (eVar 0) (aCons (eVar 1) aNil))))
  (sRet (eOp2 fdivD (eCallB sumD (aCons (eCall F_strides_of (aCons (eVar 0) (aCons (eVar 1) aNil))) aNil)) (eVar 1))))
def F_rounds : List D → R D := run 2 B_rounds
def B_short_way : SF := (sSeq (sExpr (eCall F_look_places (aCons (eVar 0) (aCons (eVar 1) aNil))))
  (sSeq (sAsg (eComp (iSeq (eVar 0)) (gName 3) [3] tYes (eTup (aCons (eCallB maxD (aCons (eComp (iSeq (eVar 0)) (gName 4) [4] tYes (eOp2 modD (eOp2 subD (eVar 4) (eVar 3)) (eVar 1))) aNil)) (aCons (eVar 3) aNil)))) (gName 2))
  (sRet (eTup (aCons (eOp2 ixD (eCallB minAD (aCons (eVar 2) aNil)) (eC (.int 1))) (aCons (eOp2 ixD (eCallB minAD (aCons (eVar 2) aNil)) (eC (.int 0))) aNil))))))
def F_short_way : List D → R D := run 5 B_short_way
def B_is_stride : SF := (sRet (eAnd (eCall F_is_within (aCons (eVar 0) (aCons (eOp2 subD (eC (.int 0)) (eVar 1)) (aCons (eVar 1) aNil)))) (eChain (cmpD ltI) (cmpD leI) (eOp2 subD (eC (.int 0)) (eVar 1)) (eOp2 mulD (eC (.int 2)) (eVar 0)) (eVar 1))))
def F_is_stride : List D → R D := run 2 B_is_stride
def L_walked_1 : SF := (sAsg (eOp2 addD (eVar 2) (eTup (aCons (eOp2 modD (eOp2 addD (eOp2 ixD (eVar 2) (eOp1 negD (eC (.int 1)))) (eVar 3)) (eVar 1)) aNil))) (gName 2))
def B_walked : SF := (sSeq (sExpr (eCall F_look_ring (aCons (eVar 1) aNil)))
  (sSeq (sIf (tOr (tNot (tTru (eOp1 (isiD "list") (eVar 0)))) (tNot (tVal (eChain (cmpD leI) (cmpD leI) (eC (.int 1)) (eCallB lenD (aCons (eVar 0) aNil)) (eC (.int 6))))))
  (sRaise .places)
  sPass)
  (sSeq (sIf (tTru (eComp (iSeq (eVar 0)) (gName 3) [3] (tNot (tTru (eCall F_is_stride (aCons (eVar 3) (aCons (eVar 1) aNil))))) (eVar 3)))
  (sRaise .places)
  sPass)
  (sSeq (sIf (tVal (eOp2 neD (eOp2 modD (eCallB sumD (aCons (eVar 0) aNil)) (eVar 1)) (eC (.int 0))))
  (sRet (eC .none))
  sPass)
  (sSeq (sAsg (eTup (aCons (eC (.int 0)) aNil)) (gName 2))
  (sSeq (sFor (iSeq (eSlice (eVar 0) oNone (oSome (eOp1 negD (eC (.int 1)))))) (gName 3)
  L_walked_1)
  (sRet (eVar 2))))))))
def F_walked : List D → R D := run 4 B_walked
def B_shapes : SF := (sSeq (sExpr (eCall F_look_small (aCons (eVar 1) (aCons (eVar 2) aNil))))
  (sSeq (sIf (tOr (tNot (tTru (eOp1 (isiD "list") (eVar 0)))) (tVal (eOp2 neD (eCallB lenD (aCons (eVar 0) aNil)) (eCallB lenD (aCons (eCall F_pairs (aCons (eVar 1) aNil)) aNil)))))
  (sRaise .bag)
  sPass)
  (sSeq (sIf (tOr (tTru (eComp (iSeq (eVar 0)) (gName 3) [3] (tNot (tTru (eCall F_is_within (aCons (eVar 3) (aCons (eC (.int 0)) (aCons (eC (.int 30)) aNil)))))) (eVar 3))) (tVal (eOp2 neD (eVar 0) (eCallB sortAD (aCons (eVar 0) aNil)))))
  (sRaise .bag)
  sPass)
  (sRet (eCall F_shapes_of (aCons (eVar 0) (aCons (eVar 1) (aCons (eVar 2) aNil))))))))
def F_shapes : List D → R D := run 4 B_shapes
def B_look_short : SF := (sSeq (sExpr (eCall F_look_ring (aCons (eVar 0) aNil)))
  (sIf (tVal (eOp2 (cmpD gtI) (eVar 0) (eC (.int 16))))
  (sRaise .many)
  sPass))
def F_look_short : List D → R D := run 1 B_look_short
def L_chosen_1 : SF := (sSeq (sAsg (eIf (tTru (eVar 3)) (eOp2 addD (eOp2 ixD (eVar 3) (eOp1 negD (eC (.int 1)))) (eC (.int 1))) (eC (.int 0))) (gName 4))
  (sMut 2 extendD (eComp (iRange2 (eVar 4) (eVar 0)) (gName 5) [5] tYes (eOp2 addD (eVar 3) (eTup (aCons (eVar 5) aNil))))))
def B_chosen (rec : List D → R D) : SF := (sSeq (sIf (tVal (eOp2 eqD (eVar 1) (eC (.int 0))))
  (sRet (eList (aCons (eTup aNil) aNil)))
  sPass)
  (sSeq (sSetO 2 (eList aNil))
  (sSeq (sFor (iSeq (eCall rec (aCons (eVar 0) (aCons (eOp2 subD (eVar 1) (eC (.int 1))) aNil)))) (gName 3)
  L_chosen_1)
  (sRet (eVar 2)))))
def F_chosen : Nat → List D → R D
  | 0 => run 6 sNo
  | m + 1 => run 6 (B_chosen (F_chosen m))
def B_rows_from : SF := (sRet (eComp (iSeq (eCall (F_chosen 7) (aCons (eOp2 subD (eVar 1) (eC (.int 1))) (aCons (eOp2 subD (eVar 0) (eC (.int 1))) aNil)))) (gName 2) [2] tYes (eOp2 addD (eTup (aCons (eC (.int 0)) aNil)) (eCallB tupleD (aCons (eComp (iSeq (eVar 2)) (gName 3) [3] tYes (eOp2 addD (eVar 3) (eC (.int 1)))) aNil)))))
def F_rows_from : List D → R D := run 4 B_rows_from
def L_fullest_1 : SF := (sSeq (sAsg (eComp (iSeq (eCall F_rows_from (aCons (eVar 1) (aCons (eVar 0) aNil)))) (gName 3) [3] (tNot (tTru (eCall F_lacks (aCons (eVar 3) (aCons (eVar 0) aNil))))) (eVar 3)) (gName 2))
  (sSeq (sIf (tTru (eVar 2))
  (sRet (eOp2 ixD (eVar 2) (eC (.int 0))))
  sPass)
  (sAug 1 addI (eC (.int 1)))))
def B_fullest : SF := (sSeq (sExpr (eCall F_look_short (aCons (eVar 0) aNil)))
  (sSeq (sAsg (eC (.int 1)) (gName 1))
  (whileN (tTru (eC (.bool true)))
  L_fullest_1 100)))
def F_fullest : List D → R D := run 4 B_fullest
def I_widest_1 : SF := (sIf (tTru (eVar 3))
  (sAsg (eOp2 ixD (eVar 3) (eC (.int 0))) (gName 1))
  sPass)
def L_widest_1 : SF := (sSeq (sAsg (eComp (iSeq (eCall F_rows_from (aCons (eVar 2) (aCons (eVar 0) aNil)))) (gName 4) [4] (tTru (eCall F_parted (aCons (eVar 4) (aCons (eVar 0) aNil)))) (eVar 4)) (gName 3))
  I_widest_1)
def B_widest : SF := (sSeq (sExpr (eCall F_look_short (aCons (eVar 0) aNil)))
  (sSeq (sAsg (eTup (aCons (eC (.int 0)) aNil)) (gName 1))
  (sSeq (sFor (iRange2 (eC (.int 2)) (eOp2 addD (eCallB min2D (aCons (eC (.int 6)) (aCons (eVar 0) aNil))) (eC (.int 1)))) (gName 2)
  L_widest_1)
  (sRet (eVar 1)))))
def F_widest : List D → R D := run 5 B_widest
def B__law_deed_sized : SF := (sSeq (sIf (tVal (eOp2 eqD (eVar 0) (eC (.int 20))))
  (sRet (eCall F_fullest (aCons (eVar 1) aNil)))
  sPass)
  (sSeq (sIf (tVal (eOp2 eqD (eVar 0) (eC (.int 21))))
  (sRet (eCall F_widest (aCons (eVar 1) aNil)))
  sPass)
  (sRet (eCall F_shapes (aCons (eOp2 ixD (eVar 2) (eC (.int 0))) (aCons (eOp2 ixD (eVar 2) (eC (.int 1))) (aCons (eVar 1) aNil)))))))
def F__law_deed_sized : List D → R D := run 3 B__law_deed_sized
def B__law_deed_placed : SF := (sSeq (sIf (tVal (eOp2 eqD (eVar 0) (eC (.int 10))))
  (sRet (eCall F_bag (aCons (eVar 2) (aCons (eVar 1) aNil))))
  sPass)
  (sSeq (sIf (tVal (eOp2 eqD (eVar 0) (eC (.int 11))))
  (sRet (eCall F_shape (aCons (eVar 2) (aCons (eVar 1) aNil))))
  sPass)
  (sSeq (sIf (tVal (eOp2 eqD (eVar 0) (eC (.int 12))))
  (sRet (eCall F_twins (aCons (eVar 2) (aCons (eVar 1) aNil))))
  sPass)
  (sSeq (sIf (tVal (eOp2 eqD (eVar 0) (eC (.int 13))))
  (sRet (eCall F_lacking (aCons (eVar 2) (aCons (eVar 1) aNil))))
  sPass)
  (sSeq (sIf (tVal (eOp2 eqD (eVar 0) (eC (.int 14))))
  (sRet (eCall F_is_full (aCons (eVar 2) (aCons (eVar 1) aNil))))
  sPass)
  (sSeq (sIf (tVal (eOp2 eqD (eVar 0) (eC (.int 15))))
  (sRet (eCall F_is_spread (aCons (eVar 2) (aCons (eVar 1) aNil))))
  sPass)
  (sSeq (sIf (tVal (eOp2 eqD (eVar 0) (eC (.int 16))))
  (sRet (eCall F_strides (aCons (eVar 2) (aCons (eVar 1) aNil))))
  sPass)
  (sSeq (sIf (tVal (eOp2 eqD (eVar 0) (eC (.int 17))))
  (sRet (eCall F_rounds (aCons (eVar 2) (aCons (eVar 1) aNil))))
  sPass)
  (sSeq (sIf (tVal (eOp2 eqD (eVar 0) (eC (.int 18))))
  (sRet (eCall F_short_way (aCons (eVar 2) (aCons (eVar 1) aNil))))
  sPass)
  (sRet (eIf (tVal (eOp2 eqD (eVar 0) (eC (.int 19)))) (eCall F_walked (aCons (eVar 2) (aCons (eVar 1) aNil))) (eCall F__law_deed_sized (aCons (eVar 0) (aCons (eVar 1) (aCons (eVar 2) aNil)))))))))))))))
def F__law_deed_placed : List D → R D := run 3 B__law_deed_placed
def B__law_deed_asked : SF := (sSeq (sIf (tVal (eOp2 eqD (eVar 0) (eC (.int 0))))
  (sRet (eCall F_retold (aCons (eVar 1) (aCons (eOp2 ixD (eVar 3) (eC (.int 0))) (aCons (eOp2 ixD (eVar 3) (eC (.int 1))) (aCons (eOp2 ixD (eVar 3) (eC (.int 2))) aNil))))))
  sPass)
  (sSeq (sIf (tVal (eOp2 eqD (eVar 0) (eC (.int 1))))
  (sRet (eCall F_renumbered (aCons (eVar 1) (aCons (eVar 3) aNil))))
  sPass)
  (sSeq (sIf (tVal (eOp2 eqD (eVar 0) (eC (.int 2))))
  (sRet (eCall F_beside (aCons (eVar 1) (aCons (eVar 3) aNil))))
  sPass)
  (sSeq (sIf (tVal (eOp2 eqD (eVar 0) (eC (.int 3))))
  (sRet (eCall F_glued (aCons (eVar 1) (aCons (eOp2 ixD (eVar 3) (eC (.int 0))) (aCons (eOp2 ixD (eVar 3) (eC (.int 1))) (aCons (eOp2 ixD (eVar 3) (eC (.int 2))) aNil))))))
  sPass)
  (sSeq (sIf (tVal (eOp2 eqD (eVar 0) (eC (.int 4))))
  (sRet (eCall F_agree (aCons (eVar 1) (aCons (eVar 3) aNil))))
  sPass)
  (sSeq (sIf (tVal (eOp2 eqD (eVar 0) (eC (.int 5))))
  (sRet (eCall F_united (aCons (eVar 1) (aCons (eVar 3) aNil))))
  sPass)
  (sSeq (sIf (tVal (eOp2 eqD (eVar 0) (eC (.int 6))))
  (sRet (eCall F_open_pairs (aCons (eVar 1) aNil)))
  sPass)
  (sSeq (sIf (tVal (eOp2 eqD (eVar 0) (eC (.int 7))))
  (sRet (eCall F_splits (aCons (eVar 1) (aCons (eVar 2) (aCons (eOp2 ixD (eVar 3) (eC (.int 0))) (aCons (eOp2 ixD (eVar 3) (eC (.int 1))) aNil))))))
  sPass)
  (sSeq (sIf (tVal (eOp2 eqD (eVar 0) (eC (.int 8))))
  (sRet (eCall F_best_pair (aCons (eVar 1) (aCons (eVar 2) aNil))))
  sPass)
  (sSeq (sIf (tVal (eOp2 eqD (eVar 0) (eC (.int 9))))
  sNo
  sPass)
  (sRet (eCall F__law_deed_placed (aCons (eVar 0) (aCons (eVar 2) (aCons (eVar 3) aNil)))))))))))))))
def F__law_deed_asked : List D → R D := run 4 B__law_deed_asked
def B__law_deed_caught : SF := (sSeq (sAsg (eC (.str "")) (gName 4))
  (sSeq (sTryK [.table, .ring, .places, .point, .nofit, .many, .full, .far, .bag, .told] (sExpr (eCall F__law_deed_asked (aCons (eVar 0) (aCons (eVar 1) (aCons (eVar 2) (aCons (eVar 3) aNil)))))) [(.table, (sAsg (eC (.str "table")) (gName 4))), (.ring, (sAsg (eC (.str "ring")) (gName 4))), (.places, (sAsg (eC (.str "places")) (gName 4))), (.point, (sAsg (eC (.str "point")) (gName 4))), (.far, (sAsg (eC (.str "far")) (gName 4))), (.bag, (sAsg (eC (.str "bag")) (gName 4))), (.told, (sAsg (eC (.str "told")) (gName 4))), (.nofit, (sAsg (eC (.str "fit")) (gName 4))), (.many, (sAsg (eC (.str "many")) (gName 4))), (.full, (sAsg (eC (.str "full")) (gName 4))), (.deed, (sAsg (eC (.str "deed")) (gName 4)))])
  (sRet (eVar 4))))
def F__law_deed_caught : List D → R D := run 5 B__law_deed_caught
def L_law_1 : SF := (sSeq (sIf (tVal (eOp2 neD (eCall F__law_deed_caught (aCons (eVar 5) (aCons (eVar 4) (aCons (eVar 2) (aCons (eVar 3) aNil))))) (eC (.str "ring"))))
  (sRet (eC (.bool false)))
  sPass)
  (sIf (tAnd (tVal (eOp2 neD (eCall F__law_deed_caught (aCons (eVar 5) (aCons (eVar 4) (aCons (eVar 1) (aCons (eVar 3) aNil))))) (eC (.str "places")))) (tOr (tVal (eOp2 (cmpD ltI) (eVar 5) (eC (.int 19)))) (tVal (eOp2 neD (eVar 3) (eList (aCons (eC (.int 0)) aNil))))))
  (sRet (eC (.bool false)))
  sPass))
def L_law_2 : SF := (sIf (tVal (eOp2 neD (eCall F__law_deed_caught (aCons (eVar 5) (aCons (eVar 4) (aCons (eVar 2) (aCons (eTup (aCons (eC .none) (aCons (eC (.int 9)) aNil))) aNil))))) (eC (.str "ring"))))
  (sRet (eC (.bool false)))
  sPass)
def L_law_3 : SF := (sIf (tVal (eOp2 neD (eCall F__law_deed_caught (aCons (eC (.int 19)) (aCons (eVar 4) (aCons (eVar 1) (aCons (eVar 6) aNil))))) (eC (.str "places"))))
  (sRet (eC (.bool false)))
  sPass)
def B_law : SF := (sSeq (sAsg (eOp2 addD (eC (.int 1)) (eOp2 modD (eOp2 fdivD (eCall F__law_seed (aCons (eCall F__law_cell (aCons (eVar 0) (aCons (eC (.int 0)) aNil))) (aCons (eC (.int 1)) aNil))) (eC (.int 7))) (eC (.int 16)))) (gName 1))
  (sSeq (sAsg (eOp2 ixD (eList (aCons (eC (.int 0)) (aCons (eOp1 negD (eC (.int 1))) (aCons (eC (.int 61)) (aCons (eC .none) (aCons (eC (.bool true)) (aCons (eC (.str "1")) aNil))))))) (eOp2 modD (eCall F__law_cell (aCons (eVar 0) (aCons (eC (.int 1)) aNil))) (eC (.int 6)))) (gName 2))
  (sSeq (sAsg (eOp2 ixD (eList (aCons (eTup aNil) (aCons (eTup (aCons (eVar 1) aNil)) (aCons (eList (aCons (eC (.int 0)) aNil)) (aCons (eC .none) (aCons (eOp2 mulD (eTup (aCons (eC (.int 0)) aNil)) (eC (.int 7))) (aCons (eTup (aCons (eOp1 negD (eC (.int 1))) aNil)) (aCons (eTup (aCons (eC (.bool true)) aNil)) aNil)))))))) (eOp2 modD (eCall F__law_cell (aCons (eVar 0) (aCons (eC (.int 2)) aNil))) (eC (.int 7)))) (gName 3))
  (sSeq (sAsg (eTup (aCons (eC (.int 2)) (aCons (eTup (aCons (eC .none) aNil)) aNil))) (gName 4))
  (sSeq (sFor (iRange2 (eC (.int 10)) (eC (.int 20))) (gName 5)
  L_law_1)
  (sSeq (sFor (iSeq (eTup (aCons (eC (.int 20)) (aCons (eC (.int 21)) (aCons (eC (.int 22)) aNil))))) (gName 5)
  L_law_2)
  (sSeq (sFor (iSeq (eTup (aCons (eList aNil) (aCons (eOp2 mulD (eList (aCons (eC (.int 0)) aNil)) (eC (.int 7))) (aCons (eTup (aCons (eC (.int 0)) aNil)) (aCons (eC .none) (aCons (eList (aCons (eVar 1) aNil)) (aCons (eList (aCons (eOp2 subD (eC (.int 0)) (eVar 1)) aNil)) (aCons (eList (aCons (eC (.bool true)) aNil)) (aCons (eList (aCons (eC .none) aNil)) aNil)))))))))) (gName 6)
  L_law_3)
  (sSeq (sAsg (eOp2 addD (eC (.int 17)) (eOp2 modD (eOp2 fdivD (eCall F__law_seed (aCons (eCall F__law_cell (aCons (eVar 0) (aCons (eC (.int 3)) aNil))) (aCons (eC (.int 2)) aNil))) (eC (.int 7))) (eC (.int 44)))) (gName 7))
  (sSeq (sSetO 8 (eList (aCons (eCall F__law_deed_caught (aCons (eC (.int 20)) (aCons (eVar 4) (aCons (eVar 7) (aCons (eC .none) aNil))))) (aCons (eCall F__law_deed_caught (aCons (eC (.int 21)) (aCons (eVar 4) (aCons (eVar 7) (aCons (eC .none) aNil))))) aNil))))
  (sSeq (sMut 8 appendD (eCall F__law_deed_caught (aCons (eC (.int 22)) (aCons (eVar 4) (aCons (eCallB max2D (aCons (eC (.int 21)) (aCons (eVar 7) aNil))) (aCons (eTup (aCons (eC .none) (aCons (eC (.int 1)) aNil))) aNil))))))
  (sSeq (sAsg (eOp2 addD (eVar 8) (eComp (iSeq (eTup (aCons (eC (.int 0)) (aCons (eC (.int 6)) (aCons (eC .none) (aCons (eC (.bool true)) aNil)))))) (gName 10) [10] tYes (eCall F__law_deed_caught (aCons (eC (.int 22)) (aCons (eVar 4) (aCons (eVar 1) (aCons (eTup (aCons (eC .none) (aCons (eVar 10) aNil))) aNil))))))) (gName 8))
  (sSeq (sAsg (eOp2 addD (eVar 8) (eList (aCons (eCall F__law_deed_caught (aCons (eC (.int 12)) (aCons (eVar 4) (aCons (eCallB max2D (aCons (eC (.int 21)) (aCons (eVar 7) aNil))) (aCons (eTup (aCons (eC (.int 0)) aNil)) aNil))))) (aCons (eCall F__law_deed_caught (aCons (eC (.int 12)) (aCons (eVar 4) (aCons (eVar 1) (aCons (eOp2 mulD (eTup (aCons (eC (.int 0)) aNil)) (eC (.int 6))) aNil))))) aNil)))) (gName 8))
  (sSeq (sIf (tVal (eOp2 neD (eVar 8) (eOp2 mulD (eList (aCons (eC (.str "many")) aNil)) (eC (.int 9)))))
  (sRet (eC (.bool false)))
  sPass)
  (sSeq (sAsg (eList (aCons (eTup (aCons (eC .none) (aCons (eC (.int 2)) aNil))) (aCons (eTup (aCons (eList aNil) (aCons (eC (.int 2)) aNil))) (aCons (eTup (aCons (eList (aCons (eC (.int 1)) (aCons (eC (.int 1)) aNil))) (aCons (eC (.int 2)) aNil))) (aCons (eTup (aCons (eList (aCons (eC (.int 31)) aNil)) (aCons (eC (.int 2)) aNil))) (aCons (eTup (aCons (eList (aCons (eOp1 negD (eC (.int 1))) aNil)) (aCons (eC (.int 2)) aNil))) (aCons (eTup (aCons (eTup (aCons (eC (.int 0)) aNil)) (aCons (eC (.int 2)) aNil))) (aCons (eTup (aCons (eList (aCons (eC (.int 1)) (aCons (eC (.int 0)) (aCons (eC (.int 1)) aNil)))) (aCons (eC (.int 3)) aNil))) (aCons (eTup (aCons (eList (aCons (eC (.bool true)) aNil)) (aCons (eC (.int 2)) aNil))) (aCons (eTup (aCons (eList (aCons (eC (.int 0)) aNil)) (aCons (eC (.int 1)) aNil))) aNil)))))))))) (gName 9))
  (sRet (eOp2 eqD (eComp (iSeq (eVar 9)) (gName 11) [11] (tVal (eOp2 neD (eCall F__law_deed_caught (aCons (eC (.int 22)) (aCons (eVar 4) (aCons (eVar 1) (aCons (eVar 11) aNil))))) (eC (.str "bag")))) (eVar 11)) (eList aNil)))))))))))))))))
def F_law : List D → R D := run 12 B_law
/-! ### what the top leaves -/
structure TX (K : PySem.W.Frag) (mg : Str → Option Value) : Prop where
  h__law_cell : Here K mg "_law_cell" (topS 92)
  h__law_seed : Here K mg "_law_seed" (topS 93)
  h_is_within : Here K mg "is_within" (topS 18)
  h_is_far : Here K mg "is_far" (topS 19)
  h_pairs : Here K mg "pairs" (topS 20)
  h_is_table : Here K mg "is_table" (topS 21)
  h_look : Here K mg "look" (topS 22)
  h_look_pair : Here K mg "look_pair" (topS 42)
  h_far_in : Here K mg "far_in" (topS 25)
  h_made : Here K mg "made" (topS 43)
  h_with_far : Here K mg "with_far" (topS 44)
  h_retold : Here K mg "retold" (topS 45)
  h_renumbered : Here K mg "renumbered" (topS 46)
  h_put_together : Here K mg "put_together" (topS 47)
  h_look_both : Here K mg "look_both" (topS 48)
  h_beside : Here K mg "beside" (topS 49)
  h_glued : Here K mg "glued" (topS 50)
  h_do_agree : Here K mg "do_agree" (topS 51)
  h_agree : Here K mg "agree" (topS 52)
  h_united : Here K mg "united" (topS 53)
  h_open_in : Here K mg "open_in" (topS 65)
  h_open_pairs : Here K mg "open_pairs" (topS 66)
  h_look_ring : Here K mg "look_ring" (topS 23)
  h_pieces : Here K mg "pieces" (topS 55)
  h_path_of : Here K mg "path_of" (topS 56)
  h_away : Here K mg "away" (topS 26)
  h_agrees : Here K mg "agrees" (topS 57)
  h_ways_of : Here K mg "ways_of" (topS 58)
  h_fit_in : Here K mg "fit_in" (topS 59)
  h_look_fit : Here K mg "look_fit" (topS 60)
  h_count : Here K mg "count" (topS 61)
  h_could : Here K mg "could" (topS 63)
  h_splits_of : Here K mg "splits_of" (topS 67)
  h_splits : Here K mg "splits" (topS 68)
  h_best_pair : Here K mg "best_pair" (topS 69)
  h_look_places : Here K mg "look_places" (topS 24)
  h_full_of : Here K mg "full_of" (topS 27)
  h_bag_of : Here K mg "bag_of" (topS 31)
  h_bag : Here K mg "bag" (topS 32)
  h_shape_of : Here K mg "shape_of" (topS 33)
  h_shape : Here K mg "shape" (topS 34)
  h_left_of : Here K mg "left_of" (topS 35)
  h_rows_with : Here K mg "rows_with" (topS 36)
  h_shapes_of : Here K mg "shapes_of" (topS 37)
  h_look_small : Here K mg "look_small" (topS 38)
  h_twins : Here K mg "twins" (topS 40)
  h_lacks : Here K mg "lacks" (topS 74)
  h_lacking : Here K mg "lacking" (topS 75)
  h_is_full : Here K mg "is_full" (topS 76)
  h_parted : Here K mg "parted" (topS 77)
  h_is_spread : Here K mg "is_spread" (topS 78)
  h_stride : Here K mg "stride" (topS 84)
  h_strides_of : Here K mg "strides_of" (topS 85)
  h_strides : Here K mg "strides" (topS 86)
  h_rounds : Here K mg "rounds" (topS 87)
  h_short_way : Here K mg "short_way" (topS 88)
  h_is_stride : Here K mg "is_stride" (topS 89)
  h_walked : Here K mg "walked" (topS 90)
  h_shapes : Here K mg "shapes" (topS 39)
  h_look_short : Here K mg "look_short" (topS 79)
  h_chosen : Here K mg "chosen" (topS 62)
  h_rows_from : Here K mg "rows_from" (topS 80)
  h_fullest : Here K mg "fullest" (topS 81)
  h_widest : Here K mg "widest" (topS 82)
  h__law_deed_sized : Here K mg "_law_deed_sized" (topS 97)
  h__law_deed_placed : Here K mg "_law_deed_placed" (topS 96)
  h__law_deed_asked : Here K mg "_law_deed_asked" (topS 95)
  h__law_deed_caught : Here K mg "_law_deed_caught" (topS 94)
  h_law : Here K mg "law" (topS 98)
  m_bool : mg "bool" = none
  m_dict : mg "dict" = none
  m_int : mg "int" = none
  m_isinstance : mg "isinstance" = none
  m_len : mg "len" = none
  m_list : mg "list" = none
  m_max : mg "max" = none
  m_min : mg "min" = none
  m_range : mg "range" = none
  m_sorted : mg "sorted" = none
  m_sum : mg "sum" = none
  m_tuple : mg "tuple" = none
  m_zip : mg "zip" = none
  n_MOST_AROUND : ∃ t, mg "MOST_AROUND" = some (.int 20 t)
  n_MOST_FAR : ∃ t, mg "MOST_FAR" = some (.int 30 t)
  n_MOST_HERE : ∃ t, mg "MOST_HERE" = some (.int 5 t)
  n_MOST_MEASURED : ∃ t, mg "MOST_MEASURED" = some (.int 16 t)
  n_MOST_POINTS : ∃ t, mg "MOST_POINTS" = some (.int 6 t)
  n_MOST_RING : ∃ t, mg "MOST_RING" = some (.int 60 t)
  e_bag : Exc K mg .bag
  e_far : Exc K mg .far
  e_places : Exc K mg .places
  e_point : Exc K mg .point
  e_ring : Exc K mg .ring
  e_table : Exc K mg .table
  e_full : Exc K mg .full
  e_nofit : Exc K mg .nofit
  e_told : Exc K mg .told
  e_many : Exc K mg .many
  g_bag : mg (xcName .bag) = some (.ref (caK K .bag))
  x_bag : Exms K [.table, .ring, .places, .point, .nofit, .many, .full, .far, .bag, .told] .bag
  g_far : mg (xcName .far) = some (.ref (caK K .far))
  x_far : Exms K [.table, .ring, .places, .point, .nofit, .many, .full, .far, .bag, .told] .far
  g_places : mg (xcName .places) = some (.ref (caK K .places))
  x_places : Exms K [.table, .ring, .places, .point, .nofit, .many, .full, .far, .bag, .told] .places
  g_point : mg (xcName .point) = some (.ref (caK K .point))
  x_point : Exms K [.table, .ring, .places, .point, .nofit, .many, .full, .far, .bag, .told] .point
  g_ring : mg (xcName .ring) = some (.ref (caK K .ring))
  x_ring : Exms K [.table, .ring, .places, .point, .nofit, .many, .full, .far, .bag, .told] .ring
  g_table : mg (xcName .table) = some (.ref (caK K .table))
  x_table : Exms K [.table, .ring, .places, .point, .nofit, .many, .full, .far, .bag, .told] .table
  g_full : mg (xcName .full) = some (.ref (caK K .full))
  x_full : Exms K [.table, .ring, .places, .point, .nofit, .many, .full, .far, .bag, .told] .full
  g_deed : mg (xcName .deed) = some (.ref (caK K .deed))
  x_deed : Exms K [.table, .ring, .places, .point, .nofit, .many, .full, .far, .bag, .told] .deed
  g_nofit : mg (xcName .nofit) = some (.ref (caK K .nofit))
  x_nofit : Exms K [.table, .ring, .places, .point, .nofit, .many, .full, .far, .bag, .told] .nofit
  g_told : mg (xcName .told) = some (.ref (caK K .told))
  x_told : Exms K [.table, .ring, .places, .point, .nofit, .many, .full, .far, .bag, .told] .told
  g_many : mg (xcName .many) = some (.ref (caK K .many))
  x_many : Exms K [.table, .ring, .places, .point, .nofit, .many, .full, .far, .bag, .told] .many
section
variable {P : Program} {w : World} {K : PySem.W.Frag} {mg : Str → Option Value}
theorem sc__law_cell : FnScope ["script", "k"] ["script", "k"] (defScope (topS 92)) := ⟨by kernel_rfl, by kernel_rfl, by kernel_rfl, by decide +kernel, by kernel_rfl, by decide +kernel, by decide +kernel⟩
theorem ok__law_cell (T : TX K mg) : Ok P w K mg 1 "_law_cell" ["script", "k"] false F__law_cell :=
  def_sim (k := 0) 2 B__law_cell rfl T.h__law_cell sc__law_cell rfl (fun base bs cdv A outer s H E hr =>
  (ss_cons (ss_if (st_cmp op_lt (simB0 (g := ltI)) (se_look 1 (vl (by kernel_rfl))) (SE.vw (se_callB call_len_seq c_len (gl_of (by kernel_rfl)) T.m_len (by decide +kernel) (sa_cons (se_look 0 (vl (by kernel_rfl))) sa_nil))) (nomark _))
  (ss_one (ss_ret (se_ix (se_look 0 (vl (by kernel_rfl))) (se_look 1 (vl (by kernel_rfl))))))
  ss_nil)
  (ss_one (ss_ret se_int))))
  (fun z => nomatch z) (fun _ _ _ _ _ _ us hl => match us, hl with | [_, _], _ => by kernel_rfl)
theorem sc__law_seed : FnScope ["seed", "k"] ["seed", "k"] (defScope (topS 93)) := ⟨by kernel_rfl, by kernel_rfl, by kernel_rfl, by decide +kernel, by kernel_rfl, by decide +kernel, by decide +kernel⟩
theorem ok__law_seed (T : TX K mg) : Ok P w K mg 1 "_law_seed" ["seed", "k"] false F__law_seed :=
  def_sim (k := 0) 2 B__law_seed rfl T.h__law_seed sc__law_seed rfl (fun base bs cdv A outer s H E hr =>
  (ss_one (ss_ret (se_bin op_mod r_mod (SE.vw (se_bin op_powB r_pow (SE.vw (se_bin op_mod r_mod (SE.vw (se_bin op_addA r_add (SE.vw (se_bin op_addA r_add (SE.vw (se_bin op_mulA r_mul (se_look 0 (vl (by kernel_rfl))) (SE.vw se_int))) (SE.vw (se_bin op_mulA r_mul (SE.vw se_int) (se_look 1 (vl (by kernel_rfl))))))) (SE.vw se_int))) (SE.vw se_int))) (SE.vw se_int))) (SE.vw se_int)))))
  (fun z => nomatch z) (fun _ _ _ _ _ _ us hl => match us, hl with | [_, _], _ => by kernel_rfl)
theorem sc_is_within : FnScope ["thing", "low", "high"] ["thing", "low", "high"] (defScope (topS 18)) := ⟨by kernel_rfl, by kernel_rfl, by kernel_rfl, by decide +kernel, by kernel_rfl, by decide +kernel, by decide +kernel⟩
theorem ok_is_within (T : TX K mg) : Ok P w K mg 1 "is_within" ["thing", "low", "high"] false F_is_within :=
  def_sim (k := 0) 3 B_is_within rfl T.h_is_within sc_is_within rfl (fun base bs cdv A outer s H E hr =>
  (ss_one (ss_ret (se_and (se_isi isi_int T.m_isinstance T.m_int (by decide +kernel) (se_look 0 (vl (by kernel_rfl))) (gl_of (by kernel_rfl)) (gl_of (by kernel_rfl))) (se_and (se_not (SE.vw (se_isi isi_bool T.m_isinstance T.m_bool (by decide +kernel) (se_look 0 (vl (by kernel_rfl))) (gl_of (by kernel_rfl)) (gl_of (by kernel_rfl))))) (se_one (se_chain op_le op_le (simB0 (g := leI)) (simB0 (g := leI)) cmpD_bool (se_look 1 (vl (by kernel_rfl))) (se_look 0 (vl (by kernel_rfl))) (se_look 2 (vl (by kernel_rfl))))))))))
  (fun z => nomatch z) (fun _ _ _ _ _ _ us hl => match us, hl with | [_, _, _], _ => by kernel_rfl)
theorem sc_is_far : FnScope ["thing"] ["thing"] (defScope (topS 19)) := ⟨by kernel_rfl, by kernel_rfl, by kernel_rfl, by decide +kernel, by kernel_rfl, by decide +kernel, by decide +kernel⟩
theorem ok_is_far (T : TX K mg) : Ok P w K mg 2 "is_far" ["thing"] false F_is_far :=
  def_sim (k := 1) 1 B_is_far rfl T.h_is_far sc_is_far rfl (fun base bs cdv A outer s H E hr =>
  (ss_one (ss_ret (se_or (se_cmp op_isA r_is (se_look 0 (vl (by kernel_rfl))) (SE.vw se_none) (nomark _)) (se_one (se_def (ok_is_within T) bs hr tk0 (sa_consE (se_var 0 (vl (by kernel_rfl))) (sa_consE se_int (sa_consE (se_globE T.n_MOST_FAR (gl_of (by kernel_rfl)) (by kernel_rfl)) sa_nil))) (aCons_len (aCons_len (aCons_len aNil_len))) (gl_of (by kernel_rfl)) (by kernel_rfl)))))))
  (fun z => nomatch z) (fun _ _ _ _ _ _ us hl => match us, hl with | [_], _ => by kernel_rfl)
theorem sc_pairs : FnScope ["many", "found", "one", "other"] ["many"] (defScope (topS 20)) := ⟨by kernel_rfl, by kernel_rfl, by kernel_rfl, by decide +kernel, by kernel_rfl, by decide +kernel, by decide +kernel⟩
theorem ok_pairs (T : TX K mg) : Ok P w K mg 1 "pairs" ["many"] false F_pairs :=
  def_sim (k := 0) 4 B_pairs rfl T.h_pairs sc_pairs rfl (fun base bs cdv A outer s H E hr =>
  (ss_cons (ss_setO 1 sc_pairs.nd (se_lst sa_nil) (ll (by kernel_rfl)) (.inl rfl))
  (ss_cons (ss_for po0 rfl (si_range1 (gl_of (by kernel_rfl)) T.m_range (se_var 0 (vl (by kernel_rfl)))) (sg_name 2 sc_pairs.nd (lc (by kernel_rfl)) (.inl rfl))
  (ss_one (ss_method 1 PySem.F.slot_list_extend PySem.F.type_list_extend mt_extend (SE.fz (se_lc [("other", 3)] rfl sc_pairs.nd (SI.vw (si_range2 (gl_of (by kernel_rfl)) T.m_range (se_bin op_addA r_add (se_look 2 (vc (by kernel_rfl))) (SE.vw se_int)) (se_var 0 (vl (by kernel_rfl))))) (blkOk_by (by kernel_rfl)) (fun _ _ _ _ _ => (sg_name 3 sc_pairs.nd (ll (by kernel_rfl)) (.inr (by kernel_rfl)))) (fun _ _ _ _ _ => sts_nil) (fun _ _ _ _ _ => (se_tup (sa_consE (se_var 2 (vc (by kernel_rfl))) (sa_consE (se_var 3 (vl (by kernel_rfl))) sa_nil)))))) hr_extend (vl (by kernel_rfl)))))
  (ss_frz (O1 := []) (by decide) (ss_one (ss_ret (se_var 1 (vl (by kernel_rfl)))))))))
  (fun z => nomatch z) (fun _ _ _ _ _ _ us hl => match us, hl with | [_], _ => by kernel_rfl)
theorem sc_is_table : FnScope ["thing", "one"] ["thing"] (defScope (topS 21)) := ⟨by kernel_rfl, by kernel_rfl, by kernel_rfl, by decide +kernel, by kernel_rfl, by decide +kernel, by decide +kernel⟩
theorem ok_is_table (T : TX K mg) : Ok P w K mg 3 "is_table" ["thing"] false F_is_table :=
  def_sim (k := 2) 2 B_is_table rfl T.h_is_table sc_is_table rfl (fun base bs cdv A outer s H E hr =>
  (ss_cons (ss_if (SW.st (sw_or (st_not (st_tru (SE.vw (se_isi isi_tuple T.m_isinstance T.m_tuple (by decide +kernel) (se_look 0 (vl (by kernel_rfl))) (gl_of (by kernel_rfl)) (gl_of (by kernel_rfl)))))) (sw_or (st_cmp (op_neD hr.units) r_ne (SE.vw (se_callB call_len_seq c_len (gl_of (by kernel_rfl)) T.m_len (by decide +kernel) (sa_cons (se_look 0 (vl (by kernel_rfl))) sa_nil))) (SE.vw se_int) (nomark _)) (sw_or1 (st_not (st_tru (SE.vw (se_def ((ok_is_within T).lift (by decide)) bs hr tk0 (sa_consE (se_ix (se_look 0 (vl (by kernel_rfl))) (SE.vw se_int)) (sa_consE se_int (sa_consE (se_globE T.n_MOST_POINTS (gl_of (by kernel_rfl)) (by kernel_rfl)) sa_nil))) (aCons_len (aCons_len (aCons_len aNil_len))) (gl_of (by kernel_rfl)) (by kernel_rfl)))))))))
  (ss_one (ss_ret se_bool))
  ss_nil)
  (ss_cons (ss_if (SW.st (sw_or (st_not (st_tru (SE.vw (se_isi isi_tuple T.m_isinstance T.m_tuple (by decide +kernel) (SE.vw (se_ix (se_look 0 (vl (by kernel_rfl))) (SE.vw se_int))) (gl_of (by kernel_rfl)) (gl_of (by kernel_rfl)))))) (sw_or1 (st_cmp (op_neD hr.units) r_ne (SE.vw (se_callB call_len_seq c_len (gl_of (by kernel_rfl)) T.m_len (by decide +kernel) (sa_cons (SE.vw (se_ix (se_look 0 (vl (by kernel_rfl))) (SE.vw se_int))) sa_nil))) (SE.vw (se_callB call_len_seq c_len (gl_of (by kernel_rfl)) T.m_len (by decide +kernel) (sa_cons (SE.vw (se_def ((ok_pairs T).lift (by decide)) bs hr tk0 (sa_consE (se_ix (se_look 0 (vl (by kernel_rfl))) (SE.vw se_int)) sa_nil) (aCons_len aNil_len) (gl_of (by kernel_rfl)) (by kernel_rfl))) sa_nil))) (nomark _)))))
  (ss_one (ss_ret se_bool))
  ss_nil)
  (ss_one (ss_ret (se_not (SE.ov (se_lc [("one", 1)] rfl sc_is_table.nd (si_look (SE.vw (se_ix (se_look 0 (vl (by kernel_rfl))) (SE.vw se_int)))) (blkOk_by (by kernel_rfl)) (fun _ _ _ _ _ => (sg_name 1 sc_is_table.nd (ll (by kernel_rfl)) (.inr (by kernel_rfl)))) (fun _ _ _ _ _ => (sts_one (st_not (st_tru (SE.vw (se_def (ok_is_far T) bs hr takes0 (sa_consE (se_var 1 (vl (by kernel_rfl))) sa_nil) (aCons_len aNil_len) (gl_of (by kernel_rfl)) (by kernel_rfl))))))) (fun _ _ _ _ _ => (se_var 1 (vl (by kernel_rfl))))))))))))
  (fun z => nomatch z) (fun _ _ _ _ _ _ us hl => match us, hl with | [_], _ => by kernel_rfl)
theorem sc_look : FnScope ["table"] ["table"] (defScope (topS 22)) := ⟨by kernel_rfl, by kernel_rfl, by kernel_rfl, by decide +kernel, by kernel_rfl, by decide +kernel, by decide +kernel⟩
theorem ok_look (T : TX K mg) : Ok P w K mg 4 "look" ["table"] false F_look :=
  def_sim (k := 3) 1 B_look rfl T.h_look sc_look rfl (fun base bs cdv A outer s H E hr =>
  (ss_one (ss_if (st_not (st_tru (SE.vw (se_def (ok_is_table T) bs hr tk0 (sa_consE (se_var 0 (vl (by kernel_rfl))) sa_nil) (aCons_len aNil_len) (gl_of (by kernel_rfl)) (by kernel_rfl)))))
  (ss_one (ss_exc .table T.e_table rfl tk0 (gl_of (by kernel_rfl)) (by kernel_rfl)))
  ss_nil)))
  (fun z => nomatch z) (fun _ _ _ _ _ _ us hl => match us, hl with | [_], _ => by kernel_rfl)
theorem sc_look_pair : FnScope ["table", "one", "other", "point"] ["table", "one", "other"] (defScope (topS 42)) := ⟨by kernel_rfl, by kernel_rfl, by kernel_rfl, by decide +kernel, by kernel_rfl, by decide +kernel, by decide +kernel⟩
theorem ok_look_pair (T : TX K mg) : Ok P w K mg 2 "look_pair" ["table", "one", "other"] false F_look_pair :=
  def_sim (k := 1) 4 B_look_pair rfl T.h_look_pair sc_look_pair rfl (fun base bs cdv A outer s H E hr =>
  (ss_cons (ss_for po0 rfl (si_seq (se_tup (sa_consE (se_var 1 (vl (by kernel_rfl))) (sa_consE (se_var 2 (vl (by kernel_rfl))) sa_nil)))) (sg_name 3 sc_look_pair.nd (ll (by kernel_rfl)) (.inl rfl))
  (ss_one (ss_if (st_not (st_tru (SE.vw (se_def (ok_is_within T) bs hr tk0 (sa_consE (se_var 3 (vl (by kernel_rfl))) (sa_consE se_int (sa_consE (se_bin op_sub r_sub (SE.vw (se_ix (se_look 0 (vl (by kernel_rfl))) (SE.vw se_int))) (SE.vw se_int)) sa_nil))) (aCons_len (aCons_len (aCons_len aNil_len))) (gl_of (by kernel_rfl)) (by kernel_rfl)))))
  (ss_one (ss_exc .point T.e_point rfl tk0 (gl_of (by kernel_rfl)) (by kernel_rfl)))
  ss_nil)))
  (ss_one (ss_if (st_cmp (op_eqD hr.units) r_eq (se_look 1 (vl (by kernel_rfl))) (se_look 2 (vl (by kernel_rfl))) (nomark _))
  (ss_one (ss_exc .point T.e_point rfl tk0 (gl_of (by kernel_rfl)) (by kernel_rfl)))
  ss_nil))))
  (fun z => nomatch z) (fun _ _ _ _ _ _ us hl => match us, hl with | [_, _, _], _ => by kernel_rfl)
theorem sc_far_in : FnScope ["table", "found", "one", "other", "far"] ["table"] (defScope (topS 25)) := ⟨by kernel_rfl, by kernel_rfl, by kernel_rfl, by decide +kernel, by kernel_rfl, by decide +kernel, by decide +kernel⟩
theorem ok_far_in (T : TX K mg) : Ok P w K mg 2 "far_in" ["table"] true F_far_in :=
  def_sim (k := 1) 5 B_far_in rfl T.h_far_in sc_far_in rfl (fun base bs cdv A outer s H E hr =>
  sss_no)
  (fun _ => nx_no) (fun _ _ _ _ _ _ us hl => match us, hl with | [_], _ => by kernel_rfl)
theorem sc_made : FnScope ["many", "known", "row", "one", "other"] ["many", "known"] (defScope (topS 43)) := ⟨by kernel_rfl, by kernel_rfl, by kernel_rfl, by decide +kernel, by kernel_rfl, by decide +kernel, by decide +kernel⟩
theorem ok_made (T : TX K mg) : Ok P w K mg 2 "made" ["many", "known"] false F_made :=
  def_sim (k := 1) 5 B_made rfl T.h_made sc_made rfl (fun base bs cdv A outer s H E hr =>
  (ss_cons (ss_setO 2 sc_made.nd (se_lst sa_nil) (ll (by kernel_rfl)) (.inl rfl))
  (ss_cons (ss_for po0 rfl (si_seq (se_def (ok_pairs T) bs hr tk0 (sa_consE (se_var 0 (vl (by kernel_rfl))) sa_nil) (aCons_len aNil_len) (gl_of (by kernel_rfl)) (by kernel_rfl))) (sg_tup rfl (sgs_cons (sg_name 3 sc_made.nd (ll (by kernel_rfl)) (.inl rfl)) (sgs_cons (sg_name 4 sc_made.nd (ll (by kernel_rfl)) (.inl rfl)) sgs_nil)))
  sss_no)
  (ss_one (ss_ret (se_tup (sa_consE (se_var 0 (vl (by kernel_rfl))) (sa_consE (se_callTy call_tuple_of c_tuple (gl_of (by kernel_rfl)) T.m_tuple (by decide +kernel) (sa_cons (se_look 2 (vl (by kernel_rfl))) sa_nil)) sa_nil))))))))
  (fun z => nomatch z) (fun _ _ _ _ _ _ us hl => match us, hl with | [_, _], _ => by kernel_rfl)
theorem sc_with_far : FnScope ["table", "one", "other", "far", "known"] ["table", "one", "other", "far"] (defScope (topS 44)) := ⟨by kernel_rfl, by kernel_rfl, by kernel_rfl, by decide +kernel, by kernel_rfl, by decide +kernel, by decide +kernel⟩
theorem ok_with_far (T : TX K mg) : Ok P w K mg 3 "with_far" ["table", "one", "other", "far"] false F_with_far :=
  def_sim (k := 2) 5 B_with_far rfl T.h_with_far sc_with_far rfl (fun base bs cdv A outer s H E hr =>
  (ss_cons (ss_setO 4 sc_with_far.nd (se_defO (ok_far_in T) bs hr tk0 (sa_consE (se_var 0 (vl (by kernel_rfl))) sa_nil) (aCons_len aNil_len) (gl_of (by kernel_rfl)) (by kernel_rfl)) (ll (by kernel_rfl)) (.inl rfl))
  (ss_cons (ss_put 4 set_list hr_setL (se_tup (sa_consE (se_var 1 (vl (by kernel_rfl))) (sa_consE (se_var 2 (vl (by kernel_rfl))) sa_nil))) (se_var 3 (vl (by kernel_rfl))) (vl (by kernel_rfl)))
  (ss_cons (ss_put 4 set_list hr_setL (se_tup (sa_consE (se_var 2 (vl (by kernel_rfl))) (sa_consE (se_var 1 (vl (by kernel_rfl))) sa_nil))) (se_var 3 (vl (by kernel_rfl))) (vl (by kernel_rfl)))
  (ss_frz (O1 := []) (by decide) (ss_one (ss_ret (se_def (ok_made T) bs hr tk0 (sa_consE (se_ix (se_look 0 (vl (by kernel_rfl))) (SE.vw se_int)) (sa_consE (se_var 4 (vl (by kernel_rfl))) sa_nil)) (aCons_len (aCons_len aNil_len)) (gl_of (by kernel_rfl)) (by kernel_rfl)))))))))
  (fun z => nomatch z) (fun _ _ _ _ _ _ us hl => match us, hl with | [_, _, _, _], _ => by kernel_rfl)
theorem sc_retold : FnScope ["table", "one", "other", "far"] ["table", "one", "other", "far"] (defScope (topS 45)) := ⟨by kernel_rfl, by kernel_rfl, by kernel_rfl, by decide +kernel, by kernel_rfl, by decide +kernel, by decide +kernel⟩
theorem ok_retold (T : TX K mg) : Ok P w K mg 5 "retold" ["table", "one", "other", "far"] false F_retold :=
  def_sim (k := 4) 4 B_retold rfl T.h_retold sc_retold rfl (fun base bs cdv A outer s H E hr =>
  (ss_cons (ss_expr (se_def (ok_look T) bs hr tk0 (sa_consE (se_var 0 (vl (by kernel_rfl))) sa_nil) (aCons_len aNil_len) (gl_of (by kernel_rfl)) (by kernel_rfl)))
  (ss_cons (ss_expr (se_def ((ok_look_pair T).lift (by decide)) bs hr tk0 (sa_consE (se_var 0 (vl (by kernel_rfl))) (sa_consE (se_var 1 (vl (by kernel_rfl))) (sa_consE (se_var 2 (vl (by kernel_rfl))) sa_nil))) (aCons_len (aCons_len (aCons_len aNil_len))) (gl_of (by kernel_rfl)) (by kernel_rfl)))
  (ss_cons (ss_if (st_not (st_tru (SE.vw (se_def ((ok_is_far T).lift (by decide)) bs hr tk0 (sa_consE (se_var 3 (vl (by kernel_rfl))) sa_nil) (aCons_len aNil_len) (gl_of (by kernel_rfl)) (by kernel_rfl)))))
  (ss_one (ss_exc .far T.e_far rfl tk0 (gl_of (by kernel_rfl)) (by kernel_rfl)))
  ss_nil)
  (ss_one (ss_ret (se_def ((ok_with_far T).lift (by decide)) bs hr tk0 (sa_consE (se_var 0 (vl (by kernel_rfl))) (sa_consE (se_var 1 (vl (by kernel_rfl))) (sa_consE (se_var 2 (vl (by kernel_rfl))) (sa_consE (se_var 3 (vl (by kernel_rfl))) sa_nil)))) (aCons_len (aCons_len (aCons_len (aCons_len aNil_len)))) (gl_of (by kernel_rfl)) (by kernel_rfl))))))))
  (fun z => nomatch z) (fun _ _ _ _ _ _ us hl => match us, hl with | [_, _, _, _], _ => by kernel_rfl)
theorem sc_renumbered : FnScope ["table", "numbers", "known", "one", "other"] ["table", "numbers"] (defScope (topS 46)) := ⟨by kernel_rfl, by kernel_rfl, by kernel_rfl, by decide +kernel, by kernel_rfl, by decide +kernel, by decide +kernel⟩
theorem ok_renumbered (T : TX K mg) : Ok P w K mg 5 "renumbered" ["table", "numbers"] false F_renumbered :=
  def_sim (k := 4) 5 B_renumbered rfl T.h_renumbered sc_renumbered rfl (fun base bs cdv A outer s H E hr =>
  (ss_cons (ss_expr (se_def (ok_look T) bs hr tk0 (sa_consE (se_var 0 (vc (by kernel_rfl))) sa_nil) (aCons_len aNil_len) (gl_of (by kernel_rfl)) (by kernel_rfl)))
  (ss_cons (ss_if (SW.st (sw_or (st_not (st_tru (SE.vw (se_isi isi_tuple T.m_isinstance T.m_tuple (by decide +kernel) (se_look 1 (vc (by kernel_rfl))) (gl_of (by kernel_rfl)) (gl_of (by kernel_rfl)))))) (sw_or1 (st_tru (SE.ov (se_lc [("one", 3)] rfl sc_renumbered.nd (si_look (se_look 1 (vc (by kernel_rfl)))) (blkOk_by (by kernel_rfl)) (fun _ _ _ _ _ => (sg_name 3 sc_renumbered.nd (ll (by kernel_rfl)) (.inr (by kernel_rfl)))) (fun _ _ _ _ _ => (sts_one (st_not (st_tru (SE.vw (se_def ((ok_is_within T).lift (by decide)) bs hr takes0 (sa_consE (se_var 3 (vl (by kernel_rfl))) (sa_consE se_int (sa_consE (se_bin op_sub r_sub (SE.vw (se_ix (se_look 0 (vc (by kernel_rfl))) (SE.vw se_int))) (SE.vw se_int)) sa_nil))) (aCons_len (aCons_len (aCons_len aNil_len))) (gl_of (by kernel_rfl)) (by kernel_rfl))))))) (fun _ _ _ _ _ => (se_var 3 (vl (by kernel_rfl))))))))))
  (ss_one (ss_exc .point T.e_point rfl tk0 (gl_of (by kernel_rfl)) (by kernel_rfl)))
  ss_nil)
  (ss_cons (ss_if (st_cmp (op_neD hr.units) r_ne (SE.ov (se_callB (cr_sort2 (u65 hr)) c_sortA (gl_of (by kernel_rfl)) T.m_sorted (by decide +kernel) (sa_cons (se_look 1 (vc (by kernel_rfl))) sa_nil))) (SE.ov (se_listRg rfl (gl_of (by kernel_rfl)) T.m_list (srg_1 (gl_of (by kernel_rfl)) T.m_range (se_ix (se_look 0 (vc (by kernel_rfl))) (SE.vw se_int))))) (nomark _))
  (ss_one (ss_exc .point T.e_point rfl tk0 (gl_of (by kernel_rfl)) (by kernel_rfl)))
  ss_nil)
  (ss_cons (ss_set 2 sc_renumbered.nd (SE.fz (se_defO ((ok_far_in T).lift (by decide)) bs hr tk0 (sa_consE (se_var 0 (vc (by kernel_rfl))) sa_nil) (aCons_len aNil_len) (gl_of (by kernel_rfl)) (by kernel_rfl))) (lc (by kernel_rfl)) (.inl rfl))
  sss_no)))))
  (fun z => nomatch z) (fun _ _ _ _ _ _ us hl => match us, hl with | [_, _], _ => by kernel_rfl)
theorem sc_put_together : FnScope ["one", "other", "numbers", "many", "known", "its", "first", "second"] ["one", "other", "numbers", "many"] (defScope (topS 47)) := ⟨by kernel_rfl, by kernel_rfl, by kernel_rfl, by decide +kernel, by kernel_rfl, by decide +kernel, by decide +kernel⟩
theorem ok_put_together (T : TX K mg) : Ok P w K mg 3 "put_together" ["one", "other", "numbers", "many"] false F_put_together :=
  def_sim (k := 2) 8 B_put_together rfl T.h_put_together sc_put_together rfl (fun base bs cdv A outer s H E hr =>
  (ss_cons (ss_setO 4 sc_put_together.nd (se_defO (ok_far_in T) bs hr tk0 (sa_consE (se_var 0 (vl (by kernel_rfl))) sa_nil) (aCons_len aNil_len) (gl_of (by kernel_rfl)) (by kernel_rfl)) (ll (by kernel_rfl)) (.inl rfl))
  (ss_cons (ss_set 5 sc_put_together.nd (SE.fz (se_defO (ok_far_in T) bs hr tk0 (sa_consE (se_var 1 (vl (by kernel_rfl))) sa_nil) (aCons_len aNil_len) (gl_of (by kernel_rfl)) (by kernel_rfl))) (ll (by kernel_rfl)) (.inl rfl))
  (ss_cons (ss_for po0 rfl (si_seq (se_var 5 (vl (by kernel_rfl)))) (sg_tup rfl (sgs_cons (sg_name 6 sc_put_together.nd (ll (by kernel_rfl)) (.inl rfl)) (sgs_cons (sg_name 7 sc_put_together.nd (ll (by kernel_rfl)) (.inl rfl)) sgs_nil)))
  (ss_one (ss_put 4 set_list hr_setL (se_tup (sa_consE (se_ix (se_look 2 (vl (by kernel_rfl))) (se_look 6 (vl (by kernel_rfl)))) (sa_consE (se_ix (se_look 2 (vl (by kernel_rfl))) (se_look 7 (vl (by kernel_rfl)))) sa_nil))) (se_ix (se_look 5 (vl (by kernel_rfl))) (SE.vw (se_tup (sa_consE (se_var 6 (vl (by kernel_rfl))) (sa_consE (se_var 7 (vl (by kernel_rfl))) sa_nil))))) (vl (by kernel_rfl)))))
  (ss_frz (O1 := []) (by decide) (ss_one (ss_ret (se_def (ok_made T) bs hr tk0 (sa_consE (se_var 3 (vl (by kernel_rfl))) (sa_consE (se_var 4 (vl (by kernel_rfl))) sa_nil)) (aCons_len (aCons_len aNil_len)) (gl_of (by kernel_rfl)) (by kernel_rfl)))))))))
  (fun z => nomatch z) (fun _ _ _ _ _ _ us hl => match us, hl with | [_, _, _, _], _ => by kernel_rfl)
theorem sc_look_both : FnScope ["one", "other"] ["one", "other"] (defScope (topS 48)) := ⟨by kernel_rfl, by kernel_rfl, by kernel_rfl, by decide +kernel, by kernel_rfl, by decide +kernel, by decide +kernel⟩
theorem ok_look_both (T : TX K mg) : Ok P w K mg 5 "look_both" ["one", "other"] false F_look_both :=
  def_sim (k := 4) 2 B_look_both rfl T.h_look_both sc_look_both rfl (fun base bs cdv A outer s H E hr =>
  (ss_cons (ss_expr (se_def (ok_look T) bs hr tk0 (sa_consE (se_var 0 (vl (by kernel_rfl))) sa_nil) (aCons_len aNil_len) (gl_of (by kernel_rfl)) (by kernel_rfl)))
  (ss_one (ss_expr (se_def (ok_look T) bs hr tk0 (sa_consE (se_var 1 (vl (by kernel_rfl))) sa_nil) (aCons_len aNil_len) (gl_of (by kernel_rfl)) (by kernel_rfl))))))
  (fun z => nomatch z) (fun _ _ _ _ _ _ us hl => match us, hl with | [_, _], _ => by kernel_rfl)
theorem sc_beside : FnScope ["one", "other", "many", "point"] ["one", "other"] (defScope (topS 49)) := ⟨by kernel_rfl, by kernel_rfl, by kernel_rfl, by decide +kernel, by kernel_rfl, by decide +kernel, by decide +kernel⟩
theorem ok_beside (T : TX K mg) : Ok P w K mg 6 "beside" ["one", "other"] false F_beside :=
  def_sim (k := 5) 4 B_beside rfl T.h_beside sc_beside rfl (fun base bs cdv A outer s H E hr =>
  (ss_cons (ss_expr (se_def (ok_look_both T) bs hr tk0 (sa_consE (se_var 0 (vc (by kernel_rfl))) (sa_consE (se_var 1 (vl (by kernel_rfl))) sa_nil)) (aCons_len (aCons_len aNil_len)) (gl_of (by kernel_rfl)) (by kernel_rfl)))
  (ss_cons (ss_set 2 sc_beside.nd (se_bin op_addA r_add (SE.vw (se_ix (se_look 0 (vc (by kernel_rfl))) (SE.vw se_int))) (SE.vw (se_ix (se_look 1 (vl (by kernel_rfl))) (SE.vw se_int)))) (ll (by kernel_rfl)) (.inl rfl))
  (ss_cons (ss_if (st_cmp op_gt (simB0 (g := gtI)) (se_look 2 (vl (by kernel_rfl))) (SE.vw (se_globE T.n_MOST_POINTS (gl_of (by kernel_rfl)) (by kernel_rfl))) (nomark _))
  (ss_one (ss_exc .full T.e_full rfl tk0 (gl_of (by kernel_rfl)) (by kernel_rfl)))
  ss_nil)
  (ss_one (ss_ret (se_def ((ok_put_together T).lift (by decide)) bs hr tk0 (sa_consE (se_var 0 (vc (by kernel_rfl))) (sa_consE (se_var 1 (vl (by kernel_rfl))) (sa_consE (SE.fz (se_lc [("point", 3)] rfl sc_beside.nd (SI.vw (si_range1 (gl_of (by kernel_rfl)) T.m_range (se_ix (se_look 1 (vl (by kernel_rfl))) (SE.vw se_int)))) (blkOk_by (by kernel_rfl)) (fun _ _ _ _ _ => (sg_name 3 sc_beside.nd (ll (by kernel_rfl)) (.inr (by kernel_rfl)))) (fun _ _ _ _ _ => sts_nil) (fun _ _ _ _ _ => (se_bin op_addA r_add (SE.vw (se_ix (se_look 0 (vc (by kernel_rfl))) (SE.vw se_int))) (se_look 3 (vl (by kernel_rfl))))))) (sa_consE (se_var 2 (vl (by kernel_rfl))) sa_nil)))) (aCons_len (aCons_len (aCons_len (aCons_len aNil_len)))) (gl_of (by kernel_rfl)) (by kernel_rfl))))))))
  (fun z => nomatch z) (fun _ _ _ _ _ _ us hl => match us, hl with | [_, _], _ => by kernel_rfl)
theorem sc_glued : FnScope ["one", "other", "mine", "its", "many", "numbers", "point"] ["one", "other", "mine", "its"] (defScope (topS 50)) := ⟨by kernel_rfl, by kernel_rfl, by kernel_rfl, by decide +kernel, by kernel_rfl, by decide +kernel, by decide +kernel⟩
theorem ok_glued (T : TX K mg) : Ok P w K mg 6 "glued" ["one", "other", "mine", "its"] false F_glued :=
  def_sim (k := 5) 7 B_glued rfl T.h_glued sc_glued rfl (fun base bs cdv A outer s H E hr =>
  (ss_cons (ss_expr (se_def (ok_look_both T) bs hr tk0 (sa_consE (se_var 0 (vc (by kernel_rfl))) (sa_consE (se_var 1 (vl (by kernel_rfl))) sa_nil)) (aCons_len (aCons_len aNil_len)) (gl_of (by kernel_rfl)) (by kernel_rfl)))
  (ss_cons (ss_if (SW.st (sw_or (st_not (st_tru (SE.vw (se_def ((ok_is_within T).lift (by decide)) bs hr tk0 (sa_consE (se_var 2 (vl (by kernel_rfl))) (sa_consE se_int (sa_consE (se_bin op_sub r_sub (SE.vw (se_ix (se_look 0 (vc (by kernel_rfl))) (SE.vw se_int))) (SE.vw se_int)) sa_nil))) (aCons_len (aCons_len (aCons_len aNil_len))) (gl_of (by kernel_rfl)) (by kernel_rfl))))) (sw_or1 (st_not (st_tru (SE.vw (se_def ((ok_is_within T).lift (by decide)) bs hr tk0 (sa_consE (se_var 3 (vc (by kernel_rfl))) (sa_consE se_int (sa_consE (se_bin op_sub r_sub (SE.vw (se_ix (se_look 1 (vl (by kernel_rfl))) (SE.vw se_int))) (SE.vw se_int)) sa_nil))) (aCons_len (aCons_len (aCons_len aNil_len))) (gl_of (by kernel_rfl)) (by kernel_rfl))))))))
  (ss_one (ss_exc .point T.e_point rfl tk0 (gl_of (by kernel_rfl)) (by kernel_rfl)))
  ss_nil)
  (ss_cons (ss_set 4 sc_glued.nd (se_bin op_sub r_sub (SE.vw (se_bin op_addA r_add (SE.vw (se_ix (se_look 0 (vc (by kernel_rfl))) (SE.vw se_int))) (SE.vw (se_ix (se_look 1 (vl (by kernel_rfl))) (SE.vw se_int))))) (SE.vw se_int)) (ll (by kernel_rfl)) (.inl rfl))
  (ss_cons (ss_if (st_cmp op_gt (simB0 (g := gtI)) (se_look 4 (vl (by kernel_rfl))) (SE.vw (se_globE T.n_MOST_POINTS (gl_of (by kernel_rfl)) (by kernel_rfl))) (nomark _))
  (ss_one (ss_exc .full T.e_full rfl tk0 (gl_of (by kernel_rfl)) (by kernel_rfl)))
  ss_nil)
  (ss_cons (ss_lcO 5 [("point", 6)] rfl sc_glued.nd (SI.vw (si_range1 (gl_of (by kernel_rfl)) T.m_range (se_ix (se_look 1 (vl (by kernel_rfl))) (SE.vw se_int)))) (blkOk_by (by kernel_rfl)) (fun _ _ _ _ _ => (sg_name 6 sc_glued.nd (ll (by kernel_rfl)) (.inr (by kernel_rfl)))) (fun _ _ _ _ _ => sts_nil) (fun _ _ _ _ _ => (se_bin op_sub r_sub (SE.vw (se_bin op_addA r_add (SE.vw (se_ix (se_look 0 (vc (by kernel_rfl))) (SE.vw se_int))) (se_look 6 (vl (by kernel_rfl))))) (SE.vw (se_callTy call_int1 c_int (gl_of (by kernel_rfl)) T.m_int (by decide +kernel) (sa_cons (SE.vw (se_cmp op_gt (simB0 (g := gtI)) (se_look 6 (vl (by kernel_rfl))) (se_look 3 (vc (by kernel_rfl))) (nomark _))) sa_nil))))) (sw_true rfl (by kernel_rfl) (by kernel_rfl) (by decide +kernel)))
  (ss_cons (ss_put 5 set_list hr_setL (se_var 3 (vc (by kernel_rfl))) (se_var 2 (vl (by kernel_rfl))) (vl (by kernel_rfl)))
  (ss_frz (O1 := []) (by decide) (ss_one (ss_ret (se_def ((ok_put_together T).lift (by decide)) bs hr tk0 (sa_consE (se_var 0 (vc (by kernel_rfl))) (sa_consE (se_var 1 (vl (by kernel_rfl))) (sa_consE (se_var 5 (vl (by kernel_rfl))) (sa_consE (se_var 4 (vl (by kernel_rfl))) sa_nil)))) (aCons_len (aCons_len (aCons_len (aCons_len aNil_len)))) (gl_of (by kernel_rfl)) (by kernel_rfl))))))))))))
  (fun z => nomatch z) (fun _ _ _ _ _ _ us hl => match us, hl with | [_, _, _, _], _ => by kernel_rfl)
theorem sc_do_agree : FnScope ["one", "other", "far", "its"] ["one", "other"] (defScope (topS 51)) := ⟨by kernel_rfl, by kernel_rfl, by kernel_rfl, by decide +kernel, by kernel_rfl, by decide +kernel, by decide +kernel⟩
theorem ok_do_agree (T : TX K mg) : Ok P w K mg 1 "do_agree" ["one", "other"] false F_do_agree :=
  def_sim (k := 0) 4 B_do_agree rfl T.h_do_agree sc_do_agree rfl (fun base bs cdv A outer s H E hr =>
  (ss_cons (ss_if (st_cmp (op_neD hr.units) r_ne (SE.vw (se_ix (se_look 0 (vl (by kernel_rfl))) (SE.vw se_int))) (SE.vw (se_ix (se_look 1 (vl (by kernel_rfl))) (SE.vw se_int))) (nomark _))
  (ss_one (ss_ret se_bool))
  ss_nil)
  (ss_one (ss_ret (se_not (SE.ov (se_lc [("far", 2), ("its", 3)] rfl sc_do_agree.nd (si_zipB T.m_zip (SE.vw (se_ix (se_look 0 (vl (by kernel_rfl))) (SE.vw se_int))) (SE.vw (se_ix (se_look 1 (vl (by kernel_rfl))) (SE.vw se_int))) (gl_of (by kernel_rfl))) (blkOk_by (by kernel_rfl)) (fun _ _ _ _ _ => (sg_tup rfl (sgs_cons (sg_name 2 sc_do_agree.nd (ll (by kernel_rfl)) (.inr (by kernel_rfl))) (sgs_cons (sg_name 3 sc_do_agree.nd (ll (by kernel_rfl)) (.inr (by kernel_rfl))) sgs_nil)))) (fun _ _ _ _ _ => (sts_one (SW.st (sw_and (st_cmp op_isnA r_isn (se_look 2 (vl (by kernel_rfl))) (SE.vw se_none) (nomark _)) (sw_and (st_cmp op_isnA r_isn (se_look 3 (vl (by kernel_rfl))) (SE.vw se_none) (nomark _)) (sw_and1 (st_cmp (op_neD hr.units) r_ne (se_look 2 (vl (by kernel_rfl))) (se_look 3 (vl (by kernel_rfl))) (nomark _)))))))) (fun _ _ _ _ _ => se_int))))))))
  (fun z => nomatch z) (fun _ _ _ _ _ _ us hl => match us, hl with | [_, _], _ => by kernel_rfl)
theorem sc_agree : FnScope ["one", "other"] ["one", "other"] (defScope (topS 52)) := ⟨by kernel_rfl, by kernel_rfl, by kernel_rfl, by decide +kernel, by kernel_rfl, by decide +kernel, by decide +kernel⟩
theorem ok_agree (T : TX K mg) : Ok P w K mg 6 "agree" ["one", "other"] false F_agree :=
  def_sim (k := 5) 2 B_agree rfl T.h_agree sc_agree rfl (fun base bs cdv A outer s H E hr =>
  (ss_cons (ss_expr (se_def (ok_look_both T) bs hr tk0 (sa_consE (se_var 0 (vl (by kernel_rfl))) (sa_consE (se_var 1 (vl (by kernel_rfl))) sa_nil)) (aCons_len (aCons_len aNil_len)) (gl_of (by kernel_rfl)) (by kernel_rfl)))
  (ss_one (ss_ret (se_def ((ok_do_agree T).lift (by decide)) bs hr tk0 (sa_consE (se_var 0 (vl (by kernel_rfl))) (sa_consE (se_var 1 (vl (by kernel_rfl))) sa_nil)) (aCons_len (aCons_len aNil_len)) (gl_of (by kernel_rfl)) (by kernel_rfl))))))
  (fun z => nomatch z) (fun _ _ _ _ _ _ us hl => match us, hl with | [_, _], _ => by kernel_rfl)
theorem sc_united : FnScope ["one", "other", "far", "its"] ["one", "other"] (defScope (topS 53)) := ⟨by kernel_rfl, by kernel_rfl, by kernel_rfl, by decide +kernel, by kernel_rfl, by decide +kernel, by decide +kernel⟩
theorem ok_united (T : TX K mg) : Ok P w K mg 6 "united" ["one", "other"] false F_united :=
  def_sim (k := 5) 4 B_united rfl T.h_united sc_united rfl (fun base bs cdv A outer s H E hr =>
  (ss_cons (ss_expr (se_def (ok_look_both T) bs hr tk0 (sa_consE (se_var 0 (vl (by kernel_rfl))) (sa_consE (se_var 1 (vl (by kernel_rfl))) sa_nil)) (aCons_len (aCons_len aNil_len)) (gl_of (by kernel_rfl)) (by kernel_rfl)))
  (ss_cons (ss_if (st_not (st_tru (SE.vw (se_def ((ok_do_agree T).lift (by decide)) bs hr tk0 (sa_consE (se_var 0 (vl (by kernel_rfl))) (sa_consE (se_var 1 (vl (by kernel_rfl))) sa_nil)) (aCons_len (aCons_len aNil_len)) (gl_of (by kernel_rfl)) (by kernel_rfl)))))
  (ss_one (ss_exc .nofit T.e_nofit rfl tk0 (gl_of (by kernel_rfl)) (by kernel_rfl)))
  ss_nil)
  (ss_one (ss_ret (se_tup (sa_consE (se_ix (se_look 0 (vl (by kernel_rfl))) (SE.vw se_int)) (sa_consE (se_callTy call_tuple_of c_tuple (gl_of (by kernel_rfl)) T.m_tuple (by decide +kernel) (sa_cons (SE.ov (se_lc [("far", 2), ("its", 3)] rfl sc_united.nd (si_zipB T.m_zip (SE.vw (se_ix (se_look 0 (vl (by kernel_rfl))) (SE.vw se_int))) (SE.vw (se_ix (se_look 1 (vl (by kernel_rfl))) (SE.vw se_int))) (gl_of (by kernel_rfl))) (blkOk_by (by kernel_rfl)) (fun _ _ _ _ _ => (sg_tup rfl (sgs_cons (sg_name 2 sc_united.nd (ll (by kernel_rfl)) (.inr (by kernel_rfl))) (sgs_cons (sg_name 3 sc_united.nd (ll (by kernel_rfl)) (.inr (by kernel_rfl))) sgs_nil)))) (fun _ _ _ _ _ => sts_nil) (fun _ _ _ _ _ => (se_if (st_cmp op_isA r_is (se_look 2 (vl (by kernel_rfl))) (SE.vw se_none) (nomark _)) (se_var 3 (vl (by kernel_rfl))) (se_var 2 (vl (by kernel_rfl))))))) sa_nil)) sa_nil))))))))
  (fun z => nomatch z) (fun _ _ _ _ _ _ us hl => match us, hl with | [_, _], _ => by kernel_rfl)
theorem sc_open_in : FnScope ["table", "known", "pair"] ["table"] (defScope (topS 65)) := ⟨by kernel_rfl, by kernel_rfl, by kernel_rfl, by decide +kernel, by kernel_rfl, by decide +kernel, by decide +kernel⟩
theorem ok_open_in (T : TX K mg) : Ok P w K mg 3 "open_in" ["table"] false F_open_in :=
  def_sim (k := 2) 3 B_open_in rfl T.h_open_in sc_open_in rfl (fun base bs cdv A outer s H E hr =>
  (ss_cons (ss_set 1 sc_open_in.nd (SE.fz (se_defO (ok_far_in T) bs hr tk0 (sa_consE (se_var 0 (vl (by kernel_rfl))) sa_nil) (aCons_len aNil_len) (gl_of (by kernel_rfl)) (by kernel_rfl))) (lc (by kernel_rfl)) (.inl rfl))
  (ss_one (ss_ret (SE.fz (se_lc [("pair", 2)] rfl sc_open_in.nd (si_look (SE.vw (se_def ((ok_pairs T).lift (by decide)) bs hr tk0 (sa_consE (se_ix (se_look 0 (vl (by kernel_rfl))) (SE.vw se_int)) sa_nil) (aCons_len aNil_len) (gl_of (by kernel_rfl)) (by kernel_rfl)))) (blkOk_by (by kernel_rfl)) (fun _ _ _ _ _ => (sg_name 2 sc_open_in.nd (ll (by kernel_rfl)) (.inr (by kernel_rfl)))) (fun _ _ _ _ _ => (sts_one (st_cmp (op_notInA (u65 hr)) r_notInA (se_look 2 (vl (by kernel_rfl))) (se_look 1 (vc (by kernel_rfl))) (by kernel_rfl)))) (fun _ _ _ _ _ => (se_var 2 (vl (by kernel_rfl))))))))))
  (fun z => nomatch z) (fun _ _ _ _ _ _ us hl => match us, hl with | [_], _ => by kernel_rfl)
theorem sc_open_pairs : FnScope ["table"] ["table"] (defScope (topS 66)) := ⟨by kernel_rfl, by kernel_rfl, by kernel_rfl, by decide +kernel, by kernel_rfl, by decide +kernel, by decide +kernel⟩
theorem ok_open_pairs (T : TX K mg) : Ok P w K mg 5 "open_pairs" ["table"] false F_open_pairs :=
  def_sim (k := 4) 1 B_open_pairs rfl T.h_open_pairs sc_open_pairs rfl (fun base bs cdv A outer s H E hr =>
  (ss_cons (ss_expr (se_def (ok_look T) bs hr tk0 (sa_consE (se_var 0 (vl (by kernel_rfl))) sa_nil) (aCons_len aNil_len) (gl_of (by kernel_rfl)) (by kernel_rfl)))
  (ss_one (ss_ret (se_def ((ok_open_in T).lift (by decide)) bs hr tk0 (sa_consE (se_var 0 (vl (by kernel_rfl))) sa_nil) (aCons_len aNil_len) (gl_of (by kernel_rfl)) (by kernel_rfl))))))
  (fun z => nomatch z) (fun _ _ _ _ _ _ us hl => match us, hl with | [_], _ => by kernel_rfl)
theorem sc_look_ring : FnScope ["ring"] ["ring"] (defScope (topS 23)) := ⟨by kernel_rfl, by kernel_rfl, by kernel_rfl, by decide +kernel, by kernel_rfl, by decide +kernel, by decide +kernel⟩
theorem ok_look_ring (T : TX K mg) : Ok P w K mg 2 "look_ring" ["ring"] false F_look_ring :=
  def_sim (k := 1) 1 B_look_ring rfl T.h_look_ring sc_look_ring rfl (fun base bs cdv A outer s H E hr =>
  (ss_one (ss_if (st_not (st_tru (SE.vw (se_def (ok_is_within T) bs hr tk0 (sa_consE (se_var 0 (vl (by kernel_rfl))) (sa_consE se_int (sa_consE (se_globE T.n_MOST_RING (gl_of (by kernel_rfl)) (by kernel_rfl)) sa_nil))) (aCons_len (aCons_len (aCons_len aNil_len))) (gl_of (by kernel_rfl)) (by kernel_rfl)))))
  (ss_one (ss_exc .ring T.e_ring rfl tk0 (gl_of (by kernel_rfl)) (by kernel_rfl)))
  ss_nil)))
  (fun z => nomatch z) (fun _ _ _ _ _ _ us hl => match us, hl with | [_], _ => by kernel_rfl)
theorem sc_pieces : FnScope ["table", "known", "left", "found", "piece", "point", "one", "two"] ["table"] (defScope (topS 55)) := ⟨by kernel_rfl, by kernel_rfl, by kernel_rfl, by decide +kernel, by kernel_rfl, by decide +kernel, by decide +kernel⟩
theorem ok_pieces (T : TX K mg) : Ok P w K mg 3 "pieces" ["table"] false F_pieces :=
  def_sim (k := 2) 8 B_pieces rfl T.h_pieces sc_pieces rfl (fun base bs cdv A outer s H E hr =>
  (ss_cons (ss_set 1 sc_pieces.nd (SE.fz (se_defO (ok_far_in T) bs hr tk0 (sa_consE (se_var 0 (vl (by kernel_rfl))) sa_nil) (aCons_len aNil_len) (gl_of (by kernel_rfl)) (by kernel_rfl))) (lc (by kernel_rfl)) (.inl rfl))
  (ss_cons (ss_set 2 sc_pieces.nd (SE.fz (se_listRg rfl (gl_of (by kernel_rfl)) T.m_list (srg_1 (gl_of (by kernel_rfl)) T.m_range (se_ix (se_look 0 (vl (by kernel_rfl))) (SE.vw se_int))))) (ll (by kernel_rfl)) (.inl rfl))
  (ss_cons (ss_setO 3 sc_pieces.nd (se_lst sa_nil) (ll (by kernel_rfl)) (.inl rfl))
  (ss_cons (ss_while 100 po0 (st_tru (se_look 2 (vl (by kernel_rfl))))
  (ss_cons (ss_setO 4 sc_pieces.nd (se_lst (sa_consE (se_ix (se_look 2 (vl (by kernel_rfl))) (SE.vw se_int)) sa_nil)) (lc (by kernel_rfl)) (.inl rfl))
  (ss_cons (ss_for po0 rfl (si_range1 (gl_of (by kernel_rfl)) T.m_range (se_ix (se_look 0 (vl (by kernel_rfl))) (SE.vw se_int))) (sg_name 5 sc_pieces.nd (ll (by kernel_rfl)) (.inl rfl))
  (ss_one (ss_method 4 PySem.F.slot_list_extend PySem.F.type_list_extend mt_extend (SE.fz (se_lc [("one", 6)] rfl sc_pieces.nd (si_look (se_look 2 (vl (by kernel_rfl)))) (blkOk_by (by kernel_rfl)) (fun _ _ _ _ _ => (sg_name 6 sc_pieces.nd (lc (by kernel_rfl)) (.inl (by kernel_rfl)))) (fun _ _ _ _ _ => (sts_one (SW.st (sw_and (st_cmp (op_notInA (u65 hr)) r_notInA (se_look 6 (vc (by kernel_rfl))) (se_look 4 (vc (by kernel_rfl))) (by kernel_rfl)) (sw_and1 (st_tru (SE.ov (se_lc [("two", 7)] rfl sc_pieces.nd (si_look (se_look 4 (vc (by kernel_rfl)))) (blkOk_by (by kernel_rfl)) (fun _ _ _ _ _ => (sg_name 7 sc_pieces.nd (ll (by kernel_rfl)) (.inr (by kernel_rfl)))) (fun _ _ _ _ _ => (sts_one (st_cmp (op_inA (u65 hr)) r_inA (SE.vw (se_tup (sa_consE (se_var 6 (vc (by kernel_rfl))) (sa_consE (se_var 7 (vl (by kernel_rfl))) sa_nil)))) (se_look 1 (vc (by kernel_rfl))) (by kernel_rfl)))) (fun _ _ _ _ _ => se_int))))))))) (fun _ _ _ _ _ => (se_var 6 (vc (by kernel_rfl)))))) hr_extend (vc (by kernel_rfl)))))
  (ss_cons (ss_method 3 PySem.F.slot_list_append PySem.F.type_list_append mt_append (SE.fz (se_callB (cr_sort2 (u65 hr)) c_sortA (gl_of (by kernel_rfl)) T.m_sorted (by decide +kernel) (sa_cons (se_look 4 (vc (by kernel_rfl))) sa_nil))) hr_append (vl (by kernel_rfl)))
  (ss_cons (ss_lc 2 [("one", 6)] rfl sc_pieces.nd (si_look (se_look 2 (vl (by kernel_rfl)))) (blkOk_by (by kernel_rfl)) (fun _ _ _ _ _ => (sg_name 6 sc_pieces.nd (ll (by kernel_rfl)) (.inr (by kernel_rfl)))) (fun _ _ _ _ _ => (sts_one (st_cmp (op_notInA (u65 hr)) r_notInA (se_look 6 (vl (by kernel_rfl))) (se_look 4 (vc (by kernel_rfl))) (by kernel_rfl)))) (fun _ _ _ _ _ => (se_var 6 (vl (by kernel_rfl)))) (sw_true rfl (by kernel_rfl) (by kernel_rfl) (by decide +kernel)))
  (ss_out (O1 := [4, 3]) (by decide) ss_nil))))))
  (ss_frz (O1 := []) (by decide) (ss_one (ss_ret (se_var 3 (vl (by kernel_rfl)))))))))))
  (fun z => nomatch z) (fun _ _ _ _ _ _ us hl => match us, hl with | [_], _ => by kernel_rfl)
theorem sc_path_of : FnScope ["known", "piece", "found", "one", "two"] ["known", "piece"] (defScope (topS 56)) := ⟨by kernel_rfl, by kernel_rfl, by kernel_rfl, by decide +kernel, by kernel_rfl, by decide +kernel, by decide +kernel⟩
theorem ok_path_of (T : TX K mg) : Ok P w K mg 1 "path_of" ["known", "piece"] false F_path_of :=
  def_sim (k := 0) 5 B_path_of rfl T.h_path_of sc_path_of rfl (fun base bs cdv A outer s H E hr =>
  (ss_cons (ss_setO 2 sc_path_of.nd (se_lst (sa_consE (se_ix (se_look 1 (vl (by kernel_rfl))) (SE.vw se_int)) sa_nil)) (lc (by kernel_rfl)) (.inl rfl))
  (ss_cons (ss_while 100 po0 (st_cmp op_lt (simB0 (g := ltI)) (SE.vw (se_callB call_len_seq c_len (gl_of (by kernel_rfl)) T.m_len (by decide +kernel) (sa_cons (se_look 2 (vc (by kernel_rfl))) sa_nil))) (SE.vw (se_callB call_len_seq c_len (gl_of (by kernel_rfl)) T.m_len (by decide +kernel) (sa_cons (se_look 1 (vl (by kernel_rfl))) sa_nil))) (nomark _))
  (ss_one (ss_method 2 PySem.F.slot_list_append PySem.F.type_list_append mt_append (se_ix (SE.ov (se_lc [("one", 3)] rfl sc_path_of.nd (si_look (se_look 1 (vl (by kernel_rfl)))) (blkOk_by (by kernel_rfl)) (fun _ _ _ _ _ => (sg_name 3 sc_path_of.nd (lc (by kernel_rfl)) (.inl (by kernel_rfl)))) (fun _ _ _ _ _ => (sts_one (SW.st (sw_and (st_cmp (op_notInA (u65 hr)) r_notInA (se_look 3 (vc (by kernel_rfl))) (se_look 2 (vc (by kernel_rfl))) (by kernel_rfl)) (sw_and1 (st_tru (SE.ov (se_lc [("two", 4)] rfl sc_path_of.nd (si_look (se_look 2 (vc (by kernel_rfl)))) (blkOk_by (by kernel_rfl)) (fun _ _ _ _ _ => (sg_name 4 sc_path_of.nd (ll (by kernel_rfl)) (.inr (by kernel_rfl)))) (fun _ _ _ _ _ => (sts_one (st_cmp (op_inA (u65 hr)) r_inA (SE.vw (se_tup (sa_consE (se_var 3 (vc (by kernel_rfl))) (sa_consE (se_var 4 (vl (by kernel_rfl))) sa_nil)))) (se_look 0 (vc (by kernel_rfl))) (by kernel_rfl)))) (fun _ _ _ _ _ => se_int))))))))) (fun _ _ _ _ _ => (se_var 3 (vc (by kernel_rfl)))))) (SE.vw se_int)) hr_append (vc (by kernel_rfl)))))
  (ss_frz (O1 := []) (by decide) (ss_one (ss_ret (se_var 2 (vc (by kernel_rfl)))))))))
  (fun z => nomatch z) (fun _ _ _ _ _ _ us hl => match us, hl with | [_, _], _ => by kernel_rfl)
theorem sc_away : FnScope ["ring", "one", "other", "far"] ["ring", "one", "other"] (defScope (topS 26)) := ⟨by kernel_rfl, by kernel_rfl, by kernel_rfl, by decide +kernel, by kernel_rfl, by decide +kernel, by decide +kernel⟩
theorem ok_away (T : TX K mg) : Ok P w K mg 1 "away" ["ring", "one", "other"] false F_away :=
  def_sim (k := 0) 4 B_away rfl T.h_away sc_away rfl (fun base bs cdv A outer s H E hr =>
  (ss_cons (ss_set 3 sc_away.nd (se_bin op_mod r_mod (SE.vw (se_bin op_sub r_sub (se_look 1 (vl (by kernel_rfl))) (se_look 2 (vl (by kernel_rfl))))) (se_look 0 (vl (by kernel_rfl)))) (ll (by kernel_rfl)) (.inl rfl))
  (ss_one (ss_ret (se_callB (call_min2 rfl) c_min2 (gl_of (by kernel_rfl)) T.m_min (by decide +kernel) (sa_cons (se_look 3 (vl (by kernel_rfl))) (sa_cons (SE.vw (se_bin op_sub r_sub (se_look 0 (vl (by kernel_rfl))) (se_look 3 (vl (by kernel_rfl))))) sa_nil)))))))
  (fun z => nomatch z) (fun _ _ _ _ _ _ us hl => match us, hl with | [_, _, _], _ => by kernel_rfl)
theorem sc_agrees : FnScope ["known", "ring", "rows", "point", "place", "other"] ["known", "ring", "rows", "point", "place"] (defScope (topS 57)) := ⟨by kernel_rfl, by kernel_rfl, by kernel_rfl, by decide +kernel, by kernel_rfl, by decide +kernel, by decide +kernel⟩
theorem ok_agrees (T : TX K mg) : Ok P w K mg 2 "agrees" ["known", "ring", "rows", "point", "place"] false F_agrees :=
  def_sim (k := 1) 6 B_agrees rfl T.h_agrees sc_agrees rfl (fun base bs cdv A outer s H E hr =>
  (ss_cons (ss_for po0 rfl (si_seq (se_var 2 (vl (by kernel_rfl)))) (sg_name 5 sc_agrees.nd (ll (by kernel_rfl)) (.inl rfl))
  (ss_one (ss_if (SW.st (sw_and (st_cmp (op_inA (u65 hr)) r_inA (SE.vw (se_tup (sa_consE (se_var 3 (vl (by kernel_rfl))) (sa_consE (se_var 5 (vl (by kernel_rfl))) sa_nil)))) (se_look 0 (vl (by kernel_rfl))) (by kernel_rfl)) (sw_and1 (st_cmp (op_neD hr.units) r_ne (SE.vw (se_def (ok_away T) bs hr tk0 (sa_consE (se_var 1 (vl (by kernel_rfl))) (sa_consE (se_var 4 (vl (by kernel_rfl))) (sa_consE (se_ix (se_look 2 (vl (by kernel_rfl))) (se_look 5 (vl (by kernel_rfl)))) sa_nil))) (aCons_len (aCons_len (aCons_len aNil_len))) (gl_of (by kernel_rfl)) (by kernel_rfl))) (SE.vw (se_ix (se_look 0 (vl (by kernel_rfl))) (SE.vw (se_tup (sa_consE (se_var 3 (vl (by kernel_rfl))) (sa_consE (se_var 5 (vl (by kernel_rfl))) sa_nil)))))) (nomark _)))))
  (ss_one (ss_ret se_bool))
  ss_nil)))
  (ss_one (ss_ret se_bool))))
  (fun z => nomatch z) (fun _ _ _ _ _ _ us hl => match us, hl with | [_, _, _, _, _], _ => by kernel_rfl)
theorem sc_ways_of : FnScope ["table", "ring", "piece", "known", "path", "rows", "point", "longer", "near", "row", "far", "place", "new", "one"] ["table", "ring", "piece"] (defScope (topS 58)) := ⟨by kernel_rfl, by kernel_rfl, by kernel_rfl, by decide +kernel, by kernel_rfl, by decide +kernel, by decide +kernel⟩
theorem ok_ways_of (T : TX K mg) : Ok P w K mg 3 "ways_of" ["table", "ring", "piece"] false F_ways_of :=
  def_sim (k := 2) 14 B_ways_of rfl T.h_ways_of sc_ways_of rfl (fun base bs cdv A outer s H E hr =>
  (ss_cons (ss_set 3 sc_ways_of.nd (SE.fz (se_defO (ok_far_in T) bs hr tk0 (sa_consE (se_var 0 (vl (by kernel_rfl))) sa_nil) (aCons_len aNil_len) (gl_of (by kernel_rfl)) (by kernel_rfl))) (lc (by kernel_rfl)) (.inl rfl))
  (ss_cons (ss_set 4 sc_ways_of.nd (se_def ((ok_path_of T).lift (by decide)) bs hr tk0 (sa_consE (se_var 3 (vc (by kernel_rfl))) (sa_consE (se_var 2 (vc (by kernel_rfl))) sa_nil)) (aCons_len (aCons_len aNil_len)) (gl_of (by kernel_rfl)) (by kernel_rfl)) (ll (by kernel_rfl)) (.inl rfl))
  sss_no)))
  (fun z => nomatch z) (fun _ _ _ _ _ _ us hl => match us, hl with | [_, _, _], _ => by kernel_rfl)
theorem sc_fit_in : FnScope ["table", "ring", "piece"] ["table", "ring"] (defScope (topS 59)) := ⟨by kernel_rfl, by kernel_rfl, by kernel_rfl, by decide +kernel, by kernel_rfl, by decide +kernel, by decide +kernel⟩
theorem ok_fit_in (T : TX K mg) : Ok P w K mg 4 "fit_in" ["table", "ring"] false F_fit_in :=
  def_sim (k := 3) 3 B_fit_in rfl T.h_fit_in sc_fit_in rfl (fun base bs cdv A outer s H E hr =>
  (ss_one (ss_ret (se_not (SE.ov (se_lc [("piece", 2)] rfl sc_fit_in.nd (si_look (SE.vw (se_def (ok_pieces T) bs hr tk0 (sa_consE (se_var 0 (vc (by kernel_rfl))) sa_nil) (aCons_len aNil_len) (gl_of (by kernel_rfl)) (by kernel_rfl)))) (blkOk_by (by kernel_rfl)) (fun _ _ _ _ _ => (sg_name 2 sc_fit_in.nd (ll (by kernel_rfl)) (.inr (by kernel_rfl)))) (fun _ _ _ _ _ => (sts_one (st_not (st_tru (SE.vw (se_def (ok_ways_of T) bs hr takes0 (sa_consE (se_var 0 (vc (by kernel_rfl))) (sa_consE (se_var 1 (vc (by kernel_rfl))) (sa_consE (se_var 2 (vl (by kernel_rfl))) sa_nil))) (aCons_len (aCons_len (aCons_len aNil_len))) (gl_of (by kernel_rfl)) (by kernel_rfl))))))) (fun _ _ _ _ _ => (se_var 2 (vl (by kernel_rfl))))))))))
  (fun z => nomatch z) (fun _ _ _ _ _ _ us hl => match us, hl with | [_, _], _ => by kernel_rfl)
theorem sc_look_fit : FnScope ["table", "ring"] ["table", "ring"] (defScope (topS 60)) := ⟨by kernel_rfl, by kernel_rfl, by kernel_rfl, by decide +kernel, by kernel_rfl, by decide +kernel, by decide +kernel⟩
theorem ok_look_fit (T : TX K mg) : Ok P w K mg 5 "look_fit" ["table", "ring"] false F_look_fit :=
  def_sim (k := 4) 2 B_look_fit rfl T.h_look_fit sc_look_fit rfl (fun base bs cdv A outer s H E hr =>
  (ss_cons (ss_expr (se_def (ok_look T) bs hr tk0 (sa_consE (se_var 0 (vl (by kernel_rfl))) sa_nil) (aCons_len aNil_len) (gl_of (by kernel_rfl)) (by kernel_rfl)))
  (ss_cons (ss_expr (se_def ((ok_look_ring T).lift (by decide)) bs hr tk0 (sa_consE (se_var 1 (vl (by kernel_rfl))) sa_nil) (aCons_len aNil_len) (gl_of (by kernel_rfl)) (by kernel_rfl)))
  (ss_one (ss_if (st_not (st_tru (SE.vw (se_def (ok_fit_in T) bs hr tk0 (sa_consE (se_var 0 (vl (by kernel_rfl))) (sa_consE (se_var 1 (vl (by kernel_rfl))) sa_nil)) (aCons_len (aCons_len aNil_len)) (gl_of (by kernel_rfl)) (by kernel_rfl)))))
  (ss_one (ss_exc .nofit T.e_nofit rfl tk0 (gl_of (by kernel_rfl)) (by kernel_rfl)))
  ss_nil)))))
  (fun z => nomatch z) (fun _ _ _ _ _ _ us hl => match us, hl with | [_, _], _ => by kernel_rfl)
theorem sc_count : FnScope ["table", "ring", "many", "piece"] ["table", "ring"] (defScope (topS 61)) := ⟨by kernel_rfl, by kernel_rfl, by kernel_rfl, by decide +kernel, by kernel_rfl, by decide +kernel, by decide +kernel⟩
theorem ok_count (T : TX K mg) : Ok P w K mg 5 "count" ["table", "ring"] false F_count :=
  def_sim (k := 4) 4 B_count rfl T.h_count sc_count rfl (fun base bs cdv A outer s H E hr =>
  (ss_cons (ss_expr (se_def (ok_look T) bs hr tk0 (sa_consE (se_var 0 (vl (by kernel_rfl))) sa_nil) (aCons_len aNil_len) (gl_of (by kernel_rfl)) (by kernel_rfl)))
  (ss_cons (ss_expr (se_def ((ok_look_ring T).lift (by decide)) bs hr tk0 (sa_consE (se_var 1 (vl (by kernel_rfl))) sa_nil) (aCons_len aNil_len) (gl_of (by kernel_rfl)) (by kernel_rfl)))
  (ss_cons (ss_set 2 sc_count.nd se_int (ll (by kernel_rfl)) (.inl rfl))
  (ss_cons (ss_for po0 rfl (si_seq (se_def ((ok_pieces T).lift (by decide)) bs hr tk0 (sa_consE (se_var 0 (vl (by kernel_rfl))) sa_nil) (aCons_len aNil_len) (gl_of (by kernel_rfl)) (by kernel_rfl))) (sg_name 3 sc_count.nd (ll (by kernel_rfl)) (.inl rfl))
  (ss_one (ss_set 2 sc_count.nd (se_bin op_mulA r_mul (se_look 2 (vl (by kernel_rfl))) (SE.vw (se_callB call_len_seq c_len (gl_of (by kernel_rfl)) T.m_len (by decide +kernel) (sa_cons (SE.vw (se_def ((ok_ways_of T).lift (by decide)) bs hr tk0 (sa_consE (se_var 0 (vl (by kernel_rfl))) (sa_consE (se_var 1 (vl (by kernel_rfl))) (sa_consE (se_var 3 (vl (by kernel_rfl))) sa_nil))) (aCons_len (aCons_len (aCons_len aNil_len))) (gl_of (by kernel_rfl)) (by kernel_rfl))) sa_nil)))) (ll (by kernel_rfl)) (.inl rfl))))
  (ss_one (ss_ret (se_var 2 (vl (by kernel_rfl))))))))))
  (fun z => nomatch z) (fun _ _ _ _ _ _ us hl => match us, hl with | [_, _], _ => by kernel_rfl)
theorem sc_could : FnScope ["table", "ring", "one", "other", "found", "piece", "way"] ["table", "ring", "one", "other"] (defScope (topS 63)) := ⟨by kernel_rfl, by kernel_rfl, by kernel_rfl, by decide +kernel, by kernel_rfl, by decide +kernel, by decide +kernel⟩
theorem ok_could (T : TX K mg) : Ok P w K mg 4 "could" ["table", "ring", "one", "other"] false F_could :=
  def_sim (k := 3) 7 B_could rfl T.h_could sc_could rfl (fun base bs cdv A outer s H E hr =>
  sss_no)
  (fun z => nomatch z) (fun _ _ _ _ _ _ us hl => match us, hl with | [_, _, _, _], _ => by kernel_rfl)
theorem sc_splits_of : FnScope ["table", "ring", "one", "other", "found", "far"] ["table", "ring", "one", "other"] (defScope (topS 67)) := ⟨by kernel_rfl, by kernel_rfl, by kernel_rfl, by decide +kernel, by kernel_rfl, by decide +kernel, by decide +kernel⟩
theorem ok_splits_of (T : TX K mg) : Ok P w K mg 6 "splits_of" ["table", "ring", "one", "other"] false F_splits_of :=
  def_sim (k := 5) 6 B_splits_of rfl T.h_splits_of sc_splits_of rfl (fun base bs cdv A outer s H E hr =>
  (ss_cons (ss_setO 4 sc_splits_of.nd (se_lst sa_nil) (ll (by kernel_rfl)) (.inl rfl))
  (ss_cons (ss_for po0 rfl (si_seq (se_def ((ok_could T).lift (by decide)) bs hr tk0 (sa_consE (se_var 0 (vl (by kernel_rfl))) (sa_consE (se_var 1 (vl (by kernel_rfl))) (sa_consE (se_var 2 (vl (by kernel_rfl))) (sa_consE (se_var 3 (vl (by kernel_rfl))) sa_nil)))) (aCons_len (aCons_len (aCons_len (aCons_len aNil_len)))) (gl_of (by kernel_rfl)) (by kernel_rfl))) (sg_name 5 sc_splits_of.nd (ll (by kernel_rfl)) (.inl rfl))
  (ss_one (ss_method 4 PySem.F.slot_list_append PySem.F.type_list_append mt_append (se_tup (sa_consE (se_var 5 (vl (by kernel_rfl))) (sa_consE (se_def (ok_count T) bs hr tk0 (sa_consE (se_def ((ok_with_far T).lift (by decide)) bs hr tk0 (sa_consE (se_var 0 (vl (by kernel_rfl))) (sa_consE (se_var 2 (vl (by kernel_rfl))) (sa_consE (se_var 3 (vl (by kernel_rfl))) (sa_consE (se_var 5 (vl (by kernel_rfl))) sa_nil)))) (aCons_len (aCons_len (aCons_len (aCons_len aNil_len)))) (gl_of (by kernel_rfl)) (by kernel_rfl)) (sa_consE (se_var 1 (vl (by kernel_rfl))) sa_nil)) (aCons_len (aCons_len aNil_len)) (gl_of (by kernel_rfl)) (by kernel_rfl)) sa_nil))) hr_append (vl (by kernel_rfl)))))
  (ss_frz (O1 := []) (by decide) (ss_one (ss_ret (se_var 4 (vl (by kernel_rfl)))))))))
  (fun z => nomatch z) (fun _ _ _ _ _ _ us hl => match us, hl with | [_, _, _, _], _ => by kernel_rfl)
theorem sc_splits : FnScope ["table", "ring", "one", "other"] ["table", "ring", "one", "other"] (defScope (topS 68)) := ⟨by kernel_rfl, by kernel_rfl, by kernel_rfl, by decide +kernel, by kernel_rfl, by decide +kernel, by decide +kernel⟩
theorem ok_splits (T : TX K mg) : Ok P w K mg 7 "splits" ["table", "ring", "one", "other"] false F_splits :=
  def_sim (k := 6) 4 B_splits rfl T.h_splits sc_splits rfl (fun base bs cdv A outer s H E hr =>
  (ss_cons (ss_expr (se_def ((ok_look_fit T).lift (by decide)) bs hr tk0 (sa_consE (se_var 0 (vl (by kernel_rfl))) (sa_consE (se_var 1 (vl (by kernel_rfl))) sa_nil)) (aCons_len (aCons_len aNil_len)) (gl_of (by kernel_rfl)) (by kernel_rfl)))
  (ss_cons (ss_expr (se_def ((ok_look_pair T).lift (by decide)) bs hr tk0 (sa_consE (se_var 0 (vl (by kernel_rfl))) (sa_consE (se_var 2 (vl (by kernel_rfl))) (sa_consE (se_var 3 (vl (by kernel_rfl))) sa_nil))) (aCons_len (aCons_len (aCons_len aNil_len))) (gl_of (by kernel_rfl)) (by kernel_rfl)))
  (ss_cons (ss_if (st_cmp (op_inA (u65 hr)) r_inA (SE.vw (se_tup (sa_consE (se_var 2 (vl (by kernel_rfl))) (sa_consE (se_var 3 (vl (by kernel_rfl))) sa_nil)))) (SE.ov (se_defO ((ok_far_in T).lift (by decide)) bs hr tk0 (sa_consE (se_var 0 (vl (by kernel_rfl))) sa_nil) (aCons_len aNil_len) (gl_of (by kernel_rfl)) (by kernel_rfl))) (by kernel_rfl))
  (ss_one (ss_exc .told T.e_told rfl tk0 (gl_of (by kernel_rfl)) (by kernel_rfl)))
  ss_nil)
  (ss_one (ss_ret (se_def (ok_splits_of T) bs hr tk0 (sa_consE (se_var 0 (vl (by kernel_rfl))) (sa_consE (se_var 1 (vl (by kernel_rfl))) (sa_consE (se_var 2 (vl (by kernel_rfl))) (sa_consE (se_var 3 (vl (by kernel_rfl))) sa_nil)))) (aCons_len (aCons_len (aCons_len (aCons_len aNil_len)))) (gl_of (by kernel_rfl)) (by kernel_rfl))))))))
  (fun z => nomatch z) (fun _ _ _ _ _ _ us hl => match us, hl with | [_, _, _, _], _ => by kernel_rfl)
theorem sc_best_pair : FnScope ["table", "ring", "best", "one", "other", "most", "far", "many"] ["table", "ring"] (defScope (topS 69)) := ⟨by kernel_rfl, by kernel_rfl, by kernel_rfl, by decide +kernel, by kernel_rfl, by decide +kernel, by decide +kernel⟩
theorem ok_best_pair (T : TX K mg) : Ok P w K mg 7 "best_pair" ["table", "ring"] false F_best_pair :=
  def_sim (k := 6) 8 B_best_pair rfl T.h_best_pair sc_best_pair rfl (fun base bs cdv A outer s H E hr =>
  (ss_cons (ss_expr (se_def ((ok_look_fit T).lift (by decide)) bs hr tk0 (sa_consE (se_var 0 (vl (by kernel_rfl))) (sa_consE (se_var 1 (vl (by kernel_rfl))) sa_nil)) (aCons_len (aCons_len aNil_len)) (gl_of (by kernel_rfl)) (by kernel_rfl)))
  (ss_cons (ss_set 2 sc_best_pair.nd se_none (ll (by kernel_rfl)) (.inl rfl))
  (ss_cons (ss_for po0 rfl (si_seq (se_def ((ok_open_in T).lift (by decide)) bs hr tk0 (sa_consE (se_var 0 (vl (by kernel_rfl))) sa_nil) (aCons_len aNil_len) (gl_of (by kernel_rfl)) (by kernel_rfl))) (sg_tup rfl (sgs_cons (sg_name 3 sc_best_pair.nd (ll (by kernel_rfl)) (.inl rfl)) (sgs_cons (sg_name 4 sc_best_pair.nd (ll (by kernel_rfl)) (.inl rfl)) sgs_nil)))
  (ss_cons (ss_set 5 sc_best_pair.nd (se_callB (cr_max rfl) c_max (gl_of (by kernel_rfl)) T.m_max (by decide +kernel) (sa_cons (SE.ov (se_lc [("far", 6), ("many", 7)] rfl sc_best_pair.nd (si_look (SE.vw (se_def (ok_splits_of T) bs hr tk0 (sa_consE (se_var 0 (vl (by kernel_rfl))) (sa_consE (se_var 1 (vl (by kernel_rfl))) (sa_consE (se_var 3 (vl (by kernel_rfl))) (sa_consE (se_var 4 (vl (by kernel_rfl))) sa_nil)))) (aCons_len (aCons_len (aCons_len (aCons_len aNil_len)))) (gl_of (by kernel_rfl)) (by kernel_rfl)))) (blkOk_by (by kernel_rfl)) (fun _ _ _ _ _ => (sg_tup rfl (sgs_cons (sg_name 6 sc_best_pair.nd (ll (by kernel_rfl)) (.inr (by kernel_rfl))) (sgs_cons (sg_name 7 sc_best_pair.nd (ll (by kernel_rfl)) (.inr (by kernel_rfl))) sgs_nil)))) (fun _ _ _ _ _ => sts_nil) (fun _ _ _ _ _ => (se_var 7 (vl (by kernel_rfl)))))) sa_nil)) (ll (by kernel_rfl)) (.inl rfl))
  (ss_one (ss_if (SW.st (sw_or (st_cmp op_isA r_is (se_look 2 (vl (by kernel_rfl))) (SE.vw se_none) (nomark _)) (sw_or1 (st_cmp op_lt (simB0 (g := ltI)) (se_look 5 (vl (by kernel_rfl))) (SE.vw (se_ix (se_look 2 (vl (by kernel_rfl))) (SE.vw se_int))) (nomark _)))))
  (ss_one (ss_set 2 sc_best_pair.nd (se_tup (sa_consE (se_var 5 (vl (by kernel_rfl))) (sa_consE (se_tup (sa_consE (se_var 3 (vl (by kernel_rfl))) (sa_consE (se_var 4 (vl (by kernel_rfl))) sa_nil))) sa_nil))) (ll (by kernel_rfl)) (.inl rfl)))
  ss_nil))))
  (ss_one (ss_ret (se_if (st_cmp op_isA r_is (se_look 2 (vl (by kernel_rfl))) (SE.vw se_none) (nomark _)) se_none (se_ix (se_look 2 (vl (by kernel_rfl))) (SE.vw se_int)))))))))
  (fun z => nomatch z) (fun _ _ _ _ _ _ us hl => match us, hl with | [_, _], _ => by kernel_rfl)
theorem sc_look_places : FnScope ["places", "ring", "one"] ["places", "ring"] (defScope (topS 24)) := ⟨by kernel_rfl, by kernel_rfl, by kernel_rfl, by decide +kernel, by kernel_rfl, by decide +kernel, by decide +kernel⟩
theorem ok_look_places (T : TX K mg) : Ok P w K mg 3 "look_places" ["places", "ring"] false F_look_places :=
  def_sim (k := 2) 3 B_look_places rfl T.h_look_places sc_look_places rfl (fun base bs cdv A outer s H E hr =>
  (ss_cons (ss_expr (se_def (ok_look_ring T) bs hr tk0 (sa_consE (se_var 1 (vc (by kernel_rfl))) sa_nil) (aCons_len aNil_len) (gl_of (by kernel_rfl)) (by kernel_rfl)))
  (ss_cons (ss_if (SW.st (sw_or (st_not (st_tru (SE.vw (se_isi isi_tuple T.m_isinstance T.m_tuple (by decide +kernel) (se_look 0 (vl (by kernel_rfl))) (gl_of (by kernel_rfl)) (gl_of (by kernel_rfl)))))) (sw_or1 (st_not (st_chain op_le op_le (simB0 (g := leI)) (simB0 (g := leI)) cmpD_bool (SE.vw se_int) (SE.vw (se_callB call_len_seq c_len (gl_of (by kernel_rfl)) T.m_len (by decide +kernel) (sa_cons (se_look 0 (vl (by kernel_rfl))) sa_nil))) (SE.vw (se_globE T.n_MOST_POINTS (gl_of (by kernel_rfl)) (by kernel_rfl))))))))
  (ss_one (ss_exc .places T.e_places rfl tk0 (gl_of (by kernel_rfl)) (by kernel_rfl)))
  ss_nil)
  (ss_one (ss_if (st_tru (SE.ov (se_lc [("one", 2)] rfl sc_look_places.nd (si_look (se_look 0 (vl (by kernel_rfl)))) (blkOk_by (by kernel_rfl)) (fun _ _ _ _ _ => (sg_name 2 sc_look_places.nd (ll (by kernel_rfl)) (.inr (by kernel_rfl)))) (fun _ _ _ _ _ => (sts_one (st_not (st_tru (SE.vw (se_def ((ok_is_within T).lift (by decide)) bs hr takes0 (sa_consE (se_var 2 (vl (by kernel_rfl))) (sa_consE se_int (sa_consE (se_bin op_sub r_sub (se_look 1 (vc (by kernel_rfl))) (SE.vw se_int)) sa_nil))) (aCons_len (aCons_len (aCons_len aNil_len))) (gl_of (by kernel_rfl)) (by kernel_rfl))))))) (fun _ _ _ _ _ => (se_var 2 (vl (by kernel_rfl)))))))
  (ss_one (ss_exc .places T.e_places rfl tk0 (gl_of (by kernel_rfl)) (by kernel_rfl)))
  ss_nil)))))
  (fun z => nomatch z) (fun _ _ _ _ _ _ us hl => match us, hl with | [_, _], _ => by kernel_rfl)
theorem sc_full_of : FnScope ["places", "ring", "row", "one", "other"] ["places", "ring"] (defScope (topS 27)) := ⟨by kernel_rfl, by kernel_rfl, by kernel_rfl, by decide +kernel, by kernel_rfl, by decide +kernel, by decide +kernel⟩
theorem ok_full_of (T : TX K mg) : Ok P w K mg 2 "full_of" ["places", "ring"] false F_full_of :=
  def_sim (k := 1) 5 B_full_of rfl T.h_full_of sc_full_of rfl (fun base bs cdv A outer s H E hr =>
  (ss_cons (ss_lc 2 [("one", 3), ("other", 4)] rfl sc_full_of.nd (si_look (SE.vw (se_def (ok_pairs T) bs hr tk0 (sa_consE (se_callB call_len_seq c_len (gl_of (by kernel_rfl)) T.m_len (by decide +kernel) (sa_cons (se_look 0 (vc (by kernel_rfl))) sa_nil)) sa_nil) (aCons_len aNil_len) (gl_of (by kernel_rfl)) (by kernel_rfl)))) (blkOk_by (by kernel_rfl)) (fun _ _ _ _ _ => (sg_tup rfl (sgs_cons (sg_name 3 sc_full_of.nd (ll (by kernel_rfl)) (.inr (by kernel_rfl))) (sgs_cons (sg_name 4 sc_full_of.nd (ll (by kernel_rfl)) (.inr (by kernel_rfl))) sgs_nil)))) (fun _ _ _ _ _ => sts_nil) (fun _ _ _ _ _ => (se_def (ok_away T) bs hr takes0 (sa_consE (se_var 1 (vc (by kernel_rfl))) (sa_consE (se_ix (se_look 0 (vc (by kernel_rfl))) (se_look 3 (vl (by kernel_rfl)))) (sa_consE (se_ix (se_look 0 (vc (by kernel_rfl))) (se_look 4 (vl (by kernel_rfl)))) sa_nil))) (aCons_len (aCons_len (aCons_len aNil_len))) (gl_of (by kernel_rfl)) (by kernel_rfl))) (sw_true rfl (by kernel_rfl) (by kernel_rfl) (by decide +kernel)))
  (ss_one (ss_ret (se_tup (sa_consE (se_callB call_len_seq c_len (gl_of (by kernel_rfl)) T.m_len (by decide +kernel) (sa_cons (se_look 0 (vc (by kernel_rfl))) sa_nil)) (sa_consE (se_callTy call_tuple_of c_tuple (gl_of (by kernel_rfl)) T.m_tuple (by decide +kernel) (sa_cons (se_look 2 (vl (by kernel_rfl))) sa_nil)) sa_nil)))))))
  (fun z => nomatch z) (fun _ _ _ _ _ _ us hl => match us, hl with | [_, _], _ => by kernel_rfl)
theorem sc_bag_of : FnScope ["places", "ring"] ["places", "ring"] (defScope (topS 31)) := ⟨by kernel_rfl, by kernel_rfl, by kernel_rfl, by decide +kernel, by kernel_rfl, by decide +kernel, by decide +kernel⟩
theorem ok_bag_of (T : TX K mg) : Ok P w K mg 3 "bag_of" ["places", "ring"] false F_bag_of :=
  def_sim (k := 2) 2 B_bag_of rfl T.h_bag_of sc_bag_of rfl (fun base bs cdv A outer s H E hr =>
  (ss_one (ss_ret (SE.fz (se_callB (cr_sort2 (u65 hr)) c_sortA (gl_of (by kernel_rfl)) T.m_sorted (by decide +kernel) (sa_cons (SE.vw (se_ix (SE.vw (se_def (ok_full_of T) bs hr tk0 (sa_consE (se_var 0 (vl (by kernel_rfl))) (sa_consE (se_var 1 (vl (by kernel_rfl))) sa_nil)) (aCons_len (aCons_len aNil_len)) (gl_of (by kernel_rfl)) (by kernel_rfl))) (SE.vw se_int))) sa_nil))))))
  (fun z => nomatch z) (fun _ _ _ _ _ _ us hl => match us, hl with | [_, _], _ => by kernel_rfl)
theorem sc_bag : FnScope ["places", "ring"] ["places", "ring"] (defScope (topS 32)) := ⟨by kernel_rfl, by kernel_rfl, by kernel_rfl, by decide +kernel, by kernel_rfl, by decide +kernel, by decide +kernel⟩
theorem ok_bag (T : TX K mg) : Ok P w K mg 4 "bag" ["places", "ring"] false F_bag :=
  def_sim (k := 3) 2 B_bag rfl T.h_bag sc_bag rfl (fun base bs cdv A outer s H E hr =>
  (ss_cons (ss_expr (se_def (ok_look_places T) bs hr tk0 (sa_consE (se_var 0 (vl (by kernel_rfl))) (sa_consE (se_var 1 (vl (by kernel_rfl))) sa_nil)) (aCons_len (aCons_len aNil_len)) (gl_of (by kernel_rfl)) (by kernel_rfl)))
  (ss_one (ss_ret (se_def (ok_bag_of T) bs hr tk0 (sa_consE (se_var 0 (vl (by kernel_rfl))) (sa_consE (se_var 1 (vl (by kernel_rfl))) sa_nil)) (aCons_len (aCons_len aNil_len)) (gl_of (by kernel_rfl)) (by kernel_rfl))))))
  (fun z => nomatch z) (fun _ _ _ _ _ _ us hl => match us, hl with | [_, _], _ => by kernel_rfl)
theorem sc_shape_of : FnScope ["places", "ring", "rows", "first", "one"] ["places", "ring"] (defScope (topS 33)) := ⟨by kernel_rfl, by kernel_rfl, by kernel_rfl, by decide +kernel, by kernel_rfl, by decide +kernel, by decide +kernel⟩
theorem ok_shape_of (T : TX K mg) : Ok P w K mg 1 "shape_of" ["places", "ring"] false F_shape_of :=
  def_sim (k := 0) 5 B_shape_of rfl T.h_shape_of sc_shape_of rfl (fun base bs cdv A outer s H E hr =>
  (ss_cons (ss_setO 2 sc_shape_of.nd (se_lst sa_nil) (ll (by kernel_rfl)) (.inl rfl))
  (ss_cons (ss_for po0 rfl (si_seq (se_var 0 (vl (by kernel_rfl)))) (sg_name 3 sc_shape_of.nd (lc (by kernel_rfl)) (.inl rfl))
  (ss_cons (ss_method 2 PySem.F.slot_list_append PySem.F.type_list_append mt_append (se_callTy call_tuple_of c_tuple (gl_of (by kernel_rfl)) T.m_tuple (by decide +kernel) (sa_cons (SE.ov (se_callB (cr_sort2 (u65 hr)) c_sortA (gl_of (by kernel_rfl)) T.m_sorted (by decide +kernel) (sa_cons (SE.ov (se_lc [("one", 4)] rfl sc_shape_of.nd (si_look (se_look 0 (vl (by kernel_rfl)))) (blkOk_by (by kernel_rfl)) (fun _ _ _ _ _ => (sg_name 4 sc_shape_of.nd (ll (by kernel_rfl)) (.inr (by kernel_rfl)))) (fun _ _ _ _ _ => sts_nil) (fun _ _ _ _ _ => (se_bin op_mod r_mod (SE.vw (se_bin op_sub r_sub (se_look 4 (vl (by kernel_rfl))) (se_look 3 (vc (by kernel_rfl))))) (se_look 1 (vc (by kernel_rfl))))))) sa_nil))) sa_nil)) hr_append (vl (by kernel_rfl)))
  (ss_one (ss_method 2 PySem.F.slot_list_append PySem.F.type_list_append mt_append (se_callTy call_tuple_of c_tuple (gl_of (by kernel_rfl)) T.m_tuple (by decide +kernel) (sa_cons (SE.ov (se_callB (cr_sort2 (u65 hr)) c_sortA (gl_of (by kernel_rfl)) T.m_sorted (by decide +kernel) (sa_cons (SE.ov (se_lc [("one", 4)] rfl sc_shape_of.nd (si_look (se_look 0 (vl (by kernel_rfl)))) (blkOk_by (by kernel_rfl)) (fun _ _ _ _ _ => (sg_name 4 sc_shape_of.nd (ll (by kernel_rfl)) (.inr (by kernel_rfl)))) (fun _ _ _ _ _ => sts_nil) (fun _ _ _ _ _ => (se_bin op_mod r_mod (SE.vw (se_bin op_sub r_sub (se_look 3 (vc (by kernel_rfl))) (se_look 4 (vl (by kernel_rfl))))) (se_look 1 (vc (by kernel_rfl))))))) sa_nil))) sa_nil)) hr_append (vl (by kernel_rfl))))))
  (ss_one (ss_ret (se_callB (cr_minA rfl (u65 hr)) c_minA (gl_of (by kernel_rfl)) T.m_min (by decide +kernel) (sa_cons (se_look 2 (vl (by kernel_rfl))) sa_nil)))))))
  (fun z => nomatch z) (fun _ _ _ _ _ _ us hl => match us, hl with | [_, _], _ => by kernel_rfl)
theorem sc_shape : FnScope ["places", "ring"] ["places", "ring"] (defScope (topS 34)) := ⟨by kernel_rfl, by kernel_rfl, by kernel_rfl, by decide +kernel, by kernel_rfl, by decide +kernel, by decide +kernel⟩
theorem ok_shape (T : TX K mg) : Ok P w K mg 4 "shape" ["places", "ring"] false F_shape :=
  def_sim (k := 3) 2 B_shape rfl T.h_shape sc_shape rfl (fun base bs cdv A outer s H E hr =>
  (ss_cons (ss_expr (se_def (ok_look_places T) bs hr tk0 (sa_consE (se_var 0 (vl (by kernel_rfl))) (sa_consE (se_var 1 (vl (by kernel_rfl))) sa_nil)) (aCons_len (aCons_len aNil_len)) (gl_of (by kernel_rfl)) (by kernel_rfl)))
  (ss_one (ss_ret (se_def ((ok_shape_of T).lift (by decide)) bs hr tk0 (sa_consE (se_var 0 (vl (by kernel_rfl))) (sa_consE (se_var 1 (vl (by kernel_rfl))) sa_nil)) (aCons_len (aCons_len aNil_len)) (gl_of (by kernel_rfl)) (by kernel_rfl))))))
  (fun z => nomatch z) (fun _ _ _ _ _ _ us hl => match us, hl with | [_, _], _ => by kernel_rfl)
theorem sc_left_of : FnScope ["numbers", "row", "place", "ring", "left", "one", "far"] ["numbers", "row", "place", "ring"] (defScope (topS 35)) := ⟨by kernel_rfl, by kernel_rfl, by kernel_rfl, by decide +kernel, by kernel_rfl, by decide +kernel, by decide +kernel⟩
theorem ok_left_of (T : TX K mg) : Ok P w K mg 1 "left_of" ["numbers", "row", "place", "ring"] false F_left_of :=
  def_sim (k := 0) 7 B_left_of rfl T.h_left_of sc_left_of rfl (fun base bs cdv A outer s H E hr =>
  (ss_cons (ss_setO 4 sc_left_of.nd (se_callTy call_list_of c_list (gl_of (by kernel_rfl)) T.m_list (by decide +kernel) (sa_cons (se_look 0 (vl (by kernel_rfl))) sa_nil)) (ll (by kernel_rfl)) (.inl rfl))
  (ss_cons (ss_for po0 rfl (si_seq (se_var 1 (vl (by kernel_rfl)))) (sg_name 5 sc_left_of.nd (ll (by kernel_rfl)) (.inl rfl))
  (ss_cons (ss_set 6 sc_left_of.nd (se_bin op_mod r_mod (SE.vw (se_bin op_sub r_sub (se_look 2 (vl (by kernel_rfl))) (se_look 5 (vl (by kernel_rfl))))) (se_look 3 (vl (by kernel_rfl)))) (ll (by kernel_rfl)) (.inl rfl))
  (ss_cons (ss_set 6 sc_left_of.nd (se_callB (call_min2 rfl) c_min2 (gl_of (by kernel_rfl)) T.m_min (by decide +kernel) (sa_cons (se_look 6 (vl (by kernel_rfl))) (sa_cons (SE.vw (se_bin op_sub r_sub (se_look 3 (vl (by kernel_rfl))) (se_look 6 (vl (by kernel_rfl))))) sa_nil))) (ll (by kernel_rfl)) (.inl rfl))
  (ss_cons (ss_if (st_cmp (op_notInA (u65 hr)) r_notInA (se_look 6 (vl (by kernel_rfl))) (se_look 4 (vl (by kernel_rfl))) (by kernel_rfl))
  (ss_one (ss_ret se_none))
  ss_nil)
  sss_no))))
  (ss_frz (O1 := []) (by decide) (ss_one (ss_ret (se_var 4 (vl (by kernel_rfl)))))))))
  (fun z => nomatch z) (fun _ _ _ _ _ _ us hl => match us, hl with | [_, _, _, _], _ => by kernel_rfl)
theorem sc_rows_with : FnScope ["numbers", "row", "many", "ring", "found", "place", "left"] ["numbers", "row", "many", "ring"] (defScope (topS 36)) := ⟨by kernel_rfl, by kernel_rfl, by kernel_rfl, by decide +kernel, by kernel_rfl, by decide +kernel, by decide +kernel⟩
theorem ok_rows_with (T : TX K mg) : ∀ m : Nat, Ok P w K mg (2 + m) "rows_with" ["numbers", "row", "many", "ring"] false (F_rows_with m)
  | 0 => def_sim (k := 1) 7 sNo rfl T.h_rows_with sc_rows_with rfl (fun base bs cdv A outer s H E hr => sss_no)
      (fun z => nomatch z) (fun _ _ _ _ _ _ us hl => match us, hl with | [_, _, _, _], _ => by kernel_rfl)
  | m + 1 => def_sim (k := 2 + m) 7 (B_rows_with (F_rows_with m)) rfl T.h_rows_with sc_rows_with rfl (fun base bs cdv A outer s H E hr =>
      (ss_cons (ss_if (st_cmp (op_eqD hr.units) r_eq (SE.vw (se_callB call_len_seq c_len (gl_of (by kernel_rfl)) T.m_len (by decide +kernel) (sa_cons (se_look 1 (vl (by kernel_rfl))) sa_nil))) (se_look 2 (vl (by kernel_rfl))) (nomark _))
      (ss_one (ss_ret (SE.fz (se_lst (sa_consE (se_var 1 (vl (by kernel_rfl))) sa_nil)))))
      ss_nil)
      (ss_cons (ss_setO 4 sc_rows_with.nd (se_lst sa_nil) (ll (by kernel_rfl)) (.inl rfl))
      (ss_cons (ss_for po0 rfl (si_range2 (gl_of (by kernel_rfl)) T.m_range (se_ix (se_look 1 (vl (by kernel_rfl))) (SE.vw (se_un un_neg r_neg (SE.vw se_int)))) (se_var 3 (vl (by kernel_rfl)))) (sg_name 5 sc_rows_with.nd (ll (by kernel_rfl)) (.inl rfl))
      (ss_cons (ss_set 6 sc_rows_with.nd (se_def ((ok_left_of T).lift (by omega)) bs hr tk0 (sa_consE (se_var 0 (vl (by kernel_rfl))) (sa_consE (se_var 1 (vl (by kernel_rfl))) (sa_consE (se_var 5 (vl (by kernel_rfl))) (sa_consE (se_var 3 (vl (by kernel_rfl))) sa_nil)))) (aCons_len (aCons_len (aCons_len (aCons_len aNil_len)))) (gl_of (by kernel_rfl)) (by kernel_rfl)) (ll (by kernel_rfl)) (.inl rfl))
      (ss_one (ss_if (st_cmp op_isnA r_isn (se_look 6 (vl (by kernel_rfl))) (SE.vw se_none) (nomark _))
      (ss_one (ss_method 4 PySem.F.slot_list_extend PySem.F.type_list_extend mt_extend (se_def (ok_rows_with T m) bs hr tk0 (sa_consE (se_var 6 (vl (by kernel_rfl))) (sa_consE (se_bin op_addA r_add (se_look 1 (vl (by kernel_rfl))) (SE.vw (se_tup (sa_consE (se_var 5 (vl (by kernel_rfl))) sa_nil)))) (sa_consE (se_var 2 (vl (by kernel_rfl))) (sa_consE (se_var 3 (vl (by kernel_rfl))) sa_nil)))) (aCons_len (aCons_len (aCons_len (aCons_len aNil_len)))) (gl_of (by kernel_rfl)) (by kernel_rfl)) hr_extend (vl (by kernel_rfl))))
      ss_nil))))
      (ss_frz (O1 := []) (by decide) (ss_one (ss_ret (se_var 4 (vl (by kernel_rfl))))))))))
      (fun z => nomatch z) (fun _ _ _ _ _ _ us hl => match us, hl with | [_, _, _, _], _ => by kernel_rfl)
theorem sc_shapes_of : FnScope ["numbers", "many", "ring", "found", "row"] ["numbers", "many", "ring"] (defScope (topS 37)) := ⟨by kernel_rfl, by kernel_rfl, by kernel_rfl, by decide +kernel, by kernel_rfl, by decide +kernel, by decide +kernel⟩
theorem ok_shapes_of (T : TX K mg) : Ok P w K mg 11 "shapes_of" ["numbers", "many", "ring"] false F_shapes_of :=
  def_sim (k := 10) 5 B_shapes_of rfl T.h_shapes_of sc_shapes_of rfl (fun base bs cdv A outer s H E hr =>
  sss_no)
  (fun z => nomatch z) (fun _ _ _ _ _ _ us hl => match us, hl with | [_, _, _], _ => by kernel_rfl)
theorem sc_look_small : FnScope ["many", "ring"] ["many", "ring"] (defScope (topS 38)) := ⟨by kernel_rfl, by kernel_rfl, by kernel_rfl, by decide +kernel, by kernel_rfl, by decide +kernel, by decide +kernel⟩
theorem ok_look_small (T : TX K mg) : Ok P w K mg 3 "look_small" ["many", "ring"] false F_look_small :=
  def_sim (k := 2) 2 B_look_small rfl T.h_look_small sc_look_small rfl (fun base bs cdv A outer s H E hr =>
  (ss_cons (ss_expr (se_def (ok_look_ring T) bs hr tk0 (sa_consE (se_var 1 (vl (by kernel_rfl))) sa_nil) (aCons_len aNil_len) (gl_of (by kernel_rfl)) (by kernel_rfl)))
  (ss_one (ss_if (SW.st (sw_or (st_not (st_tru (SE.vw (se_def ((ok_is_within T).lift (by decide)) bs hr tk0 (sa_consE (se_var 0 (vl (by kernel_rfl))) (sa_consE se_int (sa_consE (se_globE T.n_MOST_HERE (gl_of (by kernel_rfl)) (by kernel_rfl)) sa_nil))) (aCons_len (aCons_len (aCons_len aNil_len))) (gl_of (by kernel_rfl)) (by kernel_rfl))))) (sw_or1 (st_cmp op_gt (simB0 (g := gtI)) (se_look 1 (vl (by kernel_rfl))) (SE.vw (se_globE T.n_MOST_AROUND (gl_of (by kernel_rfl)) (by kernel_rfl))) (nomark _)))))
  (ss_one (ss_exc .many T.e_many rfl tk0 (gl_of (by kernel_rfl)) (by kernel_rfl)))
  ss_nil))))
  (fun z => nomatch z) (fun _ _ _ _ _ _ us hl => match us, hl with | [_, _], _ => by kernel_rfl)
theorem sc_twins : FnScope ["places", "ring", "mine", "one"] ["places", "ring"] (defScope (topS 40)) := ⟨by kernel_rfl, by kernel_rfl, by kernel_rfl, by decide +kernel, by kernel_rfl, by decide +kernel, by decide +kernel⟩
theorem ok_twins (T : TX K mg) : Ok P w K mg 12 "twins" ["places", "ring"] false F_twins :=
  def_sim (k := 11) 4 B_twins rfl T.h_twins sc_twins rfl (fun base bs cdv A outer s H E hr =>
  (ss_cons (ss_expr (se_def ((ok_look_places T).lift (by decide)) bs hr tk0 (sa_consE (se_var 0 (vl (by kernel_rfl))) (sa_consE (se_var 1 (vl (by kernel_rfl))) sa_nil)) (aCons_len (aCons_len aNil_len)) (gl_of (by kernel_rfl)) (by kernel_rfl)))
  (ss_cons (ss_expr (se_def ((ok_look_small T).lift (by decide)) bs hr tk0 (sa_consE (se_callB call_len_seq c_len (gl_of (by kernel_rfl)) T.m_len (by decide +kernel) (sa_cons (se_look 0 (vl (by kernel_rfl))) sa_nil)) (sa_consE (se_var 1 (vl (by kernel_rfl))) sa_nil)) (aCons_len (aCons_len aNil_len)) (gl_of (by kernel_rfl)) (by kernel_rfl)))
  (ss_cons (ss_set 2 sc_twins.nd (se_def ((ok_shape_of T).lift (by decide)) bs hr tk0 (sa_consE (se_var 0 (vl (by kernel_rfl))) (sa_consE (se_var 1 (vl (by kernel_rfl))) sa_nil)) (aCons_len (aCons_len aNil_len)) (gl_of (by kernel_rfl)) (by kernel_rfl)) (lc (by kernel_rfl)) (.inl rfl))
  (ss_one (ss_ret (SE.fz (se_lc [("one", 3)] rfl sc_twins.nd (si_look (SE.vw (se_def (ok_shapes_of T) bs hr tk0 (sa_consE (se_def ((ok_bag_of T).lift (by decide)) bs hr tk0 (sa_consE (se_var 0 (vl (by kernel_rfl))) (sa_consE (se_var 1 (vl (by kernel_rfl))) sa_nil)) (aCons_len (aCons_len aNil_len)) (gl_of (by kernel_rfl)) (by kernel_rfl)) (sa_consE (se_callB call_len_seq c_len (gl_of (by kernel_rfl)) T.m_len (by decide +kernel) (sa_cons (se_look 0 (vl (by kernel_rfl))) sa_nil)) (sa_consE (se_var 1 (vl (by kernel_rfl))) sa_nil))) (aCons_len (aCons_len (aCons_len aNil_len))) (gl_of (by kernel_rfl)) (by kernel_rfl)))) (blkOk_by (by kernel_rfl)) (fun _ _ _ _ _ => (sg_name 3 sc_twins.nd (ll (by kernel_rfl)) (.inr (by kernel_rfl)))) (fun _ _ _ _ _ => (sts_one (st_cmp (op_neD hr.units) r_ne (se_look 3 (vl (by kernel_rfl))) (se_look 2 (vc (by kernel_rfl))) (nomark _)))) (fun _ _ _ _ _ => (se_var 3 (vl (by kernel_rfl))))))))))))
  (fun z => nomatch z) (fun _ _ _ _ _ _ us hl => match us, hl with | [_, _], _ => by kernel_rfl)
theorem sc_lacks : FnScope ["places", "ring", "some", "one"] ["places", "ring"] (defScope (topS 74)) := ⟨by kernel_rfl, by kernel_rfl, by kernel_rfl, by decide +kernel, by kernel_rfl, by decide +kernel, by decide +kernel⟩
theorem ok_lacks (T : TX K mg) : Ok P w K mg 4 "lacks" ["places", "ring"] false F_lacks :=
  def_sim (k := 3) 4 B_lacks rfl T.h_lacks sc_lacks rfl (fun base bs cdv A outer s H E hr =>
  (ss_cons (ss_set 2 sc_lacks.nd (se_def (ok_bag_of T) bs hr tk0 (sa_consE (se_var 0 (vl (by kernel_rfl))) (sa_consE (se_var 1 (vl (by kernel_rfl))) sa_nil)) (aCons_len (aCons_len aNil_len)) (gl_of (by kernel_rfl)) (by kernel_rfl)) (lc (by kernel_rfl)) (.inl rfl))
  (ss_one (ss_ret (SE.fz (se_lc [("one", 3)] rfl sc_lacks.nd (SI.vw (si_range2 (gl_of (by kernel_rfl)) T.m_range se_int (se_bin op_addA r_add (SE.vw (se_bin op_fdiv r_fdiv (se_look 1 (vl (by kernel_rfl))) (SE.vw se_int))) (SE.vw se_int)))) (blkOk_by (by kernel_rfl)) (fun _ _ _ _ _ => (sg_name 3 sc_lacks.nd (ll (by kernel_rfl)) (.inr (by kernel_rfl)))) (fun _ _ _ _ _ => (sts_one (st_cmp (op_notInA (u65 hr)) r_notInA (se_look 3 (vl (by kernel_rfl))) (se_look 2 (vc (by kernel_rfl))) (by kernel_rfl)))) (fun _ _ _ _ _ => (se_var 3 (vl (by kernel_rfl))))))))))
  (fun z => nomatch z) (fun _ _ _ _ _ _ us hl => match us, hl with | [_, _], _ => by kernel_rfl)
theorem sc_lacking : FnScope ["places", "ring"] ["places", "ring"] (defScope (topS 75)) := ⟨by kernel_rfl, by kernel_rfl, by kernel_rfl, by decide +kernel, by kernel_rfl, by decide +kernel, by decide +kernel⟩
theorem ok_lacking (T : TX K mg) : Ok P w K mg 5 "lacking" ["places", "ring"] false F_lacking :=
  def_sim (k := 4) 2 B_lacking rfl T.h_lacking sc_lacking rfl (fun base bs cdv A outer s H E hr =>
  (ss_cons (ss_expr (se_def ((ok_look_places T).lift (by decide)) bs hr tk0 (sa_consE (se_var 0 (vl (by kernel_rfl))) (sa_consE (se_var 1 (vl (by kernel_rfl))) sa_nil)) (aCons_len (aCons_len aNil_len)) (gl_of (by kernel_rfl)) (by kernel_rfl)))
  (ss_one (ss_ret (se_def (ok_lacks T) bs hr tk0 (sa_consE (se_var 0 (vl (by kernel_rfl))) (sa_consE (se_var 1 (vl (by kernel_rfl))) sa_nil)) (aCons_len (aCons_len aNil_len)) (gl_of (by kernel_rfl)) (by kernel_rfl))))))
  (fun z => nomatch z) (fun _ _ _ _ _ _ us hl => match us, hl with | [_, _], _ => by kernel_rfl)
theorem sc_is_full : FnScope ["places", "ring"] ["places", "ring"] (defScope (topS 76)) := ⟨by kernel_rfl, by kernel_rfl, by kernel_rfl, by decide +kernel, by kernel_rfl, by decide +kernel, by decide +kernel⟩
theorem ok_is_full (T : TX K mg) : Ok P w K mg 5 "is_full" ["places", "ring"] false F_is_full :=
  def_sim (k := 4) 2 B_is_full rfl T.h_is_full sc_is_full rfl (fun base bs cdv A outer s H E hr =>
  (ss_cons (ss_expr (se_def ((ok_look_places T).lift (by decide)) bs hr tk0 (sa_consE (se_var 0 (vl (by kernel_rfl))) (sa_consE (se_var 1 (vl (by kernel_rfl))) sa_nil)) (aCons_len (aCons_len aNil_len)) (gl_of (by kernel_rfl)) (by kernel_rfl)))
  (ss_one (ss_ret (se_not (SE.vw (se_def (ok_lacks T) bs hr tk0 (sa_consE (se_var 0 (vl (by kernel_rfl))) (sa_consE (se_var 1 (vl (by kernel_rfl))) sa_nil)) (aCons_len (aCons_len aNil_len)) (gl_of (by kernel_rfl)) (by kernel_rfl))))))))
  (fun z => nomatch z) (fun _ _ _ _ _ _ us hl => match us, hl with | [_, _], _ => by kernel_rfl)
theorem sc_parted : FnScope ["places", "ring", "some", "one", "other"] ["places", "ring"] (defScope (topS 77)) := ⟨by kernel_rfl, by kernel_rfl, by kernel_rfl, by decide +kernel, by kernel_rfl, by decide +kernel, by decide +kernel⟩
theorem ok_parted (T : TX K mg) : Ok P w K mg 4 "parted" ["places", "ring"] false F_parted :=
  def_sim (k := 3) 5 B_parted rfl T.h_parted sc_parted rfl (fun base bs cdv A outer s H E hr =>
  (ss_cons (ss_set 2 sc_parted.nd (se_def (ok_bag_of T) bs hr tk0 (sa_consE (se_var 0 (vl (by kernel_rfl))) (sa_consE (se_var 1 (vl (by kernel_rfl))) sa_nil)) (aCons_len (aCons_len aNil_len)) (gl_of (by kernel_rfl)) (by kernel_rfl)) (ll (by kernel_rfl)) (.inl rfl))
  (ss_one (ss_ret (se_and (se_cmp (op_notInA (u65 hr)) r_notInA (SE.vw se_int) (se_look 2 (vl (by kernel_rfl))) (by kernel_rfl)) (se_one (se_not (SE.ov (se_lc [("one", 3), ("other", 4)] rfl sc_parted.nd (si_zipB T.m_zip (se_look 2 (vl (by kernel_rfl))) (SE.vw (se_slice (se_look 2 (vl (by kernel_rfl))) (so_some se_int) so_none)) (gl_of (by kernel_rfl))) (blkOk_by (by kernel_rfl)) (fun _ _ _ _ _ => (sg_tup rfl (sgs_cons (sg_name 3 sc_parted.nd (ll (by kernel_rfl)) (.inr (by kernel_rfl))) (sgs_cons (sg_name 4 sc_parted.nd (ll (by kernel_rfl)) (.inr (by kernel_rfl))) sgs_nil)))) (fun _ _ _ _ _ => (sts_one (st_cmp (op_eqD hr.units) r_eq (se_look 3 (vl (by kernel_rfl))) (se_look 4 (vl (by kernel_rfl))) (nomark _)))) (fun _ _ _ _ _ => se_int))))))))))
  (fun z => nomatch z) (fun _ _ _ _ _ _ us hl => match us, hl with | [_, _], _ => by kernel_rfl)
theorem sc_is_spread : FnScope ["places", "ring"] ["places", "ring"] (defScope (topS 78)) := ⟨by kernel_rfl, by kernel_rfl, by kernel_rfl, by decide +kernel, by kernel_rfl, by decide +kernel, by decide +kernel⟩
theorem ok_is_spread (T : TX K mg) : Ok P w K mg 5 "is_spread" ["places", "ring"] false F_is_spread :=
  def_sim (k := 4) 2 B_is_spread rfl T.h_is_spread sc_is_spread rfl (fun base bs cdv A outer s H E hr =>
  (ss_cons (ss_expr (se_def ((ok_look_places T).lift (by decide)) bs hr tk0 (sa_consE (se_var 0 (vl (by kernel_rfl))) (sa_consE (se_var 1 (vl (by kernel_rfl))) sa_nil)) (aCons_len (aCons_len aNil_len)) (gl_of (by kernel_rfl)) (by kernel_rfl)))
  (ss_one (ss_ret (se_def (ok_parted T) bs hr tk0 (sa_consE (se_var 0 (vl (by kernel_rfl))) (sa_consE (se_var 1 (vl (by kernel_rfl))) sa_nil)) (aCons_len (aCons_len aNil_len)) (gl_of (by kernel_rfl)) (by kernel_rfl))))))
  (fun z => nomatch z) (fun _ _ _ _ _ _ us hl => match us, hl with | [_, _], _ => by kernel_rfl)
theorem sc_stride : FnScope ["one", "other", "ring", "far"] ["one", "other", "ring"] (defScope (topS 84)) := ⟨by kernel_rfl, by kernel_rfl, by kernel_rfl, by decide +kernel, by kernel_rfl, by decide +kernel, by decide +kernel⟩
theorem ok_stride (T : TX K mg) : Ok P w K mg 1 "stride" ["one", "other", "ring"] false F_stride :=
  def_sim (k := 0) 4 B_stride rfl T.h_stride sc_stride rfl (fun base bs cdv A outer s H E hr =>
  (ss_cons (ss_set 3 sc_stride.nd (se_bin op_mod r_mod (SE.vw (se_bin op_sub r_sub (se_look 1 (vl (by kernel_rfl))) (se_look 0 (vl (by kernel_rfl))))) (se_look 2 (vl (by kernel_rfl)))) (ll (by kernel_rfl)) (.inl rfl))
  (ss_one (ss_ret (se_if (st_cmp op_le (simB0 (g := leI)) (SE.vw (se_bin op_mulA r_mul (SE.vw se_int) (se_look 3 (vl (by kernel_rfl))))) (se_look 2 (vl (by kernel_rfl))) (nomark _)) (se_var 3 (vl (by kernel_rfl))) (se_bin op_sub r_sub (se_look 3 (vl (by kernel_rfl))) (se_look 2 (vl (by kernel_rfl)))))))))
  (fun z => nomatch z) (fun _ _ _ _ _ _ us hl => match us, hl with | [_, _, _], _ => by kernel_rfl)
theorem sc_strides_of : FnScope ["places", "ring", "one", "other"] ["places", "ring"] (defScope (topS 85)) := ⟨by kernel_rfl, by kernel_rfl, by kernel_rfl, by decide +kernel, by kernel_rfl, by decide +kernel, by decide +kernel⟩
theorem ok_strides_of (T : TX K mg) : Ok P w K mg 2 "strides_of" ["places", "ring"] false F_strides_of :=
  def_sim (k := 1) 4 B_strides_of rfl T.h_strides_of sc_strides_of rfl (fun base bs cdv A outer s H E hr =>
  (ss_one (ss_ret (SE.fz (se_lc [("one", 2), ("other", 3)] rfl sc_strides_of.nd (si_zipB T.m_zip (se_look 0 (vl (by kernel_rfl))) (SE.vw (se_bin op_addA r_add (SE.vw (se_slice (se_look 0 (vl (by kernel_rfl))) (so_some se_int) so_none)) (SE.vw (se_slice (se_look 0 (vl (by kernel_rfl))) so_none (so_some se_int))))) (gl_of (by kernel_rfl))) (blkOk_by (by kernel_rfl)) (fun _ _ _ _ _ => (sg_tup rfl (sgs_cons (sg_name 2 sc_strides_of.nd (ll (by kernel_rfl)) (.inr (by kernel_rfl))) (sgs_cons (sg_name 3 sc_strides_of.nd (ll (by kernel_rfl)) (.inr (by kernel_rfl))) sgs_nil)))) (fun _ _ _ _ _ => sts_nil) (fun _ _ _ _ _ => (se_def (ok_stride T) bs hr takes0 (sa_consE (se_var 2 (vl (by kernel_rfl))) (sa_consE (se_var 3 (vl (by kernel_rfl))) (sa_consE (se_var 1 (vc (by kernel_rfl))) sa_nil))) (aCons_len (aCons_len (aCons_len aNil_len))) (gl_of (by kernel_rfl)) (by kernel_rfl))))))))
  (fun z => nomatch z) (fun _ _ _ _ _ _ us hl => match us, hl with | [_, _], _ => by kernel_rfl)
theorem sc_strides : FnScope ["places", "ring"] ["places", "ring"] (defScope (topS 86)) := ⟨by kernel_rfl, by kernel_rfl, by kernel_rfl, by decide +kernel, by kernel_rfl, by decide +kernel, by decide +kernel⟩
theorem ok_strides (T : TX K mg) : Ok P w K mg 4 "strides" ["places", "ring"] false F_strides :=
  def_sim (k := 3) 2 B_strides rfl T.h_strides sc_strides rfl (fun base bs cdv A outer s H E hr =>
  (ss_cons (ss_expr (se_def (ok_look_places T) bs hr tk0 (sa_consE (se_var 0 (vl (by kernel_rfl))) (sa_consE (se_var 1 (vl (by kernel_rfl))) sa_nil)) (aCons_len (aCons_len aNil_len)) (gl_of (by kernel_rfl)) (by kernel_rfl)))
  (ss_one (ss_ret (se_def ((ok_strides_of T).lift (by decide)) bs hr tk0 (sa_consE (se_var 0 (vl (by kernel_rfl))) (sa_consE (se_var 1 (vl (by kernel_rfl))) sa_nil)) (aCons_len (aCons_len aNil_len)) (gl_of (by kernel_rfl)) (by kernel_rfl))))))
  (fun z => nomatch z) (fun _ _ _ _ _ _ us hl => match us, hl with | [_, _], _ => by kernel_rfl)
theorem sc_rounds : FnScope ["places", "ring"] ["places", "ring"] (defScope (topS 87)) := ⟨by kernel_rfl, by kernel_rfl, by kernel_rfl, by decide +kernel, by kernel_rfl, by decide +kernel, by decide +kernel⟩
theorem ok_rounds (T : TX K mg) : Ok P w K mg 4 "rounds" ["places", "ring"] false F_rounds :=
  def_sim (k := 3) 2 B_rounds rfl T.h_rounds sc_rounds rfl (fun base bs cdv A outer s H E hr =>
  (ss_cons (ss_expr (se_def (ok_look_places T) bs hr tk0 (sa_consE (se_var 0 (vl (by kernel_rfl))) (sa_consE (se_var 1 (vl (by kernel_rfl))) sa_nil)) (aCons_len (aCons_len aNil_len)) (gl_of (by kernel_rfl)) (by kernel_rfl)))
  (ss_one (ss_ret (se_bin op_fdiv r_fdiv (SE.vw (se_callB (cr_sum rfl) c_sum (gl_of (by kernel_rfl)) T.m_sum (by decide +kernel) (sa_cons (SE.vw (se_def ((ok_strides_of T).lift (by decide)) bs hr tk0 (sa_consE (se_var 0 (vl (by kernel_rfl))) (sa_consE (se_var 1 (vl (by kernel_rfl))) sa_nil)) (aCons_len (aCons_len aNil_len)) (gl_of (by kernel_rfl)) (by kernel_rfl))) sa_nil))) (se_look 1 (vl (by kernel_rfl))))))))
  (fun z => nomatch z) (fun _ _ _ _ _ _ us hl => match us, hl with | [_, _], _ => by kernel_rfl)
theorem sc_short_way : FnScope ["places", "ring", "found", "first", "one"] ["places", "ring"] (defScope (topS 88)) := ⟨by kernel_rfl, by kernel_rfl, by kernel_rfl, by decide +kernel, by kernel_rfl, by decide +kernel, by decide +kernel⟩
theorem ok_short_way (T : TX K mg) : Ok P w K mg 4 "short_way" ["places", "ring"] false F_short_way :=
  def_sim (k := 3) 5 B_short_way rfl T.h_short_way sc_short_way rfl (fun base bs cdv A outer s H E hr =>
  (ss_cons (ss_expr (se_def (ok_look_places T) bs hr tk0 (sa_consE (se_var 0 (vc (by kernel_rfl))) (sa_consE (se_var 1 (vc (by kernel_rfl))) sa_nil)) (aCons_len (aCons_len aNil_len)) (gl_of (by kernel_rfl)) (by kernel_rfl)))
  (ss_cons (ss_lc 2 [("first", 3)] rfl sc_short_way.nd (si_look (se_look 0 (vc (by kernel_rfl)))) (blkOk_by (by kernel_rfl)) (fun _ _ _ _ _ => (sg_name 3 sc_short_way.nd (lc (by kernel_rfl)) (.inl (by kernel_rfl)))) (fun _ _ _ _ _ => sts_nil) (fun _ _ _ _ _ => (se_tup (sa_consE (se_callB (cr_max rfl) c_max (gl_of (by kernel_rfl)) T.m_max (by decide +kernel) (sa_cons (SE.ov (se_lc [("one", 4)] rfl sc_short_way.nd (si_look (se_look 0 (vc (by kernel_rfl)))) (blkOk_by (by kernel_rfl)) (fun _ _ _ _ _ => (sg_name 4 sc_short_way.nd (ll (by kernel_rfl)) (.inr (by kernel_rfl)))) (fun _ _ _ _ _ => sts_nil) (fun _ _ _ _ _ => (se_bin op_mod r_mod (SE.vw (se_bin op_sub r_sub (se_look 4 (vl (by kernel_rfl))) (se_look 3 (vc (by kernel_rfl))))) (se_look 1 (vc (by kernel_rfl))))))) sa_nil)) (sa_consE (se_var 3 (vc (by kernel_rfl))) sa_nil)))) (sw_true rfl (by kernel_rfl) (by kernel_rfl) (by decide +kernel)))
  (ss_one (ss_ret (se_tup (sa_consE (se_ix (SE.vw (se_callB (cr_minA rfl (u65 hr)) c_minA (gl_of (by kernel_rfl)) T.m_min (by decide +kernel) (sa_cons (se_look 2 (vl (by kernel_rfl))) sa_nil))) (SE.vw se_int)) (sa_consE (se_ix (SE.vw (se_callB (cr_minA rfl (u65 hr)) c_minA (gl_of (by kernel_rfl)) T.m_min (by decide +kernel) (sa_cons (se_look 2 (vl (by kernel_rfl))) sa_nil))) (SE.vw se_int)) sa_nil))))))))
  (fun z => nomatch z) (fun _ _ _ _ _ _ us hl => match us, hl with | [_, _], _ => by kernel_rfl)
theorem sc_is_stride : FnScope ["thing", "ring"] ["thing", "ring"] (defScope (topS 89)) := ⟨by kernel_rfl, by kernel_rfl, by kernel_rfl, by decide +kernel, by kernel_rfl, by decide +kernel, by decide +kernel⟩
theorem ok_is_stride (T : TX K mg) : Ok P w K mg 2 "is_stride" ["thing", "ring"] false F_is_stride :=
  def_sim (k := 1) 2 B_is_stride rfl T.h_is_stride sc_is_stride rfl (fun base bs cdv A outer s H E hr =>
  (ss_one (ss_ret (se_and (se_def (ok_is_within T) bs hr tk0 (sa_consE (se_var 0 (vl (by kernel_rfl))) (sa_consE (se_bin op_sub r_sub (SE.vw se_int) (se_look 1 (vl (by kernel_rfl)))) (sa_consE (se_var 1 (vl (by kernel_rfl))) sa_nil))) (aCons_len (aCons_len (aCons_len aNil_len))) (gl_of (by kernel_rfl)) (by kernel_rfl)) (se_one (se_chain op_lt op_le (simB0 (g := ltI)) (simB0 (g := leI)) cmpD_bool (SE.vw (se_bin op_sub r_sub (SE.vw se_int) (se_look 1 (vl (by kernel_rfl))))) (SE.vw (se_bin op_mulA r_mul (SE.vw se_int) (se_look 0 (vl (by kernel_rfl))))) (se_look 1 (vl (by kernel_rfl)))))))))
  (fun z => nomatch z) (fun _ _ _ _ _ _ us hl => match us, hl with | [_, _], _ => by kernel_rfl)
theorem sc_walked : FnScope ["row", "ring", "found", "one"] ["row", "ring"] (defScope (topS 90)) := ⟨by kernel_rfl, by kernel_rfl, by kernel_rfl, by decide +kernel, by kernel_rfl, by decide +kernel, by decide +kernel⟩
theorem ok_walked (T : TX K mg) : Ok P w K mg 3 "walked" ["row", "ring"] false F_walked :=
  def_sim (k := 2) 4 B_walked rfl T.h_walked sc_walked rfl (fun base bs cdv A outer s H E hr =>
  (ss_cons (ss_expr (se_def (ok_look_ring T) bs hr tk0 (sa_consE (se_var 1 (vc (by kernel_rfl))) sa_nil) (aCons_len aNil_len) (gl_of (by kernel_rfl)) (by kernel_rfl)))
  (ss_cons (ss_if (SW.st (sw_or (st_not (st_tru (SE.vw (se_isi isi_list T.m_isinstance T.m_list (by decide +kernel) (se_look 0 (vl (by kernel_rfl))) (gl_of (by kernel_rfl)) (gl_of (by kernel_rfl)))))) (sw_or1 (st_not (st_chain op_le op_le (simB0 (g := leI)) (simB0 (g := leI)) cmpD_bool (SE.vw se_int) (SE.vw (se_callB call_len_seq c_len (gl_of (by kernel_rfl)) T.m_len (by decide +kernel) (sa_cons (se_look 0 (vl (by kernel_rfl))) sa_nil))) (SE.vw (se_globE T.n_MOST_POINTS (gl_of (by kernel_rfl)) (by kernel_rfl))))))))
  (ss_one (ss_exc .places T.e_places rfl tk0 (gl_of (by kernel_rfl)) (by kernel_rfl)))
  ss_nil)
  (ss_cons (ss_if (st_tru (SE.ov (se_lc [("one", 3)] rfl sc_walked.nd (si_look (se_look 0 (vl (by kernel_rfl)))) (blkOk_by (by kernel_rfl)) (fun _ _ _ _ _ => (sg_name 3 sc_walked.nd (ll (by kernel_rfl)) (.inr (by kernel_rfl)))) (fun _ _ _ _ _ => (sts_one (st_not (st_tru (SE.vw (se_def (ok_is_stride T) bs hr takes0 (sa_consE (se_var 3 (vl (by kernel_rfl))) (sa_consE (se_var 1 (vc (by kernel_rfl))) sa_nil)) (aCons_len (aCons_len aNil_len)) (gl_of (by kernel_rfl)) (by kernel_rfl))))))) (fun _ _ _ _ _ => (se_var 3 (vl (by kernel_rfl)))))))
  (ss_one (ss_exc .places T.e_places rfl tk0 (gl_of (by kernel_rfl)) (by kernel_rfl)))
  ss_nil)
  (ss_cons (ss_if (st_cmp (op_neD hr.units) r_ne (SE.vw (se_bin op_mod r_mod (SE.vw (se_callB (cr_sum rfl) c_sum (gl_of (by kernel_rfl)) T.m_sum (by decide +kernel) (sa_cons (se_look 0 (vl (by kernel_rfl))) sa_nil))) (se_look 1 (vc (by kernel_rfl))))) (SE.vw se_int) (nomark _))
  (ss_one (ss_ret se_none))
  ss_nil)
  (ss_cons (ss_set 2 sc_walked.nd (se_tup (sa_consE se_int sa_nil)) (ll (by kernel_rfl)) (.inl rfl))
  (ss_cons (ss_for po0 rfl (si_seq (se_slice (se_look 0 (vl (by kernel_rfl))) so_none (so_some (se_un un_neg r_neg (SE.vw se_int))))) (sg_name 3 sc_walked.nd (ll (by kernel_rfl)) (.inl rfl))
  (ss_one (ss_set 2 sc_walked.nd (se_bin op_addA r_add (se_look 2 (vl (by kernel_rfl))) (SE.vw (se_tup (sa_consE (se_bin op_mod r_mod (SE.vw (se_bin op_addA r_add (SE.vw (se_ix (se_look 2 (vl (by kernel_rfl))) (SE.vw (se_un un_neg r_neg (SE.vw se_int))))) (se_look 3 (vl (by kernel_rfl))))) (se_look 1 (vc (by kernel_rfl)))) sa_nil)))) (ll (by kernel_rfl)) (.inl rfl))))
  (ss_one (ss_ret (se_var 2 (vl (by kernel_rfl))))))))))))
  (fun z => nomatch z) (fun _ _ _ _ _ _ us hl => match us, hl with | [_, _], _ => by kernel_rfl)
theorem sc_shapes : FnScope ["numbers", "many", "ring", "one"] ["numbers", "many", "ring"] (defScope (topS 39)) := ⟨by kernel_rfl, by kernel_rfl, by kernel_rfl, by decide +kernel, by kernel_rfl, by decide +kernel, by decide +kernel⟩
theorem ok_shapes (T : TX K mg) : Ok P w K mg 12 "shapes" ["numbers", "many", "ring"] false F_shapes :=
  def_sim (k := 11) 4 B_shapes rfl T.h_shapes sc_shapes rfl (fun base bs cdv A outer s H E hr =>
  (ss_cons (ss_expr (se_def ((ok_look_small T).lift (by decide)) bs hr tk0 (sa_consE (se_var 1 (vl (by kernel_rfl))) (sa_consE (se_var 2 (vl (by kernel_rfl))) sa_nil)) (aCons_len (aCons_len aNil_len)) (gl_of (by kernel_rfl)) (by kernel_rfl)))
  (ss_cons (ss_if (SW.st (sw_or (st_not (st_tru (SE.vw (se_isi isi_list T.m_isinstance T.m_list (by decide +kernel) (se_look 0 (vl (by kernel_rfl))) (gl_of (by kernel_rfl)) (gl_of (by kernel_rfl)))))) (sw_or1 (st_cmp (op_neD hr.units) r_ne (SE.vw (se_callB call_len_seq c_len (gl_of (by kernel_rfl)) T.m_len (by decide +kernel) (sa_cons (se_look 0 (vl (by kernel_rfl))) sa_nil))) (SE.vw (se_callB call_len_seq c_len (gl_of (by kernel_rfl)) T.m_len (by decide +kernel) (sa_cons (SE.vw (se_def ((ok_pairs T).lift (by decide)) bs hr tk0 (sa_consE (se_var 1 (vl (by kernel_rfl))) sa_nil) (aCons_len aNil_len) (gl_of (by kernel_rfl)) (by kernel_rfl))) sa_nil))) (nomark _)))))
  (ss_one (ss_exc .bag T.e_bag rfl tk0 (gl_of (by kernel_rfl)) (by kernel_rfl)))
  ss_nil)
  (ss_cons (ss_if (SW.st (sw_or (st_tru (SE.ov (se_lc [("one", 3)] rfl sc_shapes.nd (si_look (se_look 0 (vl (by kernel_rfl)))) (blkOk_by (by kernel_rfl)) (fun _ _ _ _ _ => (sg_name 3 sc_shapes.nd (ll (by kernel_rfl)) (.inr (by kernel_rfl)))) (fun _ _ _ _ _ => (sts_one (st_not (st_tru (SE.vw (se_def ((ok_is_within T).lift (by decide)) bs hr takes0 (sa_consE (se_var 3 (vl (by kernel_rfl))) (sa_consE se_int (sa_consE (se_globE T.n_MOST_FAR (gl_of (by kernel_rfl)) (by kernel_rfl)) sa_nil))) (aCons_len (aCons_len (aCons_len aNil_len))) (gl_of (by kernel_rfl)) (by kernel_rfl))))))) (fun _ _ _ _ _ => (se_var 3 (vl (by kernel_rfl))))))) (sw_or1 (st_cmp (op_neD hr.units) r_ne (se_look 0 (vl (by kernel_rfl))) (SE.ov (se_callB (cr_sort2 (u65 hr)) c_sortA (gl_of (by kernel_rfl)) T.m_sorted (by decide +kernel) (sa_cons (se_look 0 (vl (by kernel_rfl))) sa_nil))) (nomark _)))))
  (ss_one (ss_exc .bag T.e_bag rfl tk0 (gl_of (by kernel_rfl)) (by kernel_rfl)))
  ss_nil)
  (ss_one (ss_ret (se_def (ok_shapes_of T) bs hr tk0 (sa_consE (se_var 0 (vl (by kernel_rfl))) (sa_consE (se_var 1 (vl (by kernel_rfl))) (sa_consE (se_var 2 (vl (by kernel_rfl))) sa_nil))) (aCons_len (aCons_len (aCons_len aNil_len))) (gl_of (by kernel_rfl)) (by kernel_rfl))))))))
  (fun z => nomatch z) (fun _ _ _ _ _ _ us hl => match us, hl with | [_, _, _], _ => by kernel_rfl)
theorem sc_look_short : FnScope ["ring"] ["ring"] (defScope (topS 79)) := ⟨by kernel_rfl, by kernel_rfl, by kernel_rfl, by decide +kernel, by kernel_rfl, by decide +kernel, by decide +kernel⟩
theorem ok_look_short (T : TX K mg) : Ok P w K mg 3 "look_short" ["ring"] false F_look_short :=
  def_sim (k := 2) 1 B_look_short rfl T.h_look_short sc_look_short rfl (fun base bs cdv A outer s H E hr =>
  (ss_cons (ss_expr (se_def (ok_look_ring T) bs hr tk0 (sa_consE (se_var 0 (vl (by kernel_rfl))) sa_nil) (aCons_len aNil_len) (gl_of (by kernel_rfl)) (by kernel_rfl)))
  (ss_one (ss_if (st_cmp op_gt (simB0 (g := gtI)) (se_look 0 (vl (by kernel_rfl))) (SE.vw (se_globE T.n_MOST_MEASURED (gl_of (by kernel_rfl)) (by kernel_rfl))) (nomark _))
  (ss_one (ss_exc .many T.e_many rfl tk0 (gl_of (by kernel_rfl)) (by kernel_rfl)))
  ss_nil))))
  (fun z => nomatch z) (fun _ _ _ _ _ _ us hl => match us, hl with | [_], _ => by kernel_rfl)
theorem sc_chosen : FnScope ["many", "size", "found", "row", "first", "point"] ["many", "size"] (defScope (topS 62)) := ⟨by kernel_rfl, by kernel_rfl, by kernel_rfl, by decide +kernel, by kernel_rfl, by decide +kernel, by decide +kernel⟩
theorem ok_chosen (T : TX K mg) : ∀ m : Nat, Ok P w K mg (1 + m) "chosen" ["many", "size"] false (F_chosen m)
  | 0 => def_sim (k := 0) 6 sNo rfl T.h_chosen sc_chosen rfl (fun base bs cdv A outer s H E hr => sss_no)
      (fun z => nomatch z) (fun _ _ _ _ _ _ us hl => match us, hl with | [_, _], _ => by kernel_rfl)
  | m + 1 => def_sim (k := 1 + m) 6 (B_chosen (F_chosen m)) rfl T.h_chosen sc_chosen rfl (fun base bs cdv A outer s H E hr =>
      (ss_cons (ss_if (st_cmp (op_eqD hr.units) r_eq (se_look 1 (vl (by kernel_rfl))) (SE.vw se_int) (nomark _))
      (ss_one (ss_ret (SE.fz (se_lst (sa_consE (se_tup sa_nil) sa_nil)))))
      ss_nil)
      (ss_cons (ss_setO 2 sc_chosen.nd (se_lst sa_nil) (ll (by kernel_rfl)) (.inl rfl))
      (ss_cons (ss_for po0 rfl (si_seq (se_def (ok_chosen T m) bs hr tk0 (sa_consE (se_var 0 (vl (by kernel_rfl))) (sa_consE (se_bin op_sub r_sub (se_look 1 (vl (by kernel_rfl))) (SE.vw se_int)) sa_nil)) (aCons_len (aCons_len aNil_len)) (gl_of (by kernel_rfl)) (by kernel_rfl))) (sg_name 3 sc_chosen.nd (lc (by kernel_rfl)) (.inl rfl))
      (ss_cons (ss_set 4 sc_chosen.nd (se_if (st_tru (se_look 3 (vc (by kernel_rfl)))) (se_bin op_addA r_add (SE.vw (se_ix (se_look 3 (vc (by kernel_rfl))) (SE.vw (se_un un_neg r_neg (SE.vw se_int))))) (SE.vw se_int)) se_int) (ll (by kernel_rfl)) (.inl rfl))
      (ss_one (ss_method 2 PySem.F.slot_list_extend PySem.F.type_list_extend mt_extend (SE.fz (se_lc [("point", 5)] rfl sc_chosen.nd (SI.vw (si_range2 (gl_of (by kernel_rfl)) T.m_range (se_var 4 (vl (by kernel_rfl))) (se_var 0 (vl (by kernel_rfl))))) (blkOk_by (by kernel_rfl)) (fun _ _ _ _ _ => (sg_name 5 sc_chosen.nd (ll (by kernel_rfl)) (.inr (by kernel_rfl)))) (fun _ _ _ _ _ => sts_nil) (fun _ _ _ _ _ => (se_bin op_addA r_add (se_look 3 (vc (by kernel_rfl))) (SE.vw (se_tup (sa_consE (se_var 5 (vl (by kernel_rfl))) sa_nil))))))) hr_extend (vl (by kernel_rfl))))))
      (ss_frz (O1 := []) (by decide) (ss_one (ss_ret (se_var 2 (vl (by kernel_rfl))))))))))
      (fun z => nomatch z) (fun _ _ _ _ _ _ us hl => match us, hl with | [_, _], _ => by kernel_rfl)
theorem sc_rows_from : FnScope ["many", "ring", "row", "place"] ["many", "ring"] (defScope (topS 80)) := ⟨by kernel_rfl, by kernel_rfl, by kernel_rfl, by decide +kernel, by kernel_rfl, by decide +kernel, by decide +kernel⟩
theorem ok_rows_from (T : TX K mg) : Ok P w K mg 9 "rows_from" ["many", "ring"] false F_rows_from :=
  def_sim (k := 8) 4 B_rows_from rfl T.h_rows_from sc_rows_from rfl (fun base bs cdv A outer s H E hr =>
  (ss_one (ss_ret (SE.fz (se_lc [("row", 2)] rfl sc_rows_from.nd (si_look (SE.vw (se_def (ok_chosen T 7) bs hr tk0 (sa_consE (se_bin op_sub r_sub (se_look 1 (vl (by kernel_rfl))) (SE.vw se_int)) (sa_consE (se_bin op_sub r_sub (se_look 0 (vl (by kernel_rfl))) (SE.vw se_int)) sa_nil)) (aCons_len (aCons_len aNil_len)) (gl_of (by kernel_rfl)) (by kernel_rfl)))) (blkOk_by (by kernel_rfl)) (fun _ _ _ _ _ => (sg_name 2 sc_rows_from.nd (ll (by kernel_rfl)) (.inr (by kernel_rfl)))) (fun _ _ _ _ _ => sts_nil) (fun _ _ _ _ _ => (se_bin op_addA r_add (SE.vw (se_tup (sa_consE se_int sa_nil))) (SE.vw (se_callTy call_tuple_of c_tuple (gl_of (by kernel_rfl)) T.m_tuple (by decide +kernel) (sa_cons (SE.ov (se_lc [("place", 3)] rfl sc_rows_from.nd (si_look (se_look 2 (vl (by kernel_rfl)))) (blkOk_by (by kernel_rfl)) (fun _ _ _ _ _ => (sg_name 3 sc_rows_from.nd (ll (by kernel_rfl)) (.inr (by kernel_rfl)))) (fun _ _ _ _ _ => sts_nil) (fun _ _ _ _ _ => (se_bin op_addA r_add (se_look 3 (vl (by kernel_rfl))) (SE.vw se_int))))) sa_nil))))))))))
  (fun z => nomatch z) (fun _ _ _ _ _ _ us hl => match us, hl with | [_, _], _ => by kernel_rfl)
theorem sc_fullest : FnScope ["ring", "many", "some", "row"] ["ring"] (defScope (topS 81)) := ⟨by kernel_rfl, by kernel_rfl, by kernel_rfl, by decide +kernel, by kernel_rfl, by decide +kernel, by decide +kernel⟩
theorem ok_fullest (T : TX K mg) : Ok P w K mg 10 "fullest" ["ring"] false F_fullest :=
  def_sim (k := 9) 4 B_fullest rfl T.h_fullest sc_fullest rfl (fun base bs cdv A outer s H E hr =>
  (ss_cons (ss_expr (se_def ((ok_look_short T).lift (by decide)) bs hr tk0 (sa_consE (se_var 0 (vc (by kernel_rfl))) sa_nil) (aCons_len aNil_len) (gl_of (by kernel_rfl)) (by kernel_rfl)))
  (ss_cons (ss_set 1 sc_fullest.nd se_int (ll (by kernel_rfl)) (.inl rfl))
  (ss_one (ss_while 100 po0 (st_tru (SE.vw se_bool))
  (ss_cons (ss_lc 2 [("row", 3)] rfl sc_fullest.nd (si_look (SE.vw (se_def (ok_rows_from T) bs hr tk0 (sa_consE (se_var 1 (vl (by kernel_rfl))) (sa_consE (se_var 0 (vc (by kernel_rfl))) sa_nil)) (aCons_len (aCons_len aNil_len)) (gl_of (by kernel_rfl)) (by kernel_rfl)))) (blkOk_by (by kernel_rfl)) (fun _ _ _ _ _ => (sg_name 3 sc_fullest.nd (ll (by kernel_rfl)) (.inr (by kernel_rfl)))) (fun _ _ _ _ _ => (sts_one (st_not (st_tru (SE.vw (se_def ((ok_lacks T).lift (by decide)) bs hr takes0 (sa_consE (se_var 3 (vl (by kernel_rfl))) (sa_consE (se_var 0 (vc (by kernel_rfl))) sa_nil)) (aCons_len (aCons_len aNil_len)) (gl_of (by kernel_rfl)) (by kernel_rfl))))))) (fun _ _ _ _ _ => (se_var 3 (vl (by kernel_rfl)))) (sw_true rfl (by kernel_rfl) (by kernel_rfl) (by decide +kernel)))
  (ss_cons (ss_if (st_tru (se_look 2 (vl (by kernel_rfl))))
  (ss_one (ss_ret (se_ix (se_look 2 (vl (by kernel_rfl))) (SE.vw se_int))))
  ss_nil)
  (ss_one (ss_aug 1 sc_fullest.nd ip_add addI_ok se_int (ll (by kernel_rfl)) (.inl rfl))))))))))
  (fun z => nomatch z) (fun _ _ _ _ _ _ us hl => match us, hl with | [_], _ => by kernel_rfl)
theorem sc_widest : FnScope ["ring", "found", "many", "some", "row"] ["ring"] (defScope (topS 82)) := ⟨by kernel_rfl, by kernel_rfl, by kernel_rfl, by decide +kernel, by kernel_rfl, by decide +kernel, by decide +kernel⟩
theorem ok_widest (T : TX K mg) : Ok P w K mg 10 "widest" ["ring"] false F_widest :=
  def_sim (k := 9) 5 B_widest rfl T.h_widest sc_widest rfl (fun base bs cdv A outer s H E hr =>
  (ss_cons (ss_expr (se_def ((ok_look_short T).lift (by decide)) bs hr tk0 (sa_consE (se_var 0 (vc (by kernel_rfl))) sa_nil) (aCons_len aNil_len) (gl_of (by kernel_rfl)) (by kernel_rfl)))
  (ss_cons (ss_set 1 sc_widest.nd (se_tup (sa_consE se_int sa_nil)) (ll (by kernel_rfl)) (.inl rfl))
  (ss_cons (ss_for po0 rfl (si_range2 (gl_of (by kernel_rfl)) T.m_range se_int (se_bin op_addA r_add (SE.vw (se_callB (call_min2 rfl) c_min2 (gl_of (by kernel_rfl)) T.m_min (by decide +kernel) (sa_cons (SE.vw (se_globE T.n_MOST_POINTS (gl_of (by kernel_rfl)) (by kernel_rfl))) (sa_cons (se_look 0 (vc (by kernel_rfl))) sa_nil)))) (SE.vw se_int))) (sg_name 2 sc_widest.nd (ll (by kernel_rfl)) (.inl rfl))
  (ss_cons (ss_lc 3 [("row", 4)] rfl sc_widest.nd (si_look (SE.vw (se_def (ok_rows_from T) bs hr tk0 (sa_consE (se_var 2 (vl (by kernel_rfl))) (sa_consE (se_var 0 (vc (by kernel_rfl))) sa_nil)) (aCons_len (aCons_len aNil_len)) (gl_of (by kernel_rfl)) (by kernel_rfl)))) (blkOk_by (by kernel_rfl)) (fun _ _ _ _ _ => (sg_name 4 sc_widest.nd (ll (by kernel_rfl)) (.inr (by kernel_rfl)))) (fun _ _ _ _ _ => (sts_one (st_tru (SE.vw (se_def ((ok_parted T).lift (by decide)) bs hr takes0 (sa_consE (se_var 4 (vl (by kernel_rfl))) (sa_consE (se_var 0 (vc (by kernel_rfl))) sa_nil)) (aCons_len (aCons_len aNil_len)) (gl_of (by kernel_rfl)) (by kernel_rfl)))))) (fun _ _ _ _ _ => (se_var 4 (vl (by kernel_rfl)))) (sw_true rfl (by kernel_rfl) (by kernel_rfl) (by decide +kernel)))
  (ss_one (ss_if (st_tru (se_look 3 (vl (by kernel_rfl))))
  (ss_one (ss_set 1 sc_widest.nd (se_ix (se_look 3 (vl (by kernel_rfl))) (SE.vw se_int)) (ll (by kernel_rfl)) (.inl rfl)))
  ss_nil))))
  (ss_one (ss_ret (se_var 1 (vl (by kernel_rfl)))))))))
  (fun z => nomatch z) (fun _ _ _ _ _ _ us hl => match us, hl with | [_], _ => by kernel_rfl)
theorem sc__law_deed_sized : FnScope ["kind", "ring", "thing"] ["kind", "ring", "thing"] (defScope (topS 97)) := ⟨by kernel_rfl, by kernel_rfl, by kernel_rfl, by decide +kernel, by kernel_rfl, by decide +kernel, by decide +kernel⟩
theorem ok__law_deed_sized (T : TX K mg) : Ok P w K mg 13 "_law_deed_sized" ["kind", "ring", "thing"] false F__law_deed_sized :=
  def_sim (k := 12) 3 B__law_deed_sized rfl T.h__law_deed_sized sc__law_deed_sized rfl (fun base bs cdv A outer s H E hr =>
  (ss_cons (ss_if (st_cmp (op_eqD hr.units) r_eq (se_look 0 (vl (by kernel_rfl))) (SE.vw se_int) (nomark _))
  (ss_one (ss_ret (se_def ((ok_fullest T).lift (by decide)) bs hr tk0 (sa_consE (se_var 1 (vl (by kernel_rfl))) sa_nil) (aCons_len aNil_len) (gl_of (by kernel_rfl)) (by kernel_rfl))))
  ss_nil)
  (ss_cons (ss_if (st_cmp (op_eqD hr.units) r_eq (se_look 0 (vl (by kernel_rfl))) (SE.vw se_int) (nomark _))
  (ss_one (ss_ret (se_def ((ok_widest T).lift (by decide)) bs hr tk0 (sa_consE (se_var 1 (vl (by kernel_rfl))) sa_nil) (aCons_len aNil_len) (gl_of (by kernel_rfl)) (by kernel_rfl))))
  ss_nil)
  (ss_one (ss_ret (se_def (ok_shapes T) bs hr tk0 (sa_consE (se_ix (se_look 2 (vl (by kernel_rfl))) (SE.vw se_int)) (sa_consE (se_ix (se_look 2 (vl (by kernel_rfl))) (SE.vw se_int)) (sa_consE (se_var 1 (vl (by kernel_rfl))) sa_nil))) (aCons_len (aCons_len (aCons_len aNil_len))) (gl_of (by kernel_rfl)) (by kernel_rfl)))))))
  (fun z => nomatch z) (fun _ _ _ _ _ _ us hl => match us, hl with | [_, _, _], _ => by kernel_rfl)
theorem sc__law_deed_placed : FnScope ["kind", "ring", "thing"] ["kind", "ring", "thing"] (defScope (topS 96)) := ⟨by kernel_rfl, by kernel_rfl, by kernel_rfl, by decide +kernel, by kernel_rfl, by decide +kernel, by decide +kernel⟩
theorem ok__law_deed_placed (T : TX K mg) : Ok P w K mg 14 "_law_deed_placed" ["kind", "ring", "thing"] false F__law_deed_placed :=
  def_sim (k := 13) 3 B__law_deed_placed rfl T.h__law_deed_placed sc__law_deed_placed rfl (fun base bs cdv A outer s H E hr =>
  (ss_cons (ss_if (st_cmp (op_eqD hr.units) r_eq (se_look 0 (vl (by kernel_rfl))) (SE.vw se_int) (nomark _))
  (ss_one (ss_ret (se_def ((ok_bag T).lift (by decide)) bs hr tk0 (sa_consE (se_var 2 (vl (by kernel_rfl))) (sa_consE (se_var 1 (vl (by kernel_rfl))) sa_nil)) (aCons_len (aCons_len aNil_len)) (gl_of (by kernel_rfl)) (by kernel_rfl))))
  ss_nil)
  (ss_cons (ss_if (st_cmp (op_eqD hr.units) r_eq (se_look 0 (vl (by kernel_rfl))) (SE.vw se_int) (nomark _))
  (ss_one (ss_ret (se_def ((ok_shape T).lift (by decide)) bs hr tk0 (sa_consE (se_var 2 (vl (by kernel_rfl))) (sa_consE (se_var 1 (vl (by kernel_rfl))) sa_nil)) (aCons_len (aCons_len aNil_len)) (gl_of (by kernel_rfl)) (by kernel_rfl))))
  ss_nil)
  (ss_cons (ss_if (st_cmp (op_eqD hr.units) r_eq (se_look 0 (vl (by kernel_rfl))) (SE.vw se_int) (nomark _))
  (ss_one (ss_ret (se_def ((ok_twins T).lift (by decide)) bs hr tk0 (sa_consE (se_var 2 (vl (by kernel_rfl))) (sa_consE (se_var 1 (vl (by kernel_rfl))) sa_nil)) (aCons_len (aCons_len aNil_len)) (gl_of (by kernel_rfl)) (by kernel_rfl))))
  ss_nil)
  (ss_cons (ss_if (st_cmp (op_eqD hr.units) r_eq (se_look 0 (vl (by kernel_rfl))) (SE.vw se_int) (nomark _))
  (ss_one (ss_ret (se_def ((ok_lacking T).lift (by decide)) bs hr tk0 (sa_consE (se_var 2 (vl (by kernel_rfl))) (sa_consE (se_var 1 (vl (by kernel_rfl))) sa_nil)) (aCons_len (aCons_len aNil_len)) (gl_of (by kernel_rfl)) (by kernel_rfl))))
  ss_nil)
  (ss_cons (ss_if (st_cmp (op_eqD hr.units) r_eq (se_look 0 (vl (by kernel_rfl))) (SE.vw se_int) (nomark _))
  (ss_one (ss_ret (se_def ((ok_is_full T).lift (by decide)) bs hr tk0 (sa_consE (se_var 2 (vl (by kernel_rfl))) (sa_consE (se_var 1 (vl (by kernel_rfl))) sa_nil)) (aCons_len (aCons_len aNil_len)) (gl_of (by kernel_rfl)) (by kernel_rfl))))
  ss_nil)
  (ss_cons (ss_if (st_cmp (op_eqD hr.units) r_eq (se_look 0 (vl (by kernel_rfl))) (SE.vw se_int) (nomark _))
  (ss_one (ss_ret (se_def ((ok_is_spread T).lift (by decide)) bs hr tk0 (sa_consE (se_var 2 (vl (by kernel_rfl))) (sa_consE (se_var 1 (vl (by kernel_rfl))) sa_nil)) (aCons_len (aCons_len aNil_len)) (gl_of (by kernel_rfl)) (by kernel_rfl))))
  ss_nil)
  (ss_cons (ss_if (st_cmp (op_eqD hr.units) r_eq (se_look 0 (vl (by kernel_rfl))) (SE.vw se_int) (nomark _))
  (ss_one (ss_ret (se_def ((ok_strides T).lift (by decide)) bs hr tk0 (sa_consE (se_var 2 (vl (by kernel_rfl))) (sa_consE (se_var 1 (vl (by kernel_rfl))) sa_nil)) (aCons_len (aCons_len aNil_len)) (gl_of (by kernel_rfl)) (by kernel_rfl))))
  ss_nil)
  (ss_cons (ss_if (st_cmp (op_eqD hr.units) r_eq (se_look 0 (vl (by kernel_rfl))) (SE.vw se_int) (nomark _))
  (ss_one (ss_ret (se_def ((ok_rounds T).lift (by decide)) bs hr tk0 (sa_consE (se_var 2 (vl (by kernel_rfl))) (sa_consE (se_var 1 (vl (by kernel_rfl))) sa_nil)) (aCons_len (aCons_len aNil_len)) (gl_of (by kernel_rfl)) (by kernel_rfl))))
  ss_nil)
  (ss_cons (ss_if (st_cmp (op_eqD hr.units) r_eq (se_look 0 (vl (by kernel_rfl))) (SE.vw se_int) (nomark _))
  (ss_one (ss_ret (se_def ((ok_short_way T).lift (by decide)) bs hr tk0 (sa_consE (se_var 2 (vl (by kernel_rfl))) (sa_consE (se_var 1 (vl (by kernel_rfl))) sa_nil)) (aCons_len (aCons_len aNil_len)) (gl_of (by kernel_rfl)) (by kernel_rfl))))
  ss_nil)
  (ss_one (ss_ret (se_if (st_cmp (op_eqD hr.units) r_eq (se_look 0 (vl (by kernel_rfl))) (SE.vw se_int) (nomark _)) (se_def ((ok_walked T).lift (by decide)) bs hr tk0 (sa_consE (se_var 2 (vl (by kernel_rfl))) (sa_consE (se_var 1 (vl (by kernel_rfl))) sa_nil)) (aCons_len (aCons_len aNil_len)) (gl_of (by kernel_rfl)) (by kernel_rfl)) (se_def (ok__law_deed_sized T) bs hr tk0 (sa_consE (se_var 0 (vl (by kernel_rfl))) (sa_consE (se_var 1 (vl (by kernel_rfl))) (sa_consE (se_var 2 (vl (by kernel_rfl))) sa_nil))) (aCons_len (aCons_len (aCons_len aNil_len))) (gl_of (by kernel_rfl)) (by kernel_rfl)))))))))))))))
  (fun z => nomatch z) (fun _ _ _ _ _ _ us hl => match us, hl with | [_, _, _], _ => by kernel_rfl)
theorem sc__law_deed_asked : FnScope ["kind", "table", "ring", "thing"] ["kind", "table", "ring", "thing"] (defScope (topS 95)) := ⟨by kernel_rfl, by kernel_rfl, by kernel_rfl, by decide +kernel, by kernel_rfl, by decide +kernel, by decide +kernel⟩
theorem ok__law_deed_asked (T : TX K mg) : Ok P w K mg 15 "_law_deed_asked" ["kind", "table", "ring", "thing"] false F__law_deed_asked :=
  def_sim (k := 14) 4 B__law_deed_asked rfl T.h__law_deed_asked sc__law_deed_asked rfl (fun base bs cdv A outer s H E hr =>
  (ss_cons (ss_if (st_cmp (op_eqD hr.units) r_eq (se_look 0 (vl (by kernel_rfl))) (SE.vw se_int) (nomark _))
  (ss_one (ss_ret (se_def ((ok_retold T).lift (by decide)) bs hr tk0 (sa_consE (se_var 1 (vl (by kernel_rfl))) (sa_consE (se_ix (se_look 3 (vl (by kernel_rfl))) (SE.vw se_int)) (sa_consE (se_ix (se_look 3 (vl (by kernel_rfl))) (SE.vw se_int)) (sa_consE (se_ix (se_look 3 (vl (by kernel_rfl))) (SE.vw se_int)) sa_nil)))) (aCons_len (aCons_len (aCons_len (aCons_len aNil_len)))) (gl_of (by kernel_rfl)) (by kernel_rfl))))
  ss_nil)
  (ss_cons (ss_if (st_cmp (op_eqD hr.units) r_eq (se_look 0 (vl (by kernel_rfl))) (SE.vw se_int) (nomark _))
  (ss_one (ss_ret (se_def ((ok_renumbered T).lift (by decide)) bs hr tk0 (sa_consE (se_var 1 (vl (by kernel_rfl))) (sa_consE (se_var 3 (vl (by kernel_rfl))) sa_nil)) (aCons_len (aCons_len aNil_len)) (gl_of (by kernel_rfl)) (by kernel_rfl))))
  ss_nil)
  (ss_cons (ss_if (st_cmp (op_eqD hr.units) r_eq (se_look 0 (vl (by kernel_rfl))) (SE.vw se_int) (nomark _))
  (ss_one (ss_ret (se_def ((ok_beside T).lift (by decide)) bs hr tk0 (sa_consE (se_var 1 (vl (by kernel_rfl))) (sa_consE (se_var 3 (vl (by kernel_rfl))) sa_nil)) (aCons_len (aCons_len aNil_len)) (gl_of (by kernel_rfl)) (by kernel_rfl))))
  ss_nil)
  (ss_cons (ss_if (st_cmp (op_eqD hr.units) r_eq (se_look 0 (vl (by kernel_rfl))) (SE.vw se_int) (nomark _))
  (ss_one (ss_ret (se_def ((ok_glued T).lift (by decide)) bs hr tk0 (sa_consE (se_var 1 (vl (by kernel_rfl))) (sa_consE (se_ix (se_look 3 (vl (by kernel_rfl))) (SE.vw se_int)) (sa_consE (se_ix (se_look 3 (vl (by kernel_rfl))) (SE.vw se_int)) (sa_consE (se_ix (se_look 3 (vl (by kernel_rfl))) (SE.vw se_int)) sa_nil)))) (aCons_len (aCons_len (aCons_len (aCons_len aNil_len)))) (gl_of (by kernel_rfl)) (by kernel_rfl))))
  ss_nil)
  (ss_cons (ss_if (st_cmp (op_eqD hr.units) r_eq (se_look 0 (vl (by kernel_rfl))) (SE.vw se_int) (nomark _))
  (ss_one (ss_ret (se_def ((ok_agree T).lift (by decide)) bs hr tk0 (sa_consE (se_var 1 (vl (by kernel_rfl))) (sa_consE (se_var 3 (vl (by kernel_rfl))) sa_nil)) (aCons_len (aCons_len aNil_len)) (gl_of (by kernel_rfl)) (by kernel_rfl))))
  ss_nil)
  (ss_cons (ss_if (st_cmp (op_eqD hr.units) r_eq (se_look 0 (vl (by kernel_rfl))) (SE.vw se_int) (nomark _))
  (ss_one (ss_ret (se_def ((ok_united T).lift (by decide)) bs hr tk0 (sa_consE (se_var 1 (vl (by kernel_rfl))) (sa_consE (se_var 3 (vl (by kernel_rfl))) sa_nil)) (aCons_len (aCons_len aNil_len)) (gl_of (by kernel_rfl)) (by kernel_rfl))))
  ss_nil)
  (ss_cons (ss_if (st_cmp (op_eqD hr.units) r_eq (se_look 0 (vl (by kernel_rfl))) (SE.vw se_int) (nomark _))
  (ss_one (ss_ret (se_def ((ok_open_pairs T).lift (by decide)) bs hr tk0 (sa_consE (se_var 1 (vl (by kernel_rfl))) sa_nil) (aCons_len aNil_len) (gl_of (by kernel_rfl)) (by kernel_rfl))))
  ss_nil)
  (ss_cons (ss_if (st_cmp (op_eqD hr.units) r_eq (se_look 0 (vl (by kernel_rfl))) (SE.vw se_int) (nomark _))
  (ss_one (ss_ret (se_def ((ok_splits T).lift (by decide)) bs hr tk0 (sa_consE (se_var 1 (vl (by kernel_rfl))) (sa_consE (se_var 2 (vl (by kernel_rfl))) (sa_consE (se_ix (se_look 3 (vl (by kernel_rfl))) (SE.vw se_int)) (sa_consE (se_ix (se_look 3 (vl (by kernel_rfl))) (SE.vw se_int)) sa_nil)))) (aCons_len (aCons_len (aCons_len (aCons_len aNil_len)))) (gl_of (by kernel_rfl)) (by kernel_rfl))))
  ss_nil)
  (ss_cons (ss_if (st_cmp (op_eqD hr.units) r_eq (se_look 0 (vl (by kernel_rfl))) (SE.vw se_int) (nomark _))
  (ss_one (ss_ret (se_def ((ok_best_pair T).lift (by decide)) bs hr tk0 (sa_consE (se_var 1 (vl (by kernel_rfl))) (sa_consE (se_var 2 (vl (by kernel_rfl))) sa_nil)) (aCons_len (aCons_len aNil_len)) (gl_of (by kernel_rfl)) (by kernel_rfl))))
  ss_nil)
  (ss_cons (ss_if (st_cmp (op_eqD hr.units) r_eq (se_look 0 (vl (by kernel_rfl))) (SE.vw se_int) (nomark _))
  sss_no
  ss_nil)
  (ss_one (ss_ret (se_def (ok__law_deed_placed T) bs hr tk0 (sa_consE (se_var 0 (vl (by kernel_rfl))) (sa_consE (se_var 2 (vl (by kernel_rfl))) (sa_consE (se_var 3 (vl (by kernel_rfl))) sa_nil))) (aCons_len (aCons_len (aCons_len aNil_len))) (gl_of (by kernel_rfl)) (by kernel_rfl)))))))))))))))
  (fun z => nomatch z) (fun _ _ _ _ _ _ us hl => match us, hl with | [_, _, _, _], _ => by kernel_rfl)
theorem sc__law_deed_caught : FnScope ["kind", "table", "ring", "thing", "caught"] ["kind", "table", "ring", "thing"] (defScope (topS 94)) := ⟨by kernel_rfl, by kernel_rfl, by kernel_rfl, by decide +kernel, by kernel_rfl, by decide +kernel, by decide +kernel⟩
theorem ok__law_deed_caught (T : TX K mg) : Ok P w K mg 16 "_law_deed_caught" ["kind", "table", "ring", "thing"] false F__law_deed_caught :=
  def_sim (k := 15) 5 B__law_deed_caught rfl T.h__law_deed_caught sc__law_deed_caught rfl (fun base bs cdv A outer s H E hr =>
  (ss_cons (ss_set 4 sc__law_deed_caught.nd se_str (ll (by kernel_rfl)) (.inl rfl))
  (ss_cons (ss_try (cs := [.table, .ring, .places, .point, .nofit, .many, .full, .far, .bag, .told]) rfl rfl tk0 (fun W' pn xe tk' po' => (ss_one (ss_expr (se_def (ok__law_deed_asked T) bs hr tk' (sa_consE (se_var 0 (vl (by kernel_rfl))) (sa_consE (se_var 1 (vl (by kernel_rfl))) (sa_consE (se_var 2 (vl (by kernel_rfl))) (sa_consE (se_var 3 (vl (by kernel_rfl))) sa_nil)))) (aCons_len (aCons_len (aCons_len (aCons_len aNil_len)))) (gl_of (by kernel_rfl)) (by kernel_rfl)))))
  (.cons .table ⟨gl_of (by kernel_rfl), (by kernel_rfl), .inl T.g_table⟩ T.x_table (fun _ _ => (ss_one (ss_set 4 sc__law_deed_caught.nd se_str (ll (by kernel_rfl)) (.inl rfl))))
  (.cons .ring ⟨gl_of (by kernel_rfl), (by kernel_rfl), .inl T.g_ring⟩ T.x_ring (fun _ _ => (ss_one (ss_set 4 sc__law_deed_caught.nd se_str (ll (by kernel_rfl)) (.inl rfl))))
  (.cons .places ⟨gl_of (by kernel_rfl), (by kernel_rfl), .inl T.g_places⟩ T.x_places (fun _ _ => (ss_one (ss_set 4 sc__law_deed_caught.nd se_str (ll (by kernel_rfl)) (.inl rfl))))
  (.cons .point ⟨gl_of (by kernel_rfl), (by kernel_rfl), .inl T.g_point⟩ T.x_point (fun _ _ => (ss_one (ss_set 4 sc__law_deed_caught.nd se_str (ll (by kernel_rfl)) (.inl rfl))))
  (.cons .far ⟨gl_of (by kernel_rfl), (by kernel_rfl), .inl T.g_far⟩ T.x_far (fun _ _ => (ss_one (ss_set 4 sc__law_deed_caught.nd se_str (ll (by kernel_rfl)) (.inl rfl))))
  (.cons .bag ⟨gl_of (by kernel_rfl), (by kernel_rfl), .inl T.g_bag⟩ T.x_bag (fun _ _ => (ss_one (ss_set 4 sc__law_deed_caught.nd se_str (ll (by kernel_rfl)) (.inl rfl))))
  (.cons .told ⟨gl_of (by kernel_rfl), (by kernel_rfl), .inl T.g_told⟩ T.x_told (fun _ _ => (ss_one (ss_set 4 sc__law_deed_caught.nd se_str (ll (by kernel_rfl)) (.inl rfl))))
  (.cons .nofit ⟨gl_of (by kernel_rfl), (by kernel_rfl), .inl T.g_nofit⟩ T.x_nofit (fun _ _ => (ss_one (ss_set 4 sc__law_deed_caught.nd se_str (ll (by kernel_rfl)) (.inl rfl))))
  (.cons .many ⟨gl_of (by kernel_rfl), (by kernel_rfl), .inl T.g_many⟩ T.x_many (fun _ _ => (ss_one (ss_set 4 sc__law_deed_caught.nd se_str (ll (by kernel_rfl)) (.inl rfl))))
  (.cons .full ⟨gl_of (by kernel_rfl), (by kernel_rfl), .inl T.g_full⟩ T.x_full (fun _ _ => (ss_one (ss_set 4 sc__law_deed_caught.nd se_str (ll (by kernel_rfl)) (.inl rfl))))
  (.cons .deed ⟨gl_of (by kernel_rfl), (by kernel_rfl), .inl T.g_deed⟩ T.x_deed (fun _ _ => (ss_one (ss_set 4 sc__law_deed_caught.nd se_str (ll (by kernel_rfl)) (.inl rfl))))
  .nil))))))))))))
  (ss_one (ss_ret (se_var 4 (vl (by kernel_rfl))))))))
  (fun z => nomatch z) (fun _ _ _ _ _ _ us hl => match us, hl with | [_, _, _, _], _ => by kernel_rfl)
theorem sc_law : FnScope ["script", "ring", "odd", "spots", "two", "kind", "row", "far", "many", "bags", "size", "thing"] ["script"] (defScope (topS 98)) := ⟨by kernel_rfl, by kernel_rfl, by kernel_rfl, by decide +kernel, by kernel_rfl, by decide +kernel, by decide +kernel⟩
theorem ok_law (T : TX K mg) : Ok P w K mg 17 "law" ["script"] false F_law :=
  def_sim (k := 16) 12 B_law rfl T.h_law sc_law rfl (fun base bs cdv A outer s H E hr =>
  (ss_cons (ss_set 1 sc_law.nd (se_bin op_addA r_add (SE.vw se_int) (SE.vw (se_bin op_mod r_mod (SE.vw (se_bin op_fdiv r_fdiv (SE.vw (se_def ((ok__law_seed T).lift (by decide)) bs hr tk0 (sa_consE (se_def ((ok__law_cell T).lift (by decide)) bs hr tk0 (sa_consE (se_var 0 (vl (by kernel_rfl))) (sa_consE se_int sa_nil)) (aCons_len (aCons_len aNil_len)) (gl_of (by kernel_rfl)) (by kernel_rfl)) (sa_consE se_int sa_nil)) (aCons_len (aCons_len aNil_len)) (gl_of (by kernel_rfl)) (by kernel_rfl))) (SE.vw se_int))) (SE.vw se_int)))) (lc (by kernel_rfl)) (.inl rfl))
  (ss_cons (ss_set 2 sc_law.nd (se_ix (SE.ov (se_lst (sa_consE se_int (sa_consE (se_un un_neg r_neg (SE.vw se_int)) (sa_consE se_int (sa_consE se_none (sa_consE se_bool (sa_consE se_str sa_nil)))))))) (SE.vw (se_bin op_mod r_mod (SE.vw (se_def ((ok__law_cell T).lift (by decide)) bs hr tk0 (sa_consE (se_var 0 (vl (by kernel_rfl))) (sa_consE se_int sa_nil)) (aCons_len (aCons_len aNil_len)) (gl_of (by kernel_rfl)) (by kernel_rfl))) (SE.vw se_int)))) (ll (by kernel_rfl)) (.inl rfl))
  (ss_cons (ss_set 3 sc_law.nd (se_ix (SE.ov (se_lst (sa_consE (se_tup sa_nil) (sa_consE (se_tup (sa_consE (se_var 1 (vc (by kernel_rfl))) sa_nil)) (sa_consE (SE.fz (se_lst (sa_consE se_int sa_nil))) (sa_consE se_none (sa_consE (se_bin op_mulA r_mul (SE.vw (se_tup (sa_consE se_int sa_nil))) (SE.vw se_int)) (sa_consE (se_tup (sa_consE (se_un un_neg r_neg (SE.vw se_int)) sa_nil)) (sa_consE (se_tup (sa_consE se_bool sa_nil)) sa_nil))))))))) (SE.vw (se_bin op_mod r_mod (SE.vw (se_def ((ok__law_cell T).lift (by decide)) bs hr tk0 (sa_consE (se_var 0 (vl (by kernel_rfl))) (sa_consE se_int sa_nil)) (aCons_len (aCons_len aNil_len)) (gl_of (by kernel_rfl)) (by kernel_rfl))) (SE.vw se_int)))) (ll (by kernel_rfl)) (.inl rfl))
  (ss_cons (ss_set 4 sc_law.nd (se_tup (sa_consE se_int (sa_consE (se_tup (sa_consE se_none sa_nil)) sa_nil))) (lc (by kernel_rfl)) (.inl rfl))
  (ss_cons (ss_for po0 rfl (si_range2 (gl_of (by kernel_rfl)) T.m_range se_int se_int) (sg_name 5 sc_law.nd (ll (by kernel_rfl)) (.inl rfl))
  (ss_cons (ss_if (st_cmp (op_neD hr.units) r_ne (SE.vw (se_def (ok__law_deed_caught T) bs hr tk0 (sa_consE (se_var 5 (vl (by kernel_rfl))) (sa_consE (se_var 4 (vc (by kernel_rfl))) (sa_consE (se_var 2 (vl (by kernel_rfl))) (sa_consE (se_var 3 (vl (by kernel_rfl))) sa_nil)))) (aCons_len (aCons_len (aCons_len (aCons_len aNil_len)))) (gl_of (by kernel_rfl)) (by kernel_rfl))) (SE.vw se_str) (nomark _))
  (ss_one (ss_ret se_bool))
  ss_nil)
  (ss_one (ss_if (SW.st (sw_and (st_cmp (op_neD hr.units) r_ne (SE.vw (se_def (ok__law_deed_caught T) bs hr tk0 (sa_consE (se_var 5 (vl (by kernel_rfl))) (sa_consE (se_var 4 (vc (by kernel_rfl))) (sa_consE (se_var 1 (vc (by kernel_rfl))) (sa_consE (se_var 3 (vl (by kernel_rfl))) sa_nil)))) (aCons_len (aCons_len (aCons_len (aCons_len aNil_len)))) (gl_of (by kernel_rfl)) (by kernel_rfl))) (SE.vw se_str) (nomark _)) (sw_and1 (SW.st (sw_or (st_cmp op_lt (simB0 (g := ltI)) (se_look 5 (vl (by kernel_rfl))) (SE.vw se_int) (nomark _)) (sw_or1 (st_cmp (op_neD hr.units) r_ne (se_look 3 (vl (by kernel_rfl))) (SE.ov (se_lst (sa_consE se_int sa_nil))) (nomark _))))))))
  (ss_one (ss_ret se_bool))
  ss_nil))))
  (ss_cons (ss_for po0 rfl (si_seq (se_tup (sa_consE se_int (sa_consE se_int (sa_consE se_int sa_nil))))) (sg_name 5 sc_law.nd (ll (by kernel_rfl)) (.inl rfl))
  (ss_one (ss_if (st_cmp (op_neD hr.units) r_ne (SE.vw (se_def (ok__law_deed_caught T) bs hr tk0 (sa_consE (se_var 5 (vl (by kernel_rfl))) (sa_consE (se_var 4 (vc (by kernel_rfl))) (sa_consE (se_var 2 (vl (by kernel_rfl))) (sa_consE (se_tup (sa_consE se_none (sa_consE se_int sa_nil))) sa_nil)))) (aCons_len (aCons_len (aCons_len (aCons_len aNil_len)))) (gl_of (by kernel_rfl)) (by kernel_rfl))) (SE.vw se_str) (nomark _))
  (ss_one (ss_ret se_bool))
  ss_nil)))
  (ss_cons (ss_for po0 rfl (si_seq (se_tup (sa_consE (SE.fz (se_lst sa_nil)) (sa_consE (se_bin op_mulA r_mul (SE.ov (se_lst (sa_consE se_int sa_nil))) (SE.vw se_int)) (sa_consE (se_tup (sa_consE se_int sa_nil)) (sa_consE se_none (sa_consE (SE.fz (se_lst (sa_consE (se_var 1 (vc (by kernel_rfl))) sa_nil))) (sa_consE (SE.fz (se_lst (sa_consE (se_bin op_sub r_sub (SE.vw se_int) (se_look 1 (vc (by kernel_rfl)))) sa_nil))) (sa_consE (SE.fz (se_lst (sa_consE se_bool sa_nil))) (sa_consE (SE.fz (se_lst (sa_consE se_none sa_nil))) sa_nil)))))))))) (sg_name 6 sc_law.nd (ll (by kernel_rfl)) (.inl rfl))
  (ss_one (ss_if (st_cmp (op_neD hr.units) r_ne (SE.vw (se_def (ok__law_deed_caught T) bs hr tk0 (sa_consE se_int (sa_consE (se_var 4 (vc (by kernel_rfl))) (sa_consE (se_var 1 (vc (by kernel_rfl))) (sa_consE (se_var 6 (vl (by kernel_rfl))) sa_nil)))) (aCons_len (aCons_len (aCons_len (aCons_len aNil_len)))) (gl_of (by kernel_rfl)) (by kernel_rfl))) (SE.vw se_str) (nomark _))
  (ss_one (ss_ret se_bool))
  ss_nil)))
  (ss_cons (ss_set 7 sc_law.nd (se_bin op_addA r_add (SE.vw se_int) (SE.vw (se_bin op_mod r_mod (SE.vw (se_bin op_fdiv r_fdiv (SE.vw (se_def ((ok__law_seed T).lift (by decide)) bs hr tk0 (sa_consE (se_def ((ok__law_cell T).lift (by decide)) bs hr tk0 (sa_consE (se_var 0 (vl (by kernel_rfl))) (sa_consE se_int sa_nil)) (aCons_len (aCons_len aNil_len)) (gl_of (by kernel_rfl)) (by kernel_rfl)) (sa_consE se_int sa_nil)) (aCons_len (aCons_len aNil_len)) (gl_of (by kernel_rfl)) (by kernel_rfl))) (SE.vw se_int))) (SE.vw se_int)))) (ll (by kernel_rfl)) (.inl rfl))
  (ss_cons (ss_setO 8 sc_law.nd (se_lst (sa_consE (se_def (ok__law_deed_caught T) bs hr tk0 (sa_consE se_int (sa_consE (se_var 4 (vc (by kernel_rfl))) (sa_consE (se_var 7 (vl (by kernel_rfl))) (sa_consE se_none sa_nil)))) (aCons_len (aCons_len (aCons_len (aCons_len aNil_len)))) (gl_of (by kernel_rfl)) (by kernel_rfl)) (sa_consE (se_def (ok__law_deed_caught T) bs hr tk0 (sa_consE se_int (sa_consE (se_var 4 (vc (by kernel_rfl))) (sa_consE (se_var 7 (vl (by kernel_rfl))) (sa_consE se_none sa_nil)))) (aCons_len (aCons_len (aCons_len (aCons_len aNil_len)))) (gl_of (by kernel_rfl)) (by kernel_rfl)) sa_nil))) (ll (by kernel_rfl)) (.inl rfl))
  (ss_cons (ss_method 8 PySem.F.slot_list_append PySem.F.type_list_append mt_append (se_def (ok__law_deed_caught T) bs hr tk0 (sa_consE se_int (sa_consE (se_var 4 (vc (by kernel_rfl))) (sa_consE (se_callB (call_max2 rfl) c_max2 (gl_of (by kernel_rfl)) T.m_max (by decide +kernel) (sa_cons (SE.vw se_int) (sa_cons (se_look 7 (vl (by kernel_rfl))) sa_nil))) (sa_consE (se_tup (sa_consE se_none (sa_consE se_int sa_nil))) sa_nil)))) (aCons_len (aCons_len (aCons_len (aCons_len aNil_len)))) (gl_of (by kernel_rfl)) (by kernel_rfl)) hr_append (vl (by kernel_rfl)))
  (ss_frz (O1 := []) (by decide) (ss_cons (ss_set 8 sc_law.nd (se_bin op_addA r_add (se_look 8 (vl (by kernel_rfl))) (SE.ov (se_lc [("size", 10)] rfl sc_law.nd (si_look (SE.vw (se_tup (sa_consE se_int (sa_consE se_int (sa_consE se_none (sa_consE se_bool sa_nil))))))) (blkOk_by (by kernel_rfl)) (fun _ _ _ _ _ => (sg_name 10 sc_law.nd (ll (by kernel_rfl)) (.inr (by kernel_rfl)))) (fun _ _ _ _ _ => sts_nil) (fun _ _ _ _ _ => (se_def (ok__law_deed_caught T) bs hr takes0 (sa_consE se_int (sa_consE (se_var 4 (vc (by kernel_rfl))) (sa_consE (se_var 1 (vc (by kernel_rfl))) (sa_consE (se_tup (sa_consE se_none (sa_consE (se_var 10 (vl (by kernel_rfl))) sa_nil))) sa_nil)))) (aCons_len (aCons_len (aCons_len (aCons_len aNil_len)))) (gl_of (by kernel_rfl)) (by kernel_rfl)))))) (ll (by kernel_rfl)) (.inl rfl))
  (ss_cons (ss_set 8 sc_law.nd (se_bin op_addA r_add (se_look 8 (vl (by kernel_rfl))) (SE.ov (se_lst (sa_consE (se_def (ok__law_deed_caught T) bs hr tk0 (sa_consE se_int (sa_consE (se_var 4 (vc (by kernel_rfl))) (sa_consE (se_callB (call_max2 rfl) c_max2 (gl_of (by kernel_rfl)) T.m_max (by decide +kernel) (sa_cons (SE.vw se_int) (sa_cons (se_look 7 (vl (by kernel_rfl))) sa_nil))) (sa_consE (se_tup (sa_consE se_int sa_nil)) sa_nil)))) (aCons_len (aCons_len (aCons_len (aCons_len aNil_len)))) (gl_of (by kernel_rfl)) (by kernel_rfl)) (sa_consE (se_def (ok__law_deed_caught T) bs hr tk0 (sa_consE se_int (sa_consE (se_var 4 (vc (by kernel_rfl))) (sa_consE (se_var 1 (vc (by kernel_rfl))) (sa_consE (se_bin op_mulA r_mul (SE.vw (se_tup (sa_consE se_int sa_nil))) (SE.vw se_int)) sa_nil)))) (aCons_len (aCons_len (aCons_len (aCons_len aNil_len)))) (gl_of (by kernel_rfl)) (by kernel_rfl)) sa_nil))))) (ll (by kernel_rfl)) (.inl rfl))
  (ss_cons (ss_if (st_cmp (op_neD hr.units) r_ne (se_look 8 (vl (by kernel_rfl))) (SE.vw (se_bin op_mulA r_mul (SE.ov (se_lst (sa_consE se_str sa_nil))) (SE.vw se_int))) (nomark _))
  (ss_one (ss_ret se_bool))
  ss_nil)
  (ss_cons (ss_set 9 sc_law.nd (SE.fz (se_lst (sa_consE (se_tup (sa_consE se_none (sa_consE se_int sa_nil))) (sa_consE (se_tup (sa_consE (SE.fz (se_lst sa_nil)) (sa_consE se_int sa_nil))) (sa_consE (se_tup (sa_consE (SE.fz (se_lst (sa_consE se_int (sa_consE se_int sa_nil)))) (sa_consE se_int sa_nil))) (sa_consE (se_tup (sa_consE (SE.fz (se_lst (sa_consE se_int sa_nil))) (sa_consE se_int sa_nil))) (sa_consE (se_tup (sa_consE (SE.fz (se_lst (sa_consE (se_un un_neg r_neg (SE.vw se_int)) sa_nil))) (sa_consE se_int sa_nil))) (sa_consE (se_tup (sa_consE (se_tup (sa_consE se_int sa_nil)) (sa_consE se_int sa_nil))) (sa_consE (se_tup (sa_consE (SE.fz (se_lst (sa_consE se_int (sa_consE se_int (sa_consE se_int sa_nil))))) (sa_consE se_int sa_nil))) (sa_consE (se_tup (sa_consE (SE.fz (se_lst (sa_consE se_bool sa_nil))) (sa_consE se_int sa_nil))) (sa_consE (se_tup (sa_consE (SE.fz (se_lst (sa_consE se_int sa_nil))) (sa_consE se_int sa_nil))) sa_nil))))))))))) (ll (by kernel_rfl)) (.inl rfl))
  (ss_one (ss_ret (se_cmp (op_eqD hr.units) r_eq (SE.ov (se_lc [("thing", 11)] rfl sc_law.nd (si_look (se_look 9 (vl (by kernel_rfl)))) (blkOk_by (by kernel_rfl)) (fun _ _ _ _ _ => (sg_name 11 sc_law.nd (ll (by kernel_rfl)) (.inr (by kernel_rfl)))) (fun _ _ _ _ _ => (sts_one (st_cmp (op_neD hr.units) r_ne (SE.vw (se_def (ok__law_deed_caught T) bs hr takes0 (sa_consE se_int (sa_consE (se_var 4 (vc (by kernel_rfl))) (sa_consE (se_var 1 (vc (by kernel_rfl))) (sa_consE (se_var 11 (vl (by kernel_rfl))) sa_nil)))) (aCons_len (aCons_len (aCons_len (aCons_len aNil_len)))) (gl_of (by kernel_rfl)) (by kernel_rfl))) (SE.vw se_str) (nomark _)))) (fun _ _ _ _ _ => (se_var 11 (vl (by kernel_rfl)))))) (SE.ov (se_lst sa_nil)) (nomark _))))))))))))))))))))
  (fun z => nomatch z) (fun _ _ _ _ _ _ us hl => match us, hl with | [_], _ => by kernel_rfl)
end
/-! ### the head -/
def fns : List He.DefD := [⟨("_law_cell", none), "_law_cell", "_law_cell", defArgs (topS 92), defBody (topS 92), defScope (topS 92), [], []⟩,
  ⟨("_law_seed", none), "_law_seed", "_law_seed", defArgs (topS 93), defBody (topS 93), defScope (topS 93), [], []⟩,
  ⟨("is_within", none), "is_within", "is_within", defArgs (topS 18), defBody (topS 18), defScope (topS 18), [], []⟩,
  ⟨("is_far", none), "is_far", "is_far", defArgs (topS 19), defBody (topS 19), defScope (topS 19), [], []⟩,
  ⟨("pairs", none), "pairs", "pairs", defArgs (topS 20), defBody (topS 20), defScope (topS 20), [], []⟩,
  ⟨("is_table", none), "is_table", "is_table", defArgs (topS 21), defBody (topS 21), defScope (topS 21), [], []⟩,
  ⟨("look", none), "look", "look", defArgs (topS 22), defBody (topS 22), defScope (topS 22), [], []⟩,
  ⟨("look_pair", none), "look_pair", "look_pair", defArgs (topS 42), defBody (topS 42), defScope (topS 42), [], []⟩,
  ⟨("far_in", none), "far_in", "far_in", defArgs (topS 25), defBody (topS 25), defScope (topS 25), [], []⟩,
  ⟨("made", none), "made", "made", defArgs (topS 43), defBody (topS 43), defScope (topS 43), [], []⟩,
  ⟨("with_far", none), "with_far", "with_far", defArgs (topS 44), defBody (topS 44), defScope (topS 44), [], []⟩,
  ⟨("retold", none), "retold", "retold", defArgs (topS 45), defBody (topS 45), defScope (topS 45), [], []⟩,
  ⟨("renumbered", none), "renumbered", "renumbered", defArgs (topS 46), defBody (topS 46), defScope (topS 46), [], []⟩,
  ⟨("put_together", none), "put_together", "put_together", defArgs (topS 47), defBody (topS 47), defScope (topS 47), [], []⟩,
  ⟨("look_both", none), "look_both", "look_both", defArgs (topS 48), defBody (topS 48), defScope (topS 48), [], []⟩,
  ⟨("beside", none), "beside", "beside", defArgs (topS 49), defBody (topS 49), defScope (topS 49), [], []⟩,
  ⟨("glued", none), "glued", "glued", defArgs (topS 50), defBody (topS 50), defScope (topS 50), [], []⟩,
  ⟨("do_agree", none), "do_agree", "do_agree", defArgs (topS 51), defBody (topS 51), defScope (topS 51), [], []⟩,
  ⟨("agree", none), "agree", "agree", defArgs (topS 52), defBody (topS 52), defScope (topS 52), [], []⟩,
  ⟨("united", none), "united", "united", defArgs (topS 53), defBody (topS 53), defScope (topS 53), [], []⟩,
  ⟨("open_in", none), "open_in", "open_in", defArgs (topS 65), defBody (topS 65), defScope (topS 65), [], []⟩,
  ⟨("open_pairs", none), "open_pairs", "open_pairs", defArgs (topS 66), defBody (topS 66), defScope (topS 66), [], []⟩,
  ⟨("look_ring", none), "look_ring", "look_ring", defArgs (topS 23), defBody (topS 23), defScope (topS 23), [], []⟩,
  ⟨("pieces", none), "pieces", "pieces", defArgs (topS 55), defBody (topS 55), defScope (topS 55), [], []⟩,
  ⟨("path_of", none), "path_of", "path_of", defArgs (topS 56), defBody (topS 56), defScope (topS 56), [], []⟩,
  ⟨("away", none), "away", "away", defArgs (topS 26), defBody (topS 26), defScope (topS 26), [], []⟩,
  ⟨("agrees", none), "agrees", "agrees", defArgs (topS 57), defBody (topS 57), defScope (topS 57), [], []⟩,
  ⟨("ways_of", none), "ways_of", "ways_of", defArgs (topS 58), defBody (topS 58), defScope (topS 58), [], []⟩,
  ⟨("fit_in", none), "fit_in", "fit_in", defArgs (topS 59), defBody (topS 59), defScope (topS 59), [], []⟩,
  ⟨("look_fit", none), "look_fit", "look_fit", defArgs (topS 60), defBody (topS 60), defScope (topS 60), [], []⟩,
  ⟨("count", none), "count", "count", defArgs (topS 61), defBody (topS 61), defScope (topS 61), [], []⟩,
  ⟨("could", none), "could", "could", defArgs (topS 63), defBody (topS 63), defScope (topS 63), [], []⟩,
  ⟨("splits_of", none), "splits_of", "splits_of", defArgs (topS 67), defBody (topS 67), defScope (topS 67), [], []⟩,
  ⟨("splits", none), "splits", "splits", defArgs (topS 68), defBody (topS 68), defScope (topS 68), [], []⟩,
  ⟨("best_pair", none), "best_pair", "best_pair", defArgs (topS 69), defBody (topS 69), defScope (topS 69), [], []⟩,
  ⟨("look_places", none), "look_places", "look_places", defArgs (topS 24), defBody (topS 24), defScope (topS 24), [], []⟩,
  ⟨("full_of", none), "full_of", "full_of", defArgs (topS 27), defBody (topS 27), defScope (topS 27), [], []⟩,
  ⟨("bag_of", none), "bag_of", "bag_of", defArgs (topS 31), defBody (topS 31), defScope (topS 31), [], []⟩,
  ⟨("bag", none), "bag", "bag", defArgs (topS 32), defBody (topS 32), defScope (topS 32), [], []⟩,
  ⟨("shape_of", none), "shape_of", "shape_of", defArgs (topS 33), defBody (topS 33), defScope (topS 33), [], []⟩,
  ⟨("shape", none), "shape", "shape", defArgs (topS 34), defBody (topS 34), defScope (topS 34), [], []⟩,
  ⟨("left_of", none), "left_of", "left_of", defArgs (topS 35), defBody (topS 35), defScope (topS 35), [], []⟩,
  ⟨("rows_with", none), "rows_with", "rows_with", defArgs (topS 36), defBody (topS 36), defScope (topS 36), [], []⟩,
  ⟨("shapes_of", none), "shapes_of", "shapes_of", defArgs (topS 37), defBody (topS 37), defScope (topS 37), [], []⟩,
  ⟨("look_small", none), "look_small", "look_small", defArgs (topS 38), defBody (topS 38), defScope (topS 38), [], []⟩,
  ⟨("twins", none), "twins", "twins", defArgs (topS 40), defBody (topS 40), defScope (topS 40), [], []⟩,
  ⟨("lacks", none), "lacks", "lacks", defArgs (topS 74), defBody (topS 74), defScope (topS 74), [], []⟩,
  ⟨("lacking", none), "lacking", "lacking", defArgs (topS 75), defBody (topS 75), defScope (topS 75), [], []⟩,
  ⟨("is_full", none), "is_full", "is_full", defArgs (topS 76), defBody (topS 76), defScope (topS 76), [], []⟩,
  ⟨("parted", none), "parted", "parted", defArgs (topS 77), defBody (topS 77), defScope (topS 77), [], []⟩,
  ⟨("is_spread", none), "is_spread", "is_spread", defArgs (topS 78), defBody (topS 78), defScope (topS 78), [], []⟩,
  ⟨("stride", none), "stride", "stride", defArgs (topS 84), defBody (topS 84), defScope (topS 84), [], []⟩,
  ⟨("strides_of", none), "strides_of", "strides_of", defArgs (topS 85), defBody (topS 85), defScope (topS 85), [], []⟩,
  ⟨("strides", none), "strides", "strides", defArgs (topS 86), defBody (topS 86), defScope (topS 86), [], []⟩,
  ⟨("rounds", none), "rounds", "rounds", defArgs (topS 87), defBody (topS 87), defScope (topS 87), [], []⟩,
  ⟨("short_way", none), "short_way", "short_way", defArgs (topS 88), defBody (topS 88), defScope (topS 88), [], []⟩,
  ⟨("is_stride", none), "is_stride", "is_stride", defArgs (topS 89), defBody (topS 89), defScope (topS 89), [], []⟩,
  ⟨("walked", none), "walked", "walked", defArgs (topS 90), defBody (topS 90), defScope (topS 90), [], []⟩,
  ⟨("shapes", none), "shapes", "shapes", defArgs (topS 39), defBody (topS 39), defScope (topS 39), [], []⟩,
  ⟨("look_short", none), "look_short", "look_short", defArgs (topS 79), defBody (topS 79), defScope (topS 79), [], []⟩,
  ⟨("chosen", none), "chosen", "chosen", defArgs (topS 62), defBody (topS 62), defScope (topS 62), [], []⟩,
  ⟨("rows_from", none), "rows_from", "rows_from", defArgs (topS 80), defBody (topS 80), defScope (topS 80), [], []⟩,
  ⟨("fullest", none), "fullest", "fullest", defArgs (topS 81), defBody (topS 81), defScope (topS 81), [], []⟩,
  ⟨("widest", none), "widest", "widest", defArgs (topS 82), defBody (topS 82), defScope (topS 82), [], []⟩,
  ⟨("_law_deed_sized", none), "_law_deed_sized", "_law_deed_sized", defArgs (topS 97), defBody (topS 97), defScope (topS 97), [], []⟩,
  ⟨("_law_deed_placed", none), "_law_deed_placed", "_law_deed_placed", defArgs (topS 96), defBody (topS 96), defScope (topS 96), [], []⟩,
  ⟨("_law_deed_asked", none), "_law_deed_asked", "_law_deed_asked", defArgs (topS 95), defBody (topS 95), defScope (topS 95), [], []⟩,
  ⟨("_law_deed_caught", none), "_law_deed_caught", "_law_deed_caught", defArgs (topS 94), defBody (topS 94), defScope (topS 94), [], []⟩,
  ⟨("law", none), "law", "law", defArgs (topS 98), defBody (topS 98), defScope (topS 98), [], []⟩]
def fas : List He.Fa := [.glo "_law_cell", .glo "_law_seed", .glo "is_within", .glo "is_far", .glo "pairs", .glo "is_table", .glo "look", .glo "look_pair", .glo "far_in", .glo "made", .glo "with_far", .glo "retold", .glo "renumbered", .glo "put_together", .glo "look_both", .glo "beside", .glo "glued", .glo "do_agree", .glo "agree", .glo "united", .glo "open_in", .glo "open_pairs", .glo "look_ring", .glo "pieces", .glo "path_of", .glo "away", .glo "agrees", .glo "ways_of", .glo "fit_in", .glo "look_fit", .glo "count", .glo "could", .glo "splits_of", .glo "splits", .glo "best_pair", .glo "look_places", .glo "full_of", .glo "bag_of", .glo "bag", .glo "shape_of", .glo "shape", .glo "left_of", .glo "rows_with", .glo "shapes_of", .glo "look_small", .glo "twins", .glo "lacks", .glo "lacking", .glo "is_full", .glo "parted", .glo "is_spread", .glo "stride", .glo "strides_of", .glo "strides", .glo "rounds", .glo "short_way", .glo "is_stride", .glo "walked", .glo "shapes", .glo "look_short", .glo "chosen", .glo "rows_from", .glo "fullest", .glo "widest", .glo "_law_deed_sized", .glo "_law_deed_placed", .glo "_law_deed_asked", .glo "_law_deed_caught", .glo "law", .free "bool", .free "dict", .free "int", .free "isinstance", .free "len", .free "list", .free "max", .free "min", .free "range", .free "sorted", .free "sum", .free "tuple", .free "zip", .int "MOST_AROUND" 20, .int "MOST_FAR" 30, .int "MOST_HERE" 5, .int "MOST_MEASURED" 16, .int "MOST_POINTS" 6, .int "MOST_RING" 60, .glo "BadBag", .exc "BadBag", .glo "BadFar", .exc "BadFar", .glo "BadPlaces", .exc "BadPlaces", .glo "BadPoint", .exc "BadPoint", .glo "BadRing", .exc "BadRing", .glo "BadTable", .exc "BadTable", .glo "Full", .exc "Full", .glo "NoFit", .exc "NoFit", .glo "Told", .exc "Told", .glo "TooMany", .exc "TooMany", .exm "BadTable" "BadBag" false, .exm "BadRing" "BadBag" false, .exm "BadPlaces" "BadBag" false, .exm "BadPoint" "BadBag" false, .exm "NoFit" "BadBag" false, .exm "TooMany" "BadBag" false, .exm "Full" "BadBag" false, .exm "BadFar" "BadBag" false, .exm "BadBag" "BadBag" true, .exm "Told" "BadBag" false, .exm "BadTable" "BadFar" false, .exm "BadRing" "BadFar" false, .exm "BadPlaces" "BadFar" false, .exm "BadPoint" "BadFar" false, .exm "NoFit" "BadFar" false, .exm "TooMany" "BadFar" false, .exm "Full" "BadFar" false, .exm "BadFar" "BadFar" true, .exm "BadBag" "BadFar" false, .exm "Told" "BadFar" false, .exm "BadTable" "BadPlaces" false, .exm "BadRing" "BadPlaces" false, .exm "BadPlaces" "BadPlaces" true, .exm "BadPoint" "BadPlaces" false, .exm "NoFit" "BadPlaces" false, .exm "TooMany" "BadPlaces" false, .exm "Full" "BadPlaces" false, .exm "BadFar" "BadPlaces" false, .exm "BadBag" "BadPlaces" false, .exm "Told" "BadPlaces" false, .exm "BadTable" "BadPoint" false, .exm "BadRing" "BadPoint" false, .exm "BadPlaces" "BadPoint" false, .exm "BadPoint" "BadPoint" true, .exm "NoFit" "BadPoint" false, .exm "TooMany" "BadPoint" false, .exm "Full" "BadPoint" false, .exm "BadFar" "BadPoint" false, .exm "BadBag" "BadPoint" false, .exm "Told" "BadPoint" false, .exm "BadTable" "BadRing" false, .exm "BadRing" "BadRing" true, .exm "BadPlaces" "BadRing" false, .exm "BadPoint" "BadRing" false, .exm "NoFit" "BadRing" false, .exm "TooMany" "BadRing" false, .exm "Full" "BadRing" false, .exm "BadFar" "BadRing" false, .exm "BadBag" "BadRing" false, .exm "Told" "BadRing" false, .exm "BadTable" "BadTable" true, .exm "BadRing" "BadTable" false, .exm "BadPlaces" "BadTable" false, .exm "BadPoint" "BadTable" false, .exm "NoFit" "BadTable" false, .exm "TooMany" "BadTable" false, .exm "Full" "BadTable" false, .exm "BadFar" "BadTable" false, .exm "BadBag" "BadTable" false, .exm "Told" "BadTable" false, .exm "BadTable" "Full" false, .exm "BadRing" "Full" false, .exm "BadPlaces" "Full" false, .exm "BadPoint" "Full" false, .exm "NoFit" "Full" false, .exm "TooMany" "Full" false, .exm "Full" "Full" true, .exm "BadFar" "Full" false, .exm "BadBag" "Full" false, .exm "Told" "Full" false, .glo "NoDeed", .exm "BadTable" "NoDeed" false, .exm "BadRing" "NoDeed" false, .exm "BadPlaces" "NoDeed" false, .exm "BadPoint" "NoDeed" false, .exm "NoFit" "NoDeed" false, .exm "TooMany" "NoDeed" false, .exm "Full" "NoDeed" false, .exm "BadFar" "NoDeed" false, .exm "BadBag" "NoDeed" false, .exm "Told" "NoDeed" false, .exm "BadTable" "NoFit" false, .exm "BadRing" "NoFit" false, .exm "BadPlaces" "NoFit" false, .exm "BadPoint" "NoFit" false, .exm "NoFit" "NoFit" true, .exm "TooMany" "NoFit" false, .exm "Full" "NoFit" false, .exm "BadFar" "NoFit" false, .exm "BadBag" "NoFit" false, .exm "Told" "NoFit" false, .exm "BadTable" "Told" false, .exm "BadRing" "Told" false, .exm "BadPlaces" "Told" false, .exm "BadPoint" "Told" false, .exm "NoFit" "Told" false, .exm "TooMany" "Told" false, .exm "Full" "Told" false, .exm "BadFar" "Told" false, .exm "BadBag" "Told" false, .exm "Told" "Told" true, .exm "BadTable" "TooMany" false, .exm "BadRing" "TooMany" false, .exm "BadPlaces" "TooMany" false, .exm "BadPoint" "TooMany" false, .exm "NoFit" "TooMany" false, .exm "TooMany" "TooMany" true, .exm "Full" "TooMany" false, .exm "BadFar" "TooMany" false, .exm "BadBag" "TooMany" false, .exm "Told" "TooMany" false]
abbrev R_ : PySem.W.OpenRow := PySem.W.OpenLaw.row PySem.Challenge.rw_ringtable_k32_rings_refused
def sel : List Str := (["_law_cell", "_law_seed", "is_within", "is_far", "pairs", "is_table", "look", "look_pair", "far_in", "made", "with_far", "retold", "renumbered", "put_together", "look_both", "beside", "glued", "do_agree", "agree", "united", "open_in", "open_pairs", "look_ring", "pieces", "path_of", "away", "agrees", "ways_of", "fit_in", "look_fit"] : List Str) ++ (["count", "could", "splits_of", "splits", "best_pair", "look_places", "full_of", "bag_of", "bag", "shape_of", "shape", "left_of", "rows_with", "shapes_of", "look_small", "twins", "lacks", "lacking", "is_full", "parted", "is_spread", "stride", "strides_of", "strides", "rounds", "short_way", "is_stride", "walked", "shapes", "look_short"] : List Str) ++ (["chosen", "rows_from", "fullest", "widest", "_law_deed_sized", "_law_deed_placed", "_law_deed_asked", "_law_deed_caught", "law", "BadBag", "BadFar", "BadPlaces", "BadPoint", "BadRing", "BadTable", "Full", "NoFit", "Told", "TooMany", "NoDeed"] : List Str)
abbrev hk : PySem.W.Hook := Rt.hookN 2 sel fas fns
def ob (s : PySem.W.SharedT) : He.AlD := Rt.obsN 2 sel fas fns (HandSHeadRun.getT s)
theorem ob_eq (s : PySem.W.SharedT) : ob s = hk.obs s.abs := Rt.obsN_eq (HandSHeadRun.getT_eq s)
def loose : List Str := (["_wall", "RingError", "BadTable", "BadRing", "BadPlaces", "BadPoint", "NoFit", "TooMany", "Full", "BadFar", "BadBag", "Told", "NoDeed", "MOST_POINTS", "MOST_FAR", "MOST_RING", "is_within", "is_far", "pairs", "is_table", "look", "look_ring", "look_places", "far_in", "away", "full_of", "MOST_HERE", "MOST_AROUND", "bag_of", "bag"] : List Str) ++ (["shape_of", "shape", "left_of", "rows_with", "shapes_of", "look_small", "shapes", "twins", "look_pair", "made", "with_far", "retold", "renumbered", "put_together", "look_both", "beside", "glued", "do_agree", "agree", "united", "pieces", "path_of", "agrees", "ways_of", "fit_in", "look_fit", "count", "chosen", "could", "open_in"] : List Str) ++ (["open_pairs", "splits_of", "splits", "best_pair", "Desk", "MOST_MEASURED", "lacks", "lacking", "is_full", "parted", "is_spread", "look_short", "rows_from", "fullest", "widest", "stride", "strides_of", "strides", "rounds", "short_way", "is_stride", "walked", "_law_cell", "_law_seed", "_law_deed_caught", "_law_deed_asked", "_law_deed_placed", "_law_deed_sized"] : List Str)
theorem run (w : World) : HandSHeadRun.RunEq R_ (PySem.W.view R_.prog [98]) hk ob 20000 loose w := by
  intro os
  kernel_rfl
theorem tx_of {K : PySem.W.Frag} {h : Heap} {mg : Str → Option Value} (X : K.In h) (G : h.Ns mainGlobals mg) (c : He.SaysD fas fns K) : TX K mg := by
  refine ⟨⟨He.glo_ok X G (c.fact 0 rfl), c.def_ 0 rfl⟩, ⟨He.glo_ok X G (c.fact 1 rfl), c.def_ 1 rfl⟩, ⟨He.glo_ok X G (c.fact 2 rfl), c.def_ 2 rfl⟩, ⟨He.glo_ok X G (c.fact 3 rfl), c.def_ 3 rfl⟩, ⟨He.glo_ok X G (c.fact 4 rfl), c.def_ 4 rfl⟩, ⟨He.glo_ok X G (c.fact 5 rfl), c.def_ 5 rfl⟩, ⟨He.glo_ok X G (c.fact 6 rfl), c.def_ 6 rfl⟩, ⟨He.glo_ok X G (c.fact 7 rfl), c.def_ 7 rfl⟩, ⟨He.glo_ok X G (c.fact 8 rfl), c.def_ 8 rfl⟩, ⟨He.glo_ok X G (c.fact 9 rfl), c.def_ 9 rfl⟩, ⟨He.glo_ok X G (c.fact 10 rfl), c.def_ 10 rfl⟩, ⟨He.glo_ok X G (c.fact 11 rfl), c.def_ 11 rfl⟩, ⟨He.glo_ok X G (c.fact 12 rfl), c.def_ 12 rfl⟩, ⟨He.glo_ok X G (c.fact 13 rfl), c.def_ 13 rfl⟩, ⟨He.glo_ok X G (c.fact 14 rfl), c.def_ 14 rfl⟩, ⟨He.glo_ok X G (c.fact 15 rfl), c.def_ 15 rfl⟩, ⟨He.glo_ok X G (c.fact 16 rfl), c.def_ 16 rfl⟩, ⟨He.glo_ok X G (c.fact 17 rfl), c.def_ 17 rfl⟩, ⟨He.glo_ok X G (c.fact 18 rfl), c.def_ 18 rfl⟩, ⟨He.glo_ok X G (c.fact 19 rfl), c.def_ 19 rfl⟩, ⟨He.glo_ok X G (c.fact 20 rfl), c.def_ 20 rfl⟩, ⟨He.glo_ok X G (c.fact 21 rfl), c.def_ 21 rfl⟩, ⟨He.glo_ok X G (c.fact 22 rfl), c.def_ 22 rfl⟩, ⟨He.glo_ok X G (c.fact 23 rfl), c.def_ 23 rfl⟩, ⟨He.glo_ok X G (c.fact 24 rfl), c.def_ 24 rfl⟩, ⟨He.glo_ok X G (c.fact 25 rfl), c.def_ 25 rfl⟩, ⟨He.glo_ok X G (c.fact 26 rfl), c.def_ 26 rfl⟩, ⟨He.glo_ok X G (c.fact 27 rfl), c.def_ 27 rfl⟩, ⟨He.glo_ok X G (c.fact 28 rfl), c.def_ 28 rfl⟩, ⟨He.glo_ok X G (c.fact 29 rfl), c.def_ 29 rfl⟩, ⟨He.glo_ok X G (c.fact 30 rfl), c.def_ 30 rfl⟩, ⟨He.glo_ok X G (c.fact 31 rfl), c.def_ 31 rfl⟩, ⟨He.glo_ok X G (c.fact 32 rfl), c.def_ 32 rfl⟩, ⟨He.glo_ok X G (c.fact 33 rfl), c.def_ 33 rfl⟩, ⟨He.glo_ok X G (c.fact 34 rfl), c.def_ 34 rfl⟩, ⟨He.glo_ok X G (c.fact 35 rfl), c.def_ 35 rfl⟩, ⟨He.glo_ok X G (c.fact 36 rfl), c.def_ 36 rfl⟩, ⟨He.glo_ok X G (c.fact 37 rfl), c.def_ 37 rfl⟩, ⟨He.glo_ok X G (c.fact 38 rfl), c.def_ 38 rfl⟩, ⟨He.glo_ok X G (c.fact 39 rfl), c.def_ 39 rfl⟩, ⟨He.glo_ok X G (c.fact 40 rfl), c.def_ 40 rfl⟩, ⟨He.glo_ok X G (c.fact 41 rfl), c.def_ 41 rfl⟩, ⟨He.glo_ok X G (c.fact 42 rfl), c.def_ 42 rfl⟩, ⟨He.glo_ok X G (c.fact 43 rfl), c.def_ 43 rfl⟩, ⟨He.glo_ok X G (c.fact 44 rfl), c.def_ 44 rfl⟩, ⟨He.glo_ok X G (c.fact 45 rfl), c.def_ 45 rfl⟩, ⟨He.glo_ok X G (c.fact 46 rfl), c.def_ 46 rfl⟩, ⟨He.glo_ok X G (c.fact 47 rfl), c.def_ 47 rfl⟩, ⟨He.glo_ok X G (c.fact 48 rfl), c.def_ 48 rfl⟩, ⟨He.glo_ok X G (c.fact 49 rfl), c.def_ 49 rfl⟩, ⟨He.glo_ok X G (c.fact 50 rfl), c.def_ 50 rfl⟩, ⟨He.glo_ok X G (c.fact 51 rfl), c.def_ 51 rfl⟩, ⟨He.glo_ok X G (c.fact 52 rfl), c.def_ 52 rfl⟩, ⟨He.glo_ok X G (c.fact 53 rfl), c.def_ 53 rfl⟩, ⟨He.glo_ok X G (c.fact 54 rfl), c.def_ 54 rfl⟩, ⟨He.glo_ok X G (c.fact 55 rfl), c.def_ 55 rfl⟩, ⟨He.glo_ok X G (c.fact 56 rfl), c.def_ 56 rfl⟩, ⟨He.glo_ok X G (c.fact 57 rfl), c.def_ 57 rfl⟩, ⟨He.glo_ok X G (c.fact 58 rfl), c.def_ 58 rfl⟩, ⟨He.glo_ok X G (c.fact 59 rfl), c.def_ 59 rfl⟩, ⟨He.glo_ok X G (c.fact 60 rfl), c.def_ 60 rfl⟩, ⟨He.glo_ok X G (c.fact 61 rfl), c.def_ 61 rfl⟩, ⟨He.glo_ok X G (c.fact 62 rfl), c.def_ 62 rfl⟩, ⟨He.glo_ok X G (c.fact 63 rfl), c.def_ 63 rfl⟩, ⟨He.glo_ok X G (c.fact 64 rfl), c.def_ 64 rfl⟩, ⟨He.glo_ok X G (c.fact 65 rfl), c.def_ 65 rfl⟩, ⟨He.glo_ok X G (c.fact 66 rfl), c.def_ 66 rfl⟩, ⟨He.glo_ok X G (c.fact 67 rfl), c.def_ 67 rfl⟩, ⟨He.glo_ok X G (c.fact 68 rfl), c.def_ 68 rfl⟩, He.free_ok X G (c.fact 69 rfl), He.free_ok X G (c.fact 70 rfl), He.free_ok X G (c.fact 71 rfl), He.free_ok X G (c.fact 72 rfl), He.free_ok X G (c.fact 73 rfl), He.free_ok X G (c.fact 74 rfl), He.free_ok X G (c.fact 75 rfl), He.free_ok X G (c.fact 76 rfl), He.free_ok X G (c.fact 77 rfl), He.free_ok X G (c.fact 78 rfl), He.free_ok X G (c.fact 79 rfl), He.free_ok X G (c.fact 80 rfl), He.free_ok X G (c.fact 81 rfl), He.int_ok X G (c.fact 82 rfl), He.int_ok X G (c.fact 83 rfl), He.int_ok X G (c.fact 84 rfl), He.int_ok X G (c.fact 85 rfl), He.int_ok X G (c.fact 86 rfl), He.int_ok X G (c.fact 87 rfl), ⟨He.glo_ok X G (c.fact 88 rfl), He.exc_ok (c.fact 89 rfl)⟩, ⟨He.glo_ok X G (c.fact 90 rfl), He.exc_ok (c.fact 91 rfl)⟩, ⟨He.glo_ok X G (c.fact 92 rfl), He.exc_ok (c.fact 93 rfl)⟩, ⟨He.glo_ok X G (c.fact 94 rfl), He.exc_ok (c.fact 95 rfl)⟩, ⟨He.glo_ok X G (c.fact 96 rfl), He.exc_ok (c.fact 97 rfl)⟩, ⟨He.glo_ok X G (c.fact 98 rfl), He.exc_ok (c.fact 99 rfl)⟩, ⟨He.glo_ok X G (c.fact 100 rfl), He.exc_ok (c.fact 101 rfl)⟩, ⟨He.glo_ok X G (c.fact 102 rfl), He.exc_ok (c.fact 103 rfl)⟩, ⟨He.glo_ok X G (c.fact 104 rfl), He.exc_ok (c.fact 105 rfl)⟩, ⟨He.glo_ok X G (c.fact 106 rfl), He.exc_ok (c.fact 107 rfl)⟩, He.glo_ok X G (c.fact 88 rfl), (exms_cons (He.exm_ok (c.fact 108 rfl)) (exms_cons (He.exm_ok (c.fact 109 rfl)) (exms_cons (He.exm_ok (c.fact 110 rfl)) (exms_cons (He.exm_ok (c.fact 111 rfl)) (exms_cons (He.exm_ok (c.fact 112 rfl)) (exms_cons (He.exm_ok (c.fact 113 rfl)) (exms_cons (He.exm_ok (c.fact 114 rfl)) (exms_cons (He.exm_ok (c.fact 115 rfl)) (exms_cons (He.exm_ok (c.fact 116 rfl)) (exms_cons (He.exm_ok (c.fact 117 rfl)) exms_nil)))))))))), He.glo_ok X G (c.fact 90 rfl), (exms_cons (He.exm_ok (c.fact 118 rfl)) (exms_cons (He.exm_ok (c.fact 119 rfl)) (exms_cons (He.exm_ok (c.fact 120 rfl)) (exms_cons (He.exm_ok (c.fact 121 rfl)) (exms_cons (He.exm_ok (c.fact 122 rfl)) (exms_cons (He.exm_ok (c.fact 123 rfl)) (exms_cons (He.exm_ok (c.fact 124 rfl)) (exms_cons (He.exm_ok (c.fact 125 rfl)) (exms_cons (He.exm_ok (c.fact 126 rfl)) (exms_cons (He.exm_ok (c.fact 127 rfl)) exms_nil)))))))))), He.glo_ok X G (c.fact 92 rfl), (exms_cons (He.exm_ok (c.fact 128 rfl)) (exms_cons (He.exm_ok (c.fact 129 rfl)) (exms_cons (He.exm_ok (c.fact 130 rfl)) (exms_cons (He.exm_ok (c.fact 131 rfl)) (exms_cons (He.exm_ok (c.fact 132 rfl)) (exms_cons (He.exm_ok (c.fact 133 rfl)) (exms_cons (He.exm_ok (c.fact 134 rfl)) (exms_cons (He.exm_ok (c.fact 135 rfl)) (exms_cons (He.exm_ok (c.fact 136 rfl)) (exms_cons (He.exm_ok (c.fact 137 rfl)) exms_nil)))))))))), He.glo_ok X G (c.fact 94 rfl), (exms_cons (He.exm_ok (c.fact 138 rfl)) (exms_cons (He.exm_ok (c.fact 139 rfl)) (exms_cons (He.exm_ok (c.fact 140 rfl)) (exms_cons (He.exm_ok (c.fact 141 rfl)) (exms_cons (He.exm_ok (c.fact 142 rfl)) (exms_cons (He.exm_ok (c.fact 143 rfl)) (exms_cons (He.exm_ok (c.fact 144 rfl)) (exms_cons (He.exm_ok (c.fact 145 rfl)) (exms_cons (He.exm_ok (c.fact 146 rfl)) (exms_cons (He.exm_ok (c.fact 147 rfl)) exms_nil)))))))))), He.glo_ok X G (c.fact 96 rfl), (exms_cons (He.exm_ok (c.fact 148 rfl)) (exms_cons (He.exm_ok (c.fact 149 rfl)) (exms_cons (He.exm_ok (c.fact 150 rfl)) (exms_cons (He.exm_ok (c.fact 151 rfl)) (exms_cons (He.exm_ok (c.fact 152 rfl)) (exms_cons (He.exm_ok (c.fact 153 rfl)) (exms_cons (He.exm_ok (c.fact 154 rfl)) (exms_cons (He.exm_ok (c.fact 155 rfl)) (exms_cons (He.exm_ok (c.fact 156 rfl)) (exms_cons (He.exm_ok (c.fact 157 rfl)) exms_nil)))))))))), He.glo_ok X G (c.fact 98 rfl), (exms_cons (He.exm_ok (c.fact 158 rfl)) (exms_cons (He.exm_ok (c.fact 159 rfl)) (exms_cons (He.exm_ok (c.fact 160 rfl)) (exms_cons (He.exm_ok (c.fact 161 rfl)) (exms_cons (He.exm_ok (c.fact 162 rfl)) (exms_cons (He.exm_ok (c.fact 163 rfl)) (exms_cons (He.exm_ok (c.fact 164 rfl)) (exms_cons (He.exm_ok (c.fact 165 rfl)) (exms_cons (He.exm_ok (c.fact 166 rfl)) (exms_cons (He.exm_ok (c.fact 167 rfl)) exms_nil)))))))))), He.glo_ok X G (c.fact 100 rfl), (exms_cons (He.exm_ok (c.fact 168 rfl)) (exms_cons (He.exm_ok (c.fact 169 rfl)) (exms_cons (He.exm_ok (c.fact 170 rfl)) (exms_cons (He.exm_ok (c.fact 171 rfl)) (exms_cons (He.exm_ok (c.fact 172 rfl)) (exms_cons (He.exm_ok (c.fact 173 rfl)) (exms_cons (He.exm_ok (c.fact 174 rfl)) (exms_cons (He.exm_ok (c.fact 175 rfl)) (exms_cons (He.exm_ok (c.fact 176 rfl)) (exms_cons (He.exm_ok (c.fact 177 rfl)) exms_nil)))))))))), He.glo_ok X G (c.fact 178 rfl), (exms_cons (He.exm_ok (c.fact 179 rfl)) (exms_cons (He.exm_ok (c.fact 180 rfl)) (exms_cons (He.exm_ok (c.fact 181 rfl)) (exms_cons (He.exm_ok (c.fact 182 rfl)) (exms_cons (He.exm_ok (c.fact 183 rfl)) (exms_cons (He.exm_ok (c.fact 184 rfl)) (exms_cons (He.exm_ok (c.fact 185 rfl)) (exms_cons (He.exm_ok (c.fact 186 rfl)) (exms_cons (He.exm_ok (c.fact 187 rfl)) (exms_cons (He.exm_ok (c.fact 188 rfl)) exms_nil)))))))))), He.glo_ok X G (c.fact 102 rfl), (exms_cons (He.exm_ok (c.fact 189 rfl)) (exms_cons (He.exm_ok (c.fact 190 rfl)) (exms_cons (He.exm_ok (c.fact 191 rfl)) (exms_cons (He.exm_ok (c.fact 192 rfl)) (exms_cons (He.exm_ok (c.fact 193 rfl)) (exms_cons (He.exm_ok (c.fact 194 rfl)) (exms_cons (He.exm_ok (c.fact 195 rfl)) (exms_cons (He.exm_ok (c.fact 196 rfl)) (exms_cons (He.exm_ok (c.fact 197 rfl)) (exms_cons (He.exm_ok (c.fact 198 rfl)) exms_nil)))))))))), He.glo_ok X G (c.fact 104 rfl), (exms_cons (He.exm_ok (c.fact 199 rfl)) (exms_cons (He.exm_ok (c.fact 200 rfl)) (exms_cons (He.exm_ok (c.fact 201 rfl)) (exms_cons (He.exm_ok (c.fact 202 rfl)) (exms_cons (He.exm_ok (c.fact 203 rfl)) (exms_cons (He.exm_ok (c.fact 204 rfl)) (exms_cons (He.exm_ok (c.fact 205 rfl)) (exms_cons (He.exm_ok (c.fact 206 rfl)) (exms_cons (He.exm_ok (c.fact 207 rfl)) (exms_cons (He.exm_ok (c.fact 208 rfl)) exms_nil)))))))))), He.glo_ok X G (c.fact 106 rfl), (exms_cons (He.exm_ok (c.fact 209 rfl)) (exms_cons (He.exm_ok (c.fact 210 rfl)) (exms_cons (He.exm_ok (c.fact 211 rfl)) (exms_cons (He.exm_ok (c.fact 212 rfl)) (exms_cons (He.exm_ok (c.fact 213 rfl)) (exms_cons (He.exm_ok (c.fact 214 rfl)) (exms_cons (He.exm_ok (c.fact 215 rfl)) (exms_cons (He.exm_ok (c.fact 216 rfl)) (exms_cons (He.exm_ok (c.fact 217 rfl)) (exms_cons (He.exm_ok (c.fact 218 rfl)) exms_nil))))))))))⟩
end G
namespace G
open PySem L2 Rt
/-! cells, seeds -/
def cellI (ns : List Int) (k : Int) : Int := ns.getD k.toNat 0
theorem f_cell (ns : List Int) (k : Int) (h : 0 ≤ k) : F__law_cell [scriptD ns, .int k] = .ok (.int (cellI ns k)) := by
  simp [F__law_cell, Rt.run, B__law_cell]
  by_cases l : k < (ns.length : Int)
  · have e : ixD (scriptD ns) (.int k) = .ok (.int (cellI ns k)) := by
      have := ix_ints h l
      exact this
    simp [ltI, l, e]
  · have e : cellI ns k = 0 := by
      unfold cellI
      rw [List.getD_eq_getElem?_getD, List.getElem?_eq_none (by omega)]
      rfl
    simp [ltI, l, e]
def seedI (s k : Int) : Int := ((s * 1103515245 + 7919 * k + 12345) % 2147483647) ^ 5 % 2147483647
theorem seedI_range (s k : Int) : 0 ≤ seedI s k ∧ seedI s k < 2147483647 := ⟨Int.emod_nonneg _ (by decide), Int.emod_lt_of_pos _ (by decide)⟩
theorem bits31 {i : Int} (h0 : 0 ≤ i) (h : i < 2147483647) : Builtin.Int.intBits i ≤ 31 := by
  unfold Builtin.Int.intBits
  split
  · omega
  · rename_i z
    have hz : i ≠ 0 := by simpa using z
    have : i.natAbs.log2 < 31 := (Nat.log2_lt (by omega)).mpr (by omega)
    omega
theorem f_seed (s k : Int) : F__law_seed [.int s, .int k] = .ok (.int (seedI s k)) := by
  have e1 : mulD (.int s) (.int 1103515245) = .ok (.int (s * 1103515245)) := mulD_int (.inr ⟨by decide, by decide⟩)
  have e2 : mulD (.int 7919) (.int k) = .ok (.int (7919 * k)) := mulD_int (.inl ⟨by decide, by decide⟩)
  have e3 : ∀ i : Int, modD (.int i) (.int 2147483647) = .ok (.int (i % 2147483647)) := fun i => modD_int (by decide)
  have e4 : ∀ i : Int, powD (.int (i % 2147483647)) (.int 5) = .ok (.int ((i % 2147483647) ^ 5)) := fun i => by
    have h0 : 0 ≤ i % 2147483647 := Int.emod_nonneg _ (by decide)
    have h1 : i % 2147483647 < 2147483647 := Int.emod_lt_of_pos _ (by decide)
    have := bits31 h0 h1
    exact powD_int ⟨by decide, by omega⟩
  simp [F__law_seed, Rt.run, B__law_seed, e1, e2, e3, e4, seedI]
/-! pairs -/
def pairsL (n : Nat) : List (Nat × Nat) := (List.range n).flatMap fun i => (List.range (n - (i + 1))).map fun j => (i, i + 1 + j)
def pD (p : Nat × Nat) : D := .tuple [.int (p.1 : Int), .int (p.2 : Int)]
theorem pairsL_mem {n : Nat} {p : Nat × Nat} (h : p ∈ pairsL n) : p.1 < p.2 ∧ p.2 < n := by
  unfold pairsL at h
  obtain ⟨i, hi, h⟩ := List.mem_flatMap.mp h
  obtain ⟨j, hj, h⟩ := List.mem_map.mp h
  have hi := List.mem_range.mp hi
  have hj := List.mem_range.mp hj
  subst h
  exact ⟨by show i < i + 1 + j; omega, by show i + 1 + j < n; omega⟩
theorem pairs_len {n : Nat} (h : n ≤ 6) : (pairsL n).length ≤ 15 := by
  match n, h with
  | 0, _ => decide
  | 1, _ => decide
  | 2, _ => decide
  | 3, _ => decide
  | 4, _ => decide
  | 5, _ => decide
  | 6, _ => decide
theorem f_pairs : ∀ n : Nat, n ≤ 6 → F_pairs [.int (n : Int)] = .ok (.list ((pairsL n).map pD))
  | 0, _ => by kernel_rfl
  | 1, _ => by kernel_rfl
  | 2, _ => by kernel_rfl
  | 3, _ => by kernel_rfl
  | 4, _ => by kernel_rfl
  | 5, _ => by kernel_rfl
  | 6, _ => by kernel_rfl
  | n + 7, h => absurd h (by omega)
/-! what is asked of a ring, of places -/
theorem f_within (i lo hi : Int) : F_is_within [.int i, .int lo, .int hi] = .ok (.bool (decide (lo ≤ i) && decide (i ≤ hi))) := by
  by_cases h1 : lo ≤ i
  · simp [F_is_within, Rt.run, B_is_within, leI, h1]
  · simp [F_is_within, Rt.run, B_is_within, leI, h1]
theorem f_look_ring (r : Int) (h1 : 1 ≤ r) (h2 : r ≤ 60) : F_look_ring [.int r] = .ok .none := by
  simp [F_look_ring, Rt.run, B_look_ring, f_within, h1, h2]
theorem f_look_places (r : Int) (ps : List Int) (h1 : 1 ≤ r) (h2 : r ≤ 60) (l1 : 1 ≤ ps.length) (l2 : ps.length ≤ 6) (hp : ∀ x ∈ ps, 0 ≤ x ∧ x < r) : F_look_places [.tuple (ps.map PyData.int), .int r] = .ok .none := by
  have e : compL (gName 2) (tNot (tTru (eCall F_is_within (aCons (eVar 2) (aCons (eC (.int 0)) (aCons (eOp2 subD (eVar 1) (eC (.int 1))) aNil)))))) (eVar 2) [some (.tuple (ps.map PyData.int)), some (.int r), none] (ps.map PyData.int) = .ok ((ps.filter fun _ => false).map PyData.int) := by
    refine comp_filter PyData.int PyData.int (fun _ => false) ps fun x hx => ⟨_, rfl, ?_, fun z => nomatch z⟩
    have := hp x hx
    simp [f_within, this.1, show x ≤ r - 1 by omega]
  have z : (ps.filter fun _ => false) = [] := by simp
  rw [z] at e
  have c1 : leI 1 (ps.length : Int) = true := by simp [leI]; omega
  have c2 : leI (ps.length : Int) 6 = true := by simp [leI]; omega
  simp [F_look_places, Rt.run, B_look_places, f_look_ring r h1 h2, c1, c2, eComp_ap, wipeE, e]
/-! what is refused -/
/-- what is no number within bounds -/
def outI (lo hi : Int) : D → Bool
  | .int i => !(decide (lo ≤ i) && decide (i ≤ hi))
  | _ => true
def plainD : D → Bool
  | .dict _ => false
  | _ => true
theorem w_within (lo hi : Int) : ∀ d : D, plainD d = true → F_is_within [d, .int lo, .int hi] = .ok (.bool (!outI lo hi d))
  | .none, _ => by simp [F_is_within, Rt.run, B_is_within, outI]
  | .bool b, _ => by simp [F_is_within, Rt.run, B_is_within, outI]
  | .int i, _ => by rw [f_within]; simp [outI]
  | .str b, _ => by simp [F_is_within, Rt.run, B_is_within, outI]
  | .list b, _ => by simp [F_is_within, Rt.run, B_is_within, outI]
  | .tuple b, _ => by simp [F_is_within, Rt.run, B_is_within, outI]
  | .dict b, h => by cases h
theorem no_ring (d : D) (hp : plainD d = true) (h : outI 1 60 d = true) : F_look_ring [d] = .exc .ring := by
  simp [F_look_ring, Rt.run, B_look_ring, w_within 1 60 d hp, h]
/-- what is no places on a ring -/
def badPl (r : Int) : D → Bool
  | .tuple ds => decide (ds.length < 1) || decide (6 < ds.length) || ds.any (outI 0 (r - 1))
  | _ => true
theorem filter_any (p : D → Bool) : ∀ l : List D, (l.filter p).isEmpty = !l.any p
  | [] => rfl
  | x :: l => by
    rw [List.filter_cons, List.any_cons]
    cases p x with
    | true => rfl
    | false => exact filter_any p l
theorem no_places (r : Int) (d : D) (h1 : 1 ≤ r) (h2 : r ≤ 60) (hp : plainD d = true) (hs : ∀ ds, d = .tuple ds → ∀ x ∈ ds, plainD x = true) (h : badPl r d = true) : F_look_places [d, .int r] = .exc .places := by
  have fr := f_look_ring r h1 h2
  match d, hp with
  | .none, _ => simp [F_look_places, Rt.run, B_look_places, fr]
  | .bool b, _ => simp [F_look_places, Rt.run, B_look_places, fr]
  | .int i, _ => simp [F_look_places, Rt.run, B_look_places, fr]
  | .str b, _ => simp [F_look_places, Rt.run, B_look_places, fr]
  | .list b, _ => simp [F_look_places, Rt.run, B_look_places, fr]
  | .tuple ds, _ =>
    by_cases c1 : 1 ≤ ds.length
    · by_cases c2 : ds.length ≤ 6
      · have e : compL (gName 2) (tNot (tTru (eCall F_is_within (aCons (eVar 2) (aCons (eC (.int 0)) (aCons (eOp2 subD (eVar 1) (eC (.int 1))) aNil)))))) (eVar 2) [some (.tuple ds), some (.int r), none] ds = .ok (ds.filter (outI 0 (r - 1))) := by
          have := comp_filter (g := gName 2) (t := tNot (tTru (eCall F_is_within (aCons (eVar 2) (aCons (eC (.int 0)) (aCons (eOp2 subD (eVar 1) (eC (.int 1))) aNil)))))) (e := eVar 2) (env := [some (.tuple ds), some (.int r), none]) id id (outI 0 (r - 1)) ds fun x hx => ⟨_, rfl, by
            have := w_within 0 (r - 1) x (hs ds rfl x hx)
            simp [this], fun _ => rfl⟩
          rwa [List.map_id, List.map_id] at this
        have a : ds.any (outI 0 (r - 1)) = true := by
          have h : (decide (ds.length < 1) || decide (6 < ds.length) || ds.any (outI 0 (r - 1))) = true := h
          rw [decide_eq_false (by omega), decide_eq_false (by omega)] at h
          exact h
        have b := filter_any (outI 0 (r - 1)) ds
        rw [a] at b
        have l1 : leI 1 (ds.length : Int) = true := by simp [leI]; omega
        have l2 : leI (ds.length : Int) 6 = true := by simp [leI]; omega
        generalize ds.filter (outI 0 (r - 1)) = q at *
        simp [F_look_places, Rt.run, B_look_places, fr, l1, l2, eComp_ap, wipeE, e, b]
      · have l1 : leI 1 (ds.length : Int) = true := by simp [leI]; omega
        have l2 : leI (ds.length : Int) 6 = false := by simp [leI]; omega
        simp [F_look_places, Rt.run, B_look_places, fr, l1, l2]
    · have l1 : leI 1 (ds.length : Int) = false := by simp [leI]; omega
      simp [F_look_places, Rt.run, B_look_places, fr, l1]
theorem no_places_ring (d q : D) (hp : plainD d = true) (h : outI 1 60 d = true) : F_look_places [q, d] = .exc .ring := by
  simp [F_look_places, Rt.run, B_look_places, no_ring d hp h]
/-! the word of a refusal -/
def wordX : Xc → Str
  | .table => "table"
  | .ring => "ring"
  | .places => "places"
  | .point => "point"
  | .nofit => "fit"
  | .many => "many"
  | .full => "full"
  | .far => "far"
  | .bag => "bag"
  | .told => "told"
  | .deed => "deed"
  | .text => ""
/-! deeds that are refused -/
theorem f_caught (k t r d : D) (c : Xc) (hc : c ∈ [Xc.table, .ring, .places, .point, .nofit, .many, .full, .far, .bag, .told]) (h : F__law_deed_asked [k, t, r, d] = .exc c) : F__law_deed_caught [k, t, r, d] = .ok (.str (wordX c)) := by
  simp only [List.mem_cons, List.mem_nil_iff, or_false] at hc
  rcases hc with e | e | e | e | e | e | e | e | e | e <;> subst e <;> simp [F__law_deed_caught, Rt.run, B__law_deed_caught, h, wordX]
theorem f_caught_ok (k t r d z : D) (h : F__law_deed_asked [k, t, r, d] = .ok z) : F__law_deed_caught [k, t, r, d] = .ok (.str "") := by
  simp [F__law_deed_caught, Rt.run, B__law_deed_caught, h]
theorem asked_far (i : Int) (hi : 10 ≤ i) (t r d : D) : F__law_deed_asked [.int i, t, r, d] = F__law_deed_placed [.int i, r, d] := by
  have e : ∀ j : Int, j < 10 → (i == j) = false := fun j hj => by simp; omega
  unfold F__law_deed_asked Rt.run B__law_deed_asked
  simp [e 0, e 1, e 2, e 3, e 4, e 5, e 6, e 7, e 8, e 9, show ¬ i = 0 by omega, show ¬ i = 1 by omega, show ¬ i = 2 by omega, show ¬ i = 3 by omega, show ¬ i = 4 by omega, show ¬ i = 5 by omega, show ¬ i = 6 by omega, show ¬ i = 7 by omega, show ¬ i = 8 by omega, show ¬ i = 9 by omega]
  cases F__law_deed_placed [.int i, r, d] <;> rfl
theorem placed_exc (i : Int) (h1 : 10 ≤ i) (h2 : i ≤ 18) (r d : D) (c : Xc) (h : F_look_places [d, r] = .exc c) : F__law_deed_placed [.int i, r, d] = .exc c := by
  have : i = 10 ∨ i = 11 ∨ i = 12 ∨ i = 13 ∨ i = 14 ∨ i = 15 ∨ i = 16 ∨ i = 17 ∨ i = 18 := by omega
  unfold F__law_deed_placed Rt.run B__law_deed_placed
  rcases this with e | e | e | e | e | e | e | e | e <;> subst e
  · simp [F_bag, Rt.run, B_bag, h]
  · simp [F_shape, Rt.run, B_shape, h]
  · simp [F_twins, Rt.run, B_twins, h]
  · simp [F_lacking, Rt.run, B_lacking, h]
  · simp [F_is_full, Rt.run, B_is_full, h]
  · simp [F_is_spread, Rt.run, B_is_spread, h]
  · simp [F_strides, Rt.run, B_strides, h]
  · simp [F_rounds, Rt.run, B_rounds, h]
  · simp [F_short_way, Rt.run, B_short_way, h]
theorem placed_12 (r d : D) : F__law_deed_placed [.int 12, r, d] = F_twins [d, r] := by
  unfold F__law_deed_placed Rt.run B__law_deed_placed
  simp
  cases F_twins [d, r] <;> rfl
theorem placed_19 (r d : D) : F__law_deed_placed [.int 19, r, d] = F_walked [d, r] := by
  unfold F__law_deed_placed Rt.run B__law_deed_placed
  simp
  cases F_walked [d, r] <;> rfl
theorem placed_20 (r d : D) : F__law_deed_placed [.int 20, r, d] = F_fullest [r] := by
  unfold F__law_deed_placed Rt.run B__law_deed_placed
  simp [F__law_deed_sized, Rt.run, B__law_deed_sized]
  cases F_fullest [r] <;> rfl
theorem placed_21 (r d : D) : F__law_deed_placed [.int 21, r, d] = F_widest [r] := by
  unfold F__law_deed_placed Rt.run B__law_deed_placed
  simp [F__law_deed_sized, Rt.run, B__law_deed_sized]
  cases F_widest [r] <;> rfl
theorem placed_22 (r a b : D) : F__law_deed_placed [.int 22, r, .tuple [a, b]] = F_shapes [a, b, r] := by
  have i0 : ixD (.tuple [a, b]) (.int 0) = .ok a := ix_tuple_nat (i := 0) rfl
  have i1 : ixD (.tuple [a, b]) (.int 1) = .ok b := ix_tuple_nat (i := 1) rfl
  unfold F__law_deed_placed Rt.run B__law_deed_placed
  simp [F__law_deed_sized, Rt.run, B__law_deed_sized, i0, i1]
  cases F_shapes [a, b, r] <;> rfl
theorem small_ring (m r : D) (c : Xc) (h : F_look_ring [r] = .exc c) : F_look_small [m, r] = .exc c := by
  simp [F_look_small, Rt.run, B_look_small, h]
theorem small_many (m : D) (r : Int) (h1 : 1 ≤ r) (h2 : r ≤ 60) (hp : plainD m = true) (h : outI 1 5 m = true ∨ 20 < r) : F_look_small [m, .int r] = .exc .many := by
  have fr := f_look_ring r h1 h2
  have w := w_within 1 5 m hp
  cases z : outI 1 5 m with
  | true => rw [z] at w; simp [F_look_small, Rt.run, B_look_small, fr, w]
  | false =>
    rw [z] at w h
    have h : 20 < r := h.resolve_left (by simp)
    have g : gtI r 20 = true := by unfold gtI; simp; omega
    simp [F_look_small, Rt.run, B_look_small, fr, w, g]
theorem small_ok (m r : Int) (h1 : 1 ≤ r) (h2 : r ≤ 20) (m1 : 1 ≤ m) (m2 : m ≤ 5) : F_look_small [.int m, .int r] = .ok .none := by
  have fr := f_look_ring r h1 (by omega)
  have g : gtI r 20 = false := by unfold gtI; simp; omega
  simp [F_look_small, Rt.run, B_look_small, fr, f_within, m1, m2, g]
theorem shapes_exc (a m r : D) (c : Xc) (h : F_look_small [m, r] = .exc c) : F_shapes [a, m, r] = .exc c := by
  simp [F_shapes, Rt.run, B_shapes, h]
theorem short_many (r : Int) (h1 : 17 ≤ r) (h2 : r ≤ 60) : F_look_short [.int r] = .exc .many := by
  have fr := f_look_ring r (by omega) h2
  have g : gtI r 16 = true := by unfold gtI; simp; omega
  simp [F_look_short, Rt.run, B_look_short, fr, g]
theorem short_ring (r : D) (c : Xc) (h : F_look_ring [r] = .exc c) : F_look_short [r] = .exc c := by
  simp [F_look_short, Rt.run, B_look_short, h]
theorem fullest_exc (r : D) (c : Xc) (h : F_look_short [r] = .exc c) : F_fullest [r] = .exc c := by
  simp [F_fullest, Rt.run, B_fullest, h]
theorem widest_exc (r : D) (c : Xc) (h : F_look_short [r] = .exc c) : F_widest [r] = .exc c := by
  simp [F_widest, Rt.run, B_widest, h]
theorem walked_ring (d r : D) (c : Xc) (h : F_look_ring [r] = .exc c) : F_walked [d, r] = .exc c := by
  simp [F_walked, Rt.run, B_walked, h]
/-! law 32 -/
theorem walked_kind (d : D) (r : Int) (h1 : 1 ≤ r) (h2 : r ≤ 60) (hd : isiD "list" d = .ok (.bool false)) : F_walked [d, .int r] = .exc .places := by
  simp [F_walked, Rt.run, B_walked, f_look_ring r h1 h2, hd]
theorem walked_len (ds : List D) (r : Int) (h1 : 1 ≤ r) (h2 : r ≤ 60) (hl : ds.length = 0 ∨ 6 < ds.length) : F_walked [.list ds, .int r] = .exc .places := by
  have e : (leI 1 (ds.length : Int) && leI (ds.length : Int) 6) = false := by
    simp [leI]
    omega
  cases z : leI 1 (ds.length : Int) with
  | false => simp [F_walked, Rt.run, B_walked, f_look_ring r h1 h2, z]
  | true =>
    rw [z] at e
    have e : leI (ds.length : Int) 6 = false := e
    simp [F_walked, Rt.run, B_walked, f_look_ring r h1 h2, z, e]
theorem walked_one (d : D) (r : Int) (h1 : 1 ≤ r) (h2 : r ≤ 60) (hs : F_is_stride [d, .int r] = .ok (.bool false)) : F_walked [.list [d], .int r] = .exc .places := by
  simp [F_walked, Rt.run, B_walked, f_look_ring r h1 h2, leI, eComp_ap, wipeE, compL, hs]
theorem stride_plain (d : D) (r : Int) (hp : plainD d = true) (ho : outI (0 - r) r d = true) : F_is_stride [d, .int r] = .ok (.bool false) := by
  have w := w_within (0 - r) r d hp
  rw [ho] at w
  simp [F_is_stride, Rt.run, B_is_stride]
  simp at w
  simp [w]
theorem stride_up (r : Int) (h1 : 1 ≤ r) : F_is_stride [.int r, .int r] = .ok (.bool false) := by
  have w := f_within r (0 - r) r
  have m : mulD (.int 2) (.int r) = .ok (.int (2 * r)) := mulD_int (.inl ⟨by decide, by decide⟩)
  rw [decide_eq_true (by omega), decide_eq_true (by omega)] at w
  have g : leI (2 * r) r = false := by unfold leI; simp; omega
  have g2 : ltI (0 - r) (2 * r) = true := by unfold ltI; simp; omega
  simp at w g2
  simp [F_is_stride, Rt.run, B_is_stride, w, m, g, g2]
theorem stride_down (r : Int) (h1 : 1 ≤ r) : F_is_stride [.int (0 - r), .int r] = .ok (.bool false) := by
  have w := f_within (0 - r) (0 - r) r
  have m : mulD (.int 2) (.int (0 - r)) = .ok (.int (2 * (0 - r))) := mulD_int (.inl ⟨by decide, by decide⟩)
  rw [decide_eq_true (by omega), decide_eq_true (by omega)] at w
  have g2 : ltI (0 - r) (2 * (0 - r)) = false := by unfold ltI; simp; omega
  simp at w g2 m
  simp [F_is_stride, Rt.run, B_is_stride, w, m, g2]
theorem walked_zero (r : Int) (h1 : 1 ≤ r) (h2 : r ≤ 60) : F_walked [.list [.int 0], .int r] = .ok (.tuple [.int 0]) := by
  have w := f_within 0 (0 - r) r
  rw [decide_eq_true (by omega), decide_eq_true (by omega)] at w
  have m : mulD (.int 2) (.int 0) = .ok (.int (2 * 0)) := mulD_int (.inl ⟨by decide, by decide⟩)
  have g : leI 0 r = true := by unfold leI; simp; omega
  have g2 : ltI (-r) 0 = true := by unfold ltI; simp; omega
  have st : F_is_stride [.int 0, .int r] = .ok (.bool true) := by
    simp at w m
    simp [F_is_stride, Rt.run, B_is_stride, w, m, g, g2]
  have sm : sumD [.list [.int 0]] = .ok (.int 0) := sumD_ints [0]
  have cu : cutD [.int 0] none (some (-1)) = [] := rfl
  simp [F_walked, Rt.run, B_walked, f_look_ring r h1 h2, leI, eComp_ap, wipeE, compL, st, sm, modD_int (show 0 < r by omega), small6, sliceD, cu]
def rowsD (r : Int) : List D := [.list [], .list [.int 0, .int 0, .int 0, .int 0, .int 0, .int 0, .int 0], .tuple [.int 0], .none, .list [.int r], .list [.int (0 - r)], .list [.bool true], .list [.none]]
theorem rows_bad (r : Int) (h1 : 1 ≤ r) (h2 : r ≤ 60) (d : D) (h : d ∈ rowsD r) : F_walked [d, .int r] = .exc .places := by
  unfold rowsD at h
  simp only [List.mem_cons, List.mem_nil_iff, or_false] at h
  rcases h with e | e | e | e | e | e | e | e <;> subst e
  · exact walked_len _ r h1 h2 (.inl rfl)
  · exact walked_len _ r h1 h2 (.inr (by decide))
  · exact walked_kind _ r h1 h2 rfl
  · exact walked_kind _ r h1 h2 rfl
  · exact walked_one _ r h1 h2 (stride_up r h1)
  · exact walked_one _ r h1 h2 (stride_down r h1)
  · exact walked_one _ r h1 h2 (stride_plain _ r rfl rfl)
  · exact walked_one _ r h1 h2 (stride_plain _ r rfl rfl)
def spotD (r : Int) : List D := [.tuple [], .tuple [.int r], .list [.int 0], .none, .tuple [.int 0, .int 0, .int 0, .int 0, .int 0, .int 0, .int 0], .tuple [.int (-1)], .tuple [.bool true]]
theorem spot_bad (r : Int) (h1 : 1 ≤ r) (h2 : r ≤ 60) (d : D) (h : d ∈ spotD r) : F_look_places [d, .int r] = .exc .places := by
  have o1 : outI 0 (r - 1) (.int r) = true := by simp [outI]; omega
  unfold spotD at h
  simp only [List.mem_cons, List.mem_nil_iff, or_false] at h
  rcases h with e | e | e | e | e | e | e <;> subst e
  · exact no_places r _ h1 h2 rfl (fun ds e y hy => by cases e; cases hy) rfl
  · exact no_places r _ h1 h2 rfl (fun ds e y hy => by cases e; rw [List.mem_singleton.mp hy]; rfl) (by simp [badPl, o1])
  · exact no_places r _ h1 h2 rfl (fun ds e => by cases e) rfl
  · exact no_places r _ h1 h2 rfl (fun ds e => by cases e) rfl
  · exact no_places r _ h1 h2 rfl (fun ds e y hy => by
      cases e
      simp only [List.mem_cons, List.mem_nil_iff, or_false, or_self] at hy
      rw [hy]; rfl) rfl
  · exact no_places r _ h1 h2 rfl (fun ds e y hy => by cases e; rw [List.mem_singleton.mp hy]; rfl) rfl
  · exact no_places r _ h1 h2 rfl (fun ds e y hy => by cases e; rw [List.mem_singleton.mp hy]; rfl) rfl
theorem spot_walk (r : Int) (h1 : 1 ≤ r) (h2 : r ≤ 60) (d : D) (h : d ∈ spotD r) : F_walked [d, .int r] = .exc .places ∨ d = .list [.int 0] := by
  unfold spotD at h
  simp only [List.mem_cons, List.mem_nil_iff, or_false] at h
  rcases h with e | e | e | e | e | e | e <;> subst e
  · exact .inl (walked_kind _ r h1 h2 rfl)
  · exact .inl (walked_kind _ r h1 h2 rfl)
  · exact .inr rfl
  · exact .inl (walked_kind _ r h1 h2 rfl)
  · exact .inl (walked_kind _ r h1 h2 rfl)
  · exact .inl (walked_kind _ r h1 h2 rfl)
  · exact .inl (walked_kind _ r h1 h2 rfl)
theorem bag_bad (a : D) (m : Nat) (r : Int) (h1 : 1 ≤ r) (h2 : r ≤ 16) (m1 : 1 ≤ m) (m2 : m ≤ 3) (h : isiD "list" a = .ok (.bool false) ∨ (∃ ds : List D, a = .list ds ∧ (ds.length ≠ (pairsL m).length ∨ (ds.length = (pairsL m).length ∧ (∀ x ∈ ds, plainD x = true) ∧ (ds.any (outI 0 30) = true ∨ ((ds.any (outI 0 30) = false) ∧ ∃ s, sortAD [.list ds] = .ok s ∧ neD (.list ds) s = .ok (.bool true))))))) : F_shapes [a, .int (m : Int), .int r] = .exc .bag := by
  have fs := small_ok (m : Int) r h1 (by omega) (by omega) (by omega)
  have fp := f_pairs m (by omega)
  rcases h with h | ⟨ds, e, h⟩
  · simp [F_shapes, Rt.run, B_shapes, fs, h]
  · subst e
    rcases h with h | ⟨hl, hp, h⟩
    · have lp : lenD [.list ((pairsL m).map pD)] = .ok (.int ((pairsL m).length : Int)) := by rw [lenD_list, List.length_map]
      have h : ¬ (ds.length : Int) = ((pairsL m).length : Int) := by omega
      generalize ((pairsL m).length : Int) = x at *
      generalize (pairsL m).map pD = q at *
      have ne : ((ds.length : Int) != x) = true := by simp [h]
      simp [-lenD_list, -bne_iff_ne, F_shapes, Rt.run, B_shapes, fs, fp, lp, lenD_list ds, ne]
    · have e : compL (gName 3) (tNot (tTru (eCall F_is_within (aCons (eVar 3) (aCons (eC (.int 0)) (aCons (eC (.int 30)) aNil)))))) (eVar 3) [some (.list ds), some (.int (m : Int)), some (.int r), none] ds = .ok (ds.filter (outI 0 30)) := by
        have := comp_filter (g := gName 3) (t := tNot (tTru (eCall F_is_within (aCons (eVar 3) (aCons (eC (.int 0)) (aCons (eC (.int 30)) aNil)))))) (e := eVar 3) (env := [some (.list ds), some (.int (m : Int)), some (.int r), none]) id id (outI 0 30) ds fun x hx => ⟨_, rfl, by
          have := w_within 0 30 x (hp x hx)
          simp [this], fun _ => rfl⟩
        rwa [List.map_id, List.map_id] at this
      have b := filter_any (outI 0 30) ds
      have el : ((ds.length : Int) != ((pairsL m).length : Int)) = false := by simp; omega
      rcases h with h | ⟨h, s, hs, hn⟩
      · rw [h] at b
        generalize ds.filter (outI 0 30) = q at *
        simp [F_shapes, Rt.run, B_shapes, fs, fp, hl, eComp_ap, wipeE, e, b]
      · rw [h] at b
        generalize ds.filter (outI 0 30) = q at *
        simp [F_shapes, Rt.run, B_shapes, fs, fp, hl, eComp_ap, wipeE, e, b, hs, hn]
def bagsD : List D := [.tuple [.none, .int 2], .tuple [.list [], .int 2], .tuple [.list [.int 1, .int 1], .int 2], .tuple [.list [.int 31], .int 2], .tuple [.list [.int (-1)], .int 2], .tuple [.tuple [.int 0], .int 2], .tuple [.list [.int 1, .int 0, .int 1], .int 3], .tuple [.list [.bool true], .int 2], .tuple [.list [.int 0], .int 1]]
theorem bags_all (r : Int) (h1 : 1 ≤ r) (h2 : r ≤ 16) (d : D) (h : d ∈ bagsD) : F__law_deed_placed [.int 22, .int r, d] = .exc .bag := by
  unfold bagsD at h
  have one : ∀ x : D, plainD x = true → ∀ y ∈ [x], plainD y = true := fun x hx y hy => by rw [List.mem_singleton.mp hy]; exact hx
  simp only [List.mem_cons, List.mem_nil_iff, or_false] at h
  rcases h with e | e | e | e | e | e | e | e | e <;> subst e <;> rw [placed_22]
  · exact bag_bad _ 2 r h1 h2 (by decide) (by decide) (.inl rfl)
  · exact bag_bad _ 2 r h1 h2 (by decide) (by decide) (.inr ⟨_, rfl, .inl (by decide)⟩)
  · exact bag_bad _ 2 r h1 h2 (by decide) (by decide) (.inr ⟨_, rfl, .inl (by decide)⟩)
  · exact bag_bad _ 2 r h1 h2 (by decide) (by decide) (.inr ⟨_, rfl, .inr ⟨by decide, one _ rfl, .inl rfl⟩⟩)
  · exact bag_bad _ 2 r h1 h2 (by decide) (by decide) (.inr ⟨_, rfl, .inr ⟨by decide, one _ rfl, .inl rfl⟩⟩)
  · exact bag_bad _ 2 r h1 h2 (by decide) (by decide) (.inl rfl)
  · refine bag_bad _ 3 r h1 h2 (by decide) (by decide) (.inr ⟨_, rfl, .inr ⟨by decide, fun y hy => ?_, .inr ⟨rfl, _, sortAD_list [1, 0, 1], ?_⟩⟩⟩)
    · simp only [List.mem_cons, List.mem_nil_iff, or_false] at hy
      rcases hy with e | e | e <;> rw [e] <;> rfl
    · have e : sortI [1, 0, 1] = [0, 1, 1] := by
        rw [sortI_of_perm (show [(1 : Int), 0, 1].Perm [0, 1, 1] from List.Perm.swap _ _ _)]
        exact sortI_id (by decide)
      show neD (.list ([1, 0, 1].map PyData.int)) _ = _
      rw [e, neD_sh (j := 1) (k := 1) (Sh.list (sh_ints [1, 0, 1])) (Sh.list (sh_ints [0, 1, 1]))]
      rfl
  · exact bag_bad _ 2 r h1 h2 (by decide) (by decide) (.inr ⟨_, rfl, .inr ⟨by decide, one _ rfl, .inl rfl⟩⟩)
  · exact bag_bad _ 1 r h1 h2 (by decide) (by decide) (.inr ⟨_, rfl, .inl (by decide)⟩)
def oddD : List D := [.int 0, .int (-1), .int 61, .none, .bool true, .str "1"]
theorem odd_ok (d : D) (h : d ∈ oddD) : F_look_ring [d] = .exc .ring ∧ plainD d = true ∧ outI 1 60 d = true := by
  unfold oddD at h
  have : plainD d = true ∧ outI 1 60 d = true := by
    simp only [List.mem_cons, List.mem_nil_iff, or_false] at h
    rcases h with e | e | e | e | e | e <;> subst e <;> exact ⟨rfl, rfl⟩
  exact ⟨no_ring d this.1 this.2, this⟩
theorem pick_of {l : List D} {c : Int} {m : Nat} (hl : l.length = m) (hm : 0 < m) : ∃ d, d ∈ l ∧ ixD (.list l) (.int (c % (m : Int))) = .ok d := by
  have h0 : 0 ≤ c % (m : Int) := Int.emod_nonneg _ (by omega)
  have h1 : c % (m : Int) < m := Int.emod_lt_of_pos _ (by omega)
  obtain ⟨i, hi, e⟩ : ∃ i : Nat, i < m ∧ c % (m : Int) = (i : Int) := ⟨(c % (m : Int)).toNat, by omega, by omega⟩
  rw [e]
  have hi' : i < l.length := by omega
  exact ⟨l[i], List.getElem_mem hi', ix_list_nat (List.getElem?_eq_getElem hi')⟩
theorem sh_spot (r : Int) (d : D) (h : d ∈ spotD r) : Sh 1 d := by
  unfold spotD at h
  simp only [List.mem_cons, List.mem_nil_iff, or_false] at h
  rcases h with e | e | e | e | e | e | e <;> subst e
  · exact Sh.tuple fun x hx => by cases hx
  · exact Sh.tuple (sh_ints [r])
  · exact Sh.list (sh_ints [0])
  · exact Sh.none
  · exact Sh.tuple (sh_ints [0, 0, 0, 0, 0, 0, 0])
  · exact Sh.tuple (sh_ints [-1])
  · exact Sh.tuple fun x hx => by rw [List.mem_singleton.mp hx]; exact Sh.bool true
theorem one_turn (sc odd spots two : D) (r : Int) (h1 : 1 ≤ r) (h2 : r ≤ 60) (ho : odd ∈ oddD) (hs : spots ∈ spotD r) (i : Int) (i1 : 10 ≤ i) (i2 : i ≤ 19) (a6 a7 a8 a9 a10 a11 : Option D) : L_law_1 [some sc, some (.int r), some odd, some spots, some two, some (.int i), a6, a7, a8, a9, a10, a11] = .nx [some sc, some (.int r), some odd, some spots, some two, some (.int i), a6, a7, a8, a9, a10, a11] := by
  obtain ⟨o1, o2, o3⟩ := odd_ok odd ho
  have ne1 : neD (.str (wordX .ring)) (.str "ring") = .ok (.bool false) := neS_same "ring"
  have ne2 : neD (.str (wordX .places)) (.str "places") = .ok (.bool false) := neS_same "places"
  by_cases z : i ≤ 18
  · have c1 := f_caught (.int i) two odd spots .ring (by decide) (by rw [asked_far i i1]; exact placed_exc i i1 z _ _ _ (no_places_ring odd spots o2 o3))
    have c2 := f_caught (.int i) two (.int r) spots .places (by decide) (by rw [asked_far i i1]; exact placed_exc i i1 z _ _ _ (spot_bad r h1 h2 spots hs))
    simp [L_law_1, c1, ne1, c2, ne2]
  · have e : i = 19 := by omega
    subst e
    have c1 := f_caught (.int 19) two odd spots .ring (by decide) (by rw [asked_far 19 (by decide), placed_19]; exact walked_ring _ _ _ o1)
    rcases spot_walk r h1 h2 spots hs with w | w
    · have c2 := f_caught (.int 19) two (.int r) spots .places (by decide) (by rw [asked_far 19 (by decide), placed_19]; exact w)
      simp [L_law_1, c1, ne1, c2, ne2]
    · subst w
      have c2 := f_caught_ok (.int 19) two (.int r) (.list [.int 0]) _ (by rw [asked_far 19 (by decide), placed_19]; exact walked_zero r h1 h2)
      have ne3 : neD (.str "") (.str "places") = .ok (.bool true) := neS_diff
      have ne4 : neD (.list [.int 0]) (.list [.int 0]) = .ok (.bool false) := ne_ints_same [0]
      have lt : ltI 19 19 = false := rfl
      simp [L_law_1, c1, ne1, c2, ne3, lt, ne4, small6]
theorem law_true (ns : List Int) (_ : ns.length ≤ 63) (_ : ∀ z ∈ ns, Builtin.Int.intBits z ≤ 1048576) : F_law [scriptD ns] = .ok (.bool true) := by
  generalize hs : seedI (cellI ns 0) 1 = s
  have m0 : 0 ≤ s / 7 % 16 := Int.emod_nonneg _ (by decide)
  have m1 : s / 7 % 16 < 16 := Int.emod_lt_of_pos _ (by decide)
  obtain ⟨r, hr⟩ : ∃ r, 1 + s / 7 % 16 = r := ⟨_, rfl⟩
  have h1 : 1 ≤ r := by omega
  have h2 : r ≤ 16 := by omega
  obtain ⟨odd, om, ox⟩ := pick_of (l := oddD) (c := cellI ns 1) (m := 6) rfl (by decide)
  obtain ⟨spots, sm, sx⟩ := pick_of (l := spotD r) (c := cellI ns 2) (m := 7) rfl (by decide)
  replace ox : ixD (.list oddD) (.int (cellI ns 1 % 6)) = .ok odd := ox
  replace sx : ixD (.list (spotD r)) (.int (cellI ns 2 % 7)) = .ok spots := sx
  unfold oddD at ox
  unfold spotD at sx
  obtain ⟨o1, o2, o3⟩ := odd_ok odd om
  generalize hs2 : seedI (cellI ns 3) 2 = s2
  have n0 : 0 ≤ s2 / 7 % 44 := Int.emod_nonneg _ (by decide)
  have n1 : s2 / 7 % 44 < 44 := Int.emod_lt_of_pos _ (by decide)
  obtain ⟨f, hf⟩ : ∃ f, 17 + s2 / 7 % 44 = f := ⟨_, rfl⟩
  have f1 : 17 ≤ f := by omega
  have f2 : f ≤ 60 := by omega
  obtain ⟨g, hg⟩ : ∃ g, (if f > 21 then f else 21) = g := ⟨_, rfl⟩
  have g1 : 21 ≤ g := by rw [← hg]; split <;> omega
  have g2 : g ≤ 60 := by rw [← hg]; split <;> omega
  have tw : ∃ two, two = PyData.tuple [.int 2, .tuple [.none]] := ⟨_, rfl⟩
  obtain ⟨two, ht⟩ := tw
  -- the first loop
  obtain ⟨env1, w1, a5, he⟩ := loop_range (g := gName 5) (body := L_law_1) (fun i env => ∃ a5, env = [some (scriptD ns), some (.int r), some odd, some spots, some two, a5, none, none, none, none, none, none]) 10 10
    [some (scriptD ns), some (.int r), some odd, some spots, some two, none, none, none, none, none, none, none] ⟨_, rfl⟩ (fun i i1 i2 env ⟨a5, he⟩ => by
      subst he
      exact ⟨_, _, rfl, one_turn (scriptD ns) odd spots two r h1 (by omega) om sm (i : Int) (by omega) (by omega) none none none none none none, ⟨_, rfl⟩⟩)
  subst he
  have rg : rangeL 10 20 = (List.range' 10 10).map fun i : Nat => .int (i : Int) := by rfl
  rw [← rg] at w1
  -- the second
  have ne1 : neD (.str (wordX .ring)) (.str "ring") = .ok (.bool false) := neS_same "ring"
  have ne2 : neD (.str (wordX .places)) (.str "places") = .ok (.bool false) := neS_same "places"
  have ne3 : neD (.str (wordX .bag)) (.str "bag") = .ok (.bool false) := neS_same "bag"
  have c20 := f_caught (.int 20) two odd (.tuple [.none, .int 9]) .ring (by decide) (by rw [asked_far 20 (by decide), placed_20]; exact fullest_exc _ _ (short_ring _ _ o1))
  have c21 := f_caught (.int 21) two odd (.tuple [.none, .int 9]) .ring (by decide) (by rw [asked_far 21 (by decide), placed_21]; exact widest_exc _ _ (short_ring _ _ o1))
  have c22 := f_caught (.int 22) two odd (.tuple [.none, .int 9]) .ring (by decide) (by rw [asked_far 22 (by decide), placed_22]; exact shapes_exc _ _ _ _ (small_ring _ _ _ o1))
  have w2 : ∃ b5, loopL (gName 5) L_law_2 [.int 20, .int 21, .int 22] [some (scriptD ns), some (.int r), some odd, some spots, some two, a5, none, none, none, none, none, none] = .nx [some (scriptD ns), some (.int r), some odd, some spots, some two, b5, none, none, none, none, none, none] := by
    refine ⟨some (.int 22), ?_⟩
    generalize scriptD ns = sc
    simp [loopL, L_law_2, small6, c20, c21, c22, ne1]
  obtain ⟨b5, w2⟩ := w2
  -- the third
  obtain ⟨env3, w3, a6, he⟩ := loop_inv (g := gName 6) (body := L_law_3) id (fun env => ∃ a6, env = [some (scriptD ns), some (.int r), some odd, some spots, some two, b5, a6, none, none, none, none, none]) (rowsD r)
    [some (scriptD ns), some (.int r), some odd, some spots, some two, b5, none, none, none, none, none, none] ⟨_, rfl⟩ (fun d hd env ⟨a6, he⟩ => by
      subst he
      have c := f_caught (.int 19) two (.int r) d .places (by decide) (by rw [asked_far 19 (by decide), placed_19]; exact rows_bad r h1 (by omega) d hd)
      refine ⟨_, [some (scriptD ns), some (.int r), some odd, some spots, some two, b5, some d, none, none, none, none, none], rfl, ?_, ⟨_, rfl⟩⟩
      generalize scriptD ns = sc
      simp [L_law_3, c, ne2])
  subst he
  rw [List.map_id] at w3
  unfold rowsD at w3
  rw [show (0 : Int) - r = -r by omega] at w3
  -- too many
  have k1 := f_caught (.int 20) two (.int f) .none .many (by decide) (by rw [asked_far 20 (by decide), placed_20]; exact fullest_exc _ _ (short_many f f1 f2))
  have k2 := f_caught (.int 21) two (.int f) .none .many (by decide) (by rw [asked_far 21 (by decide), placed_21]; exact widest_exc _ _ (short_many f f1 f2))
  have k3 := f_caught (.int 22) two (.int g) (.tuple [.none, .int 1]) .many (by decide) (by rw [asked_far 22 (by decide), placed_22]; exact shapes_exc _ _ _ _ (small_many _ g (by omega) g2 rfl (.inr (by omega))))
  have k4 : ∀ m : D, plainD m = true → outI 1 5 m = true → F__law_deed_caught [.int 22, two, .int r, .tuple [.none, m]] = .ok (.str (wordX .many)) := fun m hp ho => f_caught _ _ _ _ .many (by decide) (by rw [asked_far 22 (by decide), placed_22]; exact shapes_exc _ _ _ _ (small_many m r h1 (by omega) hp (.inl ho)))
  have ka := k4 (.int 0) rfl rfl
  have kb := k4 (.int 6) rfl rfl
  have kc := k4 .none rfl rfl
  have kd := k4 (.bool true) rfl rfl
  have tw1 : F_twins [.tuple [.int 0], .int g] = .exc .many := by
    have a : F_look_places [.tuple [.int 0], .int g] = .ok .none := f_look_places g [0] (by omega) g2 (by decide) (by decide) (fun x hx => by rw [List.mem_singleton.mp hx]; omega)
    have b := small_many (.int 1) g (by omega) g2 rfl (.inr (by omega))
    simp [F_twins, Rt.run, B_twins, a, b]
  have tw2 : F_twins [.tuple [.int 0, .int 0, .int 0, .int 0, .int 0, .int 0], .int r] = .exc .many := by
    have a : F_look_places [.tuple [.int 0, .int 0, .int 0, .int 0, .int 0, .int 0], .int r] = .ok .none := f_look_places r [0, 0, 0, 0, 0, 0] h1 (by omega) (by decide) (by decide) (fun x hx => by
      simp only [List.mem_cons, List.mem_nil_iff, or_false, or_self] at hx
      omega)
    have b := small_many (.int 6) r h1 (by omega) rfl (.inl rfl)
    simp [F_twins, Rt.run, B_twins, a, b]
  have k5 := f_caught (.int 12) two (.int g) (.tuple [.int 0]) .many (by decide) (by rw [asked_far 12 (by decide), placed_12]; exact tw1)
  have k6 := f_caught (.int 12) two (.int r) (.tuple [.int 0, .int 0, .int 0, .int 0, .int 0, .int 0]) .many (by decide) (by rw [asked_far 12 (by decide), placed_12]; exact tw2)
  have mu7 : mulD (.tuple [.int 0]) (.int 7) = .ok (.tuple [.int 0, .int 0, .int 0, .int 0, .int 0, .int 0, .int 0]) := rfl
  have ml7 : mulD (.list [.int 0]) (.int 7) = .ok (.list [.int 0, .int 0, .int 0, .int 0, .int 0, .int 0, .int 0]) := by kernel_rfl
  have mu6 : mulD (.tuple [.int 0]) (.int 6) = .ok (.tuple [.int 0, .int 0, .int 0, .int 0, .int 0, .int 0]) := rfl
  have ml9 : mulD (.list [.str "many"]) (.int 9) = .ok (.list [.str "many", .str "many", .str "many", .str "many", .str "many", .str "many", .str "many", .str "many", .str "many"]) := by kernel_rfl
  have neM : neD (.list [.str "many", .str "many", .str "many", .str "many", .str "many", .str "many", .str "many", .str "many", .str "many"]) (.list [.str "many", .str "many", .str "many", .str "many", .str "many", .str "many", .str "many", .str "many", .str "many"]) = .ok (.bool false) := ne_same (k := 1) (Sh.list fun x hx => by
    simp only [List.mem_cons, List.mem_nil_iff, or_false, or_self] at hx
    rw [hx]
    exact Sh.str "many")
  have wm : wordX .many = "many" := rfl
  rw [wm] at k1 k2 k3 ka kb kc kd k5 k6
  -- bags
  have cb : ∀ e8 e10, compL (gName 11) (tVal (eOp2 neD (eCall F__law_deed_caught (aCons (eC (.int 22)) (aCons (eVar 4) (aCons (eVar 1) (aCons (eVar 11) aNil))))) (eC (.str "bag")))) (eVar 11) [some (scriptD ns), some (.int r), some odd, some spots, some two, b5, a6, some (.int f), e8, some (.list bagsD), e10, none] bagsD = .ok [] := fun e8 e10 => by
    have := comp_filter (g := gName 11) (t := tVal (eOp2 neD (eCall F__law_deed_caught (aCons (eC (.int 22)) (aCons (eVar 4) (aCons (eVar 1) (aCons (eVar 11) aNil))))) (eC (.str "bag")))) (e := eVar 11) (env := [some (scriptD ns), some (.int r), some odd, some spots, some two, b5, a6, some (.int f), e8, some (.list bagsD), e10, none]) id id (fun _ => false) bagsD fun x hx => ⟨_, rfl, by
      have c := f_caught (.int 22) two (.int r) x .bag (by decide) (by rw [asked_far 22 (by decide)]; exact bags_all r h1 h2 x hx)
      simp [c, ne3], fun z => by cases z⟩
    rw [List.map_id, show (bagsD.filter fun _ => false) = [] from rfl, List.map_nil] at this
    exact this
  have ap3 : appendD [.str "many", .str "many"] (.str "many") = .ok [.str "many", .str "many", .str "many"] := by kernel_rfl
  have adA : addD (.list [.str "many", .str "many", .str "many"]) (.list [.str "many", .str "many", .str "many", .str "many"]) = .ok (.list [.str "many", .str "many", .str "many", .str "many", .str "many", .str "many", .str "many"]) := by kernel_rfl
  have adB : addD (.list [.str "many", .str "many", .str "many", .str "many", .str "many", .str "many", .str "many"]) (.list [.str "many", .str "many"]) = .ok (.list [.str "many", .str "many", .str "many", .str "many", .str "many", .str "many", .str "many", .str "many", .str "many"]) := by kernel_rfl
  have ee : eqD (.list []) (.list []) = .ok (.bool true) := eq_ints_nil []
  have fc0 := f_cell ns 0 (by decide)
  have fc1 := f_cell ns 1 (by decide)
  have fc2 := f_cell ns 2 (by decide)
  have fc3 := f_cell ns 3 (by decide)
  have cb := cb (some (.list [.str "many", .str "many", .str "many", .str "many", .str "many", .str "many", .str "many", .str "many", .str "many"])) none
  unfold bagsD at cb
  generalize scriptD ns = sc at *
  have cs : compL (gName 10) tYes (eCall F__law_deed_caught (aCons (eC (.int 22)) (aCons (eVar 4) (aCons (eVar 1) (aCons (eTup (aCons (eC .none) (aCons (eVar 10) aNil))) aNil))))) [some sc, some (.int r), some odd, some spots, some two, b5, a6, some (.int f), some (.list [.str "many", .str "many", .str "many"]), none, none, none] [.int 0, .int 6, .none, .bool true] = .ok [.str "many", .str "many", .str "many", .str "many"] := by
    simp [compL, ka, kb, kc, kd, small6]
  simp [F_law, Rt.run, B_law, fc0, f_seed, hs, fdivD_int, modD_int, hr, small6, fc1, ox, fc2, mu7, sx, ← ht, w1, w2, ml7, w3, fc3, hs2, hf, k1, k2, hg, k3, ap3, eComp_ap, wipeE, cs, adA, adB, k5, mu6, k6, ml9, neM, cb, ee]
end G
open PySem PySem.W PySem.Calls PyProof.Rows
set_option maxHeartbeats 0 in
theorem PySem.Challenge.cw_ringtable_k32_rings_refused_holds : PySem.Challenge.rw_ringtable_k32_rings_refused.Holds := by
  w_on; o_law
  refine HandSHeadRun.head_any (r := (OpenLaw.row PySem.Challenge.rw_ringtable_k32_rings_refused)) (q := view (OpenLaw.row PySem.Challenge.rw_ringtable_k32_rings_refused).prog [98]) (H := G.hk) (ob := G.ob) (M := 20000) (loose := G.loose) (d := HandSHeadRun.topDef (OpenLaw.row PySem.Challenge.rw_ringtable_k32_rings_refused).prog 98) (kwd := []) G.ob_eq
    (by kernel_rfl) (fun s => by kernel_rfl) G.run (by kernel_rfl) (by kernel_rfl) (by kernel_rfl) (by rfl) (by first | assumption | decide +kernel) (by decide +kernel) ⟨rfl, rfl, rfl, rfl, rfl, by decide +kernel⟩ ?hw ?hc
  case hw => w_witness2
  case hc =>
    refine Rt.walk_sim (l := PySem.Challenge.rw_ringtable_k32_rings_refused) (k := 17) (f := G.F_law) rfl (by kernel_rfl) ⟨rfl, by decide, by decide⟩ (by kernel_rfl) (fun w mg h Y G1 => ?_) G.law_true
    obtain ⟨K, KX, c⟩ := Y
    exact ⟨K, KX, G.ok_law (G.tx_of KX G1 c)⟩
