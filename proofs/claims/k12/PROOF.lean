import PyProof.Rows.All
import Wide.All
import OpenK.AllK
import Wide.FinOn
import HandS.ForMost
import HandS.TupAny
import HandS.Zip
import KE.KeyNested
import HandS.SetKeys
import HandS.Lambda
import HandS.Deep
import HandS.IsInst
import HandS.Wide
import HandS.Strs
import HandS.DictComp
import KE.GoesEnum
import KE.GoesMore
import KE.GoesZip
import HandS.Walk
import HandS.Defaults
import HandS.Ends
import HandS.TupMul
import HandS.SortKw
import KE.DataMinMax
import ObjForm.LawKit
import HandS.Words
import HandS.Conv
import HandS.SetFor
import PyProof.ReprRoads
import PyProof.SeqIndex
import PyProof.Rows.SetFrom
import HandS.Style
import HandS.TupLe
import HandS.Text
import HandS.RaiseMore
import PyProof.RowDictHeap
import PyProof.Rows.Top
import PyProof.NeData
import HandS.ExcInit
import HandS.FStr
import HandS.ExcField
import HandS.WordsExc
import HandS.TryOnly
import HandS.ExcIs
import KE.KExcIs
import HandS.EndTab
import HandS.Iter
import HandS.MakeKwOnly
import HandS.Small
import PyProof.Rows.Walk
import PySem.Challenge.RW_stackgoals_k12_exceptions_made_by_hand
set_option Elab.async false
set_option linter.all false
set_option maxRecDepth 100000
set_option maxHeartbeats 4000000
namespace Sg
open PySem
/-- values: tuples are trees; what changes (lists, dicts) is a number into the store -/
inductive PV where
  | non | bl (b : Bool) | int (i : Int) | str (s : Str) | tup (xs : List PV) | fro (xs : List PV) | ref (n : Nat) | ty (s : String) | glb (x : Str)
  deriving Inhabited
mutual
def PV.beq : PV → PV → Bool
  | .non, .non => true
  | .bl a, .bl b => a == b
  | .int a, .int b => a == b
  | .str a, .str b => a == b
  | .tup a, .tup b => PV.beqs a b
  | .fro a, .fro b => PV.beqs a b
  | .ref a, .ref b => a == b
  | .ty a, .ty b => a == b
  | .glb a, .glb b => a == b
  | _, _ => false
def PV.beqs : List PV → List PV → Bool
  | [], [] => true
  | a :: as, b :: bs => PV.beq a b && PV.beqs as bs
  | _, _ => false
end
mutual
theorem PV.beq_of : ∀ (a b : PV), PV.beq a b = true → a = b
  | .non, b, h => by cases b <;> simp_all [PV.beq]
  | .bl _, b, h => by cases b <;> simp_all [PV.beq]
  | .int _, b, h => by cases b <;> simp_all [PV.beq]
  | .str _, b, h => by cases b <;> simp_all [PV.beq]
  | .ref _, b, h => by cases b <;> simp_all [PV.beq]
  | .ty _, b, h => by cases b <;> simp_all [PV.beq]
  | .glb _, b, h => by cases b <;> simp_all [PV.beq]
  | .tup xs, b, h => by
    cases b with
    | tup ys => simp only [PV.beq] at h; rw [PV.beqs_of xs ys h]
    | _ => simp [PV.beq] at h
  | .fro xs, b, h => by
    cases b with
    | fro ys => simp only [PV.beq] at h; rw [PV.beqs_of xs ys h]
    | _ => simp [PV.beq] at h
theorem PV.beqs_of : ∀ (a b : List PV), PV.beqs a b = true → a = b
  | [], b, h => by cases b <;> simp_all [PV.beqs]
  | x :: xs, b, h => by
    cases b with
    | nil => simp [PV.beqs] at h
    | cons y ys =>
      simp only [PV.beqs, Bool.and_eq_true] at h
      rw [PV.beq_of x y h.1, PV.beqs_of xs ys h.2]
end
mutual
theorem PV.beq_self : ∀ (a : PV), PV.beq a a = true
  | .non | .bl _ | .int _ | .str _ | .ref _ | .ty _ | .glb _ => by simp [PV.beq]
  | .tup xs => by simp only [PV.beq]; exact PV.beqs_self xs
  | .fro xs => by simp only [PV.beq]; exact PV.beqs_self xs
theorem PV.beqs_self : ∀ (a : List PV), PV.beqs a a = true
  | [] => by simp [PV.beqs]
  | x :: xs => by simp only [PV.beqs, Bool.and_eq_true]; exact ⟨PV.beq_self x, PV.beqs_self xs⟩
end
instance : DecidableEq PV := fun a b => if h : PV.beq a b = true then isTrue (PV.beq_of a b h) else isFalse fun e => h (e ▸ PV.beq_self a)
/-- what stands in the store -/
inductive PO where
  | lst (xs : List PV) | dic (kvs : List (PV × PV)) | set (xs : List PV) | dead | dct (kvs : List (PV × PV)) | fdc (kvs : List (PV × PV)) | exn (c : Str) (v : PV) | tab (q : Str) | bex (c : Str)
  deriving DecidableEq
abbrev Store := List PO
/-- the pairs of a dict with tuples for keys, open or locked for good -/
def dctR (st : Store) (i : Nat) : Option (List (PV × PV)) := match st[i]? with
  | some (.dct kvs) => some kvs
  | some (.fdc kvs) => some kvs
  | _ => none
/-- an outcome: a value, an exception of the package (class, field, store), or no statement -/
inductive Res (α : Type) where
  | ok (a : α) | exc (c : Str) (v : PV) (st : Store) | stuck
def Res.bind {α β : Type} (r : Res α) (f : α → Res β) : Res β := match r with
  | .ok a => f a
  | .exc c v st => .exc c v st
  | .stuck => .stuck
instance : Monad Res := { pure := .ok, bind := Res.bind }
section
variable {α β γ : Type}
@[simp] theorem bind_ok (a : α) (f : α → Res β) : (Res.ok a >>= f) = f a := rfl
@[simp] theorem bind_stuck (f : α → Res β) : ((Res.stuck : Res α) >>= f) = .stuck := rfl
@[simp] theorem bind_exc (c v st) (f : α → Res β) : ((Res.exc c v st : Res α) >>= f) = .exc c v st := rfl
@[simp] theorem pure_ok (a : α) : (pure a : Res α) = .ok a := rfl
theorem bind_assoc' (r : Res α) (f : α → Res β) (g : β → Res γ) : ((r >>= f) >>= g) = r >>= fun a => f a >>= g := by cases r <;> rfl
end
/-- k v, the number in v worked out ahead (for the kernel) -/
def force {β : Type} (v : PV) (k : PV → β) : β := match v with
  | .int (.ofNat n) => Nat.rec (motive := fun _ => β) (k (.int (.ofNat 0))) (fun m _ => k (.int (.ofNat (m + 1)))) n
  | .int (.negSucc n) => Nat.rec (motive := fun _ => β) (k (.int (.negSucc 0))) (fun m _ => k (.int (.negSucc (m + 1)))) n
  | .bl true => k (.bl true)
  | .bl false => k (.bl false)
  | v => k v
@[simp] theorem force_eq {β : Type} (v : PV) (k : PV → β) : force v k = k v := by
  unfold force
  split
  · rename_i n; cases n <;> rfl
  · rename_i n; cases n <;> rfl
  · rfl
  · rfl
  · rfl
abbrev Slots := List (Option PV)
abbrev EvE := Slots → Store → Res (PV × Store)
abbrev EvA := Slots → Store → Res (List PV × Store)
abbrev EvT := Slots → Store → Res (Bool × Store)
inductive Fl where
  | nx | bk | ct | rt (v : PV)
abbrev EvS := Slots → Store → Res (Fl × Slots × Store)
/-- what is walked: the items, and the lists that must stay as they are -/
abbrev Gd := List (Nat × PO)
abbrev EvI := Slots → Store → Res ((List PV × Gd) × Store)
/-- the largest length of a list, tuple or text -/
abbrev LINE : Nat := 16777216
mutual
def refsLt (n : Nat) : PV → Bool
  | .ref i => decide (i < n)
  | .tup xs => refsLts n xs
  | .fro xs => refsLts n xs
  | _ => true
def refsLts (n : Nat) : List PV → Bool
  | [] => true
  | x :: xs => refsLt n x && refsLts n xs
end
def objLt (n : Nat) : PO → Bool
  | .lst xs => refsLts n xs
  | .dic kvs => refsLts n (kvs.map (·.1)) && refsLts n (kvs.map (·.2))
  | .set xs => refsLts n xs
  | .dead => true
  | .dct kvs => refsLts n (kvs.map (·.1)) && refsLts n (kvs.map (·.2))
  | .fdc kvs => refsLts n (kvs.map (·.1)) && refsLts n (kvs.map (·.2))
  | .exn _ v => refsLt n v
  | .tab _ => true
  | .bex _ => true
/-- the old objects are as they were or speak of old ones alone -/
def oldOk (n : Nat) : Store → Store → Bool
  | [], _ => true
  | _ :: _, [] => false
  | o :: r, p :: q => (objLt n p || decide (p = o)) && oldOk n r q
/-- forget new objects that nothing old and not the value speaks of -/
def gc (st : Store) (r : PV × Store) : PV × Store :=
  if r.2.length = st.length then r
  else if oldOk st.length st r.2 then
    if refsLt st.length r.1 then (r.1, r.2.take st.length)
    else match r.1 with
      | .ref i => match r.2[i]? with
        | some o => if objLt st.length o then (.ref st.length, r.2.take st.length ++ [o]) else r
        | none => r
      | _ => r
  else r
def gcR (st : Store) : Res (PV × Store) → Res (PV × Store)
  | .ok r => .ok (gc st r)
  | .exc c v s => .exc c v s
  | .stuck => .stuck
@[simp] theorem gcR_ok (st : Store) (r : PV × Store) : gcR st (.ok r) = .ok (gc st r) := rfl
def eVar (i : Nat) : EvE := fun σ st => match σ[i]? with
  | some (some v) => .ok (v, st)
  | _ => .stuck
def eC (v : PV) : EvE := fun _ st => .ok (v, st)
abbrev Op2 := PV → PV → Store → Res (PV × Store)
def eBin (f : Op2) (a b : EvE) : EvE := fun σ st => a σ st >>= fun x => b σ x.2 >>= fun y => f x.1 y.1 y.2
/-- .. whose value is scalar: what the sides made is forgotten -/
def eBinG (f : Op2) (a b : EvE) : EvE := fun σ st => gcR st (eBin f a b σ st)
def eUn (f : PV → Store → Res (PV × Store)) (a : EvE) : EvE := fun σ st => a σ st >>= fun x => f x.1 x.2
def aNil : EvA := fun _ st => .ok ([], st)
def aCons (a : EvE) (r : EvA) : EvA := fun σ st => a σ st >>= fun x => force x.1 fun v => r σ x.2 >>= fun xs => .ok (v :: xs.1, xs.2)
theorem aCons_eq (a : EvE) (r : EvA) (σ : Slots) (st : Store) : aCons a r σ st = (a σ st >>= fun x => r σ x.2 >>= fun xs => .ok (x.1 :: xs.1, xs.2)) := by simp [aCons]
/-- a call of what is given as a function of the values -/
abbrev Fn := List PV → Store → Res (PV × Store)
def eCall (f : Fn) (a : EvA) : EvE := fun σ st => gcR st (a σ st >>= fun xs => f xs.1 xs.2)
def eTup (a : EvA) : EvE := fun σ st => a σ st >>= fun xs => if xs.1.length ≤ LINE then .ok (.tup xs.1, xs.2) else .stuck
def eLst (a : EvA) : EvE := fun σ st => a σ st >>= fun xs => if xs.1.length ≤ LINE then .ok (.ref xs.2.length, xs.2 ++ [.lst xs.1]) else .stuck
def eIf (t : EvT) (a b : EvE) : EvE := fun σ st => t σ st >>= fun c => if c.1 then a σ c.2 else b σ c.2
/-- a value that is a bool, as a test -/
def tVal (a : EvE) : EvT := fun σ st => a σ st >>= fun x => match x.1 with
  | .bl b => .ok (b, x.2)
  | _ => .stuck
def tNot (a : EvT) : EvT := fun σ st => a σ st >>= fun c => .ok (!c.1, c.2)
def tOr (a b : EvT) : EvT := fun σ st => a σ st >>= fun c => if c.1 then .ok (true, c.2) else b σ c.2
def sSeq (a b : EvS) : EvS := fun σ st => a σ st >>= fun r => match r.1 with
  | .nx => b r.2.1 r.2.2
  | f => .ok (f, r.2.1, r.2.2)
def sNil : EvS := fun σ st => .ok (.nx, σ, st)
def sRet (a : EvE) : EvS := fun σ st => a σ st >>= fun x => .ok (.rt x.1, σ, x.2)
def sIf (t : EvT) (a b : EvS) : EvS := fun σ st => t σ st >>= fun c => if c.1 then a σ c.2 else b σ c.2
/-- a target: a slot, or a tuple of targets -/
inductive Tg where
  | nm (i : Nat) | tp (ts : List Tg)
mutual
def Tg.put : Tg → PV → Slots → Option Slots
  | .nm i, p, σ => some (σ.set i (some p))
  | .tp ts, .tup xs, σ => Tg.puts ts xs σ
  | .tp _, _, _ => none
def Tg.puts : List Tg → List PV → Slots → Option Slots
  | [], [], σ => some σ
  | t :: ts, x :: xs, σ => match Tg.put t x σ with
    | some σ' => Tg.puts ts xs σ'
    | none => none
  | _, _, _ => none
end
mutual
def Tg.own : Tg → List Nat
  | .nm i => [i]
  | .tp ts => Tg.owns ts
def Tg.owns : List Tg → List Nat
  | [] => []
  | t :: ts => Tg.own t ++ Tg.owns ts
end
def gPut (g : Tg) (p : PV) (σ : Slots) : Res Slots := force p fun p => match Tg.put g p σ with
  | some σ' => .ok σ'
  | none => .stuck
theorem gPut_eq (g : Tg) (p : PV) (σ : Slots) : gPut g p σ = match Tg.put g p σ with
  | some σ' => .ok σ'
  | none => .stuck := force_eq ..
def sAsg (a : EvE) (g : Tg) : EvS := fun σ st => a σ st >>= fun x => gPut g x.1 σ >>= fun r => .ok (.nx, r, x.2)
def gdOk (gs : Gd) (st : Store) : Bool := gs.all fun g => decide (st[g.1]? = some g.2)
@[simp] theorem gdOk_nil (st : Store) : gdOk [] st = true := rfl
def forLoop (g : Tg) (b : EvS) (gs : Gd) : List PV → Slots → Store → Res (Fl × Slots × Store)
  | [], σ, st => if gdOk gs st then .ok (.nx, σ, st) else .stuck
  | x :: xs, σ, st => if gdOk gs st then gPut g x σ >>= fun r => b r st >>= fun q => match q.1 with
      | .nx => forLoop g b gs xs q.2.1 q.2.2
      | .ct => forLoop g b gs xs q.2.1 q.2.2
      | .bk => .ok (.nx, q.2.1, q.2.2)
      | .rt v => .ok (.rt v, q.2.1, q.2.2)
    else .stuck
def sFor (it : EvI) (g : Tg) (b : EvS) : EvS := fun σ st => it σ st >>= fun r => forLoop g b r.1.2 r.1.1 σ r.2
def wipeP (σ : Slots) : List Nat → Slots
  | [] => σ
  | v :: vs => (wipeP σ vs).set v none
def tYes : EvT := fun _ st => .ok (true, st)
def lcLoop (g : Tg) (t : EvT) (e : EvE) (σ : Slots) (gs : Gd) : List PV → List PV → Store → Res (List PV × Store)
  | [], acc, st => if gdOk gs st then .ok (acc, st) else .stuck
  | x :: xs, acc, st => if gdOk gs st then gPut g x σ >>= fun r => t r st >>= fun c =>
      if c.1 then e r c.2 >>= fun y => force y.1 fun v => if acc.length < LINE then lcLoop g t e σ gs xs (acc ++ [v]) y.2 else .stuck
      else lcLoop g t e σ gs xs acc c.2
    else .stuck
def eLc (it : EvI) (g : Tg) (t : EvT) (e : EvE) (vs : List Nat) : EvE := fun σ st => it σ st >>= fun r =>
  lcLoop g t e (wipeP σ vs) r.1.2 r.1.1 [] r.2 >>= fun q => .ok (.ref q.2.length, q.2 ++ [.lst q.1])
def chars (s : Str) : List PV := s.cps.toList.map fun c => .str ⟨#[c]⟩
/-- the items of a value -/
def itemsOf (v : PV) (st : Store) : Res (List PV × Gd) := match v with
  | .tup xs => .ok (xs, [])
  | .fro xs => .ok (xs, [])
  | .str s => .ok (chars s, [])
  | .ref i => match st[i]? with
    | some (.lst xs) => .ok (xs, [(i, .lst xs)])
    | _ => .stuck
  | _ => .stuck
def iSeq (a : EvE) : EvI := fun σ st => a σ st >>= fun x => itemsOf x.1 x.2 >>= fun r => .ok (r, x.2)
def enumP : Nat → List PV → List PV
  | _, [] => []
  | i, x :: r => .tup [.int i, x] :: enumP (i + 1) r
def iEnum (a : EvE) : EvI := fun σ st => a σ st >>= fun x => match x.1 with
  | .str _ => .stuck
  | v => itemsOf v x.2 >>= fun r => .ok ((enumP 0 r.1, r.2), x.2)
def zipP : List PV → List PV → List PV
  | x :: xs, y :: ys => .tup [x, y] :: zipP xs ys
  | _, _ => []
def small62 (i : Int) : Bool := decide (-4611686018427387904 ≤ i) && decide (i < 4611686018427387904)
theorem small62_iff {i : Int} : small62 i = true ↔ (-(2 ^ 62) ≤ i ∧ i < 2 ^ 62) := by
  unfold small62
  simp only [Bool.and_eq_true, decide_eq_true_eq]
  omega
def rngI (lo : Int) (n : Nat) : List PV := (List.range n).map fun i => .int (lo + (i : Nat))
def iRng1 (a : EvE) : EvI := fun σ st => a σ st >>= fun x => match x.1 with
  | .int j => if small62 j then .ok ((rngI 0 j.toNat, []), x.2) else .stuck
  | _ => .stuck
/-- {k: v for ..} -/
def keyOk : PV → Bool
  | .int _ => true
  | .str _ => true
  | _ => false
def dictPut (kvs : List (PV × PV)) (k v : PV) : List (PV × PV) :=
  if (kvs.any fun q => decide (q.1 = k)) = true then kvs.map (fun q => if q.1 = k then (q.1, v) else q) else kvs ++ [(k, v)]
def eDic0 : EvE := fun _ st => .ok (.ref st.length, st ++ [.dic []])
/-- {k: v, ..} -/
abbrev EvP := Slots → Store → Res (List (PV × PV) × Store)
def pNil : EvP := fun _ st => .ok ([], st)
def pCons (k v : EvE) (r : EvP) : EvP := fun σ st => k σ st >>= fun x => v σ x.2 >>= fun y => r σ y.2 >>= fun ps => .ok ((x.1, y.1) :: ps.1, ps.2)
def eDisp (p : EvP) : EvE := fun σ st => p σ st >>= fun ps => if (ps.1.all fun q => keyOk q.1) && decide (ps.1.length ≤ 15) then
  .ok (.ref ps.2.length, ps.2 ++ [.dic (ps.1.foldl (fun acc q => dictPut acc q.1 q.2) [])]) else .stuck
def opAdd : Op2 := fun x y st => match x, y with
  | .int i, .int j => .ok (.int (i + j), st)
  | .str i, .str j => if i.length + j.length ≤ LINE then .ok (.str (i ++ j), st) else .stuck
  | .tup i, .tup j => if i.length + j.length ≤ LINE then .ok (.tup (i ++ j), st) else .stuck
  | .ref i, .ref j => match st[i]?, st[j]? with
    | some (.lst a), some (.lst b) => if a.length + b.length ≤ LINE then .ok (.ref st.length, st ++ [.lst (a ++ b)]) else .stuck
    | _, _ => .stuck
  | _, _ => .stuck
def mulOk (i j : Int) : Bool := decide (i.natAbs.log2 + j.natAbs.log2 < 1000000)
def opMul : Op2 := fun x y st => match x, y with
  | .int i, .int j => if mulOk i j then .ok (.int (i * j), st) else .stuck
  | _, _ => .stuck
def opFdiv : Op2 := fun x y st => match x, y with
  | .int i, .int j => if 0 < j ∧ j.natAbs.log2 < 9000 then .ok (.int (i / j), st) else .stuck
  | _, _ => .stuck
def opMod : Op2 := fun x y st => match x, y with
  | .int i, .int j => if 0 < j then .ok (.int (i % j), st) else .stuck
  | _, _ => .stuck
def opLt : Op2 := fun x y st => match x, y with
  | .int i, .int j => .ok (.bl (decide (i < j)), st)
  | .str i, .str j => .ok (.bl (decide (i.cps.toList < j.cps.toList)), st)
  | _, _ => .stuck
def opGt : Op2 := fun x y st => match x, y with
  | .int i, .int j => .ok (.bl (decide (j < i)), st)
  | _, _ => .stuck
def opGe : Op2 := fun x y st => match x, y with
  | .int i, .int j => .ok (.bl (decide (j ≤ i)), st)
  | _, _ => .stuck
def unNeg (x : PV) (st : Store) : Res (PV × Store) := match x with
  | .int i => .ok (.int (-i), st)
  | _ => .stuck
end Sg
set_option Elab.async false
set_option linter.all false
set_option maxRecDepth 100000
set_option maxHeartbeats 4000000
namespace Sg
open PySem PySem.Spec PyProof.Rows L2
/-- a list that is only read -/
def SqF (K : PySem.W.Frag) (H : Hp) (a : Addr) (xs : List V) : Prop :=
  (∃ o, H a = some (.frz o (.lst xs))) ∨ (∃ (o : Obj) (its : Array Value) (n : Nat), K.lookup a = some o ∧ o.cls = .type "list" ∧
    o.dict = none ∧ o.data = .seq its n ∧ its.size ≤ sizeLine ∧ Vals xs its.toList)
theorem SqF.sq {K : PySem.W.Frag} {H : Hp} {a : Addr} {xs : List V} (h : SqF K H a xs) : SqL K H a xs := by
  rcases h with h | h
  · exact Or.inl (Or.inr h)
  · exact Or.inr h
/-- a tuple whose very object is known to have no dict of its own -/
def SqU (K : PySem.W.Frag) (H : Hp) (a : Addr) (xs : List V) : Prop :=
  (∃ o, H a = some (.frz o (.tup xs)) ∧ o.cls = .type "tuple" ∧ o.dict = none) ∨ (∃ (o : Obj) (its : Array Value) (n : Nat), K.lookup a = some o ∧
    o.cls = .type "tuple" ∧ o.dict = none ∧ o.data = .seq its n ∧ its.size ≤ sizeLine ∧ Vals xs its.toList)
theorem SqU.sq {K : PySem.W.Frag} {H : Hp} {a : Addr} {xs : List V} (h : SqU K H a xs) : SqT K H a xs := by
  rcases h with ⟨o, h, _⟩ | ⟨o, its, n, h1, h2, _, h4⟩
  · exact Or.inl (Or.inr ⟨o, h⟩)
  · exact Or.inr ⟨o, its, n, h1, h2, h4⟩
/-- the object of a new tuple -/
abbrev tupObj (its : List Value) : Obj := { cls := .type "tuple", data := .seq its.toArray }
/-- what never changes -/
def Imu : HO → Prop
  | .tup _ => True
  | .frz _ _ => True
  | .xd _ => True
  | .ext f => ∃ c q, HO.ext f = LamX.CodeO c q
  | _ => False
theorem codeO_imu (c : Addr) (q : Str) : Imu (LamX.CodeO c q) := ⟨c, q, rfl⟩
/-- keys: tuples of ints, texts, None and such tuples -/
abbrev NK := PySem.NestedKey
mutual
def nkP : PV → NK
  | .int i => .num i
  | .str x => .text x
  | .tup xs => .tup (nkPs xs)
  | _ => .none
def nkPs : List PV → List NK
  | [] => []
  | x :: xs => nkP x :: nkPs xs
end
mutual
def nkOk : PV → Bool
  | .non => true
  | .int _ => true
  | .str _ => true
  | .tup xs => nkOks xs
  | _ => false
def nkOks : List PV → Bool
  | [] => true
  | x :: xs => nkOk x && nkOks xs
end
def tkOk : PV → Bool
  | .tup xs => nkOks xs && decide ((nkP (.tup xs)).depth ≤ 8)
  | _ => false
mutual
theorem nk_refs {n : Nat} : ∀ {p : PV}, nkOk p = true → refsLt n p = true
  | .non, _ => by simp [refsLt]
  | .int _, _ => by simp [refsLt]
  | .str _, _ => by simp [refsLt]
  | .tup xs, h => by
    simp only [nkOk] at h
    simp only [refsLt]
    exact nks_refs h
  | .bl _, h => by simp [nkOk] at h
  | .ty _, h => by simp [nkOk] at h
  | .fro _, h => by simp [nkOk] at h
  | .ref _, h => by simp [nkOk] at h
  | .glb _, h => by simp [nkOk] at h
theorem nks_refs {n : Nat} : ∀ {ps : List PV}, nkOks ps = true → refsLts n ps = true
  | [], _ => by simp [refsLts]
  | x :: xs, h => by
    simp only [nkOks, Bool.and_eq_true] at h
    simp only [refsLts, Bool.and_eq_true]
    exact ⟨nk_refs h.1, nks_refs h.2⟩
end
theorem tk_refs {n : Nat} {p : PV} (h : tkOk p = true) : refsLt n p = true := by
  cases p with
  | tup xs =>
    simp only [tkOk, Bool.and_eq_true] at h
    exact nk_refs (p := .tup xs) (by simp only [nkOk]; exact h.1)
  | _ => simp [tkOk] at h
/-- the object of a dict whose keys are tuples: its entries as they stand -/
def DX (P : Program) (w : World) (a : Addr) (es : List (NK × Addr × V)) : HO := .ext fun h => es.length ≤ sizeLine ∧ (a == sysModules) = false ∧
  ∃ us : List (NK × Addr × Value), Paired (fun e u => e.1 = u.1 ∧ e.2.1 = u.2.1 ∧ RelV e.2.2 u.2.2) es us ∧
    ∃ o ents ep, h.get? a = some o ∧ o.ExactDict ∧ o.data = .dict ents ep ∧ ents.toList = us.map (entryOfKey (nestedKind P w)) ∧ (us.map (·.1)).Nodup
/-- an exception that was caught: its class, its dict -/
def ExcO (C d a : Addr) : HO := .ext fun h => ∃ (oe : Obj) (vs : Array Value), h.get? a = some oe ∧ oe.cls = .ref C ∧ oe.dict = some d ∧ oe.data = .fields vs
/-- an exception without a dict -/
def ExcB (C a : Addr) : HO := .ext fun h => ∃ (oe : Obj) (vs : Array Value), h.get? a = some oe ∧ oe.cls = .ref C ∧ oe.dict = none ∧ oe.data = .fields vs
structure Wd where
  K : PySem.W.Frag
  mg : Str → Option Value
  P : Program
  w : World
section
variable (W : Wd)
mutual
inductive VR (ad : List Addr) (H : Hp) : PV → V → Prop
  | non : VR ad H .non .non
  | bl (b : Bool) : VR ad H (.bl b) (.bl b)
  | int (i : Int) : VR ad H (.int i) (.int i)
  | str (x : Str) : VR ad H (.str x) (.str x)
  | ty (n : String) : VR ad H (.ty n) (.ty n)
  | tup {xs : List PV} {a : Addr} {vs : List V} : SqU W.K H a vs → VRs ad H xs vs → VR ad H (.tup xs) (.ref a)
  | fro {xs : List PV} {a : Addr} {vs : List V} : SqF W.K H a vs → VRs ad H xs vs → VR ad H (.fro xs) (.ref a)
  | ref {i : Nat} {a : Addr} : ad[i]? = some a → VR ad H (.ref i) (.ref a)
  | glb {x : Str} {a : Addr} : W.mg x = some (.ref a) → VR ad H (.glb x) (.ref a)
inductive VRs (ad : List Addr) (H : Hp) : List PV → List V → Prop
  | nil : VRs ad H [] []
  | cons {p : PV} {v : V} {ps : List PV} {vs : List V} : VR ad H p v → VRs ad H ps vs → VRs ad H (p :: ps) (v :: vs)
end
def keyP : Key → PV
  | .inl i => .int i
  | .inr x => .str x
/-- a dict's pairs -/
inductive DR (ad : List Addr) (H : Hp) : List (PV × PV) → List (Key × V) → Prop
  | nil : DR ad H [] []
  | cons {k : Key} {p : PV} {v : V} {ps : List (PV × PV)} {vs : List (Key × V)} : VR W ad H p v → DR ad H ps vs → DR ad H ((keyP k, p) :: ps) ((k, v) :: vs)
/-- the pairs of a dict whose keys are tuples, with the places of the keys -/
inductive DT (ad : List Addr) (H : Hp) : List (PV × PV) → List (NK × Addr × V) → Prop
  | nil : DT ad H [] []
  | cons {kp : PV} {b : Addr} {p : PV} {v : V} {ps : List (PV × PV)} {vs : List (NK × Addr × V)} : tkOk kp = true → VR W ad H kp (.ref b) → VR W ad H p v → DT ad H ps vs → DT ad H ((kp, p) :: ps) ((nkP kp, b, v) :: vs)
/-- the table of code objects of the def x -/
def TabAt (x : Str) (a : Addr) : Prop := ∃ (f c : Addr) (oc e : Value) (od dd : Option Addr) (fd : FuncData) (vs : Array Value) (osl sl : Array (Option Value)), W.mg x = some (.ref f) ∧ W.K.lookup f = some ⟨oc, od, .func fd, osl⟩ ∧ fd.code = .ref c ∧ W.K.lookup c = some ⟨e, dd, .fields vs, sl⟩ ∧ vs[11]? = some (.ref a)
abbrev lamQ (x : Str) : Str := (x ++ ".<locals>.") ++ "<lambda>"
def OR (ad : List Addr) (H : Hp) (o : PO) (a : Addr) : Prop := match o with
  | .lst xs => ∃ vs, H a = some (.lst vs) ∧ VRs W ad H xs vs
  | .dic kvs => ∃ ws, H a = some (.dK ws) ∧ DR W ad H kvs ws
  | .set xs => ∃ (S : Key → Bool) (ks : List Key), H a = some (SetK W.P W.w a S xs.length) ∧ xs = ks.map keyP ∧ ks.Nodup ∧ ∀ k, S k = true ↔ k ∈ ks
  | .dead => ∃ u, H a = some u
  | .dct kvs => ∃ es, H a = some (DX W.P W.w a es) ∧ DT W ad H kvs es
  | .fdc kvs => ∃ es o, H a = some (.frz o (DX W.P W.w a es)) ∧ DT W ad H kvs es
  | .exn c p => ∃ C d v, W.mg c = some (.ref C) ∧ H a = some (ExcO C d a) ∧ H d = some (.xd [("value", v)]) ∧ VR W ad H p v
  | .tab x => LamX.TabS H a (lamQ x) ∧ TabAt W x a
  | .bex c => ∃ C, W.mg c = some (.ref C) ∧ H a = some (ExcB C a)
end
/-- the store and the heap went on -/
structure Ext (ad : List Addr) (H : Hp) (ad' : List Addr) (H' : Hp) : Prop where
  pre : ∃ t, ad' = ad ++ t
  frm : ∀ a o, H a = some o → a ∉ ad → H' a = some o
  new : ∀ a, a ∈ ad' → a ∉ ad → H a = none
  imm : ∀ a o, H a = some o → Imu o → H' a = some o
theorem Ext.refl (ad : List Addr) (H : Hp) : Ext ad H ad H := ⟨⟨[], by simp⟩, fun _ _ h _ => h, fun _ h n => absurd h n, fun _ _ h _ => h⟩
theorem Ext.trans {ad ad1 ad2 : List Addr} {H H1 H2 : Hp} (a : Ext ad H ad1 H1) (b : Ext ad1 H1 ad2 H2) : Ext ad H ad2 H2 := by
  obtain ⟨t, ht⟩ := a.pre
  obtain ⟨u, hu⟩ := b.pre
  refine ⟨⟨t ++ u, by rw [hu, ht, List.append_assoc]⟩, fun c o h n => ?_, fun c hc n => ?_, fun c o h i => b.imm c o (a.imm c o h i) i⟩
  · refine b.frm c o (a.frm c o h n) fun hm => ?_
    have := a.new c hm n
    rw [h] at this; cases this
  · by_cases hm : c ∈ ad1
    · exact a.new c hm n
    · have h1 := b.new c hc hm
      cases q : H c with
      | none => rfl
      | some o =>
        have := a.frm c o q n
        rw [h1] at this; cases this
theorem Ext.at {ad ad' : List Addr} {H H' : Hp} (e : Ext ad H ad' H') {i : Nat} {a : Addr} (h : ad[i]? = some a) : ad'[i]? = some a := by
  obtain ⟨t, ht⟩ := e.pre
  have hi : i < ad.length := (List.getElem?_eq_some_iff.mp h).1
  rw [ht, List.getElem?_append_left hi]; exact h
section
variable {W : Wd} {ad ad' : List Addr} {H H' : Hp} {st : Store}
theorem SqU.go (e : ∀ a o, H a = some o → Imu o → H' a = some o) {a : Addr} {vs : List V} (h : SqU W.K H a vs) : SqU W.K H' a vs := by
  rcases h with ⟨o, h, c⟩ | h
  · exact Or.inl ⟨o, e _ _ h trivial, c⟩
  · exact Or.inr h
theorem SqF.go (e : ∀ a o, H a = some o → Imu o → H' a = some o) {a : Addr} {vs : List V} (h : SqF W.K H a vs) : SqF W.K H' a vs := by
  rcases h with ⟨o, h⟩ | h
  · exact Or.inl ⟨o, e _ _ h trivial⟩
  · exact Or.inr h
mutual
theorem VR.go (e1 : ∀ (i : Nat) a, ad[i]? = some a → ad'[i]? = some a) (e2 : ∀ a o, H a = some o → Imu o → H' a = some o) : ∀ {p : PV} {v : V}, VR W ad H p v → VR W ad' H' p v
  | _, _, .non => .non
  | _, _, .bl b => .bl b
  | _, _, .int b => .int b
  | _, _, .str b => .str b
  | _, _, .ty b => .ty b
  | _, _, .tup h r => .tup (SqU.go e2 h) (VRs.go e1 e2 r)
  | _, _, .fro h r => .fro (SqF.go e2 h) (VRs.go e1 e2 r)
  | _, _, .ref h => .ref (e1 _ _ h)
  | _, _, .glb h => .glb h
theorem VRs.go (e1 : ∀ (i : Nat) a, ad[i]? = some a → ad'[i]? = some a) (e2 : ∀ a o, H a = some o → Imu o → H' a = some o) : ∀ {p : List PV} {v : List V}, VRs W ad H p v → VRs W ad' H' p v
  | _, _, .nil => .nil
  | _, _, .cons h r => .cons (VR.go e1 e2 h) (VRs.go e1 e2 r)
end
theorem VR.mono (e : Ext ad H ad' H') {p : PV} {v : V} (h : VR W ad H p v) : VR W ad' H' p v := VR.go (fun _ _ q => e.at q) e.imm h
theorem VRs.mono (e : Ext ad H ad' H') {p : List PV} {v : List V} (h : VRs W ad H p v) : VRs W ad' H' p v := VRs.go (fun _ _ q => e.at q) e.imm h
theorem DR.go (e1 : ∀ (i : Nat) a, ad[i]? = some a → ad'[i]? = some a) (e2 : ∀ a o, H a = some o → Imu o → H' a = some o) {p : List (PV × PV)} {v : List (Key × V)} (h : DR W ad H p v) : DR W ad' H' p v := by
  induction h with
  | nil => exact .nil
  | cons r _ ih => exact .cons (VR.go e1 e2 r) ih
theorem VRs.length : ∀ {p : List PV} {v : List V}, VRs W ad H p v → p.length = v.length
  | _, _, .nil => rfl
  | _, _, .cons _ r => by rw [List.length_cons, List.length_cons, VRs.length r]
theorem VRs.get : ∀ {p : List PV} {v : List V} {i : Nat} {x : PV}, VRs W ad H p v → p[i]? = some x → ∃ y, v[i]? = some y ∧ VR W ad H x y
  | _, _, _, _, .nil, h => by simp at h
  | _, _, 0, _, .cons r _, h => by
    simp only [List.getElem?_cons_zero, Option.some.injEq] at h
    subst h
    exact ⟨_, by simp, r⟩
  | _, _, i + 1, _, .cons _ r, h => by
    simp only [List.getElem?_cons_succ] at h
    obtain ⟨y, h1, h2⟩ := VRs.get r h
    exact ⟨y, by simpa using h1, h2⟩
theorem VRs.append : ∀ {p q : List PV} {v w : List V}, VRs W ad H p v → VRs W ad H q w → VRs W ad H (p ++ q) (v ++ w)
  | _, _, _, _, .nil, s => s
  | _, _, _, _, .cons r t, s => .cons r (VRs.append t s)
theorem VRs.take : ∀ {p : List PV} {v : List V} (n : Nat), VRs W ad H p v → VRs W ad H (p.take n) (v.take n)
  | _, _, 0, _ => .nil
  | _, _, _ + 1, .nil => .nil
  | _, _, n + 1, .cons r t => .cons r (VRs.take n t)
theorem VRs.drop : ∀ {p : List PV} {v : List V} (n : Nat), VRs W ad H p v → VRs W ad H (p.drop n) (v.drop n)
  | _, _, 0, r => r
  | _, _, _ + 1, .nil => .nil
  | _, _, n + 1, .cons _ t => VRs.drop n t
theorem VRs.set {x : PV} {y : V} (r : VR W ad H x y) : ∀ {p : List PV} {v : List V} (i : Nat), VRs W ad H p v → VRs W ad H (p.set i x) (v.set i y)
  | _, _, _, .nil => .nil
  | _, _, 0, .cons _ t => .cons r t
  | _, _, i + 1, .cons q t => .cons q (VRs.set r i t)
theorem VRs.reverse {p : List PV} {v : List V} (h : VRs W ad H p v) : VRs W ad H p.reverse v.reverse := by
  induction p generalizing v with
  | nil => cases h; exact .nil
  | cons x p ih =>
    cases h with
    | cons r t =>
      rw [List.reverse_cons, List.reverse_cons]
      exact (ih t).append (.cons r .nil)
theorem VRs.bls : ∀ {ns : List Bool} {v : List V}, VRs W ad H (ns.map PV.bl) v → v = ns.map V.bl
  | [], _, .nil => rfl
  | _ :: _, _, .cons (.bl _) r => by rw [VRs.bls r, List.map_cons]
mutual
theorem VR.lt : ∀ {p : PV} {v : V}, VR W ad H p v → refsLt ad.length p = true
  | _, _, .non => by simp [refsLt]
  | _, _, .bl _ => by simp [refsLt]
  | _, _, .int _ => by simp [refsLt]
  | _, _, .str _ => by simp [refsLt]
  | _, _, .ty _ => by simp [refsLt]
  | _, _, .glb _ => by simp [refsLt]
  | _, _, .tup _ r => by simp only [refsLt]; exact VRs.lt r
  | _, _, .fro _ r => by simp only [refsLt]; exact VRs.lt r
  | _, _, .ref h => by simp only [refsLt]; exact decide_eq_true (List.getElem?_eq_some_iff.mp h).1
theorem VRs.lt : ∀ {p : List PV} {v : List V}, VRs W ad H p v → refsLts ad.length p = true
  | _, _, .nil => by simp [refsLts]
  | _, _, .cons r t => by simp only [refsLts, Bool.and_eq_true]; exact ⟨VR.lt r, VRs.lt t⟩
end
/-- from a longer to a shorter list of addresses -/
theorem at_cut {t : List Addr} {n i : Nat} {a : Addr} (hn : n ≤ ad.length) (hi : i < n) (h : (ad ++ t)[i]? = some a) : ad[i]? = some a := by
  rwa [List.getElem?_append_left (Nat.lt_of_lt_of_le hi hn)] at h
mutual
theorem VR.cut {n : Nat} (e : ∀ (i : Nat) a, i < n → ad[i]? = some a → ad'[i]? = some a) : ∀ {p : PV} {v : V}, VR W ad H p v → refsLt n p = true → VR W ad' H p v
  | _, _, .non, _ => .non
  | _, _, .bl b, _ => .bl b
  | _, _, .int b, _ => .int b
  | _, _, .str b, _ => .str b
  | _, _, .ty b, _ => .ty b
  | _, _, .glb h, _ => .glb h
  | _, _, .tup h r, q => .tup h (VRs.cut e r (by simpa only [refsLt] using q))
  | _, _, .fro h r, q => .fro h (VRs.cut e r (by simpa only [refsLt] using q))
  | _, _, .ref h, q => .ref (e _ _ (by simpa [refsLt] using q) h)
theorem VRs.cut {n : Nat} (e : ∀ (i : Nat) a, i < n → ad[i]? = some a → ad'[i]? = some a) : ∀ {p : List PV} {v : List V}, VRs W ad H p v → refsLts n p = true → VRs W ad' H p v
  | _, _, .nil, _ => .nil
  | _, _, .cons r t, q => by
    simp only [refsLts, Bool.and_eq_true] at q
    exact .cons (VR.cut e r q.1) (VRs.cut e t q.2)
end
theorem DR.cut {n : Nat} (e : ∀ (i : Nat) a, i < n → ad[i]? = some a → ad'[i]? = some a) {p : List (PV × PV)} {v : List (Key × V)} (h : DR W ad H p v) (q : refsLts n (p.map (·.2)) = true) : DR W ad' H p v := by
  induction h with
  | nil => exact .nil
  | cons r _ ih =>
    simp only [List.map_cons, refsLts, Bool.and_eq_true] at q
    exact .cons (VR.cut e r q.1) (ih q.2)
theorem DR.lt {p : List (PV × PV)} {v : List (Key × V)} (h : DR W ad H p v) : refsLts ad.length (p.map (·.1)) = true ∧ refsLts ad.length (p.map (·.2)) = true := by
  induction h with
  | nil => simp [refsLts]
  | cons r _ ih =>
    simp only [List.map_cons, refsLts, Bool.and_eq_true]
    exact ⟨⟨by rename_i k _ _ _ _ _; cases k <;> simp [keyP, refsLt], ih.1⟩, VR.lt r, ih.2⟩
theorem refsLts_keys {n : Nat} : ∀ ks : List Key, refsLts n (ks.map keyP) = true
  | [] => by simp [refsLts]
  | .inl _ :: r => by simpa [refsLts, refsLt, keyP] using refsLts_keys r
  | .inr _ :: r => by simpa [refsLts, refsLt, keyP] using refsLts_keys r
theorem DT.go (e1 : ∀ (i : Nat) a, ad[i]? = some a → ad'[i]? = some a) (e2 : ∀ a o, H a = some o → Imu o → H' a = some o) {p : List (PV × PV)} {v : List (NK × Addr × V)} (h : DT W ad H p v) : DT W ad' H' p v := by
  induction h with
  | nil => exact .nil
  | cons s k r _ ih => exact .cons s (VR.go e1 e2 k) (VR.go e1 e2 r) ih
theorem DT.cut {n : Nat} (e : ∀ (i : Nat) a, i < n → ad[i]? = some a → ad'[i]? = some a) {p : List (PV × PV)} {v : List (NK × Addr × V)} (h : DT W ad H p v) (q : refsLts n (p.map (·.2)) = true) : DT W ad' H p v := by
  induction h with
  | nil => exact .nil
  | cons s k r _ ih =>
    simp only [List.map_cons, refsLts, Bool.and_eq_true] at q
    exact .cons s (VR.cut e k (tk_refs s)) (VR.cut e r q.1) (ih q.2)
theorem DT.lt {p : List (PV × PV)} {v : List (NK × Addr × V)} (h : DT W ad H p v) : refsLts ad.length (p.map (·.1)) = true ∧ refsLts ad.length (p.map (·.2)) = true := by
  induction h with
  | nil => simp [refsLts]
  | cons s k r _ ih =>
    simp only [List.map_cons, refsLts, Bool.and_eq_true]
    exact ⟨⟨VR.lt k, ih.1⟩, VR.lt r, ih.2⟩
theorem OR.lt {o : PO} {a : Addr} (h : OR W ad H o a) : objLt ad.length o = true := by
  cases o with
  | lst xs => obtain ⟨vs, _, r⟩ := h; exact VRs.lt r
  | dic kvs =>
    obtain ⟨ws, _, r⟩ := h
    simp only [objLt, Bool.and_eq_true]
    exact DR.lt r
  | set xs =>
    obtain ⟨S, ks, _, e, _⟩ := h
    subst e
    exact refsLts_keys ks
  | dead => rfl
  | dct kvs =>
    obtain ⟨es, _, r⟩ := h
    simp only [objLt, Bool.and_eq_true]
    exact DT.lt r
  | fdc kvs =>
    obtain ⟨es, _, _, r⟩ := h
    simp only [objLt, Bool.and_eq_true]
    exact DT.lt r
  | exn c p => obtain ⟨_, _, _, _, _, _, r⟩ := h; exact VR.lt r
  | tab q => rfl
  | bex q => rfl
theorem OR.cut {n : Nat} (e : ∀ (i : Nat) a, i < n → ad[i]? = some a → ad'[i]? = some a) {o : PO} {a : Addr} (h : OR W ad H o a) (q : objLt n o = true) : OR W ad' H o a := by
  cases o with
  | lst xs => obtain ⟨vs, h1, r⟩ := h; exact ⟨vs, h1, VRs.cut e r q⟩
  | dic kvs =>
    obtain ⟨ws, h1, r⟩ := h
    simp only [objLt, Bool.and_eq_true] at q
    exact ⟨ws, h1, DR.cut e r q.2⟩
  | set xs => obtain ⟨S, ks, h1, r⟩ := h; exact ⟨S, ks, h1, r⟩
  | dead => exact h
  | dct kvs =>
    obtain ⟨es, h1, r⟩ := h
    simp only [objLt, Bool.and_eq_true] at q
    exact ⟨es, h1, DT.cut e r q.2⟩
  | fdc kvs =>
    obtain ⟨es, o, h1, r⟩ := h
    simp only [objLt, Bool.and_eq_true] at q
    exact ⟨es, o, h1, DT.cut e r q.2⟩
  | exn c p => obtain ⟨C, d, v, h1, h2, h3, r⟩ := h; exact ⟨C, d, v, h1, h2, h3, VR.cut e r q⟩
  | tab q => exact h
  | bex q => exact h
theorem OR.go (e1 : ∀ (i : Nat) a, ad[i]? = some a → ad'[i]? = some a) (e2 : ∀ a o, H a = some o → Imu o → H' a = some o) {o : PO} {a : Addr} (h : OR W ad H o a) (ha : H' a = H a) : OR W ad' H' o a := by
  cases o with
  | lst xs => obtain ⟨vs, h1, r⟩ := h; exact ⟨vs, ha.trans h1, VRs.go e1 e2 r⟩
  | dic kvs => obtain ⟨ws, h1, r⟩ := h; exact ⟨ws, ha.trans h1, DR.go e1 e2 r⟩
  | set xs => obtain ⟨S, ks, h1, r⟩ := h; exact ⟨S, ks, ha.trans h1, r⟩
  | dead => obtain ⟨u, e⟩ := h; exact ⟨u, ha.trans e⟩
  | dct kvs => obtain ⟨es, h1, r⟩ := h; exact ⟨es, ha.trans h1, DT.go e1 e2 r⟩
  | fdc kvs => obtain ⟨es, o, h1, r⟩ := h; exact ⟨es, o, ha.trans h1, DT.go e1 e2 r⟩
  | exn c p => obtain ⟨C, d, v, h1, h2, h3, r⟩ := h; exact ⟨C, d, v, h1, ha.trans h2, e2 _ _ h3 trivial, VR.go e1 e2 r⟩
  | bex q => obtain ⟨C, h1, h2⟩ := h; exact ⟨C, h1, ha.trans h2⟩
  | tab q =>
    obtain ⟨⟨ps, h1, h2, h3⟩, ht⟩ := h
    refine ⟨⟨ps, ha.trans h1, h2, fun pos cv hc => ?_⟩, ht⟩
    obtain ⟨c, k1, k2⟩ := h3 pos cv hc
    exact ⟨c, k1, e2 _ _ k2 (codeO_imu _ _)⟩
theorem OR.some {o : PO} {a : Addr} (h : OR W ad H o a) : ∃ u, H a = some u := by
  cases o with
  | lst xs => obtain ⟨vs, h1, r⟩ := h; exact ⟨_, h1⟩
  | dic kvs => obtain ⟨ws, h1, r⟩ := h; exact ⟨_, h1⟩
  | set xs => obtain ⟨S, ks, h1, r⟩ := h; exact ⟨_, h1⟩
  | dead => exact h
  | dct kvs => obtain ⟨es, h1, r⟩ := h; exact ⟨_, h1⟩
  | fdc kvs => obtain ⟨es, o, h1, r⟩ := h; exact ⟨_, h1⟩
  | exn c p => obtain ⟨C, d, v, h1, h2, r⟩ := h; exact ⟨_, h2⟩
  | tab q => obtain ⟨⟨ps, h1, r⟩, _⟩ := h; exact ⟨_, h1⟩
  | bex q => obtain ⟨C, h1, h2⟩ := h; exact ⟨_, h2⟩
end
section
variable (W : Wd)
/-- the store stands in the heap -/
structure RO (ad : List Addr) (H : Hp) (st : Store) : Prop where
  len : st.length = ad.length
  nd : ad.Nodup
  obj : ∀ (i : Nat) o a, st[i]? = some o → ad[i]? = some a → OR W ad H o a
structure RS (ad : List Addr) (H : Hp) (st : Store) (σp : Slots) (σ : L2.St) : Prop where
  ro : RO W ad H st
  sl : ∀ (i : Nat) p, σp[i]? = some (some p) → ∃ v, σ[i]? = some (some v) ∧ VR W ad H p v
  ln : σp.length = σ.length
/-- what is wanted of an outcome -/
def RdG {α : Type} (r : Res α) (ad : List Addr) (H : Hp) (G : α → List Addr → Hp → Prop) : Prop := match r with
  | .ok x => ∀ ad' H', Ext ad H ad' H' → G x ad' H'
  | _ => False
def RdE (r : Res (PV × Store)) (ad : List Addr) (H : Hp) (Q : VK) : Prop := RdG r ad H fun x ad' H' => RO W ad' H' x.2 → ∀ v, VR W ad' H' x.1 v → Q v H'
def RdA (r : Res (List PV × Store)) (ad : List Addr) (H : Hp) (Q : List V → Hp → Prop) : Prop := RdG r ad H fun x ad' H' => RO W ad' H' x.2 → ∀ v, VRs W ad' H' x.1 v → Q v H'
def RdT (r : Res (Bool × Store)) (ad : List Addr) (H : Hp) (Q : Bool → Hp → Prop) : Prop := RdG r ad H fun x ad' H' => RO W ad' H' x.2 → Q x.1 H'
def RdS (r : Res (Fl × Slots × Store)) (ad : List Addr) (H : Hp) (D : Ends) : Prop := RdG r ad H fun x ad' H' => match x.1 with
  | .nx => ∀ σ', RS W ad' H' x.2.2 x.2.1 σ' → D.nx σ' H'
  | .bk => ∀ σ', RS W ad' H' x.2.2 x.2.1 σ' → D.bk σ' H'
  | .ct => ∀ σ', RS W ad' H' x.2.2 x.2.1 σ' → D.ct σ' H'
  | .rt p => RO W ad' H' x.2.2 → ∀ v, VR W ad' H' p v → D.rt v H'
def tOfE (m : EvE) : TE := fun σ H Q => ∃ ad st σp, RS W ad H st σp σ ∧ RdE W (m σp st) ad H Q
def tOfA (m : EvA) : TA := fun σ H Q => ∃ ad st σp, RS W ad H st σp σ ∧ RdA W (m σp st) ad H Q
def tOfT (m : EvT) : TT := fun σ H Q => ∃ ad st σp, RS W ad H st σp σ ∧ RdT W (m σp st) ad H Q
def tOfS (m : EvS) : TS := fun D σ H => ∃ ad st σp, RS W ad H st σp σ ∧ RdS W (m σp st) ad H D
end
abbrev _root_.L2.Cx.wd (X : Cx) : Wd := ⟨X.K, X.mg, X.prog, X.w⟩
/-- the judgements -/
def SE (X : Cx) (e : Expr) (m : EvE) : Prop := PE X e (tOfE X.wd m)
def SA (X : Cx) (es : List Expr) (m : EvA) : Prop := PA X es (tOfA X.wd m)
def ST (X : Cx) (e : Expr) (m : EvT) : Prop := PT X e (tOfT X.wd m)
def SW (X : Cx) (e : Expr) (m : EvT) : Prop := PW X e (tOfT X.wd m)
def SS (X : Cx) (s : Stmt) (m : EvS) : Prop := PS X s (tOfS X.wd m)
def SSs (X : Cx) (s : List Stmt) (m : EvS) : Prop := PSs X s (tOfS X.wd m)
mutual
/-- a target's reading -/
def rdG (K : PySem.W.Frag) : Tg → TG
  | .nm i => L2.gName i
  | .tp ts => L2.gTup K ts.length (rdGs K ts)
def rdGs (K : PySem.W.Frag) : List Tg → TGs
  | [] => gNil
  | t :: ts => gCons (rdG K t) (rdGs K ts)
end
def SG (X : Cx) (e : Expr) (t : Tg) : Prop := PG X e (rdG X.K t)
def SGs (X : Cx) (es : List Expr) (ts : List Tg) : Prop := PGs X es (rdGs X.K ts)
section
variable {W : Wd} {ad ad' : List Addr} {H H' : Hp} {st : Store} {σp : Slots} {σ : L2.St}
theorem RO.some (h : RO W ad H st) {a : Addr} (ha : a ∈ ad) : ∃ u, H a = some u := by
  obtain ⟨i, hi, e⟩ := List.getElem_of_mem ha
  have hs : i < st.length := by rw [h.len]; exact hi
  exact (h.obj i st[i] a (List.getElem?_eq_getElem hs) (by rw [List.getElem?_eq_getElem hi, e])).some
theorem RO.get (h : RO W ad H st) {i : Nat} {o : PO} (e : st[i]? = Option.some o) : ∃ a, ad[i]? = Option.some a ∧ OR W ad H o a := by
  have hi : i < ad.length := by rw [← h.len]; exact (List.getElem?_eq_some_iff.mp e).1
  exact ⟨ad[i], List.getElem?_eq_getElem hi, h.obj i o _ e (List.getElem?_eq_getElem hi)⟩
theorem Ext.fresh {p : Addr} {o : HO} (hp : H p = none) : Ext ad H ad (upd H p o) := by
  refine ⟨⟨[], by simp⟩, fun a u h _ => ?_, fun a h n => absurd h n, fun a u h _ => ?_⟩ <;> (rw [upd_ne (ne_of_none h hp)]; exact h)
theorem Ext.alloc {p : Addr} {o : HO} (hp : H p = none) : Ext ad H (ad ++ [p]) (upd H p o) := by
  refine ⟨⟨[p], rfl⟩, fun a u h _ => ?_, fun a h n => ?_, fun a u h _ => ?_⟩
  · rw [upd_ne (ne_of_none h hp)]; exact h
  · rcases List.mem_append.mp h with z | z
    · exact absurd z n
    · rw [List.mem_singleton.mp z]; exact hp
  · rw [upd_ne (ne_of_none h hp)]; exact h
theorem RO.not_mem (h : RO W ad H st) {p : Addr} (hp : H p = none) : p ∉ ad := fun hm => by
  obtain ⟨u, e⟩ := h.some hm
  rw [hp] at e; cases e
theorem RO.same (h : RO W ad H st) (e : Ext ad H ad H') (s : ∀ a ∈ ad, H' a = H a) : RO W ad H' st :=
  ⟨h.len, h.nd, fun i o a h1 h2 => (h.obj i o a h1 h2).go (fun _ _ q => q) e.imm (s a (List.mem_of_getElem? h2))⟩
theorem RO.fresh (h : RO W ad H st) {p : Addr} {o : HO} (hp : H p = none) : RO W ad (upd H p o) st :=
  h.same (.fresh hp) fun a ha => upd_ne fun e => h.not_mem hp (e ▸ ha)
theorem RO.alloc (h : RO W ad H st) {p : Addr} {o : HO} {u : PO} (hp : H p = none) (r : OR W (ad ++ [p]) (upd H p o) u p) : RO W (ad ++ [p]) (upd H p o) (st ++ [u]) := by
  have hn := h.not_mem hp
  refine ⟨by simp [h.len], ?_, fun i v a h1 h2 => ?_⟩
  · refine List.nodup_append.mpr ⟨h.nd, by simp, fun a ha b hb => ?_⟩
    rw [List.mem_singleton.mp hb]
    exact fun e => hn (e ▸ ha)
  · by_cases hi : i < ad.length
    · rw [List.getElem?_append_left hi] at h2
      rw [List.getElem?_append_left (by rw [h.len]; exact hi)] at h1
      have e := Ext.alloc (ad := ad) (o := o) hp
      exact (h.obj i v a h1 h2).go (fun _ _ q => e.at q) e.imm (upd_ne fun z => hn (z ▸ List.mem_of_getElem? h2))
    · have hi' : i = ad.length := by
        have := (List.getElem?_eq_some_iff.mp h2).1
        simp at this
        omega
      subst hi'
      rw [List.getElem?_append_right (Nat.le_refl _)] at h2
      rw [List.getElem?_append_right (by rw [h.len]; exact Nat.le_refl _), h.len] at h1
      simp at h1 h2
      subst h1; subst h2
      exact r
theorem Ext.write (h : RO W ad H st) {a : Addr} {o : HO} (ha : a ∈ ad) (ni : ∀ u, H a = Option.some u → ¬ Imu u) : Ext ad H ad (upd H a o) := by
  obtain ⟨u, e⟩ := h.some ha
  refine ⟨⟨[], by simp⟩, fun b v hb n => ?_, fun b hb n => absurd hb n, fun b v hb i => ?_⟩
  · rw [upd_ne fun z => n (by rw [z]; exact ha)]; exact hb
  · rw [upd_ne fun z => by subst z; rw [e] at hb; cases hb; exact ni _ e i]; exact hb
theorem RO.write (h : RO W ad H st) {i : Nat} {a : Addr} {o : HO} {u : PO} (ha : ad[i]? = Option.some a) (r : OR W ad (upd H a o) u a) (ni : ∀ u, H a = Option.some u → ¬ Imu u) : RO W ad (upd H a o) (st.set i u) := by
  have hm := List.mem_of_getElem? ha
  have e := Ext.write (o := o) h hm ni
  have hi : i < ad.length := (List.getElem?_eq_some_iff.mp ha).1
  refine ⟨by rw [List.length_set, h.len], h.nd, fun j v b h1 h2 => ?_⟩
  by_cases hj : j = i
  · subst hj
    rw [ha] at h2; cases h2
    rw [List.getElem?_set_self (by rw [h.len]; exact hi)] at h1
    cases h1
    exact r
  · rw [List.getElem?_set_ne (Ne.symm hj)] at h1
    refine (h.obj j v b h1 h2).go (fun _ _ q => q) e.imm (upd_ne fun z => hj ?_)
    subst z
    obtain ⟨h3, h4⟩ := List.getElem?_eq_some_iff.mp h2
    obtain ⟨h5, h6⟩ := List.getElem?_eq_some_iff.mp ha
    exact (List.getElem_inj h.nd).mp (h4.trans h6.symm)
theorem RS.mono (S : RS W ad H st σp σ) (e : Ext ad H ad' H') {st' : Store} (r : RO W ad' H' st') : RS W ad' H' st' σp σ :=
  ⟨r, fun i p h => let ⟨v, h1, h2⟩ := S.sl i p h; ⟨v, h1, h2.mono e⟩, S.ln⟩
theorem RS.set (S : RS W ad H st σp σ) {i : Nat} {p : PV} {v : V} (r : VR W ad H p v) : RS W ad H st (σp.set i (Option.some p)) (σ.set i (Option.some v)) := by
  refine ⟨S.ro, fun j q h => ?_, by rw [List.length_set, List.length_set, S.ln]⟩
  by_cases hj : j = i
  · subst hj
    have hl : j < σp.length := by have := (List.getElem?_eq_some_iff.mp h).1; rwa [List.length_set] at this
    rw [List.getElem?_set_self hl] at h
    cases h
    exact ⟨v, List.getElem?_set_self (by rw [← S.ln]; exact hl), r⟩
  · rw [List.getElem?_set_ne (Ne.symm hj)] at h ⊢
    exact S.sl j q h
theorem RdG.mono {α : Type} {r : Res α} {G : α → List Addr → Hp → Prop} (h : RdG r ad H G) (e : Ext ad H ad' H') : RdG r ad' H' G := by
  cases r with
  | ok x => exact fun ad2 H2 e2 => h ad2 H2 (e.trans e2)
  | exc _ _ _ => exact h
  | stuck => exact h
theorem RdG.imp {α : Type} {r : Res α} {G G' : α → List Addr → Hp → Prop} (h : RdG r ad H G) (g : ∀ x ad' H', r = .ok x → Ext ad H ad' H' → G x ad' H' → G' x ad' H') : RdG r ad H G' := by
  cases r with
  | ok x => exact fun ad2 H2 e2 => g x ad2 H2 rfl e2 (h ad2 H2 e2)
  | exc _ _ _ => exact h
  | stuck => exact h
/-- an outcome, then more -/
theorem RdG.bind {α β : Type} {r : Res α} {f : α → Res β} {G : β → List Addr → Hp → Prop} (h : RdG (r >>= f) ad H G) : RdG r ad H fun x ad' H' => RdG (f x) ad' H' G := by
  cases r with
  | ok x => exact fun ad2 H2 e2 => RdG.mono (r := f x) h e2
  | exc _ _ _ => exact h
  | stuck => exact h
/-- what a rule's reading asks of a part -/
theorem goE {α : Type} {m : EvE} {f : PV × Store → Res α} {G : α → List Addr → Hp → Prop} {R : VK} (S : RS W ad H st σp σ) (h : RdG (m σp st >>= f) ad H G)
    (k : ∀ x ad' H' v, m σp st = .ok x → Ext ad H ad' H' → RS W ad' H' x.2 σp σ → VR W ad' H' x.1 v → RdG (f x) ad' H' G → R v H') : tOfE W m σ H R :=
  ⟨ad, st, σp, S, h.bind.imp fun x ad' H' e1 e2 g r v hv => k x ad' H' v e1 e2 (S.mono e2 r) hv g⟩
theorem goA {α : Type} {m : EvA} {f : List PV × Store → Res α} {G : α → List Addr → Hp → Prop} {R : List V → Hp → Prop} (S : RS W ad H st σp σ) (h : RdG (m σp st >>= f) ad H G)
    (k : ∀ x ad' H' v, m σp st = .ok x → Ext ad H ad' H' → RS W ad' H' x.2 σp σ → VRs W ad' H' x.1 v → RdG (f x) ad' H' G → R v H') : tOfA W m σ H R :=
  ⟨ad, st, σp, S, h.bind.imp fun x ad' H' e1 e2 g r v hv => k x ad' H' v e1 e2 (S.mono e2 r) hv g⟩
theorem goT {α : Type} {m : EvT} {f : Bool × Store → Res α} {G : α → List Addr → Hp → Prop} {R : Bool → Hp → Prop} (S : RS W ad H st σp σ) (h : RdG (m σp st >>= f) ad H G)
    (k : ∀ x ad' H', m σp st = .ok x → Ext ad H ad' H' → RS W ad' H' x.2 σp σ → RdG (f x) ad' H' G → R x.1 H') : tOfT W m σ H R :=
  ⟨ad, st, σp, S, h.bind.imp fun x ad' H' e1 e2 g r => k x ad' H' e1 e2 (S.mono e2 r) g⟩
theorem RdG.ok {α : Type} {x : α} {G : α → List Addr → Hp → Prop} (h : RdG (.ok x) ad H G) : G x ad H := h ad H (.refl ad H)
end
theorem PE.to {X : Cx} {e : Expr} {t t' : TE} (h : PE X e t) (i : ∀ σ H Q, t' σ H Q → t σ H Q) : PE X e t' := ⟨fun pins s σ H Q I q => h.run pins s σ H Q I (i σ H Q q)⟩
theorem PA.to {X : Cx} {e : List Expr} {t t' : TA} (h : PA X e t) (i : ∀ σ H Q, t' σ H Q → t σ H Q) : PA X e t' := ⟨fun p pins s σ H Q I q => h.run p pins s σ H Q I (i σ H Q q)⟩
theorem PT.to {X : Cx} {e : Expr} {t t' : TT} (h : PT X e t) (i : ∀ σ H Q, t' σ H Q → t σ H Q) : PT X e t' := ⟨fun pins s σ H Q I q => h.run pins s σ H Q I (i σ H Q q)⟩
theorem PW.to {X : Cx} {e : Expr} {t t' : TT} (h : PW X e t) (i : ∀ σ H Q, t' σ H Q → t σ H Q) : PW X e t' := ⟨fun wh pins s σ H Q I q => h.run wh pins s σ H Q I (i σ H Q q)⟩
theorem PS.to {X : Cx} {e : Stmt} {t t' : TS} (h : PS X e t) (i : ∀ D σ H, t' D σ H → t D σ H) : PS X e t' := ⟨fun pins s σ H D I q => h.run pins s σ H D I (i D σ H q)⟩
theorem PSs.to {X : Cx} {e : List Stmt} {t t' : TS} (h : PSs X e t) (i : ∀ D σ H, t' D σ H → t D σ H) : PSs X e t' := ⟨fun pins s σ H D I q => h.run pins s σ H D I (i D σ H q)⟩
end Sg
set_option Elab.async false
set_option linter.all false
set_option maxRecDepth 100000
set_option maxHeartbeats 4000000
namespace Sg
open PySem PySem.Spec PyProof.Rows L2
/-- wanted of a new tuple, whatever its place and its items' tokens -/
def NewT (H : Hp) (xs : List V) (Q : VK) : Prop := ∀ (p : Addr) (its : List Value), H p = none → Q (.ref p) (upd H p (.frz (tupObj its) (.tup xs)))
section
variable {X : Cx} {pins : List (Addr × Obj)} {σ : L2.St} {H : Hp} {s : Shared}
theorem newT_ok {xs : List V} {its : List Value} {Q : VK} (I : Inv X pins σ H s) (r : Vals xs its) (hz : xs.length ≤ sizeLine) (q : NewT H xs Q) :
    EP X pins σ Q (.ref s.heap.objs.size) { s with heap := s.heap.push (tupObj its) } := by
  have e0 := Heap.get?_push_size s.heap (o := tupObj its) rfl
  refine ⟨.ref s.heap.objs.size, upd H s.heap.objs.size (.frz (tupObj its) (.tup xs)), ?_, rfl, q _ its (I.hok.fresh (Nat.le_refl _))⟩
  refine I.laid (t' := s.toks) (o := .frz (tupObj its) (.tup xs)) (fun b u e => ?_) (Nat.le_refl _) ⟨e0, hz, its, r, _, e0, rfl, _, rfl⟩
  exact Heap.get?_push_of_some _ e
theorem pe_tupU {es : List Expr} {t : TA} {pos : Pos} {k} (h : PA X es t) :
    PE X (.Tuple es k pos) (fun σ H Q => t σ H fun xs H1 => xs.length ≤ sizeLine ∧ NewT H1 xs Q) := by
  constructor
  intro pins s σ H Q I hq
  apply wpAny_Tuple_spliced
  refine thn (h.run pos pins s σ H _ I hq) ?_
  rintro us s1 ⟨xs, H1, I1, r, z, q⟩
  exact ⟨by rw [← r.length]; exact z, newT_ok I1 r z q⟩
theorem op_catU : OpR X (binaryOp .Add) (fun x y H Q => ∃ a b xs ys, x = .ref a ∧ y = .ref b ∧ SqT X.K H a xs ∧ SqT X.K H b ys ∧ xs.length + ys.length ≤ sizeLine ∧
    (xs = [] → Q (.ref b) H) ∧ (xs ≠ [] → ys = [] → Q (.ref a) H) ∧ (xs ≠ [] → ys ≠ [] → NewT H (xs ++ ys) Q)) := by
  intro pins s σ H x y v u Q I rx ry h
  obtain ⟨a, b, xs, ys, e1, e2, ha, hb, hz, q0, q1, q2⟩ := h
  subst e1; subst e2; cases rx; cases ry
  obtain ⟨i1, r1, p1, z1⟩ := I.tuple ha
  obtain ⟨i2, r2, p2, z2⟩ := I.tuple hb
  by_cases hx : xs = []
  · subst hx
    cases r1
    exact cat_tup0 p1 p2 ⟨.ref b, H, I, rfl, q0 rfl⟩
  · have hi : i1 ≠ [] := fun e => hx (r1.nil_iff.mp e)
    refine HT.cat_tup p1 p2 hi ?_ ?_ (by rw [← r1.length, ← r2.length]; exact hz)
    · exact fun e => ⟨.ref a, H, I, rfl, q1 hx (r2.nil_iff.mp e)⟩
    · exact fun e => newT_ok I (r1.append r2) (by rw [List.length_append]; exact hz) (q2 hx fun w => e (r2.nil_iff.mpr w))
end
end Sg
set_option Elab.async false
set_option linter.all false
set_option maxRecDepth 100000
set_option maxHeartbeats 4000000
namespace Sg
open PySem PySem.Spec PyProof.Rows L2
abbrev LSt := L2.St
section
variable {W : Wd} {ad ad' : List Addr} {H H' : Hp} {st : Store}
theorem oldOk_at {n : Nat} : ∀ {s t : Store}, oldOk n s t = true → ∀ (i : Nat) o u, s[i]? = some o → t[i]? = some u → u = o ∨ objLt n u = true
  | [], _, _, i, _, _, h, _ => by simp at h
  | _ :: _, [], h, _, _, _, _, _ => by simp [oldOk] at h
  | a :: s, b :: t, h, 0, o, u, h1, h2 => by
    simp only [oldOk, Bool.and_eq_true, Bool.or_eq_true, decide_eq_true_eq] at h
    simp only [List.getElem?_cons_zero, Option.some.injEq] at h1 h2
    subst h1; subst h2
    exact h.1.symm
  | a :: s, b :: t, h, i + 1, o, u, h1, h2 => by
    simp only [oldOk, Bool.and_eq_true] at h
    simp only [List.getElem?_cons_succ] at h1 h2
    exact oldOk_at h.2 i o u h1 h2
theorem oldOk_len {n : Nat} : ∀ {s t : Store}, oldOk n s t = true → s.length ≤ t.length
  | [], _, _ => Nat.zero_le _
  | _ :: _, [], h => by simp [oldOk] at h
  | a :: s, b :: t, h => by
    simp only [oldOk, Bool.and_eq_true] at h
    simpa using oldOk_len h.2
/-- the old part of a store -/
theorem RO.old (h0 : RO W ad H st) {st' : Store} {t : List Addr} (h : RO W (ad ++ t) H' st') (ok : oldOk st.length st st' = true) : RO W ad H' (st'.take st.length) := by
  have hl := oldOk_len ok
  refine ⟨by rw [List.length_take, Nat.min_eq_left hl, h0.len], h0.nd, fun i o a h1 h2 => ?_⟩
  have hi : i < ad.length := (List.getElem?_eq_some_iff.mp h2).1
  have hi' : i < st.length := by rw [h0.len]; exact hi
  rw [List.getElem?_take_of_lt hi'] at h1
  have r := h.obj i o a h1 (by rw [List.getElem?_append_left hi]; exact h2)
  have q := oldOk_at ok i st[i] o (List.getElem?_eq_getElem hi') h1
  refine r.cut (n := st.length) (fun j b hj e => at_cut (Nat.le_of_eq h0.len) hj e) ?_
  rcases q with e | e
  · subst e
    rw [h0.len]
    exact (h0.obj i _ a (List.getElem?_eq_getElem hi') h2).lt
  · exact e
theorem Ext.cut {t : List Addr} (e : Ext ad H (ad ++ t) H') : Ext ad H ad H' := ⟨⟨[], by simp⟩, e.frm, fun a h n => absurd h n, e.imm⟩
/-- what is forgotten was not asked of -/
theorem rd_gc {r : Res (PV × Store)} {Q : VK} (h0 : RO W ad H st) (h : RdE W (gcR st r) ad H Q) : RdE W r ad H Q := by
  cases r with
  | exc _ _ _ => exact h
  | stuck => exact h
  | ok x =>
    obtain ⟨p, st'⟩ := x
    intro ad' H' E R v V
    simp only [gcR_ok] at h
    unfold gc at h
    by_cases c0 : (p, st').2.length = st.length
    · rw [if_pos c0] at h
      exact h ad' H' E R v V
    rw [if_neg c0] at h
    have E' := E
    obtain ⟨t, rfl⟩ := E.pre
    by_cases c1 : oldOk st.length st st' = true
    · rw [if_pos c1] at h
      by_cases c2 : refsLt st.length p = true
      · rw [if_pos c2] at h
        exact h ad H' E.cut (h0.old R c1) v (V.cut (n := st.length) (fun j b hj e => at_cut (Nat.le_of_eq h0.len) hj e) c2)
      · rw [if_neg c2] at h
        cases p with
        | ref i =>
          simp only at h
          cases hq : st'[i]? with
          | none => simp only [hq] at h; exact h _ _ E R v V
          | some o =>
            simp only [hq] at h
            by_cases c3 : objLt st.length o = true
            · rw [if_pos c3] at h
              cases V with
              | ref hv =>
                rename_i a
                have ha : a ∉ ad := fun hm => by
                  obtain ⟨j, hj, e⟩ := List.getElem_of_mem hm
                  obtain ⟨h3, h4⟩ := List.getElem?_eq_some_iff.mp hv
                  have hj' : j < (ad ++ t).length := by rw [List.length_append]; omega
                  have e2 : (ad ++ t)[j] = a := by rw [List.getElem_append_left hj]; exact e
                  have : i = j := (List.getElem_inj R.nd).mp (h4.trans e2.symm)
                  subst this
                  apply c2
                  simp only [refsLt, decide_eq_true_eq, h0.len]
                  exact hj
                have E2 : Ext ad H (ad ++ [a]) H' := ⟨⟨[a], rfl⟩, E.frm, fun b hb n => by
                  rcases List.mem_append.mp hb with z | z
                  · exact absurd z n
                  · rw [List.mem_singleton.mp z]
                    exact E.new a (List.mem_of_getElem? hv) ha, E.imm⟩
                have R0 := h0.old R c1
                refine h (ad ++ [a]) H' E2 ⟨?_, ?_, fun j u b h1 h2 => ?_⟩ (.ref a) (.ref ?_)
                · rw [List.length_append, List.length_append, R0.len]; rfl
                · refine List.nodup_append.mpr ⟨R0.nd, by simp, fun b hb c hc => ?_⟩
                  rw [List.mem_singleton.mp hc]
                  exact fun e => ha (e ▸ hb)
                · by_cases hj : j < ad.length
                  · rw [List.getElem?_append_left (by rw [R0.len]; exact hj)] at h1
                    rw [List.getElem?_append_left hj] at h2
                    exact (R0.obj j u b h1 h2).go (fun k c q => by
                      have := (List.getElem?_eq_some_iff.mp q).1
                      rw [List.getElem?_append_left this]; exact q) (fun _ _ q _ => q) rfl
                  · have hj' : j = ad.length := by
                      have := (List.getElem?_eq_some_iff.mp h2).1
                      simp at this
                      omega
                    subst hj'
                    rw [List.getElem?_append_right (Nat.le_refl _)] at h2
                    rw [List.getElem?_append_right (by rw [R0.len]; exact Nat.le_refl _), R0.len] at h1
                    simp at h1 h2
                    subst h1; subst h2
                    refine (R.obj i o a hq hv).cut (n := st.length) (fun k c hk e => ?_) c3
                    have hk' : k < ad.length := by rw [← h0.len]; exact hk
                    rw [List.getElem?_append_left hk'] at e ⊢
                    exact e
                · rw [h0.len]; simp
            · rw [if_neg c3] at h; exact h _ _ E R v V
        | _ => exact h _ _ E R v V
    · rw [if_neg c1] at h
      exact h _ _ E R v V
end
section
variable {X : Cx} {e a b c : Expr} {es : List Expr} {m ma mb mc : EvE} {pos : Pos}
theorem se_gc {X : Cx} {e : Expr} {m : EvE} (h : SE X e m) : SE X e (fun σ st => gcR st (m σ st)) := PE.to h fun σ H Q ⟨ad, st, σp, S, q⟩ => ⟨ad, st, σp, S, rd_gc S.ro q⟩
theorem se_var (i : Nat) {x : Str} {pos : Pos} (hN : X.N[i]? = some x := by rfl) (hv : Vis X.env.scope x := by first | exact Or.inl rfl | exact Or.inr (Or.inl rfl) | exact Or.inr (Or.inr rfl))
    (hd : (x == ("__debug__" : Str)) = false := by decide) (hcd : (x == ("__classdict__" : Str)) = false := by decide) : SE X (.Name x pos) (eVar i) :=
  PE.to (pv i hN hv hd hcd) fun σ H Q ⟨ad, st, σp, S, q⟩ => by
    unfold eVar at q
    cases h : σp[i]? with
    | none => rw [h] at q; exact q.elim
    | some o =>
      cases o with
      | none => rw [h] at q; exact q.elim
      | some p =>
        rw [h] at q
        obtain ⟨v, h1, h2⟩ := S.sl i p h
        exact ⟨v, h1, q.ok S.ro v h2⟩
/-- a value that hangs on nothing -/
theorem se_c {p : PV} {v : V} (h : PE X e (tC v)) (hp : ∀ ad H, VR X.wd ad H p v) : SE X e (eC p) :=
  PE.to h fun σ H Q ⟨ad, st, σp, S, q⟩ => RdG.ok q S.ro v (hp ad H)
theorem se_int {i j pos} : SE X (.Constant (.int i) j pos) (eC (.int i)) := se_c pe_int fun _ _ => .int i
theorem se_bl {i j pos} : SE X (.Constant (.bool i) j pos) (eC (.bl i)) := se_c pe_bl fun _ _ => .bl i
theorem se_str {i j pos} : SE X (.Constant (.str i) j pos) (eC (.str i)) := se_c pe_str fun _ _ => .str i
theorem se_non {j pos} : SE X (.Constant .none j pos) (eC .non) := se_c pe_non fun _ _ => .non
/-- an operator of two values -/
def rOf (X : Cx) (F : Op2) : R2 := fun x y H Q => ∃ ad st p q, RO X.wd ad H st ∧ VR X.wd ad H p x ∧ VR X.wd ad H q y ∧ RdE X.wd (F p q st) ad H Q
def OpD (X : Cx) (f : Value → Value → Sem Value) (F : Op2) : Prop := OpR X f (rOf X F)
theorem OpR.to {f : Value → Value → Sem Value} {r r' : R2} (h : OpR X f r) (i : ∀ x y H Q, r' x y H Q → r x y H Q) : OpR X f r' :=
  fun pins s σ H x y v u Q I rx ry q => h pins s σ H x y v u Q I rx ry (i x y H Q q)
theorem go2 {F : Op2} {σ : LSt} {H : Hp} {Q : VK} (q : tOfE X.wd (eBin F ma mb) σ H Q) : tOp (rOf X F) (tOfE X.wd ma) (tOfE X.wd mb) σ H Q := by
  obtain ⟨ad, st, σp, S, q⟩ := q
  refine goE S q fun x ad1 H1 v e1 E1 S1 V1 q1 => goE S1 q1 fun y ad2 H2 w e2 E2 S2 V2 q2 => ?_
  exact ⟨ad2, y.2, x.1, y.1, S2.ro, V1.mono E2, V2, q2⟩
theorem se_bin {op : Operator} {F : Op2} (ho : OpD X (binaryOp op) F) (ha : SE X a ma) (hb : SE X b mb) : SE X (.BinOp a op b pos) (eBin F ma mb) :=
  PE.to (pe_op ho ha hb) fun σ H Q q => go2 q
theorem se_cmp {op : CmpOp} {F : Op2} (ho : OpD X (compareOp op) F) (ha : SE X a ma) (hb : SE X b mb) (hm : behindInMarks op b = false) : SE X (.Compare a [op] [b] pos) (eBinG F ma mb) :=
  se_gc (PE.to (pe_cmpR ho ha hb hm) fun σ H Q q => go2 q)
def rUOf (X : Cx) (F : PV → Store → Res (PV × Store)) : V → Hp → VK → Prop := fun x H Q => ∃ ad st p, RO X.wd ad H st ∧ VR X.wd ad H p x ∧ RdE X.wd (F p st) ad H Q
theorem se_un {op : UnaryOp} {F : PV → Store → Res (PV × Store)} (ho : UnR X (unaryOp op) (rUOf X F)) (ha : SE X a ma) : SE X (.UnaryOp op a pos) (eUn F ma) :=
  PE.to (pe_un ho ha) fun σ H Q ⟨ad, st, σp, S, q⟩ => goE S q fun x ad1 H1 v e1 E1 S1 V1 q1 => ⟨ad1, x.2, x.1, S1.ro, V1, q1⟩
theorem UnR.to {f : Value → Sem Value} {r r' : V → Hp → VK → Prop} (h : UnR X f r) (i : ∀ x H Q, r' x H Q → r x H Q) : UnR X f r' :=
  fun pins s σ H x v Q I rx q => h pins s σ H x v Q I rx (i x H Q q)
theorem ud_neg : UnR X (unaryOp .USub) (rUOf X unNeg) := UnR.to un_neg fun x H Q ⟨ad, st, p, R, V, q⟩ => by
  cases V with
  | int i => exact ⟨i, rfl, RdG.ok q R _ (.int _)⟩
  | _ => exact q.elim
theorem rdOk {W : Wd} {ad : List Addr} {H : Hp} {st : Store} {p : PV} {v : V} {Q : VK} (q : RdE W (.ok (p, st)) ad H Q) (R : RO W ad H st) (V : VR W ad H p v) : Q v H := RdG.ok q R v V
/-- a new list -/
theorem rdNew {W : Wd} {ad : List Addr} {H : Hp} {st : Store} {xs : List PV} {vs : List V} {Q : VK} (q : RdE W (.ok (.ref st.length, st ++ [.lst xs])) ad H Q) (R : RO W ad H st) (V : VRs W ad H xs vs)
    {l : Addr} (hl : H l = none) : Q (.ref l) (upd H l (.lst vs)) :=
  q (ad ++ [l]) _ (.alloc hl) (R.alloc hl ⟨vs, upd_same, V.mono (.alloc hl)⟩) _ (.ref (by rw [R.len]; simp))
/-- a new tuple -/
theorem rdTup {W : Wd} {ad : List Addr} {H : Hp} {st : Store} {xs : List PV} {vs : List V} {Q : VK} (q : RdE W (.ok (.tup xs, st)) ad H Q) (R : RO W ad H st) (V : VRs W ad H xs vs) : NewT H vs Q := fun l its hl =>
  q ad _ (.fresh hl) (R.fresh hl) _ (.tup (Or.inl ⟨_, upd_same, rfl, rfl⟩) (V.mono (.fresh hl)))
theorem od_add : OpD X (binaryOp .Add) opAdd := by
  refine OpR.to (op_add.or (op_add_str.or (op_catU.or op_cat))) fun x y H Q ⟨ad, st, p, q, R, V, W, h⟩ => ?_
  cases V with
  | int i =>
    cases W with
    | int j => exact Or.inl ⟨i, j, rfl, rfl, rdOk h R (.int _)⟩
    | _ => exact h.elim
  | str i =>
    cases W with
    | str j =>
      simp only [opAdd] at h
      split at h
      · rename_i hc
        exact Or.inr (Or.inl ⟨i, j, rfl, rfl, by rw [sizeLine_eq]; exact hc, rdOk h R (.str _)⟩)
      · exact h.elim
    | _ => exact h.elim
  | tup hs rs =>
    cases W with
    | tup hs' rs' =>
      simp only [opAdd] at h
      split at h
      · rename_i hc
        rw [rs.length, rs'.length] at hc
        refine Or.inr (Or.inr (Or.inl ⟨_, _, _, _, rfl, rfl, hs.sq, hs'.sq, by rw [sizeLine_eq]; exact hc, ?_⟩))
        refine ⟨fun e => ?_, fun _ e => ?_, fun _ _ => rdTup h R (rs.append rs')⟩
        · subst e
          cases rs
          exact rdOk h R (.tup hs' rs')
        · subst e
          cases rs'
          rw [List.append_nil] at h
          exact rdOk h R (.tup hs rs)
      · exact h.elim
    | _ => exact h.elim
  | ref hi =>
    cases W with
    | ref hj =>
      simp only [opAdd] at h
      split at h
      · rename_i i a1 j b1 l1 l2 h1 h2
        split at h
        · rename_i hc
          obtain ⟨vs, e1, r1⟩ := R.obj _ _ _ h1 hi
          obtain ⟨ws, e2, r2⟩ := R.obj _ _ _ h2 hj
          rw [r1.length, r2.length] at hc
          exact Or.inr (Or.inr (Or.inr ⟨_, _, _, _, rfl, rfl, e1, e2, by rw [sizeLine_eq]; exact hc, fun l hl => rdNew h R (r1.append r2) hl⟩))
        · exact h.elim
      · exact h.elim
    | _ => exact h.elim
  | _ => exact h.elim
end
end Sg
set_option Elab.async false
set_option linter.all false
set_option maxRecDepth 100000
set_option maxHeartbeats 4000000
namespace Sg
open PySem
mutual
def datF (rec : Nat → Option PyData) : PV → Option PyData
  | .non => some .none
  | .bl b => some (.bool b)
  | .int i => some (.int i)
  | .str x => some (.str x)
  | .tup xs => (datFs rec xs).map .tuple
  | .fro xs => (datFs rec xs).map .list
  | .ref i => rec i
  | _ => none
def datFs (rec : Nat → Option PyData) : List PV → Option (List PyData)
  | [] => some []
  | x :: xs => match datF rec x, datFs rec xs with
    | some d, some ds => some (d :: ds)
    | _, _ => none
end
def datR (st : Store) : Nat → Nat → Option PyData
  | 0, _ => none
  | f + 1, i => match st[i]? with
    | some (.lst xs) => (datFs (datR st f) xs).map .list
    | _ => none
def dat (st : Store) (p : PV) : Option PyData := datF (datR st 64) p
def eqD (st : Store) (x y : PV) : Option Bool := match dat st x, dat st y with
  | some d, some e => if SeqAt.shaped d && SeqAt.shaped e then some (PyData.eqv d e) else none
  | _, _ => none
def eqP (st : Store) (x y : PV) : Option Bool := match x, y with
  | .int a, .int b => some (decide (a = b))
  | .str a, .str b => some (decide (a = b))
  | .bl a, .bl b => some (decide (a = b))
  | .non, .non => some true
  | .non, .int _ => some false
  | .int _, .non => some false
  | .non, .str _ => some false
  | .str _, .non => some false
  | .int _, .str _ => some false
  | .str _, .int _ => some false
  | x, y => eqD st x y
def opEq : Op2 := fun x y st => match eqP st x y with
  | some b => .ok (.bl b, st)
  | none => .stuck
def opNe : Op2 := fun x y st => match eqP st x y with
  | some b => .ok (.bl (!b), st)
  | none => .stuck
abbrev keyB := keyOk
def dGet (kvs : List (PV × PV)) (k : PV) : Option PV := (kvs.find? fun q => decide (q.1 = k)).map (·.2)
def opPow : Op2 := fun x y st => match x, y with
  | .int i, .int j => if 0 ≤ j ∧ (Builtin.Int.intBits i : Int) * j ≤ 2 ^ 27 then .ok (.int (i ^ j.toNat), st) else .stuck
  | _, _ => .stuck
end Sg
namespace Sg
open PySem PySem.Spec PyProof.Rows L2
section
variable {X : Cx}
theorem od_mulI : OpD X (binaryOp .Mult) opMul := OpR.to op_mulW fun x y H Q ⟨ad, st, p, q, R, V, W, h⟩ => by
  cases V with
  | int i =>
    cases W with
    | int j =>
      simp only [opMul] at h
      split at h
      · rename_i hc
        exact ⟨i, j, rfl, rfl, of_decide_eq_true (p := i.natAbs.log2 + j.natAbs.log2 < 1000000) hc, rdOk h R (.int _)⟩
      · exact h.elim
    | _ => exact h.elim
  | _ => exact h.elim
theorem od_fdiv : OpD X (binaryOp .FloorDiv) opFdiv := OpR.to op_fdivW fun x y H Q ⟨ad, st, p, q, R, V, W, h⟩ => by
  cases V with
  | int i =>
    cases W with
    | int j =>
      simp only [opFdiv] at h
      split at h
      · rename_i hc
        exact ⟨i, j, rfl, rfl, hc, rdOk h R (.int _)⟩
      · exact h.elim
    | _ => exact h.elim
  | _ => exact h.elim
theorem od_mod : OpD X (binaryOp .Mod) opMod := OpR.to op_mod fun x y H Q ⟨ad, st, p, q, R, V, W, h⟩ => by
  cases V with
  | int i =>
    cases W with
    | int j =>
      simp only [opMod] at h
      split at h
      · rename_i hc
        exact ⟨i, j, rfl, rfl, hc, rdOk h R (.int _)⟩
      · exact h.elim
    | _ => exact h.elim
  | _ => exact h.elim
theorem od_pow : OpD X (binaryOp .Pow) opPow := OpR.to (opI (C := fun i j => 0 ≤ j ∧ (Builtin.Int.intBits i : Int) * j ≤ 2 ^ 27) fun _ _ _ _ _ _ _ hc q => pow_int hc.1 hc.2 q) fun x y H Q ⟨ad, st, p, q, R, V, W, h⟩ => by
  cases V with
  | int i =>
    cases W with
    | int j =>
      simp only [opPow] at h
      split at h
      · rename_i hc
        exact ⟨i, j, rfl, rfl, hc, rdOk h R (.int _)⟩
      · exact h.elim
    | _ => exact h.elim
  | _ => exact h.elim
theorem od_lt : OpD X (compareOp .Lt) opLt := OpR.to (op_lt.or op_lt_str) fun x y H Q ⟨ad, st, p, q, R, V, W, h⟩ => by
  cases V with
  | int i =>
    cases W with
    | int j => exact Or.inl ⟨i, j, rfl, rfl, rdOk h R (.bl _)⟩
    | _ => exact h.elim
  | str i =>
    cases W with
    | str j => exact Or.inr ⟨i, j, rfl, rfl, rdOk h R (.bl _)⟩
    | _ => exact h.elim
  | _ => exact h.elim
theorem od_gt : OpD X (compareOp .Gt) opGt := OpR.to op_gt fun x y H Q ⟨ad, st, p, q, R, V, W, h⟩ => by
  cases V with
  | int i =>
    cases W with
    | int j => exact ⟨i, j, rfl, rfl, rdOk h R (.bl _)⟩
    | _ => exact h.elim
  | _ => exact h.elim
theorem od_ge : OpD X (compareOp .GtE) opGe := OpR.to op_ge fun x y H Q ⟨ad, st, p, q, R, V, W, h⟩ => by
  cases V with
  | int i =>
    cases W with
    | int j => exact ⟨i, j, rfl, rfl, rdOk h R (.bl _)⟩
    | _ => exact h.elim
  | _ => exact h.elim
section
variable {W : Wd} {ad : List Addr} {H : Hp} {st : Store}
mutual
theorem dp_of {rec : Nat → Option PyData} (hr : ∀ (i : Nat) a d, ad[i]? = some a → rec i = some d → Dp W.K H (.ref a) d) : ∀ {p : PV} {v : V} {d : PyData}, VR W ad H p v → datF rec p = some d → Dp W.K H v d
  | _, _, _, .non, h => by simp only [datF, Option.some.injEq] at h; subst h; exact .non
  | _, _, _, .bl b, h => by simp only [datF, Option.some.injEq] at h; subst h; exact .bl b
  | _, _, _, .int b, h => by simp only [datF, Option.some.injEq] at h; subst h; exact .int b
  | _, _, _, .str b, h => by simp only [datF, Option.some.injEq] at h; subst h; exact .str b
  | _, _, _, .ty _, h => by simp [datF] at h
  | _, _, _, .glb _, h => by simp [datF] at h
  | _, _, _, .tup hs r, h => by
    simp only [datF, Option.map_eq_some_iff] at h
    obtain ⟨ds, h1, h2⟩ := h
    subst h2
    exact .tup hs.sq (dps_of hr r h1)
  | _, _, _, .fro hs r, h => by
    simp only [datF, Option.map_eq_some_iff] at h
    obtain ⟨ds, h1, h2⟩ := h
    subst h2
    exact .lst hs.sq (dps_of hr r h1)
  | _, _, _, .ref hi, h => by simp only [datF] at h; exact hr _ _ _ hi h
theorem dps_of {rec : Nat → Option PyData} (hr : ∀ (i : Nat) a d, ad[i]? = some a → rec i = some d → Dp W.K H (.ref a) d) : ∀ {p : List PV} {v : List V} {d : List PyData}, VRs W ad H p v → datFs rec p = some d → DpAll W.K H v d
  | _, _, _, .nil, h => by simp only [datFs, Option.some.injEq] at h; subst h; exact .nil
  | _, _, _, .cons r t, h => by
    simp only [datFs] at h
    split at h
    · rename_i h1 h2
      cases h
      exact .cons (dp_of hr r h1) (dps_of hr t h2)
    · cases h
end
theorem dpR_of (R : RO W ad H st) : ∀ (f i : Nat) a d, ad[i]? = some a → datR st f i = some d → Dp W.K H (.ref a) d
  | 0, _, _, _, _, h => by simp [datR] at h
  | f + 1, i, a, d, ha, h => by
    simp only [datR] at h
    split at h
    · rename_i xs hx
      simp only [Option.map_eq_some_iff] at h
      obtain ⟨ds, h1, h2⟩ := h
      subst h2
      obtain ⟨vs, e, r⟩ := R.obj i _ a hx ha
      exact .lst (SqL.of e) (dps_of (fun i a d => dpR_of R f i a d) r h1)
    · cases h
theorem dat_of (R : RO W ad H st) {p : PV} {v : V} {d : PyData} (V : VR W ad H p v) (h : dat st p = some d) : Dp W.K H v d := dp_of (dpR_of R 64) V h
end
theorem eqP_of {ad : List Addr} {H : Hp} {st : Store} {p q : PV} {x y : V} {b : Bool} (R : RO X.wd ad H st) (V : VR X.wd ad H p x) (W : VR X.wd ad H q y) (h : eqP st p q = some b) :
    (scal x y = true ∧ decide (x = y) = b) ∨ ∃ d e, Dp X.K H x d ∧ Dp X.K H y e ∧ SeqAt.shaped d = true ∧ SeqAt.shaped e = true ∧ PyData.eqv d e = b := by
  have go : eqD st p q = some b → ∃ d e, Dp X.K H x d ∧ Dp X.K H y e ∧ SeqAt.shaped d = true ∧ SeqAt.shaped e = true ∧ PyData.eqv d e = b := fun h => by
    unfold eqD at h
    split at h
    · rename_i d e h1 h2
      split at h
      · rename_i hc
        simp only [Bool.and_eq_true] at hc
        cases h
        exact ⟨d, e, dat_of R V h1, dat_of R W h2, hc.1, hc.2, rfl⟩
      · cases h
    · cases h
  cases V <;> cases W <;> first
    | (simp only [eqP, Option.some.injEq] at h; subst h; left; constructor <;> first | rfl | simp)
    | exact Or.inr (go h)
theorem od_eq (hu : X.A.units + 64 < cLine) : OpD X (compareOp .Eq) opEq := OpR.to (op_eq.or (op_eqD hu)) fun x y H Q ⟨ad, st, p, q, R, V, W, h⟩ => by
  unfold opEq at h
  split at h
  · rename_i b hb
    rcases eqP_of R V W hb with ⟨h1, h2⟩ | ⟨d, e, h1, h2, h3, h4, h5⟩
    · exact Or.inl ⟨h1, by rw [h2]; exact rdOk h R (.bl _)⟩
    · exact Or.inr ⟨d, e, h1, h2, h3, h4, by rw [h5]; exact rdOk h R (.bl _)⟩
  · exact h.elim
theorem od_ne (hu : X.A.units + 64 < cLine) : OpD X (compareOp .NotEq) opNe := OpR.to (op_ne.or (op_neD hu)) fun x y H Q ⟨ad, st, p, q, R, V, W, h⟩ => by
  unfold opNe at h
  split at h
  · rename_i b hb
    rcases eqP_of R V W hb with ⟨h1, h2⟩ | ⟨d, e, h1, h2, h3, h4, h5⟩
    · exact Or.inl ⟨h1, by rw [h2]; exact rdOk h R (.bl _)⟩
    · exact Or.inr ⟨d, e, h1, h2, h3, h4, by rw [h5]; exact rdOk h R (.bl _)⟩
  · exact h.elim
end
end Sg
set_option Elab.async false
set_option linter.all false
set_option maxRecDepth 100000
set_option maxHeartbeats 4000000
namespace Sg
open PySem
/-- the items of a sequence -/
def seqP (st : Store) : PV → Option (List PV)
  | .tup xs => some xs
  | .fro xs => some xs
  | .ref i => match st[i]? with
    | some (.lst xs) => some xs
    | _ => none
  | _ => none
def fnLen : Fn := fun vs st => match vs with
  | [.str s] => if s.length ≤ LINE then .ok (.int s.length, st) else .stuck
  | [.ref i] => match st[i]? with
    | some (.lst xs) => .ok (.int xs.length, st)
    | some (.dic kvs) => .ok (.int kvs.length, st)
    | _ => .stuck
  | [.tup xs] => .ok (.int xs.length, st)
  | [.fro xs] => .ok (.int xs.length, st)
  | _ => .stuck
def isSub (a b : String) : Bool := decide (a = b) || (decide (a = "bool") && decide (b = "int"))
def clsNames : List String := ["bool", "int", "str", "tuple", "list", "dict"]
def fnAbs : Fn := fun vs st => match vs with
  | [.int i] => .ok (.int (if i < 0 then -i else i), st)
  | _ => .stuck
def fnMin2 : Fn := fun vs st => match vs with
  | [.int i, .int j] => .ok (.int (if j < i then j else i), st)
  | _ => .stuck
def fnMax2 : Fn := fun vs st => match vs with
  | [.int i, .int j] => .ok (.int (if j > i then j else i), st)
  | _ => .stuck
def asBls : List PV → Option (List Bool)
  | [] => some []
  | .bl i :: r => (asBls r).map (i :: ·)
  | _ => none
/-- a list's items -/
def lstP (st : Store) : PV → Option (List PV)
  | .fro xs => some xs
  | .ref i => match st[i]? with
    | some (.lst xs) => some xs
    | _ => none
  | _ => none
def fnAll : Fn := fun vs st => match vs with
  | [x] => match (lstP st x).bind asBls with
    | some bs => .ok (.bl (bs.all id), st)
    | none => .stuck
  | _ => .stuck
def isDic (st : Store) : PV → Bool
  | .ref i => match st[i]? with
    | some (.dic _) => true
    | _ => false
  | _ => false
/-- the place that an index means -/
def ixP (n : Nat) (i : Int) : Option Nat := if 0 ≤ i then (if i < n then some i.toNat else none) else if -(n : Int) ≤ i then some (i + n).toNat else none
def opIx : Op2 := fun x y st => match y with
  | .int i => match x with
    | .str s => if s.length ≤ LINE then match ixP s.cps.toList.length i with
        | some j => match s.cps.toList[j]? with
          | some c => .ok (.str ⟨#[c]⟩, st)
          | none => .stuck
        | none => .stuck
      else .stuck
    | x => match seqP st x with
      | some xs => match ixP xs.length i with
        | some j => match xs[j]? with
          | some v => .ok (v, st)
          | none => .stuck
        | none => .stuck
      | none => .stuck
  | _ => .stuck
/-- d[k] -/
def opDGet : Op2 := fun x y st => match x with
  | .ref i => match st[i]? with
    | some (.dic kvs) => if keyB y then match dGet kvs y with
        | some v => .ok (v, st)
        | none => .stuck
      else .stuck
    | _ => .stuck
  | _ => .stuck
abbrev dPut := dictPut
/-- o[i] = v -/
def setP (o i v : PV) (st : Store) : Res Store := match o with
  | .ref n => match st[n]? with
    | some (.lst xs) => match i with
      | .int k => match ixP xs.length k with
        | some j => .ok (st.set n (.lst (xs.set j v)))
        | none => .stuck
      | _ => .stuck
    | some (.dic kvs) => if keyB i && decide (kvs.length < LINE) then .ok (st.set n (.dic (dPut kvs i v))) else .stuck
    | _ => .stuck
  | _ => .stuck
def sSub (o i e : EvE) : EvS := fun σ st => e σ st >>= fun x => force x.1 fun v => o σ x.2 >>= fun y => i σ y.2 >>= fun z => force z.1 fun w => setP y.1 w v z.2 >>= fun st' => .ok (.nx, σ, st')
theorem sSub_eq (o i e : EvE) (σ : Slots) (st : Store) : sSub o i e σ st = (e σ st >>= fun x => o σ x.2 >>= fun y => i σ y.2 >>= fun z => setP y.1 z.1 x.1 z.2 >>= fun st' => .ok (.nx, σ, st')) := by simp [sSub]
def sIxP (n d : Nat) : Option Int → Nat
  | none => d
  | some i => if i < 0 then (i + n).toNat else min i.toNat n
def cutP {α : Type} (xs : List α) (lo hi : Option Int) : List α := (xs.drop (sIxP xs.length 0 lo)).take (sIxP xs.length xs.length hi - sIxP xs.length 0 lo)
end Sg
namespace Sg
open PySem PySem.Spec PyProof.Rows L2
section
variable {X : Cx}
/-- a function of the values -/
def rCOf (X : Cx) (F : Fn) : List V → Hp → VK → Prop := fun vs H Q => ∃ ad st ps, RO X.wd ad H st ∧ VRs X.wd ad H ps vs ∧ RdE X.wd (F ps st) ad H Q
theorem CallR.to {f : Value} {r r' : List V → Hp → VK → Prop} (h : CallR X f r) (i : ∀ xs H Q, r' xs H Q → r xs H Q) : CallR X f r' :=
  fun pins s σ H xs us Q I r q => h pins s σ H xs us Q I r (i xs H Q q)
variable {e : Expr} {es : List Expr} {ma : EvA} {x : Str} {p pos : Pos} {id T : String} {F : Fn}
theorem goC {ma : EvA} {F : Fn} {σ : LSt} {H : Hp} {Q : VK} (q : tOfE X.wd (fun σ st => ma σ st >>= fun xs => F xs.1 xs.2) σ H Q) : tOfA X.wd ma σ H fun vs H1 => rCOf X F vs H1 Q := by
  obtain ⟨ad, st, σp, S, q⟩ := q
  exact goA S q fun x ad1 H1 v e1 E1 S1 V1 q1 => ⟨ad1, x.2, x.1, S1.ro, V1, q1⟩
theorem se_callB (hc : CallR X (.builtin id) (rCOf X F)) (hg : Gl X x) (hm : X.mg x = none) (hv : bootBuiltins x = some (.builtin id)) (ha : SA X (e :: es) ma) (hn : x ≠ "__name__" := by decide)
    (hdb : (x == ("__debug__" : Str)) = false := by decide) (he : starEach (e :: es) X.env = (false, eval e X.env) :: starEach es X.env := by rfl)
    (hpl : (backTo pos (starEach es X.env)).any (·.1) = false := by rfl) : SE X (.Call (.Name x p) (e :: es) [] pos) (eCall F ma) :=
  se_gc (PE.to (pe_callB hc hg hm hv ha hn hdb he hpl) fun σ H Q q => goC q)
theorem sa_nil : SA X [] aNil := PA.to pa_nil fun σ H Q ⟨ad, st, σp, S, q⟩ => RdG.ok q S.ro [] .nil
theorem sa_cons {m : EvE} (ha : SE X e m) (hr : SA X es ma) (hs : starEach (e :: es) X.env = (false, eval e X.env) :: starEach es X.env := by rfl) : SA X (e :: es) (aCons m ma) :=
  PA.to (pa_cons ha hr hs) fun σ H Q ⟨ad, st, σp, S, q⟩ => by
    unfold RdA at q
    rw [aCons_eq] at q
    exact goE S q fun x ad1 H1 v e1 E1 S1 V1 q1 => goA S1 q1 fun y ad2 H2 w e2 E2 S2 V2 q2 =>
    RdG.ok q2 S2.ro (v :: w) (.cons (V1.mono E2) V2)
theorem se_tup {k} (h : SA X es ma) : SE X (.Tuple es k pos) (eTup ma) := PE.to (pe_tupU h) fun σ H Q ⟨ad, st, σp, S, q⟩ => goA S q fun x ad1 H1 v e1 E1 S1 V1 q1 => by
  split at q1
  · rename_i hc
    exact ⟨by rw [← V1.length, sizeLine_eq]; exact hc, rdTup q1 S1.ro V1⟩
  · exact q1.elim
theorem se_lst (h : SA X es ma) : SE X (.List es pos) (eLst ma) := PE.to (pe_lst h) fun σ H Q ⟨ad, st, σp, S, q⟩ => goA S q fun x ad1 H1 v e1 E1 S1 V1 q1 => by
  split at q1
  · rename_i hc
    exact ⟨by rw [← V1.length, sizeLine_eq]; exact hc, fun l hl => rdNew q1 S1.ro V1 hl⟩
  · exact q1.elim
section
variable {W : Wd} {ad : List Addr} {H : Hp} {st : Store}
theorem lstP_of (R : RO W ad H st) {p : PV} {v : V} {xs : List PV} (V : VR W ad H p v) (h : lstP st p = some xs) : ∃ a vs, v = .ref a ∧ SqL W.K H a vs ∧ VRs W ad H xs vs := by
  cases V with
  | fro hs r => cases h; exact ⟨_, _, rfl, hs.sq, r⟩
  | ref hi =>
    simp only [lstP] at h
    split at h
    · rename_i hx
      cases h
      obtain ⟨vs, e, r⟩ := R.obj _ _ _ hx hi
      exact ⟨_, vs, rfl, SqL.of e, r⟩
    · cases h
  | _ => cases h
theorem seqP_of (R : RO W ad H st) {p : PV} {v : V} {xs : List PV} (V : VR W ad H p v) (h : seqP st p = some xs) : ∃ a vs, v = .ref a ∧ (SqL W.K H a vs ∨ SqT W.K H a vs) ∧ VRs W ad H xs vs := by
  cases V with
  | tup hs r => cases h; exact ⟨_, _, rfl, Or.inr hs.sq, r⟩
  | fro hs r => cases h; exact ⟨_, _, rfl, Or.inl hs.sq, r⟩
  | ref hi =>
    simp only [seqP] at h
    split at h
    · rename_i hx
      cases h
      obtain ⟨vs, e, r⟩ := R.obj _ _ _ hx hi
      exact ⟨_, vs, rfl, Or.inl (SqL.of e), r⟩
    · cases h
  | _ => cases h
theorem asBls_eq : ∀ {xs : List PV} {ns : List Bool}, asBls xs = some ns → xs = ns.map .bl
  | [], ns, h => by simp only [asBls, Option.some.injEq] at h; subst h; rfl
  | .bl i :: r, ns, h => by
    simp only [asBls, Option.map_eq_some_iff] at h
    obtain ⟨m, h1, h2⟩ := h
    subst h2
    rw [asBls_eq h1]; rfl
  | .non :: _, _, h | .int _ :: _, _, h | .str _ :: _, _, h | .tup _ :: _, _, h | .fro _ :: _, _, h | .ref _ :: _, _, h | .ty _ :: _, _, h | .glb _ :: _, _, h => by simp [asBls] at h
theorem VRs.one {p : PV} {vs : List V} (h : VRs W ad H [p] vs) : ∃ v, vs = [v] ∧ VR W ad H p v := by
  cases h with
  | cons r t => cases t; exact ⟨_, rfl, r⟩
theorem VRs.two {p q : PV} {vs : List V} (h : VRs W ad H [p, q] vs) : ∃ v w, vs = [v, w] ∧ VR W ad H p v ∧ VR W ad H q w := by
  cases h with
  | cons r t =>
    obtain ⟨w, e, r2⟩ := t.one
    subst e
    exact ⟨_, _, rfl, r, r2⟩
end
theorem DR.length {W : Wd} {ad : List Addr} {H : Hp} {p : List (PV × PV)} {v : List (Key × V)} (h : DR W ad H p v) : p.length = v.length := by
  induction h with
  | nil => rfl
  | cons _ _ ih => rw [List.length_cons, List.length_cons, ih]
theorem call_lenDic : CallR X (.builtin "len") (fun xs H Q => ∃ p kvs, xs = [.ref p] ∧ H p = some (.dK kvs) ∧ Q (.int kvs.length) H) := by
  intro pins s σ H xs us Q I r h
  obtain ⟨p, kvs, e1, e2, q⟩ := h
  subst e1
  obtain ⟨u, e3, rx⟩ := vals1 r
  subst e3; cases rx
  exact d_len I (.inl e2) fun t s' I' => ⟨.int kvs.length, H, I', ⟨t, rfl⟩, q⟩
theorem cd_len : CallR X (.builtin "len") (rCOf X fnLen) := CallR.to (call_len.or call_lenDic) fun xs H Q ⟨ad, st, ps, R, Vs, h⟩ => by
  unfold fnLen at h
  split at h
  · obtain ⟨v, e, r⟩ := Vs.one
    subst e
    cases r
    split at h
    · rename_i hc
      exact Or.inl ⟨_, _, rfl, ⟨by rw [sizeLine_eq]; exact hc, rfl⟩, rdOk h R (.int _)⟩
    · exact h.elim
  · obtain ⟨v, e, r⟩ := Vs.one
    subst e
    cases r with
    | ref hi =>
      split at h
      · rename_i hx
        obtain ⟨vs, e, r⟩ := R.obj _ _ _ hx hi
        refine Or.inl ⟨_, _, rfl, Or.inl ⟨vs, SqL.of e, rfl⟩, ?_⟩
        rw [← r.length]
        exact rdOk h R (.int _)
      · rename_i hx
        obtain ⟨vs, e, r⟩ := R.obj _ _ _ hx hi
        refine Or.inr ⟨_, vs, rfl, e, ?_⟩
        rw [← r.length]
        exact rdOk h R (.int _)
      · exact h.elim
  · obtain ⟨v, e, r⟩ := Vs.one
    subst e
    cases r with
    | tup hs r =>
      refine Or.inl ⟨_, _, rfl, Or.inr ⟨_, hs.sq, rfl⟩, ?_⟩
      rw [← r.length]
      exact rdOk h R (.int _)
  · obtain ⟨v, e, r⟩ := Vs.one
    subst e
    cases r with
    | fro hs r =>
      refine Or.inl ⟨_, _, rfl, Or.inl ⟨_, hs.sq, rfl⟩, ?_⟩
      rw [← r.length]
      exact rdOk h R (.int _)
  · exact h.elim
theorem cd_abs : CallR X (.builtin "abs") (rCOf X fnAbs) := CallR.to call_abs fun xs H Q ⟨ad, st, ps, R, Vs, h⟩ => by
  unfold fnAbs at h
  split at h
  · obtain ⟨v, e, r⟩ := Vs.one
    subst e; cases r
    exact ⟨_, rfl, rdOk h R (.int _)⟩
  · exact h.elim
theorem cd_min2 (hc : X.calm = true) : CallR X (.builtin "min") (rCOf X fnMin2) := CallR.to (call_min2 hc) fun xs H Q ⟨ad, st, ps, R, Vs, h⟩ => by
  unfold fnMin2 at h
  split at h
  · obtain ⟨v, w, e, r1, r2⟩ := Vs.two
    subst e; cases r1; cases r2
    exact ⟨_, _, rfl, rdOk h R (.int _)⟩
  · exact h.elim
theorem cd_max2 (hc : X.calm = true) : CallR X (.builtin "max") (rCOf X fnMax2) := CallR.to (call_max2 hc) fun xs H Q ⟨ad, st, ps, R, Vs, h⟩ => by
  unfold fnMax2 at h
  split at h
  · obtain ⟨v, w, e, r1, r2⟩ := Vs.two
    subst e; cases r1; cases r2
    exact ⟨_, _, rfl, rdOk h R (.int _)⟩
  · exact h.elim
theorem cd_all (hc : X.calm = true) : CallR X (.builtin "all") (rCOf X fnAll) := CallR.to (cr_all hc) fun xs H Q ⟨ad, st, ps, R, Vs, h⟩ => by
  unfold fnAll at h
  split at h
  · obtain ⟨v, e, r⟩ := Vs.one
    subst e
    split at h
    · rename_i hx
      obtain ⟨ys, h1, h2⟩ := Option.bind_eq_some_iff.mp hx
      obtain ⟨a, vs, e, hs, r2⟩ := lstP_of R r h1
      rw [asBls_eq h2] at r2
      subst e
      exact ⟨a, _, rfl, by rw [← r2.bls]; exact hs, rdOk h R (.bl _)⟩
    · exact h.elim
  · exact h.elim
end
end Sg
set_option Elab.async false
set_option linter.all false
set_option maxRecDepth 100000
set_option maxHeartbeats 4000000
namespace Sg
open PySem PySem.Spec PyProof.Rows L2
section
variable {X : Cx}
theorem keyP_inj {a b : Key} (h : keyP a = keyP b) : a = b := by
  cases a <;> cases b <;> simp_all [keyP]
theorem keyP_vr {W : Wd} {ad : List Addr} {H : Hp} {p : PV} {v : V} (V : VR W ad H p v) (h : keyB p = true) : ∃ k, p = keyP k ∧ v = kV k := by
  cases V with
  | int i => exact ⟨.inl i, rfl, rfl⟩
  | str i => exact ⟨.inr i, rfl, rfl⟩
  | _ => cases h
theorem DR.get {W : Wd} {ad : List Addr} {H : Hp} {k : Key} : ∀ {ps : List (PV × PV)} {vs : List (Key × V)}, DR W ad H ps vs → match dGet ps (keyP k) with
    | some p => ∃ v, valV vs k = some v ∧ VR W ad H p v
    | none => valV vs k = none
  | _, _, .nil => rfl
  | _, _, .cons (k := j) (p := p) (v := v) (ps := ps) (vs := vs) r t => by
    have ih := DR.get (k := k) t
    by_cases e : j = k
    · subst e
      have e1 : dGet ((keyP j, p) :: ps) (keyP j) = some p := by simp [dGet]
      rw [e1]
      exact ⟨v, valV_pos rfl, r⟩
    · have e1 : dGet ((keyP j, p) :: ps) (keyP k) = dGet ps (keyP k) := by
        have : ¬ keyP j = keyP k := fun z => e (keyP_inj z)
        simp [dGet, List.find?_cons, this]
      rw [e1, valV_neg (show ¬ (j, v).1 = k from e)]
      exact ih
def rMOf (X : Cx) (F : PV → Fn) : V → List V → Hp → VK → Prop := fun x vs H Q => ∃ ad st p ps, RO X.wd ad H st ∧ VR X.wd ad H p x ∧ VRs X.wd ad H ps vs ∧ RdE X.wd (F p ps st) ad H Q
theorem MtR.to {id : String} {r r' : V → List V → Hp → VK → Prop} (h : MtR X id r) (i : ∀ x xs H Q, r' x xs H Q → r x xs H Q) : MtR X id r' :=
  fun pins s σ H x xs v us Q I rx rs q => h pins s σ H x xs v us Q I rx rs (i x xs H Q q)
/-- the receiver is of a built-in type, with no dict of its own -/
def KindOk (X : Cx) (T : String) (x : V) (H : Hp) : Prop := ∀ (pins : List (Addr × Obj)) (s : Shared) (σ : LSt) (u : Value), Inv X pins σ H s → RelV x u →
  s.TypeIs u T ∧ ∀ a, u = .ref a → ∃ ob, s.heap.get? a = some ob ∧ ob.dict = none
def KindD (X : Cx) (T : String) (k : Store → PV → Bool) : Prop := ∀ ad H st p x, RO X.wd ad H st → VR X.wd ad H p x → k st p = true → KindOk X T x H
variable {o e : Expr} {es : List Expr} {mo : EvE} {ma : EvA} {name : Str} {apos cpos : Pos} {T id : String} {F : PV → Fn} {k : Store → PV → Bool}
/-- which method of which built-in type the name means for such a receiver -/
def MethR (X : Cx) (name : Str) (k : Store → PV → Bool) (F : PV → Fn) : Prop := ∀ ad H st p x, RO X.wd ad H st → VR X.wd ad H p x → k st p = true →
  ∃ (T id : String) (F' : PV → Fn), PlainAttrs T ∧ Slot T name id ∧ typeOf (.builtin id) = pure (.type "method_descriptor") ∧ KindOk X T x H ∧ MtR X id (rMOf X F') ∧ F' p = F p
theorem MethR.mk (pa : PlainAttrs T) (slot : Slot T name id) (hty : typeOf (.builtin id) = pure (.type "method_descriptor")) (hm : MtR X id (rMOf X F)) (hk : KindD X T k) : MethR X name k F :=
  fun ad H st p x R V h => ⟨T, id, F, pa, slot, hty, hk ad H st p x R V h, hm, rfl⟩
/-- a write of a tracked object -/
theorem ni_lst {H : Hp} {a : Addr} {vs : List V} (e : H a = some (.lst vs)) : ∀ u, H a = some u → ¬ Imu u := fun u z i => by rw [e] at z; cases z; exact i
theorem VRs.dropLast {W : Wd} {ad : List Addr} {H : Hp} {p : List PV} {v : List V} (h : VRs W ad H p v) : VRs W ad H p.dropLast v.dropLast := by
  rw [List.dropLast_eq_take, List.dropLast_eq_take, h.length]
  exact h.take _
theorem IxR.to {r r' : R2} (h : IxR X r) (i : ∀ x y H Q, r' x y H Q → r x y H Q) : IxR X r' := fun v s pins sh σ H x y u w Q I rx ry q hs => h v s pins sh σ H x y u w Q I rx ry (i x y H Q q) hs
theorem id_seq : IxR X (rOf X opIx) := IxR.to ix_seq fun x y H Q ⟨ad, st, p, q, R, V, W, h⟩ => by
  unfold opIx at h
  split at h
  · rename_i i
    cases W
    split at h
    · cases V
      split at h
      · rename_i hl
        split at h
        · rename_i j hj
          split at h
          · rename_i c hc
            refine Or.inr (Or.inr ⟨_, _, c, rfl, rfl, by rw [sizeLine_eq]; exact hl, ?_, rdOk h R (.str _)⟩)
            unfold atI
            rw [show ixN _ _ = some j from hj]
            exact hc
          · exact h.elim
        · exact h.elim
      · exact h.elim
    · split at h
      · rename_i ys hy
        split at h
        · rename_i j hj
          split at h
          · rename_i v hv
            obtain ⟨a, vs, e, hs, r⟩ := seqP_of R V hy
            subst e
            obtain ⟨w, hw, rw'⟩ := r.get hv
            have hat : atI vs i = some w := by
              unfold atI
              rw [← r.length, show ixN ys.length i = some j from hj]
              exact hw
            rcases hs with hs | hs
            · exact Or.inl ⟨a, vs, _, w, rfl, rfl, hs, hat, rdOk h R rw'⟩
            · exact Or.inr (Or.inl ⟨a, vs, _, w, rfl, rfl, hs, hat, rdOk h R rw'⟩)
          · exact h.elim
        · exact h.elim
      · exact h.elim
  · exact h.elim
variable {a b : Expr} {mb mc : EvE} {pos : Pos}
theorem se_ix (ha : SE X a mo) (hb : SE X b mb) (hs : PlainIx b := by first | exact fun _ _ => rfl | (intro _ _; rfl)) : SE X (.Subscript a b pos) (eBinG opIx mo mb) :=
  se_gc (PE.to (pe_ix id_seq ha hb hs) fun σ H Q q => go2 q)
theorem se_dget (hu : X.A.units + 64 < cLine) (ha : SE X a mo) (hb : SE X b mb) (hs : NoSl b := by first | exact fun _ _ => rfl | (intro _ _; rfl)) : SE X (.Subscript a b pos) (eBinG opDGet mo mb) := by
  refine se_gc (PE.to (pe_dget (by omega) ha hb hs) fun σ H Q ⟨ad, st, σp, S, q⟩ => goE S q fun x ad1 H1 v e1 E1 S1 V1 q1 => goE S1 q1 fun y ad2 H2 w e2 E2 S2 V2 h => ?_)
  have V1' := V1.mono E2
  unfold opDGet at h
  split at h
  · rename_i i hxi
    rw [hxi] at V1'
    cases V1' with
    | ref hi =>
      split at h
      · rename_i kvs hx
        obtain ⟨ws, e, r⟩ := S2.ro.obj _ _ _ hx hi
        split at h
        · rename_i hk
          split at h
          · rename_i u hu'
            obtain ⟨k, e3, e4⟩ := keyP_vr V2 hk
            have g := r.get (k := k)
            rw [← e3, hu'] at g
            obtain ⟨z, g1, g2⟩ := g
            subst e4
            exact ⟨_, z, rfl, by rw [← g1]; exact DGet.k e, rdOk h S2.ro g2⟩
          · exact h.elim
        · exact h.elim
      · exact h.elim
  · exact h.elim
end
end Sg
set_option Elab.async false
set_option linter.all false
set_option maxRecDepth 100000
set_option maxHeartbeats 4000000
namespace Sg
open PySem PySem.Spec PyProof.Rows L2
def SqB (K : PySem.W.Frag) (tp : Bool) (H : Hp) (a : Addr) (xs : List V) : Prop := if tp then SqT K H a xs else SqL K H a xs
def IsB (tp : Bool) (h : Heap) (a : Addr) (its : Array Value) : Prop := if tp then h.IsTuple a its else h.IsList a its
def ItB (tp : Bool) (h : Heap) (it a : Addr) (i : Nat) : Prop := if tp then h.IsTupleIter it a i else h.IsListIter it a i
section
variable {X : Cx} {pins : List (Addr × Obj)} {σ : L2.St} {H : Hp} {s : Shared} {a : Addr} {xs ys : List V} {tp : Bool}
theorem SqB.at (I : Inv X pins σ H s) (h : SqB X.K tp H a xs) : ∃ its : List Value, Vals xs its ∧ IsB tp s.heap a its.toArray ∧ xs.length ≤ sizeLine := by
  cases tp with
  | true =>
    obtain ⟨its, r, p, z⟩ := I.tuple h
    exact ⟨its, r, p, z⟩
  | false =>
    obtain ⟨its, r, p, z⟩ := I.list h
    exact ⟨its, r, p.isList, z⟩
theorem SqB.inj (I : Inv X pins σ H s) (h : SqB X.K tp H a xs) (h' : SqB X.K tp H a ys) : xs = ys := by
  cases tp with
  | true => exact I.tuple_inj h h'
  | false => exact I.list_inj h h'
theorem ItB.obj {h : Heap} {it a : Addr} {i : Nat} (st : ItB tp h it a i) : ∃ o, h.get? it = some o ∧ ∀ v, o.data ≠ .cell v := by
  cases tp with
  | true =>
    obtain ⟨o, e, _, d⟩ := (st : h.IsTupleIter it a i)
    exact ⟨o, e, fun v z => by rw [d] at z; cases z⟩
  | false =>
    obtain ⟨o, e, _, d⟩ := (st : h.IsListIter it a i)
    exact ⟨o, e, fun v z => by rw [d] at z; cases z⟩
theorem ItB.keep {h h' : Heap} {it a : Addr} {i : Nat} (st : ItB tp h it a i) (k : ∀ o, h.get? it = some o → h'.get? it = some o) : ItB tp h' it a i := by
  cases tp with
  | true => exact (st : h.IsTupleIter it a i).at k
  | false => exact (st : h.IsListIter it a i).at k
theorem drawsB {prog : Program} {w : World} {A : Around} (hh : A.handled = none) (it l : Addr) (hne : l ≠ it) (items : Array Value) :
    Draws prog w A it [it, l] items.size (fun i v => items[i]? = some v) (fun i h => ItB tp h it l i ∧ IsB tp h l items) := by
  cases tp with
  | true => exact Draws.tuple hh it l hne items
  | false => exact Draws.list hh it l hne items
/-- the iterator object that iter() makes -/
def itObj (tp : Bool) (a : Addr) : Obj := if tp then { cls := .type "tuple_iterator", data := .fields #[.ref a, .int 0 0] } else { cls := .type "list_iterator", data := .fields #[.ref a, .int 0 0] }
theorem beginsB (a : Addr) (items : Array Value) : Begins (.ref a) (itObj tp a) fun h => IsB tp h a items := by
  cases tp with
  | true => exact begins_tuple a items
  | false => exact begins_list a items
theorem itB_new {h : Heap} {it : Addr} (e : h.get? it = some (itObj tp a)) : ItB tp h it a 0 := by
  cases tp with
  | true => exact ⟨_, e, rfl, rfl⟩
  | false => exact ⟨_, e, rfl, rfl⟩
/-- enumerate -/
def ItE (K : PySem.W.Frag) (tp : Bool) (a : Addr) : It :=
  ⟨fun i H => ∃ (xs : List V) (x : V), SqB K tp H a xs ∧ xs[i]? = some x,
   fun i H v H' => ∃ T x its, v = .ref T ∧ H T = none ∧ H' = upd H T (.frz (tupObj its) (.tup [.int (i : Nat), x])) ∧ ∀ xs, SqB K tp H a xs → xs[i]? = some x,
   fun i H => ∃ xs : List V, SqB K tp H a xs ∧ xs.length = i⟩
theorem turn_enumB {P : Program} {w : World} {K : PySem.W.Frag} {elts : List Expr} {kk : Nat} {tpos : Pos} (a e it : Addr) :
    Turn P w K (.Tuple elts kk tpos) (ItE K tp a) [e, it] e (fun i h => (∃ old, IsEnum h e it ((i : Nat) : Int) old) ∧ ItB tp h it a i ∧ e ≠ it ∧ a ≠ it ∧ e ≠ a) where
  mem := by simp
  obj := fun i h st b hb => by
    obtain ⟨⟨old, he⟩, hi, _⟩ := st
    have hb' : b = e ∨ b = it := by simpa using hb
    rcases hb' with z | z
    · subst z; exact ⟨_, he, fun v q => nomatch q⟩
    · subst z; exact hi.obj
  keep := fun i h h' st k => by
    obtain ⟨⟨old, he⟩, hi, r⟩ := st
    exact ⟨⟨old, k e (by simp) _ he⟩, hi.keep fun o q => k it (by simp) o q, r⟩
  item := by
    intro X hP hw hK hc i pins s σ H E I hf st hg
    subst hP hw hK
    obtain ⟨⟨old, he⟩, hit, hne, hna, hea⟩ := st
    obtain ⟨xs, x, hq, hx⟩ := hg
    obtain ⟨its, rv, p, hz⟩ := hq.at I
    obtain ⟨u, hu, ru⟩ := rv.get hx
    have hlt : i < its.toArray.size := by
      have := (List.getElem?_eq_some_iff.mp hu).1
      simpa using this
    have hel : e < s.heap.objs.size := Heap.lt_size he
    have hil : it < s.heap.objs.size := by obtain ⟨_, q, _⟩ := hit.obj; exact Heap.lt_size q
    refine wpAny_pyNext_enum_itemC (drawsB (A := X.A.in1) (tp := tp) (I.ok.hd hc) it a hna its.toArray) he ⟨hit, p⟩ hlt hne (by simp [hne, hea]) fun x' h' tk hP ho hst' hT hsz hk => ?_
    have hx' : x' = u := by
      have h1 : its.toArray[i]? = some x' := hP
      rw [show its.toArray[i]? = some u from by simpa using hu] at h1
      exact (Option.some.inj h1).symm
    subst hx'
    refine ⟨_, rfl, wpAny_letOwnedTupleGo_enum (s := { s with heap := h', toks := tk + 1 }) ho fun h'' he' sb => ?_⟩
    have hT2 : h''.get? s.heap.objs.size = some (tupObj [.int (i : Nat) tk, x']) := (sb.2 _ (Nat.ne_of_gt hel)).trans hT
    have hval : Vals [V.int (i : Nat), x] [.int (i : Nat) tk, x'] := .cons ⟨_, rfl⟩ (.cons ru .nil)
    have I1 : Inv X pins σ (upd H s.heap.objs.size (.frz (tupObj [.int (i : Nat) tk, x']) (.tup [.int (i : Nat), x]))) { s with heap := h'', toks := tk + 1 } := by
      refine I.turnedNew (ch := [e, it]) (fun b ob hb q => ?_) hf (Nat.le_refl _) ⟨hT2, (by show 2 ≤ sizeLine; decide), _, hval, _, hT2, rfl, _, rfl⟩
      exact (sb.2 b (fun z => hb (by simp [z]))).trans (hk b ob (fun z => hb (by simp [z])) (fun z => hb (by simp [z])) q)
    refine ⟨.ref s.heap.objs.size, _, I1, rfl, ⟨_, x, _, rfl, I.hok.fresh (Nat.le_refl _), rfl, fun ys hy => by rw [hy.inj I hq]; exact hx⟩, ⟨⟨x', ?_⟩, hst'.1.keep fun o q => (sb.2 it (Ne.symm hne)).trans q, hne, hna, hea⟩, fun b hb => ?_⟩
    · have e1 : ((i + 1 : Nat) : Int) = (i : Int) + 1 := by omega
      rw [e1]; exact he'
    · have hb' : b < s.heap.objs.size := by
        have hb' : b = e ∨ b = it := by simpa using hb
        rcases hb' with z | z
        · rw [z]; exact hel
        · rw [z]; exact hil
      rw [upd_ne (Nat.ne_of_lt hb')]
      exact (hf b hb).1
  done := by
    intro X hP hw hK hc i pins s σ H E I hf st hg
    subst hP hw hK
    obtain ⟨⟨old, he⟩, hit, hne, hna, hea⟩ := st
    obtain ⟨xs, hq, hx⟩ := hg
    obtain ⟨its, rv, p, hz⟩ := hq.at I
    obtain ⟨f0, f1, f2, f3, f4, f5⟩ := hf it (by simp)
    have hl := rv.length
    have hsz : i = its.toArray.size := by simp; omega
    refine wpAny_pyNext_enum_endD (drawsB (A := X.A.in1) (tp := tp) (I.ok.hd hc) it a hna its.toArray) he (by rw [← hsz]; exact ⟨hit, p⟩) fun h' eb => ⟨rfl, ?_⟩
    exact I.turned (t' := s.toks) (fun b o hb q => eb b o hb q) f0 f1 f3 f4 f5
  self := fun A i s Q E st h => let ⟨⟨_, he⟩, _⟩ := st; wpAny_pyIter_enum he h
/-- enumerate(v) of anything that begins -/
theorem enumNewB {v : Value} {ob : Obj} {HB : Heap → Prop} (B : Begins v ob HB) :
    Meets (Builtin.«enumerate.__new__» ⟨[.type "enumerate", v], []⟩) (fun _ R s => HB s.heap ∧ R (.ok (.ret (.ref (s.heap.push ob).objs.size)))
      { s with heap := (s.heap.push ob).push { cls := .type "enumerate", data := .fields #[.none, .bool false, .ref s.heap.objs.size, rawInt 0, .none, .none] } }) :=
  .of_wp fun prog w A R sh hh => by
    obtain ⟨h0, g0, d0, k0, o0⟩ := sh
    obtain ⟨hb, hr⟩ := hh
    have hsub := sub_enumerate
    have iterB : ∀ {A2 : Around} {E2 : Value → Shared → Prop} {Q2 : Value → Shared → Prop}, Q2 (.ref h0.objs.size) ⟨h0.push ob, g0, d0, k0, o0⟩ →
        wpAny (model prog w) A2 (pyIter v) Q2 E2 ⟨h0, g0, d0, k0, o0⟩ := fun q => B.iter prog w _ _ ⟨h0, g0, d0, k0, o0⟩ _ hb q
    wp_walk using iterB
    refine wpAny_stack_any fun st => wpAny_pure ?_
    split
    · rename_i cc _ _ _ _ _
      cases (cc == Value.type "enumerate") <;> (wp_walk using iterB; exact ⟨_, rfl, hr⟩)
    · wp_walk using iterB
      exact ⟨_, rfl, hr⟩
theorem call_enumB {prog : Program} {w : World} {A : Around} {E : Value → Shared → Prop} {v : Value} {ob : Obj} {HB : Heap → Prop} {Q : Value → Shared → Prop} (B : Begins v ob HB) (hb : HB s.heap)
    (h : ∀ h', IsEnum h' (s.heap.objs.size + 1) s.heap.objs.size 0 .none → h'.get? s.heap.objs.size = some ob → h'.objs.size = s.heap.objs.size + 2 →
      (∀ b o, s.heap.get? b = some o → h'.get? b = some o) → Q (.ref (s.heap.objs.size + 1)) { s with heap := h' }) : wpAny (model prog w) A (call (.type "enumerate") [v]) Q E s := by
  refine callType_new F.called_enumerate (by decide) (F.typeCall_enumerate_1 _) (F.newCall_enumerate_1 _) (fun obj => F.args_object_init_2 obj _) F.entry_enumerate_new (enumNewB B) ⟨hb, ?_⟩
  have hz : (s.heap.push ob).objs.size = s.heap.objs.size + 1 := Heap.size_push ..
  show _ ∧ _
  rw [hz]
  have he := Heap.get?_push_size (s.heap.push ob) (o := { cls := .type "enumerate", data := .fields #[.none, .bool false, .ref s.heap.objs.size, rawInt 0, .none, .none] }) rfl
  rw [hz] at he
  refine ⟨⟨_, he, rfl⟩, h _ he (Heap.get?_push_of_some _ (Heap.get?_push_size _ B.free)) (by rw [Heap.size_push, hz]) fun b o x => ?_⟩
  exact Heap.get?_push_of_some _ (Heap.get?_push_of_some _ x)
/-- enumerate(e) as what is walked -/
theorem pi_enumB {e : Expr} {ta : TA} {p pos tpos : Pos} {elts : List Expr} {kk : Nat} (hg : Gl X "enumerate") (hm : X.mg "enumerate" = none) (ha : PA X [e] ta) (hs : starEach [e] X.env = [(false, eval e X.env)] := by rfl) :
    PI X (.Tuple elts kk tpos) (.Call (.Name "enumerate" p) [e] [] pos) (fun σ H R => ta σ H fun vs H1 => ∃ a xs tp, vs = [.ref a] ∧ SqB X.K tp H1 a xs ∧ R (ItE X.K tp a) H1) := by
  constructor
  intro pins s σ H R I h
  refine Call_ (ld_blt I hg hm boot_enumerate (PyProof.Rows.callWith_type1 (thn (ha.run pos pins s σ H _ I h) ?_) hs rfl))
  rintro us s1 ⟨vs, H1, I1, r1, a, xs, tp, ex, hq, q⟩
  subst ex
  obtain ⟨u, e2, rx⟩ := vals1 r1
  subst e2; cases rx
  obtain ⟨its, rv, p', hz⟩ := hq.at I1
  refine call_enumB (beginsB a its.toArray) p' fun h' he hit hsz hk => wpAny_pyIter_enum he ?_
  have I2 : Inv X pins σ H1 { s1 with heap := h' } := I1.kept (t' := s1.toks) hk
  have hal : a < s1.heap.objs.size := by
    cases tp with
    | true => obtain ⟨o, z, _⟩ := (p' : s1.heap.IsTuple a _); exact Heap.lt_size z
    | false => obtain ⟨o, z, _⟩ := (p' : s1.heap.IsList a _); exact Heap.lt_size z
  have n1 : a ≠ s1.heap.objs.size := Nat.ne_of_lt hal
  have n2 : s1.heap.objs.size + 1 ≠ a := Nat.ne_of_gt (Nat.lt_succ_of_lt hal)
  refine ⟨s1.heap.objs.size + 1, [s1.heap.objs.size + 1, s1.heap.objs.size], _, _, H1, rfl, I2, turn_enumB a (s1.heap.objs.size + 1) s1.heap.objs.size, ⟨⟨.none, he⟩, itB_new hit, Nat.succ_ne_self _, n1, n2⟩, fun b hb => ?_, q⟩
  have hb' : b = s1.heap.objs.size + 1 ∨ b = s1.heap.objs.size := by simpa using hb
  have hle : s1.heap.objs.size ≤ b := by
    rcases hb' with z | z <;> (rw [z]; first | exact Nat.le_add_right _ _ | exact Nat.le_refl _)
  exact I1.fpOk hle (I1.hok.fresh hle)
end
end Sg
set_option Elab.async false
set_option linter.all false
set_option maxRecDepth 100000
set_option maxHeartbeats 4000000
namespace Sg
open PySem PySem.Spec PyProof.Rows L2
section
variable {X : Cx} {e a b c : Expr} {es : List Expr} {m ma mb mc : EvE} {t u ta tb : EvT} {pos : Pos}
theorem tval_go {σ : LSt} {H : Hp} {Q : Bool → Hp → Prop} (q : tOfT X.wd (tVal m) σ H Q) : tOfE X.wd m σ H fun x H1 => ∃ k, x = .bl k ∧ Q k H1 := by
  obtain ⟨ad, st, σp, S, q⟩ := q
  refine goE S q fun x ad1 H1 v e1 E1 S1 V1 q1 => ?_
  split at q1
  · rename_i k hk
    rw [hk] at V1
    cases V1
    exact ⟨_, rfl, RdG.ok q1 S1.ro⟩
  · exact q1.elim
theorem st_val (h : SE X e m) (he : ∀ whole, isTrue e X.env whole = (do let v ← whole; standAt e.pos; holding [v] (truthy v)) := by intro _; rfl) : ST X e (tVal m) :=
  PT.to (pt_val h he) fun σ H Q q => tval_go q
theorem gcE {σ : LSt} {H : Hp} {Q : VK} (q : tOfE X.wd (fun σ st => gcR st (m σ st)) σ H Q) : tOfE X.wd m σ H Q := by
  obtain ⟨ad, st, σp, S, q⟩ := q
  exact ⟨ad, st, σp, S, rd_gc S.ro q⟩
theorem st_cmp {op : CmpOp} {F : Op2} (ho : OpD X (compareOp op) F) (ha : SE X a ma) (hb : SE X b mb) (hm : behindInMarks op b = false) : ST X (.Compare a [op] [b] pos) (tVal (eBinG F ma mb)) :=
  PT.to (pt_cmpR ho ha hb hm) fun σ H Q q => go2 (gcE (m := eBin F ma mb) (tval_go q))
theorem st_not (h : ST X a ta) : ST X (.UnaryOp .Not a pos) (tNot ta) := PT.to (pt_not h) fun σ H Q ⟨ad, st, σp, S, q⟩ => goT S q fun x ad1 H1 e1 E1 S1 q1 => RdG.ok q1 S1.ro
theorem sw_or1 (h : ST X a ta) : SW X (.BoolOp .Or [a] pos) ta := PW.to (pw_or1 h) fun σ H Q q => q
theorem sw_or {rest : List Expr} (ha : ST X a ta) (hb : SW X (.BoolOp .Or (b :: rest) pos) tb) : SW X (.BoolOp .Or (a :: b :: rest) pos) (tOr ta tb) :=
  PW.to (pw_or ha hb) fun σ H Q ⟨ad, st, σp, S, q⟩ => goT S q fun x ad1 H1 e1 E1 S1 q1 => by
    cases hx : x.1 with
    | true => rw [if_pos rfl]; rw [hx] at q1; exact RdG.ok q1 S1.ro
    | false => rw [if_neg (by decide)]; rw [hx] at q1; exact ⟨ad1, x.2, σp, S1, q1⟩
theorem SW.st (h : SW X e t) : ST X e t := PW.pt h
theorem se_if (ht : ST X c t) (ha : SE X a ma) (hb : SE X b mb) : SE X (.IfExp c a b pos) (eIf t ma mb) :=
  PE.to (pe_ifExp ht ha hb) fun σ H Q ⟨ad, st, σp, S, q⟩ => goT S q fun x ad1 H1 e1 E1 S1 q1 => by
    cases hx : x.1 with
    | true => rw [if_pos rfl]; rw [hx] at q1; exact ⟨ad1, x.2, σp, S1, q1⟩
    | false => rw [if_neg (by decide)]; rw [hx] at q1; exact ⟨ad1, x.2, σp, S1, q1⟩
variable {s : Stmt} {ss : List Stmt} {n n' : EvS}
/-- a part's outcome, the rest by its flow -/
theorem rdS_bind {W : Wd} {ad : List Addr} {H : Hp} {r : Res (Fl × Slots × Store)} {f : Fl × Slots × Store → Res (Fl × Slots × Store)} {D D' : Ends} (h : RdS W (r >>= f) ad H D)
    (nx : ∀ σp st ad' H' σ', Ext ad H ad' H' → RS W ad' H' st σp σ' → RdS W (f (.nx, σp, st)) ad' H' D → D'.nx σ' H')
    (bk : ∀ σp st ad' H' σ', Ext ad H ad' H' → RS W ad' H' st σp σ' → RdS W (f (.bk, σp, st)) ad' H' D → D'.bk σ' H')
    (ct : ∀ σp st ad' H' σ', Ext ad H ad' H' → RS W ad' H' st σp σ' → RdS W (f (.ct, σp, st)) ad' H' D → D'.ct σ' H')
    (rt : ∀ p σp st ad' H' v, Ext ad H ad' H' → RO W ad' H' st → VR W ad' H' p v → RdS W (f (.rt p, σp, st)) ad' H' D → D'.rt v H') : RdS W r ad H D' := by
  refine (RdG.bind h).imp fun x ad' H' e1 E g => ?_
  obtain ⟨fl, σp, st⟩ := x
  cases fl with
  | nx => exact fun σ' S => nx σp st ad' H' σ' E S g
  | bk => exact fun σ' S => bk σp st ad' H' σ' E S g
  | ct => exact fun σ' S => ct σp st ad' H' σ' E S g
  | rt p => exact fun R v V => rt p σp st ad' H' v E R V g
theorem ss_nil : SSs X [] sNil := PSs.to pss_nil fun D σ H ⟨ad, st, σp, S, q⟩ => RdG.ok q σ S
theorem ss_cons (h1 : SS X s n) (h2 : SSs X ss n') : SSs X (s :: ss) (sSeq n n') :=
  PSs.to (pss_cons h1 h2) fun D σ H ⟨ad, st, σp, S, q⟩ => ⟨ad, st, σp, S, rdS_bind q (fun σp st ad' H' σ' E S q => ⟨ad', st, σp, S, q⟩) (fun σp st ad' H' σ' E S q => RdG.ok q σ' S)
    (fun σp st ad' H' σ' E S q => RdG.ok q σ' S) (fun p σp st ad' H' v E R V q => RdG.ok q R v V)⟩
theorem ss_one (h1 : SS X s n) : SSs X [s] n := PSs.to (pss_one h1) fun D σ H q => q
theorem ss_ret (h : SE X e m) : SS X (.Return (some e) pos) (sRet m) :=
  PS.to (ps_ret h) fun D σ H ⟨ad, st, σp, S, q⟩ => goE S q fun x ad1 H1 v e1 E1 S1 V1 q1 => RdG.ok q1 S1.ro v V1
theorem ss_if {ss ss' : List Stmt} (hc : ST X c t) (ha : SSs X ss n) (hb : SSs X ss' n') : SS X (.If c ss ss' pos) (sIf t n n') :=
  PS.to (ps_if hc ha hb) fun D σ H ⟨ad, st, σp, S, q⟩ => goT S q fun x ad1 H1 e1 E1 S1 q1 => by
    cases hx : x.1 with
    | true => rw [if_pos rfl]; rw [hx] at q1; exact ⟨ad1, x.2, σp, S1, q1⟩
    | false => rw [if_neg (by decide)]; rw [hx] at q1; exact ⟨ad1, x.2, σp, S1, q1⟩
theorem sg_name {i : Nat} {x : Str} (hN : X.N.Nodup) (hi : X.N[i]? = some x := by rfl) (hx : Loc X.env.scope x := by first | exact Or.inl rfl | exact Or.inr rfl)
    (hf : X.fn x = true ∨ X.env.scope.names.lookup x = some .local := by first | exact .inl rfl | exact .inr rfl) : SG X (.Name x pos) (.nm i) := pg_name hN hi hx hf
theorem sgs_nil : SGs X [] [] := pgs_nil
theorem sgs_cons {g : Tg} {gs : List Tg} (h1 : SG X e g) (h2 : SGs X es gs) (hs : (assignEach (e :: es) X.env).map (·.2) = assign e X.env :: (assignEach es X.env).map (·.2) := by rfl) : SGs X (e :: es) (g :: gs) := pgs_cons h1 h2 hs
theorem sg_tup {k : Nat} {gs : List Tg} (hc : X.calm = true) (h : SGs X es gs) (hn : (assignEach es X.env).length = gs.length := by rfl) (hst : (assignEach es X.env).findIdx? (·.1) = none := by rfl) : SG X (.Tuple es k pos) (.tp gs) := pg_tup hc h hn hst
section
variable {W : Wd} {ad : List Addr} {H : Hp} {st : Store}
theorem wipe_set (vs : List Nat) {i : Nat} (σ : LSt) (o : Option V) : i ∈ vs → wipe (σ.set i o) vs = wipe σ vs := by
  induction vs with
  | nil => intro h; cases h
  | cons v vs ih =>
    intro h
    unfold wipe
    by_cases e : i = v
    · subst e
      by_cases hm : i ∈ vs
      · rw [ih hm]
      · have : ∀ (l : List Nat), i ∉ l → wipe (σ.set i o) l = (wipe σ l).set i o := fun l => by
          induction l with
          | nil => intro _; rfl
          | cons w l ih2 =>
            intro hl
            unfold wipe
            rw [ih2 (fun z => hl (List.mem_cons_of_mem _ z)), List.set_comm _ _ (fun z => hl (by rw [z]; exact List.mem_cons_self))]
        rw [this vs hm, List.set_set]
    · rcases List.mem_cons.mp h with z | z
      · exact absurd z e
      · rw [ih z]
theorem wipe_wipe (vs : List Nat) (σ : LSt) : wipe (wipe σ vs) vs = wipe σ vs := by
  have : ∀ (ws : List Nat), (∀ i ∈ ws, i ∈ vs) → wipe (wipe σ ws) vs = wipe σ vs := fun ws => by
    induction ws with
    | nil => intro _; rfl
    | cons w ws ih =>
      intro h
      show wipe ((wipe σ ws).set w none) vs = _
      rw [wipe_set vs _ _ (h w List.mem_cons_self), ih fun i hi => h i (List.mem_cons_of_mem _ hi)]
  exact this vs fun _ h => h
theorem RS.wipe {σp : Slots} {σ : LSt} (S : RS W ad H st σp σ) : ∀ vs : List Nat, RS W ad H st (wipeP σp vs) (L2.wipe σ vs)
  | [] => S
  | v :: vs => by
    have ih := RS.wipe S vs
    refine ⟨ih.ro, fun i p h => ?_, ?_⟩
    · have hi : i ≠ v := fun e => by
        subst e
        change ((wipeP σp vs).set i none)[i]? = _ at h
        by_cases hl : i < (wipeP σp vs).length
        · rw [List.getElem?_set_self hl] at h; cases h
        · rw [List.getElem?_eq_none (by simpa using hl)] at h; cases h
      change ((wipeP σp vs).set v none)[i]? = _ at h
      rw [List.getElem?_set_ne (Ne.symm hi)] at h
      show ∃ w, ((L2.wipe σ vs).set v none)[i]? = _ ∧ _
      rw [List.getElem?_set_ne (Ne.symm hi)]
      exact ih.sl i p h
    · show ((wipeP σp vs).set v none).length = ((L2.wipe σ vs).set v none).length
      rw [List.length_set, List.length_set, ih.ln]
mutual
theorem put_go {vs : List Nat} : ∀ (g : Tg) {p : PV} {v : V} {σp σp' : Slots} {σ : LSt} {Q : LSt → Hp → Prop}, RS W ad H st σp σ → VR W ad H p v → g.put p σp = some σp' →
    (∀ σ', RS W ad H st σp' σ' → ((∀ i ∈ g.own, i ∈ vs) → wipe σ' vs = wipe σ vs) → Q σ' H) → rdG W.K g v σ H Q
  | .nm i, p, v, σp, σp', σ, Q, S, V, h, k => by
    simp only [Tg.put, Option.some.injEq] at h
    subst h
    exact k _ (S.set V) fun ho => wipe_set vs _ _ (ho i (by simp [Tg.own]))
  | .tp ts, p, v, σp, σp', σ, Q, S, V, h, k => by
    cases V with
    | tup hs r =>
      simp only [Tg.put] at h
      exact ⟨_, _, rfl, hs.sq, (puts_len r h).symm, puts_go ts S r h k⟩
    | _ => simp [Tg.put] at h
theorem puts_go {vs : List Nat} : ∀ (gs : List Tg) {ps : List PV} {ws : List V} {σp σp' : Slots} {σ : LSt} {Q : LSt → Hp → Prop}, RS W ad H st σp σ → VRs W ad H ps ws → Tg.puts gs ps σp = some σp' →
    (∀ σ', RS W ad H st σp' σ' → ((∀ i ∈ Tg.owns gs, i ∈ vs) → wipe σ' vs = wipe σ vs) → Q σ' H) → rdGs W.K gs ws σ H Q
  | [], _, _, σp, σp', σ, Q, S, .nil, h, k => by
    simp only [Tg.puts, Option.some.injEq] at h
    subst h
    exact ⟨rfl, k _ S fun _ => rfl⟩
  | g :: gs, _, _, σp, σp', σ, Q, S, .nil, h, k => by simp [Tg.puts] at h
  | [], _, _, σp, σp', σ, Q, S, .cons _ _, h, k => by simp [Tg.puts] at h
  | g :: gs, _, _, σp, σp', σ, Q, S, .cons r t, h, k => by
    simp only [Tg.puts] at h
    split at h
    · rename_i σ1 h1
      refine ⟨_, _, rfl, put_go (vs := vs) g S r h1 fun σ' S' w' => puts_go (vs := vs) gs S' t h fun σ2 S2 w2 => k σ2 S2 fun ho => ?_⟩
      rw [w2 fun i hi => ho i (by simp only [Tg.owns]; exact List.mem_append_right _ hi), w' fun i hi => ho i (by simp only [Tg.owns]; exact List.mem_append_left _ hi)]
    · cases h
theorem puts_len : ∀ {gs : List Tg} {ps : List PV} {ws : List V} {σp σp' : Slots}, VRs W ad H ps ws → Tg.puts gs ps σp = some σp' → gs.length = ws.length
  | [], _, _, _, _, .nil, _ => rfl
  | g :: gs, _, _, σp, σp', .nil, h => by simp [Tg.puts] at h
  | [], _, _, σp, σp', .cons _ _, h => by simp [Tg.puts] at h
  | g :: gs, _, _, σp, σp', .cons r t, h => by
    simp only [Tg.puts] at h
    split at h
    · rw [List.length_cons, List.length_cons, puts_len t h]
    · cases h
end
end
theorem gput_go {g : Tg} {p : PV} {v : V} {ad : List Addr} {H : Hp} {st : Store} {σp : Slots} {σ : LSt} {α : Type} {f : Slots → Res α} {G : α → List Addr → Hp → Prop} {Q : LSt → Hp → Prop} (vs : List Nat) (S : RS X.wd ad H st σp σ) (V : VR X.wd ad H p v)
    (h : RdG (gPut g p σp >>= f) ad H G) (k : ∀ σp' σ', gPut g p σp = .ok σp' → RS X.wd ad H st σp' σ' → ((∀ i ∈ g.own, i ∈ vs) → wipe σ' vs = wipe σ vs) → RdG (f σp') ad H G → Q σ' H) : rdG X.K g v σ H Q := by
  rw [gPut_eq] at h
  cases hp : g.put p σp with
  | none => rw [hp] at h; exact h.elim
  | some σp' =>
    rw [hp] at h
    exact put_go (W := X.wd) (vs := vs) g S V hp fun σ' S' w => k σp' σ' (by rw [gPut_eq, hp]) S' w h
theorem gput_nm {i : Nat} {p : PV} {σp : Slots} {α : Type} {f : Slots → Res α} {ad : List Addr} {H : Hp} {G : α → List Addr → Hp → Prop} (h : RdG (gPut (.nm i) p σp >>= f) ad H G) : RdG (f (σp.set i (some p))) ad H G := by
  rw [gPut_eq] at h
  exact h
theorem ss_set {i : Nat} {x : Str} {pos' : Pos} (hN : X.N.Nodup) (he : SE X e m) (hi : X.N[i]? = some x := by rfl) (hx : Loc X.env.scope x := by first | exact Or.inl rfl | exact Or.inr rfl) (hs : swapsWith e (some (.Name x pos')) pos.line X.env = pure false := by rfl)
    (hf : X.fn x = true ∨ X.env.scope.names.lookup x = some .local := by first | exact .inl rfl | exact .inr rfl) : SS X (.Assign [.Name x pos'] e pos) (sAsg m (.nm i)) :=
  PS.to (ps_set hN hi hx he hs hf) fun D σ H ⟨ad, st, σp, S, q⟩ => goE S q fun x ad1 H1 v e1 E1 S1 V1 q1 => RdG.ok (gput_nm (f := fun r => Res.ok (Fl.nx, r, x.2)) q1) _ (S1.set V1)
theorem PSet.or {t t' : TSet} (h : PSet X t) (h' : PSet X t') : PSet X (fun o i v H Q => t o i v H Q ∨ t' o i v H Q) := fun pins s σ H o i v ov iv u Q I r1 r2 r3 q => by
  rcases q with q | q
  · exact h pins s σ H o i v ov iv u Q I r1 r2 r3 q
  · exact h' pins s σ H o i v ov iv u Q I r1 r2 r3 q
theorem set_dic (hu : X.A.units + 1 < cLine) : PSet X (fun o i v H Q => ∃ a H', o = .ref a ∧ DPut H a i v H' ∧ Q H') := by
  intro pins s σ H o i v ov iv u Q I r1 r2 r3 q
  obtain ⟨a, H', e, g, q⟩ := q
  subst e; cases r1
  exact d_setItem hu I g r2 r3 fun s' I' => ⟨H', I', q⟩
theorem DR.put {W : Wd} {ad : List Addr} {H : Hp} {k : Key} {p : PV} {v : V} (U : VR W ad H p v) {ps : List (PV × PV)} {vs : List (Key × L2.V)} (r : DR W ad H ps vs) : DR W ad H (dPut ps (keyP k) p) (putK vs k v) := by
  have any : ∀ {ps : List (PV × PV)} {vs : List (Key × L2.V)}, DR W ad H ps vs → (ps.any fun q => decide (q.1 = keyP k)) = vs.any fun kv => decide (kv.1 = k) := fun r => by
    induction r with
    | nil => rfl
    | cons r _ ih =>
      simp only [List.any_cons, ih]
      congr 1
      rw [Bool.eq_iff_iff, decide_eq_true_eq, decide_eq_true_eq]
      exact ⟨keyP_inj, fun e => by rw [e]⟩
  have mp : ∀ {ps : List (PV × PV)} {vs : List (Key × L2.V)}, DR W ad H ps vs → DR W ad H (ps.map fun q => if q.1 = keyP k then (q.1, p) else q) (vs.map fun kv => if kv.1 = k then (kv.1, v) else kv) := fun r => by
    induction r with
    | nil => exact .nil
    | cons r _ ih =>
      rename_i j q w ps vs _
      simp only [List.map_cons]
      by_cases e : j = k
      · subst e
        rw [if_pos rfl, if_pos rfl]
        exact .cons U ih
      · rw [if_neg (fun z => e (keyP_inj z)), if_neg e]
        exact .cons r ih
  have ap : ∀ {ps : List (PV × PV)} {vs : List (Key × L2.V)}, DR W ad H ps vs → DR W ad H (ps ++ [(keyP k, p)]) (vs ++ [(k, v)]) := fun r => by
    induction r with
    | nil => exact .cons U .nil
    | cons r _ ih => exact .cons r ih
  unfold dPut dictPut putK
  rw [any r]
  split
  · exact mp r
  · exact ap r
def rSOf (X : Cx) : TSet := fun o i v H Q => ∃ ad st p q r, RO X.wd ad H st ∧ VR X.wd ad H p o ∧ VR X.wd ad H q i ∧ VR X.wd ad H r v ∧ RdG (setP p q r st) ad H fun st' ad' H' => RO X.wd ad' H' st' → Q H'
theorem sd_set (hu : X.A.units + 64 < cLine) : PSet X (rSOf X) := fun pins s σ H o i v ov iv u Q I r1 r2 r3 ⟨ad, st, p, q, r, R, Vp, Vq, Vr, h⟩ => by
  refine (PSet.or set_list (set_dic (by omega))) pins s σ H o i v ov iv u Q I r1 r2 r3 ?_
  have wr : ∀ {j : Nat} {a : Addr} {ob : HO} {x : PO}, RdG (.ok (st.set j x)) ad H (fun st' ad' H' => RO X.wd ad' H' st' → Q H') → ad[j]? = some a → (∀ u, H a = some u → ¬ Imu u) → (Ext ad H ad (upd H a ob) → OR X.wd ad (upd H a ob) x a) → Q (upd H a ob) :=
    fun {j a ob x} g ha ni ro => by
      have E := Ext.write (o := ob) R (List.mem_of_getElem? ha) ni
      exact g ad _ E (R.write ha (ro E) ni)
  unfold setP at h
  split at h
  · cases Vp with
    | ref hi =>
      split at h
      · rename_i hx
        obtain ⟨vs, e, rr⟩ := R.obj _ _ _ hx hi
        split at h
        · rename_i k
          cases Vq
          split at h
          · rename_i j hj
            rw [rr.length] at hj
            exact Or.inl ⟨_, vs, _, j, rfl, rfl, e, hj, wr h hi (ni_lst e) (fun E => ⟨_, upd_same, VRs.set (Vr.mono E) j (rr.mono E)⟩)⟩
          · exact h.elim
        · exact h.elim
      · rename_i hx
        obtain ⟨ws, e, rr⟩ := R.obj _ _ _ hx hi
        split at h
        · rename_i hc
          simp only [Bool.and_eq_true, decide_eq_true_eq] at hc
          obtain ⟨k, e1, e2⟩ := keyP_vr Vq hc.1
          subst e1; subst e2
          have hl := hc.2
          rw [rr.length] at hl
          exact Or.inr ⟨_, _, rfl, DPut.k e (by rw [sizeLine_eq]; exact hl), wr h hi (fun u z i => by rw [e] at z; cases z; exact i) (fun E => ⟨_, upd_same, DR.put (Vr.mono E) (DR.go (fun _ _ q => q) E.imm rr)⟩)⟩
        · exact h.elim
      · exact h.elim
  · exact h.elim
theorem ss_sub {o i : Expr} {mo mi : EvE} {pos' : Pos} (hu : X.A.units + 64 < cLine) (he : SE X e m) (ho : SE X o mo) (hi : SE X i mi)
    (ha : ∀ v, assign (.Subscript o i pos') X.env v = (do
      let ov ← holding [v] (eval o X.env)
      let iv ← holding [v, ov] (eval i X.env)
      standAt pos'
      holding [v, ov, iv] (setItem ov iv v)
      release [v, ov, iv] []) := by intro _; rfl)
    (hs : swapsWithSole [.Subscript o i pos'] e pos.line X.env = pure false := by rfl) (hw : swappedStores [.Subscript o i pos'] e X.env = pure none := by rfl)
    (h1 : (assignEach [.Subscript o i pos'] X.env).map (·.2) = [assign (.Subscript o i pos') X.env] := by rfl) : SS X (.Assign [.Subscript o i pos'] e pos) (sSub mo mi m) :=
  PS.to (ps_asg he (pg_sub ho hi (sd_set hu) ha) hs hw h1) fun D σ H ⟨ad, st, σp, S, q⟩ => by
    unfold RdS at q
    rw [sSub_eq] at q
    exact goE S q fun x ad1 H1 v e1 E1 S1 V1 q1 => goE S1 q1 fun y ad2 H2 w e2 E2 S2 V2 q2 => goE S2 q2 fun z ad3 H3 u e3 E3 S3 V3 q3 =>
    ⟨ad3, z.2, y.1, z.1, x.1, S3.ro, V2.mono E3, V3, (V1.mono E2).mono E3, q3.bind.imp fun st' ad4 H4 e4 E4 q4 R4 => RdG.ok q4 _ (S3.mono E4 R4)⟩
end
end Sg
set_option Elab.async false
set_option linter.all false
set_option maxRecDepth 100000
set_option maxHeartbeats 4000000
namespace Sg
open PySem PySem.Spec PyProof.Rows L2
/-- what is walked goes item by item while its lists stand -/
structure WK (W : Wd) (ad : List Addr) (H : Hp) (items : List PV) (gs : Gd) (J : It) : Prop where
  go : ∀ i ad1 H1 st1, i < items.length → Ext ad H ad1 H1 → RO W ad1 H1 st1 → gdOk gs st1 = true → J.go i H1
  stop : ∀ ad1 H1 st1, Ext ad H ad1 H1 → RO W ad1 H1 st1 → gdOk gs st1 = true → J.stop items.length H1
  yld : ∀ (i : Nat) p ad1 H1 st1 v H2, items[i]? = some p → Ext ad H ad1 H1 → RO W ad1 H1 st1 → gdOk gs st1 = true → J.yld i H1 v H2 → Ext ad1 H1 ad1 H2 ∧ RO W ad1 H2 st1 ∧ VR W ad1 H2 p v
def tOfI (W : Wd) (m : EvI) : TI := fun σ H R => ∃ ad st σp, RS W ad H st σp σ ∧ RdG (m σp st) ad H fun x ad' H' => RO W ad' H' x.2 → ∀ J, WK W ad' H' x.1.1 x.1.2 J → R J H'
def SI (X : Cx) (tg e : Expr) (m : EvI) : Prop := PI X tg e (tOfI X.wd m)
theorem PI.to {X : Cx} {tg e : Expr} {t t' : TI} (h : PI X tg e t) (i : ∀ σ H R, t' σ H R → t σ H R) : PI X tg e t' := ⟨fun pins s σ H R I q => h.run pins s σ H R I (i σ H R q)⟩
theorem PI.or {X : Cx} {tg e : Expr} {t t' : TI} (h : PI X tg e t) (h' : PI X tg e t') : PI X tg e fun σ H R => t σ H R ∨ t' σ H R := ⟨fun pins s σ H R I q => q.elim (h.run pins s σ H R I) (h'.run pins s σ H R I)⟩
section
variable {W : Wd} {ad : List Addr} {H : Hp} {st : Store} {items : List PV} {gs : Gd}
/-- nothing moves at a turn -/
theorem wk_of {J : It} {n : Nat} {G : Hp → Prop} {Y : Nat → Hp → V → Hp → Prop} (w : Walk J n G Y) (hn : items.length = n) (hg : ∀ ad1 H1 st1, Ext ad H ad1 H1 → RO W ad1 H1 st1 → gdOk gs st1 = true → G H1)
    (hy : ∀ (i : Nat) p ad1 H1 st1 v H2, items[i]? = some p → Ext ad H ad1 H1 → RO W ad1 H1 st1 → gdOk gs st1 = true → Y i H1 v H2 → H2 = H1 ∧ VR W ad1 H1 p v) : WK W ad H items gs J where
  go := fun i ad1 H1 st1 hi E R g => w.goes i H1 (by omega) (hg ad1 H1 st1 E R g)
  stop := fun ad1 H1 st1 E R g => by rw [hn]; exact w.stops H1 (hg ad1 H1 st1 E R g)
  yld := fun i p ad1 H1 st1 v H2 hp E R g y => by
    have hi : i < n := by have := (List.getElem?_eq_some_iff.mp hp).1; omega
    obtain ⟨e, V⟩ := hy i p ad1 H1 st1 v H2 hp E R g (w.yields i H1 v H2 hi (hg ad1 H1 st1 E R g) y)
    subst e
    exact ⟨.refl _ _, R, V⟩
theorem wk_tup {a : Addr} {vs : List V} (hs : SqU W.K H a vs) (r : VRs W ad H items vs) : WK W ad H items gs (Itt W.K a) :=
  wk_of walk_tup r.length (fun ad1 H1 st1 E R g => (hs.go E.imm).sq) fun i p ad1 H1 st1 v H2 hp E R g ⟨e, hv⟩ => by
    obtain ⟨y, h1, h2⟩ := r.get hp
    rw [h1] at hv
    cases hv
    exact ⟨e, h2.mono E⟩
theorem wk_fro {a : Addr} {vs : List V} (hs : SqF W.K H a vs) (r : VRs W ad H items vs) : WK W ad H items gs (Itl W.K a) :=
  wk_of walk_list r.length (fun ad1 H1 st1 E R g => (hs.go E.imm).sq) fun i p ad1 H1 st1 v H2 hp E R g ⟨e, hv⟩ => by
    obtain ⟨y, h1, h2⟩ := r.get hp
    rw [h1] at hv
    cases hv
    exact ⟨e, h2.mono E⟩
theorem wk_str {z : Str} : WK W ad H (chars z) gs (Its z) :=
  wk_of walk_str (by simp [chars]) (fun ad1 H1 st1 E R g => trivial) fun i p ad1 H1 st1 v H2 hp E R g ⟨e, c, hc, hv⟩ => by
    subst hv
    refine ⟨e, ?_⟩
    simp only [chars, List.getElem?_map, Array.getElem?_toList, hc, Option.map_some, Option.some.injEq] at hp
    subst hp
    exact .str _
theorem wk_rng {lo : Int} {n : Nat} : WK W ad H (rngI lo n) gs (Itr lo n) :=
  wk_of walk_range (by simp [rngI]) (fun ad1 H1 st1 E R g => trivial) fun i p ad1 H1 st1 v H2 hp E R g ⟨e, hv⟩ => by
    subst hv
    refine ⟨e, ?_⟩
    simp only [rngI, List.getElem?_map, Option.map_eq_some_iff] at hp
    obtain ⟨j, h1, h2⟩ := hp
    obtain ⟨h3, h4⟩ := List.getElem?_eq_some_iff.mp h1
    rw [List.getElem_range] at h4
    subst h4; subst h2
    exact .int _
/-- a list of the store stands while it is guarded -/
theorem gd_list {j : Nat} {a : Addr} {xs : List PV} {ad1 : List Addr} {H1 : Hp} {st1 : Store} (ha : ad[j]? = some a) (E : Ext ad H ad1 H1) (R : RO W ad1 H1 st1) (g : gdOk gs st1 = true) (hm : (j, PO.lst xs) ∈ gs) :
    ∃ vs, H1 a = some (.lst vs) ∧ VRs W ad1 H1 xs vs := by
  have := of_decide_eq_true (List.all_eq_true.mp g _ hm)
  exact R.obj j _ a this (E.at ha)
/-- a sequence: its object and what is asked that it stands -/
theorem seq_at {p : PV} {v : V} {xs : List PV} {g : Gd} (R : RO W ad H st) (V : VR W ad H p v) (h : itemsOf p st = .ok (xs, g)) (hn : ∀ z, p ≠ .str z) :
    ∃ a tp, v = .ref a ∧ (∃ vs, SqB W.K tp H a vs ∧ vs.length = xs.length) ∧ ∀ gs' ad1 H1 st1, (∀ q ∈ g, q ∈ gs') → Ext ad H ad1 H1 → RO W ad1 H1 st1 → gdOk gs' st1 = true → ∃ vs, SqB W.K tp H1 a vs ∧ VRs W ad1 H1 xs vs := by
  cases V with
  | tup hs r =>
    cases h
    exact ⟨_, true, rfl, ⟨_, hs.sq, r.length.symm⟩, fun gs' ad1 H1 st1 _ E _ _ => ⟨_, (hs.go E.imm).sq, r.mono E⟩⟩
  | fro hs r =>
    cases h
    exact ⟨_, false, rfl, ⟨_, hs.sq, r.length.symm⟩, fun gs' ad1 H1 st1 _ E _ _ => ⟨_, (hs.go E.imm).sq, r.mono E⟩⟩
  | ref hi =>
    simp only [itemsOf] at h
    split at h
    · rename_i hx
      cases h
      obtain ⟨vs, e, r⟩ := R.obj _ _ _ hx hi
      exact ⟨_, false, rfl, ⟨vs, SqL.of e, r.length.symm⟩, fun gs' ad1 H1 st1 hm E R1 g1 => by
        obtain ⟨ws, e1, r1⟩ := gd_list hi E R1 g1 (hm _ (List.mem_singleton.mpr rfl))
        exact ⟨ws, SqL.of e1, r1⟩⟩
    · cases h
  | str z => exact absurd rfl (hn z)
  | _ => cases h
theorem wk_seqL {p : PV} {v : V} {xs : List PV} {g : Gd} (R : RO W ad H st) (V : VR W ad H p v) (h : itemsOf p st = .ok (xs, g)) (h1 : ∀ ys, p ≠ .tup ys) (h2 : ∀ z, p ≠ .str z) :
    ∃ a, v = .ref a ∧ (∃ vs, SqL W.K H a vs) ∧ WK W ad H xs g (Itl W.K a) := by
  cases V with
  | tup hs r => exact absurd rfl (h1 _)
  | fro hs r => cases h; exact ⟨_, rfl, ⟨_, hs.sq⟩, wk_fro hs r⟩
  | str z => exact absurd rfl (h2 _)
  | ref hi =>
    simp only [itemsOf] at h
    split at h
    · rename_i ys hx
      cases h
      obtain ⟨vs, e, r⟩ := R.obj _ _ _ hx hi
      refine ⟨_, rfl, ⟨vs, SqL.of e⟩, ?_⟩
      refine ⟨fun i ad1 H1 st1 hl E R1 g1 => ?_, fun ad1 H1 st1 E R1 g1 => ?_, fun i p ad1 H1 st1 v H2 hp E R1 g1 y => ?_⟩
      · obtain ⟨ws, e1, r1⟩ := gd_list hi E R1 g1 (List.mem_singleton.mpr rfl)
        have hl' : i < ws.length := by rw [← r1.length]; exact hl
        exact ⟨ws, ws[i], SqL.of e1, by simp [hl']⟩
      · obtain ⟨ws, e1, r1⟩ := gd_list hi E R1 g1 (List.mem_singleton.mpr rfl)
        exact ⟨ws, SqL.of e1, by rw [r1.length]; exact Nat.le_refl _⟩
      · obtain ⟨ws, e1, r1⟩ := gd_list hi E R1 g1 (List.mem_singleton.mpr rfl)
        obtain ⟨e2, hv⟩ := y
        subst e2
        obtain ⟨u, h1, h2⟩ := r1.get hp
        rw [hv ws (SqL.of e1)] at h1
        cases h1
        exact ⟨.refl _ _, R1, h2⟩
    · cases h
  | _ => cases h
theorem enumP_get : ∀ {xs : List PV} {k i : Nat} {p : PV}, (enumP k xs)[i]? = some p → ∃ x, xs[i]? = some x ∧ p = .tup [.int ((k + i : Nat) : Int), x]
  | [], _, _, _, h => by simp [enumP] at h
  | x :: xs, k, 0, p, h => by
    simp only [enumP, List.getElem?_cons_zero, Option.some.injEq] at h
    exact ⟨x, rfl, h.symm⟩
  | x :: xs, k, i + 1, p, h => by
    simp only [enumP, List.getElem?_cons_succ] at h
    obtain ⟨y, h1, h2⟩ := enumP_get h
    refine ⟨y, by simpa using h1, ?_⟩
    rw [h2, show k + 1 + i = k + (i + 1) by omega]
theorem enumP_length : ∀ (xs : List PV) (k : Nat), (enumP k xs).length = xs.length
  | [], _ => rfl
  | x :: xs, k => by simp [enumP, enumP_length xs]
theorem pair_at {T : Addr} {x y : V} {p q : PV} {its : List Value} {ad1 : List Addr} {H1 : Hp} {st1 : Store} (R : RO W ad1 H1 st1) (hT : H1 T = none) (V1 : VR W ad1 H1 p x) (V2 : VR W ad1 H1 q y) :
    Ext ad1 H1 ad1 (upd H1 T (.frz (tupObj its) (.tup [x, y]))) ∧ RO W ad1 (upd H1 T (.frz (tupObj its) (.tup [x, y]))) st1 ∧ VR W ad1 (upd H1 T (.frz (tupObj its) (.tup [x, y]))) (.tup [p, q]) (.ref T) := by
  have E := Ext.fresh (ad := ad1) (o := .frz (tupObj its) (.tup [x, y])) hT
  exact ⟨E, R.fresh hT, .tup (Or.inl ⟨_, upd_same, rfl, rfl⟩) (.cons (V1.mono E) (.cons (V2.mono E) .nil))⟩
theorem wk_enum {a : Addr} {tp : Bool} {xs : List PV} {g : Gd} (hs : ∀ gs' ad1 H1 st1, (∀ q ∈ g, q ∈ gs') → Ext ad H ad1 H1 → RO W ad1 H1 st1 → gdOk gs' st1 = true → ∃ vs, SqB W.K tp H1 a vs ∧ VRs W ad1 H1 xs vs) :
    WK W ad H (enumP 0 xs) g (ItE W.K tp a) where
  go := fun i ad1 H1 st1 hi E R1 g1 => by
    obtain ⟨vs, h1, h2⟩ := hs g ad1 H1 st1 (fun _ h => h) E R1 g1
    rw [enumP_length] at hi
    have hl : i < vs.length := by rw [← h2.length]; exact hi
    exact ⟨vs, vs[i], h1, by simp [hl]⟩
  stop := fun ad1 H1 st1 E R1 g1 => by
    obtain ⟨vs, h1, h2⟩ := hs g ad1 H1 st1 (fun _ h => h) E R1 g1
    rw [enumP_length]
    exact ⟨vs, h1, h2.length.symm⟩
  yld := fun i p ad1 H1 st1 v H2 hp E R1 g1 y => by
    obtain ⟨vs, h1, h2⟩ := hs g ad1 H1 st1 (fun _ h => h) E R1 g1
    obtain ⟨T, x, its, e1, hT, e2, hx⟩ := y
    obtain ⟨q, h3, h4⟩ := enumP_get hp
    obtain ⟨u, h5, h6⟩ := h2.get h3
    rw [hx vs h1] at h5
    cases h5
    subst e1; subst e2; subst h4
    rw [Nat.zero_add]
    exact pair_at R1 hT (.int _) h6
end
theorem RdG.of_eq {α : Type} {r r' : Res α} {ad : List Addr} {H : Hp} {G : α → List Addr → Hp → Prop} (h : RdG r ad H G) (e : r = r') : RdG r' ad H G := e ▸ h
section
variable {X : Cx} {tg e e2 e3 : Expr} {es : List Expr} {m m2 m3 : EvE} {p pos : Pos}
theorem si_seq (h : SE X e m) : SI X tg e (iSeq m) := PI.to (PI.or (pi_tup h) (PI.or (pi_list h) (pi_str h))) fun σ H R ⟨ad, st, σp, S, q⟩ => by
  have fin : ∀ {x : PV × Store} {ad1 : List Addr} {H1 : Hp} {xs : List PV} {g : Gd} {J : It}, RdG (itemsOf x.1 x.2 >>= fun r => Res.ok (r, x.2)) ad1 H1 (fun y ad' H' => RO X.wd ad' H' y.2 → ∀ J, WK X.wd ad' H' y.1.1 y.1.2 J → R J H') →
      itemsOf x.1 x.2 = .ok (xs, g) → RO X.wd ad1 H1 x.2 → WK X.wd ad1 H1 xs g J → R J H1 := fun {x ad1 H1 xs g J} q hi R1 w => by
    rw [hi] at q
    exact RdG.ok q R1 J w
  cases hm : m σp st with
  | exc _ _ _ => simp only [iSeq, hm, bind_exc] at q; exact q.elim
  | stuck => simp only [iSeq, hm, bind_stuck] at q; exact q.elim
  | ok x0 =>
    cases hx : x0.1 with
    | tup xs =>
      refine Or.inl (goE S q fun x ad1 H1 v e1 E1 S1 V1 q1 => ?_)
      rw [hm] at e1; cases e1
      rw [hx] at V1
      cases V1 with
      | tup hs r2 => exact ⟨_, rfl, ⟨_, hs.sq⟩, fin q1 (by rw [hx]; rfl) S1.ro (wk_tup hs r2)⟩
    | str z =>
      refine Or.inr (Or.inr (goE S q fun x ad1 H1 v e1 E1 S1 V1 q1 => ?_))
      rw [hm] at e1; cases e1
      rw [hx] at V1
      cases V1
      exact ⟨_, rfl, fin q1 (by rw [hx]; rfl) S1.ro wk_str⟩
    | _ =>
      refine Or.inr (Or.inl (goE S q fun x ad1 H1 v e1 E1 S1 V1 q1 => ?_))
      rw [hm] at e1; cases e1
      cases hi : itemsOf x0.1 x0.2 with
      | ok r =>
        obtain ⟨a, h1, h2, w⟩ := wk_seqL S1.ro V1 hi (by rw [hx]; intro _ z; cases z) (by rw [hx]; intro _ z; cases z)
        exact ⟨a, h1, h2, fin q1 hi S1.ro w⟩
      | exc _ _ _ => rw [hi] at q1; exact q1.elim
      | stuck => rw [hi] at q1; exact q1.elim
theorem si_rng1 (hg : Gl X "range") (hm : X.mg "range" = none) (ha : SE X e m) (hs : starEach [e] X.env = [(false, eval e X.env)] := by rfl) (h0 : starEach [e] X.env = (false, eval e X.env) :: starEach [] X.env := by rfl) : SI X tg (.Call (.Name "range" p) [e] [] pos) (iRng1 m) :=
  PI.to (pi_range1 hg hm (sa_cons ha sa_nil h0) hs) fun σ H R ⟨ad, st, σp, S, q⟩ => by
    refine goA (m := aCons m aNil) (f := fun xs => match xs.1 with | [.int j] => if small62 j then .ok ((rngI 0 j.toNat, []), xs.2) else .stuck | _ => .stuck) S (RdG.of_eq q (by
      simp only [iRng1, aCons, force_eq, aNil, bind_assoc', bind_ok]
      congr 1; funext x
      cases hx : x.1 <;> simp [hx])) fun x ad1 H1 v e1 E1 S1 V1 q1 => ?_
    split at q1
    · rename_i j hj
      rw [hj] at V1
      obtain ⟨w, e, r⟩ := V1.one
      subst e; cases r
      split at q1
      · rename_i hc
        have hc' := small62_iff.mp hc
        exact ⟨j, rfl, hc'.1, hc'.2, RdG.ok q1 S1.ro _ wk_rng⟩
      · exact q1.elim
    · exact q1.elim
theorem si_enum {elts : List Expr} {kk : Nat} {tpos : Pos} (hg : Gl X "enumerate") (hm : X.mg "enumerate" = none) (ha : SE X e m) (hs : starEach [e] X.env = [(false, eval e X.env)] := by rfl)
    (h0 : starEach [e] X.env = (false, eval e X.env) :: starEach [] X.env := by rfl) : SI X (.Tuple elts kk tpos) (.Call (.Name "enumerate" p) [e] [] pos) (iEnum m) :=
  PI.to (pi_enumB hg hm (sa_cons ha sa_nil h0) hs) fun σ H R ⟨ad, st, σp, S, q⟩ => by
    refine goA (m := aCons m aNil) (f := fun xs => match xs.1 with | [.str _] => .stuck | [v] => itemsOf v xs.2 >>= fun r => .ok ((enumP 0 r.1, r.2), xs.2) | _ => .stuck) S (RdG.of_eq q (by
      simp only [iEnum, aCons, force_eq, aNil, bind_assoc', bind_ok]
      congr 1; funext x
      cases hx : x.1 <;> simp [hx])) fun x ad1 H1 v e1 E1 S1 V1 q1 => ?_
    split at q1
    · exact q1.elim
    · rename_i v hn hv
      rw [hv] at V1
      obtain ⟨w, e, r⟩ := V1.one
      subst e
      cases hi : itemsOf v x.2 with
      | ok r' =>
        rw [hi] at q1
        obtain ⟨a, tp, e, ⟨vs, h1, _⟩, h2⟩ := seq_at S1.ro r hi (fun z hz => hn z hz)
        exact ⟨a, vs, tp, by rw [e], h1, RdG.ok q1 S1.ro _ (wk_enum h2)⟩
      | exc _ _ _ => rw [hi] at q1; exact q1.elim
      | stuck => rw [hi] at q1; exact q1.elim
    · exact q1.elim
end
end Sg
set_option Elab.async false
set_option linter.all false
set_option maxRecDepth 100000
set_option maxHeartbeats 4000000
namespace Sg
open PySem PySem.Spec PyProof.Rows L2
section
variable {X : Cx} {tg iter elt kx vx : Expr} {g : Tg} {mi : EvI} {m mk mv : EvE} {t : EvT} {n : EvS} {pos : Pos} {body : List Stmt}
theorem RdG.bind_ok {α β : Type} {r : Res α} {f : α → Res β} {x : α} {ad : List Addr} {H : Hp} {G : β → List Addr → Hp → Prop} (h : RdG (r >>= f) ad H G) (e : r = .ok x) : RdG (f x) ad H G := by
  rw [e] at h; exact h
theorem drop_cons {α : Type} {l : List α} {i : Nat} (h : i < l.length) : l.drop i = l[i] :: l.drop (i + 1) := List.drop_eq_getElem_cons h
theorem ss_for (hp : PassesOwn (model X.prog X.w) X.A X.env X.xe) (hc : X.calm = true) (hi : SI X tg iter mi) (hg : SG X tg g) (hb : SSs X body n)
    (hs : ∀ x, foldedSetIterable iter X.env x = pure x := by intro _; rfl) : SS X (.For tg iter body [] pos) (sFor mi g n) :=
  PS.to (ps_for hp hc hi hg hb hs) fun D σ H ⟨ad, st, σp, S, q⟩ => by
    refine ⟨ad, st, σp, S, (RdG.bind q).imp fun x ad0 H0 e0 E0 q0 R0 J wk => ?_⟩
    have S0 := S.mono E0 R0
    refine ⟨fun i m σ' H' => m = x.1.1.length - i ∧ i ≤ x.1.1.length ∧ ∃ ad' st' σp', Ext ad0 H0 ad' H' ∧ RS X.wd ad' H' st' σp' σ' ∧ RdS X.wd (forLoop g n x.1.2 (x.1.1.drop i) σp' st') ad' H' D,
      ⟨_, rfl, Nat.zero_le _, ad0, x.2, σp, .refl _ _, S0, q0⟩, ?_⟩
    rintro i m σ' H' ⟨rfl, hi, ad', st', σp', E', S', q'⟩
    by_cases hlt : i < x.1.1.length
    · rw [drop_cons hlt] at q'
      simp only [forLoop] at q'
      split at q'
      · rename_i hgd
        refine Or.inr ⟨wk.go i ad' H' st' hlt E' S'.ro hgd, fun σ2 H2 => ∃ ad2 st2 σp2, Ext ad0 H0 ad2 H2 ∧ RS X.wd ad2 H2 st2 σp2 σ2 ∧ RdS X.wd (forLoop g n x.1.2 (x.1.1.drop (i + 1)) σp2 st2) ad2 H2 D,
          fun σ2 H2 w => ⟨x.1.1.length - (i + 1), by omega, rfl, hlt, w⟩, fun v H2 y => ?_⟩
        obtain ⟨E2, R2, V2⟩ := wk.yld i _ ad' H' st' v H2 (List.getElem?_eq_getElem hlt) E' S'.ro hgd y
        have S2 := S'.mono E2 R2
        refine gput_go [] S2 V2 (RdG.mono q' E2) fun σp3 σ3 _ S3 _ q3 => ⟨ad', st', σp3, S3, rdS_bind q3 ?_ ?_ ?_ ?_⟩
        · exact fun σp st ad4 H4 σ4 E4 S4 q4 => ⟨ad4, st, σp, (E'.trans E2).trans E4, S4, q4⟩
        · exact fun σp st ad4 H4 σ4 E4 S4 q4 => RdG.ok q4 σ4 S4
        · exact fun σp st ad4 H4 σ4 E4 S4 q4 => ⟨ad4, st, σp, (E'.trans E2).trans E4, S4, q4⟩
        · exact fun p σp st ad4 H4 v E4 R4 V4 q4 => RdG.ok q4 R4 v V4
      · exact q'.elim
    · have e : i = x.1.1.length := by omega
      subst e
      rw [List.drop_eq_nil_of_le (Nat.le_refl _)] at q'
      simp only [forLoop] at q'
      split at q'
      · rename_i hgd
        exact Or.inl ⟨wk.stop ad' H' st' E' S'.ro hgd, RdG.ok q' σ' S'⟩
      · exact q'.elim
theorem D_notin {W : Wd} {ad : List Addr} {H : Hp} {st : Store} {D : Addr} (R : RO W ad H st) (h : H D = none) : D ∉ ad := R.not_mem h
/-- a thing of our own beside the store is written -/
theorem own_write {W : Wd} {ad0 ad : List Addr} {H0 H : Hp} {st : Store} {D : Addr} {o : HO} {u : HO} (R : RO W ad H st) (hD : D ∉ ad) (h0 : H0 D = none) (E : Ext ad0 H0 ad H) (hu : H D = some u) (ni : ¬ Imu u) :
    Ext ad0 H0 ad (upd H D o) ∧ RO W ad (upd H D o) st ∧ (∀ a v, H a = some v → Imu v → upd H D o a = some v) := by
  have im : ∀ a v, H a = some v → Imu v → upd H D o a = some v := fun a v h i => by
    rw [upd_ne fun e => by subst e; rw [hu] at h; cases h; exact ni i]; exact h
  refine ⟨⟨E.pre, fun a v h n => ?_, E.new, fun a v h i => im a v (E.imm a v h i) i⟩, ⟨R.len, R.nd, fun i v a h1 h2 => (R.obj i v a h1 h2).go (fun _ _ q => q) im (upd_ne fun e => hD (e ▸ List.mem_of_getElem? h2))⟩, im⟩
  rw [upd_ne fun e => by subst e; rw [h0] at h; cases h]
  exact E.frm a v h n
theorem lc_go {σ : LSt} {H : Hp} {Q : VK} {vs : List Nat} {te : TE} {tt : TT} (ho : ∀ i ∈ g.own, i ∈ vs) (ht : ∀ σ H Q, tOfT X.wd t σ H Q → tt σ H Q) (he : ∀ σ H Q, tOfE X.wd m σ H Q → te σ H Q)
    (q : tOfE X.wd (eLc mi g t m vs) σ H Q) : tLc (tOfI X.wd mi) (rdG X.K g) tt te vs σ H Q := by
  obtain ⟨ad, st, σp, S, q⟩ := q
  refine ⟨ad, st, σp, S, (RdG.bind q).imp fun x ad0 H0 e0 E0 q0 R0 J wk D hD => ?_⟩
  have S0 := S.mono E0 R0
  have nD := D_notin R0 hD
  obtain ⟨E1, R1, im1⟩ : Ext ad0 H0 ad0 (upd H0 D (.lst [])) ∧ RO X.wd ad0 (upd H0 D (.lst [])) x.2 ∧ True := ⟨.fresh hD, R0.fresh hD, trivial⟩
  refine ⟨fun i mm H' => mm = x.1.1.length - i ∧ i ≤ x.1.1.length ∧ ∃ ad' st' acc ws, Ext ad0 H0 ad' H' ∧ RO X.wd ad' H' st' ∧ D ∉ ad' ∧ H' D = some (.lst ws) ∧ VRs X.wd ad' H' acc ws ∧
    RdE X.wd (lcLoop g t m (wipeP σp vs) x.1.2 (x.1.1.drop i) acc st' >>= fun q => .ok (.ref q.2.length, q.2 ++ [PO.lst q.1])) ad0 H0 Q, ⟨_, rfl, Nat.zero_le _, ad0, x.2, [], [], E1, R1, nD, upd_same, .nil, q0⟩, ?_⟩
  rintro i mm H' ⟨rfl, hi, ad', st', acc, ws, E', R', nD', hD', Va, q'⟩
  by_cases hlt : i < x.1.1.length
  · rw [drop_cons hlt] at q'
    simp only [lcLoop, force_eq] at q'
    split at q'
    · rename_i hgd
      refine Or.inr ⟨wk.go i ad' H' st' hlt E' R' hgd, fun H2 => ∃ ad2 st2 acc2 ws2, Ext ad0 H0 ad2 H2 ∧ RO X.wd ad2 H2 st2 ∧ D ∉ ad2 ∧ H2 D = some (.lst ws2) ∧ VRs X.wd ad2 H2 acc2 ws2 ∧
        RdE X.wd (lcLoop g t m (wipeP σp vs) x.1.2 (x.1.1.drop (i + 1)) acc2 st2 >>= fun q => .ok (.ref q.2.length, q.2 ++ [PO.lst q.1])) ad0 H0 Q, fun H2 w => ⟨x.1.1.length - (i + 1), by omega, rfl, hlt, w⟩, fun v H2 y => ?_⟩
      obtain ⟨E2, R2, V2⟩ := wk.yld i _ ad' H' st' v H2 (List.getElem?_eq_getElem hlt) E' R' hgd y
      have S2 : RS X.wd ad' H2 st' (wipeP σp vs) (wipe σ vs) := (S0.mono (E'.trans E2) R2).wipe vs
      rw [bind_assoc'] at q'
      refine gput_go vs S2 V2 (RdG.mono q' (E'.trans E2)) fun σp3 σ3 e3 S3 w3 q3 => ⟨by rw [w3 ho, wipe_wipe], ht _ _ _ ?_⟩
      have q3b := q'
      rw [e3] at q3b
      simp only [bind_ok, bind_assoc'] at q3 q3b
      refine goT S3 q3 fun c ad4 H4 e4 E4 S4 q4 => ?_
      have q4b := RdG.bind_ok q3b e4
      have D4 : H4 D = some (.lst ws) := E4.frm D _ (E2.frm D _ hD' nD') nD'
      have n4 : D ∉ ad4 := fun hm => by
        have := (E2.trans E4).new D hm nD'
        rw [hD'] at this; cases this
      cases hc : c.1 with
      | false =>
        rw [if_neg (by decide)]
        rw [hc] at q4b
        exact ⟨ad4, c.2, acc, ws, (E'.trans E2).trans E4, S4.ro, n4, D4, (Va.mono E2).mono E4, q4b⟩
      | true =>
        rw [if_pos rfl]
        rw [hc] at q4 q4b
        simp only [if_true, bind_assoc'] at q4 q4b
        refine he _ _ _ (goE S4 q4 fun y5 ad5 H5 v5 e5 E5 S5 V5 q5 => ?_)
        have q5b := RdG.bind_ok q4b e5
        have D5 : H5 D = some (.lst ws) := E5.frm D _ D4 n4
        have n5 : D ∉ ad5 := fun hm => by
          have := E5.new D hm n4
          rw [D4] at this; cases this
        split at q5b
        · rename_i hl
          have Va5 := ((Va.mono E2).mono E4).mono E5
          rw [Va.length] at hl
          obtain ⟨E6, R6, im6⟩ := own_write (o := .lst (ws ++ [v5])) S5.ro n5 hD (((E'.trans E2).trans E4).trans E5) D5 (fun z => z)
          exact ⟨ws, D5, by rw [sizeLine_eq]; exact hl, ad5, y5.2, acc ++ [y5.1], ws ++ [v5], E6, R6, n5, upd_same, (Va5.append (.cons V5 .nil)).go (fun _ _ q => q) im6, q5b⟩
        · exact q5b.elim
    · exact q'.elim
  · have e : i = x.1.1.length := by omega
    subst e
    rw [List.drop_eq_nil_of_le (Nat.le_refl _)] at q'
    simp only [lcLoop, force_eq] at q'
    split at q'
    · rename_i hgd
      refine Or.inl ⟨wk.stop ad' H' st' E' R' hgd, ?_⟩
      simp only [bind_ok] at q'
      have E2 : Ext ad0 H0 (ad' ++ [D]) H' := by
        obtain ⟨tl, et⟩ := E'.pre
        refine ⟨⟨tl ++ [D], by rw [et, List.append_assoc]⟩, E'.frm, fun a ha n => ?_, E'.imm⟩
        rcases List.mem_append.mp ha with z | z
        · exact E'.new a z n
        · rw [List.mem_singleton.mp z]; exact hD
      have at' : ∀ (k : Nat) a, ad'[k]? = some a → (ad' ++ [D])[k]? = some a := fun k a h => by
        rw [List.getElem?_append_left (List.getElem?_eq_some_iff.mp h).1]; exact h
      refine q' (ad' ++ [D]) H' E2 ⟨by simp [R'.len], ?_, fun k u a h1 h2 => ?_⟩ (.ref D) (.ref (by rw [R'.len]; simp))
      · refine List.nodup_append.mpr ⟨R'.nd, by simp, fun a ha b hb => ?_⟩
        rw [List.mem_singleton.mp hb]
        exact fun e => nD' (e ▸ ha)
      · by_cases hk : k < ad'.length
        · rw [List.getElem?_append_left hk] at h2
          rw [List.getElem?_append_left (by rw [R'.len]; exact hk)] at h1
          exact (R'.obj k u a h1 h2).go at' (fun _ _ q _ => q) rfl
        · have hk' : k = ad'.length := by
            have := (List.getElem?_eq_some_iff.mp h2).1
            simp at this
            omega
          subst hk'
          rw [List.getElem?_append_right (Nat.le_refl _)] at h2
          rw [List.getElem?_append_right (by rw [R'.len]; exact Nat.le_refl _), R'.len] at h1
          simp at h1 h2
          subst h1; subst h2
          exact ⟨ws, hD', Va.go at' fun _ _ q _ => q⟩
    · exact q'.elim
/-- the tests of a comprehension -/
def STs (X : Cx) (ifs : List Expr) (t : EvT) : Prop := PTs X ifs (tOfT X.wd t)
theorem sts_nil : STs X [] tYes := ⟨fun pins s σ H Q I ⟨ad, st, σp, S, q⟩ => pts_nil.run pins s σ H Q I (RdG.ok q S.ro)⟩
section
variable {ifs : List Expr} {scope : Scope} {own : List (Str × Nat)}
theorem se_lc (hc : X.calm = true) (hN : X.N.Nodup) (hi : SI X tg iter mi) (ok : BlkOk X.N X.env.scope scope own)
    (hg : ∀ (s : Shared) (H : Hp) (C : Addr) (cl : List (Str × Addr)) (fp : List Addr), SG (X.blk s H scope (compEnvC scope cl C X.env) fp) tg g) (ht : ∀ (s : Shared) (H : Hp) (C : Addr) (cl : List (Str × Addr)) (fp : List Addr), STs (X.blk s H scope (compEnvC scope cl C X.env) fp) ifs t)
    (he : ∀ (s : Shared) (H : Hp) (C : Addr) (cl : List (Str × Addr)) (fp : List Addr), SE (X.blk s H scope (compEnvC scope cl C X.env) fp) elt m) (ho : ∀ i ∈ g.own, i ∈ own.map (·.2) := by decide) (hs : ∀ x, foldedSetIterable iter X.env x = pure x := by intro _; rfl) :
    SE X (.ListComp elt [⟨tg, iter, ifs, 0⟩] scope pos) (eLc mi g t m (own.map (·.2))) :=
  PE.to (pe_lc (g := rdG X.K g) (tt := tOfT X.wd t) (te := tOfE X.wd m) hc hN hi ok hg ht he hs) fun σ H Q q => lc_go ho (fun _ _ _ q => q) (fun _ _ _ q => q) q
end
theorem se_dic0 : SE X (.Dict [] [] pos) eDic0 := PE.to pe_dnewK fun σ H Q ⟨ad, st, σp, S, q⟩ p hp =>
  q (ad ++ [p]) _ (.alloc hp) (S.ro.alloc hp ⟨[], upd_same, .nil⟩) _ (.ref (by rw [S.ro.len]; simp))
end
end Sg
set_option Elab.async false
set_option linter.all false
set_option maxRecDepth 100000
set_option maxHeartbeats 4000000
namespace Sg
open PySem PySem.Spec PyProof.Rows L2
/-- room for k calls more, nothing being shown -/
structure Rm (k : Nat) (A : Around) : Prop where
  rm : Room k A
  gd : A.guards = some []
theorem Rm.mono {j k : Nat} {A : Around} (r : Rm k A) (h : j ≤ k) : Rm j A := ⟨r.rm.mono h, r.gd⟩
theorem Rm.deeper {k : Nat} {A : Around} (r : Rm (k + 1) A) (env : Env) : Rm k (A.deeper env) := ⟨r.rm.deeper env, r.gd⟩
theorem Rm.un {k : Nat} {A : Around} (r : Rm k A) : A.units + 64 < cLine := r.rm.units
abbrev noX : XK := fun _ _ _ => False
/-- what a call of F promises -/
def Pm (W : Wd) (n : Nat) (F : Fn) (vs : List V) (H : Hp) (Q : VK) : Prop := vs.length = n ∧ ∃ ad st ps, RO W ad H st ∧ VRs W ad H ps vs ∧ RdE W (F ps st) ad H Q
/-- a def does what F says -/
def FnD (W : Wd) (base : Heap) (k : Nat) (f : Addr) (fd : FuncData) (ps : List Str) (F : Fn) : Prop :=
  ∀ (A : Around) (o : List Env) (s : Shared) (H : Hp) (args : Args) (us : List Value) (vs : List V) (Q : VK), Rm k A → Env0 W.P W.w W.K W.mg base A o s H → BindsTo s fd args (ps.zip us) →
    Vals vs us → Pm W ps.length F vs H Q → codeAny (model W.P W.w) A (.call (.ref f) args) (CR CX0 o W.P W.w H s Q noX) s
theorem FnD.mono {W : Wd} {base : Heap} {j k : Nat} {f : Addr} {fd : FuncData} {ps : List Str} {F : Fn} (h : FnD W base j f fd ps F) (q : j ≤ k) : FnD W base k f fd ps F :=
  fun A o s H args us vs Q hr => h A o s H args us vs Q (hr.mono q)
/-- the slots at the entry -/
def start0 (n : Nat) (ps : List PV) : Slots := ps.map some ++ List.replicate (n - ps.length) none
def fnOf (n : Nat) (m : EvS) : Fn := fun ps st => m (start0 n ps) st >>= fun r => match r.1 with
  | .nx => .ok (.non, r.2.2)
  | .rt v => .ok (v, r.2.2)
  | _ => .stuck
theorem rs_start {W : Wd} {ad : List Addr} {H : Hp} {st : Store} {ps : List PV} {vs : List V} {N : List Str} (R : RO W ad H st) (V : VRs W ad H ps vs) : RS W ad H st (start0 N.length ps) (L2.start N vs) := by
  have hl := V.length
  refine ⟨R, fun i p h => ?_, by simp [start0, L2.start, hl]⟩
  unfold start0 at h
  unfold L2.start
  by_cases hi : i < ps.length
  · rw [List.getElem?_append_left (by simpa using hi), List.getElem?_map] at h
    rw [List.getElem?_append_left (by simpa [← hl] using hi), List.getElem?_map]
    cases e : ps[i]? with
    | none => rw [e] at h; cases h
    | some q =>
      rw [e] at h
      cases h
      obtain ⟨y, h1, h2⟩ := V.get e
      exact ⟨y, by rw [h1]; rfl, h2⟩
  · rw [List.getElem?_append_right (by simpa using hi), List.getElem?_replicate] at h
    split at h <;> cases h
section
variable {W : Wd} {base : Heap} {name qual : Str} {args : Arguments} {body : List Stmt} {scope : Scope} {dvs : List V} {kws : List (Str × V)} {f : Addr} {fd : FuncData} {N ps : List Str} {k : Nat} {m : EvS}
/-- the context of a body -/
abbrev bX (W : Wd) (base : Heap) (N : List Str) (qual : Str) (scope : Scope) (f : Addr) (cd : Value) (A : Around) (o : List Env) (s : Shared) (H : Hp) : Cx :=
  (cxOf CX0 W.P W.w W.K W.mg base N qual scope f cd A o s H noX).nox
/-- THE RULE of a def -/
theorem fnD_of (F : FunD W.K name qual args body scope dvs kws f fd) (S : FnScope N ps scope)
    (hb : ∀ (cd : Value) (A : Around) (o : List Env) (s : Shared) (H : Hp), Rm k (A.deeper (envOfC qual scope s.heap.objs.size f cd)) → SSs (bX W base N qual scope f cd A o s H) body m) :
    FnD W base (k + 1) f fd ps (fnOf N.length m) := by
  obtain ⟨oc, od, dV, kV, doc, pm, an, cdv, ct, osl, rfl, lk, hcd, _, _⟩ := F.ex
  intro A o s H ar us vs Q hr e0 bi rv hsp
  obtain ⟨hl, ad, st, qs, R, V, D⟩ := hsp
  have KX : W.K.In s.heap := e0.mod.kin.keeps fun b o e => (e0.bs b o e).1
  have lim : s.heap.NoLimit := e0.mod.nolimit.keeps fun b o e => (e0.bs b o e).1
  have kinds : ∀ y ∈ ps.zip us, scope.names.lookup y.1 = some .local ∨ (scope.names.lookup y.1 = some .cell ∧ ((cellsFrom (s.heap.objs.size + 1) scope.names []).lookup y.1).isSome = true) := by
    rintro ⟨n, v⟩ hy
    exact (S.par n (List.of_mem_zip hy).1).imp id fun q => ⟨q, PySem.W.cellsFrom_some _ _ _ (.inl q)⟩
  refine codeAny_call_function hr.rm.depth (KX _ _ lk) rfl S.co S.gen rfl (PySem.W.codeRec_of KX hcd) (bi _ _ _ _ (wpAny_newFunctionEnv_cells S.kind kinds fun env he s1 x => ?_))
  cases he
  refine ⟨lim.keeps x.toInCall.keep, codeAny_func ?_⟩
  have I : Inv (cxOf CX0 W.P W.w W.K W.mg base N qual scope f cdv A o s H noX) [] (L2.start N vs) H s1 := inv_start S hr.rm.hd e0 hl rv x
  have run := (PSs.nox (hb cdv A o s H (hr.deeper _))).run [] s1 (L2.start N vs) H { nx := fun _ H' => Q .non H', rt := Q } I
    ⟨ad, st, start0 N.length qs, rs_start R V, (RdG.bind D).imp fun y ad1 H1 e1 E1 g => by
      obtain ⟨fl, σ1, st1⟩ := y
      cases fl with
      | nx => exact fun σ' S' => RdG.ok g S'.ro _ .non
      | bk => exact g.elim
      | ct => exact g.elim
      | rt v => exact fun R' v' V' => RdG.ok g R' v' V'⟩
  refine wpAny_mono run (fun fl s' hs => ?_) fun e s' hs => hs
  have fin : ∀ {σ' : LSt} {H' : Hp} {v : L2.V} {u : Value}, Inv (cxOf CX0 W.P W.w W.K W.mg base N qual scope f cdv A o s H noX) [] σ' H' s' → RelV v u → Q v H' → CE o W.P W.w H s Q u s' :=
    fun J rv q => ⟨_, _, J.os, J.bare, J.base, J.hok, rv, q⟩
  cases fl with
  | next => obtain ⟨_, _, J, q⟩ := hs; exact fin (v := L2.V.non) (u := Value.none) J rfl q
  | ret u => obtain ⟨_, _, _, J, rv, q⟩ := hs; exact fin J rv q
  | brk => obtain ⟨_, _, _, q⟩ := hs; exact q.elim
  | cont => obtain ⟨_, _, _, q⟩ := hs; exact q.elim
/-- values that stand whatever the heap is -/
def Dfl (W : Wd) (ps : List PV) (vs : List V) : Prop := ∀ ad H, VRs W ad H ps vs
theorem Dfl.nil : Dfl W [] [] := fun _ _ => .nil
end
section
variable {X : Cx} {k : Nat} {f : Addr} {fd : FuncData} {ps : List Str} {F : Fn} {dps : List PV} {dvs : List V} {ds : List Value} {x : Str} {p pos : Pos} {e : Expr} {es : List Expr} {ma : EvA}
theorem run_fnD {pins : List (Addr × Obj)} {σ : LSt} {H : Hp} {s : Shared} {Q : VK} {us : List Value} {kw : List (Str × Value)} {bs : List Value} {vs : List V} (D : FnD X.wd X.base k f fd ps F) (hr : Rm k X.A) (hb : BindsTo s fd ⟨us, kw⟩ (ps.zip bs))
    (I : Inv X pins σ H s) (r : Vals vs bs) (h : Pm X.wd ps.length F vs H Q) : wpAny (model X.prog X.w) X.A (call (.ref f) us kw) (EP X pins σ Q) X.xe s := by
  refine wpAny_call (codeAny_mono (D X.A X.stack s H ⟨us, kw⟩ bs vs Q hr I.env0 hb r h) fun r s' hq => ?_)
  match r, hq with
  | .error e, hq => exact False.elim hq
  | .ok (.ret u), hq => exact I.after hq
theorem goF {σ : LSt} {H : Hp} {Q : VK} {n : Nat} (hd : Dfl X.wd dps dvs) (hn : ∀ st ps', ps'.length ≠ n → F ps' st = .stuck) (q : tOfE X.wd (eCall (fun ps st => F (ps ++ dps) st) ma) σ H Q) :
    tOfA X.wd ma σ H fun vs H1 => Pm X.wd n F (vs ++ dvs) H1 Q := by
  obtain ⟨ad, st, σp, S, q⟩ := q
  have q2 := rd_gc S.ro q
  refine goA S q2 fun y ad1 H1 v e1 E1 S1 V1 q1 => ?_
  have V2 := V1.append (hd ad1 H1)
  refine ⟨?_, ad1, y.2, _, S1.ro, V2, q1⟩
  by_cases h : (y.1 ++ dps).length = n
  · rw [← V2.length]; exact h
  · have q3 : RdE X.wd (F (y.1 ++ dps) y.2) ad1 H1 Q := q1
    rw [hn _ _ h] at q3
    exact q3.elim
end
/-- F, of n values alone -/
def ofN (n : Nat) (F : Fn) : Fn := fun ps st => if ps.length = n then F ps st else .stuck
theorem ofN_ne (n : Nat) (F : Fn) : ∀ st ps', ps'.length ≠ n → ofN n F ps' st = .stuck := fun _ _ h => if_neg h
theorem FnD.ofN {W : Wd} {base : Heap} {k n : Nat} {f : Addr} {fd : FuncData} {ps : List Str} {F : Fn} (h : FnD W base k f fd ps F) (hn : ps.length = n) : FnD W base k f fd ps (Sg.ofN n F) :=
  fun A o s H args us vs Q hr e0 hb rv hsp => h A o s H args us vs Q hr e0 hb rv <| by
    obtain ⟨h1, ad, st, qs, R, V, D⟩ := hsp
    refine ⟨h1, ad, st, qs, R, V, ?_⟩
    unfold Sg.ofN at D
    rwa [if_pos (by rw [V.length, h1, hn])] at D
section
variable {X : Cx} {k n : Nat} {f : Addr} {fd : FuncData} {ps : List Str} {F : Fn} {dps : List PV} {dvs : List V} {ds : List Value} {x : Str} {p pos : Pos} {e : Expr} {es : List Expr} {ma : EvA}
/-- f(e, ..) -/
theorem se_call (D : FnD X.wd X.base k f fd ps (ofN n F)) (hn : ps.length = n) (hr : Rm k X.A) (hg : Gl X x) (hm : X.mg x = some (.ref f)) (hk : PySem.W.keepIn X.K (.ref f) = true) (hb : Binds X.K fd ps ds) (hv : Vals dvs ds) (hd : Dfl X.wd dps dvs)
    (ha : SA X (e :: es) ma) (hdb : (x == ("__debug__" : Str)) = false := by decide) (he : starEach (e :: es) X.env = (false, eval e X.env) :: starEach es X.env := by rfl) (hpl : (backTo pos (starEach es X.env)).any (·.1) = false := by rfl) :
    SE X (.Call (.Name x p) (e :: es) [] pos) (eCall (fun ps st => ofN n F (ps ++ dps) st) ma) := by
  refine ⟨fun pins s σ H Q I h => ?_⟩
  refine wpAny_Call_Name_kw (ld_glob I hg hm ?_ hdb)
  refine PySem.W.callWith_K (h₀ := X.base) I.ok.mod.kin hk (thn (PA.run ha pos pins s σ H _ I (goF hd (ofN_ne n F) h)) fun us s1 ⟨vs, H1, I1, r, q⟩ => ⟨I1.kIn, ?_⟩) he hpl
  have r2 := r.append hv
  subst hn
  exact run_fnD D hr (hb s1 us I1.kIn (by rw [← r2.length]; exact q.1)) I1 r2 q
end
end Sg
set_option Elab.async false
set_option linter.all false
set_option maxRecDepth 100000
set_option maxHeartbeats 4000000
namespace Sg
open PySem PySem.W PySem.Spec PyProof.Rows L2
theorem vrs_ints {W : Wd} {ad : List Addr} {H : Hp} : ∀ ns : List Int, VRs W ad H (ns.map PV.int) (ns.map V.int)
  | [] => .nil
  | n :: r => .cons (.int n) (vrs_ints r)
/-- what a law's call ends with -/
def Good (s₁ : Shared) (r : Result) (s' : Shared) : Prop := r = .ok (.ret (.bool true)) ∧ OldK s₁.heap s'.heap ∧ s'.os = s₁.os ∧ AllBare s'.gens
/-- the script's object -/
abbrev scr (vs : List Value) : Obj := { cls := .type "list", data := .seq vs.toArray }
end Sg
set_option Elab.async false
set_option linter.all false
set_option maxRecDepth 100000
set_option maxHeartbeats 4000000
namespace Sg
open PySem PySem.W PySem.Spec PyProof.Rows L2
section
variable {X : Cx} {a b e : Expr} {ma mb m : EvE} {pos p cpos apos : Pos} {x : Str}
theorem se_glob {q : PV} {v : V} {u : Value} (hg : Gl X x) (hm : X.mg x = some u) (r : RelV v u) (hp : ∀ ad H, VR X.wd ad H q v) (hd : (x == ("__debug__" : Str)) = false := by decide) : SE X (.Name x pos) (eC q) :=
  se_c (pe_glob hg hm r hd) hp
def opMulA : Op2 := fun x y st => match x, y with
  | .int i, .int j => if mulOk i j then .ok (.int (i * j), st) else .stuck
  | .ref i, .int k => match st[i]? with
    | some (.lst xs) => if 0 ≤ k ∧ k ≤ 16777216 ∧ xs.length * k.toNat ≤ LINE then .ok (.ref st.length, st ++ [.lst (List.replicate k.toNat xs).flatten]) else .stuck
    | _ => .stuck
  | _, _ => .stuck
theorem VRs.rep {W : Wd} {ad : List Addr} {H : Hp} {xs : List PV} {vs : List V} (h : VRs W ad H xs vs) : ∀ n : Nat, VRs W ad H (List.replicate n xs).flatten (List.replicate n vs).flatten
  | 0 => .nil
  | n + 1 => by
    rw [List.replicate_succ, List.replicate_succ, List.flatten_cons, List.flatten_cons]
    exact h.append (VRs.rep h n)
theorem od_mul : OpD X (binaryOp .Mult) opMulA := OpR.to (od_mulI.or op_rep) fun x y H Q ⟨ad, st, p, q, R, V, W, h⟩ => by
  unfold opMulA at h
  split at h
  · exact Or.inl ⟨ad, st, _, _, R, V, W, h⟩
  · split at h
    · rename_i hx
      split at h
      · rename_i hc
        cases V with
        | ref hi =>
          obtain ⟨vs, e, r⟩ := R.obj _ _ _ hx hi
          cases W
          refine Or.inr ⟨_, _, vs, rfl, rfl, e, by omega, by omega, by rw [← r.length, sizeLine_eq]; exact hc.2.2, fun l hl => rdNew h R ?_ hl⟩
          exact r.rep _
      · exact h.elim
    · exact h.elim
  · exact h.elim
inductive SPs (X : Cx) (pos : Pos) : List (Option Expr) → List Expr → EvP → Prop
  | nil : SPs X pos [] [] pNil
  | cons {k v : Expr} {ks vs} {mk mv : EvE} {r : EvP} : SE X k mk → SE X v mv → SPs X pos ks vs r → SPs X pos (some k :: ks) (v :: vs) (pCons mk mv r)
theorem DR.merge {W : Wd} {ad : List Addr} {H : Hp} : ∀ {ps : List (PV × PV)} {kvs : List (Key × V)} {as : List (PV × PV)} {ws : List (Key × V)}, DR W ad H ps kvs → DR W ad H as ws →
    DR W ad H (ps.foldl (fun acc q => dictPut acc q.1 q.2) as) (mergeK ws kvs)
  | [], _, _, _, h, r => by cases h; exact r
  | _ :: _, _, _, _, h, r => by
    cases h with
    | @cons k p v' ps' vs' v t =>
      have z := DR.merge t (DR.put (k := k) v r)
      exact z
/-- pairs whose keys are keys -/
theorem pairs_dr {W : Wd} {ad : List Addr} {H : Hp} : ∀ {ps : List (PV × PV)} {vs : List (V × V)}, VRs W ad H (ps.map (·.1)) (vs.map (·.1)) → VRs W ad H (ps.map (·.2)) (vs.map (·.2)) → (ps.all fun q => keyOk q.1) = true →
    ∃ kvs : List (Key × V), vs = kvs.map (fun kv => (kV kv.1, kv.2)) ∧ DR W ad H ps kvs
  | [], [], _, _, _ => ⟨[], rfl, .nil⟩
  | [], _ :: _, h, _, _ => by cases h
  | _ :: _, [], h, _, _ => by cases h
  | p :: ps, v :: vs, .cons a b, .cons c d, h => by
    simp only [List.all_cons, Bool.and_eq_true] at h
    obtain ⟨kvs, e, r⟩ := pairs_dr b d h.2
    obtain ⟨k, e1, e2⟩ := keyP_vr a h.1
    obtain ⟨p1, p2⟩ := p
    obtain ⟨v1, v2⟩ := v
    simp only at e1 e2 c
    subst e1; subst e2
    exact ⟨(k, v2) :: kvs, by rw [e]; rfl, .cons c r⟩
/-- a new thing of our own enters the store -/
theorem own_end {W : Wd} {ad0 ad : List Addr} {H0 H : Hp} {st : Store} {D : Addr} {o : PO} (E : Ext ad0 H0 ad H) (R : RO W ad H st) (hD : H0 D = none) (nD : D ∉ ad) (r : OR W (ad ++ [D]) H o D) :
    Ext ad0 H0 (ad ++ [D]) H ∧ RO W (ad ++ [D]) H (st ++ [o]) := by
  obtain ⟨tl, et⟩ := E.pre
  refine ⟨⟨⟨tl ++ [D], by rw [et, List.append_assoc]⟩, E.frm, fun a ha n => ?_, E.imm⟩, by simp [R.len], ?_, fun k u a h1 h2 => ?_⟩
  · rcases List.mem_append.mp ha with z | z
    · exact E.new a z n
    · rw [List.mem_singleton.mp z]; exact hD
  · refine List.nodup_append.mpr ⟨R.nd, by simp, fun a ha b hb => ?_⟩
    rw [List.mem_singleton.mp hb]
    exact fun e => nD (e ▸ ha)
  · by_cases hk : k < ad.length
    · rw [List.getElem?_append_left hk] at h2
      rw [List.getElem?_append_left (by rw [R.len]; exact hk)] at h1
      exact (R.obj k u a h1 h2).go (fun k a h => by rw [List.getElem?_append_left (List.getElem?_eq_some_iff.mp h).1]; exact h) (fun _ _ q _ => q) rfl
    · have hk' : k = ad.length := by
        have := (List.getElem?_eq_some_iff.mp h2).1
        simp at this
        omega
      subst hk'
      rw [List.getElem?_append_right (Nat.le_refl _)] at h2
      rw [List.getElem?_append_right (by rw [R.len]; exact Nat.le_refl _), R.len] at h1
      simp at h1 h2
      subst h1; subst h2
      exact r
theorem at_app {ad : List Addr} {D : Addr} : ∀ (k : Nat) a, ad[k]? = some a → (ad ++ [D])[k]? = some a := fun k a h => by
  rw [List.getElem?_append_left (List.getElem?_eq_some_iff.mp h).1]; exact h
theorem sps_go {keys : List (Option Expr)} {vals : List Expr} {mp : EvP} (h : SPs X pos keys vals mp) : ∃ trs : List (TE × TE), PPs X pos keys vals trs ∧ keys.all (·.isSome) = true ∧ keys.length = vals.length ∧
    ∀ {ad st σp σ H} {R : List (V × V) → Hp → Prop}, RS X.wd ad H st σp σ → (∃ x, mp σp st = .ok x) →
      (∀ x ad' H' (vs : List (V × V)), mp σp st = .ok x → Ext ad H ad' H' → RO X.wd ad' H' x.2 → VRs X.wd ad' H' (x.1.map (·.1)) (vs.map (·.1)) → VRs X.wd ad' H' (x.1.map (·.2)) (vs.map (·.2)) → R vs H') → tPairs trs σ H R := by
  induction h with
  | nil => exact ⟨[], pps_nil, rfl, rfl, fun S q k => k ([], _) _ _ [] rfl (.refl _ _) S.ro .nil .nil⟩
  | @cons k v ks vs mk mv r hk hv _ ih =>
    obtain ⟨trs, h1, h2, h3, h4⟩ := ih
    refine ⟨(tOfE X.wd mk, tOfE X.wd mv) :: trs, pps_cons hk hv h1, by simpa using h2, by simp [h3], fun {ad st σp σ H R} S q kk => ?_⟩
    obtain ⟨x, q⟩ := q
    unfold pCons at q kk
    cases e1 : mk σp st with
    | stuck => rw [e1] at q; cases q
    | exc _ _ _ => rw [e1] at q; cases q
    | ok x1 =>
      rw [e1] at q kk
      simp only [bind_ok] at q kk
      cases e2 : mv σp x1.2 with
      | stuck => rw [e2] at q; cases q
      | exc _ _ _ => rw [e2] at q; cases q
      | ok x2 =>
        rw [e2] at q kk
        simp only [bind_ok] at q kk
        cases e3 : r σp x2.2 with
        | stuck => rw [e3] at q; cases q
        | exc _ _ _ => rw [e3] at q; cases q
        | ok x3 =>
          rw [e3] at kk
          simp only [bind_ok] at kk
          refine ⟨ad, st, σp, S, ?_⟩
          rw [e1]
          intro ad1 H1 E1 R1 v1 V1
          have S1 := S.mono E1 R1
          refine ⟨ad1, x1.2, σp, S1, ?_⟩
          rw [e2]
          intro ad2 H2 E2 R2 v2 V2
          have S2 := S1.mono E2 R2
          refine h4 S2 ⟨_, e3⟩ fun y ad3 H3 ws ey E3 R3 A3 B3 => ?_
          rw [e3] at ey
          cases ey
          exact kk _ ad3 H3 ((v1, v2) :: ws) rfl ((E1.trans E2).trans E3) R3 (.cons ((V1.mono E2).mono E3) A3) (.cons (V2.mono E3) B3)
theorem se_disp {keys : List (Option Expr)} {vals : List Expr} {mp : EvP} (h : SPs X pos keys vals mp) (h0 : keys ≠ [] := by exact List.cons_ne_nil _ _) (h15 : keys.length ≤ 15 := by simp only [List.length_cons, List.length_nil]; omega) : SE X (.Dict keys vals pos) (eDisp mp) := by
  obtain ⟨trs, h1, h2, h3, h4⟩ := sps_go h
  refine PE.to (pe_disp h1 h2 h3 h0 h15) fun σ H Q ⟨ad, st, σp, S, q⟩ d hd => ?_
  have nD := S.ro.not_mem hd
  have S1 : RS X.wd ad (upd H d (.dK [])) st σp σ := S.mono (.fresh hd) (S.ro.fresh hd)
  unfold eDisp at q
  cases ex : mp σp st with
  | stuck => rw [ex] at q; exact q.elim
  | exc _ _ _ => rw [ex] at q; exact q.elim
  | ok x =>
    rw [ex] at q
    simp only [bind_ok] at q
    split at q
    · rename_i hc
      simp only [Bool.and_eq_true, decide_eq_true_eq] at hc
      refine h4 S1 ⟨x, ex⟩ fun y ad' H' vs ey E R A B => ?_
      rw [ex] at ey
      cases ey
      have dD : H' d = some (.dK []) := E.frm d _ upd_same nD
      obtain ⟨kvs, e, r⟩ := pairs_dr A B hc.1
      refine ⟨dD, kvs, e, by rw [← r.length]; exact hc.2, ?_⟩
      have nd' : d ∉ ad' := fun hm => by
        have := E.new d hm nD
        rw [upd_same] at this; cases this
      have E0 : Ext ad H ad' H' := (Ext.fresh hd).trans E
      obtain ⟨E6, R6, im6⟩ := own_write (o := .dK (mergeK [] kvs)) R nd' hd E0 dD (fun z => z)
      obtain ⟨E7, R7⟩ := own_end (o := .dic (x.1.foldl (fun acc q => dictPut acc q.1 q.2) [])) E6 R6 hd nd' ⟨_, upd_same, DR.go at_app (fun _ _ q _ => q) (DR.merge (DR.go (fun _ _ q => q) im6 r) .nil)⟩
      exact q _ _ E7 R7 _ (.ref (by rw [R.len]; simp))
    · exact q.elim
end
end Sg
set_option Elab.async false
set_option linter.all false
set_option maxRecDepth 100000
set_option maxHeartbeats 4000000
namespace Sg
open PySem PySem.W PySem.Spec PyProof.Rows L2
/-- a def of the text, as the module's top has laid it (no defaults) -/
def DefIs (K : PySem.W.Frag) (x : Str) (st : Stmt) : Prop := ∃ (f : Addr) (fd : FuncData), PySem.W.nsIn K mainGlobals x = some (some (.ref f)) ∧ FunD K x x (L2.defArgs st) (L2.defBody st) (L2.defScope st) [] [] f fd
theorem defIs {K : PySem.W.Frag} {x : Str} {st : Stmt} {f : Addr} {od an : Option Addr} {sl : Array (Option Value)} {oc kV dc pm cd ct : Value} (a : PySem.W.nsIn K mainGlobals x = some (some (.ref f)))
    (l : K.lookup f = some ⟨oc, od, .func (PySem.W.fnOf x x (L2.defArgs st) (L2.defBody st) (L2.defScope st) .none kV dc pm an cd ct), sl⟩) (c : PySem.W.codeIn K cd x = true) (k : PySem.W.keepIn K (.ref f) = true) : DefIs K x st :=
  ⟨f, _, a, ⟨oc, od, .none, kV, dc, pm, an, cd, ct, sl, rfl, l, c, Or.inl ⟨rfl, rfl⟩, Or.inl rfl⟩, k⟩
/-- what may be called by name -/
def Cal (W : Wd) (base : Heap) (k n : Nat) (x : Str) (F : Fn) : Prop := ∃ (f : Addr) (fd : FuncData) (ps : List Str), ps.length = n ∧ FnD W base k f fd ps (ofN n F) ∧ W.mg x = some (.ref f) ∧ PySem.W.keepIn W.K (.ref f) = true ∧ L2.Binds W.K fd ps []
/-- how a def binds what is given by position -/
def BindAll (x : Str) (st : Stmt) (ps : List Str) : Prop := ∀ (kV doc pm : Value) (an : Option Addr) (cdv ct : Value) (us : List Value), us.length = ps.length →
  bindArgs (PySem.W.fnOf x x (L2.defArgs st) (L2.defBody st) (L2.defScope st) .none kV doc pm an cdv ct) ⟨us, []⟩ = pure (ps.zip us)
abbrev BodyOk (W : Wd) (base : Heap) (N : List Str) (x : Str) (st : Stmt) (k : Nat) (m : EvS) : Prop := ∀ (f : Addr) (cd : Value) (A : Around) (o : List Env) (s : Shared) (H : Hp), Rm k (A.deeper (envOfC x (L2.defScope st) s.heap.objs.size f cd)) →
  SSs (bX W base N x (L2.defScope st) f cd A o s H) (L2.defBody st) m
section
variable {W : Wd} {base h : Heap} {x : Str} {st : Stmt} {N ps : List Str} {k n : Nat} {m : EvS}
theorem cal_of (D : DefIs W.K x st) (KX : W.K.In h) (G : h.Ns mainGlobals W.mg) (S : FnScope N ps (L2.defScope st)) (bi : BindAll x st ps) (b : BodyOk W base N x st k m) (hn : ps.length = n := by rfl) : Cal W base (k + 1) n x (fnOf N.length m) := by
  obtain ⟨f, fd, a, F⟩ := D
  exact ⟨f, fd, ps, hn, FnD.ofN (fnD_of F S fun cd A o s H hr => b f cd A o s H hr) hn, PySem.W.mg_of KX G a, F.kp, F.bindsN bi⟩
theorem Cal.mono {F : Fn} {k' : Nat} (c : Cal W base k n x F) (h : k ≤ k') : Cal W base k' n x F := by
  obtain ⟨f, fd, ps, hn, D, r⟩ := c
  exact ⟨f, fd, ps, hn, D.mono h, r⟩
end
section
variable {X : Cx} {k k' n : Nat} {F : Fn} {x : Str} {p pos : Pos} {e : Expr} {es : List Expr} {ma : EvA}
theorem se_callC (C : Cal X.wd X.base k' n x F) (hr : Rm k X.A) (ha : SA X (e :: es) ma) (hg : Gl X x := by rfl) (hk : k' ≤ k := by decide)
    (hdb : (x == ("__debug__" : Str)) = false := by decide) (he : starEach (e :: es) X.env = (false, eval e X.env) :: starEach es X.env := by rfl) (hpl : (backTo pos (starEach es X.env)).any (·.1) = false := by rfl) :
    SE X (.Call (.Name x p) (e :: es) [] pos) (eCall (ofN n F) ma) := by
  obtain ⟨f, fd, ps, hn, D, hm, hkp, hb⟩ := C
  have q := se_call (X := X) (dps := []) (dvs := []) (ds := []) (pos := pos) (p := p) D hn (hr.mono hk) hg hm hkp hb .nil Dfl.nil ha hdb he hpl
  have e : (fun (ps : List PV) (st : Store) => ofN n F (ps ++ []) st) = ofN n F := by funext ps st; rw [List.append_nil]
  rw [e] at q
  exact q
/-- a built-in type, as a value -/
theorem se_ty {T : String} (hm : X.mg x = none) (hv : bootBuiltins x = some (.type T)) (hg : Gl X x := by rfl) (hn : x ≠ "__name__" := by decide) (hd : (x == ("__debug__" : Str)) = false := by decide) : SE X (.Name x pos) (eC (.ty T)) :=
  se_c (v := .ty T) (pe_bltn hg hm hv rfl hn hd) fun _ _ => .ty T
theorem SE.or {m m' q : EvE} (h : SE X e m) (h' : SE X e m') (c : ∀ σ st, q σ st = m σ st ∨ q σ st = m' σ st) : SE X e q := ⟨fun pins s σ H Q I ⟨ad, st, σp, S, d⟩ => by
  rcases c σp st with z | z
  · rw [z] at d
    exact PE.run h pins s σ H Q I ⟨ad, st, σp, S, d⟩
  · rw [z] at d
    exact PE.run h' pins s σ H Q I ⟨ad, st, σp, S, d⟩⟩
end
/-- x[y] of a list, a tuple, a text or a dict -/
def opIxA : Op2 := fun x y st => if isDic st x then opDGet x y st else opIx x y st
theorem se_ixA {X : Cx} {a b : Expr} {ma mb : EvE} {pos : Pos} (hu : X.A.units + 64 < cLine) (ha : SE X a ma) (hb : SE X b mb) (hs : PlainIx b := by first | exact fun _ _ => rfl | (intro _ _; rfl)) (hs2 : NoSl b := by first | exact fun _ _ => rfl | (intro _ _; rfl)) :
    SE X (.Subscript a b pos) (eBinG opIxA ma mb) := by
  refine SE.or (se_ix ha hb hs) (se_dget hu ha hb hs2) fun σ st => ?_
  unfold eBinG eBin
  cases ma σ st with
  | stuck => exact Or.inl rfl
  | exc _ _ _ => exact Or.inl rfl
  | ok x =>
    simp only [bind_ok]
    cases mb σ x.2 with
    | stuck => exact Or.inl rfl
    | exc _ _ _ => exact Or.inl rfl
    | ok y =>
      simp only [bind_ok]
      unfold opIxA
      cases isDic y.2 x.1 with
      | true => exact Or.inr rfl
      | false => exact Or.inl rfl
theorem bt_len : bootBuiltins "len" = some (.builtin "len") := by decide +kernel
theorem bt_isinstance : bootBuiltins "isinstance" = some (.builtin "isinstance") := by decide +kernel
theorem bt_abs : bootBuiltins "abs" = some (.builtin "abs") := by decide +kernel
theorem bt_min : bootBuiltins "min" = some (.builtin "min") := by decide +kernel
theorem bt_max : bootBuiltins "max" = some (.builtin "max") := by decide +kernel
theorem bt_all : bootBuiltins "all" = some (.builtin "all") := by decide +kernel
theorem bt_repr : bootBuiltins "repr" = some (.builtin "repr") := by decide +kernel
section
variable {X : Cx} {tg iter elt kx vx : Expr} {g : Tg} {mi : EvI} {m mk mv : EvE} {t : EvT} {pos : Pos} {ifs : List Expr} {scope : Scope} (own : List (Str × Nat)) {vs : List Nat}
theorem se_lcB (hi : SI X tg iter mi) (hN : X.N.Nodup) (hc : X.calm = true) (ok : blkC X.N X.env.scope scope own = true)
    (hg : ∀ (s : Shared) (H : Hp) (C : Addr) (cl : List (Str × Addr)) (fp : List Addr), SG (X.blk s H scope (compEnvC scope cl C X.env) fp) tg g) (ht : ∀ (s : Shared) (H : Hp) (C : Addr) (cl : List (Str × Addr)) (fp : List Addr), STs (X.blk s H scope (compEnvC scope cl C X.env) fp) ifs t)
    (he : ∀ (s : Shared) (H : Hp) (C : Addr) (cl : List (Str × Addr)) (fp : List Addr), SE (X.blk s H scope (compEnvC scope cl C X.env) fp) elt m) (ho : ∀ i ∈ g.own, i ∈ own.map (·.2) := by decide) (hs : ∀ x, foldedSetIterable iter X.env x = pure x := by intro _; rfl) (hv : own.map (·.2) = vs := by rfl) :
    SE X (.ListComp elt [⟨tg, iter, ifs, 0⟩] scope pos) (eLc mi g t m vs) := by subst hv; exact se_lc hc hN hi (blkOk_by ok) hg ht he ho hs
end
end Sg
set_option Elab.async false
set_option linter.all false
set_option maxRecDepth 100000
set_option maxHeartbeats 4000000
namespace Sg
open PySem PySem.W PySem.Spec PyProof.Rows L2
section
variable {X : Cx}
theorem MtR.par {id : String} {F : PV → Fn} {P : PV → Prop} (h : MtR X id (fun x xs H Q => ∃ ad st p ps, RO X.wd ad H st ∧ VR X.wd ad H p x ∧ VRs X.wd ad H ps xs ∧ P p ∧ RdE X.wd (F p ps st) ad H Q)) [DecidablePred P] :
    MtR X id (rMOf X fun p vs st => if P p then F p vs st else .stuck) :=
  MtR.to h fun x xs H Q ⟨ad, st, p, ps, R, V, Vs, q⟩ => by
    by_cases hp : P p
    · exact ⟨ad, st, p, ps, R, V, Vs, hp, by simpa [hp] using q⟩
    · simp only [hp, if_false] at q
      exact q.elim
end
end Sg
set_option Elab.async false
set_option linter.all false
set_option maxRecDepth 100000
set_option maxHeartbeats 4000000
namespace Sg
open PySem
theorem gc_same {st st' : Store} {v : PV} (h : st'.length = st.length) : gc st (v, st') = (v, st') := if_pos h
def Bd (a : Nat) (i : Int) : Prop := i.natAbs < 2 ^ a
theorem Bd.mono {a b : Nat} {i : Int} (h : Bd a i) (hab : a ≤ b) : Bd b i := Nat.lt_of_lt_of_le h (Nat.pow_le_pow_right (by decide) hab)
theorem Bd.mul {a b : Nat} {i j : Int} (h : Bd a i) (g : Bd b j) : Bd (a + b) (i * j) := by
  unfold Bd at *
  rw [Int.natAbs_mul, Nat.pow_add]
  exact Nat.mul_lt_mul'' h g
theorem Bd.add {a : Nat} {i j : Int} (h : Bd a i) (g : Bd a j) : Bd (a + 1) (i + j) := by
  unfold Bd at *
  have := Int.natAbs_add_le i j
  rw [Nat.pow_succ]; omega
theorem Bd.lt {a : Nat} {i : Int} (h0 : 0 ≤ i) (h : i < 2 ^ a) : Bd a i := by
  unfold Bd
  have e : ((2 ^ a : Nat) : Int) = (2 : Int) ^ a := by simp
  have : (i.natAbs : Int) < ((2 ^ a : Nat) : Int) := by rw [Int.natAbs_of_nonneg h0, e]; exact h
  omega
theorem mulOk_of {a b : Nat} {i j : Int} (h : Bd a i) (g : Bd b j) (hab : a + b < 1000000) : mulOk i j = true := by
  unfold mulOk
  have e : ∀ (c : Nat) (x : Int), Bd c x → x.natAbs.log2 ≤ c := fun c x hx => by
    by_cases z : x.natAbs = 0
    · rw [z]; exact Nat.zero_le _
    · exact Nat.le_of_lt ((Nat.log2_lt z).mpr hx)
  have h1 := e a i h
  have h2 := e b j g
  simp only [decide_eq_true_eq]
  omega
def mDraw : EvS := sSeq (sIf (tVal (eBinG opGt (eBinG opIxA (eVar 0) (eC (.int 0))) (eC (.int 0)))) (sSeq (sAsg (eBin opMod (eBinG opIxA (eVar 0) (eC (.int 0))) (eVar 1)) (.nm 2)) (sSeq (sSub (eVar 0) (eC (.int 0)) (eBin opFdiv (eBinG opIxA (eVar 0) (eC (.int 0))) (eVar 1))) (sRet (eVar 2)))) (sNil)) (sSeq (sSub (eVar 0) (eC (.int 2)) (eBin opAdd (eBinG opIxA (eVar 0) (eC (.int 2))) (eC (.int 1)))) (sSeq (sAsg (eBinG opIxA (eVar 0) (eC (.int 2))) (.nm 3)) (sSeq (sAsg (eBin opMod (eBin opMulA (eBin opAdd (eBin opAdd (eBinG opIxA (eVar 0) (eC (.int 1))) (eBin opMulA (eBin opMulA (eC (.int 65537)) (eVar 3)) (eVar 3))) (eC (.int 11))) (eC (.int 48271))) (eC (.int 2305843009213693921))) (.nm 4)) (sSeq (sAsg (eBin opMod (eBin opMulA (eVar 4) (eBin opAdd (eBin opMod (eVar 4) (eC (.int 1000003))) (eBin opMulA (eC (.int 99991)) (eVar 3)))) (eC (.int 2305843009213693907))) (.nm 4)) (sRet (eBin opMod (eBin opAdd (eBin opFdiv (eVar 4) (eC (.int 97))) (eBin opFdiv (eVar 4) (eC (.int 1000033)))) (eVar 1)))))))
def mSource : EvS := sSeq (sAsg (eIf (tVal (eBinG opLt (eVar 1) (eCall fnLen (aCons (eVar 0) (aNil))))) (eBinG opIxA (eVar 0) (eVar 1)) (eC (.int 0))) (.nm 2)) (sSeq (sAsg (eIf (tVal (eBinG opGe (eCall fnAbs (aCons (eVar 2) (aNil))) (eBin opPow (eC (.int 10)) (eC (.int 18))))) (eBin opMod (eCall fnAbs (aCons (eVar 2) (aNil))) (eBin opPow (eBin opPow (eC (.int 10)) (eC (.int 60))) (eC (.int 4)))) (eC (.int 0))) (.nm 3)) (sRet (eLst (aCons (eVar 3) (aCons (eBin opMod (eBin opAdd (eBin opAdd (eBin opMulA (eBin opMod (eVar 2) (eC (.int 2305843009213693951))) (eC (.int 1000003))) (eBin opMulA (eBin opMulA (eC (.int 7919)) (eVar 1)) (eVar 1))) (eC (.int 97))) (eC (.int 2305843009213693921))) (aCons (eC (.int 0)) (aNil)))))))
/-- a state of draws: what is left of the digits, the seed, the number of draws -/
def srcO (d s t : Int) : PO := .lst [.int d, .int s, .int t]
structure SrcOk (d s t : Int) : Prop where
  d0 : 0 ≤ d
  s0 : 0 ≤ s
  s1 : s < 2305843009213693952
  t0 : 0 ≤ t
@[simp] theorem gcR_bind (st : Store) (x : PV × Store) : gcR st (Res.ok x) = Res.ok (gc st x) := rfl
theorem gc_int {st : Store} {i : Int} : gc st (.int i, st) = (.int i, st) := gc_same rfl
theorem gc_bl {st : Store} {i : Bool} : gc st (.bl i, st) = (.bl i, st) := gc_same rfl
theorem ix_src {st : Store} {i : Nat} {d s t : Int} (hi : st[i]? = some (srcO d s t)) : opIxA (.ref i) (.int 0) st = .ok (.int d, st) ∧ opIxA (.ref i) (.int 1) st = .ok (.int s, st) ∧ opIxA (.ref i) (.int 2) st = .ok (.int t, st) := by
  simp [opIxA, isDic, hi, srcO, opIx, ixP, seqP]
theorem set_src {st : Store} {i : Nat} {d s t x : Int} (hi : st[i]? = some (srcO d s t)) : setP (.ref i) (.int 0) (.int x) st = .ok (st.set i (srcO x s t)) ∧ setP (.ref i) (.int 2) (.int x) st = .ok (st.set i (srcO d s x)) := by
  simp [setP, hi, srcO, ixP]
/-- a draw below n -/
theorem draw_ok {st : Store} {i : Nat} {d s t n : Int} (hi : st[i]? = some (srcO d s t)) (h : SrcOk d s t) (ht : t < 2 ^ 64) (n0 : 0 < n) (n1 : n < 2 ^ 62) :
    ∃ r d' t', 0 ≤ r ∧ r < n ∧ SrcOk d' s t' ∧ t' ≤ t + 1 ∧ fnOf 5 mDraw [.ref i, .int n] st = .ok (.int r, st.set i (srcO d' s t')) := by
  have hlt : i < st.length := (List.getElem?_eq_some_iff.mp hi).1
  have nl : n.natAbs.log2 < 9000 := by
    have : n.natAbs ≠ 0 := by omega
    have := (Nat.log2_lt (n := n.natAbs) (k := 62) this).mpr (by omega)
    omega
  obtain ⟨i0, i1, i2⟩ := ix_src hi
  obtain ⟨w0, w2⟩ := set_src (x := d / n) hi
  by_cases hd : 0 < d
  · refine ⟨d % n, d / n, t, Int.emod_nonneg _ (by omega), Int.emod_lt_of_pos _ n0, ⟨Int.ediv_nonneg h.d0 (by omega), h.s0, h.s1, h.t0⟩, by omega, ?_⟩
    simp [fnOf, mDraw, start0, sSeq, sIf, tVal, eBinG, eBin, eVar, eC, i0, gc_int, gc_bl, opGt, hd, sAsg, gPut, Tg.put, opMod, n0, sSub, opFdiv, nl, w0, sRet]
  · have h1 := set_src (x := t + 1) hi
    have hi' : (st.set i (srcO d s (t + 1)))[i]? = some (srcO d s (t + 1)) := by rw [List.getElem?_set_self hlt]
    obtain ⟨j0, j1, j2⟩ := ix_src hi'
    have hs := h.s0
    have hs1 := h.s1
    have ht0 := h.t0
    have bt : Bd 65 (t + 1) := .lt (by omega) (by omega)
    have b1 : Bd 17 65537 := .lt (by decide) (by decide)
    have b2 : Bd 61 s := .lt hs (by omega)
    have m1 : mulOk 65537 (t + 1) = true := mulOk_of b1 bt (by decide)
    have m2 : mulOk (65537 * (t + 1)) (t + 1) = true := mulOk_of (b1.mul bt) bt (by decide)
    have m3 : mulOk (s + 65537 * (t + 1) * (t + 1) + 11) 48271 = true := mulOk_of (a := 200) (b := 17) (((b2.mono (b := 198) (by decide)).add (((b1.mul bt).mul bt).mono (by decide))).add (Bd.mono (a := 4) (.lt (by decide) (by decide)) (by decide))) (.lt (by decide) (by decide)) (by decide)
    have m4 : mulOk 99991 (t + 1) = true := mulOk_of (a := 17) (.lt (by decide) (by decide)) bt (by decide)
    have q1 := Int.emod_nonneg ((s + 65537 * (t + 1) * (t + 1) + 11) * 48271) (show (2305843009213693921 : Int) ≠ 0 by decide)
    have q2 := Int.emod_lt_of_pos ((s + 65537 * (t + 1) * (t + 1) + 11) * 48271) (show (0 : Int) < 2305843009213693921 by decide)
    generalize hmm : (s + 65537 * (t + 1) * (t + 1) + 11) * 48271 % 2305843009213693921 = mm at q1 q2
    have r1 := Int.emod_nonneg mm (show (1000003 : Int) ≠ 0 by decide)
    have r2 := Int.emod_lt_of_pos mm (show (0 : Int) < 1000003 by decide)
    have m5 : mulOk mm (mm % 1000003 + 99991 * (t + 1)) = true := mulOk_of (a := 62) (b := 100) (.lt q1 (by omega)) (.lt (by omega) (by omega)) (by decide)
    have l1 : Nat.log2 97 < 9000 := by decide +kernel
    have l2 : Nat.log2 1000033 < 9000 := by decide +kernel
    refine ⟨(mm * (mm % 1000003 + 99991 * (t + 1)) % 2305843009213693907 / 97 + mm * (mm % 1000003 + 99991 * (t + 1)) % 2305843009213693907 / 1000033) % n, d, t + 1, Int.emod_nonneg _ (by omega), Int.emod_lt_of_pos _ n0, ⟨h.d0, h.s0, h.s1, by omega⟩, by omega, ?_⟩
    simp [fnOf, mDraw, start0, sSeq, sIf, sNil, tVal, eBinG, eBin, eVar, eC, i0, i2, gc_int, gc_bl, opGt, hd, sAsg, gPut, Tg.put, sSub, opAdd, h1.2, j1, j2, opMulA, m1, m2, m3, hmm, opMod, m4, m5, opFdiv, l1, l2, n0, sRet]
theorem pow_ok {i j : Int} {st : Store} (h : (decide (0 ≤ j ∧ (Builtin.Int.intBits i : Int) * j ≤ 2 ^ 27)) = true) : opPow (.int i) (.int j) st = .ok (.int (i ^ j.toNat), st) := by
  unfold opPow
  exact if_pos (of_decide_eq_true h)
/-- the source of draws of a cell -/
theorem source_ok (ns : List Int) (k : Int) (st : Store) (k0 : 0 ≤ k) (k1 : k < 64) (hl : ns.length ≤ 63) : ∃ d s, SrcOk d s 0 ∧ fnOf 4 mSource [.fro (ns.map .int), .int k] st = .ok (.ref st.length, st ++ [srcO d s 0]) := by
  obtain ⟨g, hg⟩ : ∃ g : Int, eIf (tVal (eBinG opLt (eVar 1) (eCall fnLen (aCons (eVar 0) (aNil))))) (eBinG opIxA (eVar 0) (eVar 1)) (eC (.int 0)) [some (.fro (ns.map .int)), some (.int k), none, none] st = .ok (.int g, st) := by
    by_cases hk : k < (ns.length : Int)
    · obtain ⟨j, rfl⟩ : ∃ j : Nat, k = j := ⟨k.toNat, by omega⟩
      have hj : j < ns.length := by omega
      refine ⟨ns[j], ?_⟩
      simp [eIf, tVal, eBinG, eBin, eVar, eCall, aCons, aNil, fnLen, opLt, gc_int, gc_bl, hj, opIxA, isDic, opIx, seqP, ixP]
    · refine ⟨0, ?_⟩
      simp [eIf, tVal, eBinG, eBin, eVar, eCall, aCons, aNil, fnLen, opLt, gc_int, gc_bl, hk, eC]
  have g1 := Int.emod_nonneg g (show (2305843009213693951 : Int) ≠ 0 by decide)
  have g2 := Int.emod_lt_of_pos g (show (0 : Int) < 2305843009213693951 by decide)
  have b1 : Bd 61 (g % 2305843009213693951) := .lt g1 (by omega)
  have m1 : mulOk (g % 2305843009213693951) 1000003 = true := mulOk_of b1 (.lt (a := 20) (by decide) (by decide)) (by decide)
  have bk : Bd 6 k := .lt k0 (by omega)
  have m2 : mulOk 7919 k = true := mulOk_of (a := 13) (.lt (by decide) (by decide)) bk (by decide)
  have m3 : mulOk (7919 * k) k = true := mulOk_of (Bd.mul (a := 13) (.lt (by decide) (by decide)) bk) bk (by decide)
  have s1 := Int.emod_nonneg (g % 2305843009213693951 * 1000003 + 7919 * k * k + 97) (show (2305843009213693921 : Int) ≠ 0 by decide)
  have s2 := Int.emod_lt_of_pos (g % 2305843009213693951 * 1000003 + 7919 * k * k + 97) (show (0 : Int) < 2305843009213693921 by decide)
  have p1 : opPow (.int 10) (.int 18) st = .ok (.int (10 ^ 18), st) := pow_ok (by decide +kernel)
  have p2 : opPow (.int 10) (.int 60) st = .ok (.int (10 ^ 60), st) := pow_ok (by decide +kernel)
  have p3 : opPow (.int (10 ^ 60)) (.int 4) st = .ok (.int ((10 ^ 60) ^ 4), st) := pow_ok (by decide +kernel)
  obtain ⟨d, hd0, hd⟩ : ∃ d : Int, 0 ≤ d ∧ eIf (tVal (eBinG opGe (eCall fnAbs (aCons (eVar 2) (aNil))) (eBin opPow (eC (.int 10)) (eC (.int 18))))) (eBin opMod (eCall fnAbs (aCons (eVar 2) (aNil))) (eBin opPow (eBin opPow (eC (.int 10)) (eC (.int 60))) (eC (.int 4)))) (eC (.int 0)) [some (.fro (ns.map .int)), some (.int k), some (.int g), none] st = .ok (.int d, st) := by
    have hp : (0 : Int) < (10 ^ 60) ^ 4 := by decide +kernel
    generalize hA : (10 ^ 18 : Int) = A at p1
    generalize hB : (10 ^ 60 : Int) = B at p2 p3 hp
    by_cases hc : A ≤ (if g < 0 then -g else g)
    · refine ⟨(if g < 0 then -g else g) % B ^ 4, Int.emod_nonneg _ (by omega), ?_⟩
      simp [eIf, tVal, eBinG, eBin, eVar, eCall, aCons, aNil, eC, fnAbs, gc_int, gc_bl, p1, p2, p3, opGe, hc, opMod, hp]
    · refine ⟨0, Int.le_refl _, ?_⟩
      simp [eIf, tVal, eBinG, eBin, eVar, eCall, aCons, aNil, eC, fnAbs, gc_int, gc_bl, p1, opGe, hc]
  refine ⟨d, _, ⟨hd0, s1, by omega, by decide⟩, ?_⟩
  have e : start0 4 [.fro (ns.map .int), .int k] = [some (.fro (ns.map .int)), some (.int k), none, none] := rfl
  simp only [fnOf, mSource, sSeq, sAsg, e, hg, bind_ok, gPut_eq, Tg.put, List.set, hd]
  simp [sRet, eLst, aCons, aNil, eVar, eBin, eC, opMod, opMulA, m1, opAdd, m2, m3, srcO, LINE]
end Sg
set_option Elab.async false
set_option linter.all false
set_option maxRecDepth 100000
set_option maxHeartbeats 4000000
namespace Sg
open PySem
end Sg
set_option Elab.async false
set_option linter.all false
set_option maxRecDepth 100000
set_option maxHeartbeats 4000000
namespace Vg
open PySem Sg
inductive NV where
  | non | bl (b : Bool) | int (i : Int) | str (s : Str) | ty (s : String) | glb (x : Str)
  | tup (xs : List NV) | fro (xs : List NV) | lst (xs : List NV) | dic (kvs : List (NV × NV)) | set (xs : List NV) | dct (kvs : List (NV × NV)) | exn (c : Str) (v : NV) | tab (x : Str) | bex (c : Str)
  deriving Inhabited
mutual
def NV.beq : NV → NV → Bool
  | .non, .non => true
  | .bl a, .bl b => a == b
  | .int a, .int b => a == b
  | .str a, .str b => a == b
  | .ty a, .ty b => a == b
  | .glb a, .glb b => a == b
  | .tup a, .tup b => NV.beqs a b
  | .fro a, .fro b => NV.beqs a b
  | .lst a, .lst b => NV.beqs a b
  | .set a, .set b => NV.beqs a b
  | .dic a, .dic b => NV.beqd a b
  | .dct a, .dct b => NV.beqd a b
  | .exn c a, .exn d b => c == d && NV.beq a b
  | .tab a, .tab b => a == b
  | .bex a, .bex b => a == b
  | _, _ => false
def NV.beqs : List NV → List NV → Bool
  | [], [] => true
  | a :: as, b :: bs => NV.beq a b && NV.beqs as bs
  | _, _ => false
def NV.beqd : List (NV × NV) → List (NV × NV) → Bool
  | [], [] => true
  | a :: as, b :: bs => NV.beqp a b && NV.beqd as bs
  | _, _ => false
def NV.beqp : NV × NV → NV × NV → Bool
  | (a, b), (c, d) => NV.beq a c && NV.beq b d
end
mutual
theorem NV.beq_of : ∀ (a b : NV), NV.beq a b = true → a = b
  | .non, b, h => by cases b <;> simp_all [NV.beq]
  | .bl _, b, h => by cases b <;> simp_all [NV.beq]
  | .int _, b, h => by cases b <;> simp_all [NV.beq]
  | .str _, b, h => by cases b <;> simp_all [NV.beq]
  | .ty _, b, h => by cases b <;> simp_all [NV.beq]
  | .glb _, b, h => by cases b <;> simp_all [NV.beq]
  | .tup xs, b, h => by
    cases b with
    | tup ys => simp only [NV.beq] at h; rw [NV.beqs_of xs ys h]
    | _ => simp [NV.beq] at h
  | .fro xs, b, h => by
    cases b with
    | fro ys => simp only [NV.beq] at h; rw [NV.beqs_of xs ys h]
    | _ => simp [NV.beq] at h
  | .lst xs, b, h => by
    cases b with
    | lst ys => simp only [NV.beq] at h; rw [NV.beqs_of xs ys h]
    | _ => simp [NV.beq] at h
  | .set xs, b, h => by
    cases b with
    | set ys => simp only [NV.beq] at h; rw [NV.beqs_of xs ys h]
    | _ => simp [NV.beq] at h
  | .dic xs, b, h => by
    cases b with
    | dic ys => simp only [NV.beq] at h; rw [NV.beqd_of xs ys h]
    | _ => simp [NV.beq] at h
  | .dct xs, b, h => by
    cases b with
    | dct ys => simp only [NV.beq] at h; rw [NV.beqd_of xs ys h]
    | _ => simp [NV.beq] at h
  | .tab _, b, h => by cases b <;> simp_all [NV.beq]
  | .bex _, b, h => by cases b <;> simp_all [NV.beq]
  | .exn c x, b, h => by
    cases b with
    | exn d y => simp only [NV.beq, Bool.and_eq_true, beq_iff_eq] at h; rw [NV.beq_of x y h.2, h.1]
    | _ => simp [NV.beq] at h
theorem NV.beqs_of : ∀ (a b : List NV), NV.beqs a b = true → a = b
  | [], b, h => by cases b <;> simp_all [NV.beqs]
  | x :: xs, b, h => by
    cases b with
    | nil => simp [NV.beqs] at h
    | cons y ys =>
      simp only [NV.beqs, Bool.and_eq_true] at h
      rw [NV.beq_of x y h.1, NV.beqs_of xs ys h.2]
theorem NV.beqd_of : ∀ (a b : List (NV × NV)), NV.beqd a b = true → a = b
  | [], b, h => by cases b <;> simp_all [NV.beqd]
  | x :: xs, b, h => by
    cases b with
    | nil => simp [NV.beqd] at h
    | cons y ys =>
      simp only [NV.beqd, Bool.and_eq_true] at h
      rw [NV.beqp_of x y h.1, NV.beqd_of xs ys h.2]
theorem NV.beqp_of : ∀ (a b : NV × NV), NV.beqp a b = true → a = b
  | (a, b), (c, d), h => by
    simp only [NV.beqp, Bool.and_eq_true] at h
    rw [NV.beq_of a c h.1, NV.beq_of b d h.2]
end
mutual
theorem NV.beq_self : ∀ (a : NV), NV.beq a a = true
  | .non | .bl _ | .int _ | .str _ | .ty _ | .glb _ => by simp [NV.beq]
  | .tup xs => by simp only [NV.beq]; exact NV.beqs_self xs
  | .fro xs => by simp only [NV.beq]; exact NV.beqs_self xs
  | .lst xs => by simp only [NV.beq]; exact NV.beqs_self xs
  | .set xs => by simp only [NV.beq]; exact NV.beqs_self xs
  | .dic xs => by simp only [NV.beq]; exact NV.beqd_self xs
  | .dct xs => by simp only [NV.beq]; exact NV.beqd_self xs
  | .tab _ => by simp [NV.beq]
  | .bex _ => by simp [NV.beq]
  | .exn c x => by simp only [NV.beq, Bool.and_eq_true]; exact ⟨beq_self_eq_true c, NV.beq_self x⟩
theorem NV.beqs_self : ∀ (a : List NV), NV.beqs a a = true
  | [] => by simp [NV.beqs]
  | x :: xs => by simp only [NV.beqs, Bool.and_eq_true]; exact ⟨NV.beq_self x, NV.beqs_self xs⟩
theorem NV.beqd_self : ∀ (a : List (NV × NV)), NV.beqd a a = true
  | [] => by simp [NV.beqd]
  | x :: xs => by simp only [NV.beqd, Bool.and_eq_true]; exact ⟨NV.beqp_self x, NV.beqd_self xs⟩
theorem NV.beqp_self : ∀ (a : NV × NV), NV.beqp a a = true
  | (a, b) => by simp only [NV.beqp, Bool.and_eq_true]; exact ⟨NV.beq_self a, NV.beq_self b⟩
end
instance : DecidableEq NV := fun a b => if h : NV.beq a b = true then isTrue (NV.beq_of a b h) else isFalse fun e => h (e ▸ NV.beq_self a)
/-- an outcome: a value, an exception with what is left, or no statement -/
inductive R (ε α : Type) where
  | ok (a : α) | ex (e : ε) | no
def R.bind {ε α β : Type} (r : R ε α) (f : α → R ε β) : R ε β := match r with
  | .ok a => f a
  | .ex e => .ex e
  | .no => .no
instance {ε : Type} : Monad (R ε) := { pure := .ok, bind := R.bind }
section
variable {ε α β γ : Type}
@[simp] theorem R.ok_bind (a : α) (f : α → R ε β) : (R.ok a >>= f) = f a := rfl
@[simp] theorem R.no_bind (f : α → R ε β) : ((R.no : R ε α) >>= f) = .no := rfl
@[simp] theorem R.ex_bind (e : ε) (f : α → R ε β) : ((R.ex e : R ε α) >>= f) = .ex e := rfl
@[simp] theorem R.pure_eq (a : α) : (pure a : R ε α) = .ok a := rfl
theorem R.bind_ok {r : R ε α} {f : α → R ε β} {b : β} : (r >>= f) = .ok b ↔ ∃ a, r = .ok a ∧ f a = .ok b := by
  cases r with
  | ok a => exact ⟨fun h => ⟨a, rfl, h⟩, fun ⟨_, h, g⟩ => by cases h; exact g⟩
  | ex e => exact ⟨(fun h => nomatch h), (fun ⟨_, h, _⟩ => nomatch h)⟩
  | no => exact ⟨(fun h => nomatch h), (fun ⟨_, h, _⟩ => nomatch h)⟩
/-- a value or no statement -/
def ofO (o : Option α) : R ε α := match o with
  | some a => .ok a
  | none => .no
@[simp] theorem ofO_some (a : α) : (ofO (some a) : R ε α) = .ok a := rfl
@[simp] theorem ofO_none : (ofO (none : Option α) : R ε α) = .no := rfl
theorem ofO_ok {o : Option α} {a : α} : (ofO o : R ε α) = .ok a ↔ o = some a := by cases o <;> simp [ofO]
def grd (c : Prop) [Decidable c] (r : R ε α) : R ε α := if c then r else .no
theorem grd_ok {c : Prop} [Decidable c] {r : R ε α} {a : α} : grd c r = .ok a ↔ c ∧ r = .ok a := by
  unfold grd; split <;> simp_all
@[simp] theorem grd_of {c : Prop} [Decidable c] {r : R ε α} (h : c) : grd c r = r := if_pos h
end
/-- a slot: nothing, a value, a list of its own, a list of the caller's -/
inductive Sl where
  | un | sh (v : NV) | ow (v : NV) | bo (v : NV)
  deriving Inhabited
def Sl.val : Sl → Option NV
  | .un => none
  | .sh v => some v
  | .ow v => some v
  | .bo v => some v
/-- a list that may change -/
def Sl.mut : Sl → Option NV
  | .ow v => some v
  | .bo v => some v
  | _ => none
/-- the same kind, another content -/
def Sl.put (v : NV) : Sl → Sl
  | .ow _ => .ow v
  | .bo _ => .bo v
  | s => s
abbrev Env := List Sl
/-- the value of an expression: a value, a new list, the list of a slot -/
inductive EV where
  | im (v : NV) | fr (v : NV) | sl (k : Nat)
  deriving Inhabited
def EV.get (env : Env) : EV → Option NV
  | .im v => some v
  | .fr v => some v
  | .sl k => env[k]?.bind Sl.val
abbrev EE := Str × NV × Env
abbrev VE := Env → R EE (EV × Env)
abbrev VA := Env → R EE (List EV × Env)
abbrev VT := Env → R EE (Bool × Env)
inductive VFl where
  | nx | bk | ct | rt (v : EV)
abbrev VS := Env → R EE (VFl × Env)
/-- the items -/
abbrev VI := Env → R EE (List NV × Env)
/-- a value that nobody changes any more -/
def frz (e : EV) (env : Env) : Option (NV × Env) := match e with
  | .im v => some (v, env)
  | .fr v => some (v, env)
  | .sl k => match env[k]? with
    | some (.ow v) => some (v, env.set k (.sh v))
    | some (.sh v) => some (v, env)
    | _ => none
def frzs : List EV → Env → Option (List NV × Env)
  | [], env => some ([], env)
  | e :: r, env => (frz e env).bind fun x => (frzs r x.2).map fun y => (x.1 :: y.1, y.2)
def gets (env : Env) : List EV → Option (List NV)
  | [] => some []
  | e :: r => (e.get env).bind fun v => (gets env r).map (v :: ·)
def vVar (k : Nat) : VE := fun env => match env[k]? with
  | some (.sh v) => .ok (.im v, env)
  | some (.ow _) => .ok (.sl k, env)
  | some (.bo _) => .ok (.sl k, env)
  | _ => .no
def vC (v : NV) : VE := fun env => .ok (.im v, env)
/-- operations on values -/
abbrev VO2 := NV → NV → Option EV
def vBin (f : VO2) (a b : VE) : VE := fun env => a env >>= fun x => b x.2 >>= fun y => ofO ((x.1.get y.2).bind fun u => (y.1.get y.2).bind fun w => f u w) >>= fun z => .ok (z, y.2)
def vUn (f : NV → Option EV) (a : VE) : VE := fun env => a env >>= fun x => ofO ((x.1.get x.2).bind f) >>= fun z => .ok (z, x.2)
def vNil : VA := fun env => .ok ([], env)
def vCons (a : VE) (r : VA) : VA := fun env => a env >>= fun x => r x.2 >>= fun y => .ok (x.1 :: y.1, y.2)
def vTup (a : VA) : VE := fun env => a env >>= fun x => grd (x.1.length ≤ LINE) (ofO (frzs x.1 x.2) >>= fun y => .ok (.im (.tup y.1), y.2))
def vLst (a : VA) : VE := fun env => a env >>= fun x => grd (x.1.length ≤ LINE) (ofO (frzs x.1 x.2) >>= fun y => .ok (.fr (.lst y.1), y.2))
def vIf (t : VT) (a b : VE) : VE := fun env => t env >>= fun c => if c.1 then a c.2 else b c.2
def isBl : NV → Option Bool
  | .bl b => some b
  | _ => none
def vVal (a : VE) : VT := fun env => a env >>= fun x => ofO ((x.1.get x.2).bind isBl) >>= fun b => .ok (b, x.2)
def vNotT (a : VT) : VT := fun env => a env >>= fun c => .ok (!c.1, c.2)
def vAndT (a b : VT) : VT := fun env => a env >>= fun c => if c.1 then b c.2 else .ok (false, c.2)
def vOrT (a b : VT) : VT := fun env => a env >>= fun c => if c.1 then .ok (true, c.2) else b c.2
def vAnd (a b : VE) : VE := fun env => a env >>= fun x => ofO ((x.1.get x.2).bind isBl) >>= fun c => if c then b x.2 else .ok (.im (.bl false), x.2)
def vOr (a b : VE) : VE := fun env => a env >>= fun x => ofO ((x.1.get x.2).bind isBl) >>= fun c => if c then .ok (.im (.bl true), x.2) else b x.2
def vNot (a : VE) : VE := fun env => a env >>= fun x => ofO ((x.1.get x.2).bind isBl) >>= fun c => .ok (.im (.bl (!c)), x.2)
def vChain (f g : VO2) (a b c : VE) : VE := fun env => a env >>= fun x => b x.2 >>= fun y => ofO ((x.1.get y.2).bind fun u => (y.1.get y.2).bind fun w => f u w) >>= fun z =>
  ofO ((z.get y.2).bind isBl) >>= fun k => if k then c y.2 >>= fun q => ofO ((y.1.get q.2).bind fun u => (q.1.get q.2).bind fun w => g u w) >>= fun z2 => .ok (z2, q.2) else .ok (z, y.2)
/-- a built-in function of the values -/
def vCallB (f : List NV → Option EV) (a : VA) : VE := fun env => a env >>= fun x => ofO ((gets x.2 x.1).bind f) >>= fun z => .ok (z, x.2)
def vCallBK (f : List NV → List NV → Option EV) (a b : VA) : VE := fun env => a env >>= fun x => b x.2 >>= fun y => ofO ((gets y.2 x.1).bind fun us => (gets y.2 y.1).bind fun ws => f us ws) >>= fun z => .ok (z, y.2)
/-- a method that changes nothing -/
def vMethB (K : NV → Bool) (f : NV → List NV → Option EV) (o : VE) (a : VA) : VE := fun env => o env >>= fun x => ofO (x.1.get x.2) >>= fun u0 => grd (K u0 = true) (a x.2 >>= fun y =>
  ofO ((x.1.get y.2).bind fun u => (gets y.2 y.1).bind fun ws => f u ws) >>= fun z => .ok (z, y.2))
/-- a method that changes a slot's list: the answer, the new content -/
def vMethM (K : NV → Bool) (f : NV → List NV → Option (NV × NV)) (o : VE) (a : VA) : VE := fun env => o env >>= fun x => ofO (x.1.get x.2) >>= fun u0 => grd (K u0 = true) (a x.2 >>= fun y => match x.1 with
  | .sl k => ofO (frzs y.1 y.2) >>= fun w => match w.2[k]? with
    | some (.ow u) => ofO (f u w.1) >>= fun z => .ok (.im z.1, w.2.set k (.ow z.2))
    | some (.bo u) => ofO (f u w.1) >>= fun z => .ok (.im z.1, w.2.set k (.bo z.2))
    | _ => .no
  | _ => .no)
abbrev EF := Str × NV × List NV
abbrev VF := List NV → R EF (EV × List NV)
mutual
def noref : NV → Bool
  | .tup xs => norefs xs
  | .fro xs => norefs xs
  | .lst _ => false
  | .dic _ => false
  | .set _ => false
  | .dct _ => false
  | .exn _ _ => false
  | .tab _ => false
  | .bex _ => false
  | _ => true
def norefs : List NV → Bool
  | [] => true
  | x :: r => noref x && norefs r
end
/-- nothing in it that may change -/
def norefO : NV → Bool
  | .lst xs => norefs xs
  | .set xs => norefs xs
  | .dic kvs => kvs.all fun q => noref q.1 && noref q.2
  | .dct kvs => kvs.all fun q => noref q.1 && noref q.2
  | _ => false
def lendOk (ev : EV) (os : List NV) : Bool := (match ev with
  | .im v => noref v
  | .fr v => norefO v
  | .sl _ => false) && os.all norefO
/-- the new contents of the lists that were given to be changed (at the places mp) -/
def wback (mp : List Nat) (os : List NV) (es : List EV) (env : Env) : Option Env := match mp, os with
  | [], [] => some env
  | j :: mp, o :: os => match es[j]? with
    | some (.sl k) => match env[k]? with
      | some (.ow _) => wback mp os es (env.set k (.ow o))
      | some (.bo _) => wback mp os es (env.set k (.bo o))
      | _ => none
    | some (.fr _) => wback mp os es env
    | _ => none
  | _, _ => none
/-- no list is given twice, if it is given to be changed -/
def noAlias (mp : List Nat) (es : List EV) : Bool := mp.all fun j => match es[j]? with
  | some (.sl k) => (List.range es.length).all fun i => i == j || (match es[i]? with
    | some (.sl l) => l != k
    | _ => true)
  | _ => true
/-- the slots whose lists are lent -/
def lent (mp : List Nat) : Nat → List EV → List Nat
  | _, [] => []
  | j, .sl k :: r => if mp.contains j then lent mp (j + 1) r else k :: lent mp (j + 1) r
  | j, _ :: r => lent mp (j + 1) r
def frzK : List Nat → Env → Option Env
  | [], env => some env
  | k :: r, env => match env[k]? with
    | some (.ow v) => frzK r (env.set k (.sh v))
    | some (.sh _) => frzK r env
    | _ => none
def lend (ks : List Nat) (c : Bool) (env : Env) : Option Env := if c then some env else frzK ks env
def vCall (f : VF) (n : Nat) (mp : List Nat) (a : VA) : VE := fun env => a env >>= fun x => grd (x.1.length = n ∧ noAlias mp x.1 = true) (ofO (gets x.2 x.1) >>= fun vs => match f vs with
  | .ok r => ofO ((wback mp r.2 x.1 x.2).bind fun e => lend (lent mp 0 x.1) (lendOk r.1 r.2) e) >>= fun e => .ok (r.1, e)
  | .ex e => ofO (wback mp e.2.2 x.1 x.2) >>= fun e2 => .ex (e.1, e.2.1, e2)
  | .no => .no)
def vst (mp : List Nat) : Nat → List NV → Env
  | _, [] => []
  | j, v :: r => (if mp.contains j then .bo v else .sh v) :: vst mp (j + 1) r
def outs (env : Env) : List Nat → Option (List NV)
  | [] => some []
  | j :: r => match env[j]? with
    | some (.bo v) => (outs env r).map (v :: ·)
    | _ => none
def vret (env : Env) : EV → Option EV
  | .im v => some (.im v)
  | .fr v => some (.fr v)
  | .sl k => match env[k]? with
    | some (.ow v) => some (.fr v)
    | some (.sh v) => some (.im v)
    | _ => none
def vFn (N : Nat) (mp : List Nat) (m : VS) : VF := fun vs => grd ((mp.all fun j => decide (j < vs.length)) = true) <| match m (vst mp 0 vs ++ List.replicate (N - vs.length) .un) with
  | .ok r => match r.1 with
    | .nx => ofO (outs r.2 mp) >>= fun os => .ok (.im .non, os)
    | .rt e => ofO (vret r.2 e) >>= fun v => ofO (outs r.2 mp) >>= fun os => .ok (v, os)
    | _ => .no
  | .ex e => ofO (outs e.2.2 mp) >>= fun os => .ex (e.1, e.2.1, os)
  | .no => .no
def vSeq (a b : VS) : VS := fun env => a env >>= fun r => match r.1 with
  | .nx => b r.2
  | f => .ok (f, r.2)
def vPass : VS := fun env => .ok (.nx, env)
def vDrop (a : VE) : VS := fun env => a env >>= fun x => .ok (.nx, x.2)
def vRet (a : VE) : VS := fun env => a env >>= fun x => .ok (.rt x.1, x.2)
def vRetN : VS := fun env => .ok (.rt (.im .non), env)
def vIfS (t : VT) (a b : VS) : VS := fun env => t env >>= fun c => if c.1 then a c.2 else b c.2
def vBreak : VS := fun env => .ok (.bk, env)
mutual
def vPut : Tg → NV → Env → Option Env
  | .nm i, v, env => match env[i]? with
    | some (.bo _) => none
    | _ => some (env.set i (.sh v))
  | .tp ts, .tup xs, env => vPuts ts xs env
  | .tp _, _, _ => none
def vPuts : List Tg → List NV → Env → Option Env
  | [], [], env => some env
  | t :: ts, x :: xs, env => (vPut t x env).bind (vPuts ts xs)
  | _, _, _ => none
end
/-- what a slot is set to -/
def vKeep (e : EV) (env : Env) : Option (Sl × Env) := match e with
  | .fr v => some (.ow v, env)
  | e => (frz e env).map fun x => (.sh x.1, x.2)
def vSet (i : Nat) (s : Sl) (env : Env) : Option Env := match env[i]? with
  | some (.bo _) => none
  | _ => some (env.set i s)
def vAsg (a : VE) (g : Tg) : VS := fun env => a env >>= fun x => match g with
  | .nm i => ofO ((vKeep x.1 x.2).bind fun y => vSet i y.1 y.2) >>= fun r => .ok (.nx, r)
  | g => ofO ((frz x.1 x.2).bind fun y => vPut g y.1 y.2) >>= fun r => .ok (.nx, r)
def vKeeps : List EV → Env → Option (List Sl × Env)
  | [], env => some ([], env)
  | e :: r, env => (vKeep e env).bind fun x => (vKeeps r x.2).map fun y => (x.1 :: y.1, y.2)
def vSets : List Nat → List Sl → Env → Option Env
  | [], [], env => some env
  | i :: is, s :: ss, env => (vSet i s env).bind (vSets is ss)
  | _, _, _ => none
/-- a, b = x, y -/
def vPar (is : List Nat) (a : VA) : VS := fun env => a env >>= fun x => ofO ((vKeeps x.1 x.2).bind fun y => vSets is y.1 y.2) >>= fun r => .ok (.nx, r)
def vAug (i : Nat) (f : VO2) (a : VE) : VS := fun env => match env[i]? with
  | some (.sh x) => a env >>= fun y => ofO ((y.1.get y.2).bind fun w => f x w) >>= fun z => match z with
    | .im v => ofO (vSet i (.sh v) y.2) >>= fun r => .ok (.nx, r)
    | _ => .no
  | _ => .no
def vForL (g : Tg) (b : VS) : List NV → Env → R EE (VFl × Env)
  | [], env => .ok (.nx, env)
  | x :: xs, env => ofO (vPut g x env) >>= fun e => b e >>= fun q => match q.1 with
      | .nx => vForL g b xs q.2
      | .ct => vForL g b xs q.2
      | .bk => .ok (.nx, q.2)
      | .rt v => .ok (.rt v, q.2)
def vFor (it : VI) (g : Tg) (b : VS) : VS := fun env => it env >>= fun r => vForL g b r.1 r.2
/-- o[i] = e -/
def vSub (f : NV → NV → NV → Option NV) (o i e : VE) : VS := fun env => e env >>= fun x => o x.2 >>= fun y => i y.2 >>= fun z => match y.1 with
  | .sl k => ofO (frz x.1 z.2) >>= fun w => match w.2[k]? with
    | some (.ow u) => ofO ((z.1.get w.2).bind fun j => f u j w.1) >>= fun n => .ok (.nx, w.2.set k (.ow n))
    | some (.bo u) => ofO ((z.1.get w.2).bind fun j => f u j w.1) >>= fun n => .ok (.nx, w.2.set k (.bo n))
    | _ => .no
  | _ => .no
def vWipe (env : Env) : List Nat → Env
  | [] => env
  | v :: vs => (vWipe env vs).set v .un
def vYes : VT := fun env => .ok (true, env)
/-- the slots in vs as they are in env -/
def vBack (env : Env) : List Nat → Env → Env
  | [], e => e
  | v :: vs, e => (vBack env vs e).set v (env.getD v .un)
def vLcL (g : Tg) (t : VT) (e : VE) (vs : List Nat) : List NV → List NV → Env → R EE (List NV × Env)
  | [], acc, env => .ok (acc, env)
  | x :: xs, acc, env => ofO (vPut g x env) >>= fun r => t r >>= fun c =>
      if c.1 then e c.2 >>= fun y => ofO (frz y.1 y.2) >>= fun z => grd (acc.length < LINE) (vLcL g t e vs xs (acc ++ [z.1]) (vWipe z.2 vs))
      else vLcL g t e vs xs acc (vWipe c.2 vs)
def vLc (it : VI) (g : Tg) (t : VT) (e : VE) (vs : List Nat) : VE := fun env => it env >>= fun r =>
  vLcL g t e vs r.1 [] (vWipe r.2 vs) >>= fun q => .ok (.fr (.lst q.1), vBack r.2 vs q.2)
def vchars (s : Str) : List NV := s.cps.toList.map fun c => .str ⟨#[c]⟩
def vitems : NV → Option (List NV)
  | .tup xs => some xs
  | .fro xs => some xs
  | .lst xs => some xs
  | .str s => some (vchars s)
  | _ => none
/-- .. without texts -/
def vseq : NV → Option (List NV)
  | .tup xs => some xs
  | .fro xs => some xs
  | .lst xs => some xs
  | _ => none
def viSeq (a : VE) : VI := fun env => a env >>= fun x => ofO (frz x.1 x.2) >>= fun y => ofO (vitems y.1) >>= fun r => .ok (r, y.2)
def venum : Nat → List NV → List NV
  | _, [] => []
  | i, x :: r => .tup [.int i, x] :: venum (i + 1) r
def viEnum (a : VE) : VI := fun env => a env >>= fun x => ofO (frz x.1 x.2) >>= fun y => ofO (vseq y.1) >>= fun r => .ok (venum 0 r, y.2)
def vzip : List NV → List NV → List NV
  | x :: xs, y :: ys => .tup [x, y] :: vzip xs ys
  | _, _ => []
def vrng (lo : Int) (n : Nat) : List NV := (List.range n).map fun i => .int (lo + (i : Nat))
def isInt : NV → Option Int
  | .int i => some i
  | _ => none
def viRng1 (a : VE) : VI := fun env => a env >>= fun x => ofO ((x.1.get x.2).bind isInt) >>= fun j => grd (small62 j = true) (.ok (vrng 0 j.toNat, x.2))
def viRng2 (a b : VE) : VI := fun env => a env >>= fun x => ofO ((x.1.get x.2).bind isInt) >>= fun i => b x.2 >>= fun y => ofO ((y.1.get y.2).bind isInt) >>= fun j =>
  grd (small62 i = true ∧ small62 j = true) (.ok (vrng i (j - i).toNat, y.2))
def vkeyOk : NV → Bool
  | .int _ => true
  | .str _ => true
  | _ => false
def vdPut (kvs : List (NV × NV)) (k v : NV) : List (NV × NV) :=
  if (kvs.any fun q => decide (q.1 = k)) = true then kvs.map (fun q => if q.1 = k then (q.1, v) else q) else kvs ++ [(k, v)]
def vDic0 : VE := fun env => .ok (.fr (.dic []), env)
end Vg
set_option Elab.async false
set_option linter.all false
set_option maxRecDepth 100000
set_option maxHeartbeats 4000000
namespace Vg
open PySem Sg
/-- the objects that nobody changes any more -/
abbrev FF := Nat → Option PO
mutual
inductive VRep (F : FF) : NV → PV → Prop
  | non : VRep F .non .non
  | bl (b : Bool) : VRep F (.bl b) (.bl b)
  | int (i : Int) : VRep F (.int i) (.int i)
  | str (s : Str) : VRep F (.str s) (.str s)
  | ty (s : String) : VRep F (.ty s) (.ty s)
  | glb (s : Str) : VRep F (.glb s) (.glb s)
  | tup {xs : List NV} {ps : List PV} : VReps F xs ps → VRep F (.tup xs) (.tup ps)
  | fro {xs : List NV} {ps : List PV} : VReps F xs ps → VRep F (.fro xs) (.fro ps)
  | lst {i : Nat} {xs : List NV} {ps : List PV} : F i = some (.lst ps) → VReps F xs ps → VRep F (.lst xs) (.ref i)
  | dic {i : Nat} {xs : List (NV × NV)} {ps : List (PV × PV)} : F i = some (.dic ps) → VRepd F xs ps → VRep F (.dic xs) (.ref i)
  | set {i : Nat} {xs : List NV} {ps : List PV} : F i = some (.set ps) → VReps F xs ps → VRep F (.set xs) (.ref i)
  | dct {i : Nat} {xs : List (NV × NV)} {ps : List (PV × PV)} : F i = some (.dct ps) → VRepd F xs ps → VRep F (.dct xs) (.ref i)
  | fdc {i : Nat} {xs : List (NV × NV)} {ps : List (PV × PV)} : F i = some (.fdc ps) → VRepd F xs ps → VRep F (.dct xs) (.ref i)
  | exn {i : Nat} {c : Str} {v : NV} {p : PV} : F i = some (.exn c p) → VRep F v p → VRep F (.exn c v) (.ref i)
  | tab {i : Nat} {x : Str} : F i = some (.tab x) → VRep F (.tab x) (.ref i)
  | bex {i : Nat} {c : Str} : F i = some (.bex c) → VRep F (.bex c) (.ref i)
inductive VReps (F : FF) : List NV → List PV → Prop
  | nil : VReps F [] []
  | cons {v : NV} {p : PV} {xs : List NV} {ps : List PV} : VRep F v p → VReps F xs ps → VReps F (v :: xs) (p :: ps)
inductive VRepd (F : FF) : List (NV × NV) → List (PV × PV) → Prop
  | nil : VRepd F [] []
  | cons {k v : NV} {p q : PV} {xs : List (NV × NV)} {ps : List (PV × PV)} : VRep F k p → VRep F v q → VRepd F xs ps → VRepd F ((k, v) :: xs) ((p, q) :: ps)
end
inductive ORep (F : FF) : NV → PO → Prop
  | lst {xs : List NV} {ps : List PV} : VReps F xs ps → ORep F (.lst xs) (.lst ps)
  | dic {xs : List (NV × NV)} {ps : List (PV × PV)} : VRepd F xs ps → ORep F (.dic xs) (.dic ps)
  | set {xs : List NV} {ps : List PV} : VReps F xs ps → ORep F (.set xs) (.set ps)
  | dct {xs : List (NV × NV)} {ps : List (PV × PV)} : VRepd F xs ps → ORep F (.dct xs) (.dct ps)
section
variable {F G : FF}
mutual
theorem VRep.mono (e : ∀ i o, F i = some o → G i = some o) : ∀ {v : NV} {p : PV}, VRep F v p → VRep G v p
  | _, _, .non => .non
  | _, _, .bl b => .bl b
  | _, _, .int b => .int b
  | _, _, .str b => .str b
  | _, _, .ty b => .ty b
  | _, _, .glb b => .glb b
  | _, _, .tup r => .tup (VReps.mono e r)
  | _, _, .fro r => .fro (VReps.mono e r)
  | _, _, .lst h r => .lst (e _ _ h) (VReps.mono e r)
  | _, _, .dic h r => .dic (e _ _ h) (VRepd.mono e r)
  | _, _, .dct h r => .dct (e _ _ h) (VRepd.mono e r)
  | _, _, .fdc h r => .fdc (e _ _ h) (VRepd.mono e r)
  | _, _, .exn h r => .exn (e _ _ h) (VRep.mono e r)
  | _, _, .tab h => .tab (e _ _ h)
  | _, _, .bex h => .bex (e _ _ h)
  | _, _, .set h r => .set (e _ _ h) (VReps.mono e r)
theorem VReps.mono (e : ∀ i o, F i = some o → G i = some o) : ∀ {v : List NV} {p : List PV}, VReps F v p → VReps G v p
  | _, _, .nil => .nil
  | _, _, .cons h r => .cons (VRep.mono e h) (VReps.mono e r)
theorem VRepd.mono (e : ∀ i o, F i = some o → G i = some o) : ∀ {v : List (NV × NV)} {p : List (PV × PV)}, VRepd F v p → VRepd G v p
  | _, _, .nil => .nil
  | _, _, .cons h k r => .cons (VRep.mono e h) (VRep.mono e k) (VRepd.mono e r)
end
theorem ORep.mono (e : ∀ i o, F i = some o → G i = some o) {v : NV} {o : PO} (h : ORep F v o) : ORep G v o := by
  cases h with
  | lst r => exact .lst (r.mono e)
  | dic r => exact .dic (r.mono e)
  | dct r => exact .dct (r.mono e)
  | set r => exact .set (r.mono e)
mutual
theorem VRep.lt {n : Nat} (e : ∀ i o, F i = some o → i < n) : ∀ {v : NV} {p : PV}, VRep F v p → refsLt n p = true
  | _, _, .non => by simp [refsLt]
  | _, _, .bl b => by simp [refsLt]
  | _, _, .int b => by simp [refsLt]
  | _, _, .str b => by simp [refsLt]
  | _, _, .ty b => by simp [refsLt]
  | _, _, .glb b => by simp [refsLt]
  | _, _, .tup r => by simp only [refsLt]; exact VReps.lt e r
  | _, _, .fro r => by simp only [refsLt]; exact VReps.lt e r
  | _, _, .lst h _ => by simp only [refsLt]; exact decide_eq_true (e _ _ h)
  | _, _, .dic h _ => by simp only [refsLt]; exact decide_eq_true (e _ _ h)
  | _, _, .dct h _ => by simp only [refsLt]; exact decide_eq_true (e _ _ h)
  | _, _, .fdc h _ => by simp only [refsLt]; exact decide_eq_true (e _ _ h)
  | _, _, .exn h _ => by simp only [refsLt]; exact decide_eq_true (e _ _ h)
  | _, _, .tab h => by simp only [refsLt]; exact decide_eq_true (e _ _ h)
  | _, _, .bex h => by simp only [refsLt]; exact decide_eq_true (e _ _ h)
  | _, _, .set h _ => by simp only [refsLt]; exact decide_eq_true (e _ _ h)
theorem VReps.lt {n : Nat} (e : ∀ i o, F i = some o → i < n) : ∀ {v : List NV} {p : List PV}, VReps F v p → refsLts n p = true
  | _, _, .nil => by simp [refsLts]
  | _, _, .cons h r => by simp only [refsLts, Bool.and_eq_true]; exact ⟨VRep.lt e h, VReps.lt e r⟩
theorem VRepd.lt {n : Nat} (e : ∀ i o, F i = some o → i < n) : ∀ {v : List (NV × NV)} {p : List (PV × PV)}, VRepd F v p → refsLts n (p.map (·.1)) = true ∧ refsLts n (p.map (·.2)) = true
  | _, _, .nil => by simp [refsLts]
  | _, _, .cons h k r => by
    have ih := VRepd.lt e r
    simp only [List.map_cons, refsLts, Bool.and_eq_true]; exact ⟨⟨VRep.lt e h, ih.1⟩, VRep.lt e k, ih.2⟩
end
theorem ORep.lt {n : Nat} (e : ∀ i o, F i = some o → i < n) {v : NV} {o : PO} (h : ORep F v o) : objLt n o = true := by
  cases h with
  | lst r => exact r.lt e
  | dic r => simp only [objLt, Bool.and_eq_true]; exact r.lt e
  | dct r => simp only [objLt, Bool.and_eq_true]; exact r.lt e
  | set r => exact r.lt e
/-- the objects below n alone -/
def cutF (n : Nat) (F : FF) : FF := fun i => if i < n then F i else none
mutual
theorem VRep.cut {n : Nat} (e : ∀ i o, i < n → F i = some o → objLt n o = true) : ∀ {v : NV} {p : PV}, VRep F v p → refsLt n p = true → VRep (cutF n F) v p
  | _, _, .non, _ => .non
  | _, _, .bl b, _ => .bl b
  | _, _, .int b, _ => .int b
  | _, _, .str b, _ => .str b
  | _, _, .ty b, _ => .ty b
  | _, _, .glb b, _ => .glb b
  | _, _, .tup r, h => .tup (VReps.cut e r (by simpa only [refsLt] using h))
  | _, _, .fro r, h => .fro (VReps.cut e r (by simpa only [refsLt] using h))
  | _, _, .lst q r, h => by
    have hi := of_decide_eq_true (show decide (_ < n) = true by simpa only [refsLt] using h)
    exact .lst (by unfold cutF; rw [if_pos hi]; exact q) (VReps.cut e r (e _ _ hi q))
  | _, _, .dic q r, h => by
    have hi := of_decide_eq_true (show decide (_ < n) = true by simpa only [refsLt] using h)
    have ho := e _ _ hi q
    simp only [objLt, Bool.and_eq_true] at ho
    exact .dic (by unfold cutF; rw [if_pos hi]; exact q) (VRepd.cut e r ho.1 ho.2)
  | _, _, .dct q r, h => by
    have hi := of_decide_eq_true (show decide (_ < n) = true by simpa only [refsLt] using h)
    have ho := e _ _ hi q
    simp only [objLt, Bool.and_eq_true] at ho
    exact .dct (by unfold cutF; rw [if_pos hi]; exact q) (VRepd.cut e r ho.1 ho.2)
  | _, _, .fdc q r, h => by
    have hi := of_decide_eq_true (show decide (_ < n) = true by simpa only [refsLt] using h)
    have ho := e _ _ hi q
    simp only [objLt, Bool.and_eq_true] at ho
    exact .fdc (by unfold cutF; rw [if_pos hi]; exact q) (VRepd.cut e r ho.1 ho.2)
  | _, _, .exn q r, h => by
    have hi := of_decide_eq_true (show decide (_ < n) = true by simpa only [refsLt] using h)
    exact .exn (by unfold cutF; rw [if_pos hi]; exact q) (VRep.cut e r (e _ _ hi q))
  | _, _, .tab q, h => by
    have hi := of_decide_eq_true (show decide (_ < n) = true by simpa only [refsLt] using h)
    exact .tab (by unfold cutF; rw [if_pos hi]; exact q)
  | _, _, .bex q, h => by
    have hi := of_decide_eq_true (show decide (_ < n) = true by simpa only [refsLt] using h)
    exact .bex (by unfold cutF; rw [if_pos hi]; exact q)
  | _, _, .set q r, h => by
    have hi := of_decide_eq_true (show decide (_ < n) = true by simpa only [refsLt] using h)
    exact .set (by unfold cutF; rw [if_pos hi]; exact q) (VReps.cut e r (e _ _ hi q))
theorem VReps.cut {n : Nat} (e : ∀ i o, i < n → F i = some o → objLt n o = true) : ∀ {v : List NV} {p : List PV}, VReps F v p → refsLts n p = true → VReps (cutF n F) v p
  | _, _, .nil, _ => .nil
  | _, _, .cons h r, q => by
    simp only [refsLts, Bool.and_eq_true] at q
    exact .cons (VRep.cut e h q.1) (VReps.cut e r q.2)
theorem VRepd.cut {n : Nat} (e : ∀ i o, i < n → F i = some o → objLt n o = true) : ∀ {v : List (NV × NV)} {p : List (PV × PV)}, VRepd F v p → refsLts n (p.map (·.1)) = true → refsLts n (p.map (·.2)) = true → VRepd (cutF n F) v p
  | _, _, .nil, _, _ => .nil
  | _, _, .cons h k r, q, q2 => by
    simp only [List.map_cons, refsLts, Bool.and_eq_true] at q q2
    exact .cons (VRep.cut e h q.1) (VRep.cut e k q2.1) (VRepd.cut e r q.2 q2.2)
end
theorem ORep.cut {n : Nat} (e : ∀ i o, i < n → F i = some o → objLt n o = true) {v : NV} {o : PO} (h : ORep F v o) (q : objLt n o = true) : ORep (cutF n F) v o := by
  cases h with
  | lst r => exact .lst (r.cut e q)
  | dic r => simp only [objLt, Bool.and_eq_true] at q; exact .dic (r.cut e q.1 q.2)
  | dct r => simp only [objLt, Bool.and_eq_true] at q; exact .dct (r.cut e q.1 q.2)
  | set r => exact .set (r.cut e q)
mutual
theorem VRep.nor : ∀ {v : NV} {p : PV}, VRep F v p → noref v = true → VRep G v p
  | _, _, .non, _ => .non
  | _, _, .bl b, _ => .bl b
  | _, _, .int b, _ => .int b
  | _, _, .str b, _ => .str b
  | _, _, .ty b, _ => .ty b
  | _, _, .glb b, _ => .glb b
  | _, _, .tup r, h => .tup (VReps.nor r (by simpa only [noref] using h))
  | _, _, .fro r, h => .fro (VReps.nor r (by simpa only [noref] using h))
  | _, _, .lst _ _, h => by simp [noref] at h
  | _, _, .dic _ _, h => by simp [noref] at h
  | _, _, .dct _ _, h => by simp [noref] at h
  | _, _, .fdc _ _, h => by simp [noref] at h
  | _, _, .exn _ _, h => by simp [noref] at h
  | _, _, .tab _, h => by simp [noref] at h
  | _, _, .bex _, h => by simp [noref] at h
  | _, _, .set _ _, h => by simp [noref] at h
theorem VReps.nor : ∀ {v : List NV} {p : List PV}, VReps F v p → norefs v = true → VReps G v p
  | _, _, .nil, _ => .nil
  | _, _, .cons h r, q => by
    simp only [norefs, Bool.and_eq_true] at q
    exact .cons (VRep.nor h q.1) (VReps.nor r q.2)
end
theorem VReps.length : ∀ {v : List NV} {p : List PV}, VReps F v p → v.length = p.length
  | _, _, .nil => rfl
  | _, _, .cons _ r => by rw [List.length_cons, List.length_cons, VReps.length r]
theorem VReps.get : ∀ {v : List NV} {p : List PV} {i : Nat} {x : NV}, VReps F v p → v[i]? = some x → ∃ y, p[i]? = some y ∧ VRep F x y
  | _, _, _, _, .nil, h => by simp at h
  | _, _, 0, _, .cons r _, h => by
    simp only [List.getElem?_cons_zero, Option.some.injEq] at h
    subst h
    exact ⟨_, by simp, r⟩
  | _, _, i + 1, _, .cons _ r, h => by
    simp only [List.getElem?_cons_succ] at h
    obtain ⟨y, h1, h2⟩ := VReps.get r h
    exact ⟨y, by simpa using h1, h2⟩
theorem VReps.append : ∀ {v w : List NV} {p q : List PV}, VReps F v p → VReps F w q → VReps F (v ++ w) (p ++ q)
  | _, _, _, _, .nil, s => s
  | _, _, _, _, .cons r t, s => .cons r (VReps.append t s)
theorem VReps.take : ∀ {v : List NV} {p : List PV} (n : Nat), VReps F v p → VReps F (v.take n) (p.take n)
  | _, _, 0, _ => .nil
  | _, _, _ + 1, .nil => .nil
  | _, _, n + 1, .cons r t => .cons r (VReps.take n t)
theorem VReps.drop : ∀ {v : List NV} {p : List PV} (n : Nat), VReps F v p → VReps F (v.drop n) (p.drop n)
  | _, _, 0, r => r
  | _, _, _ + 1, .nil => .nil
  | _, _, n + 1, .cons _ t => VReps.drop n t
theorem VReps.setI {x : NV} {y : PV} (r : VRep F x y) : ∀ {v : List NV} {p : List PV} (i : Nat), VReps F v p → VReps F (v.set i x) (p.set i y)
  | _, _, _, .nil => .nil
  | _, _, 0, .cons _ t => .cons r t
  | _, _, i + 1, .cons q t => .cons q (VReps.setI r i t)
theorem VReps.dropLast : ∀ {v : List NV} {p : List PV}, VReps F v p → VReps F v.dropLast p.dropLast
  | _, _, .nil => .nil
  | _, _, .cons _ .nil => .nil
  | _, _, .cons q (.cons a t) => .cons q (VReps.dropLast (.cons a t))
theorem VReps.reverse {v : List NV} {p : List PV} (h : VReps F v p) : VReps F v.reverse p.reverse := by
  induction v generalizing p with
  | nil => cases h; exact .nil
  | cons x v ih =>
    cases h with
    | cons r t =>
      rw [List.reverse_cons, List.reverse_cons]
      exact (ih t).append (.cons r .nil)
theorem VReps.rep {v : List NV} {p : List PV} (h : VReps F v p) : ∀ n, VReps F (List.replicate n v).flatten (List.replicate n p).flatten
  | 0 => .nil
  | n + 1 => by
    rw [List.replicate_succ, List.replicate_succ, List.flatten_cons, List.flatten_cons]
    exact h.append (h.rep n)
end
def mutV (env : Env) (k : Nat) : Option NV := env[k]?.bind Sl.mut
def Ow (env : Env) (σ : Slots) (i : Nat) : Prop := ∃ k v, mutV env k = some v ∧ σ[k]? = some (some (.ref i))
structure RR (F : FF) (env : Env) (σ : Slots) (st : Store) : Prop where
  len : env.length = σ.length
  sub : ∀ (i : Nat) o, F i = some o → st[i]? = some o
  wf : ∀ (i : Nat) o, st[i]? = some o → objLt st.length o = true
  sh : ∀ (k : Nat) v, env[k]? = some (.sh v) → ∃ p, σ[k]? = some (some p) ∧ VRep F v p
  mu : ∀ (k : Nat) v, mutV env k = some v → ∃ i o, σ[k]? = some (some (.ref i)) ∧ F i = none ∧ st[i]? = some o ∧ ORep F v o
  rf : ∀ (k : Nat) p, σ[k]? = some (some p) → refsLt st.length p = true
  dj : ∀ (k l : Nat) v w i, mutV env k = some v → mutV env l = some w → σ[k]? = some (some (.ref i)) → σ[l]? = some (some (.ref i)) → k = l
structure Go (F : FF) (env : Env) (σ : Slots) (st : Store) (F' : FF) (env' : Env) (σ' : Slots) (st' : Store) : Prop where
  rr : RR F' env' σ' st'
  ext : ∀ i o, F i = some o → F' i = some o
  frm : ∀ (i : Nat), i < st.length → ¬ Ow env σ i → st'[i]? = st[i]? ∧ F' i = F i
  le : st.length ≤ st'.length
  own : ∀ i, Ow env' σ' i → Ow env σ i ∨ st.length ≤ i
  pin : ∀ (k : Nat) v, env[k]? = some (.bo v) → σ'[k]? = σ[k]? ∧ ∃ v', env'[k]? = some (.bo v')
theorem get_lt {st : Store} {i : Nat} {o : PO} (h : st[i]? = some o) : i < st.length := (List.getElem?_eq_some_iff.mp h).1
section
variable {F F1 F2 F' : FF} {env env1 env2 env' : Env} {σ σ1 σ2 σ' : Slots} {st st1 st2 st' : Store}
theorem RR.ltF (h : RR F env σ st) : ∀ i o, F i = some o → i < st.length := fun i o q => get_lt (h.sub i o q)
theorem Go.refl (h : RR F env σ st) : Go F env σ st F env σ st := ⟨h, fun _ _ q => q, fun _ _ _ => ⟨rfl, rfl⟩, Nat.le_refl _, fun _ q => .inl q, fun _ v q => ⟨rfl, v, q⟩⟩
theorem Go.trans (a : Go F env σ st F1 env1 σ1 st1) (b : Go F1 env1 σ1 st1 F2 env2 σ2 st2) : Go F env σ st F2 env2 σ2 st2 := by
  refine ⟨b.rr, fun i o q => b.ext _ _ (a.ext _ _ q), fun i hi hn => ?_, Nat.le_trans a.le b.le, fun i q => ?_, fun k v q => ?_⟩
  · obtain ⟨h1, h2⟩ := a.frm i hi hn
    have hn1 : ¬ Ow env1 σ1 i := fun q => (a.own i q).elim hn fun z => absurd hi (Nat.not_lt.mpr z)
    obtain ⟨h3, h4⟩ := b.frm i (Nat.lt_of_lt_of_le hi a.le) hn1
    exact ⟨h3.trans h1, h4.trans h2⟩
  · rcases b.own i q with z | z
    · exact a.own i z
    · exact .inr (Nat.le_trans a.le z)
  · obtain ⟨h1, v1, h2⟩ := a.pin k v q
    obtain ⟨h3, h4⟩ := b.pin k v1 h2
    exact ⟨h3.trans h1, h4⟩
/-- the value of an expression -/
def EVR (F : FF) (env : Env) (σ : Slots) (st : Store) (n : Nat) (e : EV) (p : PV) : Prop := match e with
  | .im v => VRep F v p
  | .fr v => ∃ i o, p = .ref i ∧ n ≤ i ∧ F i = none ∧ st[i]? = some o ∧ ORep F v o ∧ ¬ Ow env σ i
  | .sl k => σ[k]? = some (some p)
theorem EVR.go {n : Nat} {e : EV} {p : PV} (h : EVR F1 env1 σ st1 n e p) (g : Go F1 env1 σ st1 F2 env2 σ st2) : EVR F2 env2 σ st2 n e p := by
  cases e with
  | im v => exact VRep.mono g.ext h
  | sl k => exact h
  | fr v =>
    obtain ⟨i, o, h1, h2, h3, h4, h5, h6⟩ := h
    have hi := get_lt h4
    obtain ⟨q1, q2⟩ := g.frm i hi h6
    exact ⟨i, o, h1, h2, q2.trans h3, q1.trans h4, h5.mono g.ext, fun z => (g.own i z).elim h6 fun y => absurd hi (Nat.not_lt.mpr y)⟩
theorem EVR.le {n m : Nat} {e : EV} {p : PV} (h : EVR F1 env1 σ st1 n e p) (g : m ≤ n) : EVR F1 env1 σ st1 m e p := by
  cases e with
  | im v => exact h
  | sl k => exact h
  | fr v =>
    obtain ⟨i, o, h1, h2, h3⟩ := h
    exact ⟨i, o, h1, Nat.le_trans g h2, h3⟩
/-- a value as it stands in the store just now -/
def LRep (F : FF) (st : Store) (v : NV) (p : PV) : Prop := VRep F v p ∨ ∃ i o, p = .ref i ∧ st[i]? = some o ∧ ORep F v o
theorem mutV_val {k : Nat} {v : NV} (h : mutV env k = some v) : env[k]?.bind Sl.val = some v := by
  unfold mutV at h
  cases q : env[k]? with
  | none => simp [q] at h
  | some s => cases s <;> simp_all [Sl.mut, Sl.val]
theorem val_cases {k : Nat} {v : NV} (h : env[k]?.bind Sl.val = some v) : env[k]? = some (.sh v) ∨ mutV env k = some v := by
  unfold mutV
  cases q : env[k]? with
  | none => simp [q] at h
  | some s => cases s <;> simp_all [Sl.mut, Sl.val]
theorem EVR.get {n : Nat} {e : EV} {p : PV} {v : NV} (r : RR F env σ st) (h : EVR F env σ st n e p) (g : e.get env = some v) : LRep F st v p := by
  cases e with
  | im w => simp only [EV.get, Option.some.injEq] at g; subst g; exact .inl h
  | fr w =>
    simp only [EV.get, Option.some.injEq] at g; subst g
    obtain ⟨i, o, h1, _, _, h4, h5, _⟩ := h
    exact .inr ⟨i, o, h1, h4, h5⟩
  | sl k =>
    have h : σ[k]? = some (some p) := h
    rcases val_cases g with q | q
    · obtain ⟨p', h1, h2⟩ := r.sh k v q
      rw [h] at h1
      simp only [Option.some.injEq] at h1
      subst h1; exact .inl h2
    · obtain ⟨i, o, h1, _, h3, h4⟩ := r.mu k v q
      rw [h] at h1
      simp only [Option.some.injEq] at h1
      exact .inr ⟨i, o, h1, h3, h4⟩
mutual
theorem refsLt_mono {n m : Nat} (h : n ≤ m) : ∀ p : PV, refsLt n p = true → refsLt m p = true
  | .ref i, q => by simp only [refsLt, decide_eq_true_eq] at *; omega
  | .tup xs, q => by simp only [refsLt] at *; exact refsLts_mono h q
  | .fro xs, q => by simp only [refsLt] at *; exact refsLts_mono h q
  | .non, _ => by simp [refsLt]
  | .bl _, _ => by simp [refsLt]
  | .int _, _ => by simp [refsLt]
  | .str _, _ => by simp [refsLt]
  | .ty _, _ => by simp [refsLt]
  | .glb _, _ => by simp [refsLt]
theorem refsLts_mono {n m : Nat} (h : n ≤ m) : ∀ {ps : List PV}, refsLts n ps = true → refsLts m ps = true
  | [], _ => by simp [refsLts]
  | x :: xs, q => by
    simp only [refsLts, Bool.and_eq_true] at *
    exact ⟨refsLt_mono h x q.1, refsLts_mono h q.2⟩
end
theorem objLt_mono {n m : Nat} (h : n ≤ m) {o : PO} (q : objLt n o = true) : objLt m o = true := by
  cases o with
  | lst xs => exact refsLts_mono h q
  | dic kvs =>
    simp only [objLt, Bool.and_eq_true] at *
    exact ⟨refsLts_mono h q.1, refsLts_mono h q.2⟩
  | set xs => exact refsLts_mono h q
  | dead => rfl
  | dct kvs =>
    simp only [objLt, Bool.and_eq_true] at *
    exact ⟨refsLts_mono h q.1, refsLts_mono h q.2⟩
  | fdc kvs =>
    simp only [objLt, Bool.and_eq_true] at *
    exact ⟨refsLts_mono h q.1, refsLts_mono h q.2⟩
  | exn c v => exact refsLt_mono h v q
  | tab q => rfl
  | bex q => rfl
theorem get_app1 {t : List PO} {i : Nat} {o : PO} (h : st[i]? = some o) : (st ++ t)[i]? = some o := by rw [List.getElem?_append_left (get_lt h)]; exact h
theorem RR.alloc (r : RR F env σ st) {o : PO} (ho : objLt st.length o = true) : Go F env σ st F env σ (st ++ [o]) := by
  refine ⟨⟨r.len, fun i o q => get_app1 (r.sub i o q), fun i p q => ?_, r.sh, fun k v q => ?_, fun k p q => refsLt_mono (by simp) _ (r.rf k p q), r.dj⟩, fun _ _ q => q, fun i hi _ => ⟨List.getElem?_append_left hi, rfl⟩, by simp, fun _ q => .inl q, fun _ v q => ⟨rfl, v, q⟩⟩
  · have hm : st.length ≤ (st ++ [o]).length := by simp
    by_cases hi : i < st.length
    · rw [List.getElem?_append_left hi] at q
      exact objLt_mono hm (r.wf i p q)
    · have : i < (st ++ [o]).length := get_lt q
      have e : i = st.length := by simp at this; omega
      subst e
      simp only [List.getElem?_append_right (Nat.le_refl _), Nat.sub_self, List.getElem?_cons_zero, Option.some.injEq] at q
      subst q
      exact objLt_mono hm ho
  · obtain ⟨i, p, h1, h2, h3, h4⟩ := r.mu k v q
    exact ⟨i, p, h1, h2, get_app1 h3, h4⟩
theorem RR.notOw (r : RR F env σ st) {i : Nat} (h : st.length ≤ i) : ¬ Ow env σ i := fun ⟨k, v, h1, h2⟩ => by
  obtain ⟨j, o, h3, _, h5, _⟩ := r.mu k v h1
  rw [h2] at h3
  simp only [Option.some.injEq, PV.ref.injEq] at h3
  subst h3
  exact absurd (get_lt h5) (Nat.not_lt.mpr h)
theorem RR.noneF (r : RR F env σ st) {i : Nat} (h : st.length ≤ i) : F i = none := by
  cases q : F i with
  | none => rfl
  | some o => exact absurd (r.ltF i o q) (Nat.not_lt.mpr h)
theorem RR.new (r : RR F env σ st) {v : NV} {o : PO} (h : ORep F v o) : Go F env σ st F env σ (st ++ [o]) ∧ EVR F env σ (st ++ [o]) st.length (.fr v) (.ref st.length) := by
  refine ⟨r.alloc (h.lt r.ltF), st.length, o, rfl, Nat.le_refl _, r.noneF (Nat.le_refl _), by simp, h, r.notOw (Nat.le_refl _)⟩
def addF (F : FF) (i : Nat) (o : PO) : FF := fun j => if j = i then some o else F j
theorem addF_ext {i : Nat} {o : PO} (h : F i = none) : ∀ j p, F j = some p → addF F i o j = some p := fun j p q => by
  unfold addF
  by_cases e : j = i
  · subst e; rw [h] at q; cases q
  · rw [if_neg e]; exact q
theorem ORep.toV {i : Nat} {o : PO} {v : NV} (h : ORep F v o) (hi : F i = some o) : VRep F v (.ref i) := by
  cases h with
  | lst r => exact .lst hi r
  | dic r => exact .dic hi r
  | dct r => exact .dct hi r
  | set r => exact .set hi r
theorem Go.frzF {v : NV} {i : Nat} {o : PO} (g : Go F env σ st F1 env1 σ1 st1) (hi : st.length ≤ i) (hF : F1 i = none) (ho : st1[i]? = some o) (hw : ¬ Ow env1 σ1 i) : Go F env σ st (addF F1 i o) env1 σ1 st1 := by
  have r := g.rr
  refine ⟨⟨r.len, fun j p q => ?_, r.wf, fun k v q => ?_, fun k v q => ?_, r.rf, r.dj⟩, fun j p q => addF_ext hF _ _ (g.ext _ _ q), fun j hj hn => ?_, g.le, g.own, g.pin⟩
  · unfold addF at q
    by_cases e : j = i
    · subst e; rw [if_pos rfl] at q; cases q; exact ho
    · rw [if_neg e] at q; exact r.sub j p q
  · obtain ⟨p, h1, h2⟩ := r.sh k v q
    exact ⟨p, h1, h2.mono (addF_ext hF)⟩
  · obtain ⟨j, p, h1, h2, h3, h4⟩ := r.mu k v q
    refine ⟨j, p, h1, ?_, h3, h4.mono (addF_ext hF)⟩
    unfold addF
    rw [if_neg (fun e => hw ⟨k, v, q, by rw [← e]; exact h1⟩)]; exact h2
  · obtain ⟨h1, h2⟩ := g.frm j hj hn
    refine ⟨h1, ?_⟩
    unfold addF
    rw [if_neg (by omega)]; exact h2
theorem mutV_set {k l : Nat} {s : Sl} {v : NV} (h : mutV (env.set k s) l = some v) : (l = k ∧ s.mut = some v) ∨ (l ≠ k ∧ mutV env l = some v) := by
  unfold mutV at *
  rw [List.getElem?_set] at h
  by_cases e : k = l
  · subst e
    rw [if_pos rfl] at h
    split at h
    · exact .inl ⟨rfl, by simpa using h⟩
    · simp at h
  · rw [if_neg e] at h
    exact .inr ⟨fun q => e q.symm, h⟩
theorem set_get {k l : Nat} {s t : Sl} (h : (env.set k s)[l]? = some t) : (l = k ∧ s = t ∧ k < env.length) ∨ (l ≠ k ∧ env[l]? = some t) := by
  rw [List.getElem?_set] at h
  by_cases e : k = l
  · subst e
    rw [if_pos rfl] at h
    split at h
    · rename_i hl; exact .inl ⟨rfl, by simpa using h, hl⟩
    · simp at h
  · rw [if_neg e] at h
    exact .inr ⟨fun q => e q.symm, h⟩
theorem RR.frzS (r : RR F env σ st) {k : Nat} {v : NV} (h : env[k]? = some (.ow v)) : ∃ i o, σ[k]? = some (some (.ref i)) ∧ F i = none ∧ st[i]? = some o ∧ ORep F v o ∧ Go F env σ st (addF F i o) (env.set k (.sh v)) σ st := by
  have hm : mutV env k = some v := by unfold mutV; rw [h]; rfl
  obtain ⟨i, o, h1, h2, h3, h4⟩ := r.mu k v hm
  have hO : Ow env σ i := ⟨k, v, hm, h1⟩
  refine ⟨i, o, h1, h2, h3, h4, ⟨by simp [r.len], fun j p q => ?_, r.wf, fun l w q => ?_, fun l w q => ?_, r.rf, fun l l' w w' j q q' => ?_⟩, addF_ext h2, fun j hj hn => ⟨rfl, ?_⟩, Nat.le_refl _, fun j q => ?_, fun l w q => ⟨rfl, w, ?_⟩⟩
  · unfold addF at q
    by_cases e : j = i
    · subst e; rw [if_pos rfl] at q; cases q; exact h3
    · rw [if_neg e] at q; exact r.sub j p q
  · rcases set_get q with ⟨e1, e2, _⟩ | ⟨e1, e2⟩
    · subst e1; cases e2
      exact ⟨.ref i, h1, ORep.toV (h4.mono (addF_ext h2)) (if_pos rfl)⟩
    · obtain ⟨p, q1, q2⟩ := r.sh l w e2
      exact ⟨p, q1, q2.mono (addF_ext h2)⟩
  · rcases mutV_set q with ⟨e1, e2⟩ | ⟨e1, e2⟩
    · cases e2
    · obtain ⟨j, p, q1, q2, q3, q4⟩ := r.mu l w e2
      refine ⟨j, p, q1, ?_, q3, q4.mono (addF_ext h2)⟩
      unfold addF
      rw [if_neg (fun e => e1 (r.dj l k w v i e2 hm (by rw [← e]; exact q1) h1))]; exact q2
  · rcases mutV_set q with ⟨e1, e2⟩ | ⟨e1, e2⟩
    · cases e2
    · rcases mutV_set q' with ⟨e3, e4⟩ | ⟨e3, e4⟩
      · cases e4
      · exact r.dj l l' w w' j e2 e4
  · unfold addF
    rw [if_neg (fun e : j = i => hn (by rw [e]; exact hO))]
  · obtain ⟨l, w, q1, q2⟩ := q
    rcases mutV_set q1 with ⟨e1, e2⟩ | ⟨e1, e2⟩
    · cases e2
    · exact .inl ⟨l, w, e2, q2⟩
  · rw [List.getElem?_set_ne (fun e => by subst e; rw [h] at q; cases q)]; exact q
/-- the new objects among the values -/
def frIx : List EV → List PV → List Nat
  | .fr _ :: r, .ref i :: ps => i :: frIx r ps
  | _ :: r, _ :: ps => frIx r ps
  | _, _ => []
inductive EVRs (F : FF) (env : Env) (σ : Slots) (st : Store) (n : Nat) : List EV → List PV → Prop
  | nil : EVRs F env σ st n [] []
  | cons {e : EV} {p : PV} {es : List EV} {ps : List PV} : EVR F env σ st n e p → EVRs F env σ st n es ps → EVRs F env σ st n (e :: es) (p :: ps)
theorem EVRs.go {n : Nat} {e : List EV} {p : List PV} (g : Go F1 env1 σ st1 F2 env2 σ st2) (h : EVRs F1 env1 σ st1 n e p) : EVRs F2 env2 σ st2 n e p := by
  induction h with
  | nil => exact .nil
  | cons a _ ih => exact .cons (a.go g) ih
theorem EVRs.le {n m : Nat} {e : List EV} {p : List PV} (g : m ≤ n) (h : EVRs F1 env1 σ st1 n e p) : EVRs F1 env1 σ st1 m e p := by
  induction h with
  | nil => exact .nil
  | cons a _ ih => exact .cons (a.le g) ih
theorem EVRs.ge {n : Nat} {e : List EV} {p : List PV} (h : EVRs F1 env1 σ st1 n e p) : ∀ i ∈ frIx e p, n ≤ i ∧ i < st1.length := by
  induction h with
  | nil => intro i hi; simp [frIx] at hi
  | cons a _ ih =>
    rename_i e p es ps _
    intro i hi
    cases e with
    | fr v =>
      obtain ⟨j, o, rfl, h2, h3, h4, _⟩ := a
      simp only [frIx, List.mem_cons] at hi
      rcases hi with rfl | hi
      · exact ⟨h2, get_lt h4⟩
      · exact ih i hi
    | im v => exact ih i (by cases p <;> simpa [frIx] using hi)
    | sl v => exact ih i (by cases p <;> simpa [frIx] using hi)
theorem frz_one {F0 : FF} {env0 : Env} {σ0 : Slots} {st0 : Store} (g : Go F0 env0 σ0 st0 F env σ st) {e : EV} {p : PV} (h : EVR F env σ st st0.length e p) {v : NV} (hf : frz e env = some (v, env')) :
    ∃ F', Go F0 env0 σ0 st0 F' env' σ st ∧ VRep F' v p ∧ (∀ i o, F i = some o → F' i = some o) ∧ (∀ i, F i = none → (∀ w, e = .fr w → p ≠ .ref i) → ¬ Ow env σ i → F' i = none) ∧ (∀ i, Ow env' σ i → Ow env σ i) := by
  cases e with
  | im w =>
    simp only [frz, Option.some.injEq, Prod.mk.injEq] at hf
    obtain ⟨rfl, rfl⟩ := hf
    exact ⟨F, g, h, fun _ _ q => q, fun _ q _ _ => q, fun _ q => q⟩
  | fr w =>
    simp only [frz, Option.some.injEq, Prod.mk.injEq] at hf
    obtain ⟨rfl, rfl⟩ := hf
    obtain ⟨i, o, rfl, h2, h3, h4, h5, h6⟩ := h
    refine ⟨addF F i o, g.frzF (v := w) h2 h3 h4 h6, ORep.toV (h5.mono (addF_ext h3)) (if_pos rfl), addF_ext h3, fun j q q2 _ => ?_, fun _ q => q⟩
    unfold addF
    rw [if_neg (fun e => q2 w rfl (by rw [e]))]; exact q
  | sl k =>
    have h : σ[k]? = some (some p) := h
    simp only [frz] at hf
    split at hf
    · rename_i w q
      simp only [Option.some.injEq, Prod.mk.injEq] at hf
      obtain ⟨rfl, rfl⟩ := hf
      obtain ⟨i, o, h1, h2, h3, h4, h5⟩ := g.rr.frzS q
      rw [h] at h1
      simp only [Option.some.injEq] at h1
      subst h1
      refine ⟨_, g.trans h5, ORep.toV (h4.mono (addF_ext h2)) (if_pos rfl), addF_ext h2, fun j q1 _ q3 => ?_, fun j q1 => ?_⟩
      · unfold addF
        rw [if_neg (fun e => q3 ⟨k, w, by unfold mutV; rw [q]; rfl, by rw [e]; exact h⟩)]; exact q1
      · obtain ⟨l, u, y1, y2⟩ := q1
        rcases mutV_set y1 with ⟨e1, e2⟩ | ⟨e1, e2⟩
        · cases e2
        · exact ⟨l, u, e2, y2⟩
    · rename_i w q
      simp only [Option.some.injEq, Prod.mk.injEq] at hf
      obtain ⟨rfl, rfl⟩ := hf
      obtain ⟨p', h1, h2⟩ := g.rr.sh k w q
      rw [h] at h1
      simp only [Option.some.injEq] at h1
      subst h1
      exact ⟨F, g, h2, fun _ _ q => q, fun _ q _ _ => q, fun _ q => q⟩
    · cases hf
/-- the others are still what they were -/
theorem EVR.frz {n : Nat} {e : EV} {p : PV} {F' : FF} (h : EVR F env σ st n e p) (ext : ∀ i o, F i = some o → F' i = some o) (hN : ∀ v i, e = .fr v → p = .ref i → F i = none → ¬ Ow env σ i → F' i = none) (own : ∀ i, Ow env' σ i → Ow env σ i) : EVR F' env' σ st n e p := by
  cases e with
  | im v => exact VRep.mono ext h
  | sl k => exact h
  | fr v =>
    obtain ⟨i, o, h1, h2, h3, h4, h5, h6⟩ := h
    exact ⟨i, o, h1, h2, hN v i rfl h1 h3 h6, h4, h5.mono ext, fun q => h6 (own i q)⟩
theorem frz_all {F0 : FF} {env0 : Env} {σ0 : Slots} {st0 : Store} {es : List EV} {ps : List PV} : ∀ {F : FF} {env env' : Env} (g : Go F0 env0 σ0 st0 F env σ st) (h : EVRs F env σ st st0.length es ps) (hn : (frIx es ps).Nodup) {vs : List NV} (hf : frzs es env = some (vs, env')),
    ∃ F', Go F0 env0 σ0 st0 F' env' σ st ∧ VReps F' vs ps ∧ (∀ i o, F i = some o → F' i = some o) ∧ (∀ i, F i = none → i ∉ frIx es ps → ¬ Ow env σ i → F' i = none) ∧ (∀ i, Ow env' σ i → Ow env σ i) := by
  induction es generalizing ps with
  | nil =>
    intro F env env' g h hn vs hf
    cases h
    simp only [frzs, Option.some.injEq, Prod.mk.injEq] at hf
    obtain ⟨rfl, rfl⟩ := hf
    exact ⟨F, g, .nil, fun _ _ q => q, fun _ q _ _ => q, fun _ q => q⟩
  | cons e es ih =>
    intro F env env' g h hn vs hf
    cases h with
    | cons a b =>
      rename_i p ps
      simp only [frzs, Option.bind_eq_some_iff, Option.map_eq_some_iff] at hf
      obtain ⟨⟨v, env1⟩, f1, ⟨ws, env2⟩, f2, f3⟩ := hf
      simp only [Prod.mk.injEq] at f3
      obtain ⟨rfl, rfl⟩ := f3
      obtain ⟨F1, g1, r1, x1, n1, o1⟩ := frz_one g a f1
      have b1 : EVRs F1 env1 σ st st0.length es ps := by
        have hm : ∀ i ∈ frIx es ps, ∀ w, e = .fr w → p ≠ .ref i := by
          intro i hi w he hp
          subst he; subst hp
          simp only [frIx, List.nodup_cons] at hn
          exact hn.1 hi
        clear ih f2 hn
        induction b with
        | nil => exact .nil
        | cons a' b' ih' =>
          rename_i e' p' es' ps'
          refine .cons (a'.frz x1 (fun v i he hp hF hO => n1 i hF (hm i (by subst he; subst hp; simp [frIx])) hO) o1) (ih' fun i hi => hm i ?_)
          cases e' <;> cases p' <;> simp_all [frIx]
      obtain ⟨F2, g2, r2, x2, n2, o2⟩ := ih g1 b1 (by cases e <;> cases p <;> simp_all [frIx]) f2
      refine ⟨F2, g2, .cons (r1.mono x2) r2, fun i o q => x2 _ _ (x1 _ _ q), fun i q hi hO => n2 i (n1 i q (fun w he hp => hi (by subst he; subst hp; simp [frIx])) hO) (fun hm => hi (by cases e <;> cases p <;> simp_all [frIx])) (fun z => hO (o1 i z)), fun i q => o1 i (o2 i q)⟩
end
end Vg
set_option Elab.async false
set_option linter.all false
set_option maxRecDepth 100000
set_option maxHeartbeats 4000000
namespace Vg
open PySem Sg
def RE (m : EvE) (n : VE) : Prop := ∀ F env σ st, RR F env σ st → ∀ ev env', n env = .ok (ev, env') → ∃ p st' F', m σ st = .ok (p, st') ∧ Go F env σ st F' env' σ st' ∧ EVR F' env' σ st' st.length ev p
def RA (m : EvA) (n : VA) : Prop := ∀ F env σ st, RR F env σ st → ∀ es env', n env = .ok (es, env') → ∃ ps st' F', m σ st = .ok (ps, st') ∧ Go F env σ st F' env' σ st' ∧ EVRs F' env' σ st' st.length es ps ∧ (frIx es ps).Nodup
def RT (m : EvT) (n : VT) : Prop := ∀ F env σ st, RR F env σ st → ∀ b env', n env = .ok (b, env') → ∃ st' F', m σ st = .ok (b, st') ∧ Go F env σ st F' env' σ st'
theorem oldOk_get {n : Nat} : ∀ {st st1 : Store}, oldOk n st st1 = true → ∀ (i : Nat) o, st[i]? = some o → ∃ q, st1[i]? = some q ∧ (objLt n q = true ∨ q = o)
  | [], _, _, i, o, h => by simp at h
  | _ :: _, [], h, _, _, _ => by simp [oldOk] at h
  | a :: r, b :: s, h, i, o, q => by
    simp only [oldOk, Bool.and_eq_true, Bool.or_eq_true, decide_eq_true_eq] at h
    cases i with
    | zero => simp only [List.getElem?_cons_zero, Option.some.injEq] at q; subst q; exact ⟨b, by simp, h.1⟩
    | succ i => exact oldOk_get h.2 i o (by simpa using q)
section
variable {F F1 : FF} {env env1 : Env} {σ : Slots} {st st1 : Store}
theorem take_get {n i : Nat} (h : i < n) : (st1.take n)[i]? = st1[i]? := by rw [List.getElem?_take]; rw [if_pos h]
/-- what is new is forgotten -/
theorem Go.take (r : RR F env σ st) (g : Go F env σ st F1 env1 σ st1) (ho : oldOk st.length st st1 = true) : Go F env σ st (cutF st.length F1) env1 σ (st1.take st.length) ∧ ∀ i o, i < st.length → F1 i = some o → objLt st.length o = true := by
  have old : ∀ (i : Nat) q, i < st.length → st1[i]? = some q → objLt st.length q = true := fun i q hi hq => by
    obtain ⟨p, h1, h2⟩ := oldOk_get ho i st[i] (List.getElem?_eq_getElem hi)
    rw [hq] at h1
    simp only [Option.some.injEq] at h1
    subst h1
    rcases h2 with h2 | h2
    · exact h2
    · exact r.wf i q (by rw [h2]; exact List.getElem?_eq_getElem hi)
  have r1 := g.rr
  have e : ∀ i o, i < st.length → F1 i = some o → objLt st.length o = true := fun i o hi q => old i o hi (r1.sub i o q)
  have hl : (st1.take st.length).length = st.length := by rw [List.length_take]; exact Nat.min_eq_left g.le
  refine ⟨⟨⟨r1.len, fun i o q => ?_, fun i o q => ?_, fun k v q => ?_, fun k v q => ?_, fun k p q => ?_, r1.dj⟩, fun i o q => ?_, fun i hi hn => ?_, Nat.le_of_eq hl.symm, g.own, g.pin⟩, e⟩
  · unfold cutF at q
    split at q
    · rename_i hi; rw [take_get hi]; exact r1.sub i o q
    · cases q
  · have hi : i < st.length := by have := get_lt q; omega
    rw [take_get hi] at q
    rw [hl]; exact old i o hi q
  · obtain ⟨p, h1, h2⟩ := r1.sh k v q
    exact ⟨p, h1, h2.cut e (r.rf k p h1)⟩
  · obtain ⟨i, o, h1, h2, h3, h4⟩ := r1.mu k v q
    have hi : i < st.length := by have := r.rf k _ h1; simpa [refsLt] using this
    exact ⟨i, o, h1, by unfold cutF; rw [if_pos hi]; exact h2, by rw [take_get hi]; exact h3, h4.cut e (old i o hi h3)⟩
  · rw [hl]; exact r.rf k p q
  · have hi := r.ltF i o q
    unfold cutF; rw [if_pos hi]; exact g.ext i o q
  · obtain ⟨h1, h2⟩ := g.frm i hi hn
    exact ⟨by rw [take_get hi]; exact h1, by unfold cutF; rw [if_pos hi]; exact h2⟩
theorem VRep.obj {i : Nat} {v : NV} (h : VRep F v (.ref i)) : ∃ o, F i = some o ∧ (ORep F v o ∨ (∃ xs ps, v = .dct xs ∧ o = .fdc ps ∧ VRepd F xs ps) ∨ (∃ c w p, v = .exn c w ∧ o = .exn c p ∧ VRep F w p) ∨ (∃ x, v = .tab x ∧ o = .tab x) ∨ ∃ x, v = .bex x ∧ o = .bex x) := by
  cases h with
  | lst a b => exact ⟨_, a, .inl (.lst b)⟩
  | dic a b => exact ⟨_, a, .inl (.dic b)⟩
  | dct a b => exact ⟨_, a, .inl (.dct b)⟩
  | set a b => exact ⟨_, a, .inl (.set b)⟩
  | fdc a b => exact ⟨_, a, .inr (.inl ⟨_, _, rfl, rfl, b⟩)⟩
  | exn a b => exact ⟨_, a, .inr (.inr (.inl ⟨_, _, _, rfl, rfl, b⟩))⟩
  | tab a => exact ⟨_, a, .inr (.inr (.inr (.inl ⟨_, rfl, rfl⟩)))⟩
  | bex a => exact ⟨_, a, .inr (.inr (.inr (.inr ⟨_, rfl, rfl⟩)))⟩
theorem gc_go (r : RR F env σ st) {p : PV} {e : EV} (g : Go F env σ st F1 env1 σ st1) (h : EVR F1 env1 σ st1 st.length e p) :
    ∃ p2 st2 F2, gc st (p, st1) = (p2, st2) ∧ Go F env σ st F2 env1 σ st2 ∧ EVR F2 env1 σ st2 st.length e p2 := by
  unfold gc
  split
  · exact ⟨p, st1, F1, rfl, g, h⟩
  · split
    · rename_i hne ho
      obtain ⟨gt, ce⟩ := g.take r ho
      split
      · rename_i hp
        refine ⟨p, _, cutF st.length F1, rfl, gt, ?_⟩
        cases e with
        | im v => exact VRep.cut ce h hp
        | sl k => exact h
        | fr v =>
          obtain ⟨i, o, rfl, h2, _⟩ := h
          simp only [refsLt, decide_eq_true_eq] at hp
          omega
      · rename_i hp
        cases p with
        | ref i =>
          dsimp only at hp ⊢
          cases hi : st1[i]? with
          | none => exact ⟨_, st1, F1, rfl, g, h⟩
          | some o =>
            dsimp only
            by_cases hob : objLt st.length o = true
            · rw [if_pos hob]
              have hl : (st1.take st.length).length = st.length := by rw [List.length_take]; exact Nat.min_eq_left g.le
              simp only [refsLt, decide_eq_true_eq, Nat.not_lt] at hp
              cases e with
              | sl k =>
                have := r.rf k _ h
                simp only [refsLt, decide_eq_true_eq] at this
                omega
              | fr v =>
                obtain ⟨j, o', e1, h2, h3, h4, h5, h6⟩ := h
                simp only [PV.ref.injEq] at e1
                subst e1
                rw [hi] at h4
                simp only [Option.some.injEq] at h4
                subst h4
                obtain ⟨g2, v2⟩ := gt.rr.new (h5.cut ce hob)
                rw [hl] at v2
                exact ⟨_, _, _, rfl, gt.trans g2, v2⟩
              | im v =>
                obtain ⟨o', h1, h2⟩ := VRep.obj h
                have := g.rr.sub i o' h1
                rw [hi] at this
                simp only [Option.some.injEq] at this
                subst this
                rcases h2 with h2 | ⟨xs, ps, rfl, rfl, h2⟩ | ⟨cc, w, pp, rfl, rfl, h2⟩ | ⟨xx, rfl, rfl⟩ | ⟨xx, rfl, rfl⟩
                · obtain ⟨g2, v2⟩ := gt.rr.new (h2.cut ce hob)
                  rw [hl] at v2
                  obtain ⟨j, o2, e1, q2, q3, q4, q5, q6⟩ := v2
                  simp only [PV.ref.injEq] at e1
                  subst e1
                  refine ⟨_, _, _, rfl, (gt.trans g2).frzF (v := v) q2 q3 q4 q6, ?_⟩
                  exact ORep.toV (q5.mono (addF_ext q3)) (if_pos rfl)
                · have hob' := hob
                  simp only [objLt, Bool.and_eq_true] at hob'
                  have h2' := h2.cut ce hob'.1 hob'.2
                  have q3 : cutF st.length F1 st.length = none := by
                    have := gt.rr.noneF (i := st.length) (by rw [hl]; exact Nat.le_refl _)
                    exact this
                  have q6 : ¬ Ow env1 σ st.length := gt.rr.notOw (by rw [hl]; exact Nat.le_refl _)
                  have g2 := gt.rr.alloc (o := .fdc ps) (by rw [hl]; exact hob)
                  refine ⟨.ref st.length, st1.take st.length ++ [.fdc ps], _, rfl, (gt.trans g2).frzF (v := .dct xs) (i := st.length) (o := .fdc ps) (Nat.le_refl _) q3 (by rw [List.getElem?_append_right (by rw [hl]; exact Nat.le_refl _), hl]; simp) q6, ?_⟩
                  exact .fdc (if_pos rfl) (h2'.mono (addF_ext q3))
                · have h2' := h2.cut ce hob
                  have q3 : cutF st.length F1 st.length = none := by
                    have := gt.rr.noneF (i := st.length) (by rw [hl]; exact Nat.le_refl _)
                    exact this
                  have q6 : ¬ Ow env1 σ st.length := gt.rr.notOw (by rw [hl]; exact Nat.le_refl _)
                  have g2 := gt.rr.alloc (o := .exn cc pp) (by rw [hl]; exact hob)
                  refine ⟨.ref st.length, st1.take st.length ++ [.exn cc pp], _, rfl, (gt.trans g2).frzF (v := .exn cc w) (i := st.length) (o := .exn cc pp) (Nat.le_refl _) q3 (by rw [List.getElem?_append_right (by rw [hl]; exact Nat.le_refl _), hl]; simp) q6, ?_⟩
                  exact .exn (if_pos rfl) (h2'.mono (addF_ext q3))
                · have q3 : cutF st.length F1 st.length = none := by
                    have := gt.rr.noneF (i := st.length) (by rw [hl]; exact Nat.le_refl _)
                    exact this
                  have q6 : ¬ Ow env1 σ st.length := gt.rr.notOw (by rw [hl]; exact Nat.le_refl _)
                  have g2 := gt.rr.alloc (o := .tab xx) (by rw [hl]; exact hob)
                  refine ⟨.ref st.length, st1.take st.length ++ [.tab xx], _, rfl, (gt.trans g2).frzF (v := .tab xx) (i := st.length) (o := .tab xx) (Nat.le_refl _) q3 (by rw [List.getElem?_append_right (by rw [hl]; exact Nat.le_refl _), hl]; simp) q6, ?_⟩
                  exact .tab (if_pos rfl)
                · have q3 : cutF st.length F1 st.length = none := by
                    have := gt.rr.noneF (i := st.length) (by rw [hl]; exact Nat.le_refl _)
                    exact this
                  have q6 : ¬ Ow env1 σ st.length := gt.rr.notOw (by rw [hl]; exact Nat.le_refl _)
                  have g2 := gt.rr.alloc (o := .bex xx) (by rw [hl]; exact hob)
                  refine ⟨.ref st.length, st1.take st.length ++ [.bex xx], _, rfl, (gt.trans g2).frzF (v := .bex xx) (i := st.length) (o := .bex xx) (Nat.le_refl _) q3 (by rw [List.getElem?_append_right (by rw [hl]; exact Nat.le_refl _), hl]; simp) q6, ?_⟩
                  exact .bex (if_pos rfl)
            · rw [if_neg hob]; exact ⟨_, st1, F1, rfl, g, h⟩
        | _ => exact ⟨_, st1, F1, rfl, g, h⟩
    · exact ⟨p, st1, F1, rfl, g, h⟩
end
theorem re_gc {m : EvE} {n : VE} (h : RE m n) : RE (fun σ st => gcR st (m σ st)) n := fun F env σ st r ev env' hn => by
  obtain ⟨p, st1, F1, h1, g, v⟩ := h F env σ st r ev env' hn
  obtain ⟨p2, st2, F2, e, g2, v2⟩ := gc_go r g v
  exact ⟨p2, st2, F2, by show gcR st (m σ st) = _; rw [h1, gcR_ok, e], g2, v2⟩
section
variable {a b c : EvE} {a' b' c' : VE} {as : EvA} {as' : VA} {t t' : EvT} {u u' : VT}
theorem re_var (k : Nat) : RE (eVar k) (vVar k) := fun F env σ st r ev env' h => by
  unfold vVar at h
  split at h
  · rename_i v q
    simp only [R.ok.injEq, Prod.mk.injEq] at h
    obtain ⟨rfl, rfl⟩ := h
    obtain ⟨p, h1, h2⟩ := r.sh k v q
    exact ⟨p, st, F, by unfold eVar; rw [h1], .refl r, h2⟩
  · rename_i v q
    simp only [R.ok.injEq, Prod.mk.injEq] at h
    obtain ⟨rfl, rfl⟩ := h
    obtain ⟨i, o, h1, _⟩ := r.mu k v (by unfold mutV; rw [q]; rfl)
    exact ⟨.ref i, st, F, by unfold eVar; rw [h1], .refl r, h1⟩
  · rename_i v q
    simp only [R.ok.injEq, Prod.mk.injEq] at h
    obtain ⟨rfl, rfl⟩ := h
    obtain ⟨i, o, h1, _⟩ := r.mu k v (by unfold mutV; rw [q]; rfl)
    exact ⟨.ref i, st, F, by unfold eVar; rw [h1], .refl r, h1⟩
  · cases h
theorem re_c {v : NV} {p : PV} (hv : ∀ F, VRep F v p) : RE (eC p) (vC v) := fun F env σ st r ev env' h => by
  simp only [vC, R.ok.injEq, Prod.mk.injEq] at h
  obtain ⟨rfl, rfl⟩ := h
  exact ⟨p, st, F, rfl, .refl r, hv F⟩
theorem re_int {i : Int} : RE (eC (.int i)) (vC (.int i)) := re_c fun _ => .int i
theorem re_str {i : Str} : RE (eC (.str i)) (vC (.str i)) := re_c fun _ => .str i
theorem re_bl {i : Bool} : RE (eC (.bl i)) (vC (.bl i)) := re_c fun _ => .bl i
theorem re_non : RE (eC .non) (vC .non) := re_c fun _ => .non
theorem re_ty {i : String} : RE (eC (.ty i)) (vC (.ty i)) := re_c fun _ => .ty i
/-- what an operation gives: an old value, or a new object -/
def OpRes (F : FF) (st : Store) (ev : EV) (r : PV) (st' : Store) : Prop :=
  (∃ v, ev = .im v ∧ st' = st ∧ VRep F v r) ∨ (∃ v o, ev = .fr v ∧ r = .ref st.length ∧ st' = st ++ [o] ∧ ORep F v o)
theorem OpRes.go {F : FF} {env : Env} {σ : Slots} {st st' : Store} {ev : EV} {p : PV} (r : RR F env σ st) (h : OpRes F st ev p st') : Go F env σ st F env σ st' ∧ EVR F env σ st' st.length ev p := by
  rcases h with ⟨v, rfl, rfl, h⟩ | ⟨v, o, rfl, rfl, rfl, h⟩
  · exact ⟨.refl r, h⟩
  · exact r.new h
/-- an operation on two values -/
def OpV (f : Op2) (g : VO2) : Prop := ∀ F st a b p q, (∀ (i : Nat) o, F i = some o → st[i]? = some o) → LRep F st a p → LRep F st b q → ∀ ev, g a b = some ev → ∃ r st', f p q st = .ok (r, st') ∧ OpRes F st ev r st'
theorem re_bin {f : Op2} {g : VO2} (hf : OpV f g) (ha : RE a a') (hb : RE b b') : RE (eBin f a b) (vBin g a' b') := fun F env σ st r ev env' h => by
  simp only [vBin, R.bind_ok, ofO_ok, Option.bind_eq_some_iff] at h
  obtain ⟨⟨x, env1⟩, h1, ⟨y, env2⟩, h2, z, ⟨u, g1, w, g2, g3⟩, h3⟩ := h
  simp only [R.ok.injEq, Prod.mk.injEq] at h3
  obtain ⟨rfl, rfl⟩ := h3
  obtain ⟨p, st1, F1, e1, G1, v1⟩ := ha F env σ st r x env1 h1
  obtain ⟨q, st2, F2, e2, G2, v2⟩ := hb F1 env1 σ st1 G1.rr y env2 h2
  obtain ⟨s, st3, e3, k⟩ := hf F2 st2 u w p q G2.rr.sub ((v1.go G2).get G2.rr g1) (v2.get G2.rr g2) z g3
  obtain ⟨G3, v3⟩ := k.go G2.rr
  exact ⟨s, st3, F2, by unfold eBin; rw [e1]; simp only [bind_ok]; rw [e2]; simp only [bind_ok]; exact e3, (G1.trans G2).trans G3, v3.le (Nat.le_trans G1.le G2.le)⟩
theorem re_binG {f : Op2} {g : VO2} (hf : OpV f g) (ha : RE a a') (hb : RE b b') : RE (eBinG f a b) (vBin g a' b') := re_gc (re_bin hf ha hb)
def UnV (f : PV → Store → Res (PV × Store)) (g : NV → Option EV) : Prop := ∀ F st a p, (∀ (i : Nat) o, F i = some o → st[i]? = some o) → LRep F st a p → ∀ ev, g a = some ev → ∃ r st', f p st = .ok (r, st') ∧ OpRes F st ev r st'
theorem re_un {f : PV → Store → Res (PV × Store)} {g : NV → Option EV} (hf : UnV f g) (ha : RE a a') : RE (eUn f a) (vUn g a') := fun F env σ st r ev env' h => by
  simp only [vUn, R.bind_ok, ofO_ok, Option.bind_eq_some_iff] at h
  obtain ⟨⟨x, env1⟩, h1, z, ⟨u, g1, g3⟩, h3⟩ := h
  simp only [R.ok.injEq, Prod.mk.injEq] at h3
  obtain ⟨rfl, rfl⟩ := h3
  obtain ⟨p, st1, F1, e1, G1, v1⟩ := ha F env σ st r x env1 h1
  obtain ⟨s, st3, e3, k⟩ := hf F1 st1 u p G1.rr.sub (v1.get G1.rr g1) z g3
  obtain ⟨G3, v3⟩ := k.go G1.rr
  exact ⟨s, st3, F1, by unfold eUn; rw [e1]; exact e3, G1.trans G3, v3.le G1.le⟩
theorem ra_nil : RA aNil vNil := fun F env σ st r es env' h => by
  simp only [vNil, R.ok.injEq, Prod.mk.injEq] at h
  obtain ⟨rfl, rfl⟩ := h
  exact ⟨[], st, F, rfl, .refl r, .nil, by simp [frIx]⟩
theorem ra_cons (ha : RE a a') (hr : RA as as') : RA (aCons a as) (vCons a' as') := fun F env σ st r es env' h => by
  simp only [vCons, R.bind_ok] at h
  obtain ⟨⟨x, env1⟩, h1, ⟨ys, env2⟩, h2, h3⟩ := h
  simp only [R.ok.injEq, Prod.mk.injEq] at h3
  obtain ⟨rfl, rfl⟩ := h3
  obtain ⟨p, st1, F1, e1, G1, v1⟩ := ha F env σ st r x env1 h1
  obtain ⟨ps, st2, F2, e2, G2, v2, n2⟩ := hr F1 env1 σ st1 G1.rr ys env2 h2
  refine ⟨p :: ps, st2, F2, by rw [aCons_eq, e1]; simp only [bind_ok]; rw [e2]; rfl, G1.trans G2, .cons (v1.go G2) (v2.le G1.le), ?_⟩
  cases x with
  | fr v =>
    obtain ⟨i, o, rfl, h2, h3, h4, _⟩ := v1
    simp only [frIx, List.nodup_cons]
    refine ⟨fun hm => ?_, n2⟩
    have := (v2.ge i hm).1
    have := get_lt h4
    omega
  | im v => cases p <;> simpa [frIx] using n2
  | sl v => cases p <;> simpa [frIx] using n2
theorem EVRs.length {F : FF} {env : Env} {σ : Slots} {st : Store} {n : Nat} {es : List EV} {ps : List PV} (h : EVRs F env σ st n es ps) : es.length = ps.length := by
  induction h with
  | nil => rfl
  | cons _ _ ih => simp [ih]
theorem re_tup (ha : RA as as') : RE (eTup as) (vTup as') := fun F env σ st r ev env' h => by
  simp only [vTup, R.bind_ok, grd_ok, ofO_ok] at h
  obtain ⟨⟨es, env1⟩, h1, hl, ⟨vs, env2⟩, h2, h3⟩ := h
  simp only [R.ok.injEq, Prod.mk.injEq] at h3
  obtain ⟨rfl, rfl⟩ := h3
  obtain ⟨ps, st1, F1, e1, G1, v1, n1⟩ := ha F env σ st r es env1 h1
  obtain ⟨F2, G2, r2, _⟩ := frz_all G1 v1 n1 h2
  refine ⟨.tup ps, st1, F2, ?_, G2, VRep.tup r2⟩
  unfold eTup
  rw [e1]
  simp only [bind_ok]
  rw [if_pos (by rw [← v1.length]; exact hl)]
theorem re_lst (ha : RA as as') : RE (eLst as) (vLst as') := fun F env σ st r ev env' h => by
  simp only [vLst, R.bind_ok, grd_ok, ofO_ok] at h
  obtain ⟨⟨es, env1⟩, h1, hl, ⟨vs, env2⟩, h2, h3⟩ := h
  simp only [R.ok.injEq, Prod.mk.injEq] at h3
  obtain ⟨rfl, rfl⟩ := h3
  obtain ⟨ps, st1, F1, e1, G1, v1, n1⟩ := ha F env σ st r es env1 h1
  obtain ⟨F2, G2, r2, _⟩ := frz_all G1 v1 n1 h2
  obtain ⟨G3, v3⟩ := G2.rr.new (.lst r2)
  refine ⟨.ref st1.length, st1 ++ [.lst ps], F2, ?_, G2.trans G3, v3.le G1.le⟩
  unfold eLst
  rw [e1]
  simp only [bind_ok]
  rw [if_pos (by rw [← v1.length]; exact hl)]
theorem re_if {t : EvT} {t' : VT} (ht : RT t t') (ha : RE a a') (hb : RE b b') : RE (eIf t a b) (vIf t' a' b') := fun F env σ st r ev env' h => by
  simp only [vIf, R.bind_ok] at h
  obtain ⟨⟨k, env1⟩, h1, h2⟩ := h
  obtain ⟨st1, F1, e1, G1⟩ := ht F env σ st r k env1 h1
  cases k with
  | true =>
    obtain ⟨q, st2, F2, e2, G2, v2⟩ := ha F1 env1 σ st1 G1.rr ev env' h2
    exact ⟨q, st2, F2, by unfold eIf; rw [e1]; exact e2, G1.trans G2, v2.le G1.le⟩
  | false =>
    obtain ⟨q, st2, F2, e2, G2, v2⟩ := hb F1 env1 σ st1 G1.rr ev env' h2
    exact ⟨q, st2, F2, by unfold eIf; rw [e1]; exact e2, G1.trans G2, v2.le G1.le⟩
theorem LRep.bl {F : FF} {st : Store} {v : NV} {p : PV} {b : Bool} (h : LRep F st v p) (hb : isBl v = some b) : p = .bl b := by
  cases v <;> simp [isBl] at hb
  subst hb
  rcases h with h | ⟨i, o, _, _, h⟩
  · cases h; rfl
  · cases h
theorem rt_val (ha : RE a a') : RT (tVal a) (vVal a') := fun F env σ st r k env' h => by
  simp only [vVal, R.bind_ok, ofO_ok, Option.bind_eq_some_iff] at h
  obtain ⟨⟨x, env1⟩, h1, w, ⟨v, h2, h3⟩, h4⟩ := h
  simp only [R.ok.injEq, Prod.mk.injEq] at h4
  obtain ⟨rfl, rfl⟩ := h4
  obtain ⟨p, st1, F1, e1, G1, v1⟩ := ha F env σ st r x env1 h1
  have := (v1.get G1.rr h2).bl h3
  subst this
  exact ⟨st1, F1, by unfold tVal; rw [e1]; rfl, G1⟩
theorem rt_not {t : EvT} {t' : VT} (ht : RT t t') : RT (tNot t) (vNotT t') := fun F env σ st r k env' h => by
  simp only [vNotT, R.bind_ok] at h
  obtain ⟨⟨c, env1⟩, h1, h2⟩ := h
  simp only [R.ok.injEq, Prod.mk.injEq] at h2
  obtain ⟨rfl, rfl⟩ := h2
  obtain ⟨st1, F1, e1, G1⟩ := ht F env σ st r c env1 h1
  exact ⟨st1, F1, by unfold tNot; rw [e1]; rfl, G1⟩
theorem rt_or {t s : EvT} {t' s' : VT} (ht : RT t t') (hs : RT s s') : RT (tOr t s) (vOrT t' s') := fun F env σ st r k env' h => by
  simp only [vOrT, R.bind_ok] at h
  obtain ⟨⟨c, env1⟩, h1, h2⟩ := h
  obtain ⟨st1, F1, e1, G1⟩ := ht F env σ st r c env1 h1
  cases c with
  | false =>
    obtain ⟨st2, F2, e2, G2⟩ := hs F1 env1 σ st1 G1.rr k env' h2
    exact ⟨st2, F2, by unfold tOr; rw [e1]; exact e2, G1.trans G2⟩
  | true =>
    simp only [if_true, R.ok.injEq, Prod.mk.injEq] at h2
    obtain ⟨rfl, rfl⟩ := h2
    exact ⟨st1, F1, by unfold tOr; rw [e1]; rfl, G1⟩
theorem rt_yes : RT tYes vYes := fun F env σ st r k env' h => by
  simp only [vYes, R.ok.injEq, Prod.mk.injEq] at h
  obtain ⟨rfl, rfl⟩ := h
  exact ⟨st, F, rfl, .refl r⟩
/-- values as they stand -/
inductive LReps (F : FF) (st : Store) : List NV → List PV → Prop
  | nil : LReps F st [] []
  | cons {v : NV} {p : PV} {vs : List NV} {ps : List PV} : LRep F st v p → LReps F st vs ps → LReps F st (v :: vs) (p :: ps)
theorem EVRs.gets {F : FF} {env : Env} {σ : Slots} {st : Store} {n : Nat} {es : List EV} {ps : List PV} (r : RR F env σ st) (h : EVRs F env σ st n es ps) : ∀ {vs : List NV}, gets env es = some vs → LReps F st vs ps := by
  induction h with
  | nil => intro vs g; cases g; exact .nil
  | cons a _ ih =>
    intro vs g
    simp only [Vg.gets, Option.bind_eq_some_iff, Option.map_eq_some_iff] at g
    obtain ⟨v, g1, ws, g2, rfl⟩ := g
    exact .cons (a.get r g1) (ih g2)
def FnV (f : Fn) (g : List NV → Option EV) : Prop := ∀ F st vs ps, (∀ (i : Nat) o, F i = some o → st[i]? = some o) → LReps F st vs ps → ∀ ev, g vs = some ev → ∃ r st', f ps st = .ok (r, st') ∧ OpRes F st ev r st'
theorem re_callB {f : Fn} {g : List NV → Option EV} (hf : FnV f g) (ha : RA as as') : RE (eCall f as) (vCallB g as') := re_gc (m := fun σ st => as σ st >>= fun xs => f xs.1 xs.2) fun F env σ st r ev env' h => by
  simp only [vCallB, R.bind_ok, ofO_ok, Option.bind_eq_some_iff] at h
  obtain ⟨⟨es, env1⟩, h1, z, ⟨vs, g1, g3⟩, h3⟩ := h
  simp only [R.ok.injEq, Prod.mk.injEq] at h3
  obtain ⟨rfl, rfl⟩ := h3
  obtain ⟨ps, st1, F1, e1, G1, v1, n1⟩ := ha F env σ st r es env1 h1
  obtain ⟨s, st3, e3, k⟩ := hf F1 st1 vs ps G1.rr.sub (v1.gets G1.rr g1) z g3
  obtain ⟨G3, v3⟩ := k.go G1.rr
  exact ⟨s, st3, F1, by show (as σ st >>= _) = _; rw [e1]; exact e3, G1.trans G3, v3.le G1.le⟩
end
end Vg
set_option Elab.async false
set_option linter.all false
set_option maxRecDepth 100000
set_option maxHeartbeats 4000000
namespace Vg
open PySem Sg
section
variable {a : EvE} {a' : VE} {as : EvA} {as' : VA}
theorem set_getP {st : Store} {i j : Nat} {o : PO} (hi : i < st.length) : (st.set i o)[j]? = if i = j then some o else st[j]? := by
  rw [List.getElem?_set]; split <;> simp [hi]
/-- a list of a slot changes -/
theorem RR.setObj {F : FF} {env : Env} {σ : Slots} {st : Store} (r : RR F env σ st) {k i : Nat} {u u' : NV} {s s' : Sl} {o' : PO} (hk : env[k]? = some s) (hs : (s = .ow u ∧ s' = .ow u') ∨ (s = .bo u ∧ s' = .bo u')) (hσ : σ[k]? = some (some (.ref i))) (ho : ORep F u' o') :
    Go F env σ st F (env.set k s') σ (st.set i o') := by
  have hm : mutV env k = some u := by unfold mutV; rw [hk]; rcases hs with ⟨rfl, _⟩ | ⟨rfl, _⟩ <;> rfl
  have hm' : s'.mut = some u' := by rcases hs with ⟨_, rfl⟩ | ⟨_, rfl⟩ <;> rfl
  obtain ⟨j, o, h1, h2, h3, h4⟩ := r.mu k u hm
  rw [hσ] at h1
  simp only [Option.some.injEq, PV.ref.injEq] at h1
  subst h1
  have hi := get_lt h3
  have hO : Ow env σ i := ⟨k, u, hm, hσ⟩
  have hne : ∀ j o, F j = some o → i ≠ j := fun j o q e => by subst e; rw [h2] at q; cases q
  refine ⟨⟨by simp [r.len], fun j p q => ?_, fun j p q => ?_, fun l w q => ?_, fun l w q => ?_, fun l p q => ?_, fun l l' w w' j q q' => ?_⟩, fun _ _ q => q, fun j hj hn => ⟨?_, rfl⟩, by simp, fun j q => ?_, fun l w q => ⟨rfl, ?_⟩⟩
  · rw [set_getP hi, if_neg (hne j p q)]; exact r.sub j p q
  · rw [List.length_set]
    rw [set_getP hi] at q
    split at q
    · cases q; exact ho.lt r.ltF
    · exact r.wf j p q
  · rcases set_get q with ⟨e1, e2, _⟩ | ⟨e1, e2⟩
    · subst e1; rcases hs with ⟨_, rfl⟩ | ⟨_, rfl⟩ <;> cases e2
    · exact r.sh l w e2
  · rcases mutV_set q with ⟨e1, e2⟩ | ⟨e1, e2⟩
    · subst e1
      rw [hm'] at e2; cases e2
      exact ⟨i, o', hσ, h2, by rw [set_getP hi, if_pos rfl], ho⟩
    · obtain ⟨j, p, q1, q2, q3, q4⟩ := r.mu l w e2
      refine ⟨j, p, q1, q2, ?_, q4⟩
      rw [set_getP hi, if_neg (fun e => e1 (r.dj l k w u i e2 hm (by rw [e]; exact q1) hσ))]; exact q3
  · rw [List.length_set]; exact r.rf l p q
  · have x1 : ∃ w, mutV env l = some w := by
      rcases mutV_set q with ⟨e1, e2⟩ | ⟨e1, e2⟩
      · exact ⟨u, by rw [e1]; exact hm⟩
      · exact ⟨w, e2⟩
    have x2 : ∃ w, mutV env l' = some w := by
      rcases mutV_set q' with ⟨e1, e2⟩ | ⟨e1, e2⟩
      · exact ⟨u, by rw [e1]; exact hm⟩
      · exact ⟨w', e2⟩
    obtain ⟨w1, x1⟩ := x1
    obtain ⟨w2, x2⟩ := x2
    exact r.dj l l' w1 w2 j x1 x2
  · rw [set_getP hi, if_neg (fun e => hn (by rw [← e]; exact hO))]
  · obtain ⟨l, w, q1, q2⟩ := q
    rcases mutV_set q1 with ⟨e1, e2⟩ | ⟨e1, e2⟩
    · subst e1; rw [hσ] at q2; simp only [Option.some.injEq, PV.ref.injEq] at q2; subst q2; exact .inl hO
    · exact .inl ⟨l, w, e2, q2⟩
  · by_cases e : k = l
    · subst e
      rw [hk] at q
      simp only [Option.some.injEq] at q
      subst q
      rcases hs with ⟨e, _⟩ | ⟨_, rfl⟩
      · cases e
      · exact ⟨u', by rw [List.getElem?_set_self (get_lt' hk)]⟩
    · exact ⟨w, by rw [List.getElem?_set_ne e]; exact q⟩
where get_lt' {env : Env} {k : Nat} {s : Sl} (h : env[k]? = some s) : k < env.length := (List.getElem?_eq_some_iff.mp h).1
end
def RFn (f : Fn) (g : VF) (mp : List Nat) : Prop := ∀ F st vs ps, RR F (vst mp 0 vs) (ps.map some) st → ∀ ev os, g vs = .ok (ev, os) →
  ∃ r st' F' envf, f ps st = .ok (r, st') ∧ Go F (vst mp 0 vs) (ps.map some) st F' envf (ps.map some) st' ∧ outs envf mp = some os ∧ EVR F' envf (ps.map some) st' st.length ev r ∧ ∀ k, ev ≠ .sl k
theorem vst_get {mp : List Nat} : ∀ {vs : List NV} {j0 j : Nat}, (vst mp j0 vs)[j]? = vs[j]?.map fun v => if mp.contains (j0 + j) then Sl.bo v else .sh v
  | [], _, _ => by simp [vst]
  | v :: vs, j0, 0 => by simp [vst]
  | v :: vs, j0, j + 1 => by
    simp only [vst, List.getElem?_cons_succ]
    rw [vst_get, show j0 + 1 + j = j0 + (j + 1) by omega]
theorem vst_len {mp : List Nat} : ∀ {vs : List NV} {j0 : Nat}, (vst mp j0 vs).length = vs.length
  | [], _ => rfl
  | v :: vs, j0 => by simp [vst, vst_len]
theorem EVRs.at {F : FF} {env : Env} {σ : Slots} {st : Store} {n : Nat} {es : List EV} {ps : List PV} (h : EVRs F env σ st n es ps) : ∀ (j : Nat) e, es[j]? = some e → ∃ p, ps[j]? = some p ∧ EVR F env σ st n e p := by
  induction h with
  | nil => intro j e q; simp at q
  | cons a _ ih =>
    intro j e q
    cases j with
    | zero => simp only [List.getElem?_cons_zero, Option.some.injEq] at q; subst q; exact ⟨_, by simp, a⟩
    | succ j => obtain ⟨p, h1, h2⟩ := ih j e (by simpa using q); exact ⟨p, by simpa using h1, h2⟩
theorem gets_at {env : Env} : ∀ {es : List EV} {vs : List NV}, gets env es = some vs → vs.length = es.length ∧ ∀ (j : Nat) e, es[j]? = some e → ∃ v, vs[j]? = some v ∧ e.get env = some v
  | [], vs, h => by cases h; exact ⟨rfl, fun j e q => by simp at q⟩
  | e :: es, vs, h => by
    simp only [gets, Option.bind_eq_some_iff, Option.map_eq_some_iff] at h
    obtain ⟨v, g1, ws, g2, rfl⟩ := h
    obtain ⟨l, k⟩ := gets_at g2
    refine ⟨by simp [l], fun j e' q => ?_⟩
    cases j with
    | zero => simp only [List.getElem?_cons_zero, Option.some.injEq] at q; subst q; exact ⟨v, by simp, g1⟩
    | succ j => obtain ⟨w, h1, h2⟩ := k j e' (by simpa using q); exact ⟨w, by simpa using h1, h2⟩
theorem frIx_mem : ∀ {es : List EV} {ps : List PV} {j : Nat} {v : NV} {i : Nat}, es[j]? = some (.fr v) → ps[j]? = some (.ref i) → i ∈ frIx es ps
  | [], _, _, _, _, h, _ => by simp at h
  | _ :: _, [], _, _, _, _, h => by simp at h
  | e :: es, p :: ps, 0, v, i, h, q => by
    simp only [List.getElem?_cons_zero, Option.some.injEq] at h q
    subst h; subst q; simp [frIx]
  | e :: es, p :: ps, j + 1, v, i, h, q => by
    have := frIx_mem (es := es) (ps := ps) (j := j) (by simpa using h) (by simpa using q)
    cases e <;> cases p <;> simp_all [frIx]
theorem frIx_inj : ∀ {es : List EV} {ps : List PV} {j l : Nat} {v w : NV} {i : Nat}, (frIx es ps).Nodup → es[j]? = some (.fr v) → es[l]? = some (.fr w) → ps[j]? = some (.ref i) → ps[l]? = some (.ref i) → j = l
  | [], _, _, _, _, _, _, _, h, _, _, _ => by simp at h
  | _ :: _, [], _, _, _, _, _, _, _, _, h, _ => by simp at h
  | e :: es, p :: ps, 0, 0, _, _, _, _, _, _, _, _ => rfl
  | e :: es, p :: ps, 0, l + 1, v, w, i, hn, h1, h2, h3, h4 => by
    simp only [List.getElem?_cons_zero, Option.some.injEq] at h1 h3
    subst h1; subst h3
    simp only [frIx, List.nodup_cons] at hn
    exact absurd (frIx_mem (by simpa using h2) (by simpa using h4)) hn.1
  | e :: es, p :: ps, j + 1, 0, v, w, i, hn, h1, h2, h3, h4 => by
    simp only [List.getElem?_cons_zero, Option.some.injEq] at h2 h4
    subst h2; subst h4
    simp only [frIx, List.nodup_cons] at hn
    exact absurd (frIx_mem (by simpa using h1) (by simpa using h3)) hn.1
  | e :: es, p :: ps, j + 1, l + 1, v, w, i, hn, h1, h2, h3, h4 => by
    have hn' : (frIx es ps).Nodup := by cases e <;> cases p <;> simp_all [frIx]
    have h1 : es[j]? = some (.fr v) := by simpa using h1
    have h2 : es[l]? = some (.fr w) := by simpa using h2
    have h3 : ps[j]? = some (.ref i) := by simpa using h3
    have h4 : ps[l]? = some (.ref i) := by simpa using h4
    rw [frIx_inj hn' h1 h2 h3 h4]
theorem noAlias_of {mp : List Nat} {es : List EV} (h : noAlias mp es = true) {j l k : Nat} (hj : j ∈ mp) (e1 : es[j]? = some (.sl k)) (e2 : es[l]? = some (.sl k)) : j = l := by
  unfold noAlias at h
  rw [List.all_eq_true] at h
  have := h j hj
  rw [e1] at this
  simp only [List.all_eq_true, List.mem_range, Bool.or_eq_true, beq_iff_eq] at this
  have hl : l < es.length := (List.getElem?_eq_some_iff.mp e2).1
  rcases this l hl with q | q
  · exact q.symm
  · rw [e2] at q; simp at q
theorem outs_at {env : Env} : ∀ {mp : List Nat} {os : List NV}, outs env mp = some os → os.length = mp.length ∧ ∀ (t : Nat) j, mp[t]? = some j → ∃ v, os[t]? = some v ∧ env[j]? = some (.bo v)
  | [], os, h => by cases h; exact ⟨rfl, fun t j q => by simp at q⟩
  | j :: mp, os, h => by
    simp only [outs] at h
    split at h
    · rename_i v q
      simp only [Option.map_eq_some_iff] at h
      obtain ⟨ws, g2, rfl⟩ := h
      obtain ⟨l, k⟩ := outs_at g2
      refine ⟨by simp [l], fun t j' q' => ?_⟩
      cases t with
      | zero => simp only [List.getElem?_cons_zero, Option.some.injEq] at q'; subst q'; exact ⟨v, by simp, q⟩
      | succ t => obtain ⟨w, h1, h2⟩ := k t j' (by simpa using q'); exact ⟨w, by simpa using h1, h2⟩
    · cases h
theorem wback_at {es : List EV} : ∀ {mp : List Nat} {os : List NV} {env env' : Env}, wback mp os es env = some env' → mp.Nodup → (∀ j ∈ mp, ∀ l ∈ mp, ∀ k, es[j]? = some (.sl k) → es[l]? = some (.sl k) → j = l) →
    env'.length = env.length ∧ (∀ k, (∀ j ∈ mp, es[j]? ≠ some (.sl k)) → env'[k]? = env[k]?) ∧
    ∀ (t : Nat) j, mp[t]? = some j → (∃ v, es[j]? = some (.fr v)) ∨ ∃ k o s u, es[j]? = some (.sl k) ∧ os[t]? = some o ∧ env[k]? = some s ∧ ((s = .ow u ∧ env'[k]? = some (.ow o)) ∨ (s = .bo u ∧ env'[k]? = some (.bo o)))
  | [], [], env, env', h, _, _ => by cases h; exact ⟨rfl, fun _ _ => rfl, fun t j q => by simp at q⟩
  | [], _ :: _, _, _, h, _, _ => by simp [wback] at h
  | _ :: _, [], _, _, h, _, _ => by simp [wback] at h
  | j :: mp, o :: os, env, env', h, hn, hd => by
    simp only [List.nodup_cons] at hn
    have hd' : ∀ j ∈ mp, ∀ l ∈ mp, ∀ k, es[j]? = some (.sl k) → es[l]? = some (.sl k) → j = l := fun j hj l hl => hd j (List.mem_cons_of_mem _ hj) l (List.mem_cons_of_mem _ hl)
    simp only [wback] at h
    split at h
    · rename_i k q
      have hk : ∀ j' ∈ mp, es[j']? ≠ some (.sl k) := fun j' hj' e => hn.1 (by rw [hd j (List.mem_cons_self ..) j' (List.mem_cons_of_mem _ hj') k q e]; exact hj')
      have main : ∀ (s s' : Sl) (u : NV), env[k]? = some s → ((s = .ow u ∧ s' = .ow o) ∨ (s = .bo u ∧ s' = .bo o)) → wback mp os es (env.set k s') = some env' →
          env'.length = env.length ∧ (∀ l, (∀ i ∈ j :: mp, es[i]? ≠ some (.sl l)) → env'[l]? = env[l]?) ∧
          ∀ (t : Nat) i, (j :: mp)[t]? = some i → (∃ v, es[i]? = some (.fr v)) ∨ ∃ k o' s u, es[i]? = some (.sl k) ∧ (o :: os)[t]? = some o' ∧ env[k]? = some s ∧ ((s = .ow u ∧ env'[k]? = some (.ow o')) ∨ (s = .bo u ∧ env'[k]? = some (.bo o'))) := by
        intro s s' u q1 q2 q3
        obtain ⟨l1, l2, l3⟩ := wback_at q3 hn.2 hd'
        have hkl : k < env.length := (List.getElem?_eq_some_iff.mp q1).1
        have hke : env'[k]? = some s' := by rw [l2 k hk, List.getElem?_set_self hkl]
        refine ⟨by rw [l1, List.length_set], fun l hl => ?_, fun t i ht => ?_⟩
        · rw [l2 l fun i hi => hl i (List.mem_cons_of_mem _ hi), List.getElem?_set_ne]
          exact fun e => hl j (List.mem_cons_self ..) (by rw [← e]; exact q)
        · cases t with
          | zero =>
            simp only [List.getElem?_cons_zero, Option.some.injEq] at ht
            subst ht
            refine .inr ⟨k, o, s, u, q, by simp, q1, ?_⟩
            rcases q2 with ⟨rfl, rfl⟩ | ⟨rfl, rfl⟩
            · exact .inl ⟨rfl, hke⟩
            · exact .inr ⟨rfl, hke⟩
          | succ t =>
            have ht' : mp[t]? = some i := by simpa using ht
            rcases l3 t i ht' with h | ⟨k2, o2, s2, u2, y1, y2, y3, y4⟩
            · exact .inl h
            · refine .inr ⟨k2, o2, s2, u2, y1, by simpa using y2, ?_, y4⟩
              have hne : k ≠ k2 := fun e => hk i (List.mem_of_getElem? ht') (by rw [e]; exact y1)
              rw [List.getElem?_set_ne hne] at y3
              exact y3
      split at h
      · rename_i u q1; exact main _ _ u q1 (.inl ⟨rfl, rfl⟩) h
      · rename_i u q1; exact main _ _ u q1 (.inr ⟨rfl, rfl⟩) h
      · cases h
    · rename_i v q
      obtain ⟨l1, l2, l3⟩ := wback_at h hn.2 hd'
      refine ⟨l1, fun l hl => l2 l fun i hi => hl i (List.mem_cons_of_mem _ hi), fun t i ht => ?_⟩
      cases t with
      | zero =>
        simp only [List.getElem?_cons_zero, Option.some.injEq] at ht
        subst ht
        exact .inl ⟨v, q⟩
      | succ t =>
        rcases l3 t i (by simpa using ht) with h | ⟨k2, o2, s2, u2, y1, y2, y3, y4⟩
        · exact .inl h
        · exact .inr ⟨k2, o2, s2, u2, y1, by simpa using y2, y3, y4⟩
    · cases h
theorem frzK_at : ∀ {ks : List Nat} {env env' : Env}, frzK ks env = some env' → env'.length = env.length ∧ (∀ k, k ∉ ks → env'[k]? = env[k]?) ∧ ∀ k ∈ ks, ∃ v, (env[k]? = some (.ow v) ∨ env[k]? = some (.sh v)) ∧ env'[k]? = some (.sh v)
  | [], env, env', h => by cases h; exact ⟨rfl, fun _ _ => rfl, fun k q => by simp at q⟩
  | k :: ks, env, env', h => by
    simp only [frzK] at h
    split at h
    · rename_i v q
      obtain ⟨l1, l2, l3⟩ := frzK_at h
      have hkl : k < env.length := (List.getElem?_eq_some_iff.mp q).1
      refine ⟨by rw [l1, List.length_set], fun l hl => ?_, fun l hl => ?_⟩
      · simp only [List.mem_cons, not_or] at hl
        rw [l2 l hl.2, List.getElem?_set_ne (fun e => hl.1 e.symm)]
      · by_cases e : l = k
        · subst e
          refine ⟨v, .inl q, ?_⟩
          by_cases hm : l ∈ ks
          · obtain ⟨w, h1, h2⟩ := l3 l hm
            rw [List.getElem?_set_self hkl] at h1
            simp only [Option.some.injEq, reduceCtorEq, Sl.sh.injEq, false_or] at h1
            subst h1; exact h2
          · rw [l2 l hm, List.getElem?_set_self hkl]
        · have hm : l ∈ ks := by simpa [e] using hl
          obtain ⟨w, h1, h2⟩ := l3 l hm
          rw [List.getElem?_set_ne (fun q => e q.symm)] at h1
          exact ⟨w, h1, h2⟩
    · rename_i v q
      obtain ⟨l1, l2, l3⟩ := frzK_at h
      refine ⟨l1, fun l hl => l2 l fun q => hl (List.mem_cons_of_mem _ q), fun l hl => ?_⟩
      by_cases e : l = k
      · subst e
        by_cases hm : l ∈ ks
        · exact l3 l hm
        · exact ⟨v, .inr q, by rw [l2 l hm]; exact q⟩
      · exact l3 l (by simpa [e] using hl)
    · cases h
theorem lent_mem {mp : List Nat} : ∀ {es : List EV} {j0 k : Nat}, k ∈ lent mp j0 es ↔ ∃ j, es[j]? = some (.sl k) ∧ j0 + j ∉ mp
  | [], _, _ => by simp [lent]
  | e :: es, j0, k => by
    have ih := lent_mem (mp := mp) (es := es) (j0 := j0 + 1) (k := k)
    have sft : (∃ j, (e :: es)[j]? = some (.sl k) ∧ j0 + j ∉ mp) ↔ ((e = .sl k ∧ j0 ∉ mp) ∨ ∃ j, es[j]? = some (.sl k) ∧ j0 + 1 + j ∉ mp) := by
      constructor
      · rintro ⟨j, h1, h2⟩
        cases j with
        | zero => exact .inl ⟨by simpa using h1, h2⟩
        | succ j => exact .inr ⟨j, by simpa using h1, by rw [show j0 + 1 + j = j0 + (j + 1) by omega]; exact h2⟩
      · rintro (⟨h1, h2⟩ | ⟨j, h1, h2⟩)
        · exact ⟨0, by simp [h1], h2⟩
        · exact ⟨j + 1, by simpa using h1, by rw [show j0 + (j + 1) = j0 + 1 + j by omega]; exact h2⟩
    rw [sft]
    cases e with
    | im v => simp [lent, ih]
    | fr v => simp [lent, ih]
    | sl l =>
      by_cases hm : mp.contains j0 = true
      · simp only [lent, hm, if_true, ih]
        have : j0 ∈ mp := by simpa using hm
        simp [this]
      · have : j0 ∉ mp := by simpa using hm
        simp only [lent]
        rw [if_neg hm, List.mem_cons, ih]
        constructor
        · rintro (rfl | h)
          · exact .inl ⟨rfl, this⟩
          · exact .inr h
        · rintro (⟨h, _⟩ | h)
          · simp only [EV.sl.injEq] at h; exact .inl h.symm
          · exact .inr h
theorem ORep.nor {F G : FF} {v : NV} {o : PO} (h : ORep F v o) (q : norefO v = true) : ORep G v o := by
  cases h with
  | lst r => exact .lst (r.nor q)
  | set r => exact .set (r.nor q)
  | dic r => exact .dic (go r (by simpa only [norefO] using q))
  | dct r => exact .dct (go r (by simpa only [norefO] using q))
where go : ∀ {xs : List (NV × NV)} {ps : List (PV × PV)}, VRepd F xs ps → (xs.all fun q => noref q.1 && noref q.2) = true → VRepd G xs ps
  | _, _, .nil, _ => .nil
  | _, _, .cons a b r, q => by
    simp only [List.all_cons, Bool.and_eq_true] at q
    exact .cons (a.nor q.1.1) (b.nor q.1.2) (go r q.2)
open Classical in
theorem re_call {f : Fn} {g : VF} {n : Nat} {mp : List Nat} {as : EvA} {as' : VA} (hf : RFn f g mp) (hmp : mp.Nodup) (ha : RA as as') : RE (eCall (ofN n f) as) (vCall g n mp as') := re_gc (m := fun σ st => as σ st >>= fun xs => ofN n f xs.1 xs.2) fun F env σ st r ev env' h => by
  simp only [vCall, R.bind_ok, grd_ok, ofO_ok] at h
  obtain ⟨⟨es, env1⟩, h1, ⟨hl, hal⟩, vs, h2, h3⟩ := h
  dsimp only at hl hal h2 h3
  obtain ⟨ps, st1, F1, e1, G1, V1, n1⟩ := ha F env σ st r es env1 h1
  split at h3
  · rename_i res hg
    obtain ⟨ev0, os⟩ := res
    simp only [R.bind_ok, ofO_ok, Option.bind_eq_some_iff] at h3
    obtain ⟨env3, ⟨env2, w1, w2⟩, h4⟩ := h3
    simp only [R.ok.injEq, Prod.mk.injEq] at h4
    obtain ⟨rfl, rfl⟩ := h4
    have r1 := G1.rr
    obtain ⟨gl, ga⟩ := gets_at h2
    have at_ : ∀ (j : Nat) e, es[j]? = some e → ∃ p v, ps[j]? = some p ∧ vs[j]? = some v ∧ EVR F1 env1 σ st1 st.length e p ∧ e.get env1 = some v := fun j e q => by
      obtain ⟨p, a1, a2⟩ := V1.at j e q
      obtain ⟨v, a3, a4⟩ := ga j e q
      exact ⟨p, v, a1, a3, a2, a4⟩
    have atv : ∀ (j : Nat) v, vs[j]? = some v → ∃ e, es[j]? = some e := fun j v q => by
      have : j < es.length := by rw [← gl]; exact (List.getElem?_eq_some_iff.mp q).1
      exact ⟨_, List.getElem?_eq_getElem this⟩
    obtain ⟨wl, wk, wm⟩ := wback_at w1 hmp fun j hj l hl k a b => noAlias_of hal hj a b
    -- the lists that are lent, and the new ones that are only read
    let L : Nat → Prop := fun i => ∃ j k v, es[j]? = some (.sl k) ∧ j ∉ mp ∧ mutV env1 k = some v ∧ σ[k]? = some (some (.ref i))
    let N : Nat → Prop := fun i => ∃ j v, es[j]? = some (.fr v) ∧ j ∉ mp ∧ ps[j]? = some (.ref i)
    let Fx : FF := fun i => if L i ∨ N i then st1[i]? else F1 i
    have mun : ∀ k v i, mutV env1 k = some v → σ[k]? = some (some (.ref i)) → F1 i = none ∧ ∃ o, st1[i]? = some o ∧ ORep F1 v o := fun k v i q1 q2 => by
      obtain ⟨i', o, y1, y2, y3, y4⟩ := r1.mu k v q1
      rw [q2] at y1
      simp only [Option.some.injEq, PV.ref.injEq] at y1
      subst y1; exact ⟨y2, o, y3, y4⟩
    have fru : ∀ (j : Nat) v i, es[j]? = some (.fr v) → ps[j]? = some (.ref i) → st.length ≤ i ∧ F1 i = none ∧ (∃ o, st1[i]? = some o ∧ ORep F1 v o) ∧ ¬ Ow env1 σ i := fun j v i q1 q2 => by
      obtain ⟨p, v', y1, y2, y3, y4⟩ := at_ j _ q1
      rw [q2] at y1
      simp only [Option.some.injEq] at y1
      subst y1
      obtain ⟨i', o, z1, z2, z3, z4, z5, z6⟩ := y3
      simp only [PV.ref.injEq] at z1
      subst z1
      exact ⟨z2, z3, ⟨o, z4, z5⟩, z6⟩
    have LO : ∀ i, L i → Ow env1 σ i := fun i ⟨j, k, v, q1, q2, q3, q4⟩ => ⟨k, v, q3, q4⟩
    have LF : ∀ i, L i ∨ N i → F1 i = none := fun i q => by
      rcases q with ⟨j, k, v, q1, q2, q3, q4⟩ | ⟨j, v, q1, q2, q3⟩
      · exact (mun k v i q3 q4).1
      · exact (fru j v i q1 q3).2.1
    have x1 : ∀ i o, F1 i = some o → Fx i = some o := fun i o q => by
      show (if L i ∨ N i then st1[i]? else F1 i) = _
      rw [if_neg (fun z => by rw [LF i z] at q; cases q)]; exact q
    have xL : ∀ i, L i ∨ N i → Fx i = st1[i]? := fun i q => if_pos q
    have xN : ∀ i, ¬ L i → ¬ N i → Fx i = F1 i := fun i q1 q2 => if_neg (fun z => z.elim q1 q2)
    have slσ : ∀ (j k : Nat), es[j]? = some (.sl k) → ∀ p, ps[j]? = some p → σ[k]? = some (some p) := fun j k q p q2 => by
      obtain ⟨p', v, y1, y2, y3, y4⟩ := at_ j _ q
      rw [q2] at y1
      simp only [Option.some.injEq] at y1
      subst y1; exact y3
    -- what stands at the places of mp
    have atM : ∀ j ∈ mp, ∀ v, vs[j]? = some v → ∃ i o, ps[j]? = some (.ref i) ∧ F1 i = none ∧ st1[i]? = some o ∧ ORep F1 v o ∧ ¬ L i ∧ ¬ N i := fun j hj v hv => by
      obtain ⟨t, ht⟩ := List.getElem?_of_mem hj
      rcases wm t j ht with ⟨v', q⟩ | ⟨k, o, s, u, q1, q2, q3, q4⟩
      · obtain ⟨p, v2, y1, y2, y3, y4⟩ := at_ j _ q
        rw [hv] at y2
        simp only [Option.some.injEq] at y2
        subst y2
        simp only [EV.get, Option.some.injEq] at y4
        subst y4
        obtain ⟨i, o, z1, z2, z3, z4, z5, z6⟩ := y3
        subst z1
        refine ⟨i, o, y1, z3, z4, z5, fun z => z6 (LO i z), fun ⟨j', v'', a1, a2, a3⟩ => ?_⟩
        exact a2 (by rw [← frIx_inj n1 q a1 y1 a3]; exact hj)
      · obtain ⟨p, v2, y1, y2, y3, y4⟩ := at_ j _ q1
        rw [hv] at y2
        simp only [Option.some.injEq] at y2
        subst y2
        have hm : mutV env1 k = some u := by unfold mutV; rw [q3]; rcases q4 with ⟨rfl, _⟩ | ⟨rfl, _⟩ <;> rfl
        have : u = v := by
          have := mutV_val hm
          simp only [EV.get] at y4
          rw [y4] at this
          simpa using this.symm
        subst this
        obtain ⟨i, o', z1, z2, z3, z4⟩ := r1.mu k u hm
        have y3 : σ[k]? = some (some p) := y3
        rw [y3] at z1
        simp only [Option.some.injEq] at z1
        subst z1
        refine ⟨i, o', y1, z2, z3, z4, fun ⟨j', k', v', a1, a2, a3, a4⟩ => ?_, fun ⟨j', v', a1, a2, a3⟩ => ?_⟩
        · have := r1.dj k' k v' u i a3 hm a4 y3
          subst this
          exact a2 (by rw [← noAlias_of hal hj q1 a1]; exact hj)
        · exact (fru j' v' i a1 a3).2.2.2 ⟨k, u, hm, y3⟩
    have rc : RR Fx (vst mp 0 vs) (ps.map some) st1 := by
      refine ⟨?_, fun i o q => ?_, r1.wf, fun j v q => ?_, fun j v q => ?_, fun j p q => ?_, fun j l v w i q1 q2 q3 q4 => ?_⟩
      · rw [vst_len, List.length_map, gl, V1.length]
      · by_cases z : L i ∨ N i
        · rw [xL i z] at q; exact q
        · rw [xN i (fun y => z (.inl y)) (fun y => z (.inr y))] at q; exact r1.sub i o q
      · rw [vst_get] at q
        simp only [Nat.zero_add, Option.map_eq_some_iff] at q
        obtain ⟨v', a1, a2⟩ := q
        by_cases hj : mp.contains j = true
        · rw [if_pos hj] at a2; cases a2
        · rw [if_neg hj] at a2
          simp only [Sl.sh.injEq] at a2
          subst a2
          have hj : j ∉ mp := by simpa using hj
          obtain ⟨e, he⟩ := atv j _ a1
          obtain ⟨p, v2, y1, y2, y3, y4⟩ := at_ j e he
          rw [a1] at y2
          simp only [Option.some.injEq] at y2
          subst y2
          refine ⟨p, by simp [y1], ?_⟩
          cases e with
          | im w =>
            simp only [EV.get, Option.some.injEq] at y4
            subst y4; exact VRep.mono x1 y3
          | fr w =>
            simp only [EV.get, Option.some.injEq] at y4
            subst y4
            obtain ⟨i, o, z1, z2, z3, z4, z5, z6⟩ := y3
            subst z1
            exact ORep.toV (z5.mono x1) (by rw [xL i (.inr ⟨j, _, he, hj, y1⟩)]; exact z4)
          | sl k =>
            have y3 : σ[k]? = some (some p) := y3
            rcases val_cases y4 with z | z
            · obtain ⟨p', b1, b2⟩ := r1.sh k _ z
              rw [y3] at b1
              simp only [Option.some.injEq] at b1
              subst b1; exact b2.mono x1
            · obtain ⟨i, o, b1, b2, b3, b4⟩ := r1.mu k _ z
              rw [y3] at b1
              simp only [Option.some.injEq] at b1
              subst b1
              exact ORep.toV (b4.mono x1) (by rw [xL i (.inl ⟨j, k, _, he, hj, z, y3⟩)]; exact b3)
      · unfold mutV at q
        rw [vst_get] at q
        cases hv : vs[j]? with
        | none => simp [hv] at q
        | some v' =>
          simp only [hv, Nat.zero_add, Option.map_some, Option.bind_some] at q
          by_cases hj : mp.contains j = true
          · rw [if_pos hj] at q
            simp only [Sl.mut, Option.some.injEq] at q
            subst q
            obtain ⟨i, o, b1, b2, b3, b4, b5, b6⟩ := atM j (by simpa using hj) _ hv
            exact ⟨i, o, by simp [b1], by rw [xN i b5 b6]; exact b2, b3, b4.mono x1⟩
          · rw [if_neg hj] at q; cases q
      · simp only [List.getElem?_map, Option.map_eq_some_iff, Option.some.injEq] at q
        obtain ⟨p', a1, rfl⟩ := q
        have : j < es.length := by rw [V1.length]; exact (List.getElem?_eq_some_iff.mp a1).1
        obtain ⟨p2, v2, y1, y2, y3, y4⟩ := at_ j _ (List.getElem?_eq_getElem this)
        rw [a1] at y1
        simp only [Option.some.injEq] at y1
        subst y1
        cases hE : es[j] with
        | im w => rw [hE] at y3; exact VRep.lt r1.ltF y3
        | fr w =>
          rw [hE] at y3
          obtain ⟨i, o, z1, z2, z3, z4, z5, z6⟩ := y3
          subst z1
          simp only [refsLt, decide_eq_true_eq]; exact get_lt z4
        | sl k => rw [hE] at y3; exact r1.rf k _ y3
      · have mm : ∀ (j : Nat) v, mutV (vst mp 0 vs) j = some v → j ∈ mp ∧ ∃ v, vs[j]? = some v := fun j v q => by
          unfold mutV at q
          rw [vst_get] at q
          cases hv : vs[j]? with
          | none => simp [hv] at q
          | some v' =>
            simp only [hv, Nat.zero_add, Option.map_some, Option.bind_some] at q
            by_cases hj : mp.contains j = true
            · exact ⟨by simpa using hj, v', rfl⟩
            · rw [if_neg hj] at q; cases q
        obtain ⟨m1, v1, hv1⟩ := mm j v q1
        obtain ⟨m2, v2, hv2⟩ := mm l w q2
        simp only [List.getElem?_map, Option.map_eq_some_iff, Option.some.injEq] at q3 q4
        obtain ⟨p3, q3, rfl⟩ := q3
        obtain ⟨p4, q4, rfl⟩ := q4
        obtain ⟨t1, ht1⟩ := List.getElem?_of_mem m1
        obtain ⟨t2, ht2⟩ := List.getElem?_of_mem m2
        have mu_of : ∀ {k o s u}, env1[k]? = some s → ((s = Sl.ow u ∧ env2[k]? = some (.ow o)) ∨ (s = .bo u ∧ env2[k]? = some (.bo o))) → mutV env1 k = some u := fun {k o s u} c1 c2 => by unfold mutV; rw [c1]; rcases c2 with ⟨rfl, _⟩ | ⟨rfl, _⟩ <;> rfl
        rcases wm t1 j ht1 with ⟨v', c1⟩ | ⟨k, o, s, u, c1, c2, c3, c4⟩
        · rcases wm t2 l ht2 with ⟨v'', d1⟩ | ⟨k', o', s', u', d1, d2, d3, d4⟩
          · exact frIx_inj n1 c1 d1 q3 q4
          · exact absurd ⟨k', u', mu_of d3 d4, slσ l k' d1 _ q4⟩ (fru j v' i c1 q3).2.2.2
        · rcases wm t2 l ht2 with ⟨v'', d1⟩ | ⟨k', o', s', u', d1, d2, d3, d4⟩
          · exact absurd ⟨k, u, mu_of c3 c4, slσ j k c1 _ q3⟩ (fru l v'' i d1 q4).2.2.2
          · have := r1.dj k k' u u' i (mu_of c3 c4) (mu_of d3 d4) (slσ j k c1 _ q3) (slσ l k' d1 _ q4)
            subst this
            exact noAlias_of hal m1 c1 d1
    obtain ⟨rv, st2, F2, envf, e2, Gc, ho, Vr, nsl⟩ := hf Fx st1 vs ps rc ev0 os hg
    obtain ⟨ol, oa⟩ := outs_at ho
    -- who owns an object within the call
    have M_of : ∀ i, Ow (vst mp 0 vs) (ps.map some) i → ∃ j ∈ mp, ps[j]? = some (.ref i) ∧ ((∃ v, es[j]? = some (.fr v)) ∨ ∃ k u, es[j]? = some (.sl k) ∧ mutV env1 k = some u ∧ σ[k]? = some (some (.ref i))) := fun i ⟨j, v, q1, q2⟩ => by
      unfold mutV at q1
      rw [vst_get] at q1
      cases hv : vs[j]? with
      | none => simp [hv] at q1
      | some v' =>
        simp only [hv, Nat.zero_add, Option.map_some, Option.bind_some] at q1
        by_cases hj : mp.contains j = true
        · have hj : j ∈ mp := by simpa using hj
          simp only [List.getElem?_map, Option.map_eq_some_iff, Option.some.injEq] at q2
          obtain ⟨p, q2, rfl⟩ := q2
          obtain ⟨t, ht⟩ := List.getElem?_of_mem hj
          refine ⟨j, hj, q2, ?_⟩
          rcases wm t j ht with h | ⟨k, o, s, u, c1, c2, c3, c4⟩
          · exact .inl h
          · exact .inr ⟨k, u, c1, by unfold mutV; rw [c3]; rcases c4 with ⟨rfl, _⟩ | ⟨rfl, _⟩ <;> rfl, slσ j k c1 _ q2⟩
        · rw [if_neg hj] at q1; cases q1
    let b : Bool := lendOk ev0 os
    let F3 : FF := fun i => if b = true ∧ L i then none else F2 i
    have y1 : ∀ i o, F1 i = some o → F3 i = some o := fun i o q => by
      show (if b = true ∧ L i then none else F2 i) = _
      rw [if_neg (fun z => by rw [LF i (.inl z.2)] at q; cases q)]
      exact Gc.ext i o (x1 i o q)
    have y2 : ∀ i o, F3 i = some o → F2 i = some o := fun i o q => by
      have q : (if b = true ∧ L i then none else F2 i) = some o := q
      split at q
      · cases q
      · exact q
    have y3 : ∀ i, F2 i = none → F3 i = none := fun i q => by
      show (if b = true ∧ L i then none else F2 i) = _
      split
      · rfl
      · exact q
    have ybf : b = false → F3 = F2 := fun q => by funext i; show (if b = true ∧ L i then none else F2 i) = _; rw [if_neg (by simp [q])]
    have nor : b = true → (∀ v, ev0 = .im v → noref v = true) ∧ (∀ v, ev0 = .fr v → norefO v = true) ∧ ∀ o ∈ os, norefO o = true := fun q => by
      have q : lendOk ev0 os = true := q
      unfold lendOk at q
      simp only [Bool.and_eq_true, List.all_eq_true] at q
      refine ⟨fun v e => ?_, fun v e => ?_, q.2⟩
      · subst e; exact q.1
      · subst e; exact q.1
    have orep3 : ∀ {v o}, ORep F2 v o → (b = true → norefO v = true) → ORep F3 v o := fun {v o} q z => by
      cases hb : b with
      | true => exact q.nor (z hb)
      | false => rw [ybf hb]; exact q
    -- the slots behind the call
    have lm : ∀ k, k ∈ lent mp 0 es ↔ ∃ j, es[j]? = some (.sl k) ∧ j ∉ mp := fun k => by simpa using lent_mem (mp := mp) (es := es) (j0 := 0) (k := k)
    have fin : env3.length = env2.length ∧ (∀ k, k ∉ lent mp 0 es → env3[k]? = env2[k]?) ∧ ∀ k ∈ lent mp 0 es, (b = true ∧ env3[k]? = env2[k]?) ∨ (b = false ∧ ∃ v, (env2[k]? = some (.ow v) ∨ env2[k]? = some (.sh v)) ∧ env3[k]? = some (.sh v)) := by
      have w2 : lend (lent mp 0 es) b env2 = some env3 := w2
      unfold lend at w2
      cases hb : b with
      | true =>
        rw [hb] at w2
        simp only [if_true, Option.some.injEq] at w2
        subst w2
        exact ⟨rfl, fun _ _ => rfl, fun _ _ => .inl ⟨rfl, rfl⟩⟩
      | false =>
        rw [hb] at w2
        simp only [Bool.false_eq_true, if_false] at w2
        obtain ⟨a1, a2, a3⟩ := frzK_at w2
        exact ⟨a1, a2, fun k hk => .inr ⟨rfl, a3 k hk⟩⟩
    obtain ⟨fl, fk, fm⟩ := fin
    have slot : ∀ (k : Nat), (∃ (t j : Nat) (o : NV) (s : Sl) (u : NV), mp[t]? = some j ∧ es[j]? = some (.sl k) ∧ os[t]? = some o ∧ env1[k]? = some s ∧ ((s = .ow u ∧ env3[k]? = some (.ow o)) ∨ (s = .bo u ∧ env3[k]? = some (.bo o)))) ∨
        ((∀ j ∈ mp, es[j]? ≠ some (.sl k)) ∧ (∃ (j : Nat), es[j]? = some (.sl k) ∧ j ∉ mp) ∧ ((b = true ∧ env3[k]? = env1[k]?) ∨ (b = false ∧ ∃ v, (env1[k]? = some (.ow v) ∨ env1[k]? = some (.sh v)) ∧ env3[k]? = some (.sh v)))) ∨
        ((∀ (j : Nat), es[j]? ≠ some (.sl k)) ∧ env3[k]? = env1[k]?) := fun k => by
      by_cases hA : ∃ j ∈ mp, es[j]? = some (.sl k)
      · obtain ⟨j, hj, hs⟩ := hA
        obtain ⟨t, ht⟩ := List.getElem?_of_mem hj
        rcases wm t j ht with ⟨v, h⟩ | ⟨k', o, s, u, c1, c2, c3, c4⟩
        · rw [hs] at h; cases h
        · rw [hs] at c1
          simp only [Option.some.injEq, EV.sl.injEq] at c1
          subst c1
          have nl : k ∉ lent mp 0 es := fun z => by
            obtain ⟨j', a1, a2⟩ := (lm k).mp z
            exact a2 (by rw [← noAlias_of hal hj hs a1]; exact hj)
          rw [← fk k nl] at c4
          exact .inl ⟨t, j, o, s, u, ht, hs, c2, c3, c4⟩
      · have hA' : ∀ j ∈ mp, es[j]? ≠ some (.sl k) := fun j hj e => hA ⟨j, hj, e⟩
        have e2 := wk k hA'
        by_cases hB : ∃ (j : Nat), es[j]? = some (.sl k) ∧ j ∉ mp
        · refine .inr (.inl ⟨hA', hB, ?_⟩)
          have := fm k ((lm k).mpr hB)
          rw [e2] at this
          exact this
        · refine .inr (.inr ⟨fun j e => ?_, by rw [fk k (fun z => hB ((lm k).mp z)), e2]⟩)
          by_cases hj : j ∈ mp
          · exact hA' j hj e
          · exact hB ⟨j, e, hj⟩
    have mut3 : ∀ k v, mutV env3 k = some v → ∃ w, mutV env1 k = some w := fun k v q => by
      rcases slot k with ⟨t, j, o, s, u, c0, c1, c2, c3, c4⟩ | ⟨c1, c2, c3⟩ | ⟨c1, c2⟩
      · exact ⟨u, by unfold mutV; rw [c3]; rcases c4 with ⟨rfl, _⟩ | ⟨rfl, _⟩ <;> rfl⟩
      · rcases c3 with ⟨_, c3⟩ | ⟨_, v', _, c3⟩
        · exact ⟨v, by unfold mutV at q ⊢; rw [← c3]; exact q⟩
        · unfold mutV at q; rw [c3] at q; cases q
      · exact ⟨v, by unfold mutV at q ⊢; rw [← c2]; exact q⟩
    have ow3 : ∀ i, Ow env3 σ i → Ow env1 σ i := fun i ⟨k, v, q1, q2⟩ => by
      obtain ⟨w, q⟩ := mut3 k v q1
      exact ⟨k, w, q, q2⟩
    have noM : ∀ k v i, mutV env1 k = some v → σ[k]? = some (some (.ref i)) → (∀ j ∈ mp, es[j]? ≠ some (.sl k)) → ¬ Ow (vst mp 0 vs) (ps.map some) i := fun k v i q1 q2 q3 z => by
      obtain ⟨j, hj, hp, h⟩ := M_of i z
      rcases h with ⟨v', h⟩ | ⟨k', u, h1, h2, h3⟩
      · exact (fru j v' i h hp).2.2.2 ⟨k, v, q1, q2⟩
      · have := r1.dj k' k u v i h2 q1 h3 q2
        subst this
        exact q3 j hj h1
    have R3 : RR F3 env3 σ st2 := by
      refine ⟨by rw [fl, wl]; exact r1.len, fun i o q => Gc.rr.sub i o (y2 i o q), Gc.rr.wf, fun k v q => ?_, fun k v q => ?_, fun k p q => refsLt_mono Gc.le p (r1.rf k p q), fun k l v w i q1 q2 q3 q4 => ?_⟩
      · rcases slot k with ⟨t, j, o, s, u, c0, c1, c2, c3, c4⟩ | ⟨c1, ⟨j, c2, c2'⟩, c3⟩ | ⟨c1, c2⟩
        · rw [q] at c4; rcases c4 with ⟨_, c4⟩ | ⟨_, c4⟩ <;> cases c4
        · rcases c3 with ⟨_, c3⟩ | ⟨hb, v', c4, c3⟩
          · rw [q] at c3
            obtain ⟨p, z1, z2⟩ := r1.sh k v c3.symm
            exact ⟨p, z1, z2.mono y1⟩
          · rw [q] at c3
            simp only [Option.some.injEq, Sl.sh.injEq] at c3
            subst c3
            rcases c4 with c4 | c4
            · have hm : mutV env1 k = some v := by unfold mutV; rw [c4]; rfl
              obtain ⟨i, o, z1, z2, z3, z4⟩ := r1.mu k v hm
              refine ⟨_, z1, ORep.toV (o := o) (z4.mono y1) ?_⟩
              rw [ybf hb]
              exact Gc.ext i o (by rw [xL i (.inl ⟨j, k, v, c2, c2', hm, z1⟩)]; exact z3)
            · obtain ⟨p, z1, z2⟩ := r1.sh k v c4
              exact ⟨p, z1, z2.mono y1⟩
        · rw [q] at c2
          obtain ⟨p, z1, z2⟩ := r1.sh k v c2.symm
          exact ⟨p, z1, z2.mono y1⟩
      · rcases slot k with ⟨t, j, o, s, u, c0, c1, c2, c3, c4⟩ | ⟨c1, ⟨j, c2, c2'⟩, c3⟩ | ⟨c1, c2⟩
        · have hv : v = o := by
            unfold mutV at q
            rcases c4 with ⟨_, c4⟩ | ⟨_, c4⟩ <;> (rw [c4] at q; simpa [Sl.mut] using q.symm)
          subst hv
          obtain ⟨v', a1, a2⟩ := oa t j c0
          rw [c2] at a1
          simp only [Option.some.injEq] at a1
          subst a1
          have hm : mutV envf j = some v := by unfold mutV; rw [a2]; rfl
          obtain ⟨i, o', z1, z2, z3, z4⟩ := Gc.rr.mu j v hm
          simp only [List.getElem?_map, Option.map_eq_some_iff, Option.some.injEq] at z1
          obtain ⟨p, z1, rfl⟩ := z1
          exact ⟨i, o', slσ j k c1 _ z1, y3 i z2, z3, orep3 z4 fun hb => (nor hb).2.2 v (List.mem_of_getElem? c2)⟩
        · rcases c3 with ⟨hb, c3⟩ | ⟨hb, v', c4, c3⟩
          · have hm : mutV env1 k = some v := by unfold mutV at q ⊢; rw [← c3]; exact q
            obtain ⟨i, o, z1, z2, z3, z4⟩ := r1.mu k v hm
            obtain ⟨f1, f2⟩ := Gc.frm i (get_lt z3) (noM k v i hm z1 c1)
            refine ⟨i, o, z1, ?_, by rw [f1]; exact z3, z4.mono y1⟩
            show (if b = true ∧ L i then none else F2 i) = _
            rw [if_pos ⟨hb, j, k, v, c2, c2', hm, z1⟩]
          · unfold mutV at q; rw [c3] at q; cases q
        · have hm : mutV env1 k = some v := by unfold mutV at q ⊢; rw [← c2]; exact q
          obtain ⟨i, o, z1, z2, z3, z4⟩ := r1.mu k v hm
          obtain ⟨f1, f2⟩ := Gc.frm i (get_lt z3) (noM k v i hm z1 fun j _ => c1 j)
          refine ⟨i, o, z1, y3 i ?_, by rw [f1]; exact z3, z4.mono y1⟩
          rw [f2, xN i (fun ⟨j', k', v', a1, a2, a3, a4⟩ => ?_) (fun ⟨j', v', a1, a2, a3⟩ => ?_)]
          · exact z2
          · have := r1.dj k' k v' v i a3 hm a4 z1
            subst this
            exact c1 j' a1
          · exact (fru j' v' i a1 a3).2.2.2 ⟨k, v, hm, z1⟩
      · obtain ⟨v', q1⟩ := mut3 k v q1
        obtain ⟨w', q2⟩ := mut3 l w q2
        exact r1.dj k l v' w' i q1 q2 q3 q4
    have G : Go F env σ st F3 env3 σ st2 := by
      refine ⟨R3, fun i o q => y1 i o (G1.ext i o q), fun i hi hn => ?_, Nat.le_trans G1.le Gc.le, fun i q => G1.own i (ow3 i q), fun k v q => ⟨rfl, ?_⟩⟩
      · obtain ⟨a1, a2⟩ := G1.frm i hi hn
        have hn1 : ¬ Ow env1 σ i := fun z => (G1.own i z).elim hn fun z => absurd hi (Nat.not_lt.mpr z)
        have hi1 := Nat.lt_of_lt_of_le hi G1.le
        have nL : ¬ L i := fun z => hn1 (LO i z)
        have nN : ¬ N i := fun ⟨j, v, b1, b2, b3⟩ => absurd hi (Nat.not_lt.mpr (fru j v i b1 b3).1)
        obtain ⟨f1, f2⟩ := Gc.frm i hi1 fun z => by
          obtain ⟨j, hj, hp, h⟩ := M_of i z
          rcases h with ⟨v', h⟩ | ⟨k', u, h1, h2, h3⟩
          · exact absurd hi (Nat.not_lt.mpr (fru j v' i h hp).1)
          · exact hn1 ⟨k', u, h2, h3⟩
        refine ⟨by rw [f1, a1], ?_⟩
        show (if b = true ∧ L i then none else F2 i) = _
        rw [if_neg (fun z => nL z.2), f2, xN i nL nN, a2]
      · obtain ⟨_, v', q'⟩ := G1.pin k v q
        rcases slot k with ⟨t, j, o, s, u, c0, c1, c2, c3, c4⟩ | ⟨c1, c2, c3⟩ | ⟨c1, c2⟩
        · rw [q'] at c3
          simp only [Option.some.injEq] at c3
          subst c3
          rcases c4 with ⟨e, _⟩ | ⟨_, e⟩
          · cases e
          · exact ⟨o, e⟩
        · rcases c3 with ⟨_, c3⟩ | ⟨_, v'', c4, _⟩
          · exact ⟨v', by rw [c3]; exact q'⟩
          · rw [q'] at c4; rcases c4 with c4 | c4 <;> cases c4
        · exact ⟨v', by rw [c2]; exact q'⟩
    refine ⟨rv, st2, F3, ?_, G, ?_⟩
    · show (as σ st >>= _) = _
      rw [e1]
      simp only [bind_ok]
      unfold ofN
      rw [if_pos (by rw [← V1.length]; exact hl)]
      exact e2
    · cases hE : ev0 with
      | sl k => exact absurd hE (nsl k)
      | im v =>
        rw [hE] at Vr
        have Vr : VRep F2 v rv := Vr
        show VRep F3 v rv
        cases hb : b with
        | true => exact Vr.nor ((nor hb).1 v hE)
        | false => rw [ybf hb]; exact Vr
      | fr v =>
        rw [hE] at Vr
        obtain ⟨i, o, z1, z2, z3, z4, z5, z6⟩ := Vr
        exact ⟨i, o, z1, Nat.le_trans G1.le z2, y3 i z3, z4, orep3 z5 fun hb => (nor hb).2.1 v hE, fun z => r1.notOw z2 (ow3 i z)⟩
  · simp only [R.bind_ok] at h3
    obtain ⟨_, _, h⟩ := h3
    cases h
  · cases h3
end Vg
set_option Elab.async false
set_option linter.all false
set_option maxRecDepth 100000
set_option maxHeartbeats 4000000
namespace Vg
open PySem Sg
section
variable {F F0 F1 : FF} {env env0 env1 env2 : Env} {σ σ0 σ1 : Slots} {st st0 st1 : Store}
theorem σset_get {i l : Nat} {p : PV} (hl : i < σ.length) : (σ.set i (some p))[l]? = if i = l then some (some p) else σ[l]? := by
  rw [List.getElem?_set]; split <;> simp [hl]
/-- a slot gets a value -/
theorem RR.setSh (r : RR F env σ st) {i : Nat} {v : NV} {p : PV} (hb : ∀ w, env[i]? ≠ some (.bo w)) (h : VRep F v p) : Go F env σ st F (env.set i (.sh v)) (σ.set i (some p)) st := by
  by_cases hi : i < env.length
  · have hi' : i < σ.length := by rw [← r.len]; exact hi
    refine ⟨⟨by simp [r.len], r.sub, r.wf, fun l w q => ?_, fun l w q => ?_, fun l q hq => ?_, fun l l' w w' j q q' q2 q3 => ?_⟩, fun _ _ q => q, fun _ _ _ => ⟨rfl, rfl⟩, Nat.le_refl _, fun j q => ?_, fun l w q => ?_⟩
    · rcases set_get q with ⟨e1, e2, _⟩ | ⟨e1, e2⟩
      · subst e1; cases e2
        exact ⟨p, by rw [σset_get hi', if_pos rfl], h⟩
      · obtain ⟨p', q1, q2⟩ := r.sh l w e2
        exact ⟨p', by rw [σset_get hi', if_neg (fun e => e1 e.symm)]; exact q1, q2⟩
    · rcases mutV_set q with ⟨e1, e2⟩ | ⟨e1, e2⟩
      · cases e2
      · obtain ⟨j, o, q1, q2⟩ := r.mu l w e2
        exact ⟨j, o, by rw [σset_get hi', if_neg (fun e => e1 e.symm)]; exact q1, q2⟩
    · rw [σset_get hi'] at hq
      split at hq
      · cases hq; exact h.lt r.ltF
      · exact r.rf l q hq
    · rcases mutV_set q with ⟨e1, e2⟩ | ⟨e1, e2⟩
      · cases e2
      · rcases mutV_set q' with ⟨e3, e4⟩ | ⟨e3, e4⟩
        · cases e4
        · rw [σset_get hi', if_neg (fun e => e1 e.symm)] at q2
          rw [σset_get hi', if_neg (fun e => e3 e.symm)] at q3
          exact r.dj l l' w w' j e2 e4 q2 q3
    · obtain ⟨l, w, q1, q2⟩ := q
      rcases mutV_set q1 with ⟨e1, e2⟩ | ⟨e1, e2⟩
      · cases e2
      · rw [σset_get hi', if_neg (fun e => e1 e.symm)] at q2
        exact .inl ⟨l, w, e2, q2⟩
    · have hne : i ≠ l := fun e => by subst e; exact hb w q
      exact ⟨by rw [σset_get hi', if_neg hne], w, by rw [List.getElem?_set_ne hne]; exact q⟩
  · have e1 : env.set i (.sh v) = env := List.set_eq_of_length_le (by omega)
    have e2 : σ.set i (some p) = σ := List.set_eq_of_length_le (by rw [← r.len]; omega)
    rw [e1, e2]; exact .refl r
/-- a slot gets a new list -/
theorem Go.setOw (g : Go F0 env0 σ0 st0 F env σ st) {i : Nat} {v : NV} {p : PV} (hb : ∀ w, env[i]? ≠ some (.bo w)) (h : EVR F env σ st st0.length (.fr v) p) : Go F0 env0 σ0 st0 F (env.set i (.ow v)) (σ.set i (some p)) st := by
  have r := g.rr
  obtain ⟨a, o, rfl, h2, h3, h4, h5, h6⟩ := h
  by_cases hi : i < env.length
  · have hi' : i < σ.length := by rw [← r.len]; exact hi
    have gi : (σ.set i (some (.ref a)))[i]? = some (some (.ref a)) := by rw [σset_get hi', if_pos rfl]
    refine ⟨⟨by simp [r.len], r.sub, r.wf, fun l w q => ?_, fun l w q => ?_, fun l q hq => ?_, fun l l' w w' j q q' q2 q3 => ?_⟩, g.ext, g.frm, g.le, fun j q => ?_, fun l w q => ?_⟩
    · rcases set_get q with ⟨e1, e2, _⟩ | ⟨e1, e2⟩
      · cases e2
      · obtain ⟨p', q1, q2⟩ := r.sh l w e2
        exact ⟨p', by rw [σset_get hi', if_neg (fun e => e1 e.symm)]; exact q1, q2⟩
    · rcases mutV_set q with ⟨e1, e2⟩ | ⟨e1, e2⟩
      · subst e1; cases e2
        exact ⟨a, o, gi, h3, h4, h5⟩
      · obtain ⟨j, o, q1, q2⟩ := r.mu l w e2
        exact ⟨j, o, by rw [σset_get hi', if_neg (fun e => e1 e.symm)]; exact q1, q2⟩
    · rw [σset_get hi'] at hq
      split at hq
      · cases hq; simp only [refsLt, decide_eq_true_eq]; exact get_lt h4
      · exact r.rf l q hq
    · rcases mutV_set q with ⟨e1, e2⟩ | ⟨e1, e2⟩
      · rcases mutV_set q' with ⟨e3, e4⟩ | ⟨e3, e4⟩
        · rw [e1, e3]
        · subst e1
          rw [gi] at q2
          simp only [Option.some.injEq, PV.ref.injEq] at q2
          subst q2
          rw [σset_get hi', if_neg (fun e => e3 e.symm)] at q3
          exact absurd ⟨l', w', e4, q3⟩ h6
      · rcases mutV_set q' with ⟨e3, e4⟩ | ⟨e3, e4⟩
        · subst e3
          rw [gi] at q3
          simp only [Option.some.injEq, PV.ref.injEq] at q3
          subst q3
          rw [σset_get hi', if_neg (fun e => e1 e.symm)] at q2
          exact absurd ⟨l, w, e2, q2⟩ h6
        · rw [σset_get hi', if_neg (fun e => e1 e.symm)] at q2
          rw [σset_get hi', if_neg (fun e => e3 e.symm)] at q3
          exact r.dj l l' w w' j e2 e4 q2 q3
    · obtain ⟨l, w, q1, q2⟩ := q
      rcases mutV_set q1 with ⟨e1, e2⟩ | ⟨e1, e2⟩
      · subst e1
        rw [gi] at q2
        simp only [Option.some.injEq, PV.ref.injEq] at q2
        subst q2
        exact .inr h2
      · rw [σset_get hi', if_neg (fun e => e1 e.symm)] at q2
        exact g.own j ⟨l, w, e2, q2⟩
    · obtain ⟨q1, w', q2⟩ := g.pin l w q
      have hne : i ≠ l := fun e => by subst e; exact hb w' q2
      exact ⟨by rw [σset_get hi', if_neg hne]; exact q1, w', by rw [List.getElem?_set_ne hne]; exact q2⟩
  · have e1 : env.set i (.ow v) = env := List.set_eq_of_length_le (by omega)
    have e2 : σ.set i (some (.ref a)) = σ := List.set_eq_of_length_le (by rw [← r.len]; omega)
    rw [e1, e2]; exact g
mutual
theorem put_go : ∀ (g : Tg) {v : NV} {p : PV} {env env' : Env} {σ : Slots}, RR F env σ st → VRep F v p → vPut g v env = some env' → ∃ σ', Tg.put g p σ = some σ' ∧ Go F env σ st F env' σ' st
  | .nm i, v, p, env, env', σ, r, h, q => by
    simp only [vPut] at q
    split at q
    · cases q
    · rename_i hb
      simp only [Option.some.injEq] at q
      subst q
      exact ⟨_, rfl, r.setSh (fun w z => hb w z) h⟩
  | .tp ts, v, p, env, env', σ, r, h, q => by
    cases h with
    | tup hs => exact puts_go ts r hs (by simpa only [vPut] using q)
    | _ => simp [vPut] at q
theorem puts_go : ∀ (g : List Tg) {v : List NV} {p : List PV} {env env' : Env} {σ : Slots}, RR F env σ st → VReps F v p → vPuts g v env = some env' → ∃ σ', Tg.puts g p σ = some σ' ∧ Go F env σ st F env' σ' st
  | [], _, _, env, env', σ, r, .nil, q => by
    simp only [vPuts, Option.some.injEq] at q
    subst q
    exact ⟨σ, rfl, .refl r⟩
  | [], _, _, _, _, _, _, .cons _ _, q => by simp [vPuts] at q
  | _ :: _, _, _, _, _, _, _, .nil, q => by simp [vPuts] at q
  | t :: ts, _, _, env, env', σ, r, .cons h hs, q => by
    simp only [vPuts, Option.bind_eq_some_iff] at q
    obtain ⟨e1, q1, q2⟩ := q
    obtain ⟨σ1, h1, g1⟩ := put_go t r h q1
    obtain ⟨σ2, h2, g2⟩ := puts_go ts g1.rr hs q2
    exact ⟨σ2, by simp only [Tg.puts, h1, h2], g1.trans g2⟩
end
theorem gPut_go {g : Tg} {v : NV} {p : PV} {env env' : Env} {σ : Slots} (r : RR F env σ st) (h : VRep F v p) (q : vPut g v env = some env') : ∃ σ', gPut g p σ = .ok σ' ∧ Go F env σ st F env' σ' st := by
  obtain ⟨σ', h1, h2⟩ := put_go g r h q
  exact ⟨σ', by rw [gPut_eq, h1], h2⟩
/-- what a slot is set to -/
def SlR (F : FF) (env : Env) (σ : Slots) (st : Store) (n : Nat) (s : Sl) (p : PV) : Prop := match s with
  | .sh v => VRep F v p
  | .ow v => EVR F env σ st n (.fr v) p
  | _ => False
theorem keep_go (g : Go F0 env0 σ0 st0 F env σ st) {e : EV} {p : PV} {s : Sl} (h : EVR F env σ st st0.length e p) (q : vKeep e env = some (s, env1)) :
    ∃ F1, Go F0 env0 σ0 st0 F1 env1 σ st ∧ SlR F1 env1 σ st st0.length s p ∧ (∀ i o, F i = some o → F1 i = some o) ∧ (∀ i, F i = none → (∀ w, e = .fr w → p ≠ .ref i) → ¬ Ow env σ i → F1 i = none) ∧ (∀ i, Ow env1 σ i → Ow env σ i) := by
  cases e with
  | fr v =>
    simp only [vKeep, Option.some.injEq, Prod.mk.injEq] at q
    obtain ⟨rfl, rfl⟩ := q
    exact ⟨F, g, h, fun _ _ q => q, fun _ q _ _ => q, fun _ q => q⟩
  | im v =>
    simp only [vKeep, Option.map_eq_some_iff, Prod.mk.injEq] at q
    obtain ⟨⟨w, e2⟩, q1, rfl, rfl⟩ := q
    obtain ⟨F1, g1, r1, x1, n1, o1⟩ := frz_one g h q1
    exact ⟨F1, g1, r1, x1, n1, o1⟩
  | sl k =>
    simp only [vKeep, Option.map_eq_some_iff, Prod.mk.injEq] at q
    obtain ⟨⟨w, e2⟩, q1, rfl, rfl⟩ := q
    obtain ⟨F1, g1, r1, x1, n1, o1⟩ := frz_one g h q1
    exact ⟨F1, g1, r1, x1, n1, o1⟩
theorem set_go (g : Go F0 env0 σ0 st0 F env σ st) {p : PV} {s : Sl} {i : Nat} (h : SlR F env σ st st0.length s p) (q : vSet i s env = some env1) : Go F0 env0 σ0 st0 F env1 (σ.set i (some p)) st := by
  unfold vSet at q
  split at q
  · cases q
  · rename_i hb
    simp only [Option.some.injEq] at q
    subst q
    cases s with
    | sh v => exact g.trans (g.rr.setSh (fun w z => hb w z) h)
    | ow v => exact g.setOw (fun w z => hb w z) h
    | un => exact h.elim
    | bo v => exact h.elim
end
def FlR (F : FF) (env : Env) (σ : Slots) (st : Store) (n : Nat) : VFl → Fl → Prop
  | .nx, .nx => True
  | .bk, .bk => True
  | .ct, .ct => True
  | .rt e, .rt p => EVR F env σ st n e p
  | _, _ => False
theorem FlR.le {F : FF} {env : Env} {σ : Slots} {st : Store} {n m : Nat} {a : VFl} {b : Fl} (h : FlR F env σ st n a b) (q : m ≤ n) : FlR F env σ st m a b := by
  cases a <;> cases b <;> first | exact h | exact EVR.le h q
def RS (m : EvS) (n : VS) : Prop := ∀ F env σ st, RR F env σ st → ∀ fl env', n env = .ok (fl, env') → ∃ fl' σ' st' F', m σ st = .ok (fl', σ', st') ∧ Go F env σ st F' env' σ' st' ∧ FlR F' env' σ' st' st.length fl fl'
section
variable {a b c : EvE} {a' b' c' : VE} {as : EvA} {as' : VA} {t : EvT} {t' : VT} {s u : EvS} {s' u' : VS}
theorem rs_seq (hs : RS s s') (hu : RS u u') : RS (sSeq s u) (vSeq s' u') := fun F env σ st r fl env' h => by
  simp only [vSeq, R.bind_ok] at h
  obtain ⟨⟨f1, env1⟩, h1, h2⟩ := h
  obtain ⟨f, σ1, st1, F1, e1, G1, v1⟩ := hs F env σ st r f1 env1 h1
  cases f1 with
  | nx =>
    cases f <;> try exact v1.elim
    obtain ⟨f2, σ2, st2, F2, e2, G2, v2⟩ := hu F1 env1 σ1 st1 G1.rr fl env' h2
    exact ⟨f2, σ2, st2, F2, by unfold sSeq; rw [e1]; exact e2, G1.trans G2, v2.le G1.le⟩
  | bk =>
    cases f <;> try exact v1.elim
    cases h2
    exact ⟨_, σ1, st1, F1, by unfold sSeq; rw [e1]; rfl, G1, v1⟩
  | ct =>
    cases f <;> try exact v1.elim
    cases h2
    exact ⟨_, σ1, st1, F1, by unfold sSeq; rw [e1]; rfl, G1, v1⟩
  | rt e =>
    cases f <;> try exact v1.elim
    cases h2
    exact ⟨_, σ1, st1, F1, by unfold sSeq; rw [e1]; rfl, G1, v1⟩
theorem rs_pass : RS sNil vPass := fun F env σ st r fl env' h => by
  cases h
  exact ⟨.nx, σ, st, F, rfl, .refl r, trivial⟩
theorem rs_ret (ha : RE a a') : RS (sRet a) (vRet a') := fun F env σ st r fl env' h => by
  simp only [vRet, R.bind_ok] at h
  obtain ⟨⟨x, env1⟩, h1, h2⟩ := h
  cases h2
  obtain ⟨p, st1, F1, e1, G1, v1⟩ := ha F env σ st r x env1 h1
  exact ⟨.rt p, σ, st1, F1, by unfold sRet; rw [e1]; rfl, G1, v1⟩
theorem rs_if (ht : RT t t') (hs : RS s s') (hu : RS u u') : RS (sIf t s u) (vIfS t' s' u') := fun F env σ st r fl env' h => by
  simp only [vIfS, R.bind_ok] at h
  obtain ⟨⟨k, env1⟩, h1, h2⟩ := h
  obtain ⟨st1, F1, e1, G1⟩ := ht F env σ st r k env1 h1
  cases k with
  | true =>
    obtain ⟨f2, σ2, st2, F2, e2, G2, v2⟩ := hs F1 env1 σ st1 G1.rr fl env' h2
    exact ⟨f2, σ2, st2, F2, by unfold sIf; rw [e1]; exact e2, G1.trans G2, v2.le G1.le⟩
  | false =>
    obtain ⟨f2, σ2, st2, F2, e2, G2, v2⟩ := hu F1 env1 σ st1 G1.rr fl env' h2
    exact ⟨f2, σ2, st2, F2, by unfold sIf; rw [e1]; exact e2, G1.trans G2, v2.le G1.le⟩
theorem rs_asg (i : Nat) (ha : RE a a') : RS (sAsg a (.nm i)) (vAsg a' (.nm i)) := fun F env σ st r fl env' h => by
  simp only [vAsg, R.bind_ok, ofO_ok, Option.bind_eq_some_iff] at h
  obtain ⟨⟨x, env1⟩, h1, env2, ⟨⟨y, env3⟩, h2, h3⟩, h4⟩ := h
  cases h4
  obtain ⟨p, st1, F1, e1, G1, v1⟩ := ha F env σ st r x env1 h1
  obtain ⟨F2, G2, v2, _⟩ := keep_go G1 v1 h2
  exact ⟨.nx, σ.set i (some p), st1, F2, by unfold sAsg; rw [e1]; simp only [bind_ok]; rw [gPut_eq]; rfl, set_go G2 v2 h3, trivial⟩
/-- o[i] = e -/
def SubV (g : NV → NV → NV → Option NV) : Prop := ∀ F st i o u j q v w, (∀ (i : Nat) o, F i = some o → st[i]? = some o) → st[i]? = some o → ORep F u o → LRep F st j q → VRep F v w → ∀ u', g u j v = some u' → ∃ o', setP (.ref i) q w st = .ok (st.set i o') ∧ ORep F u' o'
theorem rs_sub {g : NV → NV → NV → Option NV} (hg : SubV g) (he : RE a a') (ho : RE b b') (hi : RE c c') : RS (sSub b c a) (vSub g b' c' a') := fun F env σ st r fl env' h => by
  simp only [vSub, R.bind_ok] at h
  obtain ⟨⟨x, env1⟩, h1, ⟨y, env2⟩, h2, ⟨z, env3⟩, h3, h4⟩ := h
  obtain ⟨p, st1, F1, e1, G1, v1⟩ := he F env σ st r x env1 h1
  obtain ⟨q, st2, F2, e2, G2, v2⟩ := ho F1 env1 σ st1 G1.rr y env2 h2
  obtain ⟨w, st3, F3, e3, G3, v3⟩ := hi F2 env2 σ st2 G2.rr z env3 h3
  cases y with
  | im v => cases h4
  | fr v => cases h4
  | sl k =>
    simp only [R.bind_ok, ofO_ok] at h4
    obtain ⟨⟨v, env4⟩, f1, f2⟩ := h4
    have G13 := (G1.trans G2).trans G3
    have vx := (v1.go G2).go G3
    obtain ⟨F4, G4, r4, x4, n4, o4⟩ := frz_one G13 vx f1
    have hσ : σ[k]? = some (some q) := v2
    have main : ∀ (s s' : Sl) (u n j : NV), env4[k]? = some s → ((s = .ow u ∧ s' = .ow n) ∨ (s = .bo u ∧ s' = .bo n)) → z.get env4 = some j → g u j v = some n → fl = .nx → env' = env4.set k s' →
        ∃ fl' σ' st' F', sSub b c a σ st = .ok (fl', σ', st') ∧ Go F env σ st F' env' σ' st' ∧ FlR F' env' σ' st' st.length fl fl' := by
      intro s s' u n j q1 q2 qj q3 q4 q5
      have hm : mutV env4 k = some u := by unfold mutV; rw [q1]; rcases q2 with ⟨rfl, _⟩ | ⟨rfl, _⟩ <;> rfl
      obtain ⟨i, o, y1, y2, y3, y4⟩ := G4.rr.mu k u hm
      rw [hσ] at y1
      simp only [Option.some.injEq] at y1
      subst y1
      -- the index stands where it stood
      have hz : LRep F4 st3 j w := by
        cases z with
        | im v0 =>
          simp only [EV.get, Option.some.injEq] at qj
          subst qj; exact .inl (VRep.mono x4 v3)
        | fr v0 =>
          simp only [EV.get, Option.some.injEq] at qj
          subst qj
          obtain ⟨i0, o0, t1, t2, t3, t4, t5, t6⟩ := v3
          exact .inr ⟨i0, o0, t1, t4, t5.mono x4⟩
        | sl k0 => exact EVR.get (n := 0) (e := .sl k0) G4.rr v3 qj
      obtain ⟨o', z1, z2⟩ := hg F4 st3 i o u j w v p G4.rr.sub y3 y4 hz r4 n q3
      have G5 := G4.rr.setObj (u' := n) q1 q2 hσ z2
      subst q4; subst q5
      refine ⟨.nx, σ, _, F4, ?_, G4.trans G5, trivial⟩
      unfold sSub
      rw [e1]; simp only [bind_ok, force_eq]; rw [e2]; simp only [bind_ok]; rw [e3]; simp only [bind_ok, force_eq]; rw [z1]; rfl
    split at f2
    · rename_i u qk
      simp only [R.bind_ok, ofO_ok, Option.bind_eq_some_iff] at f2
      obtain ⟨n, ⟨j, g1, g2⟩, g3⟩ := f2
      cases g3
      exact main _ _ u n j qk (.inl ⟨rfl, rfl⟩) g1 g2 rfl rfl
    · rename_i u qk
      simp only [R.bind_ok, ofO_ok, Option.bind_eq_some_iff] at f2
      obtain ⟨n, ⟨j, g1, g2⟩, g3⟩ := f2
      cases g3
      exact main _ _ u n j qk (.inr ⟨rfl, rfl⟩) g1 g2 rfl rfl
    · cases f2
def RI (m : EvI) (n : VI) : Prop := ∀ F env σ st, RR F env σ st → ∀ xs env', n env = .ok (xs, env') → ∃ ps gs st' F', m σ st = .ok ((ps, gs), st') ∧ Go F env σ st F' env' σ st' ∧ VReps F' xs ps ∧ ∀ g ∈ gs, F' g.1 = some g.2
theorem gd_of {F : FF} {gs : Gd} {st : Store} (sub : ∀ (i : Nat) o, F i = some o → st[i]? = some o) (h : ∀ g ∈ gs, F g.1 = some g.2) : gdOk gs st = true := by
  unfold gdOk
  rw [List.all_eq_true]
  exact fun g hg => decide_eq_true (sub _ _ (h g hg))
theorem rs_loop {g : Tg} (hs : RS s s') {gs : Gd} : ∀ (xs : List NV) (ps : List PV) F env σ st, RR F env σ st → VReps F xs ps → (∀ g ∈ gs, F g.1 = some g.2) → ∀ fl env', vForL g s' xs env = .ok (fl, env') →
    ∃ fl' σ' st' F', forLoop g s gs ps σ st = .ok (fl', σ', st') ∧ Go F env σ st F' env' σ' st' ∧ FlR F' env' σ' st' st.length fl fl'
  | [], _, F, env, σ, st, r, .nil, hg, fl, env', h => by
    cases h
    exact ⟨.nx, σ, st, F, by unfold forLoop; rw [if_pos (gd_of r.sub hg)], .refl r, trivial⟩
  | x :: xs, _, F, env, σ, st, r, .cons hx hxs, hg, fl, env', h => by
    rename_i p ps
    simp only [vForL, R.bind_ok, ofO_ok] at h
    obtain ⟨env1, h1, ⟨f2, env2⟩, h2, h3⟩ := h
    obtain ⟨σ1, e1, G1⟩ := gPut_go r hx h1
    obtain ⟨f, σ2, st2, F2, e2, G2, v2⟩ := hs F env1 σ1 st G1.rr f2 env2 h2
    have G12 := G1.trans G2
    have E : ∀ X, forLoop g s gs (p :: ps) σ st = X ↔ (match (generalizing := false) f with
        | .nx => forLoop g s gs ps σ2 st2
        | .ct => forLoop g s gs ps σ2 st2
        | .bk => .ok (.nx, σ2, st2)
        | .rt v => .ok (.rt v, σ2, st2)) = X := fun X => by
      simp only [forLoop]
      rw [if_pos (gd_of r.sub hg), e1]; simp only [bind_ok]; rw [e2]; simp only [bind_ok]
      all_goals (cases f <;> rfl)
    have hxs' : VReps F2 xs ps := hxs.mono G12.ext
    have hg' : ∀ g ∈ gs, F2 g.1 = some g.2 := fun g q => G12.ext _ _ (hg g q)
    cases f2 with
    | nx =>
      cases f <;> try exact v2.elim
      obtain ⟨f3, σ3, st3, F3, e3, G3, v3⟩ := rs_loop hs xs ps F2 env2 σ2 st2 G2.rr hxs' hg' fl env' h3
      exact ⟨f3, σ3, st3, F3, (E _).mpr e3, G12.trans G3, v3.le G12.le⟩
    | ct =>
      cases f <;> try exact v2.elim
      obtain ⟨f3, σ3, st3, F3, e3, G3, v3⟩ := rs_loop hs xs ps F2 env2 σ2 st2 G2.rr hxs' hg' fl env' h3
      exact ⟨f3, σ3, st3, F3, (E _).mpr e3, G12.trans G3, v3.le G12.le⟩
    | bk =>
      cases f <;> try exact v2.elim
      cases h3
      exact ⟨.nx, σ2, st2, F2, (E _).mpr rfl, G12, trivial⟩
    | rt e =>
      cases f <;> try exact v2.elim
      cases h3
      exact ⟨_, σ2, st2, F2, (E _).mpr rfl, G12, v2⟩
theorem rs_for {it : EvI} {it' : VI} {g : Tg} (hi : RI it it') (hs : RS s s') : RS (sFor it g s) (vFor it' g s') := fun F env σ st r fl env' h => by
  simp only [vFor, R.bind_ok] at h
  obtain ⟨⟨xs, env1⟩, h1, h2⟩ := h
  obtain ⟨ps, gs, st1, F1, e1, G1, v1, hg⟩ := hi F env σ st r xs env1 h1
  obtain ⟨f3, σ3, st3, F3, e3, G3, v3⟩ := rs_loop hs xs ps F1 env1 σ st1 G1.rr v1 hg fl env' h2
  exact ⟨f3, σ3, st3, F3, by unfold sFor; rw [e1]; exact e3, G1.trans G3, v3.le G1.le⟩
end
end Vg
set_option Elab.async false
set_option linter.all false
set_option maxRecDepth 100000
set_option maxHeartbeats 4000000
namespace Vg
open PySem Sg
theorem VReps.chars {F : FF} (s : Str) : VReps F (vchars s) (chars s) := by
  unfold vchars Sg.chars
  induction s.cps.toList with
  | nil => exact .nil
  | cons c r ih => exact .cons (.str _) ih
theorem VReps.enum {F : FF} : ∀ {xs : List NV} {ps : List PV} (i : Nat), VReps F xs ps → VReps F (venum i xs) (enumP i ps)
  | _, _, _, .nil => .nil
  | _, _, i, .cons h r => .cons (.tup (.cons (.int _) (.cons h .nil))) (VReps.enum (i + 1) r)
theorem VReps.zip {F : FF} : ∀ {xs ys : List NV} {ps qs : List PV}, VReps F xs ps → VReps F ys qs → VReps F (vzip xs ys) (zipP ps qs)
  | _, _, _, _, .nil, .nil => .nil
  | _, _, _, _, .nil, .cons _ _ => .nil
  | _, _, _, _, .cons _ _, .nil => .nil
  | _, _, _, _, .cons h r, .cons k s => .cons (.tup (.cons h (.cons k .nil))) (VReps.zip r s)
theorem VReps.rng {F : FF} (lo : Int) (n : Nat) : VReps F (vrng lo n) (rngI lo n) := by
  unfold vrng rngI
  induction List.range n with
  | nil => exact .nil
  | cons c r ih => exact .cons (.int _) ih
theorem items_of {F : FF} {st : Store} {v : NV} {p : PV} {xs : List NV} (sub : ∀ (i : Nat) o, F i = some o → st[i]? = some o) (h : VRep F v p) (q : vitems v = some xs) : ∃ ps gs, itemsOf p st = .ok (ps, gs) ∧ VReps F xs ps ∧ ∀ g ∈ gs, F g.1 = some g.2 := by
  cases h with
  | tup r => simp only [vitems, Option.some.injEq] at q; subst q; exact ⟨_, [], rfl, r, by simp⟩
  | fro r => simp only [vitems, Option.some.injEq] at q; subst q; exact ⟨_, [], rfl, r, by simp⟩
  | str s => simp only [vitems, Option.some.injEq] at q; subst q; exact ⟨_, [], rfl, VReps.chars s, by simp⟩
  | lst hi r =>
    rename_i i ys ps
    simp only [vitems, Option.some.injEq] at q; subst q
    refine ⟨ps, [(i, .lst ps)], by simp only [itemsOf, sub _ _ hi], r, fun g hg => ?_⟩
    simp only [List.mem_singleton] at hg
    subst hg; exact hi
  | _ => simp [vitems] at q
theorem vitems_of_seq {v : NV} {xs : List NV} (q : vseq v = some xs) : vitems v = some xs := by cases v <;> simp_all [vseq, vitems]
theorem nostr {F : FF} {v : NV} {p : PV} {xs : List NV} (h : VRep F v p) (q : vseq v = some xs) : ∀ s, p ≠ .str s := by
  intro s e
  subst e
  cases h
  simp [vseq] at q
section
variable {a b c : EvE} {a' b' c' : VE}
theorem ri_seq (ha : RE a a') : RI (iSeq a) (viSeq a') := fun F env σ st r xs env' h => by
  simp only [viSeq, R.bind_ok, ofO_ok] at h
  obtain ⟨⟨x, env1⟩, h1, ⟨y, env2⟩, h2, zs, h3, h4⟩ := h
  cases h4
  obtain ⟨p, st1, F1, e1, G1, v1⟩ := ha F env σ st r x env1 h1
  obtain ⟨F2, G2, v2, _⟩ := frz_one G1 v1 h2
  obtain ⟨ps, gs, e2, v3, g3⟩ := items_of G2.rr.sub v2 h3
  exact ⟨ps, gs, st1, F2, by unfold iSeq; rw [e1]; simp only [bind_ok]; rw [e2]; rfl, G2, v3, g3⟩
theorem ri_enum (ha : RE a a') : RI (iEnum a) (viEnum a') := fun F env σ st r xs env' h => by
  simp only [viEnum, R.bind_ok, ofO_ok] at h
  obtain ⟨⟨x, env1⟩, h1, ⟨y, env2⟩, h2, zs, h3, h4⟩ := h
  cases h4
  obtain ⟨p, st1, F1, e1, G1, v1⟩ := ha F env σ st r x env1 h1
  obtain ⟨F2, G2, v2, _⟩ := frz_one G1 v1 h2
  obtain ⟨ps, gs, e2, v3, g3⟩ := items_of G2.rr.sub v2 (vitems_of_seq h3)
  have ns := nostr v2 h3
  refine ⟨enumP 0 ps, gs, st1, F2, ?_, G2, v3.enum 0, g3⟩
  unfold iEnum
  rw [e1]; simp only [bind_ok]
  cases p with
  | str s => exact absurd rfl (ns s)
  | _ => first | (dsimp only; rw [e2]; rfl) | (rw [e2]; rfl)
theorem ints_of {F : FF} {st : Store} {v : NV} {p : PV} {i : Int} (h : LRep F st v p) (q : isInt v = some i) : p = .int i := by
  cases v <;> simp [isInt] at q
  subst q
  rcases h with h | ⟨_, _, _, _, h⟩
  · cases h; rfl
  · cases h
theorem ri_rng1 (ha : RE a a') : RI (iRng1 a) (viRng1 a') := fun F env σ st r xs env' h => by
  simp only [viRng1, R.bind_ok, ofO_ok, grd_ok, Option.bind_eq_some_iff] at h
  obtain ⟨⟨x, env1⟩, h1, j, ⟨v, h2, h3⟩, h4, h5⟩ := h
  cases h5
  obtain ⟨p, st1, F1, e1, G1, v1⟩ := ha F env σ st r x env1 h1
  have := ints_of (v1.get G1.rr h2) h3
  subst this
  exact ⟨_, [], st1, F1, by unfold iRng1; rw [e1]; simp only [bind_ok]; rw [if_pos h4], G1, VReps.rng 0 _, by simp⟩
/-- nobody asks a new object any more -/
theorem Go.dead {F F1 : FF} {env env1 : Env} {σ σ1 : Slots} {st st1 : Store} (g : Go F env σ st F1 env1 σ1 st1) {i : Nat} (hi : st.length ≤ i) (hF : F1 i = none) (hO : ¬ Ow env1 σ1 i) : Go F env σ st F1 env1 σ1 (st1.set i .dead) := by
  have r := g.rr
  by_cases hl : i < st1.length
  · refine ⟨⟨r.len, fun j o q => ?_, fun j o q => ?_, r.sh, fun k v q => ?_, fun k p q => by rw [List.length_set]; exact r.rf k p q, r.dj⟩, g.ext, fun j hj hn => ?_, by rw [List.length_set]; exact g.le, g.own, g.pin⟩
    · rw [set_getP hl, if_neg (fun e => by subst e; rw [hF] at q; cases q)]; exact r.sub j o q
    · rw [List.length_set]
      rw [set_getP hl] at q
      split at q
      · cases q; rfl
      · exact r.wf j o q
    · obtain ⟨j, o, h1, h2, h3, h4⟩ := r.mu k v q
      exact ⟨j, o, h1, h2, by rw [set_getP hl, if_neg (fun e => hO ⟨k, v, q, by rw [e]; exact h1⟩)]; exact h3, h4⟩
    · rw [set_getP hl, if_neg (by omega)]; exact g.frm j hj hn
  · rw [List.set_eq_of_length_le (by omega)]; exact g
end
mutual
theorem put_frame : ∀ (g : Tg) {p : PV} {σ σ' : Slots}, Tg.put g p σ = some σ' → σ'.length = σ.length ∧ ∀ k, k ∉ Tg.own g → σ'[k]? = σ[k]?
  | .nm i, p, σ, σ', h => by
    simp only [Tg.put, Option.some.injEq] at h
    subst h
    refine ⟨by simp, fun k hk => ?_⟩
    simp only [Tg.own, List.mem_singleton] at hk
    exact List.getElem?_set_ne (fun e => hk e.symm)
  | .tp ts, p, σ, σ', h => by
    cases p with
    | tup xs => exact puts_frame ts (by simpa only [Tg.put] using h)
    | _ => simp [Tg.put] at h
theorem puts_frame : ∀ (g : List Tg) {p : List PV} {σ σ' : Slots}, Tg.puts g p σ = some σ' → σ'.length = σ.length ∧ ∀ k, k ∉ Tg.owns g → σ'[k]? = σ[k]?
  | [], [], σ, σ', h => by simp only [Tg.puts, Option.some.injEq] at h; subst h; exact ⟨rfl, fun _ _ => rfl⟩
  | [], _ :: _, σ, σ', h => by simp [Tg.puts] at h
  | _ :: _, [], σ, σ', h => by simp [Tg.puts] at h
  | t :: ts, p :: ps, σ, σ', h => by
    simp only [Tg.puts] at h
    split at h
    · rename_i σ1 h1
      obtain ⟨l1, k1⟩ := put_frame t h1
      obtain ⟨l2, k2⟩ := puts_frame ts h
      refine ⟨l2.trans l1, fun k hk => ?_⟩
      simp only [Tg.owns, List.mem_append, not_or] at hk
      rw [k2 k hk.2, k1 k hk.1]
    · cases h
end
theorem wipeP_len (σ : Slots) : ∀ vs, (wipeP σ vs).length = σ.length
  | [] => rfl
  | v :: vs => by simp [wipeP, wipeP_len σ vs]
theorem wipeP_out (σ : Slots) : ∀ {vs : List Nat} {k : Nat}, k ∉ vs → (wipeP σ vs)[k]? = σ[k]?
  | [], _, _ => rfl
  | v :: vs, k, h => by
    simp only [List.mem_cons, not_or] at h
    simp only [wipeP]
    rw [List.getElem?_set_ne (fun e => h.1 e.symm), wipeP_out σ h.2]
theorem wipeP_in (σ : Slots) : ∀ {vs : List Nat} {k : Nat} {x : Option PV}, k ∈ vs → (wipeP σ vs)[k]? = some x → x = none
  | [], _, _, h, _ => by simp at h
  | v :: vs, k, x, h, q => by
    simp only [wipeP] at q
    rw [List.getElem?_set] at q
    by_cases e : v = k
    · rw [if_pos e] at q
      split at q
      · simpa using q.symm
      · cases q
    · rw [if_neg e] at q
      exact wipeP_in σ ((List.mem_cons.mp h).resolve_left fun z => e z.symm) q
theorem vWipe_len (env : Env) : ∀ vs, (vWipe env vs).length = env.length
  | [] => rfl
  | v :: vs => by simp [vWipe, vWipe_len env vs]
theorem vWipe_out (env : Env) : ∀ {vs : List Nat} {k : Nat}, k ∉ vs → (vWipe env vs)[k]? = env[k]?
  | [], _, _ => rfl
  | v :: vs, k, h => by
    simp only [List.mem_cons, not_or] at h
    simp only [vWipe]
    rw [List.getElem?_set_ne (fun e => h.1 e.symm), vWipe_out env h.2]
theorem vWipe_in (env : Env) : ∀ {vs : List Nat} {k : Nat} {x : Sl}, k ∈ vs → (vWipe env vs)[k]? = some x → x = .un
  | [], _, _, h, _ => by simp at h
  | v :: vs, k, x, h, q => by
    simp only [vWipe] at q
    rw [List.getElem?_set] at q
    by_cases e : v = k
    · rw [if_pos e] at q
      split at q
      · simpa using q.symm
      · cases q
    · rw [if_neg e] at q
      exact vWipe_in env ((List.mem_cons.mp h).resolve_left fun z => e z.symm) q
theorem vWipe_get {env : Env} {vs : List Nat} {k : Nat} {x : Sl} (h : (vWipe env vs)[k]? = some x) (hx : x ≠ .un) : k ∉ vs ∧ env[k]? = some x := by
  by_cases hk : k ∈ vs
  · exact absurd (vWipe_in env hk h) hx
  · exact ⟨hk, by rw [← vWipe_out env hk]; exact h⟩
theorem vWipe_mut {env : Env} {vs : List Nat} {k : Nat} {v : NV} (h : mutV (vWipe env vs) k = some v) : k ∉ vs ∧ mutV env k = some v := by
  by_cases hk : k ∈ vs
  · unfold mutV at h
    cases q : (vWipe env vs)[k]? with
    | none => simp [q] at h
    | some x => rw [q, vWipe_in env hk q] at h; cases h
  · exact ⟨hk, by unfold mutV at *; rw [← vWipe_out env hk]; exact h⟩
theorem vBack_len (env e : Env) : ∀ vs, (vBack env vs e).length = e.length
  | [] => rfl
  | v :: vs => by simp [vBack, vBack_len env e vs]
theorem vBack_out (env e : Env) : ∀ {vs : List Nat} {k : Nat}, k ∉ vs → (vBack env vs e)[k]? = e[k]?
  | [], _, _ => rfl
  | v :: vs, k, h => by
    simp only [List.mem_cons, not_or] at h
    simp only [vBack]
    rw [List.getElem?_set_ne (fun e => h.1 e.symm), vBack_out env e h.2]
theorem vBack_in (env e : Env) (hl : e.length = env.length) : ∀ {vs : List Nat} {k : Nat}, k ∈ vs → (vBack env vs e)[k]? = env[k]?
  | [], _, h => by simp at h
  | v :: vs, k, h => by
    simp only [vBack]
    rw [List.getElem?_set]
    by_cases q : v = k
    · subst q
      rw [if_pos rfl, vBack_len, hl]
      split
      · rename_i hv; rw [List.getD_eq_getElem?_getD, List.getElem?_eq_getElem hv]; rfl
      · rename_i hv; rw [List.getElem?_eq_none (by omega)]
    · rw [if_neg q]
      exact vBack_in env e hl ((List.mem_cons.mp h).resolve_left fun z => q z.symm)
section
variable {F F1 : FF} {env env1 env' : Env} {σ σ1 : Slots} {st st1 : Store}
/-- a turn of a comprehension ends -/
theorem Go.wipe {vs : List Nat} (r : RR F env σ st) (g : Go F env σ st F1 env1 σ1 st1) (hσ : ∀ k, k ∉ vs → σ1[k]? = σ[k]?) (hl : σ1.length = σ.length) (hb : ∀ k ∈ vs, ∀ v, env[k]? ≠ some (.bo v)) : Go F env σ st F1 (vWipe env1 vs) σ st1 := by
  have r1 := g.rr
  refine ⟨⟨by rw [vWipe_len, r1.len, hl], r1.sub, r1.wf, fun k v q => ?_, fun k v q => ?_, fun k p q => refsLt_mono g.le p (r.rf k p q), fun k l v w i q1 q2 q3 q4 => ?_⟩, g.ext, g.frm, g.le, fun i q => ?_, fun k v q => ?_⟩
  · obtain ⟨h1, h2⟩ := vWipe_get q (by simp)
    rw [← hσ k h1]; exact r1.sh k v h2
  · obtain ⟨h1, h2⟩ := vWipe_mut q
    rw [← hσ k h1]; exact r1.mu k v h2
  · obtain ⟨h1, h2⟩ := vWipe_mut q1
    obtain ⟨h3, h4⟩ := vWipe_mut q2
    rw [← hσ k h1] at q3
    rw [← hσ l h3] at q4
    exact r1.dj k l v w i h2 h4 q3 q4
  · obtain ⟨k, v, q1, q2⟩ := q
    obtain ⟨h1, h2⟩ := vWipe_mut q1
    rw [← hσ k h1] at q2
    exact g.own i ⟨k, v, h2, q2⟩
  · obtain ⟨_, v', h2⟩ := g.pin k v q
    have hk : k ∉ vs := fun z => hb k z v q
    exact ⟨rfl, v', by rw [vWipe_out env1 hk]; exact h2⟩
theorem RR.wipe (r : RR F env σ st) (vs : List Nat) : RR F (vWipe env vs) (wipeP σ vs) st := by
  refine ⟨by rw [vWipe_len, wipeP_len, r.len], r.sub, r.wf, fun k v q => ?_, fun k v q => ?_, fun k p q => ?_, fun k l v w i q1 q2 q3 q4 => ?_⟩
  · obtain ⟨h1, h2⟩ := vWipe_get q (by simp)
    rw [wipeP_out σ h1]; exact r.sh k v h2
  · obtain ⟨h1, h2⟩ := vWipe_mut q
    rw [wipeP_out σ h1]; exact r.mu k v h2
  · by_cases hk : k ∈ vs
    · exact absurd (wipeP_in σ hk q) (by simp)
    · rw [wipeP_out σ hk] at q; exact r.rf k p q
  · obtain ⟨h1, h2⟩ := vWipe_mut q1
    obtain ⟨h3, h4⟩ := vWipe_mut q2
    rw [wipeP_out σ h1] at q3
    rw [wipeP_out σ h3] at q4
    exact r.dj k l v w i h2 h4 q3 q4
/-- a comprehension ends -/
theorem Go.back {vs : List Nat} (r : RR F env σ st) (g : Go F (vWipe env vs) (wipeP σ vs) st F1 env1 (wipeP σ vs) st1) : Go F env σ st F1 (vBack env vs env1) σ st1 := by
  have r1 := g.rr
  have hl : env1.length = env.length := by rw [r1.len, wipeP_len, r.len]
  have mb : ∀ k v, mutV (vBack env vs env1) k = some v → (k ∈ vs ∧ mutV env k = some v) ∨ (k ∉ vs ∧ mutV env1 k = some v) := fun k v q => by
    unfold mutV at *
    by_cases hk : k ∈ vs
    · rw [vBack_in env env1 hl hk] at q; exact .inl ⟨hk, q⟩
    · rw [vBack_out env env1 hk] at q; exact .inr ⟨hk, q⟩
  have hid : ∀ k v i, k ∈ vs → mutV env k = some v → σ[k]? = some (some (.ref i)) → ¬ Ow (vWipe env vs) (wipeP σ vs) i := fun k v i h1 h2 h3 ⟨l, w, q1, q2⟩ => by
    obtain ⟨z1, z2⟩ := vWipe_mut q1
    rw [wipeP_out σ z1] at q2
    exact z1 (by rw [← r.dj k l v w i h2 z2 h3 q2]; exact h1)
  have owx : ∀ k v i, k ∉ vs → mutV env1 k = some v → σ[k]? = some (some (.ref i)) → Ow env σ i ∨ st.length ≤ i := fun k v i h1 h2 h3 => by
    rcases g.own i ⟨k, v, h2, by rw [wipeP_out σ h1]; exact h3⟩ with ⟨l, w, q1, q2⟩ | h
    · obtain ⟨z1, z2⟩ := vWipe_mut q1
      rw [wipeP_out σ z1] at q2
      exact .inl ⟨l, w, z2, q2⟩
    · exact .inr h
  have cross : ∀ k l v w i, k ∈ vs → l ∉ vs → mutV env k = some v → mutV env1 l = some w → σ[k]? = some (some (.ref i)) → σ[l]? = some (some (.ref i)) → False := fun k l v w i h1 h2 h3 h4 h5 h6 => by
    rcases g.own i ⟨l, w, h4, by rw [wipeP_out σ h2]; exact h6⟩ with ⟨l', w', q1, q2⟩ | h
    · exact hid k v i h1 h3 h5 ⟨l', w', q1, q2⟩
    · obtain ⟨i', o, z1, _, z3, _⟩ := r.mu k v h3
      rw [h5] at z1
      simp only [Option.some.injEq, PV.ref.injEq] at z1
      subst z1
      exact absurd (get_lt z3) (Nat.not_lt.mpr h)
  refine ⟨⟨by rw [vBack_len, hl, r.len], r1.sub, r1.wf, fun k v q => ?_, fun k v q => ?_, fun k p q => refsLt_mono g.le p (r.rf k p q), fun k l v w i q1 q2 q3 q4 => ?_⟩, g.ext, fun i hi hn => ?_, g.le, fun i q => ?_, fun k v q => ?_⟩
  · by_cases hk : k ∈ vs
    · rw [vBack_in env env1 hl hk] at q
      obtain ⟨p, h1, h2⟩ := r.sh k v q
      exact ⟨p, h1, h2.mono g.ext⟩
    · rw [vBack_out env env1 hk] at q
      obtain ⟨p, h1, h2⟩ := r1.sh k v q
      rw [wipeP_out σ hk] at h1
      exact ⟨p, h1, h2⟩
  · rcases mb k v q with ⟨hk, h⟩ | ⟨hk, h⟩
    · obtain ⟨i, o, h1, h2, h3, h4⟩ := r.mu k v h
      obtain ⟨f1, f2⟩ := g.frm i (get_lt h3) (hid k v i hk h h1)
      exact ⟨i, o, h1, f2.trans h2, f1.trans h3, h4.mono g.ext⟩
    · obtain ⟨i, o, h1, h2, h3, h4⟩ := r1.mu k v h
      rw [wipeP_out σ hk] at h1
      exact ⟨i, o, h1, h2, h3, h4⟩
  · rcases mb k v q1 with ⟨hk, h⟩ | ⟨hk, h⟩
    · rcases mb l w q2 with ⟨hk2, h2⟩ | ⟨hk2, h2⟩
      · exact r.dj k l v w i h h2 q3 q4
      · exact (cross k l v w i hk hk2 h h2 q3 q4).elim
    · rcases mb l w q2 with ⟨hk2, h2⟩ | ⟨hk2, h2⟩
      · exact (cross l k w v i hk2 hk h2 h q4 q3).elim
      · exact r1.dj k l v w i h h2 (by rw [wipeP_out σ hk]; exact q3) (by rw [wipeP_out σ hk2]; exact q4)
  · refine g.frm i hi fun ⟨l, w, q1, q2⟩ => ?_
    obtain ⟨z1, z2⟩ := vWipe_mut q1
    rw [wipeP_out σ z1] at q2
    exact hn ⟨l, w, z2, q2⟩
  · obtain ⟨k, v, q1, q2⟩ := q
    rcases mb k v q1 with ⟨hk, h⟩ | ⟨hk, h⟩
    · exact .inl ⟨k, v, h, q2⟩
    · exact owx k v i hk h q2
  · refine ⟨rfl, ?_⟩
    by_cases hk : k ∈ vs
    · exact ⟨v, by rw [vBack_in env env1 hl hk]; exact q⟩
    · obtain ⟨_, v', h2⟩ := g.pin k v (by rw [vWipe_out env hk]; exact q)
      exact ⟨v', by rw [vBack_out env env1 hk]; exact h2⟩
end
theorem wiped_un {env : Env} {vs : List Nat} : ∀ k ∈ vs, ∀ v, (vWipe env vs)[k]? ≠ some (.bo v) := fun k hk v q => by cases vWipe_in env hk q
theorem lc_loop {g : Tg} {t : EvT} {t' : VT} {e : EvE} {e' : VE} {vs : List Nat} (hg : ∀ k ∈ Tg.own g, k ∈ vs) (ht : RT t t') (he : RE e e') {gs : Gd} {σ : Slots} : ∀ (xs : List NV) (ps : List PV) (acc : List NV) (aps : List PV) F env st, RR F env σ st → (∀ k ∈ vs, ∀ v, env[k]? ≠ some (.bo v)) → VReps F xs ps → VReps F acc aps → (∀ g ∈ gs, F g.1 = some g.2) →
    ∀ ys env', vLcL g t' e' vs xs acc env = .ok (ys, env') → ∃ qs st' F', lcLoop g t e σ gs ps aps st = .ok (qs, st') ∧ Go F env σ st F' env' σ st' ∧ VReps F' ys qs
  | [], _, acc, aps, F, env, st, r, hb, .nil, ha, hgs, ys, env', h => by
    cases h
    exact ⟨aps, st, F, by unfold lcLoop; rw [if_pos (gd_of r.sub hgs)], .refl r, ha⟩
  | x :: xs, _, acc, aps, F, env, st, r, hb, .cons hx hxs, ha, hgs, ys, env', h => by
    rename_i p ps
    simp only [vLcL, R.bind_ok, ofO_ok] at h
    obtain ⟨env1, h1, ⟨k, env2⟩, h2, h3⟩ := h
    obtain ⟨σ1, e1, G1⟩ := gPut_go r hx h1
    have hput : Tg.put g p σ = some σ1 := by
      rw [gPut_eq] at e1
      cases q : Tg.put g p σ with
      | none => rw [q] at e1; cases e1
      | some s => rw [q] at e1; cases e1; rfl
    obtain ⟨hl, hσ⟩ := put_frame g hput
    have hσ' : ∀ k, k ∉ vs → σ1[k]? = σ[k]? := fun k hk => hσ k fun z => hk (hg k z)
    obtain ⟨st2, F2, e2, G2⟩ := ht F env1 σ1 st G1.rr k env2 h2
    have G12 := G1.trans G2
    have E : ∀ X, lcLoop g t e σ gs (p :: ps) aps st = X ↔ (if k = true then e σ1 st2 >>= fun y => if aps.length < LINE then lcLoop g t e σ gs ps (aps ++ [y.1]) y.2 else .stuck else lcLoop g t e σ gs ps aps st2) = X := fun X => by
      simp only [lcLoop]
      rw [if_pos (gd_of r.sub hgs), e1]; simp only [bind_ok]; rw [e2]; simp only [bind_ok, force_eq]
    cases k with
    | false =>
      simp only [Bool.false_eq_true, if_false] at h3
      have GW := G12.wipe r hσ' hl hb
      obtain ⟨qs, st3, F3, e3, G3, v3⟩ := lc_loop hg ht he xs ps acc aps F2 _ st2 GW.rr wiped_un (hxs.mono GW.ext) (ha.mono GW.ext) (fun g q => GW.ext _ _ (hgs g q)) ys env' h3
      exact ⟨qs, st3, F3, (E _).mpr (by simpa using e3), GW.trans G3, v3⟩
    | true =>
      simp only [if_true, R.bind_ok, ofO_ok, grd_ok] at h3
      obtain ⟨⟨y, env3⟩, k1, ⟨z, env4⟩, k2, k3, k4⟩ := h3
      obtain ⟨q, st3, F3, e3, G3, v3⟩ := he F2 env2 σ1 st2 G2.rr y env3 k1
      have G13 := G12.trans G3
      obtain ⟨F4, G4, v4, _⟩ := frz_one G13 (v3.le G12.le) k2
      have GW := G4.wipe r hσ' hl hb
      obtain ⟨qs, st5, F5, e5, G5, v5⟩ := lc_loop hg ht he xs ps (acc ++ [z]) (aps ++ [q]) F4 _ st3 GW.rr wiped_un (hxs.mono GW.ext) ((ha.mono GW.ext).append (.cons v4 .nil)) (fun g q => GW.ext _ _ (hgs g q)) ys env' k4
      refine ⟨qs, st5, F5, (E _).mpr ?_, GW.trans G5, v5⟩
      rw [if_pos rfl, e3]; simp only [bind_ok]; rw [if_pos (by rw [← ha.length]; exact k3)]; exact e5
theorem re_lc {it : EvI} {it' : VI} {g : Tg} {t : EvT} {t' : VT} {e : EvE} {e' : VE} {vs : List Nat} (hg : ((Tg.own g).all fun k => vs.contains k) = true) (hi : RI it it') (ht : RT t t') (he : RE e e') : RE (eLc it g t e vs) (vLc it' g t' e' vs) := fun F env σ st r ev env' h => by
  simp only [vLc, R.bind_ok] at h
  obtain ⟨⟨xs, env1⟩, h1, ⟨ys, env2⟩, h2, h3⟩ := h
  cases h3
  obtain ⟨ps, gs, st1, F1, e1, G1, v1, hgs⟩ := hi F env σ st r xs env1 h1
  have hg' : ∀ k ∈ Tg.own g, k ∈ vs := fun k hk => by simpa using List.all_eq_true.mp hg k hk
  obtain ⟨qs, st2, F2, e2, G2, v2⟩ := lc_loop hg' ht he xs ps [] [] F1 _ st1 (G1.rr.wipe vs) wiped_un v1 .nil hgs ys env2 h2
  have GB := G2.back G1.rr
  obtain ⟨G3, v3⟩ := GB.rr.new (.lst v2)
  refine ⟨_, _, F2, ?_, (G1.trans GB).trans G3, v3.le (Nat.le_trans G1.le G2.le)⟩
  unfold eLc
  rw [e1]; simp only [bind_ok]; rw [e2]; rfl
theorem key_eq {F : FF} {k k2 : NV} {p p2 : PV} (h : VRep F k p) (h2 : VRep F k2 p2) (q : vkeyOk k = true) : k2 = k ↔ p2 = p := by
  cases h with
  | int i =>
    constructor
    · rintro rfl; cases h2; rfl
    · rintro rfl; cases h2; rfl
  | str i =>
    constructor
    · rintro rfl; cases h2; rfl
    · rintro rfl; cases h2; rfl
  | _ => simp [vkeyOk] at q
theorem key_ok {F : FF} {k : NV} {p : PV} (h : VRep F k p) (q : vkeyOk k = true) : keyOk p = true := by
  cases h <;> simp_all [vkeyOk, keyOk]
theorem VRepd.any {F : FF} {k : NV} {p : PV} (h : VRep F k p) (q : vkeyOk k = true) : ∀ {xs : List (NV × NV)} {ps : List (PV × PV)}, VRepd F xs ps → (xs.any fun r => decide (r.1 = k)) = (ps.any fun r => decide (r.1 = p))
  | _, _, .nil => rfl
  | _, _, .cons a b r => by
    simp only [List.any_cons]
    rw [VRepd.any h q r]
    congr 1
    exact decide_eq_decide.mpr (key_eq h a q)
theorem VRepd.append {F : FF} : ∀ {v w : List (NV × NV)} {p q : List (PV × PV)}, VRepd F v p → VRepd F w q → VRepd F (v ++ w) (p ++ q)
  | _, _, _, _, .nil, s => s
  | _, _, _, _, .cons a b t, s => .cons a b (VRepd.append t s)
theorem VRepd.length {F : FF} : ∀ {v : List (NV × NV)} {p : List (PV × PV)}, VRepd F v p → v.length = p.length
  | _, _, .nil => rfl
  | _, _, .cons _ _ r => by rw [List.length_cons, List.length_cons, VRepd.length r]
theorem VRepd.upd {F : FF} {k v : NV} {p q : PV} (h : VRep F k p) (hv : VRep F v q) (hk : vkeyOk k = true) : ∀ {xs : List (NV × NV)} {ps : List (PV × PV)}, VRepd F xs ps → VRepd F (xs.map fun r => if r.1 = k then (r.1, v) else r) (ps.map fun r => if r.1 = p then (r.1, q) else r)
  | _, _, .nil => .nil
  | (k2, v2) :: _, (p2, q2) :: _, .cons a b r => by
    simp only [List.map_cons]
    by_cases e : k2 = k
    · rw [if_pos e, if_pos ((key_eq h a hk).mp e)]
      exact .cons a hv (VRepd.upd h hv hk r)
    · rw [if_neg e, if_neg (fun z => e ((key_eq h a hk).mpr z))]
      exact .cons a b (VRepd.upd h hv hk r)
theorem VRepd.put {F : FF} {k v : NV} {p q : PV} (h : VRep F k p) (hv : VRep F v q) (hk : vkeyOk k = true) {xs : List (NV × NV)} {ps : List (PV × PV)} (r : VRepd F xs ps) : VRepd F (vdPut xs k v) (Sg.dictPut ps p q) := by
  unfold vdPut Sg.dictPut
  rw [VRepd.any h hk r]
  split
  · exact VRepd.upd h hv hk r
  · exact r.append (.cons h hv .nil)
theorem re_dic0 : RE eDic0 vDic0 := fun F env σ st r ev env' h => by
  cases h
  obtain ⟨G3, v3⟩ := r.new (.dic .nil)
  exact ⟨_, _, F, rfl, G3, v3⟩
theorem rfn {N : Nat} {mp : List Nat} {m : EvS} {n : VS} (hm : RS m n) : RFn (fnOf N m) (vFn N mp n) mp := fun F st vs ps r ev os h => by
  simp only [vFn, grd_ok] at h
  obtain ⟨hlt, h⟩ := h
  have hlt : ∀ j ∈ mp, j < vs.length := fun j hj => by simpa using List.all_eq_true.mp hlt j hj
  have hlen : vs.length = ps.length := by have := r.len; rw [vst_len, List.length_map] at this; exact this
  have e0 : start0 N ps = ps.map some ++ List.replicate (N - vs.length) none := by unfold start0; rw [hlen]
  have gE : ∀ (k : Nat) s, (vst mp 0 vs ++ List.replicate (N - vs.length) Sl.un)[k]? = some s → s ≠ .un → (vst mp 0 vs)[k]? = some s := fun k s q hs => by
    by_cases hk : k < (vst mp 0 vs).length
    · rw [List.getElem?_append_left hk] at q; exact q
    · rw [List.getElem?_append_right (by omega), List.getElem?_replicate] at q
      split at q
      · exact absurd (by simpa using q.symm) hs
      · cases q
  have gM : ∀ (k : Nat) v, mutV (vst mp 0 vs ++ List.replicate (N - vs.length) Sl.un) k = some v → mutV (vst mp 0 vs) k = some v := fun k v q => by
    unfold mutV at *
    cases h : (vst mp 0 vs ++ List.replicate (N - vs.length) Sl.un)[k]? with
    | none => rw [h] at q; cases q
    | some s => rw [h] at q; rw [gE k s h (fun e => by subst e; cases q)]; exact q
  have gP : ∀ (k : Nat) p, (ps.map some)[k]? = some p → (ps.map some ++ List.replicate (N - vs.length) (none : Option PV))[k]? = some p := fun k p q => by
    rw [List.getElem?_append_left (List.getElem?_eq_some_iff.mp q).1]; exact q
  have gP' : ∀ (k : Nat) p, (ps.map some ++ List.replicate (N - vs.length) (none : Option PV))[k]? = some (some p) → (ps.map some)[k]? = some (some p) := fun k p q => by
    by_cases hk : k < (ps.map some).length
    · rw [List.getElem?_append_left hk] at q; exact q
    · rw [List.getElem?_append_right (by omega), List.getElem?_replicate] at q
      split at q <;> cases q
  have gO : ∀ i, Ow (vst mp 0 vs ++ List.replicate (N - vs.length) .un) (ps.map some ++ List.replicate (N - vs.length) none) i → Ow (vst mp 0 vs) (ps.map some) i := fun i ⟨k, v, q1, q2⟩ => ⟨k, v, gM k v q1, gP' k _ q2⟩
  have r0 : RR F (vst mp 0 vs ++ List.replicate (N - vs.length) .un) (start0 N ps) st := by
    rw [e0]
    refine ⟨by simp [vst_len, hlen], r.sub, r.wf, fun k v q => ?_, fun k v q => ?_, fun k p q => r.rf k p (gP' k p q), fun k l v w i q1 q2 q3 q4 => r.dj k l v w i (gM k v q1) (gM l w q2) (gP' k _ q3) (gP' l _ q4)⟩
    · obtain ⟨p, h1, h2⟩ := r.sh k v (gE k _ q (by simp))
      exact ⟨p, gP k _ h1, h2⟩
    · obtain ⟨i, o, h1, h2⟩ := r.mu k v (gM k v q)
      exact ⟨i, o, gP k _ h1, h2⟩
  split at h
  · rename_i res hr
    obtain ⟨fl, envC⟩ := res
    obtain ⟨fl', σC, st', F', e1, G1, v1⟩ := hm F _ _ st r0 fl envC hr
    rw [e0] at G1
    have rC := G1.rr
    -- the parameters behind the body
    let envf : Env := (vst mp 0 vs).mapIdx fun j s => if mp.contains j then envC.getD j .un else s
    have ef : ∀ (k : Nat), envf[k]? = (vst mp 0 vs)[k]?.map fun s => if mp.contains k then envC.getD k .un else s := fun k => by
      show ((vst mp 0 vs).mapIdx _)[k]? = _
      rw [List.getElem?_mapIdx]
    have pin : ∀ j ∈ mp, ∃ v, envC[j]? = some (.bo v) ∧ σC[j]? = (ps.map some)[j]? ∧ envf[j]? = some (.bo v) ∧ ∃ v0, (vst mp 0 vs)[j]? = some (.bo v0) := fun j hj => by
      have hjl := hlt j hj
      have hb : (vst mp 0 vs)[j]? = some (.bo vs[j]) := by
        rw [vst_get, List.getElem?_eq_getElem hjl]
        simp [hj]
      have hb2 : (vst mp 0 vs ++ List.replicate (N - vs.length) Sl.un)[j]? = some (.bo vs[j]) := by
        rw [List.getElem?_append_left (by rw [vst_len]; exact hjl)]; exact hb
      obtain ⟨q1, v', q2⟩ := G1.pin j _ hb2
      refine ⟨v', q2, ?_, ?_, _, hb⟩
      · rw [q1, List.getElem?_append_left (by rw [List.length_map, ← hlen]; exact hjl)]
      · rw [ef, hb]
        simp only [Option.map_some]
        rw [if_pos (by simpa using hj), List.getD_eq_getElem?_getD, q2]; rfl
    have fM : ∀ (k : Nat) v, mutV envf k = some v → k ∈ mp ∧ mutV envC k = some v := fun k v q => by
      unfold mutV at q
      rw [ef] at q
      by_cases hk : k ∈ mp
      · obtain ⟨w, h1, h2, h3, _⟩ := pin k hk
        rw [← ef, h3] at q
        exact ⟨hk, by unfold mutV; rw [h1]; exact q⟩
      · rw [vst_get] at q
        have hk' : ¬ mp.contains k = true := by simpa using hk
        have hk'' : ¬ mp.contains (0 + k) = true := by simpa using hk
        cases hv : vs[k]? with
        | none => simp [hv] at q
        | some v' =>
          rw [hv] at q
          simp only [Option.map_some, Option.bind_some] at q
          rw [if_neg hk', if_neg hk''] at q; cases q
    have fO : ∀ i, Ow envf (ps.map some) i → Ow envC σC i := fun i ⟨k, v, q1, q2⟩ => by
      obtain ⟨h1, h2⟩ := fM k v q1
      obtain ⟨w, _, h4, _⟩ := pin k h1
      exact ⟨k, v, h2, by rw [h4]; exact q2⟩
    have Rf : RR F' envf (ps.map some) st' := by
      refine ⟨by show ((vst mp 0 vs).mapIdx _).length = _; simp [vst_len, hlen], rC.sub, rC.wf, fun k v q => ?_, fun k v q => ?_, fun k p q => refsLt_mono G1.le p (r.rf k p q), fun k l v w i q1 q2 q3 q4 => ?_⟩
      · rw [ef] at q
        by_cases hk : k ∈ mp
        · obtain ⟨w, h1, h2, h3, _⟩ := pin k hk
          rw [← ef, h3] at q; cases q
        · have hk' : ¬ mp.contains k = true := by simpa using hk
          simp only [if_neg hk', Option.map_id'] at q
          obtain ⟨p, h1, h2⟩ := r.sh k v q
          exact ⟨p, h1, h2.mono G1.ext⟩
      · obtain ⟨h1, h2⟩ := fM k v q
        obtain ⟨w, _, h4, _⟩ := pin k h1
        obtain ⟨i, o, z1, z2⟩ := rC.mu k v h2
        exact ⟨i, o, by rw [← h4]; exact z1, z2⟩
      · obtain ⟨h1, h2⟩ := fM k v q1
        obtain ⟨h3, h4⟩ := fM l w q2
        obtain ⟨_, _, y1, _⟩ := pin k h1
        obtain ⟨_, _, y2, _⟩ := pin l h3
        exact rC.dj k l v w i h2 h4 (by rw [y1]; exact q3) (by rw [y2]; exact q4)
    have Gf : Go F (vst mp 0 vs) (ps.map some) st F' envf (ps.map some) st' := by
      refine ⟨Rf, G1.ext, fun i hi hn => G1.frm i hi fun z => hn (gO i z), G1.le, fun i q => (G1.own i (fO i q)).elim (fun z => .inl (gO i z)) .inr, fun k v q => ⟨rfl, ?_⟩⟩
      have hk : k ∈ mp := by
        rw [vst_get] at q
        cases hv : vs[k]? with
        | none => simp [hv] at q
        | some v' =>
          rw [hv] at q
          simp only [Nat.zero_add, Option.map_some, Option.some.injEq] at q
          by_cases hk : mp.contains k = true
          · simpa using hk
          · rw [if_neg hk] at q; cases q
      obtain ⟨w, _, _, h3, _⟩ := pin k hk
      exact ⟨w, h3⟩
    have oe : ∀ ms : List Nat, (∀ j ∈ ms, j ∈ mp) → outs envf ms = outs envC ms := by
      intro ms
      induction ms with
      | nil => intro _; rfl
      | cons j ms ih =>
        intro hs
        obtain ⟨w, h1, _, h3, _⟩ := pin j (hs j (List.mem_cons_self ..))
        simp only [outs, h1, h3, ih fun j hj => hs j (List.mem_cons_of_mem _ hj)]
    have outsE := oe mp fun _ h => h
    have notOw : ∀ i, st.length ≤ i → ¬ Ow envf (ps.map some) i := fun i hi ⟨k, v, q1, q2⟩ => by
      have := r.rf k _ q2
      simp only [refsLt, decide_eq_true_eq] at this
      omega
    cases fl with
    | nx =>
      cases fl' <;> try exact v1.elim
      simp only [R.bind_ok, ofO_ok] at h
      obtain ⟨os', h1, h2⟩ := h
      cases h2
      exact ⟨.non, st', F', envf, by unfold fnOf; rw [e1]; rfl, Gf, by rw [outsE]; exact h1, VRep.non, by simp⟩
    | bk => cases h
    | ct => cases h
    | rt e =>
      cases fl' <;> try exact v1.elim
      rename_i p
      simp only [R.bind_ok, ofO_ok] at h
      obtain ⟨w, h0, os', h1, h2⟩ := h
      cases h2
      have v1 : EVR F' envC σC st' st.length e p := v1
      refine ⟨p, st', F', envf, by unfold fnOf; rw [e1]; rfl, Gf, by rw [outsE]; exact h1, ?_⟩
      cases e with
      | im v => simp only [vret, Option.some.injEq] at h0; subst h0; exact ⟨v1, by simp⟩
      | fr v =>
        simp only [vret, Option.some.injEq] at h0; subst h0
        obtain ⟨i, o, z1, z2, z3, z4, z5, z6⟩ := v1
        exact ⟨⟨i, o, z1, z2, z3, z4, z5, notOw i z2⟩, by simp⟩
      | sl k =>
        have v1 : σC[k]? = some (some p) := v1
        simp only [vret] at h0
        split at h0
        · rename_i v q
          simp only [Option.some.injEq] at h0
          subst h0
          have hm : mutV envC k = some v := by unfold mutV; rw [q]; rfl
          obtain ⟨i, o, z1, z2, z3, z4⟩ := rC.mu k v hm
          rw [v1] at z1
          simp only [Option.some.injEq] at z1
          subst z1
          have hi : st.length ≤ i := by
            rcases G1.own i ⟨k, v, hm, v1⟩ with z | z
            · obtain ⟨j, w, y1, y2⟩ := gO i z
              have hj : j ∈ mp := by
                unfold mutV at y1
                rw [vst_get] at y1
                cases hv : vs[j]? with
                | none => simp [hv] at y1
                | some v' =>
                  rw [hv] at y1
                  simp only [Nat.zero_add, Option.map_some, Option.bind_some] at y1
                  by_cases hk : mp.contains j = true
                  · simpa using hk
                  · rw [if_neg hk] at y1; cases y1
              obtain ⟨v', b1, b2, _, _⟩ := pin j hj
              have hm2 : mutV envC j = some v' := by unfold mutV; rw [b1]; rfl
              have := rC.dj k j v v' i hm hm2 v1 (by rw [b2]; exact y2)
              subst this
              rw [q] at b1; cases b1
            · exact z
          exact ⟨⟨i, o, rfl, hi, z2, z3, z4, notOw i hi⟩, by simp⟩
        · rename_i v q
          simp only [Option.some.injEq] at h0
          subst h0
          obtain ⟨p', z1, z2⟩ := rC.sh k v q
          rw [v1] at z1
          simp only [Option.some.injEq] at z1
          subst z1
          exact ⟨z2, by simp⟩
        · cases h0
  · simp only [R.bind_ok] at h
    obtain ⟨_, _, h⟩ := h
    cases h
  · cases h
/-- the end: a law -/
theorem law_end {f : Fn} {g : VF} (hf : RFn f g []) {ns : List Int} (h : g [.fro (ns.map .int)] = .ok (.im (.bl true), [])) : ∃ st, f [.fro (ns.map .int)] [] = .ok (.bl true, st) := by
  have hr : ∀ ns : List Int, VReps (fun _ => none) (ns.map .int) (ns.map .int) := fun ns => by
    induction ns with
    | nil => exact .nil
    | cons n r ih => exact .cons (.int n) ih
  have hlt : ∀ ns : List Int, refsLts 0 (ns.map .int) = true := fun ns => by
    induction ns with
    | nil => rfl
    | cons n r ih => simpa [refsLts, refsLt] using ih
  have r : RR (fun _ => none) (vst [] 0 [.fro (ns.map .int)]) (([.fro (ns.map .int)] : List PV).map some) [] := by
    refine ⟨rfl, (fun i o q => nomatch q), (fun i o q => by simp at q), fun k v q => ?_, fun k v q => ?_, fun k p q => ?_, fun k l v w i q1 q2 q3 q4 => ?_⟩
    · cases k with
      | zero => simp [vst] at q; subst q; exact ⟨_, by simp, .fro (hr ns)⟩
      | succ k => simp [vst] at q
    · cases k with
      | zero => simp [mutV, vst, Sl.mut] at q
      | succ k => simp [mutV, vst] at q
    · cases k with
      | zero => simp at q; subst q; simpa [refsLt] using hlt ns
      | succ k => simp at q
    · cases k with
      | zero => simp [mutV, vst, Sl.mut] at q1
      | succ k => simp [mutV, vst] at q1
  obtain ⟨p, st', F', envf, h1, _, _, h4, _⟩ := hf _ [] _ _ r _ _ h
  cases h4
  exact ⟨st', h1⟩
end Vg
set_option Elab.async false
set_option linter.all false
set_option maxRecDepth 100000
set_option maxHeartbeats 4000000
namespace Vg
open PySem Sg
abbrev Sub (F : FF) (st : Store) : Prop := ∀ (i : Nat) o, F i = some o → st[i]? = some o
section
variable {F : FF} {st : Store} {p : PV}
theorem LRep.int {i : Int} (h : LRep F st (.int i) p) : p = .int i := by
  rcases h with h | ⟨_, _, _, _, h⟩
  · cases h; rfl
  · cases h
theorem LRep.str {i : Str} (h : LRep F st (.str i) p) : p = .str i := by
  rcases h with h | ⟨_, _, _, _, h⟩
  · cases h; rfl
  · cases h
theorem LRep.bool {i : Bool} (h : LRep F st (.bl i) p) : p = .bl i := by
  rcases h with h | ⟨_, _, _, _, h⟩
  · cases h; rfl
  · cases h
theorem LRep.ty {i : String} (h : LRep F st (.ty i) p) : p = .ty i := by
  rcases h with h | ⟨_, _, _, _, h⟩
  · cases h; rfl
  · cases h
theorem LRep.non (h : LRep F st .non p) : p = .non := by
  rcases h with h | ⟨_, _, _, _, h⟩
  · cases h; rfl
  · cases h
theorem LRep.tup {xs : List NV} (h : LRep F st (.tup xs) p) : ∃ ps, p = .tup ps ∧ VReps F xs ps := by
  rcases h with h | ⟨_, _, _, _, h⟩
  · cases h with | tup r => exact ⟨_, rfl, r⟩
  · cases h
theorem LRep.fro {xs : List NV} (h : LRep F st (.fro xs) p) : ∃ ps, p = .fro ps ∧ VReps F xs ps := by
  rcases h with h | ⟨_, _, _, _, h⟩
  · cases h with | fro r => exact ⟨_, rfl, r⟩
  · cases h
theorem LRep.lst {xs : List NV} (s : Sub F st) (h : LRep F st (.lst xs) p) : ∃ i ps, p = .ref i ∧ st[i]? = some (.lst ps) ∧ VReps F xs ps := by
  rcases h with h | ⟨i, _, rfl, h1, h⟩
  · cases h with | lst q r => exact ⟨_, _, rfl, s _ _ q, r⟩
  · cases h with | lst r => exact ⟨i, _, rfl, h1, r⟩
theorem LRep.dic {xs : List (NV × NV)} (s : Sub F st) (h : LRep F st (.dic xs) p) : ∃ i ps, p = .ref i ∧ st[i]? = some (.dic ps) ∧ VRepd F xs ps := by
  rcases h with h | ⟨i, _, rfl, h1, h⟩
  · cases h with | dic q r => exact ⟨_, _, rfl, s _ _ q, r⟩
  · cases h with | dic r => exact ⟨i, _, rfl, h1, r⟩
theorem LRep.dct {xs : List (NV × NV)} (s : Sub F st) (h : LRep F st (.dct xs) p) : ∃ i ps, p = .ref i ∧ dctR st i = some ps ∧ VRepd F xs ps := by
  rcases h with h | ⟨i, _, rfl, h1, h⟩
  · cases h with
    | dct q r => exact ⟨_, _, rfl, by unfold dctR; rw [s _ _ q], r⟩
    | fdc q r => exact ⟨_, _, rfl, by unfold dctR; rw [s _ _ q], r⟩
  · cases h with | dct r => exact ⟨i, _, rfl, by unfold dctR; rw [h1], r⟩
theorem LRep.set {xs : List NV} (s : Sub F st) (h : LRep F st (.set xs) p) : ∃ i ps, p = .ref i ∧ st[i]? = some (.set ps) ∧ VReps F xs ps := by
  rcases h with h | ⟨i, _, rfl, h1, h⟩
  · cases h with | set q r => exact ⟨_, _, rfl, s _ _ q, r⟩
  · cases h with | set r => exact ⟨i, _, rfl, h1, r⟩
theorem LRep.v {v : NV} (h : VRep F v p) : LRep F st v p := .inl h
theorem OpRes.im {v : NV} {r : PV} (h : VRep F v r) : OpRes F st (.im v) r st := .inl ⟨v, rfl, rfl, h⟩
theorem OpRes.fr {v : NV} {o : PO} (h : ORep F v o) : OpRes F st (.fr v) (.ref st.length) (st ++ [o]) := .inr ⟨v, o, rfl, rfl, rfl, h⟩
end
def voAdd : VO2 := fun x y => match x, y with
  | .int i, .int j => some (.im (.int (i + j)))
  | .str i, .str j => if i.length + j.length ≤ LINE then some (.im (.str (i ++ j))) else none
  | .tup i, .tup j => if i.length + j.length ≤ LINE then some (.im (.tup (i ++ j))) else none
  | .lst i, .lst j => if i.length + j.length ≤ LINE then some (.fr (.lst (i ++ j))) else none
  | _, _ => none
theorem ov_add : OpV opAdd voAdd := fun F st a b p q s ha hb ev h => by
  unfold voAdd at h
  split at h
  · cases ha.int; cases hb.int; cases h; exact ⟨_, _, rfl, .im (.int _)⟩
  · cases ha.str; cases hb.str
    split at h
    · rename_i hl; cases h; exact ⟨_, _, if_pos hl, .im (.str _)⟩
    · cases h
  · obtain ⟨ps, rfl, r1⟩ := ha.tup
    obtain ⟨qs, rfl, r2⟩ := hb.tup
    split at h
    · rename_i hl; cases h; exact ⟨_, _, if_pos (by rw [← r1.length, ← r2.length]; exact hl), .im (.tup (r1.append r2))⟩
    · cases h
  · obtain ⟨i, ps, rfl, h1, r1⟩ := ha.lst s
    obtain ⟨j, qs, rfl, h2, r2⟩ := hb.lst s
    split at h
    · rename_i hl; cases h
      exact ⟨_, _, by simp only [opAdd, h1, h2]; exact if_pos (by rw [← r1.length, ← r2.length]; exact hl), .fr (.lst (r1.append r2))⟩
    · cases h
  · cases h
def voMul : VO2 := fun x y => match x, y with
  | .int i, .int j => if mulOk i j then some (.im (.int (i * j))) else none
  | .lst xs, .int k => if 0 ≤ k ∧ k ≤ 16777216 ∧ xs.length * k.toNat ≤ LINE then some (.fr (.lst (List.replicate k.toNat xs).flatten)) else none
  | _, _ => none
theorem ov_mul : OpV opMulA voMul := fun F st a b p q s ha hb ev h => by
  unfold voMul at h
  split at h
  · cases ha.int; cases hb.int
    split at h
    · rename_i hl; cases h; exact ⟨_, _, if_pos hl, .im (.int _)⟩
    · cases h
  · obtain ⟨i, ps, rfl, h1, r1⟩ := ha.lst s
    cases hb.int
    split at h
    · rename_i hl; cases h
      exact ⟨_, _, by simp only [opMulA, h1]; exact if_pos (by rw [← r1.length]; exact hl), .fr (.lst (r1.rep _))⟩
    · cases h
  · cases h
def voFdiv : VO2 := fun x y => match x, y with
  | .int i, .int j => if 0 < j ∧ j.natAbs.log2 < 9000 then some (.im (.int (i / j))) else none
  | _, _ => none
theorem ov_fdiv : OpV opFdiv voFdiv := fun F st a b p q s ha hb ev h => by
  unfold voFdiv at h
  split at h
  · cases ha.int; cases hb.int
    split at h
    · rename_i hl; cases h; exact ⟨_, _, if_pos hl, .im (.int _)⟩
    · cases h
  · cases h
def voMod : VO2 := fun x y => match x, y with
  | .int i, .int j => if 0 < j then some (.im (.int (i % j))) else none
  | _, _ => none
theorem ov_mod : OpV opMod voMod := fun F st a b p q s ha hb ev h => by
  unfold voMod at h
  split at h
  · cases ha.int; cases hb.int
    split at h
    · rename_i hl; cases h; exact ⟨_, _, if_pos hl, .im (.int _)⟩
    · cases h
  · cases h
def voPow : VO2 := fun x y => match x, y with
  | .int i, .int j => if 0 ≤ j ∧ (Builtin.Int.intBits i : Int) * j ≤ 2 ^ 27 then some (.im (.int (i ^ j.toNat))) else none
  | _, _ => none
theorem ov_pow : OpV opPow voPow := fun F st a b p q s ha hb ev h => by
  unfold voPow at h
  split at h
  · cases ha.int; cases hb.int
    split at h
    · rename_i hl; cases h; exact ⟨_, _, if_pos hl, .im (.int _)⟩
    · cases h
  · cases h
def voLt : VO2 := fun x y => match x, y with
  | .int i, .int j => some (.im (.bl (decide (i < j))))
  | .str i, .str j => some (.im (.bl (decide (i.cps.toList < j.cps.toList))))
  | _, _ => none
theorem ov_lt : OpV opLt voLt := fun F st a b p q s ha hb ev h => by
  unfold voLt at h
  split at h
  · cases ha.int; cases hb.int; cases h; exact ⟨_, _, rfl, .im (.bl _)⟩
  · cases ha.str; cases hb.str; cases h; exact ⟨_, _, rfl, .im (.bl _)⟩
  · cases h
def voGt : VO2 := fun x y => match x, y with
  | .int i, .int j => some (.im (.bl (decide (j < i))))
  | _, _ => none
theorem ov_gt : OpV opGt voGt := fun F st a b p q s ha hb ev h => by
  unfold voGt at h
  split at h
  · cases ha.int; cases hb.int; cases h; exact ⟨_, _, rfl, .im (.bl _)⟩
  · cases h
def voGe : VO2 := fun x y => match x, y with
  | .int i, .int j => some (.im (.bl (decide (j ≤ i))))
  | _, _ => none
theorem ov_ge : OpV opGe voGe := fun F st a b p q s ha hb ev h => by
  unfold voGe at h
  split at h
  · cases ha.int; cases hb.int; cases h; exact ⟨_, _, rfl, .im (.bl _)⟩
  · cases h
def voIsN : VO2 := fun x y => match y with
  | .non => some (.im (.bl (decide (x = .non))))
  | _ => none
def voNotN : VO2 := fun x y => match y with
  | .non => some (.im (.bl (!decide (x = .non))))
  | _ => none
def vuNeg : NV → Option EV
  | .int i => some (.im (.int (-i)))
  | _ => none
theorem uv_neg : UnV unNeg vuNeg := fun F st a p s ha ev h => by
  unfold vuNeg at h
  split at h
  · cases ha.int; cases h; exact ⟨_, _, rfl, .im (.int _)⟩
  · cases h
mutual
def vdat : NV → Option PyData
  | .non => some .none
  | .bl b => some (.bool b)
  | .int i => some (.int i)
  | .str x => some (.str x)
  | .tup xs => (vdats xs).map .tuple
  | .fro xs => (vdats xs).map .list
  | .lst xs => (vdats xs).map .list
  | _ => none
def vdats : List NV → Option (List PyData)
  | [] => some []
  | x :: xs => match vdat x, vdats xs with
    | some d, some ds => some (d :: ds)
    | _, _ => none
end
mutual
theorem dat_rep {F : FF} {st : Store} (s : Sub F st) : ∀ {v : NV} {p : PV} {d : PyData} (f : Nat), VRep F v p → vdat v = some d → d.depth ≤ f → datF (datR st f) p = some d
  | _, _, _, f, .non, h, _ => by simpa [vdat, datF] using h
  | _, _, _, f, .bl _, h, _ => by simpa [vdat, datF] using h
  | _, _, _, f, .int _, h, _ => by simpa [vdat, datF] using h
  | _, _, _, f, .str _, h, _ => by simpa [vdat, datF] using h
  | _, _, _, f, .ty _, h, _ => by simp [vdat] at h
  | _, _, _, f, .glb _, h, _ => by simp [vdat] at h
  | _, _, _, f, .tup r, h, hd => by
    simp only [vdat, Option.map_eq_some_iff] at h
    obtain ⟨ds, h, rfl⟩ := h
    simp only [datF, dats_rep s f r h (by simp only [PyData.depth] at hd; omega), Option.map_some]
  | _, _, _, f, .fro r, h, hd => by
    simp only [vdat, Option.map_eq_some_iff] at h
    obtain ⟨ds, h, rfl⟩ := h
    simp only [datF, dats_rep s f r h (by simp only [PyData.depth] at hd; omega), Option.map_some]
  | _, _, _, f, .lst q r, h, hd => by
    simp only [vdat, Option.map_eq_some_iff] at h
    obtain ⟨ds, h, rfl⟩ := h
    simp only [PyData.depth] at hd
    cases f with
    | zero => omega
    | succ f => simp only [datF, datR, s _ _ q, dats_rep s f r h (by omega), Option.map_some]
  | _, _, _, f, .dic _ _, h, _ => by simp [vdat] at h
  | _, _, _, f, .dct _ _, h, _ => by simp [vdat] at h
  | _, _, _, f, .fdc _ _, h, _ => by simp [vdat] at h
  | _, _, _, f, .exn _ _, h, _ => by simp [vdat] at h
  | _, _, _, f, .tab _, h, _ => by simp [vdat] at h
  | _, _, _, f, .bex _, h, _ => by simp [vdat] at h
  | _, _, _, f, .set _ _, h, _ => by simp [vdat] at h
theorem dats_rep {F : FF} {st : Store} (s : Sub F st) : ∀ {v : List NV} {p : List PV} {d : List PyData} (f : Nat), VReps F v p → vdats v = some d → PyData.depthAll d ≤ f → datFs (datR st f) p = some d
  | _, _, _, f, .nil, h, _ => by simpa [vdats, datFs] using h
  | _, _, _, f, .cons a r, h, hd => by
    simp only [vdats] at h
    split at h
    · rename_i d ds h1 h2
      cases h
      simp only [PyData.depthAll] at hd
      simp only [datFs, dat_rep s f a h1 (by omega), dats_rep s f r h2 (by omega)]
    · cases h
end
theorem dat_of {F : FF} {st : Store} (s : Sub F st) {v : NV} {p : PV} {d : PyData} (h : LRep F st v p) (hv : vdat v = some d) (hd : d.depth ≤ 64) : dat st p = some d := by
  rcases h with h | ⟨i, o, rfl, h1, h2⟩
  · exact dat_rep s 64 h hv hd
  · cases h2 with
    | lst r =>
      simp only [vdat, Option.map_eq_some_iff] at hv
      obtain ⟨ds, hv, rfl⟩ := hv
      simp only [PyData.depth] at hd
      have e : dat st (.ref i) = datR st (63 + 1) i := rfl
      rw [e]
      unfold datR
      simp only [h1]
      rw [dats_rep s 63 r hv (by omega)]; rfl
    | dic r => simp [vdat] at hv
    | set r => simp [vdat] at hv
    | dct r => simp [vdat] at hv
def veqD (x y : NV) : Option Bool := match vdat x, vdat y with
  | some d, some e => if SeqAt.shaped d && SeqAt.shaped e then some (PyData.eqv d e) else none
  | _, _ => none
def veq (x y : NV) : Option Bool := match x, y with
  | .int a, .int b => some (decide (a = b))
  | .str a, .str b => some (decide (a = b))
  | .bl a, .bl b => some (decide (a = b))
  | .non, .non => some true
  | .non, .int _ => some false
  | .int _, .non => some false
  | .non, .str _ => some false
  | .str _, .non => some false
  | .int _, .str _ => some false
  | .str _, .int _ => some false
  | x, y => veqD x y
theorem veqD_rep {F : FF} {st : Store} (s : Sub F st) {x y : NV} {p q : PV} {b : Bool} (hx : LRep F st x p) (hy : LRep F st y q) (h : veqD x y = some b) : eqD st p q = some b := by
  unfold veqD at h
  split at h
  · rename_i d e h1 h2
    split at h
    · rename_i hs
      simp only [Bool.and_eq_true] at hs
      unfold eqD
      rw [dat_of s hx h1 (SeqAt.depth_of_shaped hs.1), dat_of s hy h2 (SeqAt.depth_of_shaped hs.2)]
      simp only [hs.1, hs.2, Bool.and_self, if_true]; exact h
    · cases h
  · cases h
theorem veq_rep {F : FF} {st : Store} (s : Sub F st) {x y : NV} {p q : PV} {b : Bool} (hx : LRep F st x p) (hy : LRep F st y q) (h : veq x y = some b) : eqP st p q = some b := by
  unfold veq at h
  split at h
  · cases hx.int; cases hy.int; exact h
  · cases hx.str; cases hy.str; exact h
  · cases hx.bool; cases hy.bool; exact h
  · cases hx.non; cases hy.non; exact h
  · cases hx.non; cases hy.int; exact h
  · cases hx.int; cases hy.non; exact h
  · cases hx.non; cases hy.str; exact h
  · cases hx.str; cases hy.non; exact h
  · cases hx.int; cases hy.str; exact h
  · cases hx.str; cases hy.int; exact h
  · rename_i n1 n2 n3 n4 n5 n6 n7 n8 n9 n10
    have := veqD_rep s hx hy h
    unfold eqP
    cases p <;> cases q <;> first
      | exact this
      | exact (n1 _ _ (inv_int hx) (inv_int hy)).elim
      | exact (n2 _ _ (inv_str hx) (inv_str hy)).elim
      | exact (n3 _ _ (inv_bl hx) (inv_bl hy)).elim
      | exact (n4 (inv_non hx) (inv_non hy)).elim
      | exact (n5 _ (inv_non hx) (inv_int hy)).elim
      | exact (n6 _ (inv_int hx) (inv_non hy)).elim
      | exact (n7 _ (inv_non hx) (inv_str hy)).elim
      | exact (n8 _ (inv_str hx) (inv_non hy)).elim
      | exact (n9 _ _ (inv_int hx) (inv_str hy)).elim
      | exact (n10 _ _ (inv_str hx) (inv_int hy)).elim
where
  inv_int {x : NV} {i : Int} (h : LRep F st x (.int i)) : x = .int i := by
    rcases h with h | ⟨_, _, h, _, _⟩
    · cases h; rfl
    · cases h
  inv_str {x : NV} {i : Str} (h : LRep F st x (.str i)) : x = .str i := by
    rcases h with h | ⟨_, _, h, _, _⟩
    · cases h; rfl
    · cases h
  inv_bl {x : NV} {i : Bool} (h : LRep F st x (.bl i)) : x = .bl i := by
    rcases h with h | ⟨_, _, h, _, _⟩
    · cases h; rfl
    · cases h
  inv_non {x : NV} (h : LRep F st x .non) : x = .non := by
    rcases h with h | ⟨_, _, h, _, _⟩
    · cases h; rfl
    · cases h
def voEq : VO2 := fun x y => (veq x y).map fun b => .im (.bl b)
theorem ov_eq : OpV opEq voEq := fun F st a b p q s ha hb ev h => by
  simp only [voEq, Option.map_eq_some_iff] at h
  obtain ⟨c, h, rfl⟩ := h
  exact ⟨_, _, by unfold opEq; rw [veq_rep s ha hb h], .im (.bl _)⟩
def voNe : VO2 := fun x y => (veq x y).map fun b => .im (.bl (!b))
theorem ov_ne : OpV opNe voNe := fun F st a b p q s ha hb ev h => by
  simp only [voNe, Option.map_eq_some_iff] at h
  obtain ⟨c, h, rfl⟩ := h
  exact ⟨_, _, by unfold opNe; rw [veq_rep s ha hb h], .im (.bl _)⟩
def vflat : NV → Bool
  | .non => true
  | .bl _ => true
  | .int _ => true
  | .str _ => true
  | _ => false
def veqF : NV → NV → Bool
  | .non, .non => true
  | .bl a, .bl b => a == b
  | .bl a, .int b => (if a then 1 else 0) == b
  | .int a, .bl b => a == (if b then 1 else 0)
  | .int a, .int b => a == b
  | .str a, .str b => a == b
  | _, _ => false
def vdGet (kvs : List (NV × NV)) (k : NV) : Option NV := (kvs.find? fun q => decide (q.1 = k)).map (·.2)
theorem dget_rep {F : FF} {k : NV} {p : PV} (h : VRep F k p) (hk : vkeyOk k = true) : ∀ {xs : List (NV × NV)} {ps : List (PV × PV)}, VRepd F xs ps → (vdGet xs k = none ∧ dGet ps p = none) ∨ ∃ v q, vdGet xs k = some v ∧ dGet ps p = some q ∧ VRep F v q
  | _, _, .nil => .inl ⟨rfl, rfl⟩
  | (k2, v2) :: _, (p2, q2) :: _, .cons a b r => by
    by_cases e : k2 = k
    · exact .inr ⟨v2, q2, by simp [vdGet, e], by simp [dGet, (key_eq h a hk).mp e], b⟩
    · have e2 : p2 ≠ p := fun z => e ((key_eq h a hk).mpr z)
      rcases dget_rep h hk r with ⟨h1, h2⟩ | ⟨v, q, h1, h2, h3⟩
      · exact .inl ⟨by simpa [vdGet, e] using h1, by simpa [dGet, e2] using h2⟩
      · exact .inr ⟨v, q, by simpa [vdGet, e] using h1, by simpa [dGet, e2] using h2, h3⟩
theorem key_L {F : FF} {st : Store} {v : NV} {p : PV} (h : LRep F st v p) (q : vkeyOk v = true) : VRep F v p := by
  rcases h with h | ⟨_, _, _, _, h⟩
  · exact h
  · cases h <;> simp [vkeyOk] at q
def vin (x y : NV) : Option Bool := match y with
  | .tup xs => if vflat x && xs.all vflat then some (xs.any fun z => veqF z x) else none
  | .fro xs => if vflat x && xs.all vflat then some (xs.any fun z => veqF z x) else none
  | .lst xs => if vflat x && xs.all vflat then some (xs.any fun z => veqF z x) else none
  | .str t => match x with
    | .str s => match s.cps.toList with
      | [c] => some (decide (c ∈ t.cps.toList))
      | _ => none
    | _ => none
  | .dic kvs => if vkeyOk x then some (vdGet kvs x).isSome else none
  | .set xs => if vkeyOk x then some (decide (x ∈ xs)) else none
  | _ => none
def voIn : VO2 := fun x y => (vin x y).map fun b => .im (.bl b)
def voNotIn : VO2 := fun x y => (vin x y).map fun b => .im (.bl (!b))
def vix (xs : List NV) (i : Int) : Option NV := (ixP xs.length i).bind fun j => xs[j]?
def voIx : VO2 := fun x y => match x with
  | .dic kvs => if vkeyOk y then (vdGet kvs y).map .im else none
  | .str s => match y with
    | .int i => if s.length ≤ LINE then (ixP s.cps.toList.length i).bind fun j => s.cps.toList[j]?.map fun c => .im (.str ⟨#[c]⟩) else none
    | _ => none
  | .tup xs => match y with
    | .int i => (vix xs i).map .im
    | _ => none
  | .fro xs => match y with
    | .int i => (vix xs i).map .im
    | _ => none
  | .lst xs => match y with
    | .int i => (vix xs i).map .im
    | _ => none
  | _ => none
theorem ix_rep {F : FF} {st : Store} {xs : List NV} {ps : List PV} {i : Int} {v : NV} (r : VReps F xs ps) (h : vix xs i = some v) : ∃ j q, ixP ps.length i = some j ∧ ps[j]? = some q ∧ VRep F v q := by
  simp only [vix, Option.bind_eq_some_iff] at h
  obtain ⟨j, h1, h2⟩ := h
  obtain ⟨q, h3, h4⟩ := r.get h2
  exact ⟨j, q, by rw [← r.length]; exact h1, h3, h4⟩
theorem ov_ix : OpV opIxA voIx := fun F st a b p q s ha hb ev h => by
  unfold voIx at h
  split at h
  · obtain ⟨i, ps, rfl, h1, r⟩ := ha.dic s
    split at h
    · rename_i hk
      have vx := key_L hb hk
      have ko : keyB q = true := key_ok vx hk
      simp only [Option.map_eq_some_iff] at h
      obtain ⟨v, h, rfl⟩ := h
      rcases dget_rep vx hk r with ⟨h2, h3⟩ | ⟨w, z, h2, h3, h4⟩
      · rw [h2] at h; cases h
      · rw [h2] at h; cases h
        exact ⟨z, st, by simp [opIxA, isDic, h1, opDGet, ko, h3], .im h4⟩
    · cases h
  · cases ha.str
    split at h
    · cases hb.int
      split at h
      · rename_i hl
        simp only [Option.bind_eq_some_iff, Option.map_eq_some_iff] at h
        obtain ⟨j, h1, c, h2, rfl⟩ := h
        exact ⟨_, st, by unfold opIxA; simp only [isDic, opIx, Bool.false_eq_true, if_false]; rw [if_pos hl, h1]; simp only [h2], .im (.str _)⟩
      · cases h
    · cases h
  · obtain ⟨ps, rfl, r⟩ := ha.tup
    split at h
    · cases hb.int
      simp only [Option.map_eq_some_iff] at h
      obtain ⟨v, h, rfl⟩ := h
      obtain ⟨j, z, h1, h2, h3⟩ := ix_rep (st := st) r h
      exact ⟨z, st, by simp [opIxA, isDic, opIx, seqP, h1, h2], .im h3⟩
    · cases h
  · obtain ⟨ps, rfl, r⟩ := ha.fro
    split at h
    · cases hb.int
      simp only [Option.map_eq_some_iff] at h
      obtain ⟨v, h, rfl⟩ := h
      obtain ⟨j, z, h1, h2, h3⟩ := ix_rep (st := st) r h
      exact ⟨z, st, by simp [opIxA, isDic, opIx, seqP, h1, h2], .im h3⟩
    · cases h
  · obtain ⟨i, ps, rfl, h0, r⟩ := ha.lst s
    split at h
    · cases hb.int
      simp only [Option.map_eq_some_iff] at h
      obtain ⟨v, h, rfl⟩ := h
      obtain ⟨j, z, h1, h2, h3⟩ := ix_rep (st := st) r h
      exact ⟨z, st, by simp [opIxA, isDic, h0, opIx, seqP, h1, h2], .im h3⟩
    · cases h
  · cases h
/-- slices -/
abbrev VOp := Env → R EE (Option Int × Env)
def vEnd (a : VE) : VOp := fun env => a env >>= fun x => ofO ((x.1.get x.2).bind isInt) >>= fun i => .ok (some i, x.2)
def vNoEnd : VOp := fun env => .ok (none, env)
def vsl (x : NV) (lo hi : Option Int) : Option EV := match x with
  | .tup xs => some (.im (.tup (cutP xs lo hi)))
  | .str s => if s.length ≤ LINE then some (.im (.str ⟨(cutP s.cps.toList lo hi).toArray⟩)) else none
  | .lst xs => some (.fr (.lst (cutP xs lo hi)))
  | _ => none
def vSl (a : VE) (lo hi : VOp) : VE := fun env => a env >>= fun x => lo x.2 >>= fun l => hi l.2 >>= fun h => ofO ((x.1.get h.2).bind fun u => vsl u l.1 h.1) >>= fun z => .ok (z, h.2)
/-- o[i] = v -/
def vset (u j v : NV) : Option NV := match u with
  | .lst xs => match j with
    | .int k => (ixP xs.length k).map fun i => .lst (xs.set i v)
    | _ => none
  | .dic kvs => if vkeyOk j = true ∧ kvs.length < LINE then some (.dic (vdPut kvs j v)) else none
  | _ => none
theorem sv_set : SubV vset := fun F st i o u j q v w s hi ho hj hv u' h => by
  unfold vset at h
  split at h
  · cases ho with
    | lst r =>
      split at h
      · cases hj.int
        simp only [Option.map_eq_some_iff] at h
        obtain ⟨k, h1, rfl⟩ := h
        exact ⟨_, by simp only [setP, hi]; rw [← r.length, h1], .lst (r.setI hv k)⟩
      · cases h
  · cases ho with
    | dic r =>
      split at h
      · rename_i hc
        cases h
        have vk := key_L hj hc.1
        exact ⟨_, by simp only [setP, hi]; exact if_pos (by rw [Bool.and_eq_true]; exact ⟨key_ok vk hc.1, decide_eq_true (by rw [← r.length]; exact hc.2)⟩), .dic (VRepd.put vk hv hc.1 r)⟩
      · cases h
  · cases h
section
variable {F : FF} {st : Store}
theorem LReps.one {v : NV} {ps : List PV} (h : LReps F st [v] ps) : ∃ p, ps = [p] ∧ LRep F st v p := by
  cases h with
  | cons a b => cases b; exact ⟨_, rfl, a⟩
theorem LReps.two {v w : NV} {ps : List PV} (h : LReps F st [v, w] ps) : ∃ p q, ps = [p, q] ∧ LRep F st v p ∧ LRep F st w q := by
  cases h with
  | cons a b => obtain ⟨q, rfl, c⟩ := b.one; exact ⟨_, _, rfl, a, c⟩
end
def vfLen : List NV → Option EV
  | [.str s] => if s.length ≤ LINE then some (.im (.int s.length)) else none
  | [.lst xs] => some (.im (.int xs.length))
  | [.dic xs] => some (.im (.int xs.length))
  | [.tup xs] => some (.im (.int xs.length))
  | [.fro xs] => some (.im (.int xs.length))
  | _ => none
theorem fv_len : FnV fnLen vfLen := fun F st vs ps s h ev q => by
  unfold vfLen at q
  split at q
  · obtain ⟨p, rfl, h'⟩ := h.one; have h := h'
    cases h.str
    split at q
    · rename_i hl; cases q; exact ⟨_, _, if_pos hl, .im (.int _)⟩
    · cases q
  · obtain ⟨p, rfl, h'⟩ := h.one; have h := h'
    obtain ⟨i, ps, rfl, h1, r⟩ := h.lst s
    cases q
    exact ⟨.int ps.length, st, by simp only [fnLen, h1], .im (by rw [r.length]; exact .int _)⟩
  · obtain ⟨p, rfl, h'⟩ := h.one; have h := h'
    obtain ⟨i, ps, rfl, h1, r⟩ := h.dic s
    cases q
    exact ⟨.int ps.length, st, by simp only [fnLen, h1], .im (by rw [r.length]; exact .int _)⟩
  · obtain ⟨p, rfl, h'⟩ := h.one; have h := h'
    obtain ⟨ps, rfl, r⟩ := h.tup
    cases q
    exact ⟨_, _, rfl, .im (by rw [r.length]; exact .int _)⟩
  · obtain ⟨p, rfl, h'⟩ := h.one; have h := h'
    obtain ⟨ps, rfl, r⟩ := h.fro
    cases q
    exact ⟨_, _, rfl, .im (by rw [r.length]; exact .int _)⟩
  · cases q
def vtyName : NV → Option String
  | .non => some "NoneType"
  | .bl _ => some "bool"
  | .int _ => some "int"
  | .str _ => some "str"
  | .tup _ => some "tuple"
  | .fro _ => some "list"
  | .lst _ => some "list"
  | .dic _ => some "dict"
  | _ => none
def vfIsi : List NV → Option EV
  | [x, .ty b] => (vtyName x).bind fun a => if b ∈ clsNames then some (.im (.bl (isSub a b))) else none
  | _ => none
def vfAbs : List NV → Option EV
  | [.int i] => some (.im (.int (if i < 0 then -i else i)))
  | _ => none
theorem fv_abs : FnV fnAbs vfAbs := fun F st vs ps s h ev q => by
  unfold vfAbs at q
  split at q
  · obtain ⟨p, rfl, h'⟩ := h.one; have h := h'
    cases h.int; cases q
    exact ⟨_, _, rfl, .im (.int _)⟩
  · cases q
def vfMin2 : List NV → Option EV
  | [.int i, .int j] => some (.im (.int (if j < i then j else i)))
  | _ => none
theorem fv_min2 : FnV fnMin2 vfMin2 := fun F st vs ps s h ev q => by
  unfold vfMin2 at q
  split at q
  · obtain ⟨p, p2, rfl, h', h2⟩ := h.two; have h := h'
    cases h.int; cases h2.int; cases q
    exact ⟨_, _, rfl, .im (.int _)⟩
  · cases q
def vfMax2 : List NV → Option EV
  | [.int i, .int j] => some (.im (.int (if j > i then j else i)))
  | _ => none
theorem fv_max2 : FnV fnMax2 vfMax2 := fun F st vs ps s h ev q => by
  unfold vfMax2 at q
  split at q
  · obtain ⟨p, p2, rfl, h', h2⟩ := h.two; have h := h'
    cases h.int; cases h2.int; cases q
    exact ⟨_, _, rfl, .im (.int _)⟩
  · cases q
def vfInt : List NV → Option EV
  | [.int i] => some (.im (.int i))
  | [.bl k] => some (.im (.int (if k then 1 else 0)))
  | _ => none
def vfList : List NV → Option EV
  | [x] => (vseq x).map fun xs => .fr (.lst xs)
  | _ => none
def vfTuple : List NV → Option EV
  | [.tup xs] => some (.im (.tup xs))
  | [.lst xs] => some (.im (.tup xs))
  | _ => none
def vasBls : List NV → Option (List Bool)
  | [] => some []
  | .bl i :: r => (vasBls r).map (i :: ·)
  | _ => none
theorem bls_rep {F : FF} : ∀ {v : List NV} {p : List PV} {ns : List Bool}, VReps F v p → vasBls v = some ns → asBls p = some ns
  | _, _, _, .nil, h => by simpa [vasBls, asBls] using h
  | _, _, _, .cons (.bl i) r, h => by
    simp only [vasBls, Option.map_eq_some_iff] at h
    obtain ⟨ms, h, rfl⟩ := h
    simp only [asBls, bls_rep r h, Option.map_some]
  | _, _, _, .cons .non r, h => by simp [vasBls] at h
  | _, _, _, .cons (.int _) r, h => by simp [vasBls] at h
  | _, _, _, .cons (.str _) r, h => by simp [vasBls] at h
  | _, _, _, .cons (.ty _) r, h => by simp [vasBls] at h
  | _, _, _, .cons (.glb _) r, h => by simp [vasBls] at h
  | _, _, _, .cons (.tup _) r, h => by simp [vasBls] at h
  | _, _, _, .cons (.fro _) r, h => by simp [vasBls] at h
  | _, _, _, .cons (.lst _ _) r, h => by simp [vasBls] at h
  | _, _, _, .cons (.dic _ _) r, h => by simp [vasBls] at h
  | _, _, _, .cons (.dct _ _) r, h => by simp [vasBls] at h
  | _, _, _, .cons (.fdc _ _) r, h => by simp [vasBls] at h
  | _, _, _, .cons (.exn _ _) r, h => by simp [vasBls] at h
  | _, _, _, .cons (.tab _) r, h => by simp [vasBls] at h
  | _, _, _, .cons (.bex _) r, h => by simp [vasBls] at h
  | _, _, _, .cons (.set _ _) r, h => by simp [vasBls] at h
def vlst : NV → Option (List NV)
  | .fro xs => some xs
  | .lst xs => some xs
  | _ => none
theorem lst_rep {F : FF} {st : Store} (s : Sub F st) {v : NV} {p : PV} {xs : List NV} (h : LRep F st v p) (q : vlst v = some xs) : ∃ ps, lstP st p = some ps ∧ VReps F xs ps := by
  unfold vlst at q
  split at q
  · obtain ⟨ps, rfl, r⟩ := h.fro; cases q; exact ⟨ps, rfl, r⟩
  · obtain ⟨i, ps, rfl, h1, r⟩ := h.lst s; cases q; exact ⟨ps, by simp only [lstP, h1], r⟩
  · cases q
def vfAll : List NV → Option EV
  | [x] => (vlst x).bind fun xs => (vasBls xs).map fun bs => .im (.bl (bs.all id))
  | _ => none
theorem fv_all : FnV fnAll vfAll := fun F st vs ps s h ev q => by
  unfold vfAll at q
  split at q
  · obtain ⟨p, rfl, h'⟩ := h.one; have h := h'
    simp only [Option.bind_eq_some_iff, Option.map_eq_some_iff] at q
    obtain ⟨xs, q, bs, q2, rfl⟩ := q
    obtain ⟨ps, h1, r⟩ := lst_rep s h q
    exact ⟨_, _, by simp only [fnAll, h1, Option.bind_some, bls_rep r q2], .im (.bl _)⟩
  · cases q
def vshown (x : NV) : Option Str := (vdat x).bind fun d => if d.showable && !d.hasDict && decide (d.depth ≤ 60) && decide (d.shown.length ≤ LINE) then some d.shown else none
def vfRepr : List NV → Option EV
  | [x] => (vshown x).map fun s => .im (.str s)
  | _ => none
def vmAppend : NV → List NV → Option (NV × NV) := fun u vs => match u, vs with
  | .lst xs, [y] => if xs.length < LINE then some (.non, .lst (xs ++ [y])) else none
  | _, _ => none
def vmExtend : NV → List NV → Option (NV × NV) := fun u vs => match u, vs with
  | .lst xs, [.lst ys] => if xs.length + ys.length ≤ LINE then some (.non, .lst (xs ++ ys)) else none
  | _, _ => none
end Vg
set_option Elab.async false
set_option linter.all false
set_option maxRecDepth 100000
set_option maxHeartbeats 4000000
namespace Sg
open PySem PySem.Spec PyProof.Rows L2
end Sg
set_option Elab.async false
set_option linter.all false
set_option maxRecDepth 100000
set_option maxHeartbeats 4000000
namespace Sg
open PySem PySem.Spec PyProof.Rows L2
def fnLenA : Fn := fun vs st => match vs with
  | [.ref i] => match st[i]? with
    | some (.set xs) => if xs.length < 4096 then .ok (.int xs.length, st) else .stuck
    | _ => fnLen [.ref i] st
  | vs => fnLen vs st
theorem cd_lenA {X : Cx} : CallR X (.builtin "len") (rCOf X fnLenA) := by
  intro pins s σ H xs us Q I r ⟨ad, st, ps, R, Vs, h⟩
  by_cases hp : ∃ i ys, ps = [.ref i] ∧ st[i]? = some (.set ys)
  · obtain ⟨i, ys, rfl, hy⟩ := hp
    obtain ⟨v, e, rv⟩ := Vs.one
    subst e
    simp only [fnLenA, hy] at h
    split at h
    · rename_i hl
      cases rv with
      | ref ha =>
        rename_i a
        obtain ⟨S, ks, q1, q2, q3, q4⟩ := R.obj _ _ _ hy ha
        rw [Vals.ref1 r]
        obtain ⟨o, es, ep, t, ho, hex, hd, _, _, hb, hf, hn⟩ := setK_get I q1
        refine call_len_set ho hex hd hf (by rw [hn]; omega) ?_
        exact ⟨.int ys.length, H, I.tok _, ⟨_, by rw [hn]⟩, rdOk h R (.int _)⟩
    · exact h.elim
  · refine cd_len pins s σ H xs us Q I r ⟨ad, st, ps, R, Vs, ?_⟩
    have e : fnLenA ps st = fnLen ps st := by
      unfold fnLenA
      split
      · rename_i i
        split
        · rename_i ys hy; exact absurd ⟨i, ys, rfl, hy⟩ hp
        · rfl
      · rfl
    rw [e] at h; exact h
/-- each parameter from the values by position (false) or by name (true) -/
def selG {α : Type} (d : α) (sel : List (Bool × Nat)) (us ws : List α) : List α := sel.map fun p => if p.1 then ws.getD p.2 d else us.getD p.2 d
end Sg
namespace Vg
open PySem Sg
def vfLenA : List NV → Option EV
  | [.set xs] => if xs.length < 4096 then some (.im (.int xs.length)) else none
  | vs => vfLen vs
theorem fv_lenA : FnV fnLenA vfLenA := fun F st vs ps s h ev q => by
  unfold vfLenA at q
  split at q
  · obtain ⟨p, rfl, h'⟩ := h.one; have h := h'
    obtain ⟨i, ps, rfl, h1, r⟩ := h.set s
    split at q
    · rename_i hc; cases q
      exact ⟨.int ps.length, st, by simp only [fnLenA, h1]; exact if_pos (by rw [← r.length]; exact hc), .im (by rw [r.length]; exact .int _)⟩
    · cases q
  · rename_i hne
    obtain ⟨r, st', e, k⟩ := fv_len F st vs ps s h ev q
    have e2 : fnLenA ps st = fnLen ps st := by
      unfold fnLenA
      split
      · rename_i i
        split
        · rename_i ys hy
          exfalso
          simp only [fnLen, hy] at e
          cases e
        · rfl
      · rfl
    exact ⟨r, st', by rw [e2]; exact e, k⟩
def vKw (n m : Nat) (sel : List (Bool × Nat)) (a b : VA) : VA := fun env => a env >>= fun xs => b xs.2 >>= fun ys => grd (xs.1.length = n ∧ ys.1.length = m) (.ok (selG (.im .non) sel xs.1 ys.1, ys.2))
end Vg
set_option Elab.async false
set_option linter.all false
set_option maxRecDepth 100000
set_option maxHeartbeats 4000000
namespace Sg
open PySem PySem.Spec PyProof.Rows L2
end Sg
namespace Vg
open PySem Sg
def vRev : NV → Option EV
  | .tup xs => some (.im (.tup xs.reverse))
  | .lst xs => some (.fr (.lst xs.reverse))
  | _ => none
abbrev VP := Env → R EE (List (NV × NV) × Env)
def vpNil : VP := fun env => .ok ([], env)
def vpCons (k v : VE) (r : VP) : VP := fun env => k env >>= fun x => ofO (frz x.1 x.2) >>= fun x => v x.2 >>= fun y => ofO (frz y.1 y.2) >>= fun y => r y.2 >>= fun z => .ok ((x.1, y.1) :: z.1, z.2)
def vDisp (p : VP) : VE := fun env => p env >>= fun x => grd ((x.1.all fun q => vkeyOk q.1) = true ∧ x.1.length ≤ 15) (.ok (.fr (.dic (x.1.foldl (fun acc q => vdPut acc q.1 q.2) [])), x.2))
def RP (m : EvP) (n : VP) : Prop := ∀ F env σ st, RR F env σ st → ∀ kvs env', n env = .ok (kvs, env') → ∃ ps st' F', m σ st = .ok (ps, st') ∧ Go F env σ st F' env' σ st' ∧ VRepd F' kvs ps
theorem rp_nil : RP pNil vpNil := fun F env σ st r kvs env' h => by
  cases h
  exact ⟨[], st, F, rfl, .refl r, .nil⟩
theorem rp_cons {k v : EvE} {r : EvP} {k' v' : VE} {r' : VP} (hk : RE k k') (hv : RE v v') (hr : RP r r') : RP (pCons k v r) (vpCons k' v' r') := fun F env σ st rr kvs env' h => by
  simp only [vpCons, R.bind_ok, ofO_ok] at h
  obtain ⟨⟨x, env1⟩, h1, ⟨x1, env2⟩, h2, ⟨y, env3⟩, h3, ⟨y1, env4⟩, h4, ⟨z, env5⟩, h5, h6⟩ := h
  cases h6
  obtain ⟨p, st1, F1, e1, G1, v1⟩ := hk F env σ st rr x env1 h1
  obtain ⟨F2, G2, v2, _⟩ := frz_one G1 v1 h2
  obtain ⟨q, st3, F3, e3, G3, v3⟩ := hv F2 env2 σ st1 G2.rr y env3 h3
  have G23 := G2.trans G3
  obtain ⟨F4, G4, v4, x4, _⟩ := frz_one G23 (v3.le G2.le) h4
  obtain ⟨ps, st5, F5, e5, G5, v5⟩ := hr F4 env4 σ st3 G4.rr z env5 h5
  refine ⟨(p, q) :: ps, st5, F5, ?_, G4.trans G5, .cons (((v2.mono G3.ext).mono x4).mono G5.ext) (v4.mono G5.ext) v5⟩
  unfold pCons
  rw [e1]; simp only [bind_ok]; rw [e3]; simp only [bind_ok]; rw [e5]; rfl
theorem VRepd.keyOks {F : FF} : ∀ {v : List (NV × NV)} {p : List (PV × PV)}, VRepd F v p → (v.all fun q => vkeyOk q.1) = true → (p.all fun q => Sg.keyOk q.1) = true
  | _, _, .nil, _ => rfl
  | _, _, .cons a _ r, q => by
    simp only [List.all_cons, Bool.and_eq_true] at *
    exact ⟨key_ok a q.1, VRepd.keyOks r q.2⟩
theorem VRepd.fold {F : FF} : ∀ {v : List (NV × NV)} {p : List (PV × PV)} {acc : List (NV × NV)} {accp : List (PV × PV)}, VRepd F v p → (v.all fun q => vkeyOk q.1) = true → VRepd F acc accp → VRepd F (v.foldl (fun acc q => vdPut acc q.1 q.2) acc) (p.foldl (fun acc q => Sg.dictPut acc q.1 q.2) accp)
  | _, _, _, _, .nil, _, h => h
  | _, _, _, _, .cons a b r, q, h => by
    simp only [List.all_cons, Bool.and_eq_true] at q
    simp only [List.foldl_cons]
    exact VRepd.fold r q.2 (VRepd.put a b q.1 h)
theorem re_disp {p : EvP} {p' : VP} (hp : RP p p') : RE (eDisp p) (vDisp p') := fun F env σ st r ev env' h => by
  simp only [vDisp, R.bind_ok, grd_ok] at h
  obtain ⟨⟨kvs, env1⟩, h1, ⟨h2, h3⟩, h4⟩ := h
  cases h4
  obtain ⟨ps, st1, F1, e1, G1, v1⟩ := hp F env σ st r kvs env1 h1
  obtain ⟨G2, v2⟩ := G1.rr.new (.dic (VRepd.fold v1 h2 .nil))
  refine ⟨_, _, F1, ?_, G1.trans G2, v2.le G1.le⟩
  unfold eDisp
  rw [e1]; simp only [bind_ok]
  rw [if_pos (by rw [Bool.and_eq_true]; exact ⟨v1.keyOks h2, decide_eq_true (by rw [← v1.length]; exact h3)⟩)]
end Vg
set_option Elab.async false
set_option linter.all false
set_option maxRecDepth 100000
set_option maxHeartbeats 4000000
namespace Sg
open PySem PySem.Spec PyProof.Rows L2
end Sg
set_option Elab.async false
set_option linter.all false
set_option maxRecDepth 100000
set_option maxHeartbeats 4000000
namespace Sg
open PySem PySem.Spec PyProof.Rows L2
end Sg
namespace Vg
open PySem hiding Env
open Sg
/-- three names at once, the third value a plain one -/
def vPar3 (i j l : Nat) (a : VA) : VS := fun env => a env >>= fun x => match x.1 with
  | [e, e', .im w] => grd (vflat w = true) (ofO ((vKeeps [e, e'] x.2).bind fun y => vSets [i, j] y.1 y.2) >>= fun r => ofO (vSet l (.sh w) r) >>= fun r => .ok (.nx, r))
  | [e, .im w, e'] => grd (vflat w = true ∧ j ≠ l) (ofO ((vKeeps [e, e'] x.2).bind fun y => vSets [i, l] y.1 y.2) >>= fun r => ofO (vSet j (.sh w) r) >>= fun r => .ok (.nx, r))
  | _ => .no
theorem EVRs.take {F : FF} {env : Env} {σ : Slots} {st : Store} {n : Nat} : ∀ (k : Nat) {es : List EV} {ps : List PV}, EVRs F env σ st n es ps → EVRs F env σ st n (es.take k) (ps.take k)
  | 0, _, _, _ => by simp only [List.take_zero]; exact .nil
  | _ + 1, _, _, .nil => by simp only [List.take_nil]; exact .nil
  | k + 1, _, _, .cons a r => by simp only [List.take_succ_cons]; exact .cons a (r.take k)
end Vg
set_option Elab.async false
set_option linter.all false
set_option maxRecDepth 100000
set_option maxHeartbeats 4000000
namespace Sg
open PySem PySem.W PySem.Spec PyProof.Rows L2
end Sg
namespace Vg
open PySem hiding Env
open Sg
def vDfl (a : VA) : VA := fun env => a env >>= fun xs => .ok (xs.1 ++ [.im (.tup [])], xs.2)
end Vg
set_option Elab.async false
set_option linter.all false
set_option maxRecDepth 100000
set_option maxHeartbeats 4000000
namespace Sg
open PySem PySem.W PySem.Spec PyProof.Rows L2
end Sg
namespace Vg
open PySem hiding Env
open Sg
end Vg
set_option Elab.async false
set_option linter.all false
set_option maxRecDepth 100000
set_option maxHeartbeats 4000000
namespace Sg
open PySem PySem.Spec PyProof.Rows L2
end Sg
namespace Sg
open PySem PySem.Spec PyProof.Rows L2
end Sg
namespace Vg
open PySem hiding Env
open Sg
end Vg
set_option Elab.async false
set_option linter.all false
namespace Vg
open PySem hiding Env
open Sg
end Vg
set_option Elab.async false
set_option linter.all false
set_option maxRecDepth 100000
set_option maxHeartbeats 4000000
namespace Sg
open PySem PySem.Spec PyProof.Rows L2
end Sg
namespace Vg
open PySem hiding Env
open Sg
end Vg
set_option Elab.async false
set_option linter.all false
set_option maxRecDepth 100000
set_option maxHeartbeats 4000000
namespace Sg
open PySem PySem.Spec PyProof.Rows L2
end Sg
namespace Vg
open PySem hiding Env
open Sg
end Vg
set_option Elab.async false
set_option linter.all false
set_option maxRecDepth 100000
set_option maxHeartbeats 4000000
namespace Sg
open PySem PySem.Spec PyProof.Rows L2
end Sg
namespace Vg
open PySem hiding Env
open Sg
end Vg
set_option Elab.async false
set_option linter.all false
set_option maxRecDepth 100000
set_option maxHeartbeats 4000000
namespace Sg
open PySem PySem.Spec PyProof.Rows L2
end Sg
namespace Vg
open PySem hiding Env
open Sg
end Vg
set_option Elab.async false
set_option linter.all false
set_option maxRecDepth 100000
set_option maxHeartbeats 4000000
namespace Sg
open PySem PySem.Spec PyProof.Rows L2
/-- the object of sys.modules is among those that stood before the law -/
def SysB (base : Heap) : Prop := ∃ m, base.Ns sysModules m
abbrev NsS (base : Heap) (mg : Str → Option Value) : Prop := base.Ns mainGlobals mg ∧ SysB base
def keyQ : PV → PyData
  | .int i => .int i
  | .str x => .str x
  | _ => .none
def encK : Key → PyData
  | .inl i => .int i
  | .inr x => .str x
theorem keyQ_key (k : Key) : keyQ (keyP k) = encK k := by cases k <;> rfl
mutual
def qatF (rec : Nat → Option PyData) : PV → Option PyData
  | .non => some .none
  | .bl b => some (.bool b)
  | .int i => some (.int i)
  | .str x => some (.str x)
  | .tup xs => (qatFs rec xs).map .tuple
  | .ref i => rec i
  | _ => none
def qatFs (rec : Nat → Option PyData) : List PV → Option (List PyData)
  | [] => some []
  | x :: xs => match qatF rec x, qatFs rec xs with
    | some d, some ds => some (d :: ds)
    | _, _ => none
end
def qatR (st : Store) : Nat → Nat → Option PyData
  | 0, _ => none
  | f + 1, i => match st[i]? with
    | some (.lst xs) => (qatFs (qatR st f) xs).map .list
    | some (.dic kvs) => (qatFs (qatR st f) (kvs.map (·.2))).map fun ds => .dict ((kvs.map fun q => keyQ q.1).zip ds)
    | _ => none
def qat (st : Store) (p : PV) : Option PyData := qatF (qatR st 64) p
def fnReprD : Fn := fun vs st => match vs with
  | [p] => match qat st p with
    | some d => if d.showable && decide (d.depth ≤ 60) && decide (d.shown.length ≤ LINE) then .ok (.str d.shown, st) else .stuck
    | none => .stuck
  | _ => .stuck
section
variable {X : Cx} {pins : List (Addr × Obj)} {σ : L2.St} {H : Hp} {s : Shared} {ad : List Addr} {st : Store}
theorem not_sys (I : Inv X pins σ H s) (B : SysB X.base) {a : Addr} {o : HO} (h : H a = some o) : a ≠ sysModules := by
  rintro rfl
  obtain ⟨m, ob, es, ep, e, _⟩ := B
  rw [(I.bs _ _ e).2] at h; cases h
mutual
theorem qr_of (I : Inv X pins σ H s) {rec : Nat → Option PyData} (hr : ∀ (i : Nat) a d, ad[i]? = some a → rec i = some d → ∃ as, Reads s.heap (.ref a) d as ∧ sysModules ∉ as) :
    ∀ {p : PV} {v : V} {d : PyData} {u : Value}, VR X.wd ad H p v → qatF rec p = some d → RelV v u → ∃ as, Reads s.heap u d as ∧ sysModules ∉ as
  | _, _, _, _, .non, h, r => by
    simp only [qatF, Option.some.injEq] at h; subst h; cases r
    exact ⟨[], .none, by simp⟩
  | _, _, _, _, .bl b, h, r => by
    simp only [qatF, Option.some.injEq] at h; subst h; cases r
    exact ⟨[], .bool b, by simp⟩
  | _, _, _, _, .int b, h, r => by
    simp only [qatF, Option.some.injEq] at h; subst h
    obtain ⟨t, rfl⟩ := r
    exact ⟨[], .int b t, by simp⟩
  | _, _, _, _, .str b, h, r => by
    simp only [qatF, Option.some.injEq] at h; subst h
    obtain ⟨t, rfl⟩ := r
    exact ⟨[], .str b t, by simp⟩
  | _, _, _, _, .ty _, h, _ => by simp [qatF] at h
  | _, _, _, _, .glb _, h, _ => by simp [qatF] at h
  | _, _, _, _, .fro _ _, h, _ => by simp [qatF] at h
  | _, _, _, _, .tup hs rs, h, r => by
    simp only [qatF, Option.map_eq_some_iff] at h
    obtain ⟨ds, h1, rfl⟩ := h
    cases r
    obtain ⟨its, rv, ⟨o, ho, hc, n, hd⟩, _⟩ := I.tuple hs.sq
    obtain ⟨as, q, nq⟩ := qrs_of I hr rs h1 rv
    exact ⟨as, .tuple ho hc hd q, nq⟩
  | _, _, _, _, .ref hi, h, r => by
    simp only [qatF] at h
    cases r
    exact hr _ _ _ hi h
theorem qrs_of (I : Inv X pins σ H s) {rec : Nat → Option PyData} (hr : ∀ (i : Nat) a d, ad[i]? = some a → rec i = some d → ∃ as, Reads s.heap (.ref a) d as ∧ sysModules ∉ as) :
    ∀ {p : List PV} {v : List V} {d : List PyData} {u : List Value}, VRs X.wd ad H p v → qatFs rec p = some d → Vals v u → ∃ as, ReadsAll s.heap u d as ∧ sysModules ∉ as
  | _, _, _, _, .nil, h, r => by
    simp only [qatFs, Option.some.injEq] at h; subst h; cases r
    exact ⟨[], .nil, by simp⟩
  | _, _, _, _, .cons x xs, h, r => by
    simp only [qatFs] at h
    split at h
    · rename_i h1 h2
      cases h
      cases r with
      | cons r1 r2 =>
        obtain ⟨as, a1, a2⟩ := qr_of I hr x h1 r1
        obtain ⟨bs, b1, b2⟩ := qrs_of I hr xs h2 r2
        exact ⟨as ++ bs, .cons a1 b1, by simp [a2, b2]⟩
    · cases h
end
theorem qprs_of (I : Inv X pins σ H s) {rec : Nat → Option PyData} (hr : ∀ (i : Nat) a d, ad[i]? = some a → rec i = some d → ∃ as, Reads s.heap (.ref a) d as ∧ sysModules ∉ as) :
    ∀ {kvs : List (PV × PV)} {ws : List (Key × V)} {vs : List (Key × Value)} {ds : List PyData}, DR X.wd ad H kvs ws → KV ws vs → qatFs rec (kvs.map (·.2)) = some ds →
      ∃ bs, PyProof.V.PairsRead s.heap encK vs ((kvs.map fun q => keyQ q.1).zip ds) bs ∧ sysModules ∉ bs
  | _, _, _, _, .nil, k, h => by
    simp only [List.map_nil, qatFs, Option.some.injEq] at h; subst h
    cases k
    exact ⟨[], .nil, by simp⟩
  | _, _, _, _, .cons (k := k) x xs, kv, h => by
    simp only [List.map_cons, qatFs] at h
    split at h
    · rename_i h1 h2
      cases h
      cases kv with
      | @cons _ q _ qs r rs =>
        obtain ⟨k', u⟩ := q
        obtain ⟨e, rv⟩ := r
        have e : k = k' := e
        subst e
        obtain ⟨as, a1, a2⟩ := qr_of I hr x h1 rv
        obtain ⟨bs, b1, b2⟩ := qprs_of I hr xs rs h2
        refine ⟨as ++ bs, ?_, by simp [a2, b2]⟩
        simp only [List.map_cons, List.zip_cons_cons, keyQ_key]
        exact .cons a1 b1
    · cases h
theorem qrR_of (I : Inv X pins σ H s) (B : SysB X.base) (R : RO X.wd ad H st) : ∀ (f i : Nat) a d, ad[i]? = some a → qatR st f i = some d → ∃ as, Reads s.heap (.ref a) d as ∧ sysModules ∉ as
  | 0, _, _, _, _, h => by simp [qatR] at h
  | f + 1, i, a, d, ha, h => by
    simp only [qatR] at h
    split at h
    · rename_i xs hx
      simp only [Option.map_eq_some_iff] at h
      obtain ⟨ds, h1, rfl⟩ := h
      obtain ⟨vs, e, r⟩ := R.obj i _ a hx ha
      obtain ⟨its, rv, ⟨o, n, ho, hc, _, hd⟩, _⟩ := I.list (SqL.of e)
      obtain ⟨as, q, nq⟩ := qrs_of I (fun i a d => qrR_of I B R f i a d) r h1 rv
      exact ⟨a :: as, .list ho hc hd q, fun m => (List.mem_cons.mp m).elim (fun z => not_sys I B e z.symm) nq⟩
    · rename_i kvs hx
      simp only [Option.map_eq_some_iff] at h
      obtain ⟨ds, h1, rfl⟩ := h
      obtain ⟨ws, e, r⟩ := R.obj i _ a hx ha
      obtain ⟨_, _, vs, kv, D⟩ := I.hok a _ e
      obtain ⟨bs, q, nq⟩ := qprs_of I (fun i a d => qrR_of I B R f i a d) r kv h1
      refine ⟨a :: bs, PyProof.V.reads_dictOf (fun k key hk => ?_) D q, fun m => (List.mem_cons.mp m).elim (fun z => not_sys I B e z.symm) nq⟩
      rcases keyIs_shape hk with ⟨i, t, rfl, rfl⟩ | ⟨x, t, rfl, rfl⟩
      · exact .int i t
      · exact .str x t
    · cases h
theorem cd_reprD {k : Nat} (hr : Rm k X.A) (B : SysB X.base) : CallR X (.builtin "repr") (rCOf X fnReprD) := by
  rintro pins s σ H xs us Q I rx ⟨ad, st, ps, R, Vs, h⟩
  unfold fnReprD at h
  split at h
  · obtain ⟨v, e, r⟩ := Vs.one
    subst e
    match rx with
    | .cons (b := u) ru .nil =>
      split at h
      · rename_i d hd
        split at h
        · rename_i hc
          simp only [Bool.and_eq_true, decide_eq_true_eq] at hc
          obtain ⟨⟨h1, h3⟩, h4⟩ := hc
          have h4 : d.shown.length ≤ sizeLine := by rw [sizeLine_eq]; exact h4
          obtain ⟨as, rd, ns⟩ := qr_of I (fun i a d => qrR_of I B R 64 i a d) r hd ru
          have q : Q (.str d.shown) H := rdOk h R (.str _)
          have hu := hr.rm.un
          have fin : ∀ h' t tk, (∀ b o, s.heap.get? b = some o → h'.get? b = some o) → EP X pins σ Q (.str d.shown t) { s with heap := h', toks := tk } := fun h' t tk hk => ⟨.str d.shown, H, I.kept hk, ⟨t, rfl⟩, q⟩
          have one : ∀ a, Reads s.heap (.ref a) d as → wpAny (model X.prog X.w) X.A (call (.builtin "repr") [.ref a]) (EP X pins σ Q) X.xe s := fun a rd =>
            repr_of_reads' rd h1 (fun _ => ns) hr.gd (by omega) (fun _ _ e => e) (fun h' u tk hk => fin h' u tk hk) h4
          cases rd with
          | none => exact PySem.P.repr_of_none (fin s.heap _ _ fun _ _ e => e)
          | bool b => exact PySem.P.repr_of_bool (fin s.heap _ _ fun _ _ e => e)
          | int i t => exact PySem.P.repr_of_int (by simpa [PyData.showable] using h1) (fin s.heap _ _ fun _ _ e => e)
          | str x t => exact PySem.P.repr_of_str (fin s.heap _ _ fun _ _ e => e) (by simpa [PyData.shown] using h4)
          | list a1 a2 a3 a4 => exact one _ (.list a1 a2 a3 a4)
          | tuple a1 a2 a3 a4 => exact one _ (.tuple a1 a2 a3 a4)
          | dict a1 a2 a3 a4 a5 => exact one _ (.dict a1 a2 a3 a4 a5)
        · exact h.elim
      · exact h.elim
  · exact h.elim
end
end Sg
set_option Elab.async false
set_option linter.all false
set_option maxRecDepth 100000
set_option maxHeartbeats 4000000
namespace Sg
open PySem PySem.W PySem.Spec PyProof.Rows L2
/-- of a heap in which at most the script is tracked -/
theorem law_coreS {W : Wd} {mb : Str → Option Value} {k : Nat} {fa a : Addr} {fd : FuncData} {x : Str} {F : Fn} {s₁ : Shared} {vs : List Value} {ns : List Int} {H : Hp}
    (KX : W.K.In s₁.heap) (hns : s₁.heap.Ns mainGlobals W.mg) (hb : s₁.heap.Ns builtinsNs mb) (hbb : ∀ x : Str, x ≠ "__name__" → mb x = bootBuiltins x) (hlim : s₁.heap.NoLimit) (hg : s₁.gens = #[])
    (ha : s₁.heap.get? a = some (scr vs)) (hr : Rm k callerA)
    (hsy : SysB s₁.heap) (D : ∀ base : Heap, W.K.In base → NsS base W.mg → FnD W base k fa fd [x] F) (bi : ∀ (s : Shared) (u : Value), BindsTo s fd ⟨[u], []⟩ [(x, u)])
    (hF : ∃ st, F [.fro (ns.map .int)] [] = .ok (.bl true, st))
    (hO : ∀ b, H b = none ∨ ∃ o xs, H b = some (.frz o (.lst xs))) (hS : SqF W.K H a (ns.map V.int)) (hok : HOk W.P W.w H s₁.heap) (hA : ∀ b, H b ≠ none → b = a) (hK : H a ≠ none → W.K.lookup a = none) :
    codeAny (model W.P W.w) callerA (.call (.ref fa) ⟨[.ref a], []⟩) (Good s₁) s₁ := by
  have nn : ∀ {b : Addr} {o : Obj}, s₁.heap.get? b = some o → (∀ vs n, o.data ≠ .seq vs n) → H b = none := fun {b o} e d => by
    by_cases q : H b = none
    · exact q
    · obtain rfl := hA b q
      rw [ha] at e
      cases e
      exact absurd rfl (d _ _)
  have nsK : ∀ {b : Addr} {m : Str → Option Value}, s₁.heap.Ns b m → (hidT s₁.heap H).Ns b m := fun {b m} ⟨o, es, ep, e, d, r⟩ =>
    ⟨o, es, ep, hidT_get e (nn e fun vs n z => by rw [d] at z; cases z), d, r⟩
  have kb : W.K.In (hidT s₁.heap H) := fun b o e => hidT_get (KX b o e) <| by
    by_cases q : H b = none
    · exact q
    · obtain rfl := hA b q
      rw [hK q] at e
      cases e
  have e0 : Env0 W.P W.w W.K W.mg (hidT s₁.heap H) callerA [] s₁ H :=
    ⟨rfl, ⟨kb, nsK hns, ⟨mb, nsK hb, hbb⟩, hlim.elim fun mc h => ⟨mc, nsK h.1, h.2⟩⟩, fun b o e => of_hidT e, Nat.le_of_eq (hidT_size _ _), trivial, (fun _ z => nomatch z), hok, .of_eq hg⟩
  obtain ⟨st, eF⟩ := hF
  refine codeAny_mono (D _ kb ⟨nsK hns, hsy.elim fun m q => ⟨m, nsK q⟩⟩ callerA [] s₁ H ⟨[.ref a], []⟩ [.ref a] [.ref a] (fun v _ => v = .bl true) hr e0 (bi s₁ (.ref a)) (.cons rfl .nil)
    ⟨rfl, [], [], [.fro (ns.map .int)], ⟨rfl, List.nodup_nil, fun i o a h => by simp at h⟩, .cons (.fro hS (vrs_ints ns)) .nil, ?_⟩) fun r s' h => ?_
  · rw [eF]
    intro ad' H' E R v V
    cases V
    rfl
  · match r, h with
    | .error e, h => exact False.elim h
    | .ok (.ret u), ⟨v, H', os, bare, un, hok', r', q⟩ =>
      have q' : v = .bl true := q
      subst q'
      obtain rfl : u = Value.bool true := r'
      refine ⟨rfl, .of_keep fun b o e => ?_, os, bare⟩
      rcases hO b with z | ⟨ob, xs, z⟩
      · exact un.keep b o e z (fun z => nomatch z) (fun z => nomatch z)
      · obtain ⟨e1, _⟩ := hok b _ z
        obtain ⟨e2, _⟩ := hok' b _ (un.frzs b ob _ z)
        rw [e] at e1; cases e1
        exact e2
theorem law_callDS {W : Wd} {mb : Str → Option Value} {k : Nat} {fa a : Addr} {fd : FuncData} {x : Str} {F : Fn} {s₁ : Shared} {vs : List Value} {ns : List Int}
    (KX : W.K.In s₁.heap) (hns : s₁.heap.Ns mainGlobals W.mg) (hb : s₁.heap.Ns builtinsNs mb) (hbb : ∀ x : Str, x ≠ "__name__" → mb x = bootBuiltins x) (hlim : s₁.heap.NoLimit) (hg : s₁.gens = #[])
    (ha : s₁.heap.get? a = some (scr vs)) (hi : IntsAre vs ns) (hl : ns.length ≤ sizeLine) (hr : Rm k callerA)
    (hsy : SysB s₁.heap) (D : ∀ base : Heap, W.K.In base → NsS base W.mg → FnD W base k fa fd [x] F) (bi : ∀ (s : Shared) (u : Value), BindsTo s fd ⟨[u], []⟩ [(x, u)])
    (hF : ∃ st, F [.fro (ns.map .int)] [] = .ok (.bl true, st)) : codeAny (model W.P W.w) callerA (.call (.ref fa) ⟨[.ref a], []⟩) (Good s₁) s₁ := by
  have rv := vals_ints hi
  cases hk : W.K.lookup a with
  | some o =>
    have e := KX a o hk
    rw [ha] at e
    cases e
    exact law_coreS (H := fun _ => none) KX hns hb hbb hlim hg ha hr hsy D bi hF (fun _ => .inl rfl) (.inr ⟨_, vs.toArray, _, hk, rfl, rfl, rfl, by rw [List.size_toArray, hi.length]; exact hl, by simpa using rv⟩)
      (fun b u z => nomatch z) (fun b z => absurd rfl z) fun z => absurd rfl z
  | none =>
    have at_ : ∀ {b : Addr} {u : HO}, (if b = a then some (HO.frz (scr vs) (.lst (ns.map V.int))) else none) = some u → b = a ∧ u = .frz (scr vs) (.lst (ns.map V.int)) := fun {b u} z => by
      split at z
      · rename_i h; cases z; exact ⟨h, rfl⟩
      · cases z
    refine law_coreS (H := fun b => if b = a then some (.frz (scr vs) (.lst (ns.map V.int))) else none) KX hns hb hbb hlim hg ha hr hsy D bi hF (fun b => ?_) (.inl ⟨scr vs, if_pos rfl⟩) (fun b u z => ?_) (fun b z => ?_) fun _ => hk
    · by_cases h : b = a
      · exact .inr ⟨_, _, if_pos h⟩
      · exact .inl (if_neg h)
    · obtain ⟨rfl, rfl⟩ := at_ z
      exact ⟨ha, by rw [List.length_map]; exact hl, vs, _, rv, ha⟩
    · cases q : (if b = a then some (HO.frz (scr vs) (.lst (ns.map V.int))) else none) with
      | none => exact absurd q z
      | some u => exact (at_ q).1
/-- the goal that k_head leaves -/
theorem walkDS {l : PySem.W.OpenLaw} {k : Nat} {q : Program} {loose : List Str} {XP : (Str → Option Value) → Heap → Prop} {YP : World → Heap → Prop} {d : DefRec} {K : Params → PySem.W.Frag} {F : Fn} {x : Str}
    (hi : PyProof.Rows.importsNone q = true) (hn : l.most = some 63) (hdf : d.params.defaults = []) (hr : Rm k callerA) (hY : ∀ (w : World) (h : Heap), YP w h → (K w.params).In h)
    (D : ∀ (w : World) (mg : Str → Option Value) (fa : Addr) (h : Heap), (K w.params).In h → h.Ns mainGlobals mg → mg d.name = some (.ref fa) →
      ∃ fd : FuncData, (∀ (s : Shared) (u : Value), BindsTo s fd ⟨[u], []⟩ [(x, u)]) ∧ ∀ base : Heap, (K w.params).In base → NsS base mg → FnD ⟨K w.params, mg, l.prog, w⟩ base k fa fd [x] F)
    (hF : ∀ ns : List Int, ns.length ≤ 63 → ∃ st, F [.fro (ns.map .int)] [] = .ok (.bl true, st)) :
    PySem.W.WalkO q loose XP YP l.row.toRowW d [] (fun f vs => PySem.call f vs) := by
  refine Att.attach_call hn hdf fun w s₀ s₁ mg mb fa o pm cd doc a vs ns G Y ho hd hcd hmg hobj hints hlen hg => ?_
  obtain ⟨fd, hb, hD⟩ := D w mg fa _ (hY w _ Y) G.T.g hmg
  exact law_callDS (W := ⟨K w.params, mg, l.prog, w⟩) (hY w _ Y) G.T.g G.T.b G.T.builtins G.T.nolimit hg hobj hints (Nat.le_trans hlen (by decide)) hr (let ⟨m, x, _⟩ := (G.T.seer hi).mods; ⟨m, x⟩) hD hb (hF ns hlen)
theorem law_ofS {h : Heap} {x : Str} {st : Stmt} {N : List Str} {k : Nat} {m : EvS} {K : PySem.W.Frag} {mg : Str → Option Value} {P : Program} {w : World} {fa : Addr} {y : Str} (D : DefIs K x st) (KX : K.In h) (G : h.Ns mainGlobals mg) (hfa : mg x = some (.ref fa)) (S : FnScope N [y] (L2.defScope st)) (bi : BindAll x st [y])
    (b : ∀ base : Heap, K.In base → NsS base mg → BodyOk ⟨K, mg, P, w⟩ base N x st k m) :
    ∃ fd : FuncData, (∀ (s : Shared) (u : Value), BindsTo s fd ⟨[u], []⟩ [(y, u)]) ∧ ∀ base : Heap, K.In base → NsS base mg → FnD ⟨K, mg, P, w⟩ base (k + 1) fa fd [y] (fnOf N.length m) := by
  obtain ⟨f, fd, a, F⟩ := D
  have e := hfa.symm.trans (PySem.W.mg_of KX G a)
  cases e
  exact ⟨fd, fun s u => F.bindsA bi s [u] rfl, fun base h1 h2 => fnD_of F S fun cd A o s H hr => b base h1 h2 fa cd A o s H hr⟩
theorem rm_caller80 : Rm 80 callerA := ⟨⟨rfl, by decide +kernel, by decide +kernel⟩, rfl⟩
end Sg
set_option Elab.async false
set_option linter.all false
set_option maxRecDepth 100000
set_option maxHeartbeats 4000000
namespace Vg
open PySem Sg
def vkeyQ : NV → PyData
  | .int i => .int i
  | .str x => .str x
  | _ => .none
theorem keyQ_rep {F : FF} {k : NV} {p : PV} (h : VRep F k p) : keyQ p = vkeyQ k := by cases h <;> rfl
mutual
def vqat : NV → Option PyData
  | .non => some .none
  | .bl b => some (.bool b)
  | .int i => some (.int i)
  | .str x => some (.str x)
  | .tup xs => (vqats xs).map .tuple
  | .lst xs => (vqats xs).map .list
  | .dic kvs => (vqatd kvs).map fun ds => .dict ((kvs.map fun q => vkeyQ q.1).zip ds)
  | _ => none
def vqats : List NV → Option (List PyData)
  | [] => some []
  | x :: xs => match vqat x, vqats xs with
    | some d, some ds => some (d :: ds)
    | _, _ => none
def vqatd : List (NV × NV) → Option (List PyData)
  | [] => some []
  | x :: xs => match vqat x.2, vqatd xs with
    | some d, some ds => some (d :: ds)
    | _, _ => none
end
theorem vqatd_len : ∀ {kvs : List (NV × NV)} {ds : List PyData}, vqatd kvs = some ds → ds.length = kvs.length
  | [], _, h => by simp only [vqatd, Option.some.injEq] at h; subst h; rfl
  | x :: xs, _, h => by
    simp only [vqatd] at h
    split at h
    · rename_i d ds h1 h2
      cases h
      simp [vqatd_len h2]
    · cases h
theorem zip_snd {α β : Type} : ∀ {as : List α} {bs : List β}, bs.length = as.length → (as.zip bs).map (·.2) = bs
  | [], [], _ => rfl
  | _ :: as, _ :: bs, h => by simp only [List.zip_cons_cons, List.map_cons, zip_snd (as := as) (bs := bs) (by simpa using h)]
theorem dic_deep {kvs : List (NV × NV)} {ds : List PyData} {f : Nat} (h : vqatd kvs = some ds) (hd : (PyData.dict ((kvs.map fun q => vkeyQ q.1).zip ds)).depth ≤ f + 1) : PyData.depthAll ds ≤ f := by
  have e := PyData.depthAll_vals_le ((kvs.map fun q => vkeyQ q.1).zip ds)
  rw [zip_snd (by rw [List.length_map]; exact vqatd_len h)] at e
  simp only [PyData.depth] at hd
  omega
theorem keys_rep {F : FF} : ∀ {xs : List (NV × NV)} {ps : List (PV × PV)}, VRepd F xs ps → (ps.map fun q => keyQ q.1) = xs.map fun q => vkeyQ q.1
  | _, _, .nil => rfl
  | _, _, .cons k _ r => by simp only [List.map_cons, keyQ_rep k, keys_rep r]
mutual
theorem qat_rep {F : FF} {st : Store} (s : Sub F st) : ∀ {v : NV} {p : PV} {d : PyData} (f : Nat), VRep F v p → vqat v = some d → d.depth ≤ f → qatF (qatR st f) p = some d
  | _, _, _, f, .non, h, _ => by simpa [vqat, qatF] using h
  | _, _, _, f, .bl _, h, _ => by simpa [vqat, qatF] using h
  | _, _, _, f, .int _, h, _ => by simpa [vqat, qatF] using h
  | _, _, _, f, .str _, h, _ => by simpa [vqat, qatF] using h
  | _, _, _, f, .ty _, h, _ => by simp [vqat] at h
  | _, _, _, f, .glb _, h, _ => by simp [vqat] at h
  | _, _, _, f, .fro _, h, _ => by simp [vqat] at h
  | _, _, _, f, .tup r, h, hd => by
    simp only [vqat, Option.map_eq_some_iff] at h
    obtain ⟨ds, h, rfl⟩ := h
    simp only [qatF, qats_rep s f r h (by simp only [PyData.depth] at hd; omega), Option.map_some]
  | _, _, _, f, .lst q r, h, hd => by
    simp only [vqat, Option.map_eq_some_iff] at h
    obtain ⟨ds, h, rfl⟩ := h
    simp only [PyData.depth] at hd
    cases f with
    | zero => omega
    | succ f => simp only [qatF, qatR, s _ _ q, qats_rep s f r h (by omega), Option.map_some]
  | _, _, _, f, .dic q r, h, hd => by
    simp only [vqat, Option.map_eq_some_iff] at h
    obtain ⟨ds, h, rfl⟩ := h
    cases f with
    | zero => simp only [PyData.depth] at hd; omega
    | succ f => simp only [qatF, qatR, s _ _ q, qatd_rep s f r h (dic_deep h hd), Option.map_some, keys_rep r]
  | _, _, _, f, .dct _ _, h, _ => by simp [vqat] at h
  | _, _, _, f, .exn _ _, h, _ => by simp [vqat] at h
  | _, _, _, f, .tab _, h, _ => by simp [vqat] at h
  | _, _, _, f, .bex _, h, _ => by simp [vqat] at h
  | _, _, _, f, .fdc _ _, h, _ => by simp [vqat] at h
  | _, _, _, f, .set _ _, h, _ => by simp [vqat] at h
theorem qats_rep {F : FF} {st : Store} (s : Sub F st) : ∀ {v : List NV} {p : List PV} {d : List PyData} (f : Nat), VReps F v p → vqats v = some d → PyData.depthAll d ≤ f → qatFs (qatR st f) p = some d
  | _, _, _, f, .nil, h, _ => by simpa [vqats, qatFs] using h
  | _, _, _, f, .cons a r, h, hd => by
    simp only [vqats] at h
    split at h
    · rename_i d ds h1 h2
      cases h
      simp only [PyData.depthAll] at hd
      simp only [qatFs, qat_rep s f a h1 (by omega), qats_rep s f r h2 (by omega)]
    · cases h
theorem qatd_rep {F : FF} {st : Store} (s : Sub F st) : ∀ {v : List (NV × NV)} {p : List (PV × PV)} {d : List PyData} (f : Nat), VRepd F v p → vqatd v = some d → PyData.depthAll d ≤ f → qatFs (qatR st f) (p.map (·.2)) = some d
  | _, _, _, f, .nil, h, _ => by simpa [vqatd, qatFs] using h
  | _, _, _, f, .cons _ a r, h, hd => by
    simp only [vqatd] at h
    split at h
    · rename_i d ds h1 h2
      cases h
      simp only [PyData.depthAll] at hd
      simp only [List.map_cons, qatFs, qat_rep s f a h1 (by omega), qatd_rep s f r h2 (by omega)]
    · cases h
end
theorem qat_of {F : FF} {st : Store} (s : Sub F st) {v : NV} {p : PV} {d : PyData} (h : LRep F st v p) (hv : vqat v = some d) (hd : d.depth ≤ 64) : qat st p = some d := by
  rcases h with h | ⟨i, o, rfl, h1, h2⟩
  · exact qat_rep s 64 h hv hd
  · have e : qat st (.ref i) = qatR st (63 + 1) i := rfl
    rw [e]
    unfold qatR
    cases h2 with
    | lst r =>
      simp only [vqat, Option.map_eq_some_iff] at hv
      obtain ⟨ds, hv, rfl⟩ := hv
      simp only [PyData.depth] at hd
      simp only [h1]
      rw [qats_rep s 63 r hv (by omega)]; rfl
    | dic r =>
      simp only [vqat, Option.map_eq_some_iff] at hv
      obtain ⟨ds, hv, rfl⟩ := hv
      simp only [h1]
      rw [qatd_rep s 63 r hv (dic_deep hv hd), keys_rep r]; rfl
    | set r => simp [vqat] at hv
    | dct r => simp [vqat] at hv
def vfReprD : List NV → Option EV
  | [x] => (vqat x).bind fun d => if d.showable && decide (d.depth ≤ 60) && decide (d.shown.length ≤ LINE) then some (.im (.str d.shown)) else none
  | _ => none
theorem fv_reprD : FnV fnReprD vfReprD := fun F st vs ps s h ev q => by
  unfold vfReprD at q
  split at q
  · obtain ⟨p, rfl, h'⟩ := h.one; have h := h'
    simp only [Option.bind_eq_some_iff] at q
    obtain ⟨d, q, q2⟩ := q
    split at q2
    · rename_i hc
      cases q2
      have hd : d.depth ≤ 64 := by
        simp only [Bool.and_eq_true, decide_eq_true_eq] at hc; omega
      exact ⟨_, _, by simp only [fnReprD, qat_of s h q hd]; exact if_pos hc, .im (.str _)⟩
    · cases q2
  · cases q
end Vg
set_option Elab.async false
set_option linter.all false
set_option maxRecDepth 100000
set_option maxHeartbeats 4000000
namespace Sg
open PySem PySem.Spec PyProof.Rows L2
section
variable {X : Cx}
theorem VRs.empty {W : Wd} {ad : List Addr} {H : Hp} {ps : List PV} {vs : List V} (r : VRs W ad H ps vs) : ps.isEmpty = vs.isEmpty := by cases r <;> rfl
end
end Sg
namespace Vg
open PySem Sg
theorem VReps.empty {F : FF} {xs : List NV} {ps : List PV} (r : VReps F xs ps) : xs.isEmpty = ps.isEmpty := by cases r <;> rfl
end Vg
set_option Elab.async false
set_option linter.all false
set_option maxRecDepth 100000
set_option maxHeartbeats 4000000
namespace Sg
open PySem PySem.Spec PyProof.Rows L2
/-- what the class above must have -/
structure SupC (K : PySem.W.Frag) (S : Addr) : Prop where
  rd : PySem.W.readsIn K S (.type "type") = true
  ga : PySem.W.specialIn K (.ref S) "__getattribute__" = some (some (.builtin "type.__getattribute__"))
  vV : PySem.W.findCls K (.ref S) (.type "type") "__init__" = some (.val (.builtin "ValueError.__init__"))
section
variable {X : Cx} {e : Expr} {es : List Expr} {ta : TA} {te : TE} {x : Str} {S : Addr} {p1 p2 pos : Pos}
/-- S.__init__(self, ..), S the package's base class -/
theorem pe_seinit {pl : Sem Bool} (hg : Gl X x) (hm : X.mg x = some (.ref S)) (T0 : SupC X.K S) (ha : PA X (e :: es) ta)
    (hdb : (x == ("__debug__" : Str)) = false := by decide)
    (hc : eval (.Call (.Attribute (.Name x p1) "__init__" p2) (e :: es) [] pos) X.env = (do
      let ov ← eval (.Name x p1) X.env
      standAt p2.atName
      let (f, first) ← holding [ov] (getMethod ov "__init__" pl)
      callWith pos f first (backTo pos (starEach (e :: es) X.env)) (backToKw pos (keywordEach [] X.env))) := by rfl)
    (he : starEach (e :: es) X.env = (false, eval e X.env) :: starEach es X.env := by rfl) (hpl : (backTo pos (starEach es X.env)).any (·.1) = false := by rfl) :
    PE X (.Call (.Attribute (.Name x p1) "__init__" p2) (e :: es) [] pos) (tVeI X.K ta) := by
  refine ⟨fun pins s σ H Q I h => ?_⟩
  refine PySem.W.methodCall_KW (ld_glob I hg hm ?_ hdb) hc
  refine PySem.W.method_cls I.kIn T0.ga (PySem.W.cls_value I.kIn T0.rd T0.vV (by decide +kernel) ?_)
  show wpAny _ _ (callWith pos (Value.builtin "ValueError.__init__") [] (backTo pos (starEach (e :: es) X.env)) []) _ _ _
  refine PyProof.Rows.callWith_method1 (thn (ha.run pos pins _ σ H _ (I.tok _) h) fun us s1 ⟨vs, H1, I1, r1, a, C, ws, ev, hl, T, ea, q⟩ => ?_) he hpl
  subst ev
  cases r1 with
  | @cons _ u0 _ ur ra rw' =>
    obtain rfl : u0 = Value.ref a := ra
    have hlen : ur.length ≤ sizeLine := by
      rw [← Paired.length rw', sizeLine_eq]
      omega
    exact oinit_ok T I1 ea hlen fun s' J => ⟨.non, H1, J, rfl, q⟩
def tFmtD (X : Cx) (te : TE) : TE := fun σ H Q => te σ H fun v H1 => ∃ ad st p d, RO X.wd ad H1 st ∧ VR X.wd ad H1 p v ∧ qat st p = some d ∧ d.showable = true ∧ d.depth ≤ 60 ∧ d.shown.length ≤ LINE ∧ Q (.str d.shown) H1
/-- {x!r} -/
theorem pe_fmtD {k : Nat} (hr : Rm k X.A) (B : SysB X.base) (he : PE X e te) : PE X (.FormattedValue e 114 none pos) (tFmtD X te) := by
  refine ⟨fun pins s σ H Q I h => ?_⟩
  refine wpAny_FormattedValue_repr (thn (he.run pins s σ H _ I h) fun u s1 hv => ?_)
  obtain ⟨v, H1, I1, ru, ad, st, p, d, R, V, hd, h1, h3, h4, q⟩ := hv
  have h4 : d.shown.length ≤ sizeLine := by rw [sizeLine_eq]; exact h4
  obtain ⟨as, rd, ns⟩ := qr_of I1 (fun i a d => qrR_of I1 B R 64 i a d) V hd ru
  have hu := hr.rm.un
  have fmt : ∀ {h' : Heap} {t tk : Nat}, (∀ b o, s1.heap.get? b = some o → h'.get? b = some o) → wpAny (model X.prog X.w) X.A (formatField (.str d.shown t) Str.empty) (EP X pins σ Q) X.xe { s1 with heap := h', toks := tk } := fun {h' t tk} hk =>
    wpAny_formatField_str ⟨.str d.shown, H1, I1.kept hk, ⟨_, rfl⟩, q⟩ ⟨.str d.shown, H1, (I1.kept hk).tok _, ⟨_, rfl⟩, q⟩ h4
  have one : ∀ a, Reads s1.heap (.ref a) d as → wpAny (model X.prog X.w) X.A (pyReprObj (.ref a)) (fun r s₂ => wpAny (model X.prog X.w) X.A (formatField r Str.empty) (EP X pins σ Q) X.xe s₂) X.xe s1 := fun a rd =>
    pyReprObj_of_reads rd h1 (fun _ => ns) hr.gd (by omega) (fun _ _ e => e) (fun h' u tk hk => fmt hk) h4
  cases rd with
  | none => exact pyReprObj_none (fmt fun _ _ e => e)
  | bool b => exact pyReprObj_bool (by cases b <;> exact fmt fun _ _ e => e)
  | int i t => exact pyReprObj_int (by simpa [PyData.showable] using h1) (fmt fun _ _ e => e)
  | str x t => exact pyReprObj_str (fmt fun _ _ e => e) (by simpa [PyData.shown] using h4)
  | list a1 a2 a3 a4 => exact one _ (.list a1 a2 a3 a4)
  | tuple a1 a2 a3 a4 => exact one _ (.tuple a1 a2 a3 a4)
  | dict a1 a2 a3 a4 a5 => exact one _ (.dict a1 a2 a3 a4 a5)
end
inductive Msg : List Expr → List (Option Str) → Prop
  | nil : Msg [] []
  | txt {x : Str} {j pos} {es : List Expr} {l : List (Option Str)} : Msg es l → Msg (.Constant (.str x) j pos :: es) (some x :: l)
  | val {p pos} {es : List Expr} {l : List (Option Str)} : Msg es l → Msg (.FormattedValue (.Name "value" p) 114 none pos :: es) (none :: l)
def msgT (X : Cx) : Option Str → TE
  | some x => L2.tC (.str x)
  | none => tFmtD X (L2.tVar 1)
abbrev MOST : Nat := 8000000
def room : List (Option Str) → Nat
  | [] => 0
  | some x :: l => x.length + room l
  | none :: l => MOST + room l
section
variable {X : Cx}
theorem msg_pj {k : Nat} (hr : Rm k X.A) (B : SysB X.base) (hN : X.N[1]? = some ("value" : Str)) (hv : Vis X.env.scope "value") {es : List Expr} {l : List (Option Str)} (h : Msg es l) : PJ X es (l.map (msgT X)) := by
  induction h with
  | nil => exact .nil
  | txt _ ih => exact .cons pe_str ih
  | val _ ih => exact .cons (pe_fmtD hr B (pe_var hN hv)) ih
theorem msg_js {σ : L2.St} {H : Hp} {v : V} {ad : List Addr} {st : Store} {p : PV} {d : PyData} (hσ : σ[1]? = some (some v)) (R : RO X.wd ad H st) (V : VR X.wd ad H p v) (hd : qat st p = some d) (h1 : d.showable = true) (h3 : d.depth ≤ 60) (h4 : d.shown.length ≤ MOST) :
    ∀ (l : List (Option Str)) (acc : Str) (Q : Str → Hp → Prop), acc.length + room l ≤ sizeLine → (∀ out, Q out H) → tJs (l.map (msgT X)) acc σ H Q
  | [], acc, Q, _, hQ => hQ acc
  | some x :: l, acc, Q, hl, hQ => by
    have hl' : (acc ++ x).length + room l ≤ sizeLine := by rw [strLen_append]; simp only [room] at hl; omega
    exact ⟨x, rfl, by omega, msg_js hσ R V hd h1 h3 h4 l (acc ++ x) Q hl' hQ⟩
  | none :: l, acc, Q, hl, hQ => by
    have hl' : (acc ++ d.shown).length + room l ≤ sizeLine := by rw [strLen_append]; simp only [room] at hl; omega
    exact ⟨v, hσ, ad, st, p, d, R, V, hd, h1, h3, Nat.le_trans h4 (by decide), d.shown, rfl, by omega, msg_js hσ R V hd h1 h3 h4 l (acc ++ d.shown) Q hl' hQ⟩
end
def spI (W : Wd) (C : Addr) (vs : List V) (H : Hp) (Q : VK) : Prop := ∃ a v ad st p d, vs = [.ref a, v] ∧ H a = some (exo a C none) ∧ RO W ad H st ∧ VR W ad H p v ∧ qat st p = some d ∧ d.showable = true ∧ d.depth ≤ 60 ∧ d.shown.length ≤ MOST ∧
  ∀ dx, H dx = none → dx ≠ a → Q .non (upd (upd H dx (exd dx [("value", v)])) a (exo a C (some dx)))
def InitD (W : Wd) (base : Heap) (k : Nat) (C f : Addr) (fd : FuncData) : Prop :=
  ∀ (A : Around) (o : List Env) (s : Shared) (H : Hp) (args : Args) (us : List Value) (vs : List V) (Q : VK), Rm k A → Env0 W.P W.w W.K W.mg base A o s H → BindsTo s fd args ((["self", "value"] : List Str).zip us) →
    Vals vs us → spI W C vs H Q → codeAny (model W.P W.w) A (.call (.ref f) args) (CR CX0 o W.P W.w H s Q noX) s
/-- what the text of such an __init__ is -/
def InitB (body : List Stmt) : Prop := ∃ (v1 v2 : Expr) (rest : List Expr) (l : List (Option Str)) (p1 p2 p3 p4 p5 p6 p7 p8 p9 p10 : Pos), body = [.Expr (.Call (.Attribute (.Name "StackError" p1) "__init__" p2) [.Name "self" p3, .JoinedStr (v1 :: v2 :: rest) p4] [] p5) p6, .Assign [.Attribute (.Name "self" p7) "value" p8] (.Name "value" p9) p10] ∧
  Msg (v1 :: v2 :: rest) l ∧ room l ≤ 16000000 ∧ ∀ env : Env,
    (∃ pl : Sem Bool, eval (.Call (.Attribute (.Name "StackError" p1) "__init__" p2) [.Name "self" p3, .JoinedStr (v1 :: v2 :: rest) p4] [] p5) env = (do
      let ov ← eval (.Name "StackError" p1) env
      standAt p2.atName
      let (f, first) ← holding [ov] (getMethod ov "__init__" pl)
      callWith p5 f first (backTo p5 (starEach [.Name "self" p3, .JoinedStr (v1 :: v2 :: rest) p4] env)) (backToKw p5 (keywordEach [] env)))) ∧
    swapsWith (.Call (.Attribute (.Name "StackError" p1) "__init__" p2) [.Name "self" p3, .JoinedStr (v1 :: v2 :: rest) p4] [] p5) none p6.line env = pure false ∧
    swapsWith (.Name "value" p9) (some (.Attribute (.Name "self" p7) "value" p8)) p10.line env = pure false
section
variable {W : Wd} {base : Heap} {name qual : Str} {args : Arguments} {body : List Stmt} {scope : Scope} {dvs : List V} {kws : List (Str × V)} {f C S : Addr} {fd : FuncData} {k : Nat}
theorem initD_of (F : FunD W.K name qual args body scope dvs kws f fd) (Sc : FnScope ["self", "value"] ["self", "value"] scope) (hB : InitB body) (Bs : SysB base) (hgl : scope.names.lookup ("StackError" : Str) = some NameKind.globalImplicit) (hm : W.mg "StackError" = some (.ref S)) (T0 : SupC W.K S)
    (T : OexC W.K C) (hno : PySem.W.findIn W.K (.ref C) "value" = some none) : InitD W base (k + 1) C f fd := by
  obtain ⟨oc, od, dV, kV, doc, pm, an, cdv, ct, osl, rfl, lk, hcd, _, _⟩ := F.ex
  obtain ⟨v1, v2, rest, l, p1, p2, p3, p4, p5, p6, p7, p8, p9, p10, rfl, hmsg, hroom, henv⟩ := hB
  intro A o s H ar us vs Q hr e0 bi rv hsp
  obtain ⟨a, v, ad, st, p, d, rfl, ha, R, V, hd, h1, h3, h4, hq⟩ := hsp
  have KX : W.K.In s.heap := e0.mod.kin.keeps fun b o e => (e0.bs b o e).1
  have lim : s.heap.NoLimit := e0.mod.nolimit.keeps fun b o e => (e0.bs b o e).1
  have kinds : ∀ y ∈ (["self", "value"] : List Str).zip us, scope.names.lookup y.1 = some .local ∨ (scope.names.lookup y.1 = some .cell ∧ ((cellsFrom (s.heap.objs.size + 1) scope.names []).lookup y.1).isSome = true) := by
    rintro ⟨n, v⟩ hy
    exact (Sc.par n (List.of_mem_zip hy).1).imp id fun q => ⟨q, PySem.W.cellsFrom_some _ _ _ (.inl q)⟩
  refine codeAny_call_function hr.rm.depth (KX _ _ lk) rfl Sc.co Sc.gen rfl (PySem.W.codeRec_of KX hcd) (bi _ _ _ _ (wpAny_newFunctionEnv_cells Sc.kind kinds fun env he s1 x => ?_))
  cases he
  refine ⟨lim.keeps x.toInCall.keep, codeAny_func ?_⟩
  have I : Inv (cxOf CX0 W.P W.w W.K W.mg base ["self", "value"] qual scope f cdv A o s H noX) [] (L2.start ["self", "value"] [.ref a, v]) H s1 := inv_start Sc hr.rm.hd e0 rfl rv x
  have hr2 := hr.deeper (envOfC qual scope s.heap.objs.size f cdv)
  let X : Cx := (cxOf CX0 W.P W.w W.K W.mg base ["self", "value"] qual scope f cdv A o s H noX).nox
  have hs0 : Vis scope "self" := (Sc.par "self" (by simp)).imp id .inl
  have hs1 : Vis scope "value" := (Sc.par "value" (by simp)).imp id .inl
  have hJ := msg_pj (X := X) hr2 Bs rfl hs1 hmsg
  obtain ⟨⟨pl, hc⟩, hs2, hs3⟩ := henv X.env
  have body := pss_cons (ps_expr (pos := p6) (pe_seinit (X := X) (p1 := p1) (p2 := p2) (pos := p5) (pl := pl) hgl hm T0 (pa_cons (pe_var (pos := p3) (i := 0) rfl hs0) (pa_cons (pe_joined (pos := p4) hJ) pa_nil)) (hc := hc)) (hs := hs2))
    (pss_one (ps_ost (X := X) (pos := p10) (p' := p8) (f := "value") (pe_var (pos := p7) (i := 0) rfl hs0) (pe_var (pos := p9) (i := 1) rfl hs1) (hs := hs3)))
  have run := (PSs.nox body).run [] s1 (L2.start ["self", "value"] [.ref a, v]) H { nx := fun _ H' => Q .non H', rt := Q } I ?_
  · refine wpAny_mono run (fun fl s' hs => ?_) fun e s' hs => hs
    have fin : ∀ {σ' : LSt} {H' : Hp} {v : L2.V} {u : Value}, Inv (cxOf CX0 W.P W.w W.K W.mg base ["self", "value"] qual scope f cdv A o s H noX) [] σ' H' s' → RelV v u → Q v H' → CE o W.P W.w H s Q u s' :=
      fun J rv q => ⟨_, _, J.os, J.bare, J.base, J.hok, rv, q⟩
    cases fl with
    | next => obtain ⟨_, _, J, q⟩ := hs; exact fin (v := L2.V.non) (u := Value.none) J rfl q
    | ret u => obtain ⟨_, _, _, J, rv, q⟩ := hs; exact fin J rv q
    | brk => obtain ⟨_, _, _, q⟩ := hs; exact q.elim
    | cont => obtain ⟨_, _, _, q⟩ := hs; exact q.elim
  · refine ⟨.ref a, rfl, ?_⟩
    refine msg_js (X := X) (v := v) rfl R V hd h1 h3 h4 l Str.empty _ ?_ fun out => ?_
    · rw [sizeLine_eq]
      show 0 + room l ≤ _
      omega
    · refine ⟨a, C, [.str out], rfl, by simp, T, ha, ?_⟩
      exact ⟨v, rfl, .ref a, rfl, a, C, rfl, T, hno, .inl ⟨ha, fun dx n ne => hq dx n ne⟩⟩
end
/-- what an exception class must have -/
structure ExK (W : Wd) (base : Heap) (k : Nat) (C : Addr) : Prop where
  T : OexC W.K C
  ini : ∃ (fI : Addr) (fd : FuncData), PySem.W.findIn W.K (.ref C) "__init__" = some (some (.ref fI)) ∧ PySem.W.typeIn W.K (.ref fI) = some (.type "function") ∧ Binds W.K fd ["self", "value"] [] ∧ InitD W base k C fI fd
def tMkS (X : Cx) (C : Addr) (ta : TA) : L2.St → Hp → XK → Prop := fun σ H Q => ta σ H fun vs H1 => ∃ v ad st p d, vs = [v] ∧ RO X.wd ad H1 st ∧ VR X.wd ad H1 p v ∧ qat st p = some d ∧ d.showable = true ∧ d.depth ≤ 60 ∧ d.shown.length ≤ MOST ∧
  ∀ dx, H1 dx = none → Q (.ref C) (some dx) (upd H1 dx (.xd [("value", v)]))
theorem make_gd {A : Around} {C : Addr} {us : List Value} {kw : List (Str × Value)} : (A.under (.builtin "type.__call__" ⟨.ref C :: us, kw⟩)).guards = A.guards := by
  first | rfl | simp [Around.under, Code.weight, Code.isCreation, Code.isGuard, Code.isCaller, Code.frames, Code.isFrame, guardIds]
section
variable {X : Cx} {C : Addr} {k : Nat} {x : Str} {p pos : Pos} {e : Expr} {ta : TA}
theorem pmk_oexS (EK : ExK X.wd X.base k C) (hr : Rm (k + 1) X.A) (hg : Gl X x) (hm : X.mg x = some (.ref C)) (ha : PA X [e] ta)
    (hdb : (x == ("__debug__" : Str)) = false := by decide) (he : starEach [e] X.env = (false, eval e X.env) :: starEach [] X.env := by rfl) (hpl : (backTo pos (starEach [] X.env)).any (·.1) = false := by rfl) :
    PMk X (.Call (.Name x p) [e] [] pos) (tMkS X C ta) := by
  intro pins s σ H Q I h
  obtain ⟨T, fI, fd, iC, tI, hb, F1⟩ := EK
  obtain ⟨nm, q, N, bs, bm, sn, sub, ab, col, dd, k0, k1, k2, k3, k5, hC, hbm⟩ := T.cls
  refine wpAny_Call_Name_kw (ld_glob I hg hm ?_ hdb)
  refine PySem.W.callWith_K (h₀ := X.base) I.ok.mod.kin T.kC (thn (ha.run pos pins s σ H _ I h) fun us s1 ⟨vs, H1, I1, r1, v, ad, st, p', d, ev, R, Vp, hd, h1, h3, h4, q1⟩ => ⟨I1.kIn, ?_⟩) he hpl
  subst ev
  show wpAny _ _ (call (.ref C) us) _ _ _
  obtain ⟨hp, g, dr, tk, os⟩ := s1
  have hsz : hp.objs.size ≤ hp.objs.size + 1 := Nat.le_succ _
  have hn : H1 (hp.objs.size + 1) = none := I1.hok.fresh hsz
  have kk : ∀ b o, hp.get? b = some o → ((hp.push (PySem.W.kdv_tup us)).push (PySem.HandSPX.excO C hp.objs.size)).get? b = some o := fun b o e => Heap.get?_push_of_some _ (Heap.get?_push_of_some _ e)
  have hget : ((hp.push (PySem.W.kdv_tup us)).push (PySem.HandSPX.excO C hp.objs.size)).get? (hp.objs.size + 1) = some (PySem.HandSPX.excO C hp.objs.size) := by heap_get
  have I2 : Inv X pins σ (upd H1 (hp.objs.size + 1) (exo (hp.objs.size + 1) C none)) ⟨(hp.push (PySem.W.kdv_tup us)).push (PySem.HandSPX.excO C hp.objs.size), g, dr, tk, os⟩ :=
    I1.laid (t' := tk) (a := hp.objs.size + 1) (o := exo (hp.objs.size + 1) C none) (h' := (hp.push (PySem.W.kdv_tup us)).push (PySem.HandSPX.excO C hp.objs.size)) kk hsz (exo_ok hget)
  match r1 with
  | .cons (b := u) ru .nil =>
    have r2 : Vals [V.ref (hp.objs.size + 1), v] [Value.ref (hp.objs.size + 1), u] := .cons rfl (.cons ru .nil)
    have hus : [u].length ≤ sizeLine := by rw [sizeLine_eq, List.length_singleton]; decide
    let Q' : VK := fun v' H2 => v' = .non ∧ ∃ (d : Addr) (fs : List (Str × V)), H2 (hp.objs.size + 1) = some (exo (hp.objs.size + 1) C (some d)) ∧ H2 d = some (exd d fs) ∧ H1 d = none ∧ Q (.ref C) (some d) (upd (del H2 (hp.objs.size + 1)) d (.xd fs))
    have hsp : spI X.wd C [V.ref (hp.objs.size + 1), v] (upd H1 (hp.objs.size + 1) (exo (hp.objs.size + 1) C none)) Q' := by
      refine ⟨hp.objs.size + 1, v, ad, st, p', d, rfl, upd_same, R.fresh hn, Vp.mono (.fresh hn), hd, h1, h3, h4, fun dx n ne => ?_⟩
      have n1 : H1 dx = none := by rw [upd_ne ne] at n; exact n
      refine ⟨rfl, dx, [("value", v)], upd_same, ?_, n1, ?_⟩
      · rw [upd_ne ne, upd_same]
      · have e : upd (del (upd (upd (upd H1 (hp.objs.size + 1) (exo (hp.objs.size + 1) C none)) dx (exd dx [("value", v)])) (hp.objs.size + 1) (exo (hp.objs.size + 1) C (some dx))) (hp.objs.size + 1)) dx (.xd [("value", v)]) = upd H1 dx (.xd [("value", v)]) := by
          funext b
          by_cases hb : b = dx
          · subst hb; rw [upd_same, upd_same]
          · rw [upd_ne hb, upd_ne hb]
            by_cases hb2 : b = hp.objs.size + 1
            · subst hb2; rw [del_same, hn]
            · rw [del_ne hb2, upd_ne hb2, upd_ne hb, upd_ne hb2]
        rw [e]
        exact q1 dx n1
    refine wpAny_call (PySem.HandSPX.call_own F.excBase_ValueError (fun Y => PySem.HandSPX.refsVE_contains Y bm hbm) (I1.kIn _ _ hC) (PySem.W.looks_findIn I1.kIn iC) (fun self => PySem.W.bind_fn I1.kIn self tI) hus
      (codeAny_mono (F1 _ X.stack _ _ ⟨[Value.ref (hp.objs.size + 1), u], []⟩ [Value.ref (hp.objs.size + 1), u] _ Q' ⟨hr.rm.make C [u] [], by rw [make_gd]; exact hr.gd⟩ (I2.env0.make C [u] []) (hb _ [Value.ref (hp.objs.size + 1), u] I2.kIn rfl) r2 hsp) fun r s' hq' => ?_))
    cases r with
    | error er => exact (show False from hq').elim
    | ok fl =>
      cases fl with
      | ret u =>
        obtain ⟨v, H2, os2, bare2, un2, hok2, rv, ev, d, fs, ea, ed, hd1, q2⟩ := hq'
        subst ev
        obtain ⟨h2, g2, d2, t2, os'⟩ := s'
        exact ⟨rv, mk_end (raises_own T.exC T.tyC) I1 hsz kk un2 hok2 os2 bare2 ea ed hd1 q2⟩
      | next => exact False.elim hq'
      | brk => exact False.elim hq'
      | cont => exact False.elim hq'
end
end Sg
set_option Elab.async false
set_option linter.all false
set_option maxRecDepth 100000
set_option maxHeartbeats 4000000
namespace Sg
open PySem PySem.Spec PyProof.Rows L2
/-- what is wanted of an exception -/
def XOk (W : Wd) (E : XK) (c : Str) (p : PV) (st : Store) (ad : List Addr) (H : Hp) : Prop :=
  ∀ ad' H', Ext ad H ad' H' → RO W ad' H' st → ∀ v, VR W ad' H' p v → ∀ C d, W.mg c = some (.ref C) → H' d = some (.xd [("value", v)]) → E (.ref C) (some d) H'
def RdZ {α : Type} (W : Wd) (E : XK) (r : Res α) (ad : List Addr) (H : Hp) (G : α → List Addr → Hp → Prop) : Prop := match r with
  | .ok x => ∀ ad' H', Ext ad H ad' H' → G x ad' H'
  | .exc c p st => XOk W E c p st ad H
  | .stuck => False
section
variable {W : Wd} {E : XK} {ad ad' : List Addr} {H H' : Hp} {st : Store} {α β : Type}
theorem XOk.mono {c : Str} {p : PV} (h : XOk W E c p st ad H) (e : Ext ad H ad' H') : XOk W E c p st ad' H' := fun ad2 H2 e2 => h ad2 H2 (e.trans e2)
theorem RdZ.mono {r : Res α} {G : α → List Addr → Hp → Prop} (h : RdZ W E r ad H G) (e : Ext ad H ad' H') : RdZ W E r ad' H' G := by
  cases r with
  | ok x => exact fun ad2 H2 e2 => h ad2 H2 (e.trans e2)
  | exc _ _ _ => exact XOk.mono h e
  | stuck => exact h
theorem RdZ.imp {r : Res α} {G G' : α → List Addr → Hp → Prop} (h : RdZ W E r ad H G) (g : ∀ x ad' H', r = .ok x → Ext ad H ad' H' → G x ad' H' → G' x ad' H') : RdZ W E r ad H G' := by
  cases r with
  | ok x => exact fun ad2 H2 e2 => g x ad2 H2 rfl e2 (h ad2 H2 e2)
  | exc _ _ _ => exact h
  | stuck => exact h
theorem RdZ.bind {r : Res α} {f : α → Res β} {G : β → List Addr → Hp → Prop} (h : RdZ W E (r >>= f) ad H G) : RdZ W E r ad H fun x ad' H' => RdZ W E (f x) ad' H' G := by
  cases r with
  | ok x => exact fun ad2 H2 e2 => RdZ.mono (r := f x) h e2
  | exc _ _ _ => exact h
  | stuck => exact h
theorem RdZ.ok {x : α} {G : α → List Addr → Hp → Prop} (h : RdZ W E (.ok x) ad H G) : G x ad H := h ad H (.refl ad H)
theorem RdZ.bind_ok {r : Res α} {f : α → Res β} {x : α} {G : β → List Addr → Hp → Prop} (h : RdZ W E (r >>= f) ad H G) (e : r = .ok x) : RdZ W E (f x) ad H G := by
  rw [e] at h; exact h
end
section
variable (W : Wd) (E : XK)
def RdXE (r : Res (PV × Store)) (ad : List Addr) (H : Hp) (Q : VK) : Prop := RdZ W E r ad H fun x ad' H' => RO W ad' H' x.2 → ∀ v, VR W ad' H' x.1 v → Q v H'
end
end Sg
set_option Elab.async false
set_option linter.all false
set_option maxRecDepth 100000
set_option maxHeartbeats 4000000
namespace Sg
open PySem PySem.Spec PyProof.Rows L2
def PmX (W : Wd) (n : Nat) (F : Fn) (vs : List V) (H : Hp) (Q : VK) (E : XK) : Prop := vs.length = n ∧ ∃ ad st ps, RO W ad H st ∧ VRs W ad H ps vs ∧ RdXE W E (F ps st) ad H Q
def FnX (W : Wd) (base : Heap) (k : Nat) (f : Addr) (fd : FuncData) (ps : List Str) (F : Fn) : Prop :=
  ∀ (A : Around) (o : List Env) (s : Shared) (H : Hp) (args : Args) (us : List Value) (vs : List V) (Q : VK) (E : XK), Rm k A → Env0 W.P W.w W.K W.mg base A o s H → BindsTo s fd args (ps.zip us) →
    Vals vs us → PmX W ps.length F vs H Q E → codeAny (model W.P W.w) A (.call (.ref f) args) (CR (L2.CX W.P W.w) o W.P W.w H s Q E) s
theorem FnX.mono {W : Wd} {base : Heap} {j k : Nat} {f : Addr} {fd : FuncData} {ps : List Str} {F : Fn} (h : FnX W base j f fd ps F) (q : j ≤ k) : FnX W base k f fd ps F :=
  fun A o s H args us vs Q E hr => h A o s H args us vs Q E (hr.mono q)
end Sg
set_option Elab.async false
set_option linter.all false
set_option maxRecDepth 100000
set_option maxHeartbeats 4000000
namespace Sg
open PySem PySem.Spec PyProof.Rows L2
theorem excO_ok {P : Program} {w : World} {H : Hp} {h : Heap} {C d a : Addr} {oe : Obj} {vs : Array Value} (e : h.get? a = some oe) (e1 : oe.cls = .ref C) (e2 : oe.dict = some d) (e3 : oe.data = .fields vs) : ObjOk P w H h a (ExcO C d a) :=
  ⟨⟨oe, vs, e, e1, e2, e3⟩, ⟨oe, e⟩, fun h1 h2 ⟨oe, vs, e, r⟩ st => ⟨oe, vs, st _ e, r⟩⟩
end Sg
set_option Elab.async false
set_option linter.all false
set_option maxRecDepth 100000
set_option maxHeartbeats 4000000
namespace Sg
open PySem PySem.Spec PyProof.Rows L2 LamX
end Sg
set_option Elab.async false
set_option linter.all false
set_option maxRecDepth 100000
set_option maxHeartbeats 4000000
namespace Sg
open PySem PySem.Spec PyProof.Rows L2 LamX
end Sg
set_option Elab.async false
set_option linter.all false
set_option maxRecDepth 100000
set_option maxHeartbeats 4000000
namespace Sg
open PySem PySem.Spec PyProof.Rows L2
/-- the classes of the package: what must be known of them -/
structure XCls (W : Wd) (cls : List Str) (sb : Str → Str → Bool) : Prop where
  ec : ∀ c ∈ cls, ∀ C, W.mg c = some (.ref C) → ExcC W.K C ∧ XfC W.K C ∧ PySem.W.findIn W.K (.ref C) "value" = some none
  kit : ∀ c ∈ cls, ∀ d ∈ cls, ∀ C D, W.mg c = some (.ref C) → W.mg d = some (.ref D) → PySem.W.kitOne W.K (.ref C) (.ref D) = some (sb c d)
def fnIsX (cls : List Str) (sb : Str → Str → Bool) : Fn := fun vs st => match vs with
  | [.ref i, .glb d] => match st[i]? with
    | some (.exn c _) => if c ∈ cls ∧ d ∈ cls then .ok (.bl (sb c d), st) else .stuck
    | some (.bex c) => if c ∈ cls ∧ d ∈ cls then .ok (.bl (sb c d), st) else .stuck
    | _ => .stuck
  | _ => .stuck
def eXval (cls : List Str) (m : EvE) : EvE := fun σ st => m σ st >>= fun x => match x.1 with
  | .ref i => match x.2[i]? with
    | some (.exn c p) => if c ∈ cls then .ok (p, x.2) else .stuck
    | _ => .stuck
  | _ => .stuck
section
variable {X : Cx} {cls : List Str} {sb : Str → Str → Bool} {pins : List (Addr × Obj)} {σ : L2.St} {H : Hp} {s : Shared}
theorem exn_inst (I : Inv X pins σ H s) {a C d : Addr} {v : V} (h1 : H a = some (ExcO C d a)) (h2 : H d = some (.xd [("value", v)])) : ∃ oe od vs mA, s.heap.get? a = some oe ∧ oe.data = .fields vs ∧ PySem.W.InstAt s.heap a oe C (some od) ∧ s.heap.Ns1 d mA ∧ s.heap.get? d = some od ∧ ∀ n, RelO (([("value", v)] : List (Str × V)).lookup n) (mA n) := by
  obtain ⟨⟨oe, vs, e, e1, e2, e3⟩, _⟩ := I.hok a _ h1
  obtain ⟨mA, hns, hr⟩ := I.hok d _ h2
  obtain ⟨od, ho, hl⟩ := lookIn_ns hns
  refine ⟨oe, od, vs, mA, e, e3, ⟨e, e1, by unfold PySem.W.notCls; rw [e3] <;> rfl, by rw [e2]; exact ho⟩, hns, ho, hr⟩
theorem bex_inst (I : Inv X pins σ H s) {a C : Addr} (h1 : H a = some (ExcB C a)) : ∃ oe vs, s.heap.get? a = some oe ∧ oe.data = .fields vs ∧ PySem.W.InstAt s.heap a oe C none := by
  obtain ⟨⟨oe, vs, e, e1, e2, e3⟩, _⟩ := I.hok a _ h1
  exact ⟨oe, vs, e, e3, ⟨e, e1, by unfold PySem.W.notCls; rw [e3] <;> rfl, by rw [e2]; trivial⟩⟩
theorem cd_isX (T : XCls X.wd cls sb) : CallR X (.builtin "isinstance") (rCOf X (fnIsX cls sb)) := by
  rintro pins s σ H xs us Q I rx ⟨ad, st, ps, R, Vs, h⟩
  unfold fnIsX at h
  split at h
  · rename_i i dn
    split at h
    · rename_i c p hst
      split at h
      · rename_i hc
        obtain ⟨v, w, e, r1, r2⟩ := Vs.two
        subst e
        cases r1 with
        | @ref _ a ha =>
          cases r2 with
          | @glb _ Dd hd =>
            obtain ⟨a', ha', C, d, v', h1, h2, h3, _⟩ := R.get hst
            rw [ha] at ha'; cases ha'
            cases rx with
            | cons rx rr =>
              cases rr with
              | cons rt rr =>
                cases rr
                cases rx
                cases rt
                obtain ⟨oe, od, vs, mA, _, _, J, _⟩ := exn_inst I h2 h3
                obtain ⟨CC, _⟩ := T.ec c hc.1 C h1
                have q : Q (.bl (sb c dn)) H := rdOk h R (.bl _)
                have hcl : (PySem.W.clsIn X.K C).isSome = true := by
                  obtain ⟨cd, hcd, _⟩ := PySem.W.any_some CC.hd
                  rw [hcd]; rfl
                exact PySem.W.kia_one (PySem.W.kitx_exc hcl CC.hg CC.hk CC.hs CC.ha CC.hn CC.ht CC.hm) I.kIn J (T.kit c hc.1 dn hc.2 C Dd h1 hd) (fun z => nomatch z) fun tk => ⟨.bl (sb c dn), H, I.kept (t' := tk) fun _ _ z => z, rfl, q⟩
      · exact h.elim
    · rename_i c hst
      split at h
      · rename_i hc
        obtain ⟨v, w, e, r1, r2⟩ := Vs.two
        subst e
        cases r1 with
        | @ref _ a ha =>
          cases r2 with
          | @glb _ Dd hd =>
            obtain ⟨a', ha', C, h1, h2⟩ := R.get hst
            rw [ha] at ha'; cases ha'
            cases rx with
            | cons rx rr =>
              cases rr with
              | cons rt rr =>
                cases rr
                cases rx
                cases rt
                obtain ⟨oe, vs, _, _, J⟩ := bex_inst I h2
                obtain ⟨CC, _⟩ := T.ec c hc.1 C h1
                have q : Q (.bl (sb c dn)) H := rdOk h R (.bl _)
                have hcl : (PySem.W.clsIn X.K C).isSome = true := by
                  obtain ⟨cd, hcd, _⟩ := PySem.W.any_some CC.hd
                  rw [hcd]; rfl
                exact PySem.W.kia_one (PySem.W.kitx_exc hcl CC.hg CC.hk CC.hs CC.ha CC.hn CC.ht CC.hm) I.kIn J (T.kit c hc.1 dn hc.2 C Dd h1 hd) (fun z => nomatch z) fun tk => ⟨.bl (sb c dn), H, I.kept (t' := tk) fun _ _ z => z, rfl, q⟩
      · exact h.elim
    · exact h.elim
  · exact h.elim
/-- e.value, e an exception -/
theorem se_xval {e : Expr} {m : EvE} {pos : Pos} (T : XCls X.wd cls sb) (he : SE X e m) (hb : attributeBase e "value" X.env (eval e X.env) = eval e X.env := by rfl) : SE X (.Attribute e "value" pos) (eXval cls m) := by
  refine ⟨fun pins s σ H Q I ⟨ad, st, σp, S, q⟩ => ?_⟩
  have t : tOfE X.wd m σ H fun x H1 => ∃ a C d v, x = .ref a ∧ H1 a = some (ExcO C d a) ∧ H1 d = some (.xd [("value", v)]) ∧ XfC X.K C ∧ PySem.W.findIn X.K (.ref C) "value" = some none ∧ Q v H1 := goE S q fun y ad1 H1 w e1 E1 S1 V1 q1 => by
    split at q1
    · rename_i i hy
      split at q1
      · rename_i c p hst
        split at q1
        · rename_i hc
          rw [hy] at V1
          cases V1 with
          | @ref _ a ha =>
            obtain ⟨a', ha', C, d, v', h1, h2, h3, h4⟩ := S1.ro.get hst
            rw [ha] at ha'; cases ha'
            obtain ⟨_, xf, hno⟩ := T.ec c hc C h1
            exact ⟨a, C, d, v', rfl, h2, h3, xf, hno, RdG.ok q1 S1.ro v' h4⟩
        · exact q1.elim
      · exact q1.elim
    · exact q1.elim
  refine attr_of hb (thn (he.run pins s σ H _ I t) fun u s1 hh => ?_)
  obtain ⟨x, H1, I1, rx, a, C, d, v, ex, h2, h3, xf, hno, q⟩ := hh
  subst ex
  obtain rfl : u = Value.ref a := rx
  obtain ⟨oe, od, vs, mA, _, _, J, hns, ho, hr⟩ := exn_inst I1 h2 h3
  obtain ⟨od', ho', hl⟩ := lookIn_ns hns
  rw [ho] at ho'; cases ho'
  obtain ⟨u, hu, ru⟩ := RelO.some_of (v := v) (o := mA "value") (hr "value")
  exact HandSPX.exc_get I1.kIn J xf.ga xf.gg xf.exC (PySem.W.findObj_own xf.hdC hno rfl (by rw [hl, hu])) (handed_of ru) ⟨v, H1, I1.tok _, ru, q⟩
end
end Sg
set_option Elab.async false
set_option linter.all false
set_option maxRecDepth 100000
set_option maxHeartbeats 4000000
namespace Sg
open PySem PySem.Spec PyProof.Rows L2 LamX
def PmH (W : Wd) (n : Nat) (F : Fn) (vs : List V) (H : Hp) (Q : VK) : Prop := vs.length = n ∧ ∃ ad st ps p v, RO W ad H st ∧ VRs W ad H ps vs ∧ VR W ad H p v ∧ RdE W (F (ps ++ [p]) st) ad H Q
def FnH (W : Wd) (base : Heap) (k : Nat) (f : Addr) (fd : FuncData) (ps : List Str) (F : Fn) : Prop :=
  ∀ (A : Around) (o : List Env) (s : Shared) (H : Hp) (args : Args) (us : List Value) (vs : List V) (Q : VK), Rm k A → Env0 W.P W.w W.K W.mg base A o s H → BindsTo s fd args (ps.zip us) →
    Vals vs us → PmH W ps.length F vs H Q → codeAny (model W.P W.w) A (.call (.ref f) args) (CR CX0 o W.P W.w H s Q noX) s
theorem FnH.mono {W : Wd} {base : Heap} {j k : Nat} {f : Addr} {fd : FuncData} {ps : List Str} {F : Fn} (h : FnH W base j f fd ps F) (q : j ≤ k) : FnH W base k f fd ps F :=
  fun A o s H args us vs Q hr => h A o s H args us vs Q (hr.mono q)
end Sg
set_option Elab.async false
set_option linter.all false
set_option maxRecDepth 100000
set_option maxHeartbeats 4000000
namespace Sg
open PySem PySem.W PySem.Spec PyProof.Rows L2 LamX
def isStrV : Value → Bool
  | .str _ _ => true
  | _ => false
def isIntV : Value → Bool
  | .int _ _ => true
  | _ => false
def isBoolV : Value → Bool
  | .bool _ => true
  | _ => false
theorem isStrV_ok {v : Value} (h : isStrV v = true) : ∃ s t, v = .str s t := by cases v <;> first | exact ⟨_, _, rfl⟩ | cases h
theorem isIntV_ok {v : Value} (h : isIntV v = true) : ∃ s t, v = .int s t := by cases v <;> first | exact ⟨_, _, rfl⟩ | cases h
theorem isBoolV_ok {v : Value} (h : isBoolV v = true) : ∃ s, v = .bool s := by cases v <;> first | exact ⟨_, rfl⟩ | cases h
/-- a code object of the head, its table at P -/
structure CodeK (K : PySem.W.Frag) (c P : Addr) : Prop where
  ex : ∃ (dd : Option Addr) (vs : Array Value) (sl : Array (Option Value)), K.lookup c = some ⟨.type "code", dd, .fields vs, sl⟩ ∧ vs[11]? = some (.ref P) ∧ vs.getD 11 .none = .ref P ∧ isStrV (vs.getD 18 .none) = true ∧ isIntV (vs.getD 7 .none) = true ∧ isBoolV (vs.getD 9 .none) = true ∧ isIntV (vs.getD 10 .none) = true
  ne : c ≠ P
  nP : K.lookup P = none
theorem CodeK.hd {K : PySem.W.Frag} {c P : Addr} (x : CodeK K c P) {h : Heap} (k : K.In h) : PySem.W.CodeHd h c P := by
  obtain ⟨⟨dd, vs, sl, l, h1, h2, h3, h4, h5, h6⟩, ne, _⟩ := x
  obtain ⟨a1, a2, e1⟩ := isStrV_ok h3
  obtain ⟨b1, b2, e2⟩ := isIntV_ok h4
  obtain ⟨c1, e3⟩ := isBoolV_ok h5
  obtain ⟨d1, d2, e4⟩ := isIntV_ok h6
  exact ⟨_, vs, a1, a2, b1, b2, c1, d1, d2, k _ _ l, rfl, rfl, h1, h2, e1, e2, e3, e4, ne⟩
/-- a def whose code object is c -/
def DefT (K : PySem.W.Frag) (x : Str) (st : Stmt) (c : Addr) : Prop := ∃ (f : Addr) (fd : FuncData), PySem.W.nsIn K mainGlobals x = some (some (.ref f)) ∧ FunD K x x (L2.defArgs st) (L2.defBody st) (L2.defScope st) [] [] f fd ∧ fd.code = .ref c
theorem DefT.tab {W : Wd} {h : Heap} {x : Str} {st : Stmt} {c P : Addr} (D : DefT W.K x st c) (KX : W.K.In h) (G : h.Ns mainGlobals W.mg) (C : CodeK W.K c P) : TabAt W x P := by
  obtain ⟨f, fd, a, F, e⟩ := D
  obtain ⟨oc, od, dV, kV, doc, pm, an, cdv, ct, osl, rfl, lk, _⟩ := F.ex
  obtain ⟨dd, vs, sl, l, h1, _⟩ := C.ex
  exact ⟨f, c, oc, _, od, dd, _, vs, osl, sl, PySem.W.mg_of KX G a, lk, e, l, h1⟩
end Sg
set_option Elab.async false
set_option linter.all false
set_option maxRecDepth 100000
set_option maxHeartbeats 4000000
namespace Sg
open PySem PySem.W PySem.Spec PyProof.Rows L2
/-- the first def of a class -/
def clsInit : Stmt → Stmt
  | .ClassDef _ _ _ body _ _ _ _ _ _ _ => body.getD 0 (.Pass ⟨0, 0, 0, 0⟩)
  | s => s
/-- the base class -/
structure SupK (K : PySem.W.Frag) (S : Addr) : Prop where
  gS : PySem.W.nsIn K mainGlobals "StackError" = some (some (.ref S))
  sup : SupC K S
  ex : PySem.W.subIn K (.ref S) (.type "BaseException") = some true
  hd : PySem.W.hasDictIn K S = true
  ty : PySem.W.typeIn K (.ref S) = some (.type "type")
  kn : PySem.W.specialIn K (.builtin "object.__class__") "__get__" = some (some (.builtin "getset_descriptor.__get__"))
  kt : PySem.W.takesIn K (.builtin "object.__class__") = some true
theorem supK {K : PySem.W.Frag} {S : Addr} (gS : PySem.W.nsIn K mainGlobals "StackError" = some (some (.ref S))) (rd : PySem.W.readsIn K S (.type "type") = true) (ga : PySem.W.specialIn K (.ref S) "__getattribute__" = some (some (.builtin "type.__getattribute__")))
    (vV : PySem.W.findCls K (.ref S) (.type "type") "__init__" = some (.val (.builtin "ValueError.__init__"))) (ex : PySem.W.subIn K (.ref S) (.type "BaseException") = some true) (hd : PySem.W.hasDictIn K S = true) (ty : PySem.W.typeIn K (.ref S) = some (.type "type"))
    (kn : PySem.W.specialIn K (.builtin "object.__class__") "__get__" = some (some (.builtin "getset_descriptor.__get__"))) (kt : PySem.W.takesIn K (.builtin "object.__class__") = some true) : SupK K S := ⟨gS, ⟨rd, ga, vV⟩, ex, hd, ty, kn, kt⟩
/-- a class of the package with its own __init__ -/
structure DefC (K : PySem.W.Frag) (c : Str) (st : Stmt) (S C : Addr) : Prop where
  g : PySem.W.nsIn K mainGlobals c = some (some (.ref C))
  ox : OexC K C
  ini : ∃ (fI : Addr) (fd : FuncData), PySem.W.findIn K (.ref C) "__init__" = some (some (.ref fI)) ∧ PySem.W.typeIn K (.ref fI) = some (.type "function") ∧ FunD K "__init__" (c ++ ".__init__") (L2.defArgs (clsInit st)) (L2.defBody (clsInit st)) (L2.defScope (clsInit st)) [] [] fI fd
  ga : PySem.W.findIn K (.ref C) "__getattribute__" = some (some (.builtin "BaseException.__getattribute__"))
  gg : PySem.W.findIn K (.ref C) "__getattr__" = some none
  hd : PySem.W.hasDictIn K C = true
  ha : PySem.W.findIn K (.ref C) "__class__" = some (some (.builtin "object.__class__"))
  hm : PySem.W.mroIn K C (.type "object") = some true
  va : PySem.W.findIn K (.ref C) "value" = some none
  up : PySem.W.subIn K (.ref C) (.ref S) = some true
theorem defC {K : PySem.W.Frag} {c q : Str} {st : Stmt} {S C fI : Addr} {nm q2 : Str} {N : Addr} {bs bm : List Value} {sn : List Str} {sub : List Value} {ab : Bool} {col : Option Bool} {dd : Option Addr} {k0 k1 k2 k3 k5 : Option Value} {od an : Option Addr} {sl : Array (Option Value)} {oc kV dc pm cd ct : Value}
    (g : PySem.W.nsIn K mainGlobals c = some (some (.ref C))) (x : K.lookup C = some (excClassObj nm q2 C N bs bm true sn sub ab col dd k0 k1 k2 k3 k5 "ValueError.__new__")) (xv : PySem.HandSPX.refsVE bm = true)
    (sa : PySem.W.findIn K (.ref C) "__setattr__" = some (some (.builtin "object.__setattr__"))) (exC : PySem.W.subIn K (.ref C) (.type "BaseException") = some true) (tyC : PySem.W.typeIn K (.ref C) = some (.type "type")) (kC : PySem.W.keepIn K (.ref C) = true)
    (iC : PySem.W.findIn K (.ref C) "__init__" = some (some (.ref fI))) (tI : PySem.W.typeIn K (.ref fI) = some (.type "function"))
    (l : K.lookup fI = some ⟨oc, od, .func (PySem.W.fnOf "__init__" q (L2.defArgs (clsInit st)) (L2.defBody (clsInit st)) (L2.defScope (clsInit st)) .none kV dc pm an cd ct), sl⟩) (cc : PySem.W.codeIn K cd q = true) (k : PySem.W.keepIn K (.ref fI) = true)
    (ga : PySem.W.findIn K (.ref C) "__getattribute__" = some (some (.builtin "BaseException.__getattribute__"))) (gg : PySem.W.findIn K (.ref C) "__getattr__" = some none) (hd : PySem.W.hasDictIn K C = true) (ha : PySem.W.findIn K (.ref C) "__class__" = some (some (.builtin "object.__class__")))
    (hm : PySem.W.mroIn K C (.type "object") = some true) (va : PySem.W.findIn K (.ref C) "value" = some none) (up : PySem.W.subIn K (.ref C) (.ref S) = some true) (hq : q = c ++ ".__init__") : DefC K c st S C := by
  subst hq
  exact ⟨g, ⟨⟨nm, q2, N, bs, bm, sn, sub, ab, col, dd, k0, k1, k2, k3, k5, x, xv⟩, sa, exC, tyC, kC⟩, ⟨fI, _, iC, tI, ⟨oc, od, .none, kV, dc, pm, an, cd, ct, sl, rfl, l, cc, Or.inl ⟨rfl, rfl⟩, Or.inl rfl⟩, k⟩, ga, gg, hd, ha, hm, va, up⟩
/-- how such an __init__ binds -/
def BindI (st : Stmt) (c : Str) : Prop := ∀ (kV doc pm : Value) (an : Option Addr) (cdv ct : Value) (us : List Value), us.length = 2 →
  bindArgs (PySem.W.fnOf "__init__" (c ++ ".__init__") (L2.defArgs (clsInit st)) (L2.defBody (clsInit st)) (L2.defScope (clsInit st)) .none kV doc pm an cdv ct) ⟨us, []⟩ = pure ((["self", "value"] : List Str).zip us)
/-- the text of such a class -/
structure ClsB (c : Str) (st : Stmt) : Prop where
  ib : InitB (L2.defBody (clsInit st))
  sc : FnScope ["self", "value"] ["self", "value"] (L2.defScope (clsInit st))
  gl : (L2.defScope (clsInit st)).names.lookup ("StackError" : Str) = some NameKind.globalImplicit
  bi : BindI st c
theorem DefC.exK {W : Wd} {h base : Heap} {c : Str} {st : Stmt} {S C : Addr} (D : DefC W.K c st S C) (B : ClsB c st) (T : SupK W.K S) (KX : W.K.In h) (G : h.Ns mainGlobals W.mg) (Bs : SysB base) : W.mg c = some (.ref C) ∧ ExK W base 1 C := by
  obtain ⟨fI, fd, iC, tI, F⟩ := D.ini
  refine ⟨PySem.W.mg_of KX G D.g, D.ox, fI, fd, iC, tI, ?_, initD_of F B.sc B.ib Bs B.gl (PySem.W.mg_of KX G T.gS) T.sup D.ox D.va⟩
  obtain ⟨oc, od, dV, kV, doc, pm, an, cdv, ct, osl, rfl, lk, hcd, hD, hK⟩ := F.ex
  rcases hD with ⟨_, rfl⟩ | ⟨e, _⟩
  · exact .all fun us hl => B.bi kV doc pm an cdv ct us hl
  · exact absurd rfl e
theorem kitOne_of {K : PySem.W.Frag} {C D : Addr} {b : Bool} (hc : PySem.W.hasDictIn K D = true) (ht : PySem.W.typeIn K (.ref D) = some (.type "type")) (hs : PySem.W.subIn K (.ref C) (.ref D) = some b) (he : C = D → b = true) : PySem.W.kitOne K (.ref C) (.ref D) = some b := by
  obtain ⟨cd, hcd, _⟩ := PySem.W.any_some hc
  unfold PySem.W.kitOne
  by_cases h : C = D
  · subst h
    rw [if_pos (by simp), he rfl]
  · rw [if_neg (by simpa using h)]
    unfold PySem.W.kitCls
    show (if ((PySem.W.clsIn K D).isSome && PySem.W.typeIn K (.ref D) == some (.type "type")) = true then PySem.W.subIn K (.ref C) (.ref D) else none) = some b
    rw [hcd, ht, if_pos (by first | rfl | decide)]
    exact hs
theorem DefC.ec {K : PySem.W.Frag} {c : Str} {st : Stmt} {S C : Addr} (D : DefC K c st S C) (T : SupK K S) : ExcC K C ∧ XfC K C ∧ PySem.W.findIn K (.ref C) "value" = some none :=
  ⟨⟨D.ga, D.gg, D.ox.exC, D.hd, D.ha, T.kn, T.kt, D.hm⟩, ⟨D.ga, D.gg, D.ox.exC, D.hd⟩, D.va⟩
/-- classes: one is no other's -/
abbrev sbEq : Str → Str → Bool := fun c d => decide (c = d)
inductive DefCs (K : PySem.W.Frag) (S : Addr) : List (Str × Addr) → Prop
  | nil : DefCs K S []
  | cons {c : Str} {st : Stmt} {C : Addr} {l : List (Str × Addr)} : DefC K c st S C → (∀ q ∈ l, q.1 ≠ c ∧ C ≠ q.2 ∧ PySem.W.subIn K (.ref C) (.ref q.2) = some false ∧ PySem.W.subIn K (.ref q.2) (.ref C) = some false) → DefCs K S l → DefCs K S ((c, C) :: l)
theorem DefCs.at {K : PySem.W.Frag} {S : Addr} {l : List (Str × Addr)} (D : DefCs K S l) : ∀ q ∈ l, ∃ st, DefC K q.1 st S q.2 := by
  induction D with
  | nil => intro q h; cases h
  | cons d _ _ ih =>
    intro q h
    rcases List.mem_cons.mp h with rfl | h
    · exact ⟨_, d⟩
    · exact ih q h
theorem DefCs.kit {K : PySem.W.Frag} {S : Addr} {l : List (Str × Addr)} (D : DefCs K S l) : ∀ q ∈ l, ∀ r ∈ l, PySem.W.kitOne K (.ref q.2) (.ref r.2) = some (sbEq q.1 r.1) := by
  induction D with
  | nil => intro q h; cases h
  | @cons c st C l d hs _ ih =>
    rename_i Ds
    intro q hq r hr
    rcases List.mem_cons.mp hq with rfl | hq
    · rcases List.mem_cons.mp hr with rfl | hr
      · unfold PySem.W.kitOne
        rw [if_pos (by simp)]
        simp [sbEq]
      · obtain ⟨n, nC, s1, _⟩ := hs r hr
        obtain ⟨st', dr⟩ := Ds.at r hr
        have e : sbEq c r.1 = false := by simp [sbEq, Ne.symm n]
        show PySem.W.kitOne K (.ref C) (.ref r.2) = some (sbEq c r.1)
        rw [e]
        exact kitOne_of dr.hd dr.ox.tyC s1 fun z => absurd z nC
    · rcases List.mem_cons.mp hr with rfl | hr
      · obtain ⟨n, nC, _, s2⟩ := hs q hq
        have e : sbEq q.1 c = false := by simp [sbEq, n]
        show PySem.W.kitOne K (.ref q.2) (.ref C) = some (sbEq q.1 c)
        rw [e]
        exact kitOne_of d.hd d.ox.tyC s2 fun z => absurd z.symm nC
      · exact ih q hq r hr
/-- c, a class of the package -/
def ClsIs (W : Wd) (c : Str) : Prop := ∃ C, W.mg c = some (.ref C)
theorem se_cls {X : Cx} {c : Str} {pos : Pos} (h : ClsIs X.wd c) (hg : Gl X c := by rfl) (hd : (c == ("__debug__" : Str)) = false := by decide) : SE X (.Name c pos) (eC (.glb c)) := by
  obtain ⟨C, h⟩ := h
  exact se_glob hg h (v := .ref C) rfl (fun _ _ => .glb h) hd
end Sg
set_option Elab.async false
set_option linter.all false
set_option maxRecDepth 100000
set_option maxHeartbeats 4000000
namespace Vg
open PySem hiding Env
open Sg
section
variable {ε α β : Type}
/-- exceptions are no statement -/
def noXV (r : R ε α) : R ε α := match r with
  | .ex _ => .no
  | r => r
@[simp] theorem noXV_of (a : α) : noXV (R.ok a : R ε α) = .ok a := rfl
end
/-- nothing in it may change -/
def AllSh (env : Env) : Prop := ∀ k v, mutV env k ≠ some v
/-- what a callee that owns nothing leaves to its caller -/
theorem Go.call {F F' : FF} {env envc envc' : Env} {σ σc σc' : Slots} {st st' : Store} (r : RR F env σ st) (g : Go F envc σc st F' envc' σc' st') (ha : AllSh envc) : Go F env σ st F' env σ st' := by
  have nO : ∀ i, ¬ Ow envc σc i := fun i ⟨k, v, h, _⟩ => ha k v h
  have fr : ∀ i, i < st.length → st'[i]? = st[i]? ∧ F' i = F i := fun i hi => g.frm i hi (nO i)
  refine ⟨⟨r.len, g.rr.sub, g.rr.wf, fun k v q => ?_, fun k v q => ?_, fun k p q => refsLt_mono g.le _ (r.rf k p q), r.dj⟩, g.ext, fun i hi _ => fr i hi, g.le, fun i q => .inl q, fun k v q => ⟨rfl, v, q⟩⟩
  · obtain ⟨p, h1, h2⟩ := r.sh k v q
    exact ⟨p, h1, h2.mono g.ext⟩
  · obtain ⟨i, o, h1, h2, h3, h4⟩ := r.mu k v q
    obtain ⟨f1, f2⟩ := fr i (get_lt h3)
    exact ⟨i, o, h1, f2.trans h2, f1.trans h3, h4.mono g.ext⟩
theorem VReps.len {F : FF} : ∀ {vs : List NV} {ps : List PV}, VReps F vs ps → vs.length = ps.length
  | _, _, .nil => rfl
  | _, _, .cons _ b => by rw [List.length_cons, List.length_cons, VReps.len b]
end Vg
set_option Elab.async false
set_option linter.all false
set_option maxRecDepth 100000
set_option maxHeartbeats 4000000
namespace Vg
open PySem hiding Env
open Sg
def vfIsX (cls : List Str) (sb : Str → Str → Bool) : List NV → Option EV
  | [.exn c _, .glb d] => if c ∈ cls ∧ d ∈ cls then some (.im (.bl (sb c d))) else none
  | [.bex c, .glb d] => if c ∈ cls ∧ d ∈ cls then some (.im (.bl (sb c d))) else none
  | _ => none
theorem LRep.bex {F : FF} {st : Store} {c : Str} {p : PV} (s : Sub F st) (h : LRep F st (.bex c) p) : ∃ i, p = .ref i ∧ st[i]? = some (.bex c) := by
  rcases h with h | ⟨i, _, rfl, h1, h⟩
  · cases h with | bex q => exact ⟨_, rfl, s _ _ q⟩
  · cases h
theorem LRep.exn {F : FF} {st : Store} {c : Str} {v : NV} {p : PV} (s : Sub F st) (h : LRep F st (.exn c v) p) : ∃ i q, p = .ref i ∧ st[i]? = some (.exn c q) ∧ VRep F v q := by
  rcases h with h | ⟨i, _, rfl, h1, h⟩
  · cases h with | exn q r => exact ⟨_, _, rfl, s _ _ q, r⟩
  · cases h
theorem fv_isX {cls : List Str} {sb : Str → Str → Bool} : FnV (fnIsX cls sb) (vfIsX cls sb) := fun F st vs ps s h ev q => by
  unfold vfIsX at q
  split at q
  · rename_i c v d
    split at q
    · rename_i hc
      simp only [Option.some.injEq] at q; subst q
      obtain ⟨p1, p2, rfl, h1, h2⟩ := h.two
      obtain ⟨i, p', rfl, e1, _⟩ := h1.exn s
      have e2 : p2 = .glb d := by
        rcases h2 with h2 | ⟨i, _, _, _, h2⟩ <;> cases h2
        rfl
      subst e2
      exact ⟨.bl (sb c d), st, by simp only [fnIsX, e1]; rw [if_pos hc], .im (.bl _)⟩
    · cases q
  · rename_i c d
    split at q
    · rename_i hc
      simp only [Option.some.injEq] at q; subst q
      obtain ⟨p1, p2, rfl, h1, h2⟩ := h.two
      obtain ⟨i, rfl, e1⟩ := h1.bex s
      have e2 : p2 = .glb d := by
        rcases h2 with h2 | ⟨i, _, _, _, h2⟩ <;> cases h2
        rfl
      subst e2
      exact ⟨.bl (sb c d), st, by simp only [fnIsX, e1]; rw [if_pos hc], .im (.bl _)⟩
    · cases q
  · cases q
def vXval (cls : List Str) (a : VE) : VE := fun env => a env >>= fun x => ofO (x.1.get x.2) >>= fun v => match v with
  | .exn c w => if c ∈ cls then .ok (.im w, x.2) else .no
  | _ => .no
theorem re_xval {cls : List Str} {a : EvE} {a' : VE} (ha : RE a a') : RE (eXval cls a) (vXval cls a') := fun F env σ st r ev env' h => by
  simp only [vXval, R.bind_ok, ofO_ok] at h
  obtain ⟨⟨e, env1⟩, h1, v, h2, h3⟩ := h
  obtain ⟨p, st1, F1, e1, G1, v1⟩ := ha F env σ st r e env1 h1
  split at h3
  · rename_i c w
    split at h3
    · rename_i hc
      cases h3
      obtain ⟨i, q, rfl, q1, q2⟩ := (v1.get G1.rr h2).exn G1.rr.sub
      refine ⟨q, st1, F1, ?_, G1, q2⟩
      unfold eXval
      rw [e1]
      show (match st1[i]? with | some (.exn c p) => _ | _ => _) = _
      rw [q1]
      exact if_pos hc
    · cases h3
  · cases h3
mutual
def cp : NV → Option PV
  | .non => some .non
  | .bl b => some (.bl b)
  | .int i => some (.int i)
  | .str s => some (.str s)
  | .tup xs => (cps xs).map .tup
  | _ => none
def cps : List NV → Option (List PV)
  | [] => some []
  | x :: r => (cp x).bind fun p => (cps r).map (p :: ·)
end
/-- slots of shared values -/
structure ShR (F : FF) (n : Nat) (E : Env) (S : Slots) : Prop where
  len : E.length = S.length
  all : AllSh E
  sh : ∀ (k : Nat) v, E[k]? = some (.sh v) → ∃ p, S[k]? = some (some p) ∧ VRep F v p
  rf : ∀ (k : Nat) p, S[k]? = some (some p) → refsLt n p = true
theorem ShR.put {F : FF} {n : Nat} {E : Env} {S : Slots} (h : ShR F n E S) (i : Nat) {v : NV} {p : PV} (V : VRep F v p) (R : refsLt n p = true) : ShR F n (E.set i (.sh v)) (S.set i (some p)) := by
  refine ⟨by rw [List.length_set, List.length_set, h.len], fun k w q => ?_, fun k w q => ?_, fun k q e => ?_⟩
  · rcases mutV_set q with ⟨_, e⟩ | ⟨_, e⟩
    · cases e
    · exact h.all k w e
  · rcases set_get q with ⟨rfl, e, hk⟩ | ⟨hk, e⟩
    · cases e
      exact ⟨p, List.getElem?_set_self (by rw [← h.len]; exact hk), V⟩
    · obtain ⟨p', e1, e2⟩ := h.sh k w e
      exact ⟨p', by rw [List.getElem?_set_ne (Ne.symm hk)]; exact e1, e2⟩
  · by_cases hk : k = i
    · subst hk
      by_cases hl : k < S.length
      · rw [List.getElem?_set_self hl] at e
        cases e; exact R
      · rw [List.getElem?_eq_none (by rw [List.length_set]; omega)] at e; cases e
    · rw [List.getElem?_set_ne (Ne.symm hk)] at e
      exact h.rf k q e
theorem ShR.drop {F : FF} {n : Nat} {E : Env} {S : Slots} (h : ShR F n E S) (i : Nat) : ShR F n (E.set i .un) (S.set i none) := by
  refine ⟨by rw [List.length_set, List.length_set, h.len], fun k w q => ?_, fun k w q => ?_, fun k q e => ?_⟩
  · rcases mutV_set q with ⟨_, e⟩ | ⟨_, e⟩
    · cases e
    · exact h.all k w e
  · rcases set_get q with ⟨rfl, e, hk⟩ | ⟨hk, e⟩
    · cases e
    · obtain ⟨p', e1, e2⟩ := h.sh k w e
      exact ⟨p', by rw [List.getElem?_set_ne (Ne.symm hk)]; exact e1, e2⟩
  · by_cases hk : k = i
    · subst hk
      by_cases hl : k < S.length
      · rw [List.getElem?_set_self hl] at e
        cases e
      · rw [List.getElem?_eq_none (by rw [List.length_set]; omega)] at e; cases e
    · rw [List.getElem?_set_ne (Ne.symm hk)] at e
      exact h.rf k q e
end Vg
set_option Elab.async false
set_option linter.all false
set_option maxRecDepth 100000
set_option maxHeartbeats 4000000
namespace Sg
open PySem PySem.W PySem.Spec PyProof.Rows L2
end Sg
namespace Vg
open PySem hiding Env
open Sg
theorem re_glb {c : Str} : RE (eC (.glb c)) (vC (.glb c)) := fun F env σ st r ev env' h => by
  simp only [vC, R.ok.injEq, Prod.mk.injEq] at h
  obtain ⟨rfl, rfl⟩ := h
  exact ⟨_, st, F, rfl, .refl r, .glb c⟩
end Vg
set_option Elab.async false
set_option linter.all false
set_option maxRecDepth 100000
set_option maxHeartbeats 4000000
namespace Sg
open PySem PySem.Spec PyProof.Rows L2
end Sg
namespace Vg
open PySem Sg
section
variable {F : FF} {env : Env} {σ : Slots} {st : Store}
theorem RR.drop (r : RR F env σ st) {j : Nat} {v : NV} (hj : env[j]? = some (.ow v)) {i : Nat} (hi : σ[j]? = some (some (.ref i))) (hF : F i = none) : Go F env σ st F (env.set j .un) σ (st.set i .dead) := by
  have hjl : j < env.length := (List.getElem?_eq_some_iff.mp hj).1
  have mj : mutV env j = some v := by unfold mutV; rw [hj]; rfl
  have get : ∀ {k : Nat} {s : Sl}, (env.set j .un)[k]? = some s → s ≠ .un → k ≠ j ∧ env[k]? = some s := fun {k s} q hs => by
    by_cases e : k = j
    · subst e
      rw [List.getElem?_set_self hjl] at q
      exact absurd (Option.some.inj q).symm hs
    · rw [List.getElem?_set_ne (fun z => e z.symm)] at q
      exact ⟨e, q⟩
  have mget : ∀ {k : Nat} {w : NV}, mutV (env.set j .un) k = some w → k ≠ j ∧ mutV env k = some w := fun {k w} q => by
    by_cases e : k = j
    · subst e
      unfold mutV at q
      rw [List.getElem?_set_self hjl] at q
      cases q
    · refine ⟨e, ?_⟩
      unfold mutV at q ⊢
      rw [List.getElem?_set_ne (fun z => e z.symm)] at q
      exact q
  have hst : ∃ o, st[i]? = some o := by
    obtain ⟨i', o, h1, _, h3, _⟩ := r.mu j v mj
    rw [hi] at h1
    cases h1
    exact ⟨o, h3⟩
  obtain ⟨o, hst⟩ := hst
  have il := get_lt hst
  refine ⟨⟨by rw [List.length_set]; exact r.len, fun k o q => ?_, fun k o q => ?_, fun k w q => ?_, fun k w q => ?_, fun k p q => by rw [List.length_set]; exact r.rf k p q, fun k l w u c q1 q2 q3 q4 => ?_⟩, fun _ _ q => q, fun k hk hn => ?_, by rw [List.length_set]; exact Nat.le_refl _, fun k ⟨l, w, q1, q2⟩ => .inl ⟨l, w, (mget q1).2, q2⟩, fun k w q => ?_⟩
  · rw [set_getP il, if_neg (fun e => by subst e; rw [hF] at q; cases q)]; exact r.sub k o q
  · rw [List.length_set]
    rw [set_getP il] at q
    split at q
    · cases q; rfl
    · exact r.wf k o q
  · exact r.sh k w (get q (by simp)).2
  · obtain ⟨hk, q⟩ := mget q
    obtain ⟨c, o, h1, h2, h3, h4⟩ := r.mu k w q
    refine ⟨c, o, h1, h2, ?_, h4⟩
    rw [set_getP il, if_neg (fun e => hk (r.dj k j w v i q mj (by rw [e]; exact h1) hi))]; exact h3
  · exact r.dj k l w u c (mget q1).2 (mget q2).2 q3 q4
  · refine ⟨?_, rfl⟩
    rw [set_getP il, if_neg (fun e => hn ⟨j, v, mj, by rw [← e]; exact hi⟩)]
  · by_cases e : k = j
    · subst e; rw [hj] at q; cases q
    · exact ⟨rfl, w, by rw [List.getElem?_set_ne (fun z => e z.symm)]; exact q⟩
end
end Vg
set_option Elab.async false
set_option linter.all false
set_option maxRecDepth 100000
set_option maxHeartbeats 4000000
namespace Sg
open PySem PySem.Spec PyProof.Rows L2
end Sg
namespace Vg
open PySem Sg
end Vg
set_option Elab.async false
set_option linter.all false
set_option maxRecDepth 100000
set_option maxHeartbeats 4000000
namespace Sg
open PySem PySem.Spec PyProof.Rows L2
end Sg
set_option Elab.async false
set_option linter.all false
set_option maxRecDepth 100000
set_option maxHeartbeats 4000000
namespace Vg
open PySem hiding Env
open Sg
end Vg
set_option Elab.async false
set_option linter.all false
set_option maxRecDepth 100000
set_option maxHeartbeats 4000000
namespace Sg
open PySem PySem.Spec PyProof.Rows L2
def fnIsXV (cls : List Str) : Fn := fun vs st => match vs with
  | [.ref i, .ty "ValueError"] => match st[i]? with
    | some (.exn c _) => if c ∈ cls then .ok (.bl true, st) else .stuck
    | some (.bex c) => if c ∈ cls then .ok (.bl true, st) else .stuck
    | _ => .stuck
  | _ => .stuck
/-- that the classes are ValueErrors -/
def XVe (W : Wd) (cls : List Str) : Prop := ∀ c ∈ cls, ∀ C, W.mg c = some (.ref C) → PySem.W.kitOne W.K (.ref C) (.type "ValueError") = some true
theorem kitOne_ve {K : PySem.W.Frag} {C : Addr} (h : PySem.W.subIn K (.ref C) (.type "ValueError") = some true) : PySem.W.kitOne K (.ref C) (.type "ValueError") = some true := by
  unfold PySem.W.kitOne
  rw [if_neg (by simp)]
  unfold PySem.W.kitCls
  show (if PySem.W.kitMeta "ValueError" = true then PySem.W.subIn K (.ref C) (.type "ValueError") else none) = some true
  rw [if_pos (by decide +kernel), h]
section
variable {X : Cx} {cls : List Str} {sb : Str → Str → Bool} {pins : List (Addr × Obj)} {σ : L2.St} {H : Hp} {s : Shared}
theorem cd_isXV (T : XCls X.wd cls sb) (TV : XVe X.wd cls) : CallR X (.builtin "isinstance") (rCOf X (fnIsXV cls)) := by
  rintro pins s σ H xs us Q I rx ⟨ad, st, ps, R, Vs, h⟩
  unfold fnIsXV at h
  split at h
  · rename_i i
    split at h
    · rename_i c p hst
      split at h
      · rename_i hc
        obtain ⟨v, w, e, r1, r2⟩ := Vs.two
        subst e
        cases r1 with
        | @ref _ a ha =>
          cases r2 with
          | ty =>
            obtain ⟨a', ha', C, d, v', h1, h2, h3, _⟩ := R.get hst
            rw [ha] at ha'; cases ha'
            cases rx with
            | cons rx rr =>
              cases rr with
              | cons rt rr =>
                cases rr
                cases rx
                cases rt
                obtain ⟨oe, od, vs, mA, _, _, J, _⟩ := exn_inst I h2 h3
                obtain ⟨CC, _⟩ := T.ec c hc C h1
                have q : Q (.bl true) H := rdOk h R (.bl _)
                have hcl : (PySem.W.clsIn X.K C).isSome = true := by
                  obtain ⟨cd, hcd, _⟩ := PySem.W.any_some CC.hd
                  rw [hcd]; rfl
                exact PySem.W.kia_one (PySem.W.kitx_exc hcl CC.hg CC.hk CC.hs CC.ha CC.hn CC.ht CC.hm) I.kIn J (TV c hc C h1) (fun z => nomatch z) fun tk => ⟨.bl true, H, I.kept (t' := tk) fun _ _ z => z, rfl, q⟩
      · exact h.elim
    · rename_i c hst
      split at h
      · rename_i hc
        obtain ⟨v, w, e, r1, r2⟩ := Vs.two
        subst e
        cases r1 with
        | @ref _ a ha =>
          cases r2 with
          | ty =>
            obtain ⟨a', ha', C, h1, h2⟩ := R.get hst
            rw [ha] at ha'; cases ha'
            cases rx with
            | cons rx rr =>
              cases rr with
              | cons rt rr =>
                cases rr
                cases rx
                cases rt
                obtain ⟨oe, vs, _, _, J⟩ := bex_inst I h2
                obtain ⟨CC, _⟩ := T.ec c hc C h1
                have q : Q (.bl true) H := rdOk h R (.bl _)
                have hcl : (PySem.W.clsIn X.K C).isSome = true := by
                  obtain ⟨cd, hcd, _⟩ := PySem.W.any_some CC.hd
                  rw [hcd]; rfl
                exact PySem.W.kia_one (PySem.W.kitx_exc hcl CC.hg CC.hk CC.hs CC.ha CC.hn CC.ht CC.hm) I.kIn J (TV c hc C h1) (fun z => nomatch z) fun tk => ⟨.bl true, H, I.kept (t' := tk) fun _ _ z => z, rfl, q⟩
      · exact h.elim
    · exact h.elim
  · exact h.elim
end
end Sg
namespace Vg
open PySem hiding Env
open Sg
def vfIsXV (cls : List Str) : List NV → Option EV
  | [.exn c _, .ty "ValueError"] => if c ∈ cls then some (.im (.bl true)) else none
  | [.bex c, .ty "ValueError"] => if c ∈ cls then some (.im (.bl true)) else none
  | _ => none
theorem fv_isXV {cls : List Str} : FnV (fnIsXV cls) (vfIsXV cls) := fun F st vs ps s h ev q => by
  unfold vfIsXV at q
  split at q
  · rename_i c v
    split at q
    · rename_i hc
      simp only [Option.some.injEq] at q; subst q
      obtain ⟨p1, p2, rfl, h1, h2⟩ := h.two
      obtain ⟨i, p', rfl, e1, _⟩ := h1.exn s
      have e2 : p2 = .ty "ValueError" := by
        rcases h2 with h2 | ⟨i, _, _, _, h2⟩ <;> cases h2
        rfl
      subst e2
      exact ⟨.bl true, st, by simp only [fnIsXV, e1]; rw [if_pos hc], .im (.bl _)⟩
    · cases q
  · rename_i c
    split at q
    · rename_i hc
      simp only [Option.some.injEq] at q; subst q
      obtain ⟨p1, p2, rfl, h1, h2⟩ := h.two
      obtain ⟨i, rfl, e1⟩ := h1.bex s
      have e2 : p2 = .ty "ValueError" := by
        rcases h2 with h2 | ⟨i, _, _, _, h2⟩ <;> cases h2
        rfl
      subst e2
      exact ⟨.bl true, st, by simp only [fnIsXV, e1]; rw [if_pos hc], .im (.bl _)⟩
    · cases q
  · cases q
end Vg
namespace Sg
open PySem PySem.Spec PyProof.Rows L2
theorem XVe.nil {W : Wd} : XVe W [] := fun _ h => nomatch h
theorem XVe.cons {W : Wd} {c : Str} {C : Addr} {l : List Str} (hm : W.mg c = some (.ref C)) (h : PySem.W.subIn W.K (.ref C) (.type "ValueError") = some true) (r : XVe W l) : XVe W (c :: l) := fun d hd D hD => by
  rcases List.mem_cons.mp hd with rfl | hd
  · rw [hm] at hD; cases hD
    exact kitOne_ve h
  · exact r d hd D hD
theorem bt_ValueError : bootBuiltins "ValueError" = some (.type "ValueError") := by decide +kernel
end Sg
namespace Vg
open PySem hiding Env
open Sg
end Vg
set_option Elab.async false
set_option linter.all false
set_option maxRecDepth 100000
set_option maxHeartbeats 4000000
namespace Sg
open PySem PySem.Spec PyProof.Rows L2
end Sg
set_option Elab.async false
set_option linter.all false
set_option maxRecDepth 100000
set_option maxHeartbeats 4000000
namespace Sg
open PySem PySem.Spec PyProof.Rows L2 LamX
end Sg
namespace Vg
open PySem hiding Env
open Sg
end Vg
set_option Elab.async false
set_option linter.all false
set_option maxRecDepth 100000
set_option maxHeartbeats 4000000
namespace Sg
open PySem PySem.Spec PyProof.Rows L2
end Sg
namespace Vg
open PySem hiding Env
open Sg
end Vg
set_option Elab.async false
set_option linter.all false
set_option maxRecDepth 100000
set_option maxHeartbeats 4000000
namespace Sg
open PySem PySem.Spec PyProof.Rows L2
/-- a place that was free, taken by an object of a class: known from now on -/
theorem inv_new {X : Cx} {pins : List (Addr × Obj)} {σ : L2.St} {H : Hp} {s : Shared} {h' : Heap} {a : Addr} {o : HO} {tk : Nat} (I : Inv X pins σ H s) (kp : ∀ b u, s.heap.get? b = some u → h'.get? b = some u) (ha : s.heap.get? a = none) (na : H a = none)
    (ok : ObjOk X.prog X.w (upd H a o) h' a o) : Inv X pins σ (upd H a o) { s with heap := h', toks := tk } := by
  have ne : ∀ {b : Addr} {u : HO}, H b = some u → b ≠ a := fun {b u} e z => by rw [z, na] at e; cases e
  have U : Un X.fs [] H (upd H a o) s.heap h' := by
    refine ⟨fun b u e _ _ _ => kp b u e, fun b u e _ _ _ => ⟨u.slots, kp b u e⟩, fun b u e n _ => ?_, fun b u e _ => ⟨u, kp b u e⟩, fun b xs e => ?_, fun b u xs e => ?_, fun b ps e => ?_⟩
    · rw [upd_ne fun z => by rw [z, ha] at e; cases e]; exact n
    · rw [upd_ne (ne e)]; exact e
    · rw [upd_ne (ne e)]; exact e
    · exact ⟨#[], by rw [upd_ne (ne e), e]; simp⟩
  refine I.un U fun b u e => ?_
  by_cases hb : b = a
  · subst hb
    rw [upd_same] at e
    cases e
    exact ok
  · rw [upd_ne hb] at e
    exact (I.hok b u e).stay (fun c v _ q => kp c v q) (fun c q => by rw [upd_ne (ne q)]; exact q) fun c xs q => by rw [upd_ne (ne q)]; exact q
section
variable {X : Cx} {e : Expr} {t : L2.St → Hp → XK → Prop}
/-- what makes an exception with fields gives an object -/
theorem pe_of_mk (h : PMk X e t) : PE X e (fun σ H Q => t σ H fun cls d H' => ∃ C dd, cls = .ref C ∧ d = some dd ∧ ∀ a, H' a = none → Q (.ref a) (upd H' a (ExcO C dd a))) := by
  refine ⟨fun pins s σ H Q I q => ?_⟩
  refine wpAny_mono (h pins s σ H _ I q) (fun u s' hm => ?_) (fun _ _ z => z)
  obtain ⟨a, oe, vs, sI, H', cls, d, rfl, I1, kp, na, ho, hz, hd, _, nH, os, bare, _, C, dd, rfl, rfl, hq⟩ := hm
  have J := inv_new (tk := sI.toks) (o := ExcO C dd a) (h' := s'.heap) I1 kp na nH (excO_ok ho hz.1 hz.2 hd)
  refine ⟨.ref a, upd H' a (ExcO C dd a), ?_, rfl, hq a nH⟩
  exact ⟨J.ok, os.trans J.os, bare, J.base, J.loc, J.cell, J.free, J.freeC, J.pin, J.hok, J.len⟩
end
def eNew (c : Str) (a : EvE) : EvE := fun σ st => a σ st >>= fun x => match qat x.2 x.1 with
  | some d => if d.showable && decide (d.depth ≤ 60) && decide (d.shown.length ≤ MOST) then .ok (.ref x.2.length, x.2 ++ [.exn c x.1]) else .stuck
  | none => .stuck
section
variable {X : Cx} {m : EvE} {e : Expr}
theorem se_new {C : Addr} {k : Nat} {x : Str} {p p2 : Pos} (EK : ExK X.wd X.base k C) (hr : Rm (k + 1) X.A) (hg : Gl X x) (hm : X.mg x = some (.ref C)) (ha : SE X e m)
    (hdb : (x == ("__debug__" : Str)) = false := by decide) (he : starEach [e] X.env = (false, eval e X.env) :: starEach [] X.env := by rfl) (hpl : (backTo p2 (starEach [] X.env)).any (·.1) = false := by rfl) :
    SE X (.Call (.Name x p) [e] [] p2) (eNew x m) := by
  refine PE.to (pe_of_mk (pmk_oexS EK hr hg hm (pa_cons (PE.to ha fun σ H Q q => q) pa_nil he) hdb he hpl)) fun σ H Q ⟨ad, st, σp, S, q⟩ => ?_
  refine goE S q fun y ad1 H1 v e1 E1 S1 V1 q1 => ?_
  split at q1
  · rename_i d hd
    split at q1
    · rename_i hcnd
      simp only [Bool.and_eq_true, decide_eq_true_eq] at hcnd
      obtain ⟨⟨h1, h3⟩, h4⟩ := hcnd
      refine ⟨v, ad1, y.2, y.1, d, rfl, S1.ro, V1, hd, h1, h3, h4, fun dx n => ⟨C, dx, rfl, rfl, fun a na => ?_⟩⟩
      have Ef : Ext ad1 H1 ad1 (upd H1 dx (.xd [("value", v)])) := .fresh n
      have R2 := S1.ro.fresh n (o := .xd [("value", v)])
      have E4 : Ext ad1 (upd H1 dx (.xd [("value", v)])) (ad1 ++ [a]) (upd (upd H1 dx (.xd [("value", v)])) a (ExcO C dx a)) := .alloc na
      have nda : dx ≠ a := fun z => by rw [← z, upd_same] at na; cases na
      have R4 : RO X.wd (ad1 ++ [a]) (upd (upd H1 dx (.xd [("value", v)])) a (ExcO C dx a)) (y.2 ++ [.exn x y.1]) := R2.alloc na ⟨C, dx, v, hm, upd_same, by rw [upd_ne nda, upd_same], (V1.mono Ef).mono E4⟩
      exact q1 (ad1 ++ [a]) _ (Ef.trans E4) R4 _ (.ref (by rw [R2.len]; simp))
    · exact q1.elim
  · exact q1.elim
end
end Sg
namespace Vg
open PySem Sg
section
variable {a : EvE} {a' : VE}
def vNew (c : Str) (a : VE) : VE := fun env => a env >>= fun x => ofO (frz x.1 x.2) >>= fun y => match vqat y.1 with
  | some d => if d.showable && decide (d.depth ≤ 60) && decide (d.shown.length ≤ MOST) then .ok (.im (.exn c y.1), y.2) else .no
  | none => .no
theorem re_new {c : Str} (ha : RE a a') : RE (eNew c a) (vNew c a') := fun F env σ st r ev env' h => by
  simp only [vNew, R.bind_ok, ofO_ok] at h
  obtain ⟨⟨e, env1⟩, h1, ⟨w, env2⟩, h2, h⟩ := h
  obtain ⟨p, st1, F1, e1, G1, v1⟩ := ha F env σ st r e env1 h1
  obtain ⟨F2, G2, V2, _⟩ := frz_one G1 v1 h2
  dsimp only at h
  split at h
  · rename_i d hd
    split at h
    · rename_i hc
      cases h
      have hc' := hc
      simp only [Bool.and_eq_true, decide_eq_true_eq] at hc'
      have q : qat st1 p = some d := qat_of G2.rr.sub (.inl V2) hd (Nat.le_trans hc'.1.2 (by decide))
      have ho : objLt st1.length (.exn c p) = true := V2.lt G2.rr.ltF
      have hN := G2.rr.noneF (i := st1.length) (Nat.le_refl _)
      have hw : ¬ Ow env' σ st1.length := G2.rr.notOw (Nat.le_refl _)
      have G3 := (G2.trans (G2.rr.alloc ho)).frzF (v := w) (i := st1.length) (o := .exn c p) G2.le hN (by simp) hw
      have VX : VRep (addF F2 st1.length (.exn c p)) (.exn c w) (.ref st1.length) := .exn (if_pos rfl) (V2.mono (addF_ext hN))
      refine ⟨.ref st1.length, st1 ++ [.exn c p], _, ?_, G3, VX⟩
      unfold eNew
      rw [e1]
      simp only [bind_ok, q]
      exact if_pos hc
    · cases h
  · cases h
end
end Vg
set_option Elab.async false
set_option linter.all false
set_option maxRecDepth 100000
set_option maxHeartbeats 2000000
namespace PySem.HandSPX
open Builtin Builtin.ObjectAttr
section
variable {M : Model} {A : Around} {E : Value → Shared → Prop} {h : Heap} {g : Array GenState} {d : Drawn} {t : Nat} {os : OsState}
variable {nm q : Str} {C N : Addr} {bs bm bmB : List Value} {hdct : Bool} {sn : List Str} {sub : List Value} {ab : Bool} {col : Option Bool} {dd : Option Addr} {k0 k1 k2 k3 k5 : Option Value} {B newId initId : String}
theorem check_new_ownK (F : ExcBaseFacts B newId initId bmB) (hT : ∀ X : String, bm.contains (.type X) = bmB.contains (.type X)) {kx : Str} {kv : Value} {Q : Unit → Shared → Prop}
    (hC : h.get? C = some (excClassObj nm q C N bs bm hdct sn sub ab col dd k0 k1 k2 k3 k5 newId)) (hq : Q () ⟨h, g, d, t, os⟩) : wpAny M A (checkBuiltinCall newId ⟨[.ref C], [(kx, kv)]⟩) Q E ⟨h, g, d, t, os⟩ := by
  have hcont : (Value.ref C :: bm).contains (.type B) = true := by rw [List.contains_cons, hT, F.hasB, Bool.or_true]
  have hstar := F.noStar
  simp only [checkBuiltinCall, F.newKind, F.newSplit, F.newRow]
  repeat (first | refine wpAny_loadPart_at hC ?_ | (refine wpAny_isSubtype_exc hC ?_; rw [hcont]) | refine wpAny_staticBase_exc hC ?_ | refine wpAny_madeBy_exc hC ?_ | simp only [bne_self_eq_false, Bool.false_eq_true, if_false] | wp_step)
  exact hq
end
section
variable {prog : Program} {w : World} {A : Around} {E : Value → Shared → Prop} {R : Result → Shared → Prop} {h : Heap} {g : Array GenState} {d : Drawn} {t : Nat} {os : OsState}
variable {nm q : Str} {C N : Addr} {bs bm bmB : List Value} {hdct : Bool} {sn : List Str} {sub : List Value} {ab : Bool} {col : Option Bool} {dd : Option Addr} {k0 k1 k2 k3 k5 : Option Value} {B newId initId : String}
theorem new_ownK (F : ExcBaseFacts B newId initId bmB) (hT : ∀ X : String, bm.contains (.type X) = bmB.contains (.type X)) {kx : Str} {kv : Value}
    (hC : h.get? C = some (excClassObj nm q C N bs bm hdct sn sub ab col dd k0 k1 k2 k3 k5 newId))
    (hq : R (.ok (.ret (.ref (h.objs.size + 1)))) ⟨(h.push { cls := .type "tuple", data := .seq #[] }).push
      { cls := .ref C, data := .fields #[.ref h.objs.size, .none, .none, .none, .bool false, .none] }, g, d, t, os⟩) :
    codeAny (model prog w) A (.builtin newId ⟨[.ref C], [(kx, kv)]⟩) R ⟨h, g, d, t, os⟩ := by
  have hends := F.ends
  have hcB : (Value.ref C :: bm).contains (.type B) = true := by rw [List.contains_cons, hT, F.hasB, Bool.or_true]
  have hcA : (Value.ref C :: bm).contains (.type "AttributeError") = false := by rw [List.contains_cons, hT, F.noAttr]; rfl
  have hcN : (Value.ref C :: bm).contains (.type "NameError") = false := by rw [List.contains_cons, hT, F.noName]; rfl
  refine codeAny_builtinAt F.entry ?_
  unfold Builtin.«BaseException.__new__»
  refine wpAt_bind ?_
  show wpAt _ _ _ (stack >>= _) _ _ _
  refine wpAt_bind (wpAt_stack fun p below => wpAt_of_wpAny ?_)
  wp_walk
  refine wpAt_of_wpAny ?_
  rw [F.owner]
  repeat (first | with_reducible refine wpAny_madeHere_exc F.canon hC ?_ | with_reducible refine wpAny_loadPart_at hC ?_ | (with_reducible refine wpAny_isSubtype_exc hC ?_; first | rw [hcB] | rw [hcA] | rw [hcN]) | wp_step)
  show R _ _
  rw [Heap.size_push]
  exact hq
theorem type_call_ownK (F : ExcBaseFacts B newId initId bmB) (hT : ∀ X : String, bm.contains (.type X) = bmB.contains (.type X)) {kx : Str} {kv : Value} {fI : Addr} {Q : Fin → Shared → Prop}
    (hC : h.get? C = some (excClassObj nm q C N bs bm hdct sn sub ab col dd k0 k1 k2 k3 k5 newId))
    (hi : W.Looks (model prog w) h (typeLookup (.ref C) "__init__") (some (.ref fI))) (hb : ∀ self, W.Looks (model prog w) h (bindSpecial (.ref fI) self) (.ref fI, [self]))
    (hq : codeAny (model prog w) A (.call (.ref fI) ⟨[.ref (h.objs.size + 1)], [(kx, kv)]⟩)
      (fun r s' => match r with | .ok (.ret v) => v = .none ∧ Q (.done (.ret (.ref (h.objs.size + 1)))) s' | .ok _ => False | .error e => E e s')
      ⟨(h.push (W.kdv_tup [])).push (excO C h.objs.size), g, d, t, os⟩) :
    wpAny (model prog w) A (Builtin.«type.__call__» ⟨[.ref C], [(kx, kv)]⟩) Q E ⟨h, g, d, t, os⟩ := by
  repeat (first | with_reducible refine wpAny_loadPart_at hC ?_ | with_reducible refine wpAny_madeBy_exc hC ?_ | wp_step)
  refine codeAny_call_builtin_code (Code.quiet_builtin _ F.quiet) (check_new_ownK F hT hC ?_)
  refine new_ownK F hT hC ?_
  show wpAny _ _ _ _ _ _
  have k : ∀ b o, h.get? b = some o → ((h.push (W.kdv_tup [])).push (excO C h.objs.size)).get? b = some o := fun b o e => Heap.get?_push_of_some _ (Heap.get?_push_of_some _ e)
  have hC₁ := k _ _ hC
  have hget : ((h.push (W.kdv_tup [])).push (excO C h.objs.size)).get? (h.objs.size + 1) = some (excO C h.objs.size) := by heap_get
  have hcC : (Value.ref C :: bm).contains (.ref C) = true := by simp
  have i1 := hi.keeps k
  have b1 := (hb (.ref (h.objs.size + 1))).keeps k
  unfold isInstance
  repeat (first | with_reducible refine wpAny_loadPart_at hget ?_ | (with_reducible refine wpAny_isSubtype_exc hC₁ ?_; rw [hcC]) | wp_step)
  show wpAny _ _ (typeLookup (.ref C) _) _ _ _
  refine i1.at ?_
  refine wpAny_holding (wpAny_bind (b1.at ?_))
  refine wpAny_bind (wpAny_call (codeAny_mono hq fun r s' z => ?_))
  rcases r with e | (v | _ | _ | _) <;> first | exact z | exact z.elim | skip
  obtain ⟨rfl, z⟩ := z
  first
    | exact wpAny_pure (wpAny_pure z)
    | (wp_walk; exact z)
theorem call_ownK (F : ExcBaseFacts B newId initId bmB) (hT : ∀ X : String, bm.contains (.type X) = bmB.contains (.type X)) {kx : Str} {kv : Value} {fI : Addr}
    (hC : h.get? C = some (excClassObj nm q C N bs bm hdct sn sub ab col dd k0 k1 k2 k3 k5 newId))
    (hi : W.Looks (model prog w) h (typeLookup (.ref C) "__init__") (some (.ref fI))) (hb : ∀ self, W.Looks (model prog w) h (bindSpecial (.ref fI) self) (.ref fI, [self]))
    (hq : codeAny (model prog w) (A.under (.builtin "type.__call__" ⟨[.ref C], [(kx, kv)]⟩)) (.call (.ref fI) ⟨[.ref (h.objs.size + 1)], [(kx, kv)]⟩) (W.InitBack (h.objs.size + 1) R)
      ⟨(h.push (W.kdv_tup [])).push (excO C h.objs.size), g, d, t, os⟩) :
    codeAny (model prog w) A (.call (.ref C) ⟨[], [(kx, kv)]⟩) R ⟨h, g, d, t, os⟩ := by
  have f1 := tc_lookup
  have f2 := tc_bind (.ref C)
  have hTy : (⟨h, g, d, t, os⟩ : Shared).TypeIs (.ref C) "type" := ⟨_, hC, rfl⟩
  refine codeAny_of_tree ?_
  show wpAny _ _ (callAny (.ref C) _) _ _ _
  repeat (any_goals (first | assumption | with_reducible refine wpAny_loadPart_at hC ?_ | wp_step))
  refine ⟨rfl, ?_⟩
  refine codeAny_call_builtin_at (Code.quiet_builtin _ (by decide +kernel)) entry_typeCall (wpAny_check_type_call_sub hC (type_call_ownK F hT hC hi hb ?_))
  refine codeAny_mono hq fun r s' z => ?_
  rcases r with e | (v | _ | _ | _) <;> exact z
end
end PySem.HandSPX
set_option Elab.async false
set_option linter.all false
set_option maxRecDepth 100000
set_option maxHeartbeats 4000000
namespace Sg
open PySem PySem.Spec PyProof.Rows L2
def BindIK (st : Stmt) (c : Str) : Prop := ∀ (kV doc pm : Value) (an : Option Addr) (cdv ct : Value) (u v : Value),
  bindArgs (PySem.W.fnOf "__init__" (c ++ ".__init__") (L2.defArgs (clsInit st)) (L2.defBody (clsInit st)) (L2.defScope (clsInit st)) .none kV doc pm an cdv ct) ⟨[u], [(("value" : Str), v)]⟩ = pure ((["self", "value"] : List Str).zip [u, v])
structure ExKN (W : Wd) (base : Heap) (k : Nat) (C : Addr) : Prop where
  T : OexC W.K C
  ini : ∃ (fI : Addr) (fd : FuncData), PySem.W.findIn W.K (.ref C) "__init__" = some (some (.ref fI)) ∧ PySem.W.typeIn W.K (.ref fI) = some (.type "function") ∧ (∀ (s : Shared) (u v : Value), BindsTo s fd ⟨[u], [(("value" : Str), v)]⟩ ((["self", "value"] : List Str).zip [u, v])) ∧ InitD W base k C fI fd
theorem DefC.exKN {W : Wd} {h base : Heap} {c : Str} {st : Stmt} {S C : Addr} (D : DefC W.K c st S C) (B : ClsB c st) (BK : BindIK st c) (T : SupK W.K S) (KX : W.K.In h) (G : h.Ns mainGlobals W.mg) (Bs : SysB base) : W.mg c = some (.ref C) ∧ ExKN W base 1 C := by
  obtain ⟨fI, fd, iC, tI, F⟩ := D.ini
  refine ⟨PySem.W.mg_of KX G D.g, D.ox, fI, fd, iC, tI, ?_, initD_of F B.sc B.ib Bs B.gl (PySem.W.mg_of KX G T.gS) T.sup D.ox D.va⟩
  obtain ⟨oc, od, dV, kV, doc, pm, an, cdv, ct, osl, rfl, lk, hcd, hD, hK⟩ := F.ex
  rcases hD with ⟨_, rfl⟩ | ⟨e, _⟩
  · exact fun s u v => by
      have e := BK kV doc pm an cdv ct u v
      intro M A Q E q
      rw [e]
      exact wpAny_pure q
  · exact absurd rfl e
section
variable {X : Cx} {C : Addr} {k : Nat} {x : Str} {p pos : Pos} {kws : List Keyword} {ta : TA}
theorem pmk_oexN (EK : ExKN X.wd X.base k C) (hr : Rm (k + 1) X.A) (hg : Gl X x) (hm : X.mg x = some (.ref C)) (hkw : PK X kws ta)
    (hall : (backToKw pos (keywordEach kws X.env)).all (·.1.isSome) = true := by rfl) (hks : (backToKw pos (keywordEach kws X.env)).filterMap (·.1) = (["value"] : List Str) := by rfl) (hdb : (x == ("__debug__" : Str)) = false := by decide)
    (hpl : ((backTo pos (starEach [] X.env)).any (·.1) || (backToKw pos (keywordEach kws X.env)).any (·.1.isNone)) = false := by rfl) :
    PMk X (.Call (.Name x p) [] kws pos) (tMkS X C ta) := by
  intro pins s σ H Q I h
  obtain ⟨T, fI, fd, iC, tI, hb, F1⟩ := EK
  obtain ⟨nm, q, N, bs, bm, sn, sub, ab, col, dd, k0, k1, k2, k3, k5, hC, hbm⟩ := T.cls
  refine wpAny_Call_Name_kw (ld_glob I hg hm ?_ hdb)
  refine PySem.W.callWith_KW0 (h₀ := X.base) I.ok.mod.kin T.kC hall ?_ hpl
  refine thn (hkw.run pos pins s σ H _ I h) fun us s1 ⟨vs, H1, I1, r1, v, ad, st, p', d, ev, R, Vp, hd, h1, h3, h4, q1⟩ => ⟨I1.kIn, ?_⟩
  rw [hks]
  subst ev
  obtain ⟨hp, g, dr, tk, os⟩ := s1
  have hsz : hp.objs.size ≤ hp.objs.size + 1 := Nat.le_succ _
  have hn : H1 (hp.objs.size + 1) = none := I1.hok.fresh hsz
  have kk : ∀ b o, hp.get? b = some o → ((hp.push (PySem.W.kdv_tup [])).push (PySem.HandSPX.excO C hp.objs.size)).get? b = some o := fun b o e => Heap.get?_push_of_some _ (Heap.get?_push_of_some _ e)
  have hget : ((hp.push (PySem.W.kdv_tup [])).push (PySem.HandSPX.excO C hp.objs.size)).get? (hp.objs.size + 1) = some (PySem.HandSPX.excO C hp.objs.size) := by heap_get
  have I2 : Inv X pins σ (upd H1 (hp.objs.size + 1) (exo (hp.objs.size + 1) C none)) ⟨(hp.push (PySem.W.kdv_tup [])).push (PySem.HandSPX.excO C hp.objs.size), g, dr, tk, os⟩ :=
    I1.laid (t' := tk) (a := hp.objs.size + 1) (o := exo (hp.objs.size + 1) C none) (h' := (hp.push (PySem.W.kdv_tup [])).push (PySem.HandSPX.excO C hp.objs.size)) kk hsz (exo_ok hget)
  match r1 with
  | .cons (b := u) ru .nil =>
    have r2 : Vals [V.ref (hp.objs.size + 1), v] [Value.ref (hp.objs.size + 1), u] := .cons rfl (.cons ru .nil)
    let Q' : VK := fun v' H2 => v' = .non ∧ ∃ (d : Addr) (fs : List (Str × V)), H2 (hp.objs.size + 1) = some (exo (hp.objs.size + 1) C (some d)) ∧ H2 d = some (exd d fs) ∧ H1 d = none ∧ Q (.ref C) (some d) (upd (del H2 (hp.objs.size + 1)) d (.xd fs))
    have hsp : spI X.wd C [V.ref (hp.objs.size + 1), v] (upd H1 (hp.objs.size + 1) (exo (hp.objs.size + 1) C none)) Q' := by
      refine ⟨hp.objs.size + 1, v, ad, st, p', d, rfl, upd_same, R.fresh hn, Vp.mono (.fresh hn), hd, h1, h3, h4, fun dx n ne => ?_⟩
      have n1 : H1 dx = none := by rw [upd_ne ne] at n; exact n
      refine ⟨rfl, dx, [("value", v)], upd_same, ?_, n1, ?_⟩
      · rw [upd_ne ne, upd_same]
      · have e : upd (del (upd (upd (upd H1 (hp.objs.size + 1) (exo (hp.objs.size + 1) C none)) dx (exd dx [("value", v)])) (hp.objs.size + 1) (exo (hp.objs.size + 1) C (some dx))) (hp.objs.size + 1)) dx (.xd [("value", v)]) = upd H1 dx (.xd [("value", v)]) := by
          funext b
          by_cases hb : b = dx
          · subst hb; rw [upd_same, upd_same]
          · rw [upd_ne hb, upd_ne hb]
            by_cases hb2 : b = hp.objs.size + 1
            · subst hb2; rw [del_same, hn]
            · rw [del_ne hb2, upd_ne hb2, upd_ne hb, upd_ne hb2]
        rw [e]
        exact q1 dx n1
    refine wpAny_call (PySem.HandSPX.call_ownK F.excBase_ValueError (fun Y => PySem.HandSPX.refsVE_contains Y bm hbm) (I1.kIn _ _ hC) (PySem.W.looks_findIn I1.kIn iC) (fun self => PySem.W.bind_fn I1.kIn self tI)
      (codeAny_mono (F1 _ X.stack _ _ ⟨[Value.ref (hp.objs.size + 1)], [("value", u)]⟩ [Value.ref (hp.objs.size + 1), u] _ Q' ⟨hr.rm.make C [] [("value", u)], by rw [make_gd]; exact hr.gd⟩ (I2.env0.make C [] [("value", u)]) (hb _ (Value.ref (hp.objs.size + 1)) u) r2 hsp) fun r s' hq' => ?_))
    cases r with
    | error er => exact (show False from hq').elim
    | ok fl =>
      cases fl with
      | ret u =>
        obtain ⟨v, H2, os2, bare2, un2, hok2, rv, ev, d, fs, ea, ed, hd1, q2⟩ := hq'
        subst ev
        obtain ⟨h2, g2, d2, t2, os'⟩ := s'
        exact ⟨rv, mk_end (raises_own T.exC T.tyC) I1 hsz kk un2 hok2 os2 bare2 ea ed hd1 q2⟩
      | next => exact False.elim hq'
      | brk => exact False.elim hq'
      | cont => exact False.elim hq'
theorem se_newN {e : Expr} {m : EvE} {kpos : Pos} (EK : ExKN X.wd X.base k C) (hr : Rm (k + 1) X.A) (hg : Gl X x) (hm : X.mg x = some (.ref C)) (ha : SE X e m)
    (hall : (backToKw pos (keywordEach [⟨some "value", e, kpos⟩] X.env)).all (·.1.isSome) = true := by rfl) (hks : (backToKw pos (keywordEach [⟨some "value", e, kpos⟩] X.env)).filterMap (·.1) = (["value"] : List Str) := by rfl) (hdb : (x == ("__debug__" : Str)) = false := by decide)
    (hpl : ((backTo pos (starEach [] X.env)).any (·.1) || (backToKw pos (keywordEach [⟨some "value", e, kpos⟩] X.env)).any (·.1.isNone)) = false := by rfl) :
    SE X (.Call (.Name x p) [] [⟨some "value", e, kpos⟩] pos) (eNew x m) := by
  refine PE.to (pe_of_mk (pmk_oexN EK hr hg hm (pk_cons (PE.to ha fun σ H Q q => q) pk_nil) hall hks hdb hpl)) fun σ H Q ⟨ad, st, σp, S, q⟩ => ?_
  refine goE S q fun y ad1 H1 v e1 E1 S1 V1 q1 => ?_
  split at q1
  · rename_i d hd
    split at q1
    · rename_i hcnd
      simp only [Bool.and_eq_true, decide_eq_true_eq] at hcnd
      obtain ⟨⟨h1, h3⟩, h4⟩ := hcnd
      refine ⟨v, ad1, y.2, y.1, d, rfl, S1.ro, V1, hd, h1, h3, h4, fun dx n => ⟨C, dx, rfl, rfl, fun a na => ?_⟩⟩
      have Ef : Ext ad1 H1 ad1 (upd H1 dx (.xd [("value", v)])) := .fresh n
      have R2 := S1.ro.fresh n (o := .xd [("value", v)])
      have E4 : Ext ad1 (upd H1 dx (.xd [("value", v)])) (ad1 ++ [a]) (upd (upd H1 dx (.xd [("value", v)])) a (ExcO C dx a)) := .alloc na
      have nda : dx ≠ a := fun z => by rw [← z, upd_same] at na; cases na
      have R4 : RO X.wd (ad1 ++ [a]) (upd (upd H1 dx (.xd [("value", v)])) a (ExcO C dx a)) (y.2 ++ [.exn x y.1]) := R2.alloc na ⟨C, dx, v, hm, upd_same, by rw [upd_ne nda, upd_same], (V1.mono Ef).mono E4⟩
      exact q1 (ad1 ++ [a]) _ (Ef.trans E4) R4 _ (.ref (by rw [R2.len]; simp))
    · exact q1.elim
  · exact q1.elim
end
end Sg
set_option Elab.async false
set_option linter.all false
set_option maxRecDepth 100000
set_option maxHeartbeats 4000000
namespace Sg
open PySem PySem.Spec PyProof.Rows L2
section
variable {X : Cx} {C : Addr} {bmB : List Value} {B newId initId : String} {x : Str} {p pos : Pos}
theorem pmk_own0 (F : ExcBaseFacts B newId initId bmB) (q : PySem.W.excIn X.K C bmB newId = true) (gC : X.mg x = some (.ref C)) (kC : PySem.W.keepIn X.K (.ref C) = true) (r : Raises X (.ref C)) (hg : Gl X x) (hdb : (x == ("__debug__" : Str)) = false := by decide) :
    PMk X (.Call (.Name x p) [] [] pos) (fun _ H Q => Q (.ref C) none H) := by
  intro pins s σ H Q I h
  refine wpAny_Call_Name_kw (ld_glob I hg gC ?_ hdb)
  refine PySem.W.callWith_K0 I.kIn kC ?_
  show wpAny _ _ (call (.ref C) []) _ _ _
  obtain ⟨bm, N, nm, qn, bs, hdct, sn, sub, ab, col, dd, k0, k1, k2, k3, k5, mN, hC, hN, hni, T⟩ := exc_obj I.kIn q
  refine wpAny_call_exc_subT F T hC hN hni (fun h' e hm => ?_) (Nat.zero_le _)
  exact mk_of I hm r h (I.hok.gone hm.new)
theorem excB_ok {P : Program} {w : World} {H : Hp} {h : Heap} {C a : Addr} {oe : Obj} {vs : Array Value} (e : h.get? a = some oe) (e1 : oe.cls = .ref C) (e2 : oe.dict = none) (e3 : oe.data = .fields vs) : ObjOk P w H h a (ExcB C a) :=
  ⟨⟨oe, vs, e, e1, e2, e3⟩, ⟨oe, e⟩, fun h1 h2 ⟨oe, vs, e, r⟩ st => ⟨oe, vs, st _ e, r⟩⟩
/-- what makes an exception without fields gives an object -/
theorem pe_of_mk0 {e : Expr} {t : L2.St → Hp → XK → Prop} (h : PMk X e t) : PE X e (fun σ H Q => t σ H fun cls d H' => ∃ C, cls = .ref C ∧ d = none ∧ ∀ a, H' a = none → Q (.ref a) (upd H' a (ExcB C a))) := by
  refine ⟨fun pins s σ H Q I q => ?_⟩
  refine wpAny_mono (h pins s σ H _ I q) (fun u s' hm => ?_) (fun _ _ z => z)
  obtain ⟨a, oe, vs, sI, H', cls, d, rfl, I1, kp, na, ho, hz, hd, _, nH, os, bare, _, C, rfl, rfl, hq⟩ := hm
  have J := inv_new (tk := sI.toks) (o := ExcB C a) (h' := s'.heap) I1 kp na nH (excB_ok ho hz.1 hz.2 hd)
  refine ⟨.ref a, upd H' a (ExcB C a), ?_, rfl, hq a nH⟩
  exact ⟨J.ok, os.trans J.os, bare, J.base, J.loc, J.cell, J.free, J.freeC, J.pin, J.hok, J.len⟩
def eNew0 (c : Str) : EvE := fun _ st => .ok (.ref st.length, st ++ [.bex c])
theorem se_new0 (F : ExcBaseFacts B newId initId bmB) (q : PySem.W.excIn X.K C bmB newId = true) (gC : X.mg x = some (.ref C)) (kC : PySem.W.keepIn X.K (.ref C) = true) (r : Raises X (.ref C)) (hg : Gl X x) (hdb : (x == ("__debug__" : Str)) = false := by decide) :
    SE X (.Call (.Name x p) [] [] pos) (eNew0 x) :=
  PE.to (pe_of_mk0 (pmk_own0 F q gC kC r hg hdb)) fun σ H Q ⟨ad, st, σp, S, q⟩ => by
    refine ⟨C, rfl, rfl, fun a na => ?_⟩
    have E4 : Ext ad H (ad ++ [a]) (upd H a (ExcB C a)) := .alloc na
    have R4 : RO X.wd (ad ++ [a]) (upd H a (ExcB C a)) (st ++ [.bex x]) := S.ro.alloc na ⟨C, gC, upd_same⟩
    exact q (ad ++ [a]) _ E4 R4 _ (.ref (by rw [S.ro.len]; simp))
end
end Sg
namespace Vg
open PySem Sg
def vNew0 (c : Str) : VE := fun env => .ok (.im (.bex c), env)
theorem re_new0 {c : Str} : RE (eNew0 c) (vNew0 c) := fun F env σ st r ev env' h => by
  cases h
  have ho : objLt st.length (.bex c) = true := rfl
  have hN := r.noneF (i := st.length) (Nat.le_refl _)
  have hw : ¬ Ow env σ st.length := r.notOw (Nat.le_refl _)
  have G3 := (r.alloc ho).frzF (v := .bex c) (i := st.length) (o := .bex c) (Nat.le_refl _) hN (by simp) hw
  exact ⟨.ref st.length, st ++ [.bex c], _, rfl, G3, .bex (if_pos rfl)⟩
end Vg
set_option Elab.async false
set_option linter.all false
set_option maxRecDepth 100000
set_option maxHeartbeats 4000000
namespace Sg
open PySem PySem.W PySem.Spec PyProof.Rows L2
structure DefX (K : PySem.W.Frag) (c : Str) (S C : Addr) : Prop where
  g : PySem.W.nsIn K mainGlobals c = some (some (.ref C))
  exC : PySem.W.subIn K (.ref C) (.type "BaseException") = some true
  tyC : PySem.W.typeIn K (.ref C) = some (.type "type")
  ga : PySem.W.findIn K (.ref C) "__getattribute__" = some (some (.builtin "BaseException.__getattribute__"))
  gg : PySem.W.findIn K (.ref C) "__getattr__" = some none
  hd : PySem.W.hasDictIn K C = true
  ha : PySem.W.findIn K (.ref C) "__class__" = some (some (.builtin "object.__class__"))
  hm : PySem.W.mroIn K C (.type "object") = some true
  va : PySem.W.findIn K (.ref C) "value" = some none
  up : PySem.W.subIn K (.ref C) (.ref S) = some true
theorem DefC.x {K : PySem.W.Frag} {c : Str} {st : Stmt} {S C : Addr} (D : DefC K c st S C) : DefX K c S C := ⟨D.g, D.ox.exC, D.ox.tyC, D.ga, D.gg, D.hd, D.ha, D.hm, D.va, D.up⟩
/-- a class of the package without an own __init__ -/
structure DefB (K : PySem.W.Frag) (c : Str) (S C : Addr) : Prop where
  x : DefX K c S C
  q : PySem.W.excIn K C [.type "ValueError", .type "Exception", .type "BaseException", .type "object"] "ValueError.__new__" = true
  kC : PySem.W.keepIn K (.ref C) = true
theorem defB {K : PySem.W.Frag} {c : Str} {S C : Addr} (g : PySem.W.nsIn K mainGlobals c = some (some (.ref C))) (exC : PySem.W.subIn K (.ref C) (.type "BaseException") = some true) (tyC : PySem.W.typeIn K (.ref C) = some (.type "type"))
    (ga : PySem.W.findIn K (.ref C) "__getattribute__" = some (some (.builtin "BaseException.__getattribute__"))) (gg : PySem.W.findIn K (.ref C) "__getattr__" = some none) (hd : PySem.W.hasDictIn K C = true) (ha : PySem.W.findIn K (.ref C) "__class__" = some (some (.builtin "object.__class__")))
    (hm : PySem.W.mroIn K C (.type "object") = some true) (va : PySem.W.findIn K (.ref C) "value" = some none) (up : PySem.W.subIn K (.ref C) (.ref S) = some true)
    (q : PySem.W.excIn K C [.type "ValueError", .type "Exception", .type "BaseException", .type "object"] "ValueError.__new__" = true) (kC : PySem.W.keepIn K (.ref C) = true) : DefB K c S C := ⟨⟨g, exC, tyC, ga, gg, hd, ha, hm, va, up⟩, q, kC⟩
/-- C(), C bare -/
structure ExB (W : Wd) (C : Addr) : Prop where
  q : PySem.W.excIn W.K C [.type "ValueError", .type "Exception", .type "BaseException", .type "object"] "ValueError.__new__" = true
  kC : PySem.W.keepIn W.K (.ref C) = true
  exC : PySem.W.subIn W.K (.ref C) (.type "BaseException") = some true
  tyC : PySem.W.typeIn W.K (.ref C) = some (.type "type")
theorem DefB.exB {W : Wd} {h : Heap} {c : Str} {S C : Addr} (D : DefB W.K c S C) (KX : W.K.In h) (G : h.Ns mainGlobals W.mg) : W.mg c = some (.ref C) ∧ ExB W C := ⟨PySem.W.mg_of KX G D.x.g, D.q, D.kC, D.x.exC, D.x.tyC⟩
theorem se_newB {X : Cx} {C : Addr} {x : Str} {p pos : Pos} (E : ExB X.wd C) (gC : X.mg x = some (.ref C)) (hg : Gl X x) (hdb : (x == ("__debug__" : Str)) = false := by decide) :
    SE X (.Call (.Name x p) [] [] pos) (eNew0 x) := se_new0 PySem.F.excBase_ValueError E.q gC E.kC (raises_own E.exC E.tyC) hg hdb
theorem DefX.ec {K : PySem.W.Frag} {c : Str} {S C : Addr} (D : DefX K c S C) (T : SupK K S) : ExcC K C ∧ XfC K C ∧ PySem.W.findIn K (.ref C) "value" = some none :=
  ⟨⟨D.ga, D.gg, D.exC, D.hd, D.ha, T.kn, T.kt, D.hm⟩, ⟨D.ga, D.gg, D.exC, D.hd⟩, D.va⟩
/-- one class against those of a list -/
def offAll (K : PySem.W.Frag) (c : Str) (C : Addr) : List (Str × Addr) → Prop
  | [] => True
  | q :: r => (c == q.1) = false ∧ (C == q.2) = false ∧ PySem.W.subIn K (.ref C) (.ref q.2) = some false ∧ PySem.W.subIn K (.ref q.2) (.ref C) = some false ∧ offAll K c C r
inductive DefXs (K : PySem.W.Frag) (S : Addr) : List (Str × Addr) → Prop
  | nil : DefXs K S []
  | cons {c : Str} {C : Addr} {l : List (Str × Addr)} : DefX K c S C → offAll K c C l → DefXs K S l → DefXs K S ((c, C) :: l)
theorem offAll.at {K : PySem.W.Frag} {c : Str} {C : Addr} : ∀ {l : List (Str × Addr)}, offAll K c C l → ∀ q ∈ l, q.1 ≠ c ∧ C ≠ q.2 ∧ PySem.W.subIn K (.ref C) (.ref q.2) = some false ∧ PySem.W.subIn K (.ref q.2) (.ref C) = some false
  | [], _, q, h => nomatch h
  | p :: r, ⟨h1, h2, h3, h4, h5⟩, q, h => by
    rcases List.mem_cons.mp h with rfl | h
    · exact ⟨fun z => by rw [z] at h1; simp at h1, fun z => by rw [z] at h2; simp at h2, h3, h4⟩
    · exact h5.at q h
theorem DefXs.at {K : PySem.W.Frag} {S : Addr} {l : List (Str × Addr)} (D : DefXs K S l) : ∀ q ∈ l, DefX K q.1 S q.2 := by
  induction D with
  | nil => intro q h; cases h
  | cons d _ _ ih =>
    intro q h
    rcases List.mem_cons.mp h with rfl | h
    · exact d
    · exact ih q h
theorem DefXs.kit {K : PySem.W.Frag} {S : Addr} {l : List (Str × Addr)} (D : DefXs K S l) : ∀ q ∈ l, ∀ r ∈ l, PySem.W.kitOne K (.ref q.2) (.ref r.2) = some (sbEq q.1 r.1) := by
  induction D with
  | nil => intro q h; cases h
  | @cons c C l d hs _ ih =>
    rename_i Ds
    intro q hq r hr
    rcases List.mem_cons.mp hq with rfl | hq
    · rcases List.mem_cons.mp hr with rfl | hr
      · unfold PySem.W.kitOne
        rw [if_pos (by simp)]
        simp [sbEq]
      · obtain ⟨n, nC, s1, _⟩ := hs.at r hr
        have dr := Ds.at r hr
        have e : sbEq c r.1 = false := by simp [sbEq, Ne.symm n]
        show PySem.W.kitOne K (.ref C) (.ref r.2) = some (sbEq c r.1)
        rw [e]
        exact kitOne_of dr.hd dr.tyC s1 fun z => absurd z nC
    · rcases List.mem_cons.mp hr with rfl | hr
      · obtain ⟨n, nC, _, s2⟩ := hs.at q hq
        have e : sbEq q.1 c = false := by simp [sbEq, n]
        show PySem.W.kitOne K (.ref q.2) (.ref C) = some (sbEq q.1 c)
        rw [e]
        exact kitOne_of d.hd d.tyC s2 fun z => absurd z.symm nC
      · exact ih q hq r hr
theorem DefXs.mem {W : Wd} {h : Heap} {S : Addr} {l : List (Str × Addr)} (D : DefXs W.K S l) (KX : W.K.In h) (G : h.Ns mainGlobals W.mg) : ∀ c ∈ l.map (·.1), ∀ C, W.mg c = some (.ref C) → (c, C) ∈ l := fun c hc C hm => by
  obtain ⟨q, hq, rfl⟩ := List.mem_map.mp hc
  have d := D.at q hq
  have e := hm.symm.trans (PySem.W.mg_of KX G d.g)
  cases e
  exact hq
theorem DefXs.xcls {W : Wd} {h : Heap} {S : Addr} {l : List (Str × Addr)} (D : DefXs W.K S l) (T : SupK W.K S) (KX : W.K.In h) (G : h.Ns mainGlobals W.mg) {cls : List Str} (hc : cls = l.map (·.1)) : XCls W cls sbEq := by
  subst hc
  have at_ := D.mem (W := W) KX G
  exact ⟨fun c hc C hm => (D.at _ (at_ c hc C hm)).ec T, fun c hc d hd C Dd h1 h2 => D.kit (c, C) (at_ c hc C h1) (d, Dd) (at_ d hd Dd h2)⟩
/-- that the classes are StackErrors -/
def XSt (W : Wd) (cls : List Str) : Prop := ∀ c ∈ cls, ∀ C S, W.mg c = some (.ref C) → W.mg "StackError" = some (.ref S) → PySem.W.kitOne W.K (.ref C) (.ref S) = some true
theorem DefXs.xst {W : Wd} {h : Heap} {S : Addr} {l : List (Str × Addr)} (D : DefXs W.K S l) (T : SupK W.K S) (KX : W.K.In h) (G : h.Ns mainGlobals W.mg) {cls : List Str} (hc : cls = l.map (·.1)) : XSt W cls := by
  subst hc
  have at_ := D.mem (W := W) KX G
  intro c hc C S' h1 h2
  have e := h2.symm.trans (PySem.W.mg_of KX G T.gS)
  cases e
  have d := D.at _ (at_ c hc C h1)
  exact kitOne_of T.hd T.ty d.up fun _ => rfl
/-- that the classes are ValueErrors -/
theorem DefXs.xve {W : Wd} {h : Heap} {S : Addr} {l : List (Str × Addr)} (D : DefXs W.K S l) (KX : W.K.In h) (G : h.Ns mainGlobals W.mg) (U : ∀ q ∈ l, PySem.W.subIn W.K (.ref q.2) (.type "ValueError") = some true) {cls : List Str} (hc : cls = l.map (·.1)) : XVe W cls := by
  subst hc
  have at_ := D.mem (W := W) KX G
  exact fun c hc C hm => kitOne_ve (U _ (at_ c hc C hm))
def fnIsXS (cls : List Str) : Fn := fun vs st => match vs with
  | [.ref i, .glb d] => match st[i]? with
    | some (.exn c _) => if d = "StackError" ∧ c ∈ cls then .ok (.bl true, st) else .stuck
    | some (.bex c) => if d = "StackError" ∧ c ∈ cls then .ok (.bl true, st) else .stuck
    | _ => .stuck
  | _ => .stuck
section
variable {X : Cx} {cls : List Str} {sb : Str → Str → Bool}
theorem cd_isXS (T : XCls X.wd cls sb) (TV : XSt X.wd cls) : CallR X (.builtin "isinstance") (rCOf X (fnIsXS cls)) := by
  rintro pins s σ H xs us Q I rx ⟨ad, st, ps, R, Vs, h⟩
  unfold fnIsXS at h
  split at h
  · rename_i i dn
    split at h
    · rename_i c p hst
      split at h
      · rename_i hc
        obtain ⟨hdn, hc⟩ := hc
        subst hdn
        obtain ⟨v, w, e, r1, r2⟩ := Vs.two
        subst e
        cases r1 with
        | @ref _ a ha =>
          cases r2 with
          | @glb _ Dd hd =>
            obtain ⟨a', ha', C, d, v', h1, h2, h3, _⟩ := R.get hst
            rw [ha] at ha'; cases ha'
            cases rx with
            | cons rx rr =>
              cases rr with
              | cons rt rr =>
                cases rr
                cases rx
                cases rt
                obtain ⟨oe, od, vs, mA, _, _, J, _⟩ := exn_inst I h2 h3
                obtain ⟨CC, _⟩ := T.ec c hc C h1
                have q : Q (.bl true) H := rdOk h R (.bl _)
                have hcl : (PySem.W.clsIn X.K C).isSome = true := by
                  obtain ⟨cd, hcd, _⟩ := PySem.W.any_some CC.hd
                  rw [hcd]; rfl
                exact PySem.W.kia_one (PySem.W.kitx_exc hcl CC.hg CC.hk CC.hs CC.ha CC.hn CC.ht CC.hm) I.kIn J (TV c hc C Dd h1 hd) (fun z => nomatch z) fun tk => ⟨.bl true, H, I.kept (t' := tk) fun _ _ z => z, rfl, q⟩
      · exact h.elim
    · rename_i c hst
      split at h
      · rename_i hc
        obtain ⟨hdn, hc⟩ := hc
        subst hdn
        obtain ⟨v, w, e, r1, r2⟩ := Vs.two
        subst e
        cases r1 with
        | @ref _ a ha =>
          cases r2 with
          | @glb _ Dd hd =>
            obtain ⟨a', ha', C, h1, h2⟩ := R.get hst
            rw [ha] at ha'; cases ha'
            cases rx with
            | cons rx rr =>
              cases rr with
              | cons rt rr =>
                cases rr
                cases rx
                cases rt
                obtain ⟨oe, vs, _, _, J⟩ := bex_inst I h2
                obtain ⟨CC, _⟩ := T.ec c hc C h1
                have q : Q (.bl true) H := rdOk h R (.bl _)
                have hcl : (PySem.W.clsIn X.K C).isSome = true := by
                  obtain ⟨cd, hcd, _⟩ := PySem.W.any_some CC.hd
                  rw [hcd]; rfl
                exact PySem.W.kia_one (PySem.W.kitx_exc hcl CC.hg CC.hk CC.hs CC.ha CC.hn CC.ht CC.hm) I.kIn J (TV c hc C Dd h1 hd) (fun z => nomatch z) fun tk => ⟨.bl true, H, I.kept (t' := tk) fun _ _ z => z, rfl, q⟩
      · exact h.elim
    · exact h.elim
  · exact h.elim
end
end Sg
namespace Vg
open PySem hiding Env
open Sg
def vfIsXS (cls : List Str) : List NV → Option EV
  | [.exn c _, .glb d] => if d = "StackError" ∧ c ∈ cls then some (.im (.bl true)) else none
  | [.bex c, .glb d] => if d = "StackError" ∧ c ∈ cls then some (.im (.bl true)) else none
  | _ => none
theorem fv_isXS {cls : List Str} : FnV (fnIsXS cls) (vfIsXS cls) := fun F st vs ps s h ev q => by
  unfold vfIsXS at q
  split at q
  · rename_i c v d
    split at q
    · rename_i hc
      simp only [Option.some.injEq] at q; subst q
      obtain ⟨p1, p2, rfl, h1, h2⟩ := h.two
      obtain ⟨i, p', rfl, e1, _⟩ := h1.exn s
      have e2 : p2 = .glb d := by
        rcases h2 with h2 | ⟨i, _, _, _, h2⟩ <;> cases h2
        rfl
      subst e2
      exact ⟨.bl true, st, by simp only [fnIsXS, e1]; rw [if_pos hc], .im (.bl _)⟩
    · cases q
  · rename_i c d
    split at q
    · rename_i hc
      simp only [Option.some.injEq] at q; subst q
      obtain ⟨p1, p2, rfl, h1, h2⟩ := h.two
      obtain ⟨i, rfl, e1⟩ := h1.bex s
      have e2 : p2 = .glb d := by
        rcases h2 with h2 | ⟨i, _, _, _, h2⟩ <;> cases h2
        rfl
      subst e2
      exact ⟨.bl true, st, by simp only [fnIsXS, e1]; rw [if_pos hc], .im (.bl _)⟩
    · cases q
  · cases q
end Vg
set_option Elab.async false
set_option linter.all false
set_option maxRecDepth 100000
set_option maxHeartbeats 4000000
namespace Vp
open PySem Sg Vg
abbrev p__law_draw_2 : VS := vAsg (vBin voMod (vBin voIx (vVar 0) (vC (.int 0))) (vVar 1)) (.nm 2)
abbrev p__law_draw_3 : VS := vSub vset (vVar 0) (vC (.int 0)) (vBin voFdiv (vBin voIx (vVar 0) (vC (.int 0))) (vVar 1))
abbrev p__law_draw_1 : VS := vIfS (vVal (vBin voGt (vBin voIx (vVar 0) (vC (.int 0))) (vC (.int 0)))) (vSeq (p__law_draw_2) (vSeq (p__law_draw_3) (vRet (vVar 2)))) (vPass)
abbrev p__law_draw_5 : VS := vSub vset (vVar 0) (vC (.int 2)) (vBin voAdd (vBin voIx (vVar 0) (vC (.int 2))) (vC (.int 1)))
abbrev p__law_draw_7 : VS := vAsg (vBin voMod (vBin voMul (vBin voAdd (vBin voAdd (vBin voIx (vVar 0) (vC (.int 1))) (vBin voMul (vBin voMul (vC (.int 65537)) (vVar 3)) (vVar 3))) (vC (.int 11))) (vC (.int 48271))) (vC (.int 2305843009213693921))) (.nm 4)
abbrev p__law_draw_8 : VS := vAsg (vBin voMod (vBin voMul (vVar 4) (vBin voAdd (vBin voMod (vVar 4) (vC (.int 1000003))) (vBin voMul (vC (.int 99991)) (vVar 3)))) (vC (.int 2305843009213693907))) (.nm 4)
abbrev p__law_draw_9 : VS := vRet (vBin voMod (vBin voAdd (vBin voFdiv (vVar 4) (vC (.int 97))) (vBin voFdiv (vVar 4) (vC (.int 1000033)))) (vVar 1))
abbrev v__law_draw : VS := vSeq (p__law_draw_1) (vSeq (p__law_draw_5) (vSeq (vAsg (vBin voIx (vVar 0) (vC (.int 2))) (.nm 3)) (vSeq (p__law_draw_7) (vSeq (p__law_draw_8) (p__law_draw_9)))))
def g__law_draw : VF := vFn 5 [0] v__law_draw
abbrev p__law_source_1 : VS := vAsg (vIf (vVal (vBin voLt (vVar 1) (vCallB vfLenA (vCons (vVar 0) (vNil))))) (vBin voIx (vVar 0) (vVar 1)) (vC (.int 0))) (.nm 2)
abbrev p__law_source_2 : VS := vAsg (vIf (vVal (vBin voGe (vCallB vfAbs (vCons (vVar 2) (vNil))) (vBin voPow (vC (.int 10)) (vC (.int 18))))) (vBin voMod (vCallB vfAbs (vCons (vVar 2) (vNil))) (vBin voPow (vBin voPow (vC (.int 10)) (vC (.int 60))) (vC (.int 4)))) (vC (.int 0))) (.nm 3)
abbrev p__law_source_3 : VS := vRet (vLst (vCons (vVar 3) (vCons (vBin voMod (vBin voAdd (vBin voAdd (vBin voMul (vBin voMod (vVar 2) (vC (.int 2305843009213693951))) (vC (.int 1000003))) (vBin voMul (vBin voMul (vC (.int 7919)) (vVar 1)) (vVar 1))) (vC (.int 97))) (vC (.int 2305843009213693921))) (vCons (vC (.int 0)) (vNil)))))
abbrev v__law_source : VS := vSeq (p__law_source_1) (vSeq (p__law_source_2) (p__law_source_3))
def g__law_source : VF := vFn 4 [] v__law_source
abbrev p__law_pick_1 : VS := vRet (vBin voIx (vVar 1) (vCall g__law_draw 2 [0] (vCons (vVar 0) (vCons (vCallB vfLenA (vCons (vVar 1) (vNil))) (vNil)))))
abbrev v__law_pick : VS := p__law_pick_1
def g__law_pick : VF := vFn 2 [0] v__law_pick
abbrev p__law_any_k12_1 : VS := vAsg (vLst (vCons (vC .non) (vCons (vC (.bl true)) (vCons (vC (.bl false)) (vCons (vC (.int 0)) (vCons (vC (.int 1)) (vCons (vUn vuNeg (vC (.int 1))) (vCons (vC (.int 61)) (vCons (vBin voPow (vC (.int 10)) (vC (.int 30))) (vCons (vC (.str "")) (vCons (vC (.str "a")) (vCons (vC (.str "A")) (vCons (vC (.str "toolongna")) (vCons (vTup (vNil)) (vCons (vLst (vNil)) (vCons (vDic0) (vCons (vTup (vCons (vC (.str "a")) (vNil))) (vCons (vLst (vCons (vC (.str "a")) (vNil))) (vCons (vTup (vCons (vC (.str "a")) (vCons (vC (.str "a")) (vNil)))) (vNil)))))))))))))))))))) (.nm 1)
abbrev p__law_any_k12_2 : VS := vAsg (vCall g__law_pick 2 [0] (vCons (vVar 0) (vCons (vBin voAdd (vVar 1) (vLst (vCons (vTup (vCons (vC (.str "a")) (vCons (vC (.int 1)) (vNil)))) (vCons (vTup (vCons (vC (.str "drop")) (vNil))) (vCons (vLst (vCons (vC (.str "drop")) (vNil))) (vCons (vTup (vCons (vC (.str "copy")) (vCons (vC (.int 1)) (vNil)))) (vCons (vTup (vCons (vC (.str "copy")) (vCons (vC (.int 0)) (vNil)))) (vCons (vTup (vCons (vC (.str "push")) (vCons (vC (.str "k")) (vNil)))) (vCons (vDisp (vpCons (vC (.str "a")) (vC (.int 1)) (vpNil))) (vNil)))))))))) (vNil)))) (.nm 2)
abbrev p__law_any_k12_4 : VS := vAsg (vCall g__law_pick 2 [0] (vCons (vVar 0) (vCons (vLst (vCons (vTup (vCons (vVar 2) (vNil))) (vCons (vLst (vCons (vVar 2) (vNil))) (vCons (vDisp (vpCons (vC (.str "a")) (vVar 2) (vpNil))) (vCons (vTup (vCons (vC (.str "a")) (vCons (vVar 2) (vNil)))) (vNil)))))) (vNil)))) (.nm 2)
abbrev p__law_any_k12_3 : VS := vFor (viRng1 (vCall g__law_pick 2 [0] (vCons (vVar 0) (vCons (vLst (vCons (vC (.int 0)) (vCons (vC (.int 0)) (vCons (vC (.int 0)) (vCons (vC (.int 1)) (vCons (vC (.int 2)) (vCons (vC (.int 26)) (vNil)))))))) (vNil))))) (.nm 3) (p__law_any_k12_4)
abbrev v__law_any_k12 : VS := vSeq (p__law_any_k12_1) (vSeq (p__law_any_k12_2) (vSeq (p__law_any_k12_3) (vRet (vVar 2))))
def g__law_any_k12 : VF := vFn 4 [0] v__law_any_k12
abbrev p__law_with_value_k12_2 : VS := vAsg (vBin voAdd (vVar 1) (vLst (vCons (vNew "InvalidRow" (vVar 0)) (vCons (vNew "InvalidStack" (vVar 0)) (vCons (vNew "InvalidConstants" (vVar 0)) (vCons (vNew "InvalidGoal" (vVar 0)) (vNil))))))) (.nm 1)
abbrev p__law_with_value_k12_3 : VS := vAsg (vBin voAdd (vVar 1) (vLst (vCons (vNew "InvalidProgram" (vVar 0)) (vCons (vNew "InvalidInstruction" (vVar 0)) (vCons (vNew "InvalidReach" (vVar 0)) (vNil)))))) (.nm 1)
abbrev p__law_with_value_k12_4 : VS := vAsg (vBin voAdd (vVar 1) (vLst (vCons (vNew "InvalidHeight" (vVar 0)) (vCons (vNew "InvalidCode" (vVar 0)) (vCons (vNew "InvalidLive" (vVar 0)) (vCons (vNew "InvalidExits" (vVar 0)) (vNil))))))) (.nm 1)
abbrev p__law_with_value_k12_5 : VS := vAsg (vBin voAdd (vVar 1) (vLst (vCons (vNew "InvalidLayout" (vVar 0)) (vCons (vNew "InvalidCount" (vVar 0)) (vCons (vNew "InvalidText" (vVar 0)) (vCons (vNew "InvalidLine" (vVar 0)) (vNil))))))) (.nm 1)
abbrev p__law_with_value_k12_6 : VS := vAsg (vBin voAdd (vVar 1) (vLst (vCons (vNew "TooLow" (vVar 0)) (vCons (vNew "OutOfReach" (vVar 0)) (vNil))))) (.nm 1)
abbrev v__law_with_value_k12 : VS := vSeq (vAsg (vLst (vNil)) (.nm 1)) (vSeq (p__law_with_value_k12_2) (vSeq (p__law_with_value_k12_3) (vSeq (p__law_with_value_k12_4) (vSeq (p__law_with_value_k12_5) (vSeq (p__law_with_value_k12_6) (vRet (vVar 1)))))))
def g__law_with_value_k12 : VF := vFn 2 [] v__law_with_value_k12
abbrev p__law_by_name_k12_2 : VS := vAsg (vBin voAdd (vVar 1) (vLst (vCons (vNew "InvalidRow" (vVar 0)) (vCons (vNew "InvalidStack" (vVar 0)) (vCons (vNew "InvalidConstants" (vVar 0)) (vNil)))))) (.nm 1)
abbrev p__law_by_name_k12_3 : VS := vAsg (vBin voAdd (vVar 1) (vLst (vCons (vNew "InvalidGoal" (vVar 0)) (vCons (vNew "InvalidProgram" (vVar 0)) (vCons (vNew "InvalidInstruction" (vVar 0)) (vNil)))))) (.nm 1)
abbrev p__law_by_name_k12_4 : VS := vAsg (vBin voAdd (vVar 1) (vLst (vCons (vNew "InvalidReach" (vVar 0)) (vCons (vNew "InvalidHeight" (vVar 0)) (vCons (vNew "InvalidCode" (vVar 0)) (vNil)))))) (.nm 1)
abbrev p__law_by_name_k12_5 : VS := vAsg (vBin voAdd (vVar 1) (vLst (vCons (vNew "InvalidLive" (vVar 0)) (vCons (vNew "InvalidExits" (vVar 0)) (vCons (vNew "InvalidLayout" (vVar 0)) (vNil)))))) (.nm 1)
abbrev p__law_by_name_k12_6 : VS := vAsg (vBin voAdd (vVar 1) (vLst (vCons (vNew "InvalidCount" (vVar 0)) (vCons (vNew "InvalidText" (vVar 0)) (vCons (vNew "InvalidLine" (vVar 0)) (vNil)))))) (.nm 1)
abbrev p__law_by_name_k12_7 : VS := vAsg (vBin voAdd (vVar 1) (vLst (vCons (vNew "TooLow" (vVar 0)) (vCons (vNew "OutOfReach" (vVar 0)) (vNil))))) (.nm 1)
abbrev v__law_by_name_k12 : VS := vSeq (vAsg (vLst (vNil)) (.nm 1)) (vSeq (p__law_by_name_k12_2) (vSeq (p__law_by_name_k12_3) (vSeq (p__law_by_name_k12_4) (vSeq (p__law_by_name_k12_5) (vSeq (p__law_by_name_k12_6) (vSeq (p__law_by_name_k12_7) (vRet (vVar 1))))))))
def g__law_by_name_k12 : VF := vFn 2 [] v__law_by_name_k12
abbrev p__law_marks_k12_2 : VS := vAsg (vBin voAdd (vVar 1) (vLst (vCons (vCallB (vfIsX ["InvalidRow", "InvalidStack", "InvalidConstants", "InvalidGoal", "InvalidProgram", "InvalidInstruction", "InvalidReach", "InvalidHeight", "InvalidCode", "InvalidLive", "InvalidExits", "InvalidLayout", "InvalidCount", "InvalidText", "InvalidLine", "TooLow", "OutOfReach", "NotDistinct", "NothingToUndo", "NoBench"] sbEq) (vCons (vVar 0) (vCons (vC (.glb "InvalidRow")) (vNil)))) (vCons (vCallB (vfIsX ["InvalidRow", "InvalidStack", "InvalidConstants", "InvalidGoal", "InvalidProgram", "InvalidInstruction", "InvalidReach", "InvalidHeight", "InvalidCode", "InvalidLive", "InvalidExits", "InvalidLayout", "InvalidCount", "InvalidText", "InvalidLine", "TooLow", "OutOfReach", "NotDistinct", "NothingToUndo", "NoBench"] sbEq) (vCons (vVar 0) (vCons (vC (.glb "InvalidStack")) (vNil)))) (vNil))))) (.nm 1)
abbrev p__law_marks_k12_3 : VS := vAsg (vBin voAdd (vVar 1) (vLst (vCons (vCallB (vfIsX ["InvalidRow", "InvalidStack", "InvalidConstants", "InvalidGoal", "InvalidProgram", "InvalidInstruction", "InvalidReach", "InvalidHeight", "InvalidCode", "InvalidLive", "InvalidExits", "InvalidLayout", "InvalidCount", "InvalidText", "InvalidLine", "TooLow", "OutOfReach", "NotDistinct", "NothingToUndo", "NoBench"] sbEq) (vCons (vVar 0) (vCons (vC (.glb "InvalidConstants")) (vNil)))) (vCons (vCallB (vfIsX ["InvalidRow", "InvalidStack", "InvalidConstants", "InvalidGoal", "InvalidProgram", "InvalidInstruction", "InvalidReach", "InvalidHeight", "InvalidCode", "InvalidLive", "InvalidExits", "InvalidLayout", "InvalidCount", "InvalidText", "InvalidLine", "TooLow", "OutOfReach", "NotDistinct", "NothingToUndo", "NoBench"] sbEq) (vCons (vVar 0) (vCons (vC (.glb "InvalidGoal")) (vNil)))) (vNil))))) (.nm 1)
abbrev p__law_marks_k12_4 : VS := vAsg (vBin voAdd (vVar 1) (vLst (vCons (vCallB (vfIsX ["InvalidRow", "InvalidStack", "InvalidConstants", "InvalidGoal", "InvalidProgram", "InvalidInstruction", "InvalidReach", "InvalidHeight", "InvalidCode", "InvalidLive", "InvalidExits", "InvalidLayout", "InvalidCount", "InvalidText", "InvalidLine", "TooLow", "OutOfReach", "NotDistinct", "NothingToUndo", "NoBench"] sbEq) (vCons (vVar 0) (vCons (vC (.glb "InvalidProgram")) (vNil)))) (vCons (vCallB (vfIsX ["InvalidRow", "InvalidStack", "InvalidConstants", "InvalidGoal", "InvalidProgram", "InvalidInstruction", "InvalidReach", "InvalidHeight", "InvalidCode", "InvalidLive", "InvalidExits", "InvalidLayout", "InvalidCount", "InvalidText", "InvalidLine", "TooLow", "OutOfReach", "NotDistinct", "NothingToUndo", "NoBench"] sbEq) (vCons (vVar 0) (vCons (vC (.glb "InvalidInstruction")) (vNil)))) (vNil))))) (.nm 1)
abbrev p__law_marks_k12_5 : VS := vAsg (vBin voAdd (vVar 1) (vLst (vCons (vCallB (vfIsX ["InvalidRow", "InvalidStack", "InvalidConstants", "InvalidGoal", "InvalidProgram", "InvalidInstruction", "InvalidReach", "InvalidHeight", "InvalidCode", "InvalidLive", "InvalidExits", "InvalidLayout", "InvalidCount", "InvalidText", "InvalidLine", "TooLow", "OutOfReach", "NotDistinct", "NothingToUndo", "NoBench"] sbEq) (vCons (vVar 0) (vCons (vC (.glb "InvalidReach")) (vNil)))) (vCons (vCallB (vfIsX ["InvalidRow", "InvalidStack", "InvalidConstants", "InvalidGoal", "InvalidProgram", "InvalidInstruction", "InvalidReach", "InvalidHeight", "InvalidCode", "InvalidLive", "InvalidExits", "InvalidLayout", "InvalidCount", "InvalidText", "InvalidLine", "TooLow", "OutOfReach", "NotDistinct", "NothingToUndo", "NoBench"] sbEq) (vCons (vVar 0) (vCons (vC (.glb "InvalidHeight")) (vNil)))) (vNil))))) (.nm 1)
abbrev p__law_marks_k12_6 : VS := vAsg (vBin voAdd (vVar 1) (vLst (vCons (vCallB (vfIsX ["InvalidRow", "InvalidStack", "InvalidConstants", "InvalidGoal", "InvalidProgram", "InvalidInstruction", "InvalidReach", "InvalidHeight", "InvalidCode", "InvalidLive", "InvalidExits", "InvalidLayout", "InvalidCount", "InvalidText", "InvalidLine", "TooLow", "OutOfReach", "NotDistinct", "NothingToUndo", "NoBench"] sbEq) (vCons (vVar 0) (vCons (vC (.glb "InvalidCode")) (vNil)))) (vCons (vCallB (vfIsX ["InvalidRow", "InvalidStack", "InvalidConstants", "InvalidGoal", "InvalidProgram", "InvalidInstruction", "InvalidReach", "InvalidHeight", "InvalidCode", "InvalidLive", "InvalidExits", "InvalidLayout", "InvalidCount", "InvalidText", "InvalidLine", "TooLow", "OutOfReach", "NotDistinct", "NothingToUndo", "NoBench"] sbEq) (vCons (vVar 0) (vCons (vC (.glb "InvalidLive")) (vNil)))) (vNil))))) (.nm 1)
abbrev p__law_marks_k12_7 : VS := vAsg (vBin voAdd (vVar 1) (vLst (vCons (vCallB (vfIsX ["InvalidRow", "InvalidStack", "InvalidConstants", "InvalidGoal", "InvalidProgram", "InvalidInstruction", "InvalidReach", "InvalidHeight", "InvalidCode", "InvalidLive", "InvalidExits", "InvalidLayout", "InvalidCount", "InvalidText", "InvalidLine", "TooLow", "OutOfReach", "NotDistinct", "NothingToUndo", "NoBench"] sbEq) (vCons (vVar 0) (vCons (vC (.glb "InvalidExits")) (vNil)))) (vCons (vCallB (vfIsX ["InvalidRow", "InvalidStack", "InvalidConstants", "InvalidGoal", "InvalidProgram", "InvalidInstruction", "InvalidReach", "InvalidHeight", "InvalidCode", "InvalidLive", "InvalidExits", "InvalidLayout", "InvalidCount", "InvalidText", "InvalidLine", "TooLow", "OutOfReach", "NotDistinct", "NothingToUndo", "NoBench"] sbEq) (vCons (vVar 0) (vCons (vC (.glb "InvalidLayout")) (vNil)))) (vNil))))) (.nm 1)
abbrev p__law_marks_k12_8 : VS := vAsg (vBin voAdd (vVar 1) (vLst (vCons (vCallB (vfIsX ["InvalidRow", "InvalidStack", "InvalidConstants", "InvalidGoal", "InvalidProgram", "InvalidInstruction", "InvalidReach", "InvalidHeight", "InvalidCode", "InvalidLive", "InvalidExits", "InvalidLayout", "InvalidCount", "InvalidText", "InvalidLine", "TooLow", "OutOfReach", "NotDistinct", "NothingToUndo", "NoBench"] sbEq) (vCons (vVar 0) (vCons (vC (.glb "InvalidCount")) (vNil)))) (vCons (vCallB (vfIsX ["InvalidRow", "InvalidStack", "InvalidConstants", "InvalidGoal", "InvalidProgram", "InvalidInstruction", "InvalidReach", "InvalidHeight", "InvalidCode", "InvalidLive", "InvalidExits", "InvalidLayout", "InvalidCount", "InvalidText", "InvalidLine", "TooLow", "OutOfReach", "NotDistinct", "NothingToUndo", "NoBench"] sbEq) (vCons (vVar 0) (vCons (vC (.glb "InvalidText")) (vNil)))) (vNil))))) (.nm 1)
abbrev p__law_marks_k12_9 : VS := vAsg (vBin voAdd (vVar 1) (vLst (vCons (vCallB (vfIsX ["InvalidRow", "InvalidStack", "InvalidConstants", "InvalidGoal", "InvalidProgram", "InvalidInstruction", "InvalidReach", "InvalidHeight", "InvalidCode", "InvalidLive", "InvalidExits", "InvalidLayout", "InvalidCount", "InvalidText", "InvalidLine", "TooLow", "OutOfReach", "NotDistinct", "NothingToUndo", "NoBench"] sbEq) (vCons (vVar 0) (vCons (vC (.glb "InvalidLine")) (vNil)))) (vCons (vCallB (vfIsX ["InvalidRow", "InvalidStack", "InvalidConstants", "InvalidGoal", "InvalidProgram", "InvalidInstruction", "InvalidReach", "InvalidHeight", "InvalidCode", "InvalidLive", "InvalidExits", "InvalidLayout", "InvalidCount", "InvalidText", "InvalidLine", "TooLow", "OutOfReach", "NotDistinct", "NothingToUndo", "NoBench"] sbEq) (vCons (vVar 0) (vCons (vC (.glb "TooLow")) (vNil)))) (vCons (vCallB (vfIsX ["InvalidRow", "InvalidStack", "InvalidConstants", "InvalidGoal", "InvalidProgram", "InvalidInstruction", "InvalidReach", "InvalidHeight", "InvalidCode", "InvalidLive", "InvalidExits", "InvalidLayout", "InvalidCount", "InvalidText", "InvalidLine", "TooLow", "OutOfReach", "NotDistinct", "NothingToUndo", "NoBench"] sbEq) (vCons (vVar 0) (vCons (vC (.glb "OutOfReach")) (vNil)))) (vNil)))))) (.nm 1)
abbrev p__law_marks_k12_10 : VS := vAsg (vBin voAdd (vVar 1) (vLst (vCons (vCallB (vfIsX ["InvalidRow", "InvalidStack", "InvalidConstants", "InvalidGoal", "InvalidProgram", "InvalidInstruction", "InvalidReach", "InvalidHeight", "InvalidCode", "InvalidLive", "InvalidExits", "InvalidLayout", "InvalidCount", "InvalidText", "InvalidLine", "TooLow", "OutOfReach", "NotDistinct", "NothingToUndo", "NoBench"] sbEq) (vCons (vVar 0) (vCons (vC (.glb "NotDistinct")) (vNil)))) (vCons (vCallB (vfIsX ["InvalidRow", "InvalidStack", "InvalidConstants", "InvalidGoal", "InvalidProgram", "InvalidInstruction", "InvalidReach", "InvalidHeight", "InvalidCode", "InvalidLive", "InvalidExits", "InvalidLayout", "InvalidCount", "InvalidText", "InvalidLine", "TooLow", "OutOfReach", "NotDistinct", "NothingToUndo", "NoBench"] sbEq) (vCons (vVar 0) (vCons (vC (.glb "NothingToUndo")) (vNil)))) (vNil))))) (.nm 1)
abbrev p__law_marks_k12_11 : VS := vAsg (vBin voAdd (vVar 1) (vLst (vCons (vCallB (vfIsX ["InvalidRow", "InvalidStack", "InvalidConstants", "InvalidGoal", "InvalidProgram", "InvalidInstruction", "InvalidReach", "InvalidHeight", "InvalidCode", "InvalidLive", "InvalidExits", "InvalidLayout", "InvalidCount", "InvalidText", "InvalidLine", "TooLow", "OutOfReach", "NotDistinct", "NothingToUndo", "NoBench"] sbEq) (vCons (vVar 0) (vCons (vC (.glb "NoBench")) (vNil)))) (vNil)))) (.nm 1)
abbrev v__law_marks_k12 : VS := vSeq (vAsg (vLst (vNil)) (.nm 1)) (vSeq (p__law_marks_k12_2) (vSeq (p__law_marks_k12_3) (vSeq (p__law_marks_k12_4) (vSeq (p__law_marks_k12_5) (vSeq (p__law_marks_k12_6) (vSeq (p__law_marks_k12_7) (vSeq (p__law_marks_k12_8) (vSeq (p__law_marks_k12_9) (vSeq (p__law_marks_k12_10) (vSeq (p__law_marks_k12_11) (vRet (vVar 1))))))))))))
def g__law_marks_k12 : VF := vFn 2 [] v__law_marks_k12
abbrev p__law_right_k12_1 : VS := vAsg (vCall g__law_any_k12 1 [0] (vCons (vVar 0) (vNil))) (.nm 1)
abbrev p__law_right_k12_2 : VS := vAsg (vLst (vCons (vNew0 "NotDistinct") (vCons (vNew0 "NothingToUndo") (vCons (vNew0 "NoBench") (vNil))))) (.nm 2)
abbrev p__law_right_k12_5 : VS := vIfS (vOrT (vVal (vBin voNe (vCall g__law_marks_k12 1 [] (vCons (vVar 5) (vNil))) (vLc (viRng1 (vC (.int 20))) (.nm 6) (vYes) (vBin voEq (vVar 6) (vVar 4)) [6]))) (vNotT (vVal (vCallB (vfIsXS ["InvalidRow", "InvalidStack", "InvalidConstants", "InvalidGoal", "InvalidProgram", "InvalidInstruction", "InvalidReach", "InvalidHeight", "InvalidCode", "InvalidLive", "InvalidExits", "InvalidLayout", "InvalidCount", "InvalidText", "InvalidLine", "TooLow", "OutOfReach", "NotDistinct", "NothingToUndo", "NoBench"]) (vCons (vVar 5) (vCons (vC (.glb "StackError")) (vNil))))))) (vRet (vC (.bl false))) (vPass)
abbrev p__law_right_k12_7 : VS := vIfS (vNotT (vVal (vCallB (vfIsXV ["InvalidRow", "InvalidStack", "InvalidConstants", "InvalidGoal", "InvalidProgram", "InvalidInstruction", "InvalidReach", "InvalidHeight", "InvalidCode", "InvalidLive", "InvalidExits", "InvalidLayout", "InvalidCount", "InvalidText", "InvalidLine", "TooLow", "OutOfReach", "NotDistinct", "NothingToUndo", "NoBench"]) (vCons (vVar 5) (vCons (vC (.ty "ValueError")) (vNil)))))) (vRet (vC (.bl false))) (vPass)
abbrev p__law_right_k12_4 : VS := vFor (viEnum (vBin voAdd (vVar 3) (vVar 2))) (.tp [.nm 4, .nm 5]) (vSeq (p__law_right_k12_5) (p__law_right_k12_7))
abbrev p__law_right_k12_9 : VS := vIfS (vVal (vBin voNe (vCallB vfReprD (vCons (vLc (viSeq (vVar 3)) (.nm 5) (vYes) (vXval ["InvalidRow", "InvalidStack", "InvalidConstants", "InvalidGoal", "InvalidProgram", "InvalidInstruction", "InvalidReach", "InvalidHeight", "InvalidCode", "InvalidLive", "InvalidExits", "InvalidLayout", "InvalidCount", "InvalidText", "InvalidLine", "TooLow", "OutOfReach", "NotDistinct", "NothingToUndo", "NoBench"] (vVar 5)) [5]) (vNil))) (vCallB vfReprD (vCons (vBin voMul (vLst (vCons (vVar 1) (vNil))) (vC (.int 17))) (vNil))))) (vRet (vC (.bl false))) (vPass)
abbrev p__law_right_k12_3 : VS := vFor (viSeq (vTup (vCons (vCall g__law_with_value_k12 1 [] (vCons (vVar 1) (vNil))) (vCons (vCall g__law_by_name_k12 1 [] (vCons (vVar 1) (vNil))) (vNil))))) (.nm 3) (vSeq (p__law_right_k12_4) (p__law_right_k12_9))
abbrev v__law_right_k12 : VS := vSeq (p__law_right_k12_1) (vSeq (p__law_right_k12_2) (vSeq (p__law_right_k12_3) (vRet (vC (.bl true)))))
def g__law_right_k12 : VF := vFn 7 [0] v__law_right_k12
abbrev p_law_k12_1 : VS := vRet (vCallB vfAll (vCons (vLc (viRng1 (vCallB vfMax2 (vCons (vC (.int 1)) (vCons (vCallB vfMin2 (vCons (vCallB vfLenA (vCons (vVar 0) (vNil))) (vCons (vC (.int 2)) (vNil)))) (vNil))))) (.nm 1) (vYes) (vCall g__law_right_k12 1 [0] (vCons (vCall g__law_source 2 [] (vCons (vVar 0) (vCons (vVar 1) (vNil)))) (vNil))) [1]) (vNil)))
abbrev v_law_k12 : VS := p_law_k12_1
def g_law_k12 : VF := vFn 2 [] v_law_k12
end Vp
set_option Elab.async false
set_option linter.all false
set_option maxRecDepth 100000
set_option maxHeartbeats 4000000
namespace Sg.k12
open PySem PySem.W PySem.Spec PyProof.Rows L2 Sg Vg Vp
def tpk12 (i : Nat) : Stmt := PySem.Challenge.pw_stackgoals_k12_exceptions_made_by_hand.main.body.getD i (.Pass ⟨0, 0, 0, 0⟩)
abbrev s__law_draw : Stmt := tpk12 24
def q__law_draw_2 : EvS := sAsg (eBin opMod (eBinG opIxA (eVar 0) (eC (.int 0))) (eVar 1)) (.nm 2)
def q__law_draw_3 : EvS := sSub (eVar 0) (eC (.int 0)) (eBin opFdiv (eBinG opIxA (eVar 0) (eC (.int 0))) (eVar 1))
def q__law_draw_1 : EvS := sIf (tVal (eBinG opGt (eBinG opIxA (eVar 0) (eC (.int 0))) (eC (.int 0)))) (sSeq (q__law_draw_2) (sSeq (q__law_draw_3) (sRet (eVar 2)))) (sNil)
def q__law_draw_5 : EvS := sSub (eVar 0) (eC (.int 2)) (eBin opAdd (eBinG opIxA (eVar 0) (eC (.int 2))) (eC (.int 1)))
def q__law_draw_7 : EvS := sAsg (eBin opMod (eBin opMulA (eBin opAdd (eBin opAdd (eBinG opIxA (eVar 0) (eC (.int 1))) (eBin opMulA (eBin opMulA (eC (.int 65537)) (eVar 3)) (eVar 3))) (eC (.int 11))) (eC (.int 48271))) (eC (.int 2305843009213693921))) (.nm 4)
def q__law_draw_8 : EvS := sAsg (eBin opMod (eBin opMulA (eVar 4) (eBin opAdd (eBin opMod (eVar 4) (eC (.int 1000003))) (eBin opMulA (eC (.int 99991)) (eVar 3)))) (eC (.int 2305843009213693907))) (.nm 4)
def q__law_draw_9 : EvS := sRet (eBin opMod (eBin opAdd (eBin opFdiv (eVar 4) (eC (.int 97))) (eBin opFdiv (eVar 4) (eC (.int 1000033)))) (eVar 1))
def m__law_draw : EvS := sSeq (q__law_draw_1) (sSeq (q__law_draw_5) (sSeq (sAsg (eBinG opIxA (eVar 0) (eC (.int 2))) (.nm 3)) (sSeq (q__law_draw_7) (sSeq (q__law_draw_8) (q__law_draw_9)))))
def f__law_draw : Fn := fnOf 5 m__law_draw
abbrev s__law_pick : Stmt := tpk12 25
def q__law_pick_1 : EvS := sRet (eBinG opIxA (eVar 1) (eCall (ofN 2 f__law_draw) (aCons (eVar 0) (aCons (eCall fnLenA (aCons (eVar 1) (aNil))) (aNil)))))
def m__law_pick : EvS := q__law_pick_1
def f__law_pick : Fn := fnOf 2 m__law_pick
abbrev s__law_any : Stmt := tpk12 26
def q__law_any_1 : EvS := sAsg (eLst (aCons (eC .non) (aCons (eC (.bl true)) (aCons (eC (.bl false)) (aCons (eC (.int 0)) (aCons (eC (.int 1)) (aCons (eUn unNeg (eC (.int 1))) (aCons (eC (.int 61)) (aCons (eBin opPow (eC (.int 10)) (eC (.int 30))) (aCons (eC (.str "")) (aCons (eC (.str "a")) (aCons (eC (.str "A")) (aCons (eC (.str "toolongna")) (aCons (eTup (aNil)) (aCons (eLst (aNil)) (aCons (eDic0) (aCons (eTup (aCons (eC (.str "a")) (aNil))) (aCons (eLst (aCons (eC (.str "a")) (aNil))) (aCons (eTup (aCons (eC (.str "a")) (aCons (eC (.str "a")) (aNil)))) (aNil)))))))))))))))))))) (.nm 1)
def q__law_any_2 : EvS := sAsg (eCall (ofN 2 f__law_pick) (aCons (eVar 0) (aCons (eBin opAdd (eVar 1) (eLst (aCons (eTup (aCons (eC (.str "a")) (aCons (eC (.int 1)) (aNil)))) (aCons (eTup (aCons (eC (.str "drop")) (aNil))) (aCons (eLst (aCons (eC (.str "drop")) (aNil))) (aCons (eTup (aCons (eC (.str "copy")) (aCons (eC (.int 1)) (aNil)))) (aCons (eTup (aCons (eC (.str "copy")) (aCons (eC (.int 0)) (aNil)))) (aCons (eTup (aCons (eC (.str "push")) (aCons (eC (.str "k")) (aNil)))) (aCons (eDisp (pCons (eC (.str "a")) (eC (.int 1)) (pNil))) (aNil)))))))))) (aNil)))) (.nm 2)
def q__law_any_4 : EvS := sAsg (eCall (ofN 2 f__law_pick) (aCons (eVar 0) (aCons (eLst (aCons (eTup (aCons (eVar 2) (aNil))) (aCons (eLst (aCons (eVar 2) (aNil))) (aCons (eDisp (pCons (eC (.str "a")) (eVar 2) (pNil))) (aCons (eTup (aCons (eC (.str "a")) (aCons (eVar 2) (aNil)))) (aNil)))))) (aNil)))) (.nm 2)
def q__law_any_3 : EvS := sFor (iRng1 (eCall (ofN 2 f__law_pick) (aCons (eVar 0) (aCons (eLst (aCons (eC (.int 0)) (aCons (eC (.int 0)) (aCons (eC (.int 0)) (aCons (eC (.int 1)) (aCons (eC (.int 2)) (aCons (eC (.int 26)) (aNil)))))))) (aNil))))) (.nm 3) (q__law_any_4)
def m__law_any : EvS := sSeq (q__law_any_1) (sSeq (q__law_any_2) (sSeq (q__law_any_3) (sRet (eVar 2))))
def f__law_any : Fn := fnOf 4 m__law_any
abbrev s__law_by_name : Stmt := tpk12 28
def q__law_by_name_2 : EvS := sAsg (eBin opAdd (eVar 1) (eLst (aCons (eNew "InvalidRow" (eVar 0)) (aCons (eNew "InvalidStack" (eVar 0)) (aCons (eNew "InvalidConstants" (eVar 0)) (aNil)))))) (.nm 1)
def q__law_by_name_3 : EvS := sAsg (eBin opAdd (eVar 1) (eLst (aCons (eNew "InvalidGoal" (eVar 0)) (aCons (eNew "InvalidProgram" (eVar 0)) (aCons (eNew "InvalidInstruction" (eVar 0)) (aNil)))))) (.nm 1)
def q__law_by_name_4 : EvS := sAsg (eBin opAdd (eVar 1) (eLst (aCons (eNew "InvalidReach" (eVar 0)) (aCons (eNew "InvalidHeight" (eVar 0)) (aCons (eNew "InvalidCode" (eVar 0)) (aNil)))))) (.nm 1)
def q__law_by_name_5 : EvS := sAsg (eBin opAdd (eVar 1) (eLst (aCons (eNew "InvalidLive" (eVar 0)) (aCons (eNew "InvalidExits" (eVar 0)) (aCons (eNew "InvalidLayout" (eVar 0)) (aNil)))))) (.nm 1)
def q__law_by_name_6 : EvS := sAsg (eBin opAdd (eVar 1) (eLst (aCons (eNew "InvalidCount" (eVar 0)) (aCons (eNew "InvalidText" (eVar 0)) (aCons (eNew "InvalidLine" (eVar 0)) (aNil)))))) (.nm 1)
def q__law_by_name_7 : EvS := sAsg (eBin opAdd (eVar 1) (eLst (aCons (eNew "TooLow" (eVar 0)) (aCons (eNew "OutOfReach" (eVar 0)) (aNil))))) (.nm 1)
def m__law_by_name : EvS := sSeq (sAsg (eLst (aNil)) (.nm 1)) (sSeq (q__law_by_name_2) (sSeq (q__law_by_name_3) (sSeq (q__law_by_name_4) (sSeq (q__law_by_name_5) (sSeq (q__law_by_name_6) (sSeq (q__law_by_name_7) (sRet (eVar 1))))))))
def f__law_by_name : Fn := fnOf 2 m__law_by_name
abbrev s__law_with_value : Stmt := tpk12 27
def q__law_with_value_2 : EvS := sAsg (eBin opAdd (eVar 1) (eLst (aCons (eNew "InvalidRow" (eVar 0)) (aCons (eNew "InvalidStack" (eVar 0)) (aCons (eNew "InvalidConstants" (eVar 0)) (aCons (eNew "InvalidGoal" (eVar 0)) (aNil))))))) (.nm 1)
def q__law_with_value_3 : EvS := sAsg (eBin opAdd (eVar 1) (eLst (aCons (eNew "InvalidProgram" (eVar 0)) (aCons (eNew "InvalidInstruction" (eVar 0)) (aCons (eNew "InvalidReach" (eVar 0)) (aNil)))))) (.nm 1)
def q__law_with_value_4 : EvS := sAsg (eBin opAdd (eVar 1) (eLst (aCons (eNew "InvalidHeight" (eVar 0)) (aCons (eNew "InvalidCode" (eVar 0)) (aCons (eNew "InvalidLive" (eVar 0)) (aCons (eNew "InvalidExits" (eVar 0)) (aNil))))))) (.nm 1)
def q__law_with_value_5 : EvS := sAsg (eBin opAdd (eVar 1) (eLst (aCons (eNew "InvalidLayout" (eVar 0)) (aCons (eNew "InvalidCount" (eVar 0)) (aCons (eNew "InvalidText" (eVar 0)) (aCons (eNew "InvalidLine" (eVar 0)) (aNil))))))) (.nm 1)
def q__law_with_value_6 : EvS := sAsg (eBin opAdd (eVar 1) (eLst (aCons (eNew "TooLow" (eVar 0)) (aCons (eNew "OutOfReach" (eVar 0)) (aNil))))) (.nm 1)
def m__law_with_value : EvS := sSeq (sAsg (eLst (aNil)) (.nm 1)) (sSeq (q__law_with_value_2) (sSeq (q__law_with_value_3) (sSeq (q__law_with_value_4) (sSeq (q__law_with_value_5) (sSeq (q__law_with_value_6) (sRet (eVar 1)))))))
def f__law_with_value : Fn := fnOf 2 m__law_with_value
abbrev s__law_marks : Stmt := tpk12 29
def q__law_marks_2 : EvS := sAsg (eBin opAdd (eVar 1) (eLst (aCons (eCall (fnIsX ["InvalidRow", "InvalidStack", "InvalidConstants", "InvalidGoal", "InvalidProgram", "InvalidInstruction", "InvalidReach", "InvalidHeight", "InvalidCode", "InvalidLive", "InvalidExits", "InvalidLayout", "InvalidCount", "InvalidText", "InvalidLine", "TooLow", "OutOfReach", "NotDistinct", "NothingToUndo", "NoBench"] sbEq) (aCons (eVar 0) (aCons (eC (.glb "InvalidRow")) (aNil)))) (aCons (eCall (fnIsX ["InvalidRow", "InvalidStack", "InvalidConstants", "InvalidGoal", "InvalidProgram", "InvalidInstruction", "InvalidReach", "InvalidHeight", "InvalidCode", "InvalidLive", "InvalidExits", "InvalidLayout", "InvalidCount", "InvalidText", "InvalidLine", "TooLow", "OutOfReach", "NotDistinct", "NothingToUndo", "NoBench"] sbEq) (aCons (eVar 0) (aCons (eC (.glb "InvalidStack")) (aNil)))) (aNil))))) (.nm 1)
def q__law_marks_3 : EvS := sAsg (eBin opAdd (eVar 1) (eLst (aCons (eCall (fnIsX ["InvalidRow", "InvalidStack", "InvalidConstants", "InvalidGoal", "InvalidProgram", "InvalidInstruction", "InvalidReach", "InvalidHeight", "InvalidCode", "InvalidLive", "InvalidExits", "InvalidLayout", "InvalidCount", "InvalidText", "InvalidLine", "TooLow", "OutOfReach", "NotDistinct", "NothingToUndo", "NoBench"] sbEq) (aCons (eVar 0) (aCons (eC (.glb "InvalidConstants")) (aNil)))) (aCons (eCall (fnIsX ["InvalidRow", "InvalidStack", "InvalidConstants", "InvalidGoal", "InvalidProgram", "InvalidInstruction", "InvalidReach", "InvalidHeight", "InvalidCode", "InvalidLive", "InvalidExits", "InvalidLayout", "InvalidCount", "InvalidText", "InvalidLine", "TooLow", "OutOfReach", "NotDistinct", "NothingToUndo", "NoBench"] sbEq) (aCons (eVar 0) (aCons (eC (.glb "InvalidGoal")) (aNil)))) (aNil))))) (.nm 1)
def q__law_marks_4 : EvS := sAsg (eBin opAdd (eVar 1) (eLst (aCons (eCall (fnIsX ["InvalidRow", "InvalidStack", "InvalidConstants", "InvalidGoal", "InvalidProgram", "InvalidInstruction", "InvalidReach", "InvalidHeight", "InvalidCode", "InvalidLive", "InvalidExits", "InvalidLayout", "InvalidCount", "InvalidText", "InvalidLine", "TooLow", "OutOfReach", "NotDistinct", "NothingToUndo", "NoBench"] sbEq) (aCons (eVar 0) (aCons (eC (.glb "InvalidProgram")) (aNil)))) (aCons (eCall (fnIsX ["InvalidRow", "InvalidStack", "InvalidConstants", "InvalidGoal", "InvalidProgram", "InvalidInstruction", "InvalidReach", "InvalidHeight", "InvalidCode", "InvalidLive", "InvalidExits", "InvalidLayout", "InvalidCount", "InvalidText", "InvalidLine", "TooLow", "OutOfReach", "NotDistinct", "NothingToUndo", "NoBench"] sbEq) (aCons (eVar 0) (aCons (eC (.glb "InvalidInstruction")) (aNil)))) (aNil))))) (.nm 1)
def q__law_marks_5 : EvS := sAsg (eBin opAdd (eVar 1) (eLst (aCons (eCall (fnIsX ["InvalidRow", "InvalidStack", "InvalidConstants", "InvalidGoal", "InvalidProgram", "InvalidInstruction", "InvalidReach", "InvalidHeight", "InvalidCode", "InvalidLive", "InvalidExits", "InvalidLayout", "InvalidCount", "InvalidText", "InvalidLine", "TooLow", "OutOfReach", "NotDistinct", "NothingToUndo", "NoBench"] sbEq) (aCons (eVar 0) (aCons (eC (.glb "InvalidReach")) (aNil)))) (aCons (eCall (fnIsX ["InvalidRow", "InvalidStack", "InvalidConstants", "InvalidGoal", "InvalidProgram", "InvalidInstruction", "InvalidReach", "InvalidHeight", "InvalidCode", "InvalidLive", "InvalidExits", "InvalidLayout", "InvalidCount", "InvalidText", "InvalidLine", "TooLow", "OutOfReach", "NotDistinct", "NothingToUndo", "NoBench"] sbEq) (aCons (eVar 0) (aCons (eC (.glb "InvalidHeight")) (aNil)))) (aNil))))) (.nm 1)
def q__law_marks_6 : EvS := sAsg (eBin opAdd (eVar 1) (eLst (aCons (eCall (fnIsX ["InvalidRow", "InvalidStack", "InvalidConstants", "InvalidGoal", "InvalidProgram", "InvalidInstruction", "InvalidReach", "InvalidHeight", "InvalidCode", "InvalidLive", "InvalidExits", "InvalidLayout", "InvalidCount", "InvalidText", "InvalidLine", "TooLow", "OutOfReach", "NotDistinct", "NothingToUndo", "NoBench"] sbEq) (aCons (eVar 0) (aCons (eC (.glb "InvalidCode")) (aNil)))) (aCons (eCall (fnIsX ["InvalidRow", "InvalidStack", "InvalidConstants", "InvalidGoal", "InvalidProgram", "InvalidInstruction", "InvalidReach", "InvalidHeight", "InvalidCode", "InvalidLive", "InvalidExits", "InvalidLayout", "InvalidCount", "InvalidText", "InvalidLine", "TooLow", "OutOfReach", "NotDistinct", "NothingToUndo", "NoBench"] sbEq) (aCons (eVar 0) (aCons (eC (.glb "InvalidLive")) (aNil)))) (aNil))))) (.nm 1)
def q__law_marks_7 : EvS := sAsg (eBin opAdd (eVar 1) (eLst (aCons (eCall (fnIsX ["InvalidRow", "InvalidStack", "InvalidConstants", "InvalidGoal", "InvalidProgram", "InvalidInstruction", "InvalidReach", "InvalidHeight", "InvalidCode", "InvalidLive", "InvalidExits", "InvalidLayout", "InvalidCount", "InvalidText", "InvalidLine", "TooLow", "OutOfReach", "NotDistinct", "NothingToUndo", "NoBench"] sbEq) (aCons (eVar 0) (aCons (eC (.glb "InvalidExits")) (aNil)))) (aCons (eCall (fnIsX ["InvalidRow", "InvalidStack", "InvalidConstants", "InvalidGoal", "InvalidProgram", "InvalidInstruction", "InvalidReach", "InvalidHeight", "InvalidCode", "InvalidLive", "InvalidExits", "InvalidLayout", "InvalidCount", "InvalidText", "InvalidLine", "TooLow", "OutOfReach", "NotDistinct", "NothingToUndo", "NoBench"] sbEq) (aCons (eVar 0) (aCons (eC (.glb "InvalidLayout")) (aNil)))) (aNil))))) (.nm 1)
def q__law_marks_8 : EvS := sAsg (eBin opAdd (eVar 1) (eLst (aCons (eCall (fnIsX ["InvalidRow", "InvalidStack", "InvalidConstants", "InvalidGoal", "InvalidProgram", "InvalidInstruction", "InvalidReach", "InvalidHeight", "InvalidCode", "InvalidLive", "InvalidExits", "InvalidLayout", "InvalidCount", "InvalidText", "InvalidLine", "TooLow", "OutOfReach", "NotDistinct", "NothingToUndo", "NoBench"] sbEq) (aCons (eVar 0) (aCons (eC (.glb "InvalidCount")) (aNil)))) (aCons (eCall (fnIsX ["InvalidRow", "InvalidStack", "InvalidConstants", "InvalidGoal", "InvalidProgram", "InvalidInstruction", "InvalidReach", "InvalidHeight", "InvalidCode", "InvalidLive", "InvalidExits", "InvalidLayout", "InvalidCount", "InvalidText", "InvalidLine", "TooLow", "OutOfReach", "NotDistinct", "NothingToUndo", "NoBench"] sbEq) (aCons (eVar 0) (aCons (eC (.glb "InvalidText")) (aNil)))) (aNil))))) (.nm 1)
def q__law_marks_9 : EvS := sAsg (eBin opAdd (eVar 1) (eLst (aCons (eCall (fnIsX ["InvalidRow", "InvalidStack", "InvalidConstants", "InvalidGoal", "InvalidProgram", "InvalidInstruction", "InvalidReach", "InvalidHeight", "InvalidCode", "InvalidLive", "InvalidExits", "InvalidLayout", "InvalidCount", "InvalidText", "InvalidLine", "TooLow", "OutOfReach", "NotDistinct", "NothingToUndo", "NoBench"] sbEq) (aCons (eVar 0) (aCons (eC (.glb "InvalidLine")) (aNil)))) (aCons (eCall (fnIsX ["InvalidRow", "InvalidStack", "InvalidConstants", "InvalidGoal", "InvalidProgram", "InvalidInstruction", "InvalidReach", "InvalidHeight", "InvalidCode", "InvalidLive", "InvalidExits", "InvalidLayout", "InvalidCount", "InvalidText", "InvalidLine", "TooLow", "OutOfReach", "NotDistinct", "NothingToUndo", "NoBench"] sbEq) (aCons (eVar 0) (aCons (eC (.glb "TooLow")) (aNil)))) (aCons (eCall (fnIsX ["InvalidRow", "InvalidStack", "InvalidConstants", "InvalidGoal", "InvalidProgram", "InvalidInstruction", "InvalidReach", "InvalidHeight", "InvalidCode", "InvalidLive", "InvalidExits", "InvalidLayout", "InvalidCount", "InvalidText", "InvalidLine", "TooLow", "OutOfReach", "NotDistinct", "NothingToUndo", "NoBench"] sbEq) (aCons (eVar 0) (aCons (eC (.glb "OutOfReach")) (aNil)))) (aNil)))))) (.nm 1)
def q__law_marks_10 : EvS := sAsg (eBin opAdd (eVar 1) (eLst (aCons (eCall (fnIsX ["InvalidRow", "InvalidStack", "InvalidConstants", "InvalidGoal", "InvalidProgram", "InvalidInstruction", "InvalidReach", "InvalidHeight", "InvalidCode", "InvalidLive", "InvalidExits", "InvalidLayout", "InvalidCount", "InvalidText", "InvalidLine", "TooLow", "OutOfReach", "NotDistinct", "NothingToUndo", "NoBench"] sbEq) (aCons (eVar 0) (aCons (eC (.glb "NotDistinct")) (aNil)))) (aCons (eCall (fnIsX ["InvalidRow", "InvalidStack", "InvalidConstants", "InvalidGoal", "InvalidProgram", "InvalidInstruction", "InvalidReach", "InvalidHeight", "InvalidCode", "InvalidLive", "InvalidExits", "InvalidLayout", "InvalidCount", "InvalidText", "InvalidLine", "TooLow", "OutOfReach", "NotDistinct", "NothingToUndo", "NoBench"] sbEq) (aCons (eVar 0) (aCons (eC (.glb "NothingToUndo")) (aNil)))) (aNil))))) (.nm 1)
def q__law_marks_11 : EvS := sAsg (eBin opAdd (eVar 1) (eLst (aCons (eCall (fnIsX ["InvalidRow", "InvalidStack", "InvalidConstants", "InvalidGoal", "InvalidProgram", "InvalidInstruction", "InvalidReach", "InvalidHeight", "InvalidCode", "InvalidLive", "InvalidExits", "InvalidLayout", "InvalidCount", "InvalidText", "InvalidLine", "TooLow", "OutOfReach", "NotDistinct", "NothingToUndo", "NoBench"] sbEq) (aCons (eVar 0) (aCons (eC (.glb "NoBench")) (aNil)))) (aNil)))) (.nm 1)
def m__law_marks : EvS := sSeq (sAsg (eLst (aNil)) (.nm 1)) (sSeq (q__law_marks_2) (sSeq (q__law_marks_3) (sSeq (q__law_marks_4) (sSeq (q__law_marks_5) (sSeq (q__law_marks_6) (sSeq (q__law_marks_7) (sSeq (q__law_marks_8) (sSeq (q__law_marks_9) (sSeq (q__law_marks_10) (sSeq (q__law_marks_11) (sRet (eVar 1))))))))))))
def f__law_marks : Fn := fnOf 2 m__law_marks
abbrev s__law_right : Stmt := tpk12 30
def q__law_right_1 : EvS := sAsg (eCall (ofN 1 f__law_any) (aCons (eVar 0) (aNil))) (.nm 1)
def q__law_right_2 : EvS := sAsg (eLst (aCons (eNew0 "NotDistinct") (aCons (eNew0 "NothingToUndo") (aCons (eNew0 "NoBench") (aNil))))) (.nm 2)
def q__law_right_5 : EvS := sIf (tOr (tVal (eBinG opNe (eCall (ofN 1 f__law_marks) (aCons (eVar 5) (aNil))) (eLc (iRng1 (eC (.int 20))) (.nm 6) (tYes) (eBinG opEq (eVar 6) (eVar 4)) [6]))) (tNot (tVal (eCall (fnIsXS ["InvalidRow", "InvalidStack", "InvalidConstants", "InvalidGoal", "InvalidProgram", "InvalidInstruction", "InvalidReach", "InvalidHeight", "InvalidCode", "InvalidLive", "InvalidExits", "InvalidLayout", "InvalidCount", "InvalidText", "InvalidLine", "TooLow", "OutOfReach", "NotDistinct", "NothingToUndo", "NoBench"]) (aCons (eVar 5) (aCons (eC (.glb "StackError")) (aNil))))))) (sRet (eC (.bl false))) (sNil)
def q__law_right_7 : EvS := sIf (tNot (tVal (eCall (fnIsXV ["InvalidRow", "InvalidStack", "InvalidConstants", "InvalidGoal", "InvalidProgram", "InvalidInstruction", "InvalidReach", "InvalidHeight", "InvalidCode", "InvalidLive", "InvalidExits", "InvalidLayout", "InvalidCount", "InvalidText", "InvalidLine", "TooLow", "OutOfReach", "NotDistinct", "NothingToUndo", "NoBench"]) (aCons (eVar 5) (aCons (eC (.ty "ValueError")) (aNil)))))) (sRet (eC (.bl false))) (sNil)
def q__law_right_4 : EvS := sFor (iEnum (eBin opAdd (eVar 3) (eVar 2))) (.tp [.nm 4, .nm 5]) (sSeq (q__law_right_5) (q__law_right_7))
def q__law_right_9 : EvS := sIf (tVal (eBinG opNe (eCall fnReprD (aCons (eLc (iSeq (eVar 3)) (.nm 5) (tYes) (eXval ["InvalidRow", "InvalidStack", "InvalidConstants", "InvalidGoal", "InvalidProgram", "InvalidInstruction", "InvalidReach", "InvalidHeight", "InvalidCode", "InvalidLive", "InvalidExits", "InvalidLayout", "InvalidCount", "InvalidText", "InvalidLine", "TooLow", "OutOfReach", "NotDistinct", "NothingToUndo", "NoBench"] (eVar 5)) [5]) (aNil))) (eCall fnReprD (aCons (eBin opMulA (eLst (aCons (eVar 1) (aNil))) (eC (.int 17))) (aNil))))) (sRet (eC (.bl false))) (sNil)
def q__law_right_3 : EvS := sFor (iSeq (eTup (aCons (eCall (ofN 1 f__law_with_value) (aCons (eVar 1) (aNil))) (aCons (eCall (ofN 1 f__law_by_name) (aCons (eVar 1) (aNil))) (aNil))))) (.nm 3) (sSeq (q__law_right_4) (q__law_right_9))
def m__law_right : EvS := sSeq (q__law_right_1) (sSeq (q__law_right_2) (sSeq (q__law_right_3) (sRet (eC (.bl true)))))
def f__law_right : Fn := fnOf 7 m__law_right
abbrev s__law_source : Stmt := tpk12 23
def q__law_source_1 : EvS := sAsg (eIf (tVal (eBinG opLt (eVar 1) (eCall fnLenA (aCons (eVar 0) (aNil))))) (eBinG opIxA (eVar 0) (eVar 1)) (eC (.int 0))) (.nm 2)
def q__law_source_2 : EvS := sAsg (eIf (tVal (eBinG opGe (eCall fnAbs (aCons (eVar 2) (aNil))) (eBin opPow (eC (.int 10)) (eC (.int 18))))) (eBin opMod (eCall fnAbs (aCons (eVar 2) (aNil))) (eBin opPow (eBin opPow (eC (.int 10)) (eC (.int 60))) (eC (.int 4)))) (eC (.int 0))) (.nm 3)
def q__law_source_3 : EvS := sRet (eLst (aCons (eVar 3) (aCons (eBin opMod (eBin opAdd (eBin opAdd (eBin opMulA (eBin opMod (eVar 2) (eC (.int 2305843009213693951))) (eC (.int 1000003))) (eBin opMulA (eBin opMulA (eC (.int 7919)) (eVar 1)) (eVar 1))) (eC (.int 97))) (eC (.int 2305843009213693921))) (aCons (eC (.int 0)) (aNil)))))
def m__law_source : EvS := sSeq (q__law_source_1) (sSeq (q__law_source_2) (q__law_source_3))
def f__law_source : Fn := fnOf 4 m__law_source
abbrev s_law : Stmt := tpk12 31
def q_law_1 : EvS := sRet (eCall fnAll (aCons (eLc (iRng1 (eCall fnMax2 (aCons (eC (.int 1)) (aCons (eCall fnMin2 (aCons (eCall fnLenA (aCons (eVar 0) (aNil))) (aCons (eC (.int 2)) (aNil)))) (aNil))))) (.nm 1) (tYes) (eCall (ofN 1 f__law_right) (aCons (eCall (ofN 2 f__law_source) (aCons (eVar 0) (aCons (eVar 1) (aNil)))) (aNil))) [1]) (aNil)))
def m_law : EvS := q_law_1
def f_law : Fn := fnOf 2 m_law
abbrev N__law_draw : List Str := ["_law_source_here", "_law_size", "_law_digit", "_law_turn", "_law_mixed"]
theorem sc__law_draw : FnScope N__law_draw ["_law_source_here", "_law_size"] (L2.defScope s__law_draw) := ⟨rfl, rfl, rfl, by decide +kernel, rfl, by decide +kernel, by decide +kernel⟩
theorem bi__law_draw : BindAll "_law_draw" s__law_draw ["_law_source_here", "_law_size"] := fun _ _ _ _ _ _ us hl => match us, hl with | [_, _], _ => rfl
theorem ok__law_draw {W : Wd} {base : Heap} : BodyOk W base N__law_draw "_law_draw" s__law_draw 0 m__law_draw := fun f cd A o s H hr => by
  have hN := (sc__law_draw).nd
  exact ss_cons (ss_if (st_cmp od_gt (se_ixA hr.un (se_var 0) (se_int)) (se_int) rfl) (ss_cons (ss_set (i := 2) hN (se_bin od_mod (se_ixA hr.un (se_var 0) (se_int)) (se_var 1))) (ss_cons (ss_sub hr.un (se_bin od_fdiv (se_ixA hr.un (se_var 0) (se_int)) (se_var 1)) (se_var 0) (se_int)) (ss_one (ss_ret (se_var 2))))) (ss_nil)) (ss_cons (ss_sub hr.un (se_bin od_add (se_ixA hr.un (se_var 0) (se_int)) (se_int)) (se_var 0) (se_int)) (ss_cons (ss_set (i := 3) hN (se_ixA hr.un (se_var 0) (se_int))) (ss_cons (ss_set (i := 4) hN (se_bin od_mod (se_bin od_mul (se_bin od_add (se_bin od_add (se_ixA hr.un (se_var 0) (se_int)) (se_bin od_mul (se_bin od_mul (se_int) (se_var 3)) (se_var 3))) (se_int)) (se_int)) (se_int))) (ss_cons (ss_set (i := 4) hN (se_bin od_mod (se_bin od_mul (se_var 4) (se_bin od_add (se_bin od_mod (se_var 4) (se_int)) (se_bin od_mul (se_int) (se_var 3)))) (se_int))) (ss_one (ss_ret (se_bin od_mod (se_bin od_add (se_bin od_fdiv (se_var 4) (se_int)) (se_bin od_fdiv (se_var 4) (se_int))) (se_var 1))))))))
theorem r__law_draw : RFn f__law_draw g__law_draw [0] := rfn (rs_seq (rs_if (rt_val (re_binG ov_gt (re_binG ov_ix (re_var 0) (re_int)) (re_int))) (rs_seq (rs_asg 2 (re_bin ov_mod (re_binG ov_ix (re_var 0) (re_int)) (re_var 1))) (rs_seq (rs_sub sv_set (re_bin ov_fdiv (re_binG ov_ix (re_var 0) (re_int)) (re_var 1)) (re_var 0) (re_int)) (rs_ret (re_var 2)))) (rs_pass)) (rs_seq (rs_sub sv_set (re_bin ov_add (re_binG ov_ix (re_var 0) (re_int)) (re_int)) (re_var 0) (re_int)) (rs_seq (rs_asg 3 (re_binG ov_ix (re_var 0) (re_int))) (rs_seq (rs_asg 4 (re_bin ov_mod (re_bin ov_mul (re_bin ov_add (re_bin ov_add (re_binG ov_ix (re_var 0) (re_int)) (re_bin ov_mul (re_bin ov_mul (re_int) (re_var 3)) (re_var 3))) (re_int)) (re_int)) (re_int))) (rs_seq (rs_asg 4 (re_bin ov_mod (re_bin ov_mul (re_var 4) (re_bin ov_add (re_bin ov_mod (re_var 4) (re_int)) (re_bin ov_mul (re_int) (re_var 3)))) (re_int))) (rs_ret (re_bin ov_mod (re_bin ov_add (re_bin ov_fdiv (re_var 4) (re_int)) (re_bin ov_fdiv (re_var 4) (re_int))) (re_var 1))))))))
abbrev N__law_pick : List Str := ["_law_source_here", "_law_some"]
theorem sc__law_pick : FnScope N__law_pick ["_law_source_here", "_law_some"] (L2.defScope s__law_pick) := ⟨rfl, rfl, rfl, by decide +kernel, rfl, by decide +kernel, by decide +kernel⟩
theorem bi__law_pick : BindAll "_law_pick" s__law_pick ["_law_source_here", "_law_some"] := fun _ _ _ _ _ _ us hl => match us, hl with | [_, _], _ => rfl
theorem ok__law_pick {W : Wd} {base : Heap} (b_len : W.mg "len" = none) (c__law_draw : Cal W base 1 2 "_law_draw" f__law_draw) : BodyOk W base N__law_pick "_law_pick" s__law_pick 1 m__law_pick := fun f cd A o s H hr => by
  have hN := (sc__law_pick).nd
  exact ss_one (ss_ret (se_ixA hr.un (se_var 1) (se_callC c__law_draw hr (sa_cons (se_var 0) (sa_cons (se_callB cd_lenA rfl b_len bt_len (sa_cons (se_var 1) (sa_nil))) (sa_nil))))))
theorem r__law_pick : RFn f__law_pick g__law_pick [0] := rfn (rs_ret (re_binG ov_ix (re_var 1) (re_call r__law_draw (by decide) (ra_cons (re_var 0) (ra_cons (re_callB fv_lenA (ra_cons (re_var 1) (ra_nil))) (ra_nil))))))
abbrev N__law_any : List Str := ["_law_source_here", "_law_some", "_law_found", "_law_turn"]
theorem sc__law_any : FnScope N__law_any ["_law_source_here"] (L2.defScope s__law_any) := ⟨rfl, rfl, rfl, by decide +kernel, rfl, by decide +kernel, by decide +kernel⟩
theorem bi__law_any : BindAll "_law_any" s__law_any ["_law_source_here"] := fun _ _ _ _ _ _ us hl => match us, hl with | [_], _ => rfl
theorem ok__law_any {W : Wd} {base : Heap} (b_range : W.mg "range" = none) (c__law_pick : Cal W base 2 2 "_law_pick" f__law_pick) : BodyOk W base N__law_any "_law_any" s__law_any 2 m__law_any := fun f cd A o s H hr => by
  have hN := (sc__law_any).nd
  exact ss_cons (ss_set (i := 1) hN (se_lst (sa_cons (se_non) (sa_cons (se_bl) (sa_cons (se_bl) (sa_cons (se_int) (sa_cons (se_int) (sa_cons (se_un ud_neg (se_int)) (sa_cons (se_int) (sa_cons (se_bin od_pow (se_int) (se_int)) (sa_cons (se_str) (sa_cons (se_str) (sa_cons (se_str) (sa_cons (se_str) (sa_cons (se_tup (sa_nil)) (sa_cons (se_lst (sa_nil)) (sa_cons (se_dic0) (sa_cons (se_tup (sa_cons (se_str) (sa_nil))) (sa_cons (se_lst (sa_cons (se_str) (sa_nil))) (sa_cons (se_tup (sa_cons (se_str) (sa_cons (se_str) (sa_nil)))) (sa_nil))))))))))))))))))))) (ss_cons (ss_set (i := 2) hN (se_callC c__law_pick hr (sa_cons (se_var 0) (sa_cons (se_bin od_add (se_var 1) (se_lst (sa_cons (se_tup (sa_cons (se_str) (sa_cons (se_int) (sa_nil)))) (sa_cons (se_tup (sa_cons (se_str) (sa_nil))) (sa_cons (se_lst (sa_cons (se_str) (sa_nil))) (sa_cons (se_tup (sa_cons (se_str) (sa_cons (se_int) (sa_nil)))) (sa_cons (se_tup (sa_cons (se_str) (sa_cons (se_int) (sa_nil)))) (sa_cons (se_tup (sa_cons (se_str) (sa_cons (se_str) (sa_nil)))) (sa_cons (se_disp (.cons (se_str) (se_int) (.nil))) (sa_nil)))))))))) (sa_nil))))) (ss_cons (ss_for PassesOwn.never rfl (si_rng1 rfl b_range (se_callC c__law_pick hr (sa_cons (se_var 0) (sa_cons (se_lst (sa_cons (se_int) (sa_cons (se_int) (sa_cons (se_int) (sa_cons (se_int) (sa_cons (se_int) (sa_cons (se_int) (sa_nil)))))))) (sa_nil))))) (sg_name (i := 3) hN) (ss_one (ss_set (i := 2) hN (se_callC c__law_pick hr (sa_cons (se_var 0) (sa_cons (se_lst (sa_cons (se_tup (sa_cons (se_var 2) (sa_nil))) (sa_cons (se_lst (sa_cons (se_var 2) (sa_nil))) (sa_cons (se_disp (.cons (se_str) (se_var 2) (.nil))) (sa_cons (se_tup (sa_cons (se_str) (sa_cons (se_var 2) (sa_nil)))) (sa_nil)))))) (sa_nil))))))) (ss_one (ss_ret (se_var 2)))))
theorem r__law_any : RFn f__law_any g__law_any_k12 [0] := rfn (rs_seq (rs_asg 1 (re_lst (ra_cons (re_non) (ra_cons (re_bl) (ra_cons (re_bl) (ra_cons (re_int) (ra_cons (re_int) (ra_cons (re_un uv_neg (re_int)) (ra_cons (re_int) (ra_cons (re_bin ov_pow (re_int) (re_int)) (ra_cons (re_str) (ra_cons (re_str) (ra_cons (re_str) (ra_cons (re_str) (ra_cons (re_tup (ra_nil)) (ra_cons (re_lst (ra_nil)) (ra_cons (re_dic0) (ra_cons (re_tup (ra_cons (re_str) (ra_nil))) (ra_cons (re_lst (ra_cons (re_str) (ra_nil))) (ra_cons (re_tup (ra_cons (re_str) (ra_cons (re_str) (ra_nil)))) (ra_nil))))))))))))))))))))) (rs_seq (rs_asg 2 (re_call r__law_pick (by decide) (ra_cons (re_var 0) (ra_cons (re_bin ov_add (re_var 1) (re_lst (ra_cons (re_tup (ra_cons (re_str) (ra_cons (re_int) (ra_nil)))) (ra_cons (re_tup (ra_cons (re_str) (ra_nil))) (ra_cons (re_lst (ra_cons (re_str) (ra_nil))) (ra_cons (re_tup (ra_cons (re_str) (ra_cons (re_int) (ra_nil)))) (ra_cons (re_tup (ra_cons (re_str) (ra_cons (re_int) (ra_nil)))) (ra_cons (re_tup (ra_cons (re_str) (ra_cons (re_str) (ra_nil)))) (ra_cons (re_disp (rp_cons (re_str) (re_int) (rp_nil))) (ra_nil)))))))))) (ra_nil))))) (rs_seq (rs_for (ri_rng1 (re_call r__law_pick (by decide) (ra_cons (re_var 0) (ra_cons (re_lst (ra_cons (re_int) (ra_cons (re_int) (ra_cons (re_int) (ra_cons (re_int) (ra_cons (re_int) (ra_cons (re_int) (ra_nil)))))))) (ra_nil))))) (rs_asg 2 (re_call r__law_pick (by decide) (ra_cons (re_var 0) (ra_cons (re_lst (ra_cons (re_tup (ra_cons (re_var 2) (ra_nil))) (ra_cons (re_lst (ra_cons (re_var 2) (ra_nil))) (ra_cons (re_disp (rp_cons (re_str) (re_var 2) (rp_nil))) (ra_cons (re_tup (ra_cons (re_str) (ra_cons (re_var 2) (ra_nil)))) (ra_nil)))))) (ra_nil)))))) (rs_ret (re_var 2)))))
abbrev N__law_by_name : List Str := ["_law_given", "_law_found"]
theorem sc__law_by_name : FnScope N__law_by_name ["_law_given"] (L2.defScope s__law_by_name) := ⟨rfl, rfl, rfl, by decide +kernel, rfl, by decide +kernel, by decide +kernel⟩
theorem bi__law_by_name : BindAll "_law_by_name" s__law_by_name ["_law_given"] := fun _ _ _ _ _ _ us hl => match us, hl with | [_], _ => rfl
theorem ok__law_by_name {W : Wd} {base : Heap} (exn_InvalidConstants : ∃ C, W.mg "InvalidConstants" = some (.ref C) ∧ ExKN W base 1 C) (exn_InvalidStack : ∃ C, W.mg "InvalidStack" = some (.ref C) ∧ ExKN W base 1 C) (exn_InvalidRow : ∃ C, W.mg "InvalidRow" = some (.ref C) ∧ ExKN W base 1 C) (exn_InvalidInstruction : ∃ C, W.mg "InvalidInstruction" = some (.ref C) ∧ ExKN W base 1 C) (exn_InvalidProgram : ∃ C, W.mg "InvalidProgram" = some (.ref C) ∧ ExKN W base 1 C) (exn_InvalidGoal : ∃ C, W.mg "InvalidGoal" = some (.ref C) ∧ ExKN W base 1 C) (exn_InvalidCode : ∃ C, W.mg "InvalidCode" = some (.ref C) ∧ ExKN W base 1 C) (exn_InvalidHeight : ∃ C, W.mg "InvalidHeight" = some (.ref C) ∧ ExKN W base 1 C) (exn_InvalidReach : ∃ C, W.mg "InvalidReach" = some (.ref C) ∧ ExKN W base 1 C) (exn_InvalidLayout : ∃ C, W.mg "InvalidLayout" = some (.ref C) ∧ ExKN W base 1 C) (exn_InvalidExits : ∃ C, W.mg "InvalidExits" = some (.ref C) ∧ ExKN W base 1 C) (exn_InvalidLive : ∃ C, W.mg "InvalidLive" = some (.ref C) ∧ ExKN W base 1 C) (exn_InvalidLine : ∃ C, W.mg "InvalidLine" = some (.ref C) ∧ ExKN W base 1 C) (exn_InvalidText : ∃ C, W.mg "InvalidText" = some (.ref C) ∧ ExKN W base 1 C) (exn_InvalidCount : ∃ C, W.mg "InvalidCount" = some (.ref C) ∧ ExKN W base 1 C) (exn_OutOfReach : ∃ C, W.mg "OutOfReach" = some (.ref C) ∧ ExKN W base 1 C) (exn_TooLow : ∃ C, W.mg "TooLow" = some (.ref C) ∧ ExKN W base 1 C) : BodyOk W base N__law_by_name "_law_by_name" s__law_by_name 2 m__law_by_name := fun f cd A o s H hr => by
  have hN := (sc__law_by_name).nd
  obtain ⟨D_InvalidConstants, hmn_InvalidConstants, EKN_InvalidConstants⟩ := exn_InvalidConstants
  obtain ⟨D_InvalidStack, hmn_InvalidStack, EKN_InvalidStack⟩ := exn_InvalidStack
  obtain ⟨D_InvalidRow, hmn_InvalidRow, EKN_InvalidRow⟩ := exn_InvalidRow
  obtain ⟨D_InvalidInstruction, hmn_InvalidInstruction, EKN_InvalidInstruction⟩ := exn_InvalidInstruction
  obtain ⟨D_InvalidProgram, hmn_InvalidProgram, EKN_InvalidProgram⟩ := exn_InvalidProgram
  obtain ⟨D_InvalidGoal, hmn_InvalidGoal, EKN_InvalidGoal⟩ := exn_InvalidGoal
  obtain ⟨D_InvalidCode, hmn_InvalidCode, EKN_InvalidCode⟩ := exn_InvalidCode
  obtain ⟨D_InvalidHeight, hmn_InvalidHeight, EKN_InvalidHeight⟩ := exn_InvalidHeight
  obtain ⟨D_InvalidReach, hmn_InvalidReach, EKN_InvalidReach⟩ := exn_InvalidReach
  obtain ⟨D_InvalidLayout, hmn_InvalidLayout, EKN_InvalidLayout⟩ := exn_InvalidLayout
  obtain ⟨D_InvalidExits, hmn_InvalidExits, EKN_InvalidExits⟩ := exn_InvalidExits
  obtain ⟨D_InvalidLive, hmn_InvalidLive, EKN_InvalidLive⟩ := exn_InvalidLive
  obtain ⟨D_InvalidLine, hmn_InvalidLine, EKN_InvalidLine⟩ := exn_InvalidLine
  obtain ⟨D_InvalidText, hmn_InvalidText, EKN_InvalidText⟩ := exn_InvalidText
  obtain ⟨D_InvalidCount, hmn_InvalidCount, EKN_InvalidCount⟩ := exn_InvalidCount
  obtain ⟨D_OutOfReach, hmn_OutOfReach, EKN_OutOfReach⟩ := exn_OutOfReach
  obtain ⟨D_TooLow, hmn_TooLow, EKN_TooLow⟩ := exn_TooLow
  exact ss_cons (ss_set (i := 1) hN (se_lst (sa_nil))) (ss_cons (ss_set (i := 1) hN (se_bin od_add (se_var 1) (se_lst (sa_cons (se_newN EKN_InvalidRow (hr.mono (by decide)) rfl hmn_InvalidRow (se_var 0)) (sa_cons (se_newN EKN_InvalidStack (hr.mono (by decide)) rfl hmn_InvalidStack (se_var 0)) (sa_cons (se_newN EKN_InvalidConstants (hr.mono (by decide)) rfl hmn_InvalidConstants (se_var 0)) (sa_nil))))))) (ss_cons (ss_set (i := 1) hN (se_bin od_add (se_var 1) (se_lst (sa_cons (se_newN EKN_InvalidGoal (hr.mono (by decide)) rfl hmn_InvalidGoal (se_var 0)) (sa_cons (se_newN EKN_InvalidProgram (hr.mono (by decide)) rfl hmn_InvalidProgram (se_var 0)) (sa_cons (se_newN EKN_InvalidInstruction (hr.mono (by decide)) rfl hmn_InvalidInstruction (se_var 0)) (sa_nil))))))) (ss_cons (ss_set (i := 1) hN (se_bin od_add (se_var 1) (se_lst (sa_cons (se_newN EKN_InvalidReach (hr.mono (by decide)) rfl hmn_InvalidReach (se_var 0)) (sa_cons (se_newN EKN_InvalidHeight (hr.mono (by decide)) rfl hmn_InvalidHeight (se_var 0)) (sa_cons (se_newN EKN_InvalidCode (hr.mono (by decide)) rfl hmn_InvalidCode (se_var 0)) (sa_nil))))))) (ss_cons (ss_set (i := 1) hN (se_bin od_add (se_var 1) (se_lst (sa_cons (se_newN EKN_InvalidLive (hr.mono (by decide)) rfl hmn_InvalidLive (se_var 0)) (sa_cons (se_newN EKN_InvalidExits (hr.mono (by decide)) rfl hmn_InvalidExits (se_var 0)) (sa_cons (se_newN EKN_InvalidLayout (hr.mono (by decide)) rfl hmn_InvalidLayout (se_var 0)) (sa_nil))))))) (ss_cons (ss_set (i := 1) hN (se_bin od_add (se_var 1) (se_lst (sa_cons (se_newN EKN_InvalidCount (hr.mono (by decide)) rfl hmn_InvalidCount (se_var 0)) (sa_cons (se_newN EKN_InvalidText (hr.mono (by decide)) rfl hmn_InvalidText (se_var 0)) (sa_cons (se_newN EKN_InvalidLine (hr.mono (by decide)) rfl hmn_InvalidLine (se_var 0)) (sa_nil))))))) (ss_cons (ss_set (i := 1) hN (se_bin od_add (se_var 1) (se_lst (sa_cons (se_newN EKN_TooLow (hr.mono (by decide)) rfl hmn_TooLow (se_var 0)) (sa_cons (se_newN EKN_OutOfReach (hr.mono (by decide)) rfl hmn_OutOfReach (se_var 0)) (sa_nil)))))) (ss_one (ss_ret (se_var 1)))))))))
theorem r__law_by_name : RFn f__law_by_name g__law_by_name_k12 [] := rfn (rs_seq (rs_asg 1 (re_lst (ra_nil))) (rs_seq (rs_asg 1 (re_bin ov_add (re_var 1) (re_lst (ra_cons (re_new (re_var 0)) (ra_cons (re_new (re_var 0)) (ra_cons (re_new (re_var 0)) (ra_nil))))))) (rs_seq (rs_asg 1 (re_bin ov_add (re_var 1) (re_lst (ra_cons (re_new (re_var 0)) (ra_cons (re_new (re_var 0)) (ra_cons (re_new (re_var 0)) (ra_nil))))))) (rs_seq (rs_asg 1 (re_bin ov_add (re_var 1) (re_lst (ra_cons (re_new (re_var 0)) (ra_cons (re_new (re_var 0)) (ra_cons (re_new (re_var 0)) (ra_nil))))))) (rs_seq (rs_asg 1 (re_bin ov_add (re_var 1) (re_lst (ra_cons (re_new (re_var 0)) (ra_cons (re_new (re_var 0)) (ra_cons (re_new (re_var 0)) (ra_nil))))))) (rs_seq (rs_asg 1 (re_bin ov_add (re_var 1) (re_lst (ra_cons (re_new (re_var 0)) (ra_cons (re_new (re_var 0)) (ra_cons (re_new (re_var 0)) (ra_nil))))))) (rs_seq (rs_asg 1 (re_bin ov_add (re_var 1) (re_lst (ra_cons (re_new (re_var 0)) (ra_cons (re_new (re_var 0)) (ra_nil)))))) (rs_ret (re_var 1)))))))))
abbrev N__law_with_value : List Str := ["_law_given", "_law_found"]
theorem sc__law_with_value : FnScope N__law_with_value ["_law_given"] (L2.defScope s__law_with_value) := ⟨rfl, rfl, rfl, by decide +kernel, rfl, by decide +kernel, by decide +kernel⟩
theorem bi__law_with_value : BindAll "_law_with_value" s__law_with_value ["_law_given"] := fun _ _ _ _ _ _ us hl => match us, hl with | [_], _ => rfl
theorem ok__law_with_value {W : Wd} {base : Heap} (ex_InvalidGoal : ∃ C, W.mg "InvalidGoal" = some (.ref C) ∧ ExK W base 1 C) (ex_InvalidConstants : ∃ C, W.mg "InvalidConstants" = some (.ref C) ∧ ExK W base 1 C) (ex_InvalidStack : ∃ C, W.mg "InvalidStack" = some (.ref C) ∧ ExK W base 1 C) (ex_InvalidRow : ∃ C, W.mg "InvalidRow" = some (.ref C) ∧ ExK W base 1 C) (ex_InvalidReach : ∃ C, W.mg "InvalidReach" = some (.ref C) ∧ ExK W base 1 C) (ex_InvalidInstruction : ∃ C, W.mg "InvalidInstruction" = some (.ref C) ∧ ExK W base 1 C) (ex_InvalidProgram : ∃ C, W.mg "InvalidProgram" = some (.ref C) ∧ ExK W base 1 C) (ex_InvalidExits : ∃ C, W.mg "InvalidExits" = some (.ref C) ∧ ExK W base 1 C) (ex_InvalidLive : ∃ C, W.mg "InvalidLive" = some (.ref C) ∧ ExK W base 1 C) (ex_InvalidCode : ∃ C, W.mg "InvalidCode" = some (.ref C) ∧ ExK W base 1 C) (ex_InvalidHeight : ∃ C, W.mg "InvalidHeight" = some (.ref C) ∧ ExK W base 1 C) (ex_InvalidLine : ∃ C, W.mg "InvalidLine" = some (.ref C) ∧ ExK W base 1 C) (ex_InvalidText : ∃ C, W.mg "InvalidText" = some (.ref C) ∧ ExK W base 1 C) (ex_InvalidCount : ∃ C, W.mg "InvalidCount" = some (.ref C) ∧ ExK W base 1 C) (ex_InvalidLayout : ∃ C, W.mg "InvalidLayout" = some (.ref C) ∧ ExK W base 1 C) (ex_OutOfReach : ∃ C, W.mg "OutOfReach" = some (.ref C) ∧ ExK W base 1 C) (ex_TooLow : ∃ C, W.mg "TooLow" = some (.ref C) ∧ ExK W base 1 C) : BodyOk W base N__law_with_value "_law_with_value" s__law_with_value 2 m__law_with_value := fun f cd A o s H hr => by
  have hN := (sc__law_with_value).nd
  obtain ⟨C_InvalidGoal, hm_InvalidGoal, EK_InvalidGoal⟩ := ex_InvalidGoal
  obtain ⟨C_InvalidConstants, hm_InvalidConstants, EK_InvalidConstants⟩ := ex_InvalidConstants
  obtain ⟨C_InvalidStack, hm_InvalidStack, EK_InvalidStack⟩ := ex_InvalidStack
  obtain ⟨C_InvalidRow, hm_InvalidRow, EK_InvalidRow⟩ := ex_InvalidRow
  obtain ⟨C_InvalidReach, hm_InvalidReach, EK_InvalidReach⟩ := ex_InvalidReach
  obtain ⟨C_InvalidInstruction, hm_InvalidInstruction, EK_InvalidInstruction⟩ := ex_InvalidInstruction
  obtain ⟨C_InvalidProgram, hm_InvalidProgram, EK_InvalidProgram⟩ := ex_InvalidProgram
  obtain ⟨C_InvalidExits, hm_InvalidExits, EK_InvalidExits⟩ := ex_InvalidExits
  obtain ⟨C_InvalidLive, hm_InvalidLive, EK_InvalidLive⟩ := ex_InvalidLive
  obtain ⟨C_InvalidCode, hm_InvalidCode, EK_InvalidCode⟩ := ex_InvalidCode
  obtain ⟨C_InvalidHeight, hm_InvalidHeight, EK_InvalidHeight⟩ := ex_InvalidHeight
  obtain ⟨C_InvalidLine, hm_InvalidLine, EK_InvalidLine⟩ := ex_InvalidLine
  obtain ⟨C_InvalidText, hm_InvalidText, EK_InvalidText⟩ := ex_InvalidText
  obtain ⟨C_InvalidCount, hm_InvalidCount, EK_InvalidCount⟩ := ex_InvalidCount
  obtain ⟨C_InvalidLayout, hm_InvalidLayout, EK_InvalidLayout⟩ := ex_InvalidLayout
  obtain ⟨C_OutOfReach, hm_OutOfReach, EK_OutOfReach⟩ := ex_OutOfReach
  obtain ⟨C_TooLow, hm_TooLow, EK_TooLow⟩ := ex_TooLow
  exact ss_cons (ss_set (i := 1) hN (se_lst (sa_nil))) (ss_cons (ss_set (i := 1) hN (se_bin od_add (se_var 1) (se_lst (sa_cons (se_new EK_InvalidRow (hr.mono (by decide)) rfl hm_InvalidRow (se_var 0)) (sa_cons (se_new EK_InvalidStack (hr.mono (by decide)) rfl hm_InvalidStack (se_var 0)) (sa_cons (se_new EK_InvalidConstants (hr.mono (by decide)) rfl hm_InvalidConstants (se_var 0)) (sa_cons (se_new EK_InvalidGoal (hr.mono (by decide)) rfl hm_InvalidGoal (se_var 0)) (sa_nil)))))))) (ss_cons (ss_set (i := 1) hN (se_bin od_add (se_var 1) (se_lst (sa_cons (se_new EK_InvalidProgram (hr.mono (by decide)) rfl hm_InvalidProgram (se_var 0)) (sa_cons (se_new EK_InvalidInstruction (hr.mono (by decide)) rfl hm_InvalidInstruction (se_var 0)) (sa_cons (se_new EK_InvalidReach (hr.mono (by decide)) rfl hm_InvalidReach (se_var 0)) (sa_nil))))))) (ss_cons (ss_set (i := 1) hN (se_bin od_add (se_var 1) (se_lst (sa_cons (se_new EK_InvalidHeight (hr.mono (by decide)) rfl hm_InvalidHeight (se_var 0)) (sa_cons (se_new EK_InvalidCode (hr.mono (by decide)) rfl hm_InvalidCode (se_var 0)) (sa_cons (se_new EK_InvalidLive (hr.mono (by decide)) rfl hm_InvalidLive (se_var 0)) (sa_cons (se_new EK_InvalidExits (hr.mono (by decide)) rfl hm_InvalidExits (se_var 0)) (sa_nil)))))))) (ss_cons (ss_set (i := 1) hN (se_bin od_add (se_var 1) (se_lst (sa_cons (se_new EK_InvalidLayout (hr.mono (by decide)) rfl hm_InvalidLayout (se_var 0)) (sa_cons (se_new EK_InvalidCount (hr.mono (by decide)) rfl hm_InvalidCount (se_var 0)) (sa_cons (se_new EK_InvalidText (hr.mono (by decide)) rfl hm_InvalidText (se_var 0)) (sa_cons (se_new EK_InvalidLine (hr.mono (by decide)) rfl hm_InvalidLine (se_var 0)) (sa_nil)))))))) (ss_cons (ss_set (i := 1) hN (se_bin od_add (se_var 1) (se_lst (sa_cons (se_new EK_TooLow (hr.mono (by decide)) rfl hm_TooLow (se_var 0)) (sa_cons (se_new EK_OutOfReach (hr.mono (by decide)) rfl hm_OutOfReach (se_var 0)) (sa_nil)))))) (ss_one (ss_ret (se_var 1))))))))
theorem r__law_with_value : RFn f__law_with_value g__law_with_value_k12 [] := rfn (rs_seq (rs_asg 1 (re_lst (ra_nil))) (rs_seq (rs_asg 1 (re_bin ov_add (re_var 1) (re_lst (ra_cons (re_new (re_var 0)) (ra_cons (re_new (re_var 0)) (ra_cons (re_new (re_var 0)) (ra_cons (re_new (re_var 0)) (ra_nil)))))))) (rs_seq (rs_asg 1 (re_bin ov_add (re_var 1) (re_lst (ra_cons (re_new (re_var 0)) (ra_cons (re_new (re_var 0)) (ra_cons (re_new (re_var 0)) (ra_nil))))))) (rs_seq (rs_asg 1 (re_bin ov_add (re_var 1) (re_lst (ra_cons (re_new (re_var 0)) (ra_cons (re_new (re_var 0)) (ra_cons (re_new (re_var 0)) (ra_cons (re_new (re_var 0)) (ra_nil)))))))) (rs_seq (rs_asg 1 (re_bin ov_add (re_var 1) (re_lst (ra_cons (re_new (re_var 0)) (ra_cons (re_new (re_var 0)) (ra_cons (re_new (re_var 0)) (ra_cons (re_new (re_var 0)) (ra_nil)))))))) (rs_seq (rs_asg 1 (re_bin ov_add (re_var 1) (re_lst (ra_cons (re_new (re_var 0)) (ra_cons (re_new (re_var 0)) (ra_nil)))))) (rs_ret (re_var 1))))))))
abbrev N__law_marks : List Str := ["_law_error", "_law_found"]
theorem sc__law_marks : FnScope N__law_marks ["_law_error"] (L2.defScope s__law_marks) := ⟨rfl, rfl, rfl, by decide +kernel, rfl, by decide +kernel, by decide +kernel⟩
theorem bi__law_marks : BindAll "_law_marks" s__law_marks ["_law_error"] := fun _ _ _ _ _ _ us hl => match us, hl with | [_], _ => rfl
theorem ok__law_marks {W : Wd} {base : Heap} (b_isinstance : W.mg "isinstance" = none) (ci_InvalidStack : ClsIs W "InvalidStack") (ci_InvalidRow : ClsIs W "InvalidRow") (ci_InvalidGoal : ClsIs W "InvalidGoal") (ci_InvalidConstants : ClsIs W "InvalidConstants") (ci_InvalidInstruction : ClsIs W "InvalidInstruction") (ci_InvalidProgram : ClsIs W "InvalidProgram") (ci_InvalidHeight : ClsIs W "InvalidHeight") (ci_InvalidReach : ClsIs W "InvalidReach") (ci_InvalidLive : ClsIs W "InvalidLive") (ci_InvalidCode : ClsIs W "InvalidCode") (ci_InvalidLayout : ClsIs W "InvalidLayout") (ci_InvalidExits : ClsIs W "InvalidExits") (ci_InvalidText : ClsIs W "InvalidText") (ci_InvalidCount : ClsIs W "InvalidCount") (ci_OutOfReach : ClsIs W "OutOfReach") (ci_TooLow : ClsIs W "TooLow") (ci_InvalidLine : ClsIs W "InvalidLine") (ci_NothingToUndo : ClsIs W "NothingToUndo") (ci_NotDistinct : ClsIs W "NotDistinct") (ci_NoBench : ClsIs W "NoBench") (xc : XCls W ["InvalidRow", "InvalidStack", "InvalidConstants", "InvalidGoal", "InvalidProgram", "InvalidInstruction", "InvalidReach", "InvalidHeight", "InvalidCode", "InvalidLive", "InvalidExits", "InvalidLayout", "InvalidCount", "InvalidText", "InvalidLine", "TooLow", "OutOfReach", "NotDistinct", "NothingToUndo", "NoBench"] sbEq) : BodyOk W base N__law_marks "_law_marks" s__law_marks 0 m__law_marks := fun f cd A o s H hr => by
  have hN := (sc__law_marks).nd
  exact ss_cons (ss_set (i := 1) hN (se_lst (sa_nil))) (ss_cons (ss_set (i := 1) hN (se_bin od_add (se_var 1) (se_lst (sa_cons (se_callB (cd_isX xc) rfl b_isinstance bt_isinstance (sa_cons (se_var 0) (sa_cons (se_cls ci_InvalidRow) (sa_nil)))) (sa_cons (se_callB (cd_isX xc) rfl b_isinstance bt_isinstance (sa_cons (se_var 0) (sa_cons (se_cls ci_InvalidStack) (sa_nil)))) (sa_nil)))))) (ss_cons (ss_set (i := 1) hN (se_bin od_add (se_var 1) (se_lst (sa_cons (se_callB (cd_isX xc) rfl b_isinstance bt_isinstance (sa_cons (se_var 0) (sa_cons (se_cls ci_InvalidConstants) (sa_nil)))) (sa_cons (se_callB (cd_isX xc) rfl b_isinstance bt_isinstance (sa_cons (se_var 0) (sa_cons (se_cls ci_InvalidGoal) (sa_nil)))) (sa_nil)))))) (ss_cons (ss_set (i := 1) hN (se_bin od_add (se_var 1) (se_lst (sa_cons (se_callB (cd_isX xc) rfl b_isinstance bt_isinstance (sa_cons (se_var 0) (sa_cons (se_cls ci_InvalidProgram) (sa_nil)))) (sa_cons (se_callB (cd_isX xc) rfl b_isinstance bt_isinstance (sa_cons (se_var 0) (sa_cons (se_cls ci_InvalidInstruction) (sa_nil)))) (sa_nil)))))) (ss_cons (ss_set (i := 1) hN (se_bin od_add (se_var 1) (se_lst (sa_cons (se_callB (cd_isX xc) rfl b_isinstance bt_isinstance (sa_cons (se_var 0) (sa_cons (se_cls ci_InvalidReach) (sa_nil)))) (sa_cons (se_callB (cd_isX xc) rfl b_isinstance bt_isinstance (sa_cons (se_var 0) (sa_cons (se_cls ci_InvalidHeight) (sa_nil)))) (sa_nil)))))) (ss_cons (ss_set (i := 1) hN (se_bin od_add (se_var 1) (se_lst (sa_cons (se_callB (cd_isX xc) rfl b_isinstance bt_isinstance (sa_cons (se_var 0) (sa_cons (se_cls ci_InvalidCode) (sa_nil)))) (sa_cons (se_callB (cd_isX xc) rfl b_isinstance bt_isinstance (sa_cons (se_var 0) (sa_cons (se_cls ci_InvalidLive) (sa_nil)))) (sa_nil)))))) (ss_cons (ss_set (i := 1) hN (se_bin od_add (se_var 1) (se_lst (sa_cons (se_callB (cd_isX xc) rfl b_isinstance bt_isinstance (sa_cons (se_var 0) (sa_cons (se_cls ci_InvalidExits) (sa_nil)))) (sa_cons (se_callB (cd_isX xc) rfl b_isinstance bt_isinstance (sa_cons (se_var 0) (sa_cons (se_cls ci_InvalidLayout) (sa_nil)))) (sa_nil)))))) (ss_cons (ss_set (i := 1) hN (se_bin od_add (se_var 1) (se_lst (sa_cons (se_callB (cd_isX xc) rfl b_isinstance bt_isinstance (sa_cons (se_var 0) (sa_cons (se_cls ci_InvalidCount) (sa_nil)))) (sa_cons (se_callB (cd_isX xc) rfl b_isinstance bt_isinstance (sa_cons (se_var 0) (sa_cons (se_cls ci_InvalidText) (sa_nil)))) (sa_nil)))))) (ss_cons (ss_set (i := 1) hN (se_bin od_add (se_var 1) (se_lst (sa_cons (se_callB (cd_isX xc) rfl b_isinstance bt_isinstance (sa_cons (se_var 0) (sa_cons (se_cls ci_InvalidLine) (sa_nil)))) (sa_cons (se_callB (cd_isX xc) rfl b_isinstance bt_isinstance (sa_cons (se_var 0) (sa_cons (se_cls ci_TooLow) (sa_nil)))) (sa_cons (se_callB (cd_isX xc) rfl b_isinstance bt_isinstance (sa_cons (se_var 0) (sa_cons (se_cls ci_OutOfReach) (sa_nil)))) (sa_nil))))))) (ss_cons (ss_set (i := 1) hN (se_bin od_add (se_var 1) (se_lst (sa_cons (se_callB (cd_isX xc) rfl b_isinstance bt_isinstance (sa_cons (se_var 0) (sa_cons (se_cls ci_NotDistinct) (sa_nil)))) (sa_cons (se_callB (cd_isX xc) rfl b_isinstance bt_isinstance (sa_cons (se_var 0) (sa_cons (se_cls ci_NothingToUndo) (sa_nil)))) (sa_nil)))))) (ss_cons (ss_set (i := 1) hN (se_bin od_add (se_var 1) (se_lst (sa_cons (se_callB (cd_isX xc) rfl b_isinstance bt_isinstance (sa_cons (se_var 0) (sa_cons (se_cls ci_NoBench) (sa_nil)))) (sa_nil))))) (ss_one (ss_ret (se_var 1)))))))))))))
theorem r__law_marks : RFn f__law_marks g__law_marks_k12 [] := rfn (rs_seq (rs_asg 1 (re_lst (ra_nil))) (rs_seq (rs_asg 1 (re_bin ov_add (re_var 1) (re_lst (ra_cons (re_callB fv_isX (ra_cons (re_var 0) (ra_cons (re_glb) (ra_nil)))) (ra_cons (re_callB fv_isX (ra_cons (re_var 0) (ra_cons (re_glb) (ra_nil)))) (ra_nil)))))) (rs_seq (rs_asg 1 (re_bin ov_add (re_var 1) (re_lst (ra_cons (re_callB fv_isX (ra_cons (re_var 0) (ra_cons (re_glb) (ra_nil)))) (ra_cons (re_callB fv_isX (ra_cons (re_var 0) (ra_cons (re_glb) (ra_nil)))) (ra_nil)))))) (rs_seq (rs_asg 1 (re_bin ov_add (re_var 1) (re_lst (ra_cons (re_callB fv_isX (ra_cons (re_var 0) (ra_cons (re_glb) (ra_nil)))) (ra_cons (re_callB fv_isX (ra_cons (re_var 0) (ra_cons (re_glb) (ra_nil)))) (ra_nil)))))) (rs_seq (rs_asg 1 (re_bin ov_add (re_var 1) (re_lst (ra_cons (re_callB fv_isX (ra_cons (re_var 0) (ra_cons (re_glb) (ra_nil)))) (ra_cons (re_callB fv_isX (ra_cons (re_var 0) (ra_cons (re_glb) (ra_nil)))) (ra_nil)))))) (rs_seq (rs_asg 1 (re_bin ov_add (re_var 1) (re_lst (ra_cons (re_callB fv_isX (ra_cons (re_var 0) (ra_cons (re_glb) (ra_nil)))) (ra_cons (re_callB fv_isX (ra_cons (re_var 0) (ra_cons (re_glb) (ra_nil)))) (ra_nil)))))) (rs_seq (rs_asg 1 (re_bin ov_add (re_var 1) (re_lst (ra_cons (re_callB fv_isX (ra_cons (re_var 0) (ra_cons (re_glb) (ra_nil)))) (ra_cons (re_callB fv_isX (ra_cons (re_var 0) (ra_cons (re_glb) (ra_nil)))) (ra_nil)))))) (rs_seq (rs_asg 1 (re_bin ov_add (re_var 1) (re_lst (ra_cons (re_callB fv_isX (ra_cons (re_var 0) (ra_cons (re_glb) (ra_nil)))) (ra_cons (re_callB fv_isX (ra_cons (re_var 0) (ra_cons (re_glb) (ra_nil)))) (ra_nil)))))) (rs_seq (rs_asg 1 (re_bin ov_add (re_var 1) (re_lst (ra_cons (re_callB fv_isX (ra_cons (re_var 0) (ra_cons (re_glb) (ra_nil)))) (ra_cons (re_callB fv_isX (ra_cons (re_var 0) (ra_cons (re_glb) (ra_nil)))) (ra_cons (re_callB fv_isX (ra_cons (re_var 0) (ra_cons (re_glb) (ra_nil)))) (ra_nil))))))) (rs_seq (rs_asg 1 (re_bin ov_add (re_var 1) (re_lst (ra_cons (re_callB fv_isX (ra_cons (re_var 0) (ra_cons (re_glb) (ra_nil)))) (ra_cons (re_callB fv_isX (ra_cons (re_var 0) (ra_cons (re_glb) (ra_nil)))) (ra_nil)))))) (rs_seq (rs_asg 1 (re_bin ov_add (re_var 1) (re_lst (ra_cons (re_callB fv_isX (ra_cons (re_var 0) (ra_cons (re_glb) (ra_nil)))) (ra_nil))))) (rs_ret (re_var 1)))))))))))))
abbrev N__law_right : List Str := ["_law_source_here", "_law_given", "_law_bare", "_law_made", "_law_at", "_law_error", "_law_spot"]
theorem sc__law_right : FnScope N__law_right ["_law_source_here"] (L2.defScope s__law_right) := ⟨rfl, rfl, rfl, by decide +kernel, rfl, by decide +kernel, by decide +kernel⟩
theorem bi__law_right : BindAll "_law_right" s__law_right ["_law_source_here"] := fun _ _ _ _ _ _ us hl => match us, hl with | [_], _ => rfl
theorem ok__law_right {W : Wd} {base : Heap} (bS : SysB base) (b_enumerate : W.mg "enumerate" = none) (b_range : W.mg "range" = none) (b_isinstance : W.mg "isinstance" = none) (b_ValueError : W.mg "ValueError" = none) (b_repr : W.mg "repr" = none) (c__law_any : Cal W base 3 1 "_law_any" f__law_any) (c__law_by_name : Cal W base 3 1 "_law_by_name" f__law_by_name) (c__law_with_value : Cal W base 3 1 "_law_with_value" f__law_with_value) (c__law_marks : Cal W base 1 1 "_law_marks" f__law_marks) (exb_NoBench : ∃ C, W.mg "NoBench" = some (.ref C) ∧ ExB W C) (exb_NothingToUndo : ∃ C, W.mg "NothingToUndo" = some (.ref C) ∧ ExB W C) (exb_NotDistinct : ∃ C, W.mg "NotDistinct" = some (.ref C) ∧ ExB W C) (ci_StackError : ClsIs W "StackError") (xs : XSt W ["InvalidRow", "InvalidStack", "InvalidConstants", "InvalidGoal", "InvalidProgram", "InvalidInstruction", "InvalidReach", "InvalidHeight", "InvalidCode", "InvalidLive", "InvalidExits", "InvalidLayout", "InvalidCount", "InvalidText", "InvalidLine", "TooLow", "OutOfReach", "NotDistinct", "NothingToUndo", "NoBench"]) (xc : XCls W ["InvalidRow", "InvalidStack", "InvalidConstants", "InvalidGoal", "InvalidProgram", "InvalidInstruction", "InvalidReach", "InvalidHeight", "InvalidCode", "InvalidLive", "InvalidExits", "InvalidLayout", "InvalidCount", "InvalidText", "InvalidLine", "TooLow", "OutOfReach", "NotDistinct", "NothingToUndo", "NoBench"] sbEq) (xv : XVe W ["InvalidRow", "InvalidStack", "InvalidConstants", "InvalidGoal", "InvalidProgram", "InvalidInstruction", "InvalidReach", "InvalidHeight", "InvalidCode", "InvalidLive", "InvalidExits", "InvalidLayout", "InvalidCount", "InvalidText", "InvalidLine", "TooLow", "OutOfReach", "NotDistinct", "NothingToUndo", "NoBench"]) : BodyOk W base N__law_right "_law_right" s__law_right 3 m__law_right := fun f cd A o s H hr => by
  have hN := (sc__law_right).nd
  obtain ⟨B_NoBench, hmb_NoBench, EB_NoBench⟩ := exb_NoBench
  obtain ⟨B_NothingToUndo, hmb_NothingToUndo, EB_NothingToUndo⟩ := exb_NothingToUndo
  obtain ⟨B_NotDistinct, hmb_NotDistinct, EB_NotDistinct⟩ := exb_NotDistinct
  exact ss_cons (ss_set (i := 1) hN (se_callC c__law_any hr (sa_cons (se_var 0) (sa_nil)))) (ss_cons (ss_set (i := 2) hN (se_lst (sa_cons (se_newB EB_NotDistinct hmb_NotDistinct rfl) (sa_cons (se_newB EB_NothingToUndo hmb_NothingToUndo rfl) (sa_cons (se_newB EB_NoBench hmb_NoBench rfl) (sa_nil)))))) (ss_cons (ss_for PassesOwn.never rfl (si_seq (se_tup (sa_cons (se_callC c__law_with_value hr (sa_cons (se_var 1) (sa_nil))) (sa_cons (se_callC c__law_by_name hr (sa_cons (se_var 1) (sa_nil))) (sa_nil))))) (sg_name (i := 3) hN) (ss_cons (ss_for PassesOwn.never rfl (si_enum rfl b_enumerate (se_bin od_add (se_var 3) (se_var 2))) (sg_tup rfl (sgs_cons (sg_name (i := 4) hN) (sgs_cons (sg_name (i := 5) hN) (sgs_nil)))) (ss_cons (ss_if (SW.st (sw_or (st_cmp (od_ne hr.un) (se_callC c__law_marks hr (sa_cons (se_var 5) (sa_nil))) (se_lcB [("_law_spot", 6)] (si_rng1 rfl b_range (se_int)) hN rfl (by kernel_rfl) (fun _ _ _ _ _ => sg_name (i := 6) hN) (fun _ _ _ _ _ => sts_nil) (fun _ _ _ _ _ => se_cmp (od_eq hr.un) (se_var 6) (se_var 4) rfl)) rfl) (sw_or1 (st_not (st_val (se_callB (cd_isXS xc xs) rfl b_isinstance bt_isinstance (sa_cons (se_var 5) (sa_cons (se_cls ci_StackError) (sa_nil))))))))) (ss_one (ss_ret (se_bl))) (ss_nil)) (ss_one (ss_if (st_not (st_val (se_callB (cd_isXV xc xv) rfl b_isinstance bt_isinstance (sa_cons (se_var 5) (sa_cons (se_ty b_ValueError bt_ValueError) (sa_nil)))))) (ss_one (ss_ret (se_bl))) (ss_nil))))) (ss_one (ss_if (st_cmp (od_ne hr.un) (se_callB (cd_reprD hr bS) rfl b_repr bt_repr (sa_cons (se_lcB [("_law_error", 5)] (si_seq (se_var 3)) hN rfl (by kernel_rfl) (fun _ _ _ _ _ => sg_name (i := 5) hN) (fun _ _ _ _ _ => sts_nil) (fun _ _ _ _ _ => se_xval xc (se_var 5))) (sa_nil))) (se_callB (cd_reprD hr bS) rfl b_repr bt_repr (sa_cons (se_bin od_mul (se_lst (sa_cons (se_var 1) (sa_nil))) (se_int)) (sa_nil))) rfl) (ss_one (ss_ret (se_bl))) (ss_nil))))) (ss_one (ss_ret (se_bl)))))
theorem r__law_right : RFn f__law_right g__law_right_k12 [0] := rfn (rs_seq (rs_asg 1 (re_call r__law_any (by decide) (ra_cons (re_var 0) (ra_nil)))) (rs_seq (rs_asg 2 (re_lst (ra_cons (re_new0) (ra_cons (re_new0) (ra_cons (re_new0) (ra_nil)))))) (rs_seq (rs_for (ri_seq (re_tup (ra_cons (re_call r__law_with_value (by decide) (ra_cons (re_var 1) (ra_nil))) (ra_cons (re_call r__law_by_name (by decide) (ra_cons (re_var 1) (ra_nil))) (ra_nil))))) (rs_seq (rs_for (ri_enum (re_bin ov_add (re_var 3) (re_var 2))) (rs_seq (rs_if (rt_or (rt_val (re_binG ov_ne (re_call r__law_marks (by decide) (ra_cons (re_var 5) (ra_nil))) (re_lc rfl (ri_rng1 (re_int)) (rt_yes) (re_binG ov_eq (re_var 6) (re_var 4))))) (rt_not (rt_val (re_callB fv_isXS (ra_cons (re_var 5) (ra_cons (re_glb) (ra_nil))))))) (rs_ret (re_bl)) (rs_pass)) (rs_if (rt_not (rt_val (re_callB fv_isXV (ra_cons (re_var 5) (ra_cons (re_ty) (ra_nil)))))) (rs_ret (re_bl)) (rs_pass)))) (rs_if (rt_val (re_binG ov_ne (re_callB fv_reprD (ra_cons (re_lc rfl (ri_seq (re_var 3)) (rt_yes) (re_xval (re_var 5))) (ra_nil))) (re_callB fv_reprD (ra_cons (re_bin ov_mul (re_lst (ra_cons (re_var 1) (ra_nil))) (re_int)) (ra_nil))))) (rs_ret (re_bl)) (rs_pass)))) (rs_ret (re_bl)))))
abbrev N__law_source : List Str := ["_law_script", "_law_k", "_law_given", "_law_digits"]
theorem sc__law_source : FnScope N__law_source ["_law_script", "_law_k"] (L2.defScope s__law_source) := ⟨rfl, rfl, rfl, by decide +kernel, rfl, by decide +kernel, by decide +kernel⟩
theorem bi__law_source : BindAll "_law_source" s__law_source ["_law_script", "_law_k"] := fun _ _ _ _ _ _ us hl => match us, hl with | [_, _], _ => rfl
theorem ok__law_source {W : Wd} {base : Heap} (b_len : W.mg "len" = none) (b_abs : W.mg "abs" = none) : BodyOk W base N__law_source "_law_source" s__law_source 0 m__law_source := fun f cd A o s H hr => by
  have hN := (sc__law_source).nd
  exact ss_cons (ss_set (i := 2) hN (se_if (st_cmp od_lt (se_var 1) (se_callB cd_lenA rfl b_len bt_len (sa_cons (se_var 0) (sa_nil))) rfl) (se_ixA hr.un (se_var 0) (se_var 1)) (se_int))) (ss_cons (ss_set (i := 3) hN (se_if (st_cmp od_ge (se_callB cd_abs rfl b_abs bt_abs (sa_cons (se_var 2) (sa_nil))) (se_bin od_pow (se_int) (se_int)) rfl) (se_bin od_mod (se_callB cd_abs rfl b_abs bt_abs (sa_cons (se_var 2) (sa_nil))) (se_bin od_pow (se_bin od_pow (se_int) (se_int)) (se_int))) (se_int))) (ss_one (ss_ret (se_lst (sa_cons (se_var 3) (sa_cons (se_bin od_mod (se_bin od_add (se_bin od_add (se_bin od_mul (se_bin od_mod (se_var 2) (se_int)) (se_int)) (se_bin od_mul (se_bin od_mul (se_int) (se_var 1)) (se_var 1))) (se_int)) (se_int)) (sa_cons (se_int) (sa_nil))))))))
theorem r__law_source : RFn f__law_source g__law_source [] := rfn (rs_seq (rs_asg 2 (re_if (rt_val (re_binG ov_lt (re_var 1) (re_callB fv_lenA (ra_cons (re_var 0) (ra_nil))))) (re_binG ov_ix (re_var 0) (re_var 1)) (re_int))) (rs_seq (rs_asg 3 (re_if (rt_val (re_binG ov_ge (re_callB fv_abs (ra_cons (re_var 2) (ra_nil))) (re_bin ov_pow (re_int) (re_int)))) (re_bin ov_mod (re_callB fv_abs (ra_cons (re_var 2) (ra_nil))) (re_bin ov_pow (re_bin ov_pow (re_int) (re_int)) (re_int))) (re_int))) (rs_ret (re_lst (ra_cons (re_var 3) (ra_cons (re_bin ov_mod (re_bin ov_add (re_bin ov_add (re_bin ov_mul (re_bin ov_mod (re_var 2) (re_int)) (re_int)) (re_bin ov_mul (re_bin ov_mul (re_int) (re_var 1)) (re_var 1))) (re_int)) (re_int)) (ra_cons (re_int) (ra_nil))))))))
abbrev N_law : List Str := ["_law_script", "_law_k"]
theorem sc_law : FnScope N_law ["_law_script"] (L2.defScope s_law) := ⟨rfl, rfl, rfl, by decide +kernel, rfl, by decide +kernel, by decide +kernel⟩
theorem bi_law : BindAll "law" s_law ["_law_script"] := fun _ _ _ _ _ _ us hl => match us, hl with | [_], _ => rfl
theorem ok_law {W : Wd} {base : Heap} (b_len : W.mg "len" = none) (b_min : W.mg "min" = none) (b_max : W.mg "max" = none) (b_range : W.mg "range" = none) (b_all : W.mg "all" = none) (c__law_right : Cal W base 4 1 "_law_right" f__law_right) (c__law_source : Cal W base 1 2 "_law_source" f__law_source) : BodyOk W base N_law "law" s_law 4 m_law := fun f cd A o s H hr => by
  have hN := (sc_law).nd
  exact ss_one (ss_ret (se_callB (cd_all rfl) rfl b_all bt_all (sa_cons (se_lcB [("_law_k", 1)] (si_rng1 rfl b_range (se_callB (cd_max2 rfl) rfl b_max bt_max (sa_cons (se_int) (sa_cons (se_callB (cd_min2 rfl) rfl b_min bt_min (sa_cons (se_callB cd_lenA rfl b_len bt_len (sa_cons (se_var 0) (sa_nil))) (sa_cons (se_int) (sa_nil)))) (sa_nil))))) hN rfl (by kernel_rfl) (fun _ _ _ _ _ => sg_name (i := 1) hN) (fun _ _ _ _ _ => sts_nil) (fun _ _ _ _ _ => se_callC c__law_right hr (sa_cons (se_callC c__law_source hr (sa_cons (se_var 0) (sa_cons (se_var 1) (sa_nil)))) (sa_nil)))) (sa_nil))))
theorem r_law : RFn f_law g_law_k12 [] := rfn (rs_ret (re_callB fv_all (ra_cons (re_lc rfl (ri_rng1 (re_callB fv_max2 (ra_cons (re_int) (ra_cons (re_callB fv_min2 (ra_cons (re_callB fv_lenA (ra_cons (re_var 0) (ra_nil))) (ra_cons (re_int) (ra_nil)))) (ra_nil))))) (rt_yes) (re_call r__law_right (by decide) (ra_cons (re_call r__law_source (by decide) (ra_cons (re_var 0) (ra_cons (re_var 1) (ra_nil)))) (ra_nil)))) (ra_nil))))
abbrev s_InvalidRow : Stmt := tpk12 2
theorem cb_InvalidRow : ClsB "InvalidRow" s_InvalidRow := ⟨⟨_, _, _, [none, some " is not a row"], _, _, _, _, _, _, _, _, _, _, rfl, .val (.txt .nil), by decide, fun env => ⟨⟨_, rfl⟩, rfl, rfl⟩⟩, ⟨rfl, rfl, rfl, by decide +kernel, rfl, by decide +kernel, by decide +kernel⟩, by decide +kernel, fun _ _ _ _ _ _ us hl => match us, hl with | [_, _], _ => rfl⟩
abbrev s_InvalidStack : Stmt := tpk12 3
theorem cb_InvalidStack : ClsB "InvalidStack" s_InvalidStack := ⟨⟨_, _, _, [none, some " is not a stack"], _, _, _, _, _, _, _, _, _, _, rfl, .val (.txt .nil), by decide, fun env => ⟨⟨_, rfl⟩, rfl, rfl⟩⟩, ⟨rfl, rfl, rfl, by decide +kernel, rfl, by decide +kernel, by decide +kernel⟩, by decide +kernel, fun _ _ _ _ _ _ us hl => match us, hl with | [_, _], _ => rfl⟩
abbrev s_InvalidConstants : Stmt := tpk12 4
theorem cb_InvalidConstants : ClsB "InvalidConstants" s_InvalidConstants := ⟨⟨_, _, _, [none, some " is not constants"], _, _, _, _, _, _, _, _, _, _, rfl, .val (.txt .nil), by decide, fun env => ⟨⟨_, rfl⟩, rfl, rfl⟩⟩, ⟨rfl, rfl, rfl, by decide +kernel, rfl, by decide +kernel, by decide +kernel⟩, by decide +kernel, fun _ _ _ _ _ _ us hl => match us, hl with | [_, _], _ => rfl⟩
abbrev s_InvalidGoal : Stmt := tpk12 5
theorem cb_InvalidGoal : ClsB "InvalidGoal" s_InvalidGoal := ⟨⟨_, _, _, [none, some " is not a goal"], _, _, _, _, _, _, _, _, _, _, rfl, .val (.txt .nil), by decide, fun env => ⟨⟨_, rfl⟩, rfl, rfl⟩⟩, ⟨rfl, rfl, rfl, by decide +kernel, rfl, by decide +kernel, by decide +kernel⟩, by decide +kernel, fun _ _ _ _ _ _ us hl => match us, hl with | [_, _], _ => rfl⟩
abbrev s_InvalidProgram : Stmt := tpk12 6
theorem cb_InvalidProgram : ClsB "InvalidProgram" s_InvalidProgram := ⟨⟨_, _, _, [none, some " is not a program"], _, _, _, _, _, _, _, _, _, _, rfl, .val (.txt .nil), by decide, fun env => ⟨⟨_, rfl⟩, rfl, rfl⟩⟩, ⟨rfl, rfl, rfl, by decide +kernel, rfl, by decide +kernel, by decide +kernel⟩, by decide +kernel, fun _ _ _ _ _ _ us hl => match us, hl with | [_, _], _ => rfl⟩
abbrev s_InvalidInstruction : Stmt := tpk12 7
theorem cb_InvalidInstruction : ClsB "InvalidInstruction" s_InvalidInstruction := ⟨⟨_, _, _, [none, some " is not an instruction that is allowed"], _, _, _, _, _, _, _, _, _, _, rfl, .val (.txt .nil), by decide, fun env => ⟨⟨_, rfl⟩, rfl, rfl⟩⟩, ⟨rfl, rfl, rfl, by decide +kernel, rfl, by decide +kernel, by decide +kernel⟩, by decide +kernel, fun _ _ _ _ _ _ us hl => match us, hl with | [_, _], _ => rfl⟩
abbrev s_InvalidReach : Stmt := tpk12 8
theorem cb_InvalidReach : ClsB "InvalidReach" s_InvalidReach := ⟨⟨_, _, _, [none, some " is not a reach"], _, _, _, _, _, _, _, _, _, _, rfl, .val (.txt .nil), by decide, fun env => ⟨⟨_, rfl⟩, rfl, rfl⟩⟩, ⟨rfl, rfl, rfl, by decide +kernel, rfl, by decide +kernel, by decide +kernel⟩, by decide +kernel, fun _ _ _ _ _ _ us hl => match us, hl with | [_, _], _ => rfl⟩
abbrev s_InvalidHeight : Stmt := tpk12 9
theorem cb_InvalidHeight : ClsB "InvalidHeight" s_InvalidHeight := ⟨⟨_, _, _, [none, some " is not a height"], _, _, _, _, _, _, _, _, _, _, rfl, .val (.txt .nil), by decide, fun env => ⟨⟨_, rfl⟩, rfl, rfl⟩⟩, ⟨rfl, rfl, rfl, by decide +kernel, rfl, by decide +kernel, by decide +kernel⟩, by decide +kernel, fun _ _ _ _ _ _ us hl => match us, hl with | [_, _], _ => rfl⟩
abbrev s_InvalidCode : Stmt := tpk12 10
theorem cb_InvalidCode : ClsB "InvalidCode" s_InvalidCode := ⟨⟨_, _, _, [none, some " is not code"], _, _, _, _, _, _, _, _, _, _, rfl, .val (.txt .nil), by decide, fun env => ⟨⟨_, rfl⟩, rfl, rfl⟩⟩, ⟨rfl, rfl, rfl, by decide +kernel, rfl, by decide +kernel, by decide +kernel⟩, by decide +kernel, fun _ _ _ _ _ _ us hl => match us, hl with | [_, _], _ => rfl⟩
abbrev s_InvalidLive : Stmt := tpk12 11
theorem cb_InvalidLive : ClsB "InvalidLive" s_InvalidLive := ⟨⟨_, _, _, [none, some " is not live values"], _, _, _, _, _, _, _, _, _, _, rfl, .val (.txt .nil), by decide, fun env => ⟨⟨_, rfl⟩, rfl, rfl⟩⟩, ⟨rfl, rfl, rfl, by decide +kernel, rfl, by decide +kernel, by decide +kernel⟩, by decide +kernel, fun _ _ _ _ _ _ us hl => match us, hl with | [_, _], _ => rfl⟩
abbrev s_InvalidExits : Stmt := tpk12 12
theorem cb_InvalidExits : ClsB "InvalidExits" s_InvalidExits := ⟨⟨_, _, _, [none, some " is not exits"], _, _, _, _, _, _, _, _, _, _, rfl, .val (.txt .nil), by decide, fun env => ⟨⟨_, rfl⟩, rfl, rfl⟩⟩, ⟨rfl, rfl, rfl, by decide +kernel, rfl, by decide +kernel, by decide +kernel⟩, by decide +kernel, fun _ _ _ _ _ _ us hl => match us, hl with | [_, _], _ => rfl⟩
abbrev s_InvalidLayout : Stmt := tpk12 13
theorem cb_InvalidLayout : ClsB "InvalidLayout" s_InvalidLayout := ⟨⟨_, _, _, [none, some " is not a layout"], _, _, _, _, _, _, _, _, _, _, rfl, .val (.txt .nil), by decide, fun env => ⟨⟨_, rfl⟩, rfl, rfl⟩⟩, ⟨rfl, rfl, rfl, by decide +kernel, rfl, by decide +kernel, by decide +kernel⟩, by decide +kernel, fun _ _ _ _ _ _ us hl => match us, hl with | [_, _], _ => rfl⟩
abbrev s_InvalidCount : Stmt := tpk12 14
theorem cb_InvalidCount : ClsB "InvalidCount" s_InvalidCount := ⟨⟨_, _, _, [none, some " is not a count within the limits"], _, _, _, _, _, _, _, _, _, _, rfl, .val (.txt .nil), by decide, fun env => ⟨⟨_, rfl⟩, rfl, rfl⟩⟩, ⟨rfl, rfl, rfl, by decide +kernel, rfl, by decide +kernel, by decide +kernel⟩, by decide +kernel, fun _ _ _ _ _ _ us hl => match us, hl with | [_, _], _ => rfl⟩
abbrev s_InvalidText : Stmt := tpk12 15
theorem cb_InvalidText : ClsB "InvalidText" s_InvalidText := ⟨⟨_, _, _, [none, some " is not a text of the form"], _, _, _, _, _, _, _, _, _, _, rfl, .val (.txt .nil), by decide, fun env => ⟨⟨_, rfl⟩, rfl, rfl⟩⟩, ⟨rfl, rfl, rfl, by decide +kernel, rfl, by decide +kernel, by decide +kernel⟩, by decide +kernel, fun _ _ _ _ _ _ us hl => match us, hl with | [_, _], _ => rfl⟩
abbrev s_InvalidLine : Stmt := tpk12 16
theorem cb_InvalidLine : ClsB "InvalidLine" s_InvalidLine := ⟨⟨_, _, _, [none, some " is not a line of a desk"], _, _, _, _, _, _, _, _, _, _, rfl, .val (.txt .nil), by decide, fun env => ⟨⟨_, rfl⟩, rfl, rfl⟩⟩, ⟨rfl, rfl, rfl, by decide +kernel, rfl, by decide +kernel, by decide +kernel⟩, by decide +kernel, fun _ _ _ _ _ _ us hl => match us, hl with | [_, _], _ => rfl⟩
abbrev s_TooLow : Stmt := tpk12 17
theorem cb_TooLow : ClsB "TooLow" s_TooLow := ⟨⟨_, _, _, [some "the instruction ", none, some " cannot be executed"], _, _, _, _, _, _, _, _, _, _, rfl, .txt (.val (.txt .nil)), by decide, fun env => ⟨⟨_, rfl⟩, rfl, rfl⟩⟩, ⟨rfl, rfl, rfl, by decide +kernel, rfl, by decide +kernel, by decide +kernel⟩, by decide +kernel, fun _ _ _ _ _ _ us hl => match us, hl with | [_, _], _ => rfl⟩
abbrev s_OutOfReach : Stmt := tpk12 18
theorem cb_OutOfReach : ClsB "OutOfReach" s_OutOfReach := ⟨⟨_, _, _, [some "no program with the reach leads to the goal: ", none], _, _, _, _, _, _, _, _, _, _, rfl, .txt (.val .nil), by decide, fun env => ⟨⟨_, rfl⟩, rfl, rfl⟩⟩, ⟨rfl, rfl, rfl, by decide +kernel, rfl, by decide +kernel, by decide +kernel⟩, by decide +kernel, fun _ _ _ _ _ _ us hl => match us, hl with | [_, _], _ => rfl⟩
theorem all_k12 {K : PySem.W.Frag} {h : Heap} {mg : Str → Option Value} {P : Program} {w : World} {fa : Addr} (X : K.In h) (G : h.Ns mainGlobals mg) (hfa : mg "law" = some (.ref fa))
    (d__law_draw : DefIs K "_law_draw" s__law_draw)
    (d__law_pick : DefIs K "_law_pick" s__law_pick)
    (d__law_any : DefIs K "_law_any" s__law_any)
    (d__law_by_name : DefIs K "_law_by_name" s__law_by_name)
    (d__law_with_value : DefIs K "_law_with_value" s__law_with_value)
    (d__law_marks : DefIs K "_law_marks" s__law_marks)
    (d__law_right : DefIs K "_law_right" s__law_right)
    (d__law_source : DefIs K "_law_source" s__law_source)
    (d_law : DefIs K "law" s_law)
    {S_ : Addr} (dS : SupK K S_)
    {C_InvalidRow : Addr} (dc_InvalidRow : DefC K "InvalidRow" s_InvalidRow S_ C_InvalidRow)
    {C_InvalidStack : Addr} (dc_InvalidStack : DefC K "InvalidStack" s_InvalidStack S_ C_InvalidStack)
    {C_InvalidConstants : Addr} (dc_InvalidConstants : DefC K "InvalidConstants" s_InvalidConstants S_ C_InvalidConstants)
    {C_InvalidGoal : Addr} (dc_InvalidGoal : DefC K "InvalidGoal" s_InvalidGoal S_ C_InvalidGoal)
    {C_InvalidProgram : Addr} (dc_InvalidProgram : DefC K "InvalidProgram" s_InvalidProgram S_ C_InvalidProgram)
    {C_InvalidInstruction : Addr} (dc_InvalidInstruction : DefC K "InvalidInstruction" s_InvalidInstruction S_ C_InvalidInstruction)
    {C_InvalidReach : Addr} (dc_InvalidReach : DefC K "InvalidReach" s_InvalidReach S_ C_InvalidReach)
    {C_InvalidHeight : Addr} (dc_InvalidHeight : DefC K "InvalidHeight" s_InvalidHeight S_ C_InvalidHeight)
    {C_InvalidCode : Addr} (dc_InvalidCode : DefC K "InvalidCode" s_InvalidCode S_ C_InvalidCode)
    {C_InvalidLive : Addr} (dc_InvalidLive : DefC K "InvalidLive" s_InvalidLive S_ C_InvalidLive)
    {C_InvalidExits : Addr} (dc_InvalidExits : DefC K "InvalidExits" s_InvalidExits S_ C_InvalidExits)
    {C_InvalidLayout : Addr} (dc_InvalidLayout : DefC K "InvalidLayout" s_InvalidLayout S_ C_InvalidLayout)
    {C_InvalidCount : Addr} (dc_InvalidCount : DefC K "InvalidCount" s_InvalidCount S_ C_InvalidCount)
    {C_InvalidText : Addr} (dc_InvalidText : DefC K "InvalidText" s_InvalidText S_ C_InvalidText)
    {C_InvalidLine : Addr} (dc_InvalidLine : DefC K "InvalidLine" s_InvalidLine S_ C_InvalidLine)
    {C_TooLow : Addr} (dc_TooLow : DefC K "TooLow" s_TooLow S_ C_TooLow)
    {C_OutOfReach : Addr} (dc_OutOfReach : DefC K "OutOfReach" s_OutOfReach S_ C_OutOfReach)
    {C_NotDistinct : Addr} (db_NotDistinct : DefB K "NotDistinct" S_ C_NotDistinct)
    {C_NothingToUndo : Addr} (db_NothingToUndo : DefB K "NothingToUndo" S_ C_NothingToUndo)
    {C_NoBench : Addr} (db_NoBench : DefB K "NoBench" S_ C_NoBench)
    (of_InvalidRow : offAll K "InvalidRow" C_InvalidRow [("InvalidStack", C_InvalidStack), ("InvalidConstants", C_InvalidConstants), ("InvalidGoal", C_InvalidGoal), ("InvalidProgram", C_InvalidProgram), ("InvalidInstruction", C_InvalidInstruction), ("InvalidReach", C_InvalidReach), ("InvalidHeight", C_InvalidHeight), ("InvalidCode", C_InvalidCode), ("InvalidLive", C_InvalidLive), ("InvalidExits", C_InvalidExits), ("InvalidLayout", C_InvalidLayout), ("InvalidCount", C_InvalidCount), ("InvalidText", C_InvalidText), ("InvalidLine", C_InvalidLine), ("TooLow", C_TooLow), ("OutOfReach", C_OutOfReach), ("NotDistinct", C_NotDistinct), ("NothingToUndo", C_NothingToUndo), ("NoBench", C_NoBench)])
    (of_InvalidStack : offAll K "InvalidStack" C_InvalidStack [("InvalidConstants", C_InvalidConstants), ("InvalidGoal", C_InvalidGoal), ("InvalidProgram", C_InvalidProgram), ("InvalidInstruction", C_InvalidInstruction), ("InvalidReach", C_InvalidReach), ("InvalidHeight", C_InvalidHeight), ("InvalidCode", C_InvalidCode), ("InvalidLive", C_InvalidLive), ("InvalidExits", C_InvalidExits), ("InvalidLayout", C_InvalidLayout), ("InvalidCount", C_InvalidCount), ("InvalidText", C_InvalidText), ("InvalidLine", C_InvalidLine), ("TooLow", C_TooLow), ("OutOfReach", C_OutOfReach), ("NotDistinct", C_NotDistinct), ("NothingToUndo", C_NothingToUndo), ("NoBench", C_NoBench)])
    (of_InvalidConstants : offAll K "InvalidConstants" C_InvalidConstants [("InvalidGoal", C_InvalidGoal), ("InvalidProgram", C_InvalidProgram), ("InvalidInstruction", C_InvalidInstruction), ("InvalidReach", C_InvalidReach), ("InvalidHeight", C_InvalidHeight), ("InvalidCode", C_InvalidCode), ("InvalidLive", C_InvalidLive), ("InvalidExits", C_InvalidExits), ("InvalidLayout", C_InvalidLayout), ("InvalidCount", C_InvalidCount), ("InvalidText", C_InvalidText), ("InvalidLine", C_InvalidLine), ("TooLow", C_TooLow), ("OutOfReach", C_OutOfReach), ("NotDistinct", C_NotDistinct), ("NothingToUndo", C_NothingToUndo), ("NoBench", C_NoBench)])
    (of_InvalidGoal : offAll K "InvalidGoal" C_InvalidGoal [("InvalidProgram", C_InvalidProgram), ("InvalidInstruction", C_InvalidInstruction), ("InvalidReach", C_InvalidReach), ("InvalidHeight", C_InvalidHeight), ("InvalidCode", C_InvalidCode), ("InvalidLive", C_InvalidLive), ("InvalidExits", C_InvalidExits), ("InvalidLayout", C_InvalidLayout), ("InvalidCount", C_InvalidCount), ("InvalidText", C_InvalidText), ("InvalidLine", C_InvalidLine), ("TooLow", C_TooLow), ("OutOfReach", C_OutOfReach), ("NotDistinct", C_NotDistinct), ("NothingToUndo", C_NothingToUndo), ("NoBench", C_NoBench)])
    (of_InvalidProgram : offAll K "InvalidProgram" C_InvalidProgram [("InvalidInstruction", C_InvalidInstruction), ("InvalidReach", C_InvalidReach), ("InvalidHeight", C_InvalidHeight), ("InvalidCode", C_InvalidCode), ("InvalidLive", C_InvalidLive), ("InvalidExits", C_InvalidExits), ("InvalidLayout", C_InvalidLayout), ("InvalidCount", C_InvalidCount), ("InvalidText", C_InvalidText), ("InvalidLine", C_InvalidLine), ("TooLow", C_TooLow), ("OutOfReach", C_OutOfReach), ("NotDistinct", C_NotDistinct), ("NothingToUndo", C_NothingToUndo), ("NoBench", C_NoBench)])
    (of_InvalidInstruction : offAll K "InvalidInstruction" C_InvalidInstruction [("InvalidReach", C_InvalidReach), ("InvalidHeight", C_InvalidHeight), ("InvalidCode", C_InvalidCode), ("InvalidLive", C_InvalidLive), ("InvalidExits", C_InvalidExits), ("InvalidLayout", C_InvalidLayout), ("InvalidCount", C_InvalidCount), ("InvalidText", C_InvalidText), ("InvalidLine", C_InvalidLine), ("TooLow", C_TooLow), ("OutOfReach", C_OutOfReach), ("NotDistinct", C_NotDistinct), ("NothingToUndo", C_NothingToUndo), ("NoBench", C_NoBench)])
    (of_InvalidReach : offAll K "InvalidReach" C_InvalidReach [("InvalidHeight", C_InvalidHeight), ("InvalidCode", C_InvalidCode), ("InvalidLive", C_InvalidLive), ("InvalidExits", C_InvalidExits), ("InvalidLayout", C_InvalidLayout), ("InvalidCount", C_InvalidCount), ("InvalidText", C_InvalidText), ("InvalidLine", C_InvalidLine), ("TooLow", C_TooLow), ("OutOfReach", C_OutOfReach), ("NotDistinct", C_NotDistinct), ("NothingToUndo", C_NothingToUndo), ("NoBench", C_NoBench)])
    (of_InvalidHeight : offAll K "InvalidHeight" C_InvalidHeight [("InvalidCode", C_InvalidCode), ("InvalidLive", C_InvalidLive), ("InvalidExits", C_InvalidExits), ("InvalidLayout", C_InvalidLayout), ("InvalidCount", C_InvalidCount), ("InvalidText", C_InvalidText), ("InvalidLine", C_InvalidLine), ("TooLow", C_TooLow), ("OutOfReach", C_OutOfReach), ("NotDistinct", C_NotDistinct), ("NothingToUndo", C_NothingToUndo), ("NoBench", C_NoBench)])
    (of_InvalidCode : offAll K "InvalidCode" C_InvalidCode [("InvalidLive", C_InvalidLive), ("InvalidExits", C_InvalidExits), ("InvalidLayout", C_InvalidLayout), ("InvalidCount", C_InvalidCount), ("InvalidText", C_InvalidText), ("InvalidLine", C_InvalidLine), ("TooLow", C_TooLow), ("OutOfReach", C_OutOfReach), ("NotDistinct", C_NotDistinct), ("NothingToUndo", C_NothingToUndo), ("NoBench", C_NoBench)])
    (of_InvalidLive : offAll K "InvalidLive" C_InvalidLive [("InvalidExits", C_InvalidExits), ("InvalidLayout", C_InvalidLayout), ("InvalidCount", C_InvalidCount), ("InvalidText", C_InvalidText), ("InvalidLine", C_InvalidLine), ("TooLow", C_TooLow), ("OutOfReach", C_OutOfReach), ("NotDistinct", C_NotDistinct), ("NothingToUndo", C_NothingToUndo), ("NoBench", C_NoBench)])
    (of_InvalidExits : offAll K "InvalidExits" C_InvalidExits [("InvalidLayout", C_InvalidLayout), ("InvalidCount", C_InvalidCount), ("InvalidText", C_InvalidText), ("InvalidLine", C_InvalidLine), ("TooLow", C_TooLow), ("OutOfReach", C_OutOfReach), ("NotDistinct", C_NotDistinct), ("NothingToUndo", C_NothingToUndo), ("NoBench", C_NoBench)])
    (of_InvalidLayout : offAll K "InvalidLayout" C_InvalidLayout [("InvalidCount", C_InvalidCount), ("InvalidText", C_InvalidText), ("InvalidLine", C_InvalidLine), ("TooLow", C_TooLow), ("OutOfReach", C_OutOfReach), ("NotDistinct", C_NotDistinct), ("NothingToUndo", C_NothingToUndo), ("NoBench", C_NoBench)])
    (of_InvalidCount : offAll K "InvalidCount" C_InvalidCount [("InvalidText", C_InvalidText), ("InvalidLine", C_InvalidLine), ("TooLow", C_TooLow), ("OutOfReach", C_OutOfReach), ("NotDistinct", C_NotDistinct), ("NothingToUndo", C_NothingToUndo), ("NoBench", C_NoBench)])
    (of_InvalidText : offAll K "InvalidText" C_InvalidText [("InvalidLine", C_InvalidLine), ("TooLow", C_TooLow), ("OutOfReach", C_OutOfReach), ("NotDistinct", C_NotDistinct), ("NothingToUndo", C_NothingToUndo), ("NoBench", C_NoBench)])
    (of_InvalidLine : offAll K "InvalidLine" C_InvalidLine [("TooLow", C_TooLow), ("OutOfReach", C_OutOfReach), ("NotDistinct", C_NotDistinct), ("NothingToUndo", C_NothingToUndo), ("NoBench", C_NoBench)])
    (of_TooLow : offAll K "TooLow" C_TooLow [("OutOfReach", C_OutOfReach), ("NotDistinct", C_NotDistinct), ("NothingToUndo", C_NothingToUndo), ("NoBench", C_NoBench)])
    (of_OutOfReach : offAll K "OutOfReach" C_OutOfReach [("NotDistinct", C_NotDistinct), ("NothingToUndo", C_NothingToUndo), ("NoBench", C_NoBench)])
    (of_NotDistinct : offAll K "NotDistinct" C_NotDistinct [("NothingToUndo", C_NothingToUndo), ("NoBench", C_NoBench)])
    (of_NothingToUndo : offAll K "NothingToUndo" C_NothingToUndo [("NoBench", C_NoBench)])
    (of_NoBench : offAll K "NoBench" C_NoBench [])
    (uv_InvalidRow : PySem.W.subIn K (.ref C_InvalidRow) (.type "ValueError") = some true)
    (uv_InvalidStack : PySem.W.subIn K (.ref C_InvalidStack) (.type "ValueError") = some true)
    (uv_InvalidConstants : PySem.W.subIn K (.ref C_InvalidConstants) (.type "ValueError") = some true)
    (uv_InvalidGoal : PySem.W.subIn K (.ref C_InvalidGoal) (.type "ValueError") = some true)
    (uv_InvalidProgram : PySem.W.subIn K (.ref C_InvalidProgram) (.type "ValueError") = some true)
    (uv_InvalidInstruction : PySem.W.subIn K (.ref C_InvalidInstruction) (.type "ValueError") = some true)
    (uv_InvalidReach : PySem.W.subIn K (.ref C_InvalidReach) (.type "ValueError") = some true)
    (uv_InvalidHeight : PySem.W.subIn K (.ref C_InvalidHeight) (.type "ValueError") = some true)
    (uv_InvalidCode : PySem.W.subIn K (.ref C_InvalidCode) (.type "ValueError") = some true)
    (uv_InvalidLive : PySem.W.subIn K (.ref C_InvalidLive) (.type "ValueError") = some true)
    (uv_InvalidExits : PySem.W.subIn K (.ref C_InvalidExits) (.type "ValueError") = some true)
    (uv_InvalidLayout : PySem.W.subIn K (.ref C_InvalidLayout) (.type "ValueError") = some true)
    (uv_InvalidCount : PySem.W.subIn K (.ref C_InvalidCount) (.type "ValueError") = some true)
    (uv_InvalidText : PySem.W.subIn K (.ref C_InvalidText) (.type "ValueError") = some true)
    (uv_InvalidLine : PySem.W.subIn K (.ref C_InvalidLine) (.type "ValueError") = some true)
    (uv_TooLow : PySem.W.subIn K (.ref C_TooLow) (.type "ValueError") = some true)
    (uv_OutOfReach : PySem.W.subIn K (.ref C_OutOfReach) (.type "ValueError") = some true)
    (uv_NotDistinct : PySem.W.subIn K (.ref C_NotDistinct) (.type "ValueError") = some true)
    (uv_NothingToUndo : PySem.W.subIn K (.ref C_NothingToUndo) (.type "ValueError") = some true)
    (uv_NoBench : PySem.W.subIn K (.ref C_NoBench) (.type "ValueError") = some true)
    (z_len : PySem.W.nsIn K mainGlobals "len" = some none)
    (z_range : PySem.W.nsIn K mainGlobals "range" = some none)
    (z_isinstance : PySem.W.nsIn K mainGlobals "isinstance" = some none)
    (z_enumerate : PySem.W.nsIn K mainGlobals "enumerate" = some none)
    (z_ValueError : PySem.W.nsIn K mainGlobals "ValueError" = some none)
    (z_repr : PySem.W.nsIn K mainGlobals "repr" = some none)
    (z_abs : PySem.W.nsIn K mainGlobals "abs" = some none)
    (z_min : PySem.W.nsIn K mainGlobals "min" = some none)
    (z_max : PySem.W.nsIn K mainGlobals "max" = some none)
    (z_all : PySem.W.nsIn K mainGlobals "all" = some none)
    : ∃ fd : FuncData, (∀ (s : Shared) (u : Value), BindsTo s fd ⟨[u], []⟩ [("_law_script", u)]) ∧ ∀ base : Heap, K.In base → NsS base mg → FnD ⟨K, mg, P, w⟩ base 5 fa fd ["_law_script"] f_law := by
  have DC : DefXs K S_ [("InvalidRow", C_InvalidRow), ("InvalidStack", C_InvalidStack), ("InvalidConstants", C_InvalidConstants), ("InvalidGoal", C_InvalidGoal), ("InvalidProgram", C_InvalidProgram), ("InvalidInstruction", C_InvalidInstruction), ("InvalidReach", C_InvalidReach), ("InvalidHeight", C_InvalidHeight), ("InvalidCode", C_InvalidCode), ("InvalidLive", C_InvalidLive), ("InvalidExits", C_InvalidExits), ("InvalidLayout", C_InvalidLayout), ("InvalidCount", C_InvalidCount), ("InvalidText", C_InvalidText), ("InvalidLine", C_InvalidLine), ("TooLow", C_TooLow), ("OutOfReach", C_OutOfReach), ("NotDistinct", C_NotDistinct), ("NothingToUndo", C_NothingToUndo), ("NoBench", C_NoBench)] := .cons (DefC.x dc_InvalidRow) of_InvalidRow (.cons (DefC.x dc_InvalidStack) of_InvalidStack (.cons (DefC.x dc_InvalidConstants) of_InvalidConstants (.cons (DefC.x dc_InvalidGoal) of_InvalidGoal (.cons (DefC.x dc_InvalidProgram) of_InvalidProgram (.cons (DefC.x dc_InvalidInstruction) of_InvalidInstruction (.cons (DefC.x dc_InvalidReach) of_InvalidReach (.cons (DefC.x dc_InvalidHeight) of_InvalidHeight (.cons (DefC.x dc_InvalidCode) of_InvalidCode (.cons (DefC.x dc_InvalidLive) of_InvalidLive (.cons (DefC.x dc_InvalidExits) of_InvalidExits (.cons (DefC.x dc_InvalidLayout) of_InvalidLayout (.cons (DefC.x dc_InvalidCount) of_InvalidCount (.cons (DefC.x dc_InvalidText) of_InvalidText (.cons (DefC.x dc_InvalidLine) of_InvalidLine (.cons (DefC.x dc_TooLow) of_TooLow (.cons (DefC.x dc_OutOfReach) of_OutOfReach (.cons (db_NotDistinct.x) of_NotDistinct (.cons (db_NothingToUndo.x) of_NothingToUndo (.cons (db_NoBench.x) of_NoBench (.nil))))))))))))))))))))
  have xc : XCls ⟨K, mg, P, w⟩ ["InvalidRow", "InvalidStack", "InvalidConstants", "InvalidGoal", "InvalidProgram", "InvalidInstruction", "InvalidReach", "InvalidHeight", "InvalidCode", "InvalidLive", "InvalidExits", "InvalidLayout", "InvalidCount", "InvalidText", "InvalidLine", "TooLow", "OutOfReach", "NotDistinct", "NothingToUndo", "NoBench"] sbEq := DefXs.xcls (W := ⟨K, mg, P, w⟩) DC dS X G rfl
  have xs : XSt ⟨K, mg, P, w⟩ ["InvalidRow", "InvalidStack", "InvalidConstants", "InvalidGoal", "InvalidProgram", "InvalidInstruction", "InvalidReach", "InvalidHeight", "InvalidCode", "InvalidLive", "InvalidExits", "InvalidLayout", "InvalidCount", "InvalidText", "InvalidLine", "TooLow", "OutOfReach", "NotDistinct", "NothingToUndo", "NoBench"] := DefXs.xst (W := ⟨K, mg, P, w⟩) DC dS X G rfl
  have xv : XVe ⟨K, mg, P, w⟩ ["InvalidRow", "InvalidStack", "InvalidConstants", "InvalidGoal", "InvalidProgram", "InvalidInstruction", "InvalidReach", "InvalidHeight", "InvalidCode", "InvalidLive", "InvalidExits", "InvalidLayout", "InvalidCount", "InvalidText", "InvalidLine", "TooLow", "OutOfReach", "NotDistinct", "NothingToUndo", "NoBench"] := DefXs.xve (W := ⟨K, mg, P, w⟩) DC X G (by simp only [List.forall_mem_cons]; exact ⟨uv_InvalidRow, uv_InvalidStack, uv_InvalidConstants, uv_InvalidGoal, uv_InvalidProgram, uv_InvalidInstruction, uv_InvalidReach, uv_InvalidHeight, uv_InvalidCode, uv_InvalidLive, uv_InvalidExits, uv_InvalidLayout, uv_InvalidCount, uv_InvalidText, uv_InvalidLine, uv_TooLow, uv_OutOfReach, uv_NotDistinct, uv_NothingToUndo, uv_NoBench, fun q hq => nomatch hq⟩) rfl
  have hmS : mg "StackError" = some (.ref S_) := PySem.W.mg_of X G dS.gS
  have ci_StackError : ClsIs ⟨K, mg, P, w⟩ "StackError" := ⟨_, hmS⟩
  have ci_InvalidRow : ClsIs ⟨K, mg, P, w⟩ "InvalidRow" := ⟨_, PySem.W.mg_of X G dc_InvalidRow.g⟩
  have ci_InvalidStack : ClsIs ⟨K, mg, P, w⟩ "InvalidStack" := ⟨_, PySem.W.mg_of X G dc_InvalidStack.g⟩
  have ci_InvalidConstants : ClsIs ⟨K, mg, P, w⟩ "InvalidConstants" := ⟨_, PySem.W.mg_of X G dc_InvalidConstants.g⟩
  have ci_InvalidGoal : ClsIs ⟨K, mg, P, w⟩ "InvalidGoal" := ⟨_, PySem.W.mg_of X G dc_InvalidGoal.g⟩
  have ci_InvalidProgram : ClsIs ⟨K, mg, P, w⟩ "InvalidProgram" := ⟨_, PySem.W.mg_of X G dc_InvalidProgram.g⟩
  have ci_InvalidInstruction : ClsIs ⟨K, mg, P, w⟩ "InvalidInstruction" := ⟨_, PySem.W.mg_of X G dc_InvalidInstruction.g⟩
  have ci_InvalidReach : ClsIs ⟨K, mg, P, w⟩ "InvalidReach" := ⟨_, PySem.W.mg_of X G dc_InvalidReach.g⟩
  have ci_InvalidHeight : ClsIs ⟨K, mg, P, w⟩ "InvalidHeight" := ⟨_, PySem.W.mg_of X G dc_InvalidHeight.g⟩
  have ci_InvalidCode : ClsIs ⟨K, mg, P, w⟩ "InvalidCode" := ⟨_, PySem.W.mg_of X G dc_InvalidCode.g⟩
  have ci_InvalidLive : ClsIs ⟨K, mg, P, w⟩ "InvalidLive" := ⟨_, PySem.W.mg_of X G dc_InvalidLive.g⟩
  have ci_InvalidExits : ClsIs ⟨K, mg, P, w⟩ "InvalidExits" := ⟨_, PySem.W.mg_of X G dc_InvalidExits.g⟩
  have ci_InvalidLayout : ClsIs ⟨K, mg, P, w⟩ "InvalidLayout" := ⟨_, PySem.W.mg_of X G dc_InvalidLayout.g⟩
  have ci_InvalidCount : ClsIs ⟨K, mg, P, w⟩ "InvalidCount" := ⟨_, PySem.W.mg_of X G dc_InvalidCount.g⟩
  have ci_InvalidText : ClsIs ⟨K, mg, P, w⟩ "InvalidText" := ⟨_, PySem.W.mg_of X G dc_InvalidText.g⟩
  have ci_InvalidLine : ClsIs ⟨K, mg, P, w⟩ "InvalidLine" := ⟨_, PySem.W.mg_of X G dc_InvalidLine.g⟩
  have ci_TooLow : ClsIs ⟨K, mg, P, w⟩ "TooLow" := ⟨_, PySem.W.mg_of X G dc_TooLow.g⟩
  have ci_OutOfReach : ClsIs ⟨K, mg, P, w⟩ "OutOfReach" := ⟨_, PySem.W.mg_of X G dc_OutOfReach.g⟩
  have ci_NotDistinct : ClsIs ⟨K, mg, P, w⟩ "NotDistinct" := ⟨_, PySem.W.mg_of X G db_NotDistinct.x.g⟩
  have ci_NothingToUndo : ClsIs ⟨K, mg, P, w⟩ "NothingToUndo" := ⟨_, PySem.W.mg_of X G db_NothingToUndo.x.g⟩
  have ci_NoBench : ClsIs ⟨K, mg, P, w⟩ "NoBench" := ⟨_, PySem.W.mg_of X G db_NoBench.x.g⟩
  have ex_InvalidRow : ∀ base : Heap, K.In base → NsS base mg → ∃ C, mg "InvalidRow" = some (.ref C) ∧ ExK ⟨K, mg, P, w⟩ base 1 C := fun base h1 h2 => ⟨_, DefC.exK (W := ⟨K, mg, P, w⟩) dc_InvalidRow cb_InvalidRow dS h1 h2.1 h2.2⟩
  have ex_InvalidStack : ∀ base : Heap, K.In base → NsS base mg → ∃ C, mg "InvalidStack" = some (.ref C) ∧ ExK ⟨K, mg, P, w⟩ base 1 C := fun base h1 h2 => ⟨_, DefC.exK (W := ⟨K, mg, P, w⟩) dc_InvalidStack cb_InvalidStack dS h1 h2.1 h2.2⟩
  have ex_InvalidConstants : ∀ base : Heap, K.In base → NsS base mg → ∃ C, mg "InvalidConstants" = some (.ref C) ∧ ExK ⟨K, mg, P, w⟩ base 1 C := fun base h1 h2 => ⟨_, DefC.exK (W := ⟨K, mg, P, w⟩) dc_InvalidConstants cb_InvalidConstants dS h1 h2.1 h2.2⟩
  have ex_InvalidGoal : ∀ base : Heap, K.In base → NsS base mg → ∃ C, mg "InvalidGoal" = some (.ref C) ∧ ExK ⟨K, mg, P, w⟩ base 1 C := fun base h1 h2 => ⟨_, DefC.exK (W := ⟨K, mg, P, w⟩) dc_InvalidGoal cb_InvalidGoal dS h1 h2.1 h2.2⟩
  have ex_InvalidProgram : ∀ base : Heap, K.In base → NsS base mg → ∃ C, mg "InvalidProgram" = some (.ref C) ∧ ExK ⟨K, mg, P, w⟩ base 1 C := fun base h1 h2 => ⟨_, DefC.exK (W := ⟨K, mg, P, w⟩) dc_InvalidProgram cb_InvalidProgram dS h1 h2.1 h2.2⟩
  have ex_InvalidInstruction : ∀ base : Heap, K.In base → NsS base mg → ∃ C, mg "InvalidInstruction" = some (.ref C) ∧ ExK ⟨K, mg, P, w⟩ base 1 C := fun base h1 h2 => ⟨_, DefC.exK (W := ⟨K, mg, P, w⟩) dc_InvalidInstruction cb_InvalidInstruction dS h1 h2.1 h2.2⟩
  have ex_InvalidReach : ∀ base : Heap, K.In base → NsS base mg → ∃ C, mg "InvalidReach" = some (.ref C) ∧ ExK ⟨K, mg, P, w⟩ base 1 C := fun base h1 h2 => ⟨_, DefC.exK (W := ⟨K, mg, P, w⟩) dc_InvalidReach cb_InvalidReach dS h1 h2.1 h2.2⟩
  have ex_InvalidHeight : ∀ base : Heap, K.In base → NsS base mg → ∃ C, mg "InvalidHeight" = some (.ref C) ∧ ExK ⟨K, mg, P, w⟩ base 1 C := fun base h1 h2 => ⟨_, DefC.exK (W := ⟨K, mg, P, w⟩) dc_InvalidHeight cb_InvalidHeight dS h1 h2.1 h2.2⟩
  have ex_InvalidCode : ∀ base : Heap, K.In base → NsS base mg → ∃ C, mg "InvalidCode" = some (.ref C) ∧ ExK ⟨K, mg, P, w⟩ base 1 C := fun base h1 h2 => ⟨_, DefC.exK (W := ⟨K, mg, P, w⟩) dc_InvalidCode cb_InvalidCode dS h1 h2.1 h2.2⟩
  have ex_InvalidLive : ∀ base : Heap, K.In base → NsS base mg → ∃ C, mg "InvalidLive" = some (.ref C) ∧ ExK ⟨K, mg, P, w⟩ base 1 C := fun base h1 h2 => ⟨_, DefC.exK (W := ⟨K, mg, P, w⟩) dc_InvalidLive cb_InvalidLive dS h1 h2.1 h2.2⟩
  have ex_InvalidExits : ∀ base : Heap, K.In base → NsS base mg → ∃ C, mg "InvalidExits" = some (.ref C) ∧ ExK ⟨K, mg, P, w⟩ base 1 C := fun base h1 h2 => ⟨_, DefC.exK (W := ⟨K, mg, P, w⟩) dc_InvalidExits cb_InvalidExits dS h1 h2.1 h2.2⟩
  have ex_InvalidLayout : ∀ base : Heap, K.In base → NsS base mg → ∃ C, mg "InvalidLayout" = some (.ref C) ∧ ExK ⟨K, mg, P, w⟩ base 1 C := fun base h1 h2 => ⟨_, DefC.exK (W := ⟨K, mg, P, w⟩) dc_InvalidLayout cb_InvalidLayout dS h1 h2.1 h2.2⟩
  have ex_InvalidCount : ∀ base : Heap, K.In base → NsS base mg → ∃ C, mg "InvalidCount" = some (.ref C) ∧ ExK ⟨K, mg, P, w⟩ base 1 C := fun base h1 h2 => ⟨_, DefC.exK (W := ⟨K, mg, P, w⟩) dc_InvalidCount cb_InvalidCount dS h1 h2.1 h2.2⟩
  have ex_InvalidText : ∀ base : Heap, K.In base → NsS base mg → ∃ C, mg "InvalidText" = some (.ref C) ∧ ExK ⟨K, mg, P, w⟩ base 1 C := fun base h1 h2 => ⟨_, DefC.exK (W := ⟨K, mg, P, w⟩) dc_InvalidText cb_InvalidText dS h1 h2.1 h2.2⟩
  have ex_InvalidLine : ∀ base : Heap, K.In base → NsS base mg → ∃ C, mg "InvalidLine" = some (.ref C) ∧ ExK ⟨K, mg, P, w⟩ base 1 C := fun base h1 h2 => ⟨_, DefC.exK (W := ⟨K, mg, P, w⟩) dc_InvalidLine cb_InvalidLine dS h1 h2.1 h2.2⟩
  have ex_TooLow : ∀ base : Heap, K.In base → NsS base mg → ∃ C, mg "TooLow" = some (.ref C) ∧ ExK ⟨K, mg, P, w⟩ base 1 C := fun base h1 h2 => ⟨_, DefC.exK (W := ⟨K, mg, P, w⟩) dc_TooLow cb_TooLow dS h1 h2.1 h2.2⟩
  have ex_OutOfReach : ∀ base : Heap, K.In base → NsS base mg → ∃ C, mg "OutOfReach" = some (.ref C) ∧ ExK ⟨K, mg, P, w⟩ base 1 C := fun base h1 h2 => ⟨_, DefC.exK (W := ⟨K, mg, P, w⟩) dc_OutOfReach cb_OutOfReach dS h1 h2.1 h2.2⟩
  have exn_InvalidRow : ∀ base : Heap, K.In base → NsS base mg → ∃ C, mg "InvalidRow" = some (.ref C) ∧ ExKN ⟨K, mg, P, w⟩ base 1 C := fun base h1 h2 => ⟨_, DefC.exKN (W := ⟨K, mg, P, w⟩) dc_InvalidRow cb_InvalidRow (fun _ _ _ _ _ _ _ _ => rfl) dS h1 h2.1 h2.2⟩
  have exn_InvalidStack : ∀ base : Heap, K.In base → NsS base mg → ∃ C, mg "InvalidStack" = some (.ref C) ∧ ExKN ⟨K, mg, P, w⟩ base 1 C := fun base h1 h2 => ⟨_, DefC.exKN (W := ⟨K, mg, P, w⟩) dc_InvalidStack cb_InvalidStack (fun _ _ _ _ _ _ _ _ => rfl) dS h1 h2.1 h2.2⟩
  have exn_InvalidConstants : ∀ base : Heap, K.In base → NsS base mg → ∃ C, mg "InvalidConstants" = some (.ref C) ∧ ExKN ⟨K, mg, P, w⟩ base 1 C := fun base h1 h2 => ⟨_, DefC.exKN (W := ⟨K, mg, P, w⟩) dc_InvalidConstants cb_InvalidConstants (fun _ _ _ _ _ _ _ _ => rfl) dS h1 h2.1 h2.2⟩
  have exn_InvalidGoal : ∀ base : Heap, K.In base → NsS base mg → ∃ C, mg "InvalidGoal" = some (.ref C) ∧ ExKN ⟨K, mg, P, w⟩ base 1 C := fun base h1 h2 => ⟨_, DefC.exKN (W := ⟨K, mg, P, w⟩) dc_InvalidGoal cb_InvalidGoal (fun _ _ _ _ _ _ _ _ => rfl) dS h1 h2.1 h2.2⟩
  have exn_InvalidProgram : ∀ base : Heap, K.In base → NsS base mg → ∃ C, mg "InvalidProgram" = some (.ref C) ∧ ExKN ⟨K, mg, P, w⟩ base 1 C := fun base h1 h2 => ⟨_, DefC.exKN (W := ⟨K, mg, P, w⟩) dc_InvalidProgram cb_InvalidProgram (fun _ _ _ _ _ _ _ _ => rfl) dS h1 h2.1 h2.2⟩
  have exn_InvalidInstruction : ∀ base : Heap, K.In base → NsS base mg → ∃ C, mg "InvalidInstruction" = some (.ref C) ∧ ExKN ⟨K, mg, P, w⟩ base 1 C := fun base h1 h2 => ⟨_, DefC.exKN (W := ⟨K, mg, P, w⟩) dc_InvalidInstruction cb_InvalidInstruction (fun _ _ _ _ _ _ _ _ => rfl) dS h1 h2.1 h2.2⟩
  have exn_InvalidReach : ∀ base : Heap, K.In base → NsS base mg → ∃ C, mg "InvalidReach" = some (.ref C) ∧ ExKN ⟨K, mg, P, w⟩ base 1 C := fun base h1 h2 => ⟨_, DefC.exKN (W := ⟨K, mg, P, w⟩) dc_InvalidReach cb_InvalidReach (fun _ _ _ _ _ _ _ _ => rfl) dS h1 h2.1 h2.2⟩
  have exn_InvalidHeight : ∀ base : Heap, K.In base → NsS base mg → ∃ C, mg "InvalidHeight" = some (.ref C) ∧ ExKN ⟨K, mg, P, w⟩ base 1 C := fun base h1 h2 => ⟨_, DefC.exKN (W := ⟨K, mg, P, w⟩) dc_InvalidHeight cb_InvalidHeight (fun _ _ _ _ _ _ _ _ => rfl) dS h1 h2.1 h2.2⟩
  have exn_InvalidCode : ∀ base : Heap, K.In base → NsS base mg → ∃ C, mg "InvalidCode" = some (.ref C) ∧ ExKN ⟨K, mg, P, w⟩ base 1 C := fun base h1 h2 => ⟨_, DefC.exKN (W := ⟨K, mg, P, w⟩) dc_InvalidCode cb_InvalidCode (fun _ _ _ _ _ _ _ _ => rfl) dS h1 h2.1 h2.2⟩
  have exn_InvalidLive : ∀ base : Heap, K.In base → NsS base mg → ∃ C, mg "InvalidLive" = some (.ref C) ∧ ExKN ⟨K, mg, P, w⟩ base 1 C := fun base h1 h2 => ⟨_, DefC.exKN (W := ⟨K, mg, P, w⟩) dc_InvalidLive cb_InvalidLive (fun _ _ _ _ _ _ _ _ => rfl) dS h1 h2.1 h2.2⟩
  have exn_InvalidExits : ∀ base : Heap, K.In base → NsS base mg → ∃ C, mg "InvalidExits" = some (.ref C) ∧ ExKN ⟨K, mg, P, w⟩ base 1 C := fun base h1 h2 => ⟨_, DefC.exKN (W := ⟨K, mg, P, w⟩) dc_InvalidExits cb_InvalidExits (fun _ _ _ _ _ _ _ _ => rfl) dS h1 h2.1 h2.2⟩
  have exn_InvalidLayout : ∀ base : Heap, K.In base → NsS base mg → ∃ C, mg "InvalidLayout" = some (.ref C) ∧ ExKN ⟨K, mg, P, w⟩ base 1 C := fun base h1 h2 => ⟨_, DefC.exKN (W := ⟨K, mg, P, w⟩) dc_InvalidLayout cb_InvalidLayout (fun _ _ _ _ _ _ _ _ => rfl) dS h1 h2.1 h2.2⟩
  have exn_InvalidCount : ∀ base : Heap, K.In base → NsS base mg → ∃ C, mg "InvalidCount" = some (.ref C) ∧ ExKN ⟨K, mg, P, w⟩ base 1 C := fun base h1 h2 => ⟨_, DefC.exKN (W := ⟨K, mg, P, w⟩) dc_InvalidCount cb_InvalidCount (fun _ _ _ _ _ _ _ _ => rfl) dS h1 h2.1 h2.2⟩
  have exn_InvalidText : ∀ base : Heap, K.In base → NsS base mg → ∃ C, mg "InvalidText" = some (.ref C) ∧ ExKN ⟨K, mg, P, w⟩ base 1 C := fun base h1 h2 => ⟨_, DefC.exKN (W := ⟨K, mg, P, w⟩) dc_InvalidText cb_InvalidText (fun _ _ _ _ _ _ _ _ => rfl) dS h1 h2.1 h2.2⟩
  have exn_InvalidLine : ∀ base : Heap, K.In base → NsS base mg → ∃ C, mg "InvalidLine" = some (.ref C) ∧ ExKN ⟨K, mg, P, w⟩ base 1 C := fun base h1 h2 => ⟨_, DefC.exKN (W := ⟨K, mg, P, w⟩) dc_InvalidLine cb_InvalidLine (fun _ _ _ _ _ _ _ _ => rfl) dS h1 h2.1 h2.2⟩
  have exn_TooLow : ∀ base : Heap, K.In base → NsS base mg → ∃ C, mg "TooLow" = some (.ref C) ∧ ExKN ⟨K, mg, P, w⟩ base 1 C := fun base h1 h2 => ⟨_, DefC.exKN (W := ⟨K, mg, P, w⟩) dc_TooLow cb_TooLow (fun _ _ _ _ _ _ _ _ => rfl) dS h1 h2.1 h2.2⟩
  have exn_OutOfReach : ∀ base : Heap, K.In base → NsS base mg → ∃ C, mg "OutOfReach" = some (.ref C) ∧ ExKN ⟨K, mg, P, w⟩ base 1 C := fun base h1 h2 => ⟨_, DefC.exKN (W := ⟨K, mg, P, w⟩) dc_OutOfReach cb_OutOfReach (fun _ _ _ _ _ _ _ _ => rfl) dS h1 h2.1 h2.2⟩
  have exb_NotDistinct : ∃ C, mg "NotDistinct" = some (.ref C) ∧ ExB ⟨K, mg, P, w⟩ C := ⟨_, DefB.exB (W := ⟨K, mg, P, w⟩) db_NotDistinct X G⟩
  have exb_NothingToUndo : ∃ C, mg "NothingToUndo" = some (.ref C) ∧ ExB ⟨K, mg, P, w⟩ C := ⟨_, DefB.exB (W := ⟨K, mg, P, w⟩) db_NothingToUndo X G⟩
  have exb_NoBench : ∃ C, mg "NoBench" = some (.ref C) ∧ ExB ⟨K, mg, P, w⟩ C := ⟨_, DefB.exB (W := ⟨K, mg, P, w⟩) db_NoBench X G⟩
  have b_len : mg "len" = none := PySem.W.mg_none_of X G z_len
  have b_range : mg "range" = none := PySem.W.mg_none_of X G z_range
  have b_isinstance : mg "isinstance" = none := PySem.W.mg_none_of X G z_isinstance
  have b_enumerate : mg "enumerate" = none := PySem.W.mg_none_of X G z_enumerate
  have b_ValueError : mg "ValueError" = none := PySem.W.mg_none_of X G z_ValueError
  have b_repr : mg "repr" = none := PySem.W.mg_none_of X G z_repr
  have b_abs : mg "abs" = none := PySem.W.mg_none_of X G z_abs
  have b_min : mg "min" = none := PySem.W.mg_none_of X G z_min
  have b_max : mg "max" = none := PySem.W.mg_none_of X G z_max
  have b_all : mg "all" = none := PySem.W.mg_none_of X G z_all
  have c__law_draw : ∀ base : Heap, K.In base → NsS base mg → Cal ⟨K, mg, P, w⟩ base 1 2 "_law_draw" f__law_draw := fun base h1 h2 => cal_of (N := N__law_draw) (m := m__law_draw) (st := s__law_draw) (k := 0) d__law_draw h1 h2.1 sc__law_draw bi__law_draw (ok__law_draw)
  have c__law_pick : ∀ base : Heap, K.In base → NsS base mg → Cal ⟨K, mg, P, w⟩ base 2 2 "_law_pick" f__law_pick := fun base h1 h2 => cal_of (N := N__law_pick) (m := m__law_pick) (st := s__law_pick) (k := 1) d__law_pick h1 h2.1 sc__law_pick bi__law_pick (ok__law_pick b_len (c__law_draw base h1 h2))
  have c__law_any : ∀ base : Heap, K.In base → NsS base mg → Cal ⟨K, mg, P, w⟩ base 3 1 "_law_any" f__law_any := fun base h1 h2 => cal_of (N := N__law_any) (m := m__law_any) (st := s__law_any) (k := 2) d__law_any h1 h2.1 sc__law_any bi__law_any (ok__law_any b_range (c__law_pick base h1 h2))
  have c__law_by_name : ∀ base : Heap, K.In base → NsS base mg → Cal ⟨K, mg, P, w⟩ base 3 1 "_law_by_name" f__law_by_name := fun base h1 h2 => cal_of (N := N__law_by_name) (m := m__law_by_name) (st := s__law_by_name) (k := 2) d__law_by_name h1 h2.1 sc__law_by_name bi__law_by_name (ok__law_by_name (exn_InvalidConstants base h1 h2) (exn_InvalidStack base h1 h2) (exn_InvalidRow base h1 h2) (exn_InvalidInstruction base h1 h2) (exn_InvalidProgram base h1 h2) (exn_InvalidGoal base h1 h2) (exn_InvalidCode base h1 h2) (exn_InvalidHeight base h1 h2) (exn_InvalidReach base h1 h2) (exn_InvalidLayout base h1 h2) (exn_InvalidExits base h1 h2) (exn_InvalidLive base h1 h2) (exn_InvalidLine base h1 h2) (exn_InvalidText base h1 h2) (exn_InvalidCount base h1 h2) (exn_OutOfReach base h1 h2) (exn_TooLow base h1 h2))
  have c__law_with_value : ∀ base : Heap, K.In base → NsS base mg → Cal ⟨K, mg, P, w⟩ base 3 1 "_law_with_value" f__law_with_value := fun base h1 h2 => cal_of (N := N__law_with_value) (m := m__law_with_value) (st := s__law_with_value) (k := 2) d__law_with_value h1 h2.1 sc__law_with_value bi__law_with_value (ok__law_with_value (ex_InvalidGoal base h1 h2) (ex_InvalidConstants base h1 h2) (ex_InvalidStack base h1 h2) (ex_InvalidRow base h1 h2) (ex_InvalidReach base h1 h2) (ex_InvalidInstruction base h1 h2) (ex_InvalidProgram base h1 h2) (ex_InvalidExits base h1 h2) (ex_InvalidLive base h1 h2) (ex_InvalidCode base h1 h2) (ex_InvalidHeight base h1 h2) (ex_InvalidLine base h1 h2) (ex_InvalidText base h1 h2) (ex_InvalidCount base h1 h2) (ex_InvalidLayout base h1 h2) (ex_OutOfReach base h1 h2) (ex_TooLow base h1 h2))
  have c__law_marks : ∀ base : Heap, K.In base → NsS base mg → Cal ⟨K, mg, P, w⟩ base 1 1 "_law_marks" f__law_marks := fun base h1 h2 => cal_of (N := N__law_marks) (m := m__law_marks) (st := s__law_marks) (k := 0) d__law_marks h1 h2.1 sc__law_marks bi__law_marks (ok__law_marks b_isinstance ci_InvalidStack ci_InvalidRow ci_InvalidGoal ci_InvalidConstants ci_InvalidInstruction ci_InvalidProgram ci_InvalidHeight ci_InvalidReach ci_InvalidLive ci_InvalidCode ci_InvalidLayout ci_InvalidExits ci_InvalidText ci_InvalidCount ci_OutOfReach ci_TooLow ci_InvalidLine ci_NothingToUndo ci_NotDistinct ci_NoBench xc)
  have c__law_right : ∀ base : Heap, K.In base → NsS base mg → Cal ⟨K, mg, P, w⟩ base 4 1 "_law_right" f__law_right := fun base h1 h2 => cal_of (N := N__law_right) (m := m__law_right) (st := s__law_right) (k := 3) d__law_right h1 h2.1 sc__law_right bi__law_right (ok__law_right h2.2 b_enumerate b_range b_isinstance b_ValueError b_repr (c__law_any base h1 h2) (c__law_by_name base h1 h2) (c__law_with_value base h1 h2) (c__law_marks base h1 h2) exb_NoBench exb_NothingToUndo exb_NotDistinct ci_StackError xs xc xv)
  have c__law_source : ∀ base : Heap, K.In base → NsS base mg → Cal ⟨K, mg, P, w⟩ base 1 2 "_law_source" f__law_source := fun base h1 h2 => cal_of (N := N__law_source) (m := m__law_source) (st := s__law_source) (k := 0) d__law_source h1 h2.1 sc__law_source bi__law_source (ok__law_source b_len b_abs)
  exact law_ofS (N := N_law) (m := m_law) (st := s_law) d_law X G hfa sc_law bi_law fun base h1 h2 => ok_law b_len b_min b_max b_range b_all (c__law_right base h1 h2) (c__law_source base h1 h2)
end Sg.k12
set_option Elab.async false
set_option linter.all false
set_option maxRecDepth 100000
set_option maxHeartbeats 4000000
namespace Vp
abbrev Env := Vg.Env
open PySem hiding Env
open Sg
open Vg hiding Env
theorem vFn_rt {N : Nat} {mp : List Nat} {m : VS} {vs : List NV} {env : Env} {e v : EV} {os : List NV} (h : m (vst mp 0 vs ++ List.replicate (N - vs.length) .un) = .ok (.rt e, env)) (hv : vret env e = some v) (ho : outs env mp = some os) (hl : (mp.all fun j => decide (j < vs.length)) = true) :
    vFn N mp m vs = .ok (v, os) := by
  unfold vFn
  rw [grd_of hl, h]
  simp only [hv, ho, ofO_some, R.ok_bind]
theorem vFn_nx {N : Nat} {mp : List Nat} {m : VS} {vs : List NV} {env : Env} {os : List NV} (h : m (vst mp 0 vs ++ List.replicate (N - vs.length) .un) = .ok (.nx, env)) (ho : outs env mp = some os) (hl : (mp.all fun j => decide (j < vs.length)) = true) :
    vFn N mp m vs = .ok (.im .non, os) := by
  unfold vFn
  rw [grd_of hl, h]
  simp only [ho, ofO_some, R.ok_bind]
theorem vCall_ok {f : VF} {n : Nat} {mp : List Nat} {a : VA} {env env1 env2 env3 : Env} {es : List EV} {vs : List NV} {ev : EV} {os : List NV} (ha : a env = .ok (es, env1)) (hl : es.length = n) (hn : noAlias mp es = true) (hg : gets env1 es = some vs) (hf : f vs = .ok (ev, os))
    (hw : wback mp os es env1 = some env2) (hd : lend (lent mp 0 es) (lendOk ev os) env2 = some env3) : vCall f n mp a env = .ok (ev, env3) := by
  unfold vCall
  rw [ha]
  simp only [R.ok_bind]
  rw [grd_of ⟨hl, hn⟩, hg]
  simp only [ofO_some, R.ok_bind, hf, hw, Option.bind_some, hd]
theorem vSeq_nx {a b : VS} {env env1 : Env} (h : a env = .ok (.nx, env1)) : vSeq a b env = b env1 := by unfold vSeq; rw [h]; rfl
theorem vSeq_rt {a b : VS} {env env1 : Env} {e : EV} (h : a env = .ok (.rt e, env1)) : vSeq a b env = .ok (.rt e, env1) := by unfold vSeq; rw [h]; rfl
theorem vBin_ok {f : VO2} {a b : VE} {env env1 env2 : Env} {x y z : EV} {u w : NV} (ha : a env = .ok (x, env1)) (hb : b env1 = .ok (y, env2)) (hx : x.get env2 = some u) (hy : y.get env2 = some w) (hf : f u w = some z) : vBin f a b env = .ok (z, env2) := by
  unfold vBin; rw [ha]; simp only [R.ok_bind]; rw [hb]; simp only [R.ok_bind, hx, hy, Option.bind_some, hf, ofO_some]
theorem vAsg_ok {a : VE} {i : Nat} {env env1 env2 env3 : Env} {x : EV} {s : Sl} (ha : a env = .ok (x, env1)) (hk : vKeep x env1 = some (s, env2)) (hs : vSet i s env2 = some env3) : vAsg a (.nm i) env = .ok (.nx, env3) := by
  unfold vAsg; rw [ha]; simp only [R.ok_bind, hk, Option.bind_some, hs, ofO_some]
theorem vAsgT_ok {a : VE} {ts : List Tg} {env env1 env2 env3 : Env} {x : EV} {y : NV} (ha : a env = .ok (x, env1)) (hk : frz x env1 = some (y, env2)) (hs : vPut (.tp ts) y env2 = some env3) : vAsg a (.tp ts) env = .ok (.nx, env3) := by
  unfold vAsg; rw [ha]; simp only [R.ok_bind, hk, Option.bind_some, hs, ofO_some]
theorem vTup_ok {a : VA} {env env1 env2 : Env} {es : List EV} {vs : List NV} (ha : a env = .ok (es, env1)) (hf : frzs es env1 = some (vs, env2)) (hl : es.length ≤ LINE := by simp only [List.length_cons, List.length_nil]; decide) : vTup a env = .ok (.im (.tup vs), env2) := by
  unfold vTup; rw [ha]; simp only [R.ok_bind]; rw [grd_of hl, hf]; rfl
theorem vLst_ok {a : VA} {env env1 env2 : Env} {es : List EV} {vs : List NV} (ha : a env = .ok (es, env1)) (hf : frzs es env1 = some (vs, env2)) (hl : es.length ≤ LINE := by simp only [List.length_cons, List.length_nil]; decide) : vLst a env = .ok (.fr (.lst vs), env2) := by
  unfold vLst; rw [ha]; simp only [R.ok_bind]; rw [grd_of hl, hf]; rfl
theorem vRet_ok {a : VE} {env env1 : Env} {x : EV} (ha : a env = .ok (x, env1)) : vRet a env = .ok (.rt x, env1) := by unfold vRet; rw [ha]; rfl
theorem vDrop_ok {a : VE} {env env1 : Env} {x : EV} (ha : a env = .ok (x, env1)) : vDrop a env = .ok (.nx, env1) := by unfold vDrop; rw [ha]; rfl
theorem vCallB_ok {f : List NV → Option EV} {a : VA} {env env1 : Env} {es : List EV} {vs : List NV} {z : EV} (ha : a env = .ok (es, env1)) (hg : gets env1 es = some vs) (hf : f vs = some z) : vCallB f a env = .ok (z, env1) := by
  unfold vCallB; rw [ha]; simp only [R.ok_bind, hg, Option.bind_some, hf, ofO_some]
theorem vCons_ok {a : VE} {r : VA} {env env1 env2 : Env} {x : EV} {ys : List EV} (ha : a env = .ok (x, env1)) (hr : r env1 = .ok (ys, env2)) : vCons a r env = .ok (x :: ys, env2) := by unfold vCons; rw [ha]; simp only [R.ok_bind]; rw [hr]; rfl
theorem vNil_ok {env : Env} : vNil env = .ok ([], env) := rfl
theorem vIfS_ok {t : VT} {a b : VS} {env env1 : Env} {c : Bool} (h : t env = .ok (c, env1)) : vIfS t a b env = if c then a env1 else b env1 := by unfold vIfS; rw [h]; rfl
theorem vVal_ok {a : VE} {env env1 : Env} {x : EV} {b : Bool} (ha : a env = .ok (x, env1)) (hx : x.get env1 = some (.bl b)) : vVal a env = .ok (b, env1) := by unfold vVal; rw [ha]; simp only [R.ok_bind, hx, Option.bind_some, isBl, ofO_some]
theorem vMethB_ok {K : NV → Bool} {f : NV → List NV → Option EV} {o : VE} {a : VA} {env env1 env2 : Env} {x z : EV} {u0 u : NV} {es : List EV} {ws : List NV} (ho : o env = .ok (x, env1)) (h0 : x.get env1 = some u0) (hk : K u0 = true) (ha : a env1 = .ok (es, env2)) (hu : x.get env2 = some u) (hg : gets env2 es = some ws) (hf : f u ws = some z) :
    vMethB K f o a env = .ok (z, env2) := by
  unfold vMethB; rw [ho]; simp only [R.ok_bind, h0, ofO_some]; rw [grd_of hk, ha]; simp only [R.ok_bind, hu, hg, Option.bind_some, hf, ofO_some]
theorem vMethM_ow {K : NV → Bool} {f : NV → List NV → Option (NV × NV)} {o : VE} {a : VA} {env env1 env2 env3 : Env} {k : Nat} {u0 u : NV} {es : List EV} {ws : List NV} {z : NV × NV} (ho : o env = .ok (.sl k, env1)) (h0 : EV.get env1 (.sl k) = some u0) (hk : K u0 = true) (ha : a env1 = .ok (es, env2)) (hf : frzs es env2 = some (ws, env3)) (hu : env3[k]? = some (.ow u)) (hz : f u ws = some z) :
    vMethM K f o a env = .ok (.im z.1, env3.set k (.ow z.2)) := by
  unfold vMethM; rw [ho]; simp only [R.ok_bind, h0, ofO_some]; rw [grd_of hk, ha]; simp only [R.ok_bind, hf, ofO_some, hu, hz]
theorem vMethM_bo {K : NV → Bool} {f : NV → List NV → Option (NV × NV)} {o : VE} {a : VA} {env env1 env2 env3 : Env} {k : Nat} {u0 u : NV} {es : List EV} {ws : List NV} {z : NV × NV} (ho : o env = .ok (.sl k, env1)) (h0 : EV.get env1 (.sl k) = some u0) (hk : K u0 = true) (ha : a env1 = .ok (es, env2)) (hf : frzs es env2 = some (ws, env3)) (hu : env3[k]? = some (.bo u)) (hz : f u ws = some z) :
    vMethM K f o a env = .ok (.im z.1, env3.set k (.bo z.2)) := by
  unfold vMethM; rw [ho]; simp only [R.ok_bind, h0, ofO_some]; rw [grd_of hk, ha]; simp only [R.ok_bind, hf, ofO_some, hu, hz]
theorem vFor_nx {it : VI} {g : Tg} {b : VS} {env env1 : Env} {xs : List NV} (hi : it env = .ok (xs, env1)) : vFor it g b env = vForL g b xs env1 := by unfold vFor; rw [hi]; rfl
theorem voAdd_lst {a b : List NV} (h : a.length + b.length ≤ LINE) : voAdd (.lst a) (.lst b) = some (.fr (.lst (a ++ b))) := if_pos h
theorem voAdd_tup {a b : List NV} (h : a.length + b.length ≤ LINE) : voAdd (.tup a) (.tup b) = some (.im (.tup (a ++ b))) := if_pos h
theorem back_wipe {env : Env} {vs : List Nat} : vBack env vs (vWipe env vs) = env := by
  apply List.ext_getElem?
  intro k
  by_cases h : k ∈ vs
  · exact vBack_in env _ (vWipe_len env vs) h
  · rw [vBack_out env _ h, vWipe_out env h]
theorem vLcL_pure {g : Tg} {t : VT} {e : VE} {vs : List Nat} {env : Env} {c : NV → Bool} {f : NV → NV} : ∀ (xs acc : List NV), acc.length + xs.length ≤ LINE →
    (∀ x ∈ xs, ∃ r, vPut g x env = some r ∧ t r = .ok (c x, r) ∧ (c x = true → ∃ y, e r = .ok (y, r) ∧ frz y r = some (f x, r)) ∧ vWipe r vs = env) → vLcL g t e vs xs acc env = .ok (acc ++ (xs.filter c).map f, env)
  | [], acc, _, _ => by simp [vLcL]
  | x :: xs, acc, hl, h => by
    obtain ⟨r, h1, h2, h3, h4⟩ := h x (List.mem_cons_self ..)
    have hl' : acc.length + (xs.length + 1) ≤ LINE := hl
    simp only [vLcL, h1, ofO_some, R.ok_bind, h2]
    cases hc : c x with
    | false =>
      simp only [Bool.false_eq_true, if_false, h4]
      rw [vLcL_pure xs acc (by omega) fun y hy => h y (List.mem_cons_of_mem _ hy), List.filter_cons_of_neg (by simp [hc])]
    | true =>
      obtain ⟨y, h5, h6⟩ := h3 hc
      simp only [if_true, h5, R.ok_bind, h6, ofO_some]
      rw [grd_of (by omega), h4, vLcL_pure xs (acc ++ [f x]) (by simp; omega) fun y hy => h y (List.mem_cons_of_mem _ hy), List.filter_cons_of_pos (by simp [hc])]
      simp
theorem vLc_pure {it : VI} {g : Tg} {t : VT} {e : VE} {vs : List Nat} {env env1 : Env} {xs : List NV} (c : NV → Bool) (f : NV → NV) (hi : it env = .ok (xs, env1)) (hl : xs.length ≤ LINE)
    (h : ∀ x ∈ xs, ∃ r, vPut g x (vWipe env1 vs) = some r ∧ t r = .ok (c x, r) ∧ (c x = true → ∃ y, e r = .ok (y, r) ∧ frz y r = some (f x, r)) ∧ vWipe r vs = vWipe env1 vs) : vLc it g t e vs env = .ok (.fr (.lst ((xs.filter c).map f)), env1) := by
  unfold vLc
  rw [hi]
  simp only [R.ok_bind]
  rw [vLcL_pure xs [] (by simpa using hl) h]
  simp only [R.ok_bind, List.nil_append, back_wipe]
/-- a state of draws after at most k of them -/
def Src (k : Nat) (v : NV) : Prop := ∃ d s t : Int, v = .lst [.int d, .int s, .int t] ∧ 0 ≤ d ∧ 0 ≤ s ∧ s < 2305843009213693952 ∧ 0 ≤ t ∧ t ≤ k
theorem Src.mono {k l : Nat} {v : NV} (h : Src k v) (hl : k ≤ l) : Src l v := by
  obtain ⟨d, s, t, h1, h2, h3, h4, h5, h6⟩ := h
  exact ⟨d, s, t, h1, h2, h3, h4, h5, by omega⟩
abbrev MOST : Nat := 1099511627776
theorem draw_ok {k : Nat} {v : NV} {n : Int} (h : Src k v) (hk : k < MOST) (n0 : 0 < n) (n1 : n < 2 ^ 62) : ∃ x v', g__law_draw [v, .int n] = .ok (.im (.int x), [v']) ∧ 0 ≤ x ∧ x < n ∧ Src (k + 1) v' := by
  obtain ⟨d, s, t, rfl, h2, h3, h4, h5, h6⟩ := h
  have ln : n.natAbs.log2 < 9000 := by
    have z : n.natAbs ≠ 0 := by omega
    have := (Nat.log2_lt (n := n.natAbs) (k := 62) z).mpr (by omega)
    omega
  unfold g__law_draw
  by_cases hd : 0 < d
  · refine ⟨d % n, .lst [.int (d / n), .int s, .int t], ?_, Int.emod_nonneg _ (by omega), Int.emod_lt_of_pos _ n0, ⟨_, _, _, rfl, Int.ediv_nonneg h2 (by omega), h3, h4, h5, by omega⟩⟩
    refine vFn_rt (e := .im (.int (d % n))) (env := [.bo (.lst [.int (d / n), .int s, .int t]), .sh (.int n), .sh (.int (d % n)), .un, .un]) ?_ rfl rfl rfl
    have ln2 : (decide (0 < n ∧ n.natAbs.log2 < 9000)) = true := by simp [n0, ln]
    simp [v__law_draw, p__law_draw_1, p__law_draw_2, p__law_draw_3, vst, vSeq, vIfS, vVal, vBin, vVar, vC, EV.get, Sl.val, voIx, vix, ixP, voGt, isBl, hd, vAsg, voMod, n0, vKeep, frz, vSet, vSub, voFdiv, ln, vset, vRet]
  · have hd0 : d = 0 := by omega
    subst hd0
    -- the numbers are within the line
    have b1 : ∀ {a b : Int} {i j : Nat}, a.natAbs < 2 ^ i → b.natAbs < 2 ^ j → i + j < 1000000 → mulOk a b = true := fun h g hij => mulOk_of h g hij
    have bt : (t + 1).natAbs < 2 ^ 41 := by
      have : (t + 1).natAbs ≤ 1099511627776 := by have := hk; simp only [MOST] at this; omega
      exact Nat.lt_of_le_of_lt this (by decide)
    have m1 : mulOk 65537 (t + 1) = true := b1 (i := 17) (by decide) bt (by decide)
    have bm1 : (65537 * (t + 1)).natAbs < 2 ^ (17 + 41) := Bd.mul (a := 17) (b := 41) (show Int.natAbs _ < 2 ^ 17 by decide) bt
    have m2 : mulOk (65537 * (t + 1)) (t + 1) = true := b1 bm1 bt (by decide)
    have bm2 : (65537 * (t + 1) * (t + 1)).natAbs < 2 ^ (58 + 41) := Bd.mul (a := 58) (b := 41) bm1 bt
    have bs : s.natAbs < 2 ^ 99 := Nat.lt_of_lt_of_le (show s.natAbs < 2 ^ 61 by omega) (by decide)
    have bs2 : (s + 65537 * (t + 1) * (t + 1)).natAbs < 2 ^ 100 := Bd.add (a := 99) bs bm2
    have bs3 : (s + 65537 * (t + 1) * (t + 1) + 11).natAbs < 2 ^ 101 := Bd.add (a := 100) bs2 (show Int.natAbs _ < 2 ^ 100 by decide)
    have m3 : mulOk (s + 65537 * (t + 1) * (t + 1) + 11) 48271 = true := b1 bs3 (j := 16) (by decide) (by decide)
    generalize hm : (s + 65537 * (t + 1) * (t + 1) + 11) * 48271 % 2305843009213693921 = x1
    have x1b : 0 ≤ x1 ∧ x1 < 2305843009213693921 := by rw [← hm]; exact ⟨Int.emod_nonneg _ (by decide), Int.emod_lt_of_pos _ (by decide)⟩
    have m4 : mulOk 99991 (t + 1) = true := b1 (i := 17) (by decide) bt (by decide)
    have bm4 : (99991 * (t + 1)).natAbs < 2 ^ (17 + 41) := Bd.mul (a := 17) (b := 41) (show Int.natAbs _ < 2 ^ 17 by decide) bt
    have x2b : 0 ≤ x1 % 1000003 ∧ x1 % 1000003 < 1000003 := ⟨Int.emod_nonneg _ (by decide), Int.emod_lt_of_pos _ (by decide)⟩
    have bx2 : (x1 % 1000003).natAbs < 2 ^ 58 := Nat.lt_of_lt_of_le (show (x1 % 1000003).natAbs < 2 ^ 20 by omega) (by decide)
    have bx3 : (x1 % 1000003 + 99991 * (t + 1)).natAbs < 2 ^ 59 := Bd.add (a := 58) bx2 bm4
    have bx1 : x1.natAbs < 2 ^ 61 := by omega
    have m5 : mulOk x1 (x1 % 1000003 + 99991 * (t + 1)) = true := b1 bx1 bx3 (by decide)
    generalize hm2 : x1 * (x1 % 1000003 + 99991 * (t + 1)) % 2305843009213693907 = x3
    refine ⟨(x3 / 97 + x3 / 1000033) % n, .lst [.int 0, .int s, .int (t + 1)], ?_, Int.emod_nonneg _ (by omega), Int.emod_lt_of_pos _ n0, ⟨_, _, _, rfl, by omega, h3, h4, by omega, by omega⟩⟩
    refine vFn_rt (e := .im (.int ((x3 / 97 + x3 / 1000033) % n))) (env := [.bo (.lst [.int 0, .int s, .int (t + 1)]), .sh (.int n), .un, .sh (.int (t + 1)), .sh (.int x3)]) ?_ rfl rfl rfl
    have l1 : Nat.log2 97 < 9000 := by decide +kernel
    have l2 : Nat.log2 1000033 < 9000 := by decide +kernel
    simp [v__law_draw, p__law_draw_1, p__law_draw_5, p__law_draw_7, p__law_draw_8, p__law_draw_9, vst, vSeq, vIfS, vVal, vBin, vVar, vC, EV.get, Sl.val, voIx, vix, ixP, voGt, isBl, vAsg, voMod, vKeep, frz, vSet, vSub, voFdiv, vset, vRet, vPass, voAdd, voMul, m1, m2, m3, hm, m4, m5, hm2, n0, l1, l2]
end Vp
set_option Elab.async false
set_option linter.all false
set_option maxRecDepth 100000
set_option maxHeartbeats 4000000
namespace Vp
open PySem hiding Env
open Sg
open Vg hiding Env
mutual
def pl : Nat → NV → Bool
  | _, .int _ => true
  | _, .str s => PyData.strOk s
  | _, .non => true
  | d + 1, .tup xs => pls d xs
  | d + 1, .lst xs => pls d xs
  | _, _ => false
def pls : Nat → List NV → Bool
  | _, [] => true
  | d, x :: xs => pl d x && pls d xs
end
mutual
def nd : NV → PyData
  | .int i => .int i
  | .str s => .str s
  | .tup xs => .tuple (nds xs)
  | .lst xs => .list (nds xs)
  | _ => .none
def nds : List NV → List PyData
  | [] => []
  | x :: xs => nd x :: nds xs
end
mutual
theorem pl_dat : ∀ (d : Nat) (v : NV), pl d v = true → vdat v = some (nd v) ∧ (nd v).canLay0 = true ∧ (nd v).depth ≤ d
  | d, .int i, _ => by simp [vdat, nd, PyData.canLay0, PyData.depth]
  | d, .str s, h => by simp only [pl] at h; simp [vdat, nd, PyData.canLay0, PyData.depth, h]
  | d, .non, _ => by simp [vdat, nd, PyData.canLay0, PyData.depth]
  | d + 1, .tup xs, h => by
    simp only [pl] at h
    obtain ⟨h1, h2, h3⟩ := pls_dat d xs h
    simp only [vdat, h1, nd, PyData.canLay0, h2, PyData.depth, Option.map_some, true_and]; omega
  | d + 1, .lst xs, h => by
    simp only [pl] at h
    obtain ⟨h1, h2, h3⟩ := pls_dat d xs h
    simp only [vdat, h1, nd, PyData.canLay0, h2, PyData.depth, Option.map_some, true_and]; omega
  | 0, .tup _, h => by simp [pl] at h
  | 0, .lst _, h => by simp [pl] at h
  | _, .bl _, h => by simp [pl] at h
  | _, .ty _, h => by simp [pl] at h
  | _, .glb _, h => by simp [pl] at h
  | _, .fro _, h => by simp [pl] at h
  | _, .dic _, h => by simp [pl] at h
  | _, .set _, h => by simp [pl] at h
theorem pls_dat : ∀ (d : Nat) (v : List NV), pls d v = true → vdats v = some (nds v) ∧ PyData.canLayAll0 (nds v) = true ∧ PyData.depthAll (nds v) ≤ d
  | d, [], _ => by simp [vdats, nds, PyData.canLayAll0, PyData.depthAll]
  | d, x :: xs, h => by
    simp only [pls, Bool.and_eq_true] at h
    obtain ⟨h1, h2, h3⟩ := pl_dat d x h.1
    obtain ⟨h4, h5, h6⟩ := pls_dat d xs h.2
    simp only [vdats, h1, h4, nds, PyData.canLayAll0, h2, h5, PyData.depthAll, Bool.and_self, true_and]; omega
end
mutual
theorem nd_eqv : ∀ (d e : Nat) (a b : NV), pl d a = true → pl e b = true → PyData.eqv (nd a) (nd b) = decide (a = b)
  | d, e, .int i, b, ha, hb => by cases b <;> simp_all [nd, PyData.eqv, pl] <;> rfl
  | d, e, .str s, b, ha, hb => by cases b <;> simp_all [nd, PyData.eqv, pl] <;> rfl
  | d, e, .non, b, ha, hb => by cases b <;> simp_all [nd, PyData.eqv, pl]
  | d + 1, e, .tup xs, b, ha, hb => by
    cases b with
    | tup ys =>
      cases e with
      | zero => simp [pl] at hb
      | succ e => simp only [nd, PyData.eqv, nds_eqv d e xs ys (by simpa [pl] using ha) (by simpa [pl] using hb), NV.tup.injEq]
    | _ => simp_all [nd, PyData.eqv, pl]
  | d + 1, e, .lst xs, b, ha, hb => by
    cases b with
    | lst ys =>
      cases e with
      | zero => simp [pl] at hb
      | succ e => simp only [nd, PyData.eqv, nds_eqv d e xs ys (by simpa [pl] using ha) (by simpa [pl] using hb), NV.lst.injEq]
    | _ => simp_all [nd, PyData.eqv, pl]
  | 0, _, .tup _, _, h, _ => by simp [pl] at h
  | 0, _, .lst _, _, h, _ => by simp [pl] at h
  | _, _, .bl _, _, h, _ => by simp [pl] at h
  | _, _, .ty _, _, h, _ => by simp [pl] at h
  | _, _, .glb _, _, h, _ => by simp [pl] at h
  | _, _, .fro _, _, h, _ => by simp [pl] at h
  | _, _, .dic _, _, h, _ => by simp [pl] at h
  | _, _, .set _, _, h, _ => by simp [pl] at h
theorem nds_eqv : ∀ (d e : Nat) (a b : List NV), pls d a = true → pls e b = true → PyData.eqvAll (nds a) (nds b) = decide (a = b)
  | d, e, [], [], _, _ => by simp [nds, PyData.eqvAll]
  | d, e, [], _ :: _, _, _ => by simp [nds, PyData.eqvAll]
  | d, e, _ :: _, [], _, _ => by simp [nds, PyData.eqvAll]
  | d, e, x :: xs, y :: ys, ha, hb => by
    simp only [pls, Bool.and_eq_true] at ha hb
    simp only [nds, PyData.eqvAll, nd_eqv d e x y ha.1 hb.1, nds_eqv d e xs ys ha.2 hb.2, List.cons.injEq, Bool.decide_and]
end
theorem veqD_pl {d e : Nat} {a b : NV} (ha : pl d a = true) (hb : pl e b = true) (hd : d ≤ 64 := by omega) (he : e ≤ 64 := by omega) : veqD a b = some (decide (a = b)) := by
  obtain ⟨h1, h2, h3⟩ := pl_dat d a ha
  obtain ⟨h4, h5, h6⟩ := pl_dat e b hb
  unfold veqD
  rw [h1, h4]
  have s1 : SeqAt.shaped (nd a) = true := by unfold SeqAt.shaped; simp [h2]; omega
  have s2 : SeqAt.shaped (nd b) = true := by unfold SeqAt.shaped; simp [h5]; omega
  simp only [s1, s2, Bool.and_self, if_true, nd_eqv d e a b ha hb]
/-- equality of plain values -/
theorem veq_pl {d e : Nat} {a b : NV} (ha : pl d a = true) (hb : pl e b = true) (hd : d ≤ 64 := by omega) (he : e ≤ 64 := by omega) : veq a b = some (decide (a = b)) := by
  unfold veq
  split <;> first
    | exact veqD_pl ha hb hd he
    | simp
theorem voEq_pl {d e : Nat} {a b : NV} (ha : pl d a = true) (hb : pl e b = true) (hd : d ≤ 64 := by omega) (he : e ≤ 64 := by omega) : voEq a b = some (.im (.bl (decide (a = b)))) := by
  unfold voEq; rw [veq_pl ha hb hd he]; rfl
theorem voNe_pl {d e : Nat} {a b : NV} (ha : pl d a = true) (hb : pl e b = true) (hd : d ≤ 64 := by omega) (he : e ≤ 64 := by omega) : voNe a b = some (.im (.bl (!decide (a = b)))) := by
  unfold voNe; rw [veq_pl ha hb hd he]; rfl
theorem pls_iff {d : Nat} : ∀ {xs : List NV}, pls d xs = true ↔ ∀ x ∈ xs, pl d x = true
  | [] => by simp [pls]
  | x :: xs => by simp [pls, pls_iff]
end Vp
set_option Elab.async false
set_option linter.all false
set_option maxRecDepth 100000
set_option maxHeartbeats 4000000
namespace Vp
open PySem hiding Env
open Sg
open Vg hiding Env
theorem source_ok (ns : List Int) (k : Int) (k0 : 0 ≤ k) (k1 : k < 64) (hl : ns.length ≤ 63) : ∃ v, g__law_source [.fro (ns.map .int), .int k] = .ok (.fr v, []) ∧ Src 0 v := by
  have e1 : ∃ x : Int, p__law_source_1 [.sh (.fro (ns.map .int)), .sh (.int k), .un, .un] = .ok (.nx, [.sh (.fro (ns.map .int)), .sh (.int k), .sh (.int x), .un]) := by
    by_cases hk : k < (ns.length : Int)
    · have hn : k.toNat < ns.length := by omega
      refine ⟨ns[k.toNat], ?_⟩
      simp [p__law_source_1, vSeq, vAsg, vVar, vC, vBin, vUn, vNil, vCons, vTup, vLst, vIf, vVal, vNotT, vAndT, vOrT, vAnd, vOr, vNot, vChain, vCallB, vCallBK, vMethB, vMethM, vDrop, vRet, vRetN, vIfS, vPass, vKeep, vSet, vKeeps, vSets, vPar, vAug, vSub, vPut, vPuts, frz, frzs, gets, EV.get, Sl.val, Sl.mut, isBl, isInt, ofO_some, grd, LINE, if_true, R.ok_bind, vYes, vKw, selG, List.getElem?_cons_zero, List.getElem?_cons_succ, List.set_cons_zero, List.set_cons_succ, Option.bind_some, Option.map_some, vCall, noAlias, lent, lend, frzK, wback, lendOk, noref, norefs, norefO, voLt, vfLenA, vfLen, hk, voIx, vix, ixP, k0, hn]
    · refine ⟨0, ?_⟩
      simp [p__law_source_1, vSeq, vAsg, vVar, vC, vBin, vUn, vNil, vCons, vTup, vLst, vIf, vVal, vNotT, vAndT, vOrT, vAnd, vOr, vNot, vChain, vCallB, vCallBK, vMethB, vMethM, vDrop, vRet, vRetN, vIfS, vPass, vKeep, vSet, vKeeps, vSets, vPar, vAug, vSub, vPut, vPuts, frz, frzs, gets, EV.get, Sl.val, Sl.mut, isBl, isInt, ofO_some, grd, LINE, if_true, R.ok_bind, vYes, vKw, selG, List.getElem?_cons_zero, List.getElem?_cons_succ, List.set_cons_zero, List.set_cons_succ, Option.bind_some, Option.map_some, vCall, noAlias, lent, lend, frzK, wback, lendOk, noref, norefs, norefO, voLt, vfLenA, vfLen, hk]
  obtain ⟨x, e1⟩ := e1
  have p18 : ∃ h : (0 : Int) ≤ 18 ∧ (Builtin.Int.intBits 10 : Int) * 18 ≤ 2 ^ 27, True := ⟨by decide +kernel, trivial⟩
  have e2 : ∃ y : Int, 0 ≤ y ∧ p__law_source_2 [.sh (.fro (ns.map .int)), .sh (.int k), .sh (.int x), .un] = .ok (.nx, [.sh (.fro (ns.map .int)), .sh (.int k), .sh (.int x), .sh (.int y)]) := by
    have q1 : voPow (.int 10) (.int 18) = some (.im (.int (10 ^ 18))) := by unfold voPow; exact if_pos (by decide +kernel)
    have q2 : voPow (.int 10) (.int 60) = some (.im (.int (10 ^ 60))) := by unfold voPow; exact if_pos (by decide +kernel)
    have q3 : voPow (.int (10 ^ 60)) (.int 4) = some (.im (.int ((10 ^ 60) ^ 4))) := by unfold voPow; exact if_pos (by decide +kernel)
    have q4 : (0 : Int) < (10 ^ 60) ^ 4 := by decide +kernel
    generalize (10 : Int) ^ 18 = b18 at q1
    generalize hb : (10 : Int) ^ 60 = b60 at q2 q3 q4
    generalize hc : b60 ^ 4 = b240 at q3 q4
    by_cases ha : b18 ≤ (if x < 0 then -x else x)
    · refine ⟨(if x < 0 then -x else x) % b240, Int.emod_nonneg _ (by omega), ?_⟩
      simp [p__law_source_2, vSeq, vAsg, vVar, vC, vBin, vUn, vNil, vCons, vTup, vLst, vIf, vVal, vNotT, vAndT, vOrT, vAnd, vOr, vNot, vChain, vCallB, vCallBK, vMethB, vMethM, vDrop, vRet, vRetN, vIfS, vPass, vKeep, vSet, vKeeps, vSets, vPar, vAug, vSub, vPut, vPuts, frz, frzs, gets, EV.get, Sl.val, Sl.mut, isBl, isInt, ofO_some, grd, LINE, if_true, R.ok_bind, vYes, vKw, selG, List.getElem?_cons_zero, List.getElem?_cons_succ, List.set_cons_zero, List.set_cons_succ, Option.bind_some, Option.map_some, vCall, noAlias, lent, lend, frzK, wback, lendOk, noref, norefs, norefO, vfAbs, voGe, q1, q2, q3, ha, voMod, q4]
    · refine ⟨0, Int.le_refl _, ?_⟩
      simp [p__law_source_2, vSeq, vAsg, vVar, vC, vBin, vUn, vNil, vCons, vTup, vLst, vIf, vVal, vNotT, vAndT, vOrT, vAnd, vOr, vNot, vChain, vCallB, vCallBK, vMethB, vMethM, vDrop, vRet, vRetN, vIfS, vPass, vKeep, vSet, vKeeps, vSets, vPar, vAug, vSub, vPut, vPuts, frz, frzs, gets, EV.get, Sl.val, Sl.mut, isBl, isInt, ofO_some, grd, LINE, if_true, R.ok_bind, vYes, vKw, selG, List.getElem?_cons_zero, List.getElem?_cons_succ, List.set_cons_zero, List.set_cons_succ, Option.bind_some, Option.map_some, vCall, noAlias, lent, lend, frzK, wback, lendOk, noref, norefs, norefO, vfAbs, voGe, q1, ha]
  obtain ⟨y, y0, e2⟩ := e2
  have xb : 0 ≤ x % 2305843009213693951 ∧ x % 2305843009213693951 < 2305843009213693951 := ⟨Int.emod_nonneg _ (by decide), Int.emod_lt_of_pos _ (by decide)⟩
  generalize hm : x % 2305843009213693951 = z at xb
  have m1 : mulOk z 1000003 = true := mulOk_of (a := 61) (b := 20) (show z.natAbs < 2 ^ 61 by omega) (show Int.natAbs _ < 2 ^ 20 by decide) (by decide)
  have m2 : mulOk 7919 k = true := mulOk_of (a := 13) (b := 6) (show Int.natAbs _ < 2 ^ 13 by decide) (show k.natAbs < 2 ^ 6 by omega) (by decide)
  have m3 : mulOk (7919 * k) k = true := mulOk_of (a := 19) (b := 6) (show (7919 * k).natAbs < 2 ^ 19 by omega) (show k.natAbs < 2 ^ 6 by omega) (by decide)
  refine ⟨.lst [.int y, .int ((z * 1000003 + 7919 * k * k + 97) % 2305843009213693921), .int 0], ?_, ⟨_, _, _, rfl, y0, Int.emod_nonneg _ (by decide), ?_, Int.le_refl _, by simp⟩⟩
  · refine vFn_rt (e := .fr (.lst [.int y, .int ((z * 1000003 + 7919 * k * k + 97) % 2305843009213693921), .int 0])) (env := [.sh (.fro (ns.map .int)), .sh (.int k), .sh (.int x), .sh (.int y)]) ?_ rfl rfl rfl
    show v__law_source [.sh (.fro (ns.map .int)), .sh (.int k), .un, .un] = _
    unfold v__law_source
    rw [vSeq_nx e1, vSeq_nx e2]
    simp [p__law_source_3, vSeq, vAsg, vVar, vC, vBin, vUn, vNil, vCons, vTup, vLst, vIf, vVal, vNotT, vAndT, vOrT, vAnd, vOr, vNot, vChain, vCallB, vCallBK, vMethB, vMethM, vDrop, vRet, vRetN, vIfS, vPass, vKeep, vSet, vKeeps, vSets, vPar, vAug, vSub, vPut, vPuts, frz, frzs, gets, EV.get, Sl.val, Sl.mut, isBl, isInt, ofO_some, grd, LINE, if_true, R.ok_bind, vYes, vKw, selG, List.getElem?_cons_zero, List.getElem?_cons_succ, List.set_cons_zero, List.set_cons_succ, Option.bind_some, Option.map_some, vCall, noAlias, lent, lend, frzK, wback, lendOk, noref, norefs, norefO, voMod, hm, voMul, m1, m2, m3, voAdd]
  · exact Int.lt_trans (Int.emod_lt_of_pos _ (by decide)) (by decide)
theorem pick_ok {k : Nat} {v c : NV} {xs : List NV} (h : Src k v) (hk : k < MOST) (hc : c = .lst xs ∨ c = .tup xs) (hx : xs ≠ []) (hl : xs.length < 2 ^ 40) : ∃ x v', x ∈ xs ∧ g__law_pick [v, c] = .ok (.im x, [v']) ∧ Src (k + 1) v' := by
  have hp := List.length_pos_iff.mpr hx
  obtain ⟨i, v', e, i0, i1, s'⟩ := draw_ok (n := xs.length) h hk (by omega) (by omega)
  have hi : i.toNat < xs.length := by omega
  refine ⟨xs[i.toNat], v', List.getElem_mem _, ?_, s'⟩
  have i2 : i < (xs.length : Int) := i1
  rcases hc with rfl | rfl
  · refine vFn_rt (e := .im xs[i.toNat]) (env := [.bo v', .sh (.lst xs)]) ?_ rfl rfl rfl
    simp [v__law_pick, p__law_pick_1, vst, vSeq, vAsg, vVar, vC, vBin, vUn, vNil, vCons, vTup, vLst, vIf, vVal, vNotT, vAndT, vOrT, vAnd, vOr, vNot, vChain, vCallB, vCallBK, vMethB, vMethM, vDrop, vRet, vRetN, vIfS, vPass, vKeep, vSet, vKeeps, vSets, vPar, vAug, vSub, vPut, vPuts, frz, frzs, gets, EV.get, Sl.val, Sl.mut, isBl, isInt, ofO_some, grd, LINE, if_true, R.ok_bind, vYes, vKw, selG, List.getElem?_cons_zero, List.getElem?_cons_succ, List.set_cons_zero, List.set_cons_succ, Option.bind_some, Option.map_some, vCall, noAlias, lent, lend, frzK, wback, lendOk, noref, norefs, norefO, vfLenA, vfLen, e, voIx, vix, ixP, i0, i2, hi, List.range, List.range.loop]
  · refine vFn_rt (e := .im xs[i.toNat]) (env := [.bo v', .sh (.tup xs)]) ?_ rfl rfl rfl
    simp [v__law_pick, p__law_pick_1, vst, vSeq, vAsg, vVar, vC, vBin, vUn, vNil, vCons, vTup, vLst, vIf, vVal, vNotT, vAndT, vOrT, vAnd, vOr, vNot, vChain, vCallB, vCallBK, vMethB, vMethM, vDrop, vRet, vRetN, vIfS, vPass, vKeep, vSet, vKeeps, vSets, vPar, vAug, vSub, vPut, vPuts, frz, frzs, gets, EV.get, Sl.val, Sl.mut, isBl, isInt, ofO_some, grd, LINE, if_true, R.ok_bind, vYes, vKw, selG, List.getElem?_cons_zero, List.getElem?_cons_succ, List.set_cons_zero, List.set_cons_succ, Option.bind_some, Option.map_some, vCall, noAlias, lent, lend, frzK, wback, lendOk, noref, norefs, norefO, vfLenA, vfLen, e, voIx, vix, ixP, i0, i2, hi, List.range, List.range.loop]
/-- texts as values -/
abbrev sv (xs : List Str) : List NV := xs.map .str
end Vp
set_option Elab.async false
set_option linter.all false
set_option maxRecDepth 100000
set_option maxHeartbeats 4000000
namespace Vp
open PySem hiding Env
open Sg
open Vg hiding Env
abbrev sgs : Str := "abcdefghijklmnopqrstuvwxyz0123456789"
/-- a value, as the package knows it -/
def okName (s : Str) : Bool := decide (1 ≤ s.length) && decide (s.length ≤ 8) && s.cps.toList.all fun c => decide (c ∈ sgs.cps.toList)
def sgl : List Nat := [97, 98, 99, 100, 101, 102, 103, 104, 105, 106, 107, 108, 109, 110, 111, 112, 113, 114, 115, 116, 117, 118, 119, 120, 121, 122, 48, 49, 50, 51, 52, 53, 54, 55, 56, 57]
theorem sgl_eq : sgs.cps.toList = sgl := by decide +kernel
theorem strOk_of {s : Str} (h : okName s = true) : PyData.strOk s = true := by
  unfold okName at h
  rw [sgl_eq] at h
  simp only [Bool.and_eq_true, List.all_eq_true, decide_eq_true_eq] at h
  have big : ∀ d ∈ sgl, d < 0x110000 := by decide
  unfold PyData.strOk
  rw [← Array.all_toList, List.all_eq_true]
  exact fun c hc => decide_eq_true (big c (h.2 c hc))
end Vp
set_option Elab.async false
set_option linter.all false
set_option maxRecDepth 100000
set_option maxHeartbeats 4000000
namespace Vp
open PySem hiding Env
open Sg
open Vg hiding Env
theorem Src.noref {k : Nat} {v : NV} (h : Src k v) : norefO v = true := by
  obtain ⟨d, s, t, rfl, _⟩ := h
  rfl
theorem pls_sv {d : Nat} {xs : List Str} (h : ∀ s ∈ xs, okName s = true) : pls d (sv xs) = true := pls_iff.mpr fun x hx => by
  obtain ⟨s, hs, rfl⟩ := List.mem_map.mp hx
  cases d <;> exact strOk_of (h s hs)
end Vp
set_option Elab.async false
set_option linter.all false
set_option maxRecDepth 100000
set_option maxHeartbeats 4000000
namespace Vp
open PySem hiding Env
open Sg
open Vg hiding Env
theorem vSl_ok {a : VE} {lo hi : VOp} {env env1 env2 env3 : Env} {x z : EV} {u : NV} {l h : Option Int} (ha : a env = .ok (x, env1)) (hl : lo env1 = .ok (l, env2)) (hh : hi env2 = .ok (h, env3)) (hx : x.get env3 = some u) (hv : vsl u l h = some z) : vSl a lo hi env = .ok (z, env3) := by
  unfold vSl; rw [ha]; simp only [R.ok_bind]; rw [hl]; simp only [R.ok_bind]; rw [hh]; simp only [R.ok_bind, hx, Option.bind_some, hv, ofO_some]
theorem vEnd_ok {a : VE} {env env1 : Env} {x : EV} {i : Int} (ha : a env = .ok (x, env1)) (hx : x.get env1 = some (.int i)) : vEnd a env = .ok (some i, env1) := by
  unfold vEnd; rw [ha]; simp only [R.ok_bind, hx, Option.bind_some, isInt, ofO_some]
theorem cut_to {α : Type} (xs : List α) (m : Nat) : cutP xs none (some (m : Int)) = xs.take m := by
  unfold cutP sIxP
  have : ¬ ((m : Int) < 0) := by omega
  simp only [this, if_false, Int.toNat_natCast, List.drop_zero, Nat.sub_zero]
  by_cases h : m ≤ xs.length
  · rw [Nat.min_eq_left h]
  · rw [Nat.min_eq_right (by omega), List.take_of_length_le (Nat.le_refl _), List.take_of_length_le (by omega)]
theorem cut_from {α : Type} (xs : List α) (m : Nat) : cutP xs (some (m : Int)) none = xs.drop m := by
  unfold cutP sIxP
  have : ¬ ((m : Int) < 0) := by omega
  simp only [this, if_false, Int.toNat_natCast]
  by_cases h : m ≤ xs.length
  · rw [Nat.min_eq_left h, List.take_of_length_le (by simp)]
  · rw [Nat.min_eq_right (by omega), List.drop_of_length_le (Nat.le_refl _), List.drop_of_length_le (by omega)]; simp
theorem sv_take (xs : List Str) (m : Nat) : (sv xs).take m = sv (xs.take m) := by simp [sv, List.map_take]
theorem sv_drop (xs : List Str) (m : Nat) : (sv xs).drop m = sv (xs.drop m) := by simp [sv, List.map_drop]
theorem sv_len (xs : List Str) : (sv xs).length = xs.length := by simp [sv]
theorem sv_inj {xs ys : List Str} (h : sv xs = sv ys) : xs = ys := by
  induction xs generalizing ys with
  | nil => cases ys <;> simp_all [sv]
  | cons x xs ih =>
    cases ys with
    | nil => simp [sv] at h
    | cons y ys =>
      simp only [sv, List.map_cons, List.cons.injEq, NV.str.injEq] at h
      rw [h.1, ih h.2]
theorem norefs_sv (xs : List Str) : norefs (sv xs) = true := by
  induction xs with
  | nil => rfl
  | cons x xs ih => simpa [norefs, noref] using ih
theorem eq_int (a b : Int) : voEq (.int a) (.int b) = some (.im (.bl (decide (a = b)))) := rfl
theorem pl_sv {xs : List Str} (h : ∀ s ∈ xs, okName s = true) : pl 1 (.lst (sv xs)) = true ∧ pl 1 (.tup (sv xs)) = true := ⟨by simpa [pl] using pls_sv h, by simpa [pl] using pls_sv h⟩
end Vp
set_option Elab.async false
set_option linter.all false
set_option maxRecDepth 100000
set_option maxHeartbeats 4000000
namespace Vp
open PySem hiding Env
open Sg
open Vg hiding Env
theorem vNotT_ok {a : VT} {env env1 : Env} {b : Bool} (h : a env = .ok (b, env1)) : vNotT a env = .ok (!b, env1) := by unfold vNotT; rw [h]; rfl
theorem vAnd_ok {a b : VE} {env env1 : Env} {x : EV} {c : Bool} (h : a env = .ok (x, env1)) (hx : x.get env1 = some (.bl c)) : vAnd a b env = if c then b env1 else .ok (.im (.bl false), env1) := by unfold vAnd; rw [h]; simp only [R.ok_bind, hx, Option.bind_some, isBl, ofO_some]
theorem vOr_ok {a b : VE} {env env1 : Env} {x : EV} {c : Bool} (h : a env = .ok (x, env1)) (hx : x.get env1 = some (.bl c)) : vOr a b env = if c then .ok (.im (.bl true), env1) else b env1 := by unfold vOr; rw [h]; simp only [R.ok_bind, hx, Option.bind_some, isBl, ofO_some]
theorem asBls_map {α : Type} (f : α → Bool) : ∀ xs : List α, vasBls (xs.map fun x => .bl (f x)) = some (xs.map f)
  | [] => rfl
  | x :: xs => by simp only [List.map_cons, vasBls, asBls_map f xs, Option.map_some]
theorem all_ok {α : Type} (f : α → Bool) (xs : List α) : vfAll [.lst (xs.map fun x => .bl (f x))] = some (.im (.bl (xs.all f))) := by
  simp only [vfAll, vlst, Option.bind_some, asBls_map, Option.map_some, List.all_map]; rfl
theorem anyF_sv (g : Str) (xs : List Str) : (sv xs).any (fun z => veqF z (.str g)) = decide (g ∈ xs) := by
  induction xs with
  | nil => rfl
  | cons x xs ih =>
    simp only [sv, List.map_cons, List.any_cons] at *
    rw [ih]
    simp only [veqF, List.mem_cons, Bool.decide_or]
    congr 1
    by_cases e : x = g
    · subst e; simp
    · have : ¬ g = x := fun z => e z.symm
      simp [e, this]
theorem flat_sv (xs : List Str) : (sv xs).all vflat = true := by rw [List.all_map]; simp [Function.comp, vflat]
theorem in_sv (g : Str) (xs : List Str) : voIn (.str g) (.tup (sv xs)) = some (.im (.bl (decide (g ∈ xs)))) := by
  unfold voIn vin
  simp only [flat_sv, vflat, Bool.and_self, if_true, anyF_sv, Option.map_some]
theorem notIn_sv (g : Str) (xs : List Str) : voNotIn (.str g) (.tup (sv xs)) = some (.im (.bl (!decide (g ∈ xs)))) := by
  unfold voNotIn vin
  simp only [flat_sv, vflat, Bool.and_self, if_true, anyF_sv, Option.map_some]
end Vp
set_option Elab.async false
set_option linter.all false
set_option maxRecDepth 100000
set_option maxHeartbeats 4000000
namespace Vp
open PySem hiding Env
open Sg
open Vg hiding Env
end Vp
set_option Elab.async false
set_option linter.all false
set_option maxRecDepth 100000
set_option maxHeartbeats 4000000
namespace Vp
open PySem hiding Env
open Sg
open Vg hiding Env
mutual
def rp : Nat → NV → Bool
  | _, .int i => decide (-999999999999 ≤ i ∧ i ≤ 999999999999)
  | _, .str s => PyData.strOk s
  | _, .non => true
  | d + 1, .tup xs => rps d xs
  | d + 1, .lst xs => rps d xs
  | _, _ => false
def rps : Nat → List NV → Bool
  | _, [] => true
  | d, x :: xs => rp d x && rps d xs
end
mutual
def wt : NV → Nat
  | .str s => s.length
  | .tup xs => wts xs
  | .lst xs => wts xs
  | _ => 0
def wts : List NV → Nat
  | [] => 0
  | x :: xs => wt x + 1 + wts xs
end
mutual
theorem wt_nd : ∀ v : NV, (nd v).bulk = wt v
  | .int i => rfl
  | .str s => rfl
  | .non => rfl
  | .tup xs => by simp only [nd, PyData.bulk, wt, wts_nds xs]
  | .lst xs => by simp only [nd, PyData.bulk, wt, wts_nds xs]
  | .bl _ => rfl
  | .ty _ => rfl
  | .glb _ => rfl
  | .fro _ => rfl
  | .dic _ => rfl
  | .set _ => rfl
  | .dct _ => rfl
  | .exn _ _ => rfl
  | .tab _ => rfl
  | .bex _ => rfl
theorem wts_nds : ∀ v : List NV, PyData.bulkAll (nds v) = wts v
  | [] => rfl
  | x :: xs => by simp only [nds, PyData.bulkAll, wts, wt_nd x, wts_nds xs]
end
theorem short_str {s : Str} (h : PyData.strOk s = true) : (PyData.str s).leavesShort 13 = true := by
  unfold PyData.strOk at h
  rw [← Array.all_toList, List.all_eq_true] at h
  simp only [PyData.leavesShort, List.all_eq_true, decide_eq_true_eq]
  intro c hc
  have := h c hc
  simp only [decide_eq_true_eq] at this
  exact Nat.lt_trans this (by decide)
theorem log_short {i : Int} (h1 : -999999999999 ≤ i) (h2 : i ≤ 999999999999) : i.natAbs.log2 < 1920 := by
  by_cases e : i.natAbs = 0
  · rw [e]; decide
  · have : i.natAbs < 2 ^ 40 := by omega
    exact Nat.lt_trans ((Nat.log2_lt e).mpr this) (by decide)
mutual
theorem rp_all : ∀ (d : Nat) (v : NV), rp d v = true → pl d v = true ∧ (nd v).leavesShort 13 = true ∧ (nd v).showable = true
  | d, .int i, h => by
    simp only [rp, decide_eq_true_eq] at h
    exact ⟨by simp [pl], by simp only [nd, PyData.leavesShort, decide_eq_true_eq]; exact PyData.shown_int_le2 h.1 h.2, by simp only [nd, PyData.showable, decide_eq_true_eq]; exact log_short h.1 h.2⟩
  | d, .str s, h => by
    simp only [rp] at h
    exact ⟨by simpa [pl] using h, short_str h, rfl⟩
  | d, .non, _ => ⟨by simp [pl], rfl, rfl⟩
  | d + 1, .tup xs, h => by
    simp only [rp] at h
    obtain ⟨h1, h2, h3⟩ := rps_all d xs h
    exact ⟨by simpa [pl] using h1, by simpa [nd, PyData.leavesShort] using h2, by simpa [nd, PyData.showable] using h3⟩
  | d + 1, .lst xs, h => by
    simp only [rp] at h
    obtain ⟨h1, h2, h3⟩ := rps_all d xs h
    exact ⟨by simpa [pl] using h1, by simpa [nd, PyData.leavesShort] using h2, by simpa [nd, PyData.showable] using h3⟩
  | 0, .tup _, h => by simp [rp] at h
  | 0, .lst _, h => by simp [rp] at h
  | _, .bl _, h => by simp [rp] at h
  | _, .ty _, h => by simp [rp] at h
  | _, .glb _, h => by simp [rp] at h
  | _, .fro _, h => by simp [rp] at h
  | _, .dic _, h => by simp [rp] at h
  | _, .set _, h => by simp [rp] at h
  | _, .dct _, h => by simp [rp] at h
  | _, .exn _ _, h => by simp [rp] at h
  | _, .tab _, h => by simp [rp] at h
  | _, .bex _, h => by simp [rp] at h
theorem rps_all : ∀ (d : Nat) (v : List NV), rps d v = true → pls d v = true ∧ PyData.leavesShortAll 13 (nds v) = true ∧ PyData.showableAll (nds v) = true
  | d, [], _ => ⟨rfl, rfl, rfl⟩
  | d, x :: xs, h => by
    simp only [rps, Bool.and_eq_true] at h
    obtain ⟨h1, h2, h3⟩ := rp_all d x h.1
    obtain ⟨h4, h5, h6⟩ := rps_all d xs h.2
    exact ⟨by simp [pls, h1, h4], by simp [nds, PyData.leavesShortAll, h2, h5], by simp [nds, PyData.showableAll, h3, h6]⟩
end
theorem repr_ok {d : Nat} {v : NV} (h : rp d v = true) (hd : d ≤ 60) (hw : wt v ≤ 1048576) : vfRepr [v] = some (.im (.str (nd v).shown)) := by
  obtain ⟨h1, h2, h3⟩ := rp_all d v h
  obtain ⟨h4, h5, h6⟩ := pl_dat d v h1
  have h7 : (nd v).shown.length ≤ LINE := by
    have := PyData.shown_fits_bulk (B := 13) (by decide) (by decide) h2 (by rw [wt_nd]; have e : (2 : Nat) ^ 20 = 1048576 := by decide
                                                                            omega)
    rw [sizeLine_eq] at this
    simp only [LINE]; omega
  have c : ((nd v).showable && !(nd v).hasDict && decide ((nd v).depth ≤ 60) && decide ((nd v).shown.length ≤ LINE)) = true := by
    rw [h3, PyData.hasDict_of_canLay _ h5, decide_eq_true (show (nd v).depth ≤ 60 by omega), decide_eq_true h7]; rfl
  simp only [vfRepr, vshown, h4, Option.bind_some, if_pos c, Option.map_some]
theorem rps_iff {d : Nat} : ∀ {xs : List NV}, rps d xs = true ↔ ∀ x ∈ xs, rp d x = true
  | [] => by simp [rps]
  | x :: xs => by simp [rps, rps_iff (xs := xs)]
theorem okName_le {s : Str} (h : okName s = true) : s.length ≤ 8 := by
  unfold okName at h
  simp only [Bool.and_eq_true, decide_eq_true_eq] at h
  exact h.1.2
theorem voNe_str (s : Str) : voNe (.str s) (.str s) = some (.im (.bl false)) := by
  have : voNe (.str s) (.str s) = some (.im (.bl (!(s == s)))) := rfl
  rw [this]; simp
end Vp
set_option Elab.async false
set_option linter.all false
set_option maxRecDepth 100000
set_option maxHeartbeats 4000000
namespace Vp
open PySem hiding Env
open Sg
open Vg hiding Env
end Vp
set_option Elab.async false
set_option linter.all false
set_option maxRecDepth 100000
set_option maxHeartbeats 4000000
namespace Vp
open PySem hiding Env
open Sg
open Vg hiding Env
def nb : Sl → Bool
  | .bo _ => false
  | _ => true
theorem vPut_nb {env : Env} {i : Nat} {s : Sl} {x : NV} (h : env[i]? = some s) (hb : nb s = true) : vPut (.nm i) x env = some (env.set i (.sh x)) := by
  unfold vPut
  rw [h]
  cases s with
  | bo _ => cases hb
  | un => rfl
  | sh _ => rfl
  | ow _ => rfl
theorem vSet_nb {env : Env} {i : Nat} {s t : Sl} (h : env[i]? = some s) (hb : nb s = true) : vSet i t env = some (env.set i t) := by
  unfold vSet
  rw [h]
  cases s with
  | bo _ => cases hb
  | un => rfl
  | sh _ => rfl
  | ow _ => rfl
end Vp
set_option Elab.async false
set_option linter.all false
set_option maxRecDepth 100000
set_option maxHeartbeats 4000000
namespace Vp
open PySem hiding Env
open Sg
open Vg hiding Env
theorem vCallBK_ok {f : List NV → List NV → Option EV} {a b : VA} {env env1 env2 : Env} {es fs : List EV} {us ws : List NV} {z : EV} (ha : a env = .ok (es, env1)) (hb : b env1 = .ok (fs, env2)) (hg : gets env2 es = some us) (hk : gets env2 fs = some ws) (hf : f us ws = some z) : vCallBK f a b env = .ok (z, env2) := by
  unfold vCallBK; rw [ha]; simp only [R.ok_bind, hb, hg, hk, Option.bind_some, hf, ofO_some]
end Vp
set_option Elab.async false
set_option linter.all false
set_option maxRecDepth 100000
set_option maxHeartbeats 4000000
namespace Vp
open PySem hiding Env
open Sg
open Vg hiding Env
end Vp
set_option Elab.async false
set_option linter.all false
set_option maxRecDepth 100000
set_option maxHeartbeats 4000000
namespace Vp
open PySem hiding Env
open Sg
open Vg hiding Env
end Vp
set_option Elab.async false
set_option linter.all false
set_option maxRecDepth 100000
set_option maxHeartbeats 4000000
namespace Vp
open PySem hiding Env
open Sg
open Vg hiding Env
theorem ix_sv {xs : List Str} {i : Nat} {x : Str} (h : xs[i]? = some x) : voIx (.tup (sv xs)) (.int (i : Nat)) = some (.im (.str x)) := by
  have hl : i < xs.length := (List.getElem?_eq_some_iff.mp h).1
  show (vix (sv xs) (i : Nat)).map EV.im = _
  have e : ixP (sv xs).length (i : Nat) = some i := by
    unfold ixP
    rw [if_pos (by omega), if_pos (by rw [sv_len]; omega)]
    simp
  unfold vix
  rw [e, Option.bind_some]
  show ((xs.map NV.str)[i]?).map EV.im = _
  rw [List.getElem?_map, h]; rfl
end Vp
set_option Elab.async false
set_option linter.all false
set_option maxRecDepth 100000
set_option maxHeartbeats 4000000
namespace Vp
open PySem hiding Env
open Sg
open Vg hiding Env
end Vp
set_option Elab.async false
set_option linter.all false
set_option maxRecDepth 100000
set_option maxHeartbeats 4000000
namespace Vp
open PySem hiding Env
open Sg
open Vg hiding Env
theorem small_both {j : Int} (h : j ≤ 1000000 ∧ -1000000 ≤ j) : small62 j = true :=
  small62_iff.mpr ⟨Int.le_trans (show (-(2 ^ 62) : Int) ≤ -1000000 by decide) h.2, Int.lt_of_le_of_lt h.1 (by decide)⟩
/-- what is asked behind a statement -/
structure KT where
  nx : Env → Prop
  rt : EV → Env → Prop
  bk : Env → Prop
  ct : Env → Prop
def KT.go (K : KT) : VFl → Env → Prop
  | .nx, e => K.nx e
  | .rt v, e => K.rt v e
  | .bk, e => K.bk e
  | .ct, e => K.ct e
def WS (s : VS) (env : Env) (K : KT) : Prop := ∃ f e, s env = .ok (f, e) ∧ K.go f e
def KT.sq (b : VS) (K : KT) : KT := ⟨fun e => WS b e K, K.rt, K.bk, K.ct⟩
def KT.lp (I : Env → Prop) (K : KT) : KT := ⟨I, K.rt, K.nx, I⟩
/-- both ways of a test -/
def WIf (c : Bool) (A B : Prop) : Prop := (c = true → A) ∧ (c = false → B)
section
variable {env env1 env2 env3 env4 : Env} {K : KT}
theorem WIf_t {c : Bool} {A B : Prop} (h : c = true) (a : A) : WIf c A B := ⟨fun _ => a, fun g => absurd (h.symm.trans g) (by decide)⟩
theorem WIf_f {c : Bool} {A B : Prop} (h : c = false) (b : B) : WIf c A B := ⟨fun g => absurd (h.symm.trans g) (by decide), fun _ => b⟩
theorem WIf_true {A B : Prop} (a : A) : WIf true A B := WIf_t rfl a
theorem WIf_false {A B : Prop} (b : B) : WIf false A B := WIf_f rfl b
theorem WIf_yes {P : Prop} [Decidable P] {A B : Prop} (h : P) (a : A) : WIf (decide P) A B := WIf_t (decide_eq_true h) a
theorem WIf_no {P : Prop} [Decidable P] {A B : Prop} (h : ¬ P) (b : B) : WIf (decide P) A B := WIf_f (decide_eq_false h) b
theorem WIf_nyes {P : Prop} [Decidable P] {A B : Prop} (h : ¬ P) (a : A) : WIf (!decide P) A B := WIf_t (by simp [h]) a
theorem WIf_nno {P : Prop} [Decidable P] {A B : Prop} (h : P) (b : B) : WIf (!decide P) A B := WIf_f (by simp [h]) b
theorem WS_sq {a b : VS} (ha : a env = .ok (.nx, env1)) (h : WS b env1 K) : WS (vSeq a b) env K := by
  obtain ⟨f, e, h1, h2⟩ := h
  exact ⟨f, e, by rw [vSeq_nx ha]; exact h1, h2⟩
theorem WS_one {a : VS} (ha : a env = .ok (.nx, env1)) (h : K.nx env1) : WS a env K := ⟨.nx, env1, ha, h⟩
theorem WS_seq {a b : VS} (h : WS a env (KT.sq b K)) : WS (vSeq a b) env K := by
  obtain ⟨f, e, h1, h2⟩ := h
  cases f with
  | nx =>
    obtain ⟨f, e2, h3, h4⟩ := h2
    exact ⟨f, e2, by rw [vSeq_nx h1]; exact h3, h4⟩
  | rt v => exact ⟨.rt v, e, vSeq_rt h1, h2⟩
  | bk => exact ⟨.bk, e, by unfold vSeq; rw [h1]; rfl, h2⟩
  | ct => exact ⟨.ct, e, by unfold vSeq; rw [h1]; rfl, h2⟩
theorem WS_rt {a : VE} {x : EV} (ha : a env = .ok (x, env1)) (h : K.rt x env1) : WS (vRet a) env K := ⟨.rt x, env1, vRet_ok ha, h⟩
theorem WS_rtN (h : K.rt (.im .non) env) : WS vRetN env K := ⟨.rt (.im .non), env, rfl, h⟩
theorem WS_bk (h : K.bk env) : WS vBreak env K := ⟨.bk, env, rfl, h⟩
theorem WS_pass (h : K.nx env) : WS vPass env K := ⟨.nx, env, rfl, h⟩
theorem WS_if {t : VT} {a b : VS} {c : Bool} (ht : t env = .ok (c, env1)) (h : WIf c (WS a env1 K) (WS b env1 K)) : WS (vIfS t a b) env K := by
  cases c with
  | true => obtain ⟨f, e, h1, h2⟩ := h.1 rfl; exact ⟨f, e, by rw [vIfS_ok ht]; exact h1, h2⟩
  | false => obtain ⟨f, e, h1, h2⟩ := h.2 rfl; exact ⟨f, e, by rw [vIfS_ok ht]; exact h1, h2⟩
/-- a test with an early end: the rest stands once -/
theorem WS_ifsq {t : VT} {a b c : VS} {q : Bool} (ht : t env = .ok (q, env1)) (h : WIf q (WS a env1 (KT.sq c K)) (WS b env1 (KT.sq c K))) : WS (vSeq (vIfS t a b) c) env K := WS_seq (WS_if ht h)
/-- loops -/
theorem WS_forL {g : Tg} {b : VS} (I : List NV → Env → Prop) (hs : ∀ x xs e, I (x :: xs) e → ∃ e1, vPut g x e = some e1 ∧ WS b e1 (KT.lp (I xs) K)) (he : ∀ e, I [] e → K.nx e) : ∀ (xs : List NV) (env : Env), I xs env → ∃ f e, vForL g b xs env = .ok (f, e) ∧ K.go f e
  | [], env, h => ⟨.nx, env, rfl, he env h⟩
  | x :: xs, env, h => by
    obtain ⟨e1, h1, f, e2, h2, h3⟩ := hs x xs env h
    simp only [vForL, h1, ofO_some, R.ok_bind, h2]
    cases f with
    | nx => exact WS_forL I hs he xs e2 h3
    | ct => exact WS_forL I hs he xs e2 h3
    | bk => exact ⟨.nx, e2, rfl, h3⟩
    | rt v => exact ⟨.rt v, e2, rfl, h3⟩
theorem WS_for {it : VI} {g : Tg} {b : VS} {xs : List NV} (I : List NV → Env → Prop) (hi : it env = .ok (xs, env1)) (h0 : I xs env1) (hs : ∀ x xs e, I (x :: xs) e → ∃ e1, vPut g x e = some e1 ∧ WS b e1 (KT.lp (I xs) K)) (he : ∀ e, I [] e → K.nx e) : WS (vFor it g b) env K := by
  obtain ⟨f, e, h1, h2⟩ := WS_forL I hs he xs env1 h0
  exact ⟨f, e, (vFor_nx hi).trans h1, h2⟩
/-- .. where the def may end within or the loop be left: what holds then -/
theorem WS_forsq {it : VI} {g : Tg} {b c : VS} {xs : List NV} (I : List NV → Env → Prop) (hi : it env = .ok (xs, env1)) (h0 : I xs env1) (hs : ∀ x xs e, I (x :: xs) e → ∃ e1, vPut g x e = some e1 ∧ WS b e1 (KT.lp (I xs) (KT.sq c K))) (he : ∀ e, I [] e → WS c e K) : WS (vSeq (vFor it g b) c) env K :=
  WS_seq (WS_for I hi h0 hs he)
theorem nx_sq {b : VS} {e : Env} (h : WS b e K) : (KT.sq b K).nx e := h
theorem rt_sq {b : VS} {e : Env} {v : EV} (h : K.rt v e) : (KT.sq b K).rt v e := h
theorem bk_sq {b : VS} {e : Env} (h : K.bk e) : (KT.sq b K).bk e := h
theorem ct_sq {b : VS} {e : Env} (h : K.ct e) : (KT.sq b K).ct e := h
theorem nx_lp {I : Env → Prop} {e : Env} (h : I e) : (KT.lp I K).nx e := h
theorem ct_lp {I : Env → Prop} {e : Env} (h : I e) : (KT.lp I K).ct e := h
theorem bk_lp {I : Env → Prop} {e : Env} (h : K.nx e) : (KT.lp I K).bk e := h
theorem rt_lp {I : Env → Prop} {e : Env} {v : EV} (h : K.rt v e) : (KT.lp I K).rt v e := h
inductive Upd : Env → Nat → Sl → Env → Prop
  | z {a s : Sl} {l : Env} : Upd (a :: l) 0 s (s :: l)
  | s {a s : Sl} {l l' : Env} {n : Nat} : Upd l n s l' → Upd (a :: l) (n + 1) s (a :: l')
theorem Upd.set {i : Nat} {s : Sl} (h : Upd env i s env1) : env.set i s = env1 := by induction h <;> simp_all
inductive Put : Env → Nat → Sl → Env → Prop
  | z {a s : Sl} {l : Env} (h : nb a = true) : Put (a :: l) 0 s (s :: l)
  | s {a s : Sl} {l l' : Env} {n : Nat} : Put l n s l' → Put (a :: l) (n + 1) s (a :: l')
theorem Put.vSet {i : Nat} {s : Sl} (h : Put env i s env1) : vSet i s env = some env1 := by
  have k : ∃ a, env[i]? = some a ∧ nb a = true ∧ env.set i s = env1 := by
    induction h with
    | z h => exact ⟨_, rfl, h, rfl⟩
    | s _ ih => obtain ⟨a, h1, h2, h3⟩ := ih; exact ⟨a, h1, h2, by simp [h3]⟩
  obtain ⟨a, h1, h2, h3⟩ := k
  rw [vSet_nb h1 h2, h3]
theorem Put.vPut {i : Nat} {v : NV} (h : Put env i (.sh v) env1) : vPut (.nm i) v env = some env1 := by
  have k : ∃ a, env[i]? = some a ∧ nb a = true ∧ env.set i (.sh v) = env1 := by
    generalize hs : Sl.sh v = s at h ⊢
    induction h with
    | z h => exact ⟨_, rfl, h, rfl⟩
    | s _ ih => obtain ⟨a, h1, h2, h3⟩ := ih hs; exact ⟨a, h1, h2, by simp [h3]⟩
  obtain ⟨a, h1, h2, h3⟩ := k
  rw [vPut_nb h1 h2, h3]
theorem puts_nil : vPuts [] [] env = some env := rfl
theorem puts_cons {t : Tg} {ts : List Tg} {x : NV} {xs : List NV} (h : Vg.vPut t x env = some env1) (h2 : vPuts ts xs env1 = some env2) : vPuts (t :: ts) (x :: xs) env = some env2 := by simp only [vPuts, h, Option.bind_some, h2]
theorem put_tp {ts : List Tg} {xs : List NV} (h : vPuts ts xs env = some env1) : Vg.vPut (.tp ts) (.tup xs) env = some env1 := by simp only [vPut, h]
/-- a slot that anything may stand in -/
abbrev Jk := {s : Sl // nb s = true}
theorem Jk_ok (a : Jk) : nb a.1 = true := a.2
theorem get_im {v : NV} : EV.get env (.im v) = some v := rfl
theorem keep_im {v : NV} : vKeep (.im v) env = some (.sh v, env) := rfl
theorem keep_fr {v : NV} : vKeep (.fr v) env = some (.ow v, env) := rfl
theorem frz_im {v : NV} : frz (.im v) env = some (v, env) := rfl
theorem frz_fr {v : NV} : frz (.fr v) env = some (v, env) := rfl
theorem frz_ow {k : Nat} {v : NV} (h : env[k]? = some (.ow v)) (hu : Upd env k (.sh v) env1) : frz (.sl k) env = some (v, env1) := by simp [frz, h, hu.set]
theorem frz_sh {k : Nat} {v : NV} (h : env[k]? = some (.sh v)) : frz (.sl k) env = some (v, env) := by simp [frz, h]
theorem keep_sl {k : Nat} {v : NV} (h : frz (.sl k) env = some (v, env1)) : vKeep (.sl k) env = some (.sh v, env1) := by simp only [vKeep, h, Option.map_some]
theorem frzs_nil : frzs [] env = some ([], env) := rfl
theorem frzs_cons {e : EV} {r : List EV} {v : NV} {vs : List NV} (h : frz e env = some (v, env1)) (h2 : frzs r env1 = some (vs, env2)) : frzs (e :: r) env = some (v :: vs, env2) := by simp [frzs, h, h2]
theorem gets_nil : gets env [] = some [] := rfl
theorem gets_cons {e : EV} {r : List EV} {v : NV} {vs : List NV} (h : e.get env = some v) (h2 : gets env r = some vs) : gets env (e :: r) = some (v :: vs) := by simp [gets, h, h2]
theorem keeps_nil : vKeeps [] env = some ([], env) := rfl
theorem keeps_cons {e : EV} {r : List EV} {s : Sl} {ss : List Sl} (h : vKeep e env = some (s, env1)) (h2 : vKeeps r env1 = some (ss, env2)) : vKeeps (e :: r) env = some (s :: ss, env2) := by simp [vKeeps, h, h2]
theorem sets_nil : vSets [] [] env = some env := rfl
theorem sets_cons {i : Nat} {is : List Nat} {s : Sl} {ss : List Sl} (h : Put env i s env1) (h2 : vSets is ss env1 = some env2) : vSets (i :: is) (s :: ss) env = some env2 := by simp [vSets, h.vSet, h2]
theorem vPar_ok {is : List Nat} {a : VA} {es : List EV} {ss : List Sl} (ha : a env = .ok (es, env1)) (hk : vKeeps es env1 = some (ss, env2)) (hs : vSets is ss env2 = some env3) : vPar is a env = .ok (.nx, env3) := by
  unfold vPar; rw [ha]; simp only [R.ok_bind, hk, Option.bind_some, hs, ofO_some]
theorem vAsgP_ok {a : VE} {i : Nat} {x : EV} {s : Sl} (ha : a env = .ok (x, env1)) (hk : vKeep x env1 = some (s, env2)) (hs : Put env2 i s env3) : vAsg a (.nm i) env = .ok (.nx, env3) := vAsg_ok ha hk hs.vSet
theorem vAug_ok {i : Nat} {f : VO2} {a : VE} {x w v : NV} {y : EV} (h0 : env[i]? = some (.sh x)) (ha : a env = .ok (y, env1)) (hy : y.get env1 = some w) (hf : f x w = some (.im v)) (hs : Put env1 i (.sh v) env2) : vAug i f a env = .ok (.nx, env2) := by
  unfold vAug; rw [h0]; simp only; rw [ha]; simp only [R.ok_bind, hy, Option.bind_some, hf, ofO_some, hs.vSet]
theorem vSub_ow {f : NV → NV → NV → Option NV} {o i e : VE} {x z : EV} {k : Nat} {w u j n : NV} (he : e env = .ok (x, env1)) (ho : o env1 = .ok (.sl k, env2)) (hi : i env2 = .ok (z, env3)) (hx : frz x env3 = some (w, env4)) (hu : env4[k]? = some (.ow u)) (hz : z.get env4 = some j) (hf : f u j w = some n) {env5 : Env} (hs : Upd env4 k (.ow n) env5) : vSub f o i e env = .ok (.nx, env5) := by
  unfold vSub; rw [he]; simp only [R.ok_bind]; rw [ho]; simp only [R.ok_bind]; rw [hi]; simp only [R.ok_bind, hx, ofO_some, hu, hz, Option.bind_some, hf, hs.set]
theorem vSub_bo {f : NV → NV → NV → Option NV} {o i e : VE} {x z : EV} {k : Nat} {w u j n : NV} (he : e env = .ok (x, env1)) (ho : o env1 = .ok (.sl k, env2)) (hi : i env2 = .ok (z, env3)) (hx : frz x env3 = some (w, env4)) (hu : env4[k]? = some (.bo u)) (hz : z.get env4 = some j) (hf : f u j w = some n) {env5 : Env} (hs : Upd env4 k (.bo n) env5) : vSub f o i e env = .ok (.nx, env5) := by
  unfold vSub; rw [he]; simp only [R.ok_bind]; rw [ho]; simp only [R.ok_bind]; rw [hi]; simp only [R.ok_bind, hx, ofO_some, hu, hz, Option.bind_some, hf, hs.set]
theorem ev_var {k : Nat} {r : R EE (EV × Env)} (h : vVar k env = r) : vVar k env = r := h
theorem ev_un {f : NV → Option EV} {a : VE} {x z : EV} {u : NV} (ha : a env = .ok (x, env1)) (hx : x.get env1 = some u) (hf : f u = some z) : vUn f a env = .ok (z, env1) := by unfold vUn; rw [ha]; simp only [R.ok_bind, hx, Option.bind_some, hf, ofO_some]
theorem vAnd_f {a b : VE} {x : EV} (h : a env = .ok (x, env1)) (hx : x.get env1 = some (.bl false)) : vAnd a b env = .ok (.im (.bl false), env1) := vAnd_ok h hx
theorem vAnd_go {a b : VE} {x y : EV} (h : a env = .ok (x, env1)) (hx : x.get env1 = some (.bl true)) (hb : b env1 = .ok (y, env2)) : vAnd a b env = .ok (y, env2) := (vAnd_ok h hx).trans hb
theorem vAnd_b {a b : VE} {x : EV} {c d : Bool} (h : a env = .ok (x, env1)) (hx : x.get env1 = some (.bl c)) (hb : b env1 = .ok (.im (.bl d), env1)) : vAnd a b env = .ok (.im (.bl (c && d)), env1) := by
  rw [vAnd_ok h hx]; cases c; rfl; exact hb
theorem vOr_t {a b : VE} {x : EV} (h : a env = .ok (x, env1)) (hx : x.get env1 = some (.bl true)) : vOr a b env = .ok (.im (.bl true), env1) := vOr_ok h hx
theorem vOr_go {a b : VE} {x y : EV} (h : a env = .ok (x, env1)) (hx : x.get env1 = some (.bl false)) (hb : b env1 = .ok (y, env2)) : vOr a b env = .ok (y, env2) := (vOr_ok h hx).trans hb
theorem vOr_b {a b : VE} {x : EV} {c d : Bool} (h : a env = .ok (x, env1)) (hx : x.get env1 = some (.bl c)) (hb : b env1 = .ok (.im (.bl d), env1)) : vOr a b env = .ok (.im (.bl (c || d)), env1) := by
  rw [vOr_ok h hx]; cases c; exact hb; rfl
theorem vNot_go {a : VE} {x : EV} {c : Bool} (h : a env = .ok (x, env1)) (hx : x.get env1 = some (.bl c)) : vNot a env = .ok (.im (.bl (!c)), env1) := by unfold vNot; rw [h]; simp only [R.ok_bind, hx, Option.bind_some, isBl, ofO_some]
theorem vChain_b {f g : VO2} {a b c : VE} {x y z : EV} {u w q : NV} {k l : Bool} (ha : a env = .ok (x, env)) (hb : b env = .ok (y, env)) (hx : x.get env = some u) (hy : y.get env = some w) (hf : f u w = some (.im (.bl k))) (hc : c env = .ok (z, env)) (hz : z.get env = some q) (hg : g w q = some (.im (.bl l))) : vChain f g a b c env = .ok (.im (.bl (k && l)), env) := by
  unfold vChain; rw [ha]; simp only [R.ok_bind]; rw [hb]; simp only [R.ok_bind, hx, hy, Option.bind_some, hf, ofO_some]
  cases k
  · rfl
  · show (c env >>= fun q => ofO ((y.get q.2).bind fun u => (q.1.get q.2).bind fun w => g u w) >>= fun z2 => R.ok (z2, q.2)) = _
    rw [hc]; simp only [R.ok_bind, hz, hy, Option.bind_some, hg, ofO_some, Bool.true_and]
theorem vMethM_owU {K : NV → Bool} {f : NV → List NV → Option (NV × NV)} {o : VE} {a : VA} {k : Nat} {u0 u z w : NV} {es : List EV} {ws : List NV} (ho : o env = .ok (.sl k, env1)) (h0 : EV.get env1 (.sl k) = some u0) (hk : K u0 = true) (ha : a env1 = .ok (es, env2)) (hf : frzs es env2 = some (ws, env3)) (hu : env3[k]? = some (.ow u)) (hz : f u ws = some (z, w)) (hs : Upd env3 k (.ow w) env4) :
    vMethM K f o a env = .ok (.im z, env4) := by rw [vMethM_ow ho h0 hk ha hf hu hz, hs.set]
theorem vMethM_boU {K : NV → Bool} {f : NV → List NV → Option (NV × NV)} {o : VE} {a : VA} {k : Nat} {u0 u z w : NV} {es : List EV} {ws : List NV} (ho : o env = .ok (.sl k, env1)) (h0 : EV.get env1 (.sl k) = some u0) (hk : K u0 = true) (ha : a env1 = .ok (es, env2)) (hf : frzs es env2 = some (ws, env3)) (hu : env3[k]? = some (.bo u)) (hz : f u ws = some (z, w)) (hs : Upd env3 k (.bo w) env4) :
    vMethM K f o a env = .ok (.im z, env4) := by rw [vMethM_bo ho h0 hk ha hf hu hz, hs.set]
theorem wback_nil {es : List EV} : wback [] [] es env = some env := rfl
theorem wback_bo {j : Nat} {mp : List Nat} {o x : NV} {os : List NV} {es : List EV} {k : Nat} (he : es[j]? = some (.sl k)) (hk : env[k]? = some (.bo x)) (hu : Upd env k (.bo o) env1) (h : wback mp os es env1 = some env2) : wback (j :: mp) (o :: os) es env = some env2 := by simp [wback, he, hk, hu.set, h]
theorem wback_ow {j : Nat} {mp : List Nat} {o x : NV} {os : List NV} {es : List EV} {k : Nat} (he : es[j]? = some (.sl k)) (hk : env[k]? = some (.ow x)) (hu : Upd env k (.ow o) env1) (h : wback mp os es env1 = some env2) : wback (j :: mp) (o :: os) es env = some env2 := by simp [wback, he, hk, hu.set, h]
theorem wback_fr {j : Nat} {mp : List Nat} {o x : NV} {os : List NV} {es : List EV} (he : es[j]? = some (.fr x)) (h : wback mp os es env = some env2) : wback (j :: mp) (o :: os) es env = some env2 := by simp [wback, he, h]
/-- a call: what it lends may be lent -/
theorem vCallL_ok {f : VF} {n : Nat} {mp : List Nat} {a : VA} {es : List EV} {vs : List NV} {ev : EV} {os : List NV} (ha : a env = .ok (es, env1)) (hg : gets env1 es = some vs) (hf : f vs = .ok (ev, os)) (hl : es.length = n) (hn : noAlias mp es = true) (hw : wback mp os es env1 = some env2) (hd : lent mp 0 es = [] ∨ lendOk ev os = true) : vCall f n mp a env = .ok (ev, env2) := by
  refine vCall_ok ha hl hn hg hf hw ?_
  unfold lend
  rcases hd with h | h
  · rw [h]; split <;> rfl
  · rw [if_pos h]
theorem ev_call {f : VF} {n : Nat} {mp : List Nat} {a : VA} {r : R EE (EV × Env)} (h : vCall f n mp a env = r) : vCall f n mp a env = r := h
theorem vSl_go {a : VE} {lo hi : VOp} {x z : EV} {l h : Option Int} {u : NV} (ha : a env = .ok (x, env1)) (hl : lo env1 = .ok (l, env2)) (hh : hi env2 = .ok (h, env3)) (hx : x.get env3 = some u) (hz : vsl u l h = some z) : vSl a lo hi env = .ok (z, env3) := vSl_ok ha hl hh hx hz
theorem vNoEnd_go : vNoEnd env = .ok (none, env) := rfl
theorem vEnd_go {a : VE} {x : EV} {i : Int} (ha : a env = .ok (x, env1)) (hx : x.get env1 = some (.int i)) : vEnd a env = .ok (some i, env1) := vEnd_ok ha hx
theorem vDfl_go {a : VA} {es : List EV} (h : a env = .ok (es, env1)) : vDfl a env = .ok (es ++ [.im (.tup [])], env1) := by unfold vDfl; rw [h]; rfl
inductive SelR (us ws : List EV) : List (Bool × Nat) → List EV → Prop
  | nil : SelR us ws [] []
  | t {i : Nat} {sel : List (Bool × Nat)} {x : EV} {r : List EV} (h : ws[i]? = some x) (k : SelR us ws sel r) : SelR us ws ((true, i) :: sel) (x :: r)
  | f {i : Nat} {sel : List (Bool × Nat)} {x : EV} {r : List EV} (h : us[i]? = some x) (k : SelR us ws sel r) : SelR us ws ((false, i) :: sel) (x :: r)
theorem SelR.eq {us ws : List EV} {sel : List (Bool × Nat)} {r : List EV} (h : SelR us ws sel r) : selG (.im .non) sel us ws = r := by
  induction h with
  | nil => rfl
  | t h _ ih => simp only [selG, List.map_cons, if_true, List.getD_eq_getElem?_getD, h, Option.getD_some] at ih ⊢; rw [ih]
  | f h _ ih => simp only [selG, List.map_cons, Bool.false_eq_true, if_false, List.getD_eq_getElem?_getD, h, Option.getD_some] at ih ⊢; rw [ih]
theorem vKw_go {n m : Nat} {sel : List (Bool × Nat)} {a b : VA} {es fs r : List EV} (ha : a env = .ok (es, env1)) (hb : b env1 = .ok (fs, env2)) (h : es.length = n ∧ fs.length = m) (hr : SelR es fs sel r) : vKw n m sel a b env = .ok (r, env2) := by unfold vKw; rw [ha]; simp only [R.ok_bind]; rw [hb]; simp only [R.ok_bind]; rw [grd_of h, hr.eq]
theorem vi_seq {a : VE} {x : EV} {u : NV} {xs : List NV} (ha : a env = .ok (x, env1)) (hx : frz x env1 = some (u, env2)) (hu : vitems u = some xs) : viSeq a env = .ok (xs, env2) := by unfold viSeq; rw [ha]; simp only [R.ok_bind, hx, ofO_some, hu]
theorem vi_enum {a : VE} {x : EV} {u : NV} {xs : List NV} (ha : a env = .ok (x, env1)) (hx : frz x env1 = some (u, env2)) (hu : vseq u = some xs) : viEnum a env = .ok (venum 0 xs, env2) := by unfold viEnum; rw [ha]; simp only [R.ok_bind, hx, ofO_some, hu]
theorem vi_rng1 {a : VE} {x : EV} {j : Int} {n : Nat} (ha : a env = .ok (x, env1)) (hx : x.get env1 = some (.int j)) (hj : j.toNat = n) (h1 : j ≤ 1000000 ∧ -1000000 ≤ j) : viRng1 a env = .ok (vrng 0 n, env1) := by
  have sm : small62 j = true := small_both h1
  unfold viRng1; rw [ha]; simp only [R.ok_bind, hx, Option.bind_some, isInt, ofO_some]
  rw [grd_of sm, hj]
theorem vi_rng2 {a b : VE} {x y : EV} {i j : Int} {n : Nat} (ha : a env = .ok (x, env1)) (hx : x.get env1 = some (.int i)) (hb : b env1 = .ok (y, env2)) (hy : y.get env2 = some (.int j)) (hn : (j - i).toNat = n) (h1 : i ≤ 1000000 ∧ -1000000 ≤ i) (h2 : j ≤ 1000000 ∧ -1000000 ≤ j) : viRng2 a b env = .ok (vrng i n, env2) := by
  have s1 := small_both h1
  have s2 := small_both h2
  unfold viRng2; rw [ha]; simp only [R.ok_bind, hx, Option.bind_some, isInt, ofO_some]; rw [hb]; simp only [R.ok_bind, hy, Option.bind_some, isInt, ofO_some]
  rw [grd_of ⟨s1, s2⟩, hn]
/-- tests -/
inductive AndR (b : VT) (env : Env) : Bool → R EE (Bool × Env) → Prop
  | f : AndR b env false (.ok (false, env))
  | t {d : Bool} {e : Env} (h : b env = .ok (d, e)) : AndR b env true (.ok (d, e))
  | b {c d : Bool} (h : b env = .ok (d, env)) : AndR b env c (.ok (c && d, env))
  | p {P : Prop} [Decidable P] {d : Bool} {e : Env} (p : P) (h : b env = .ok (d, e)) : AndR b env (decide P) (.ok (d, e))
  | n {P : Prop} [Decidable P] (p : ¬ P) : AndR b env (decide P) (.ok (false, env))
theorem vAndT_g {a b : VT} {c d : Bool} {e : Env} (h : a env = .ok (c, env1)) (hr : AndR b env1 c (.ok (d, e))) : vAndT a b env = .ok (d, e) := by
  unfold vAndT; rw [h]; simp only [R.ok_bind]
  generalize hq : (R.ok (d, e) : R EE (Bool × Env)) = q at hr
  cases hr with
  | f => rfl
  | t z => simpa using z
  | b z => cases c <;> simp [z]
  | p p z => simp [p, z]
  | n p => simp [p]
inductive OrR (b : VT) (env : Env) : Bool → R EE (Bool × Env) → Prop
  | t : OrR b env true (.ok (true, env))
  | f {d : Bool} {e : Env} (h : b env = .ok (d, e)) : OrR b env false (.ok (d, e))
  | b {c d : Bool} (h : b env = .ok (d, env)) : OrR b env c (.ok (c || d, env))
  | p {P : Prop} [Decidable P] (p : P) : OrR b env (decide P) (.ok (true, env))
  | n {P : Prop} [Decidable P] {d : Bool} {e : Env} (p : ¬ P) (h : b env = .ok (d, e)) : OrR b env (decide P) (.ok (d, e))
theorem vOrT_g {a b : VT} {c d : Bool} {e : Env} (h : a env = .ok (c, env1)) (hr : OrR b env1 c (.ok (d, e))) : vOrT a b env = .ok (d, e) := by
  unfold vOrT; rw [h]; simp only [R.ok_bind]
  generalize hq : (R.ok (d, e) : R EE (Bool × Env)) = q at hr
  cases hr with
  | t => rfl
  | f z => simpa using z
  | b z => cases c <;> simp [z]
  | p p => simp [p]
  | n p z => simp [p, z]
inductive IfR (a b : VE) (env : Env) : Bool → R EE (EV × Env) → Prop
  | t {x : EV} {e : Env} (h : a env = .ok (x, e)) : IfR a b env true (.ok (x, e))
  | f {x : EV} {e : Env} (h : b env = .ok (x, e)) : IfR a b env false (.ok (x, e))
  | p {P : Prop} [Decidable P] {x : EV} {e : Env} (p : P) (h : a env = .ok (x, e)) : IfR a b env (decide P) (.ok (x, e))
  | n {P : Prop} [Decidable P] {x : EV} {e : Env} (p : ¬ P) (h : b env = .ok (x, e)) : IfR a b env (decide P) (.ok (x, e))
  | i {c : Bool} {x y : Int} (h : a env = .ok (.im (.int x), env)) (k : b env = .ok (.im (.int y), env)) : IfR a b env c (.ok (.im (.int (if c then x else y)), env))
  | s {c : Bool} {x y : Str} (h : a env = .ok (.im (.str x), env)) (k : b env = .ok (.im (.str y), env)) : IfR a b env c (.ok (.im (.str (if c then x else y)), env))
  | u {c : Bool} {x y : NV} (h : a env = .ok (.im x, env)) (k : b env = .ok (.im y, env)) : IfR a b env c (.ok (.im (if c then x else y), env))
theorem vIf_g {t : VT} {a b : VE} {c : Bool} {x : EV} {e : Env} (h : t env = .ok (c, env1)) (hr : IfR a b env1 c (.ok (x, e))) : vIf t a b env = .ok (x, e) := by
  unfold vIf; rw [h]; simp only [R.ok_bind]
  generalize hq : (R.ok (x, e) : R EE (EV × Env)) = q at hr
  cases hr with
  | t z => simpa using z
  | f z => simpa using z
  | p p z => simp [p, z]
  | n p z => simp [p, z]
  | i z k => cases c <;> simp [z, k]
  | s z k => cases c <;> simp [z, k]
  | u z k => cases c <;> simp [z, k]
theorem vNotT_n {a : VT} {c d : Bool} (h : a env = .ok (c, env1)) (hd : (!c) = d) : vNotT a env = .ok (d, env1) := hd ▸ vNotT_ok h
theorem bn_t : (!true) = false := rfl
theorem bn_f : (!false) = true := rfl
theorem bn_nn {c : Bool} : (!(!c)) = c := by simp
theorem vVal_g {a : VE} {x : EV} {b : Bool} (ha : a env = .ok (x, env1)) (hx : x.get env1 = some (.bl b)) : vVal a env = .ok (b, env1) := vVal_ok ha hx
theorem ev_c {v : NV} : vC v env = .ok (.im v, env) := rfl
theorem vTup_g {a : VA} {es : List EV} {vs : List NV} (ha : a env = .ok (es, env1)) (hf : frzs es env1 = some (vs, env2)) (hl : es.length ≤ LINE) : vTup a env = .ok (.im (.tup vs), env2) := vTup_ok ha hf hl
theorem vLst_g {a : VA} {es : List EV} {vs : List NV} (ha : a env = .ok (es, env1)) (hf : frzs es env1 = some (vs, env2)) (hl : es.length ≤ LINE) : vLst a env = .ok (.fr (.lst vs), env2) := vLst_ok ha hf hl
theorem vAsgT_g {a : VE} {ts : List Tg} {x : EV} {y : NV} (ha : a env = .ok (x, env1)) (hk : frz x env1 = some (y, env2)) (hs : vPut (.tp ts) y env2 = some env3) : vAsg a (.tp ts) env = .ok (.nx, env3) := vAsgT_ok ha hk hs
theorem len_tsv (xs : List Str) : vfLenA [.tup (sv xs)] = some (.im (.int (xs.length : Nat))) := by
  show some (EV.im (NV.int ((sv xs).length : Nat))) = _
  rw [sv_len]
theorem len_lsv (xs : List Str) : vfLenA [.lst (sv xs)] = some (.im (.int (xs.length : Nat))) := by
  show some (EV.im (NV.int ((sv xs).length : Nat))) = _
  rw [sv_len]
theorem in_lsv (g : Str) (xs : List Str) : voIn (.str g) (.lst (sv xs)) = some (.im (.bl (decide (g ∈ xs)))) := in_sv g xs
theorem notIn_lsv (g : Str) (xs : List Str) : voNotIn (.str g) (.lst (sv xs)) = some (.im (.bl (!decide (g ∈ xs)))) := notIn_sv g xs
theorem isN_non : voIsN .non .non = some (.im (.bl true)) := by
  have n0 : decide (NV.non = .non) = true := decide_eq_true rfl
  show some (EV.im (NV.bl (decide (NV.non = .non)))) = _
  rw [n0]
theorem isN_of {x : NV} (h : x ≠ .non) : voIsN x .non = some (.im (.bl false)) := by
  have n0 : decide (x = .non) = false := decide_eq_false h
  show some (EV.im (NV.bl (decide (x = .non)))) = _
  rw [n0]
theorem notN_non : voNotN .non .non = some (.im (.bl false)) := by
  have n0 : decide (NV.non = .non) = true := decide_eq_true rfl
  show some (EV.im (NV.bl (!decide (NV.non = .non)))) = _
  rw [n0]; rfl
theorem notN_of {x : NV} (h : x ≠ .non) : voNotN x .non = some (.im (.bl true)) := by
  have n0 : decide (x = .non) = false := decide_eq_false h
  show some (EV.im (NV.bl (!decide (x = .non)))) = _
  rw [n0]; rfl
theorem tup_ne {xs : List NV} : NV.tup xs ≠ .non := by simp
theorem lst_ne {xs : List NV} : NV.lst xs ≠ .non := by simp
theorem int_ne {i : Int} : NV.int i ≠ .non := by simp
theorem str_ne {i : Str} : NV.str i ≠ .non := by simp
theorem bl_ne {i : Bool} : NV.bl i ≠ .non := by simp
theorem eq_str (a b : Str) : voEq (.str a) (.str b) = some (.im (.bl (decide (a = b)))) := rfl
theorem ne_str (a b : Str) : voNe (.str a) (.str b) = some (.im (.bl (!decide (a = b)))) := rfl
theorem ne_int (a b : Int) : voNe (.int a) (.int b) = some (.im (.bl (!decide (a = b)))) := rfl
theorem eq_int_self (a : Int) : voEq (.int a) (.int a) = some (.im (.bl true)) := by
  show some (EV.im (NV.bl (decide (a = a)))) = _
  rw [decide_eq_true rfl]
theorem ne_int_self (a : Int) : voNe (.int a) (.int a) = some (.im (.bl false)) := by
  show some (EV.im (NV.bl (!decide (a = a)))) = _
  rw [decide_eq_true rfl]; rfl
theorem eq_int_f {a b : Int} (h : a ≠ b) : voEq (.int a) (.int b) = some (.im (.bl false)) := by
  show some (EV.im (NV.bl (decide (a = b)))) = _
  rw [decide_eq_false h]
theorem ne_int_t {a b : Int} (h : a ≠ b) : voNe (.int a) (.int b) = some (.im (.bl true)) := by
  show some (EV.im (NV.bl (!decide (a = b)))) = _
  rw [decide_eq_false h]; rfl
theorem len_t1 {a : NV} : vfLenA [.tup [a]] = some (.im (.int 1)) := rfl
theorem len_t2 {a b : NV} : vfLenA [.tup [a, b]] = some (.im (.int 2)) := rfl
theorem len_t3 {a b c : NV} : vfLenA [.tup [a, b, c]] = some (.im (.int 3)) := rfl
theorem len_t0 : vfLenA [.tup []] = some (.im (.int 0)) := rfl
theorem isi_tt {xs : List NV} : vfIsi [.tup xs, .ty "tuple"] = some (.im (.bl true)) := rfl
theorem isi_ss {x : Str} : vfIsi [.str x, .ty "str"] = some (.im (.bl true)) := rfl
theorem isi_ii {x : Int} : vfIsi [.int x, .ty "int"] = some (.im (.bl true)) := rfl
theorem isi_ib {x : Int} : vfIsi [.int x, .ty "bool"] = some (.im (.bl false)) := rfl
theorem isi_is {x : Int} : vfIsi [.int x, .ty "str"] = some (.im (.bl false)) := rfl
theorem isi_it {x : Int} : vfIsi [.int x, .ty "tuple"] = some (.im (.bl false)) := rfl
theorem isi_si {x : Str} : vfIsi [.str x, .ty "int"] = some (.im (.bl false)) := rfl
theorem isi_st {x : Str} : vfIsi [.str x, .ty "tuple"] = some (.im (.bl false)) := rfl
theorem isi_ts {xs : List NV} : vfIsi [.tup xs, .ty "str"] = some (.im (.bl false)) := rfl
theorem isi_ti {xs : List NV} : vfIsi [.tup xs, .ty "int"] = some (.im (.bl false)) := rfl
theorem isi_nt : vfIsi [.non, .ty "tuple"] = some (.im (.bl false)) := rfl
theorem isi_ns : vfIsi [.non, .ty "str"] = some (.im (.bl false)) := rfl
theorem isi_ni : vfIsi [.non, .ty "int"] = some (.im (.bl false)) := rfl
theorem eq_str_f {a b : Str} (h : a ≠ b) : voEq (.str a) (.str b) = some (.im (.bl false)) := by rw [eq_str, decide_eq_false h]
theorem ne_str_t {a b : Str} (h : a ≠ b) : voNe (.str a) (.str b) = some (.im (.bl true)) := by rw [ne_str, decide_eq_false h]; rfl
theorem eq_str_self (a : Str) : voEq (.str a) (.str a) = some (.im (.bl true)) := by rw [eq_str, decide_eq_true rfl]
theorem add_tup {xs ys : List NV} (h : xs.length + ys.length ≤ LINE) : voAdd (.tup xs) (.tup ys) = some (.im (.tup (xs ++ ys))) := voAdd_tup h
theorem add_tsv {xs ys : List Str} (h : xs.length + ys.length ≤ 1000000) : voAdd (.tup (sv xs)) (.tup (sv ys)) = some (.im (.tup (sv (xs ++ ys)))) := by
  rw [voAdd_tup (Nat.le_trans (by rw [sv_len, sv_len]; exact h) (show 1000000 ≤ LINE by decide))]; simp
theorem add_lst {xs ys : List NV} (h : xs.length + ys.length ≤ 1000000) : voAdd (.lst xs) (.lst ys) = some (.fr (.lst (xs ++ ys))) := voAdd_lst (Nat.le_trans h (by decide))
theorem sl_to (xs : List NV) (n : Nat) : vsl (.tup xs) none (some (n : Int)) = some (.im (.tup (xs.take n))) := by show some (EV.im (NV.tup (cutP xs none (some (n : Int))))) = _; rw [cut_to]
theorem sl_from (xs : List NV) (n : Nat) : vsl (.tup xs) (some (n : Int)) none = some (.im (.tup (xs.drop n))) := by show some (EV.im (NV.tup (cutP xs (some (n : Int)) none))) = _; rw [cut_from]
theorem sl_tsv (xs : List Str) (n : Nat) : vsl (.tup (sv xs)) none (some (n : Int)) = some (.im (.tup (sv (xs.take n)))) := by rw [sl_to, sv_take]
theorem sl_fsv (xs : List Str) (n : Nat) : vsl (.tup (sv xs)) (some (n : Int)) none = some (.im (.tup (sv (xs.drop n)))) := by rw [sl_from, sv_drop]
theorem append_lst {xs : List NV} {y : NV} (h : xs.length ≤ 1000000) : vmAppend (.lst xs) [y] = some (.non, .lst (xs ++ [y])) := if_pos (Nat.lt_of_le_of_lt h (by decide))
theorem extend_lst {xs ys : List NV} (h : xs.length + ys.length ≤ 1000000) : vmExtend (.lst xs) [.lst ys] = some (.non, .lst (xs ++ ys)) := if_pos (Nat.le_trans h (by decide))
theorem mul_int {a b : Int} (ha : -1000000000000 ≤ a ∧ a ≤ 1000000000000) (hb : -1000000000000 ≤ b ∧ b ≤ 1000000000000) : voMul (.int a) (.int b) = some (.im (.int (a * b))) :=
  if_pos (mulOk_of (a := 40) (b := 40) (show Int.natAbs _ < 2 ^ 40 by omega) (show Int.natAbs _ < 2 ^ 40 by omega) (by decide))
end
def WFn (f : VF) (vs : List NV) (Q : EV → List NV → Prop) : Prop := ∃ v os, f vs = .ok (v, os) ∧ Q v os
def KF (mp : List Nat) (Q : EV → List NV → Prop) : KT := ⟨fun e => ∃ os, outs e mp = some os ∧ Q (.im .non) os, fun v e => ∃ v' os, vret e v = some v' ∧ outs e mp = some os ∧ Q v' os, fun _ => False, fun _ => False⟩
theorem outs_nil {e : Env} : outs e [] = some [] := rfl
theorem outs_cons {e : Env} {j : Nat} {r : List Nat} {v : NV} {os : List NV} (h : e[j]? = some (.bo v)) (h2 : outs e r = some os) : outs e (j :: r) = some (v :: os) := by simp [outs, h, h2]
theorem rt_kf {mp : List Nat} {Q : EV → List NV → Prop} {e : Env} {v v' : EV} {os : List NV} (h1 : vret e v = some v') (h2 : outs e mp = some os) (h3 : Q v' os) : (KF mp Q).rt v e := ⟨v', os, h1, h2, h3⟩
theorem nx_kf {mp : List Nat} {Q : EV → List NV → Prop} {e : Env} {os : List NV} (h2 : outs e mp = some os) (h3 : Q (.im .non) os) : (KF mp Q).nx e := ⟨os, h2, h3⟩
theorem ret_im {e : Env} {v : NV} : vret e (.im v) = some (.im v) := rfl
theorem ret_fr {e : Env} {v : NV} : vret e (.fr v) = some (.fr v) := rfl
theorem ret_ow {e : Env} {k : Nat} {v : NV} (h : e[k]? = some (.ow v)) : vret e (.sl k) = some (.fr v) := by simp [vret, h]
theorem ret_sh {e : Env} {k : Nat} {v : NV} (h : e[k]? = some (.sh v)) : vret e (.sl k) = some (.im v) := by simp [vret, h]
theorem WFn_of {N : Nat} {mp : List Nat} {m : VS} {vs : List NV} {Q : EV → List NV → Prop} (h : WS m (vst mp 0 vs ++ List.replicate (N - vs.length) .un) (KF mp Q)) (hl : (mp.all fun j => decide (j < vs.length)) = true) : WFn (vFn N mp m) vs Q := by
  obtain ⟨f, e, h1, h2⟩ := h
  cases f with
  | nx => obtain ⟨os, h3, h4⟩ := h2; exact ⟨_, os, vFn_nx h1 h3 hl, h4⟩
  | rt v => obtain ⟨v', os, h3, h4, h5⟩ := h2; exact ⟨v', os, vFn_rt h1 h3 h4 hl, h5⟩
  | bk => exact h2.elim
  | ct => exact h2.elim
theorem WFn.eq {f : VF} {vs : List NV} {v : EV} {os : List NV} (h : WFn f vs fun a b => a = v ∧ b = os) : f vs = .ok (v, os) := by
  obtain ⟨a, b, h1, rfl, rfl⟩ := h
  exact h1
end Vp
namespace Vp
open PySem hiding Env
open Sg
open Vg hiding Env
inductive WipeR : Env → List Nat → Env → Prop
  | nil {e : Env} : WipeR e [] e
  | cons {e e1 e2 : Env} {v : Nat} {vs : List Nat} : WipeR e vs e1 → Upd e1 v .un e2 → WipeR e (v :: vs) e2
theorem WipeR.eq {e e1 : Env} {vs : List Nat} (h : WipeR e vs e1) : vWipe e vs = e1 := by
  induction h with
  | nil => rfl
  | cons _ h ih => simp only [vWipe, ih, h.set]
inductive BackR (env : Env) : List Nat → Env → Env → Prop
  | nil {e : Env} : BackR env [] e e
  | cons {e e1 e2 : Env} {v : Nat} {s : Sl} {vs : List Nat} : BackR env vs e e1 → env[v]? = some s → Upd e1 v s e2 → BackR env (v :: vs) e e2
theorem BackR.eq {env e e1 : Env} {vs : List Nat} (h : BackR env vs e e1) : vBack env vs e = e1 := by
  induction h with
  | nil => rfl
  | cons _ hs h ih => simp only [vBack, ih, List.getD_eq_getElem?_getD, hs, Option.getD_some, h.set]
/-- .. that changes no slot: each item by itself -/
theorem lc_pure {it : VI} {g : Tg} {t : VT} {e : VE} {vs : List Nat} {env env1 env2 : Env} {xs : List NV} (c : NV → Bool) (f : NV → NV) (hi : it env = .ok (xs, env1)) (hl : xs.length ≤ 1000000) (hw : WipeR env1 vs env2)
    (hs : ∀ x ∈ xs, ∃ r, vPut g x env2 = some r ∧ t r = .ok (c x, r) ∧ WipeR r vs env2 ∧ (c x = true → ∃ y, e r = .ok (y, r) ∧ frz y r = some (f x, r))) : vLc it g t e vs env = .ok (.fr (.lst ((xs.filter c).map f)), env1) := by
  refine vLc_pure c f hi (Nat.le_trans hl (by decide)) fun x hx => ?_
  obtain ⟨r, h1, h2, h3, h4⟩ := hs x hx
  exact ⟨r, by rw [hw.eq]; exact h1, h2, h4, by rw [h3.eq, hw.eq]⟩
theorem lc_map {it : VI} {g : Tg} {e : VE} {vs : List Nat} {env env1 env2 : Env} {xs : List NV} (f : NV → NV) (hi : it env = .ok (xs, env1)) (hl : xs.length ≤ 1000000) (hw : WipeR env1 vs env2)
    (hs : ∀ x ∈ xs, ∃ r, vPut g x env2 = some r ∧ WipeR r vs env2 ∧ ∃ y, e r = .ok (y, r) ∧ frz y r = some (f x, r)) : vLc it g vYes e vs env = .ok (.fr (.lst (xs.map f)), env1) := by
  have := lc_pure (t := vYes) (fun _ => true) f hi hl hw fun x hx => by
    obtain ⟨r, h1, h2, h3⟩ := hs x hx
    exact ⟨r, h1, rfl, h2, fun _ => h3⟩
  rw [this, List.filter_eq_self.mpr fun _ _ => rfl]
/-- three names at once -/
theorem vPar3_c {i j l : Nat} {a : VA} {env env1 env2 env3 env4 : Env} {e e' : EV} {w : NV} {ss : List Sl} (ha : a env = .ok ([e, e', .im w], env1)) (hw : vflat w = true) (hk : vKeeps [e, e'] env1 = some (ss, env2)) (hs : vSets [i, j] ss env2 = some env3) (hl : Put env3 l (.sh w) env4) : vPar3 i j l a env = .ok (.nx, env4) := by
  unfold vPar3; rw [ha]; simp only [R.ok_bind]
  rw [grd_of hw, hk]; simp only [Option.bind_some, hs, ofO_some, R.ok_bind, hl.vSet]
theorem vPar3_b {i j l : Nat} {a : VA} {env env1 env2 env3 env4 : Env} {e v : NV} {w : NV} {ss : List Sl} (ha : a env = .ok ([.fr e, .im w, .fr v], env1)) (hw : vflat w = true ∧ j ≠ l) (hk : vKeeps [.fr e, .fr v] env1 = some (ss, env2)) (hs : vSets [i, l] ss env2 = some env3) (hl : Put env3 j (.sh w) env4) : vPar3 i j l a env = .ok (.nx, env4) := by
  unfold vPar3; rw [ha]; simp only [R.ok_bind]
  rw [grd_of hw, hk]; simp only [Option.bind_some, hs, ofO_some, R.ok_bind, hl.vSet]
end Vp
set_option Elab.async false
set_option linter.all false
set_option maxRecDepth 100000
set_option maxHeartbeats 4000000
namespace Vp
open PySem hiding Env
open Sg
open Vg hiding Env
theorem e__law_any_k12 {a0 : NV} {Q : EV → List NV → Prop} (h : WS v__law_any_k12 [.bo a0, .un, .un, .un] (KF [0] Q)) : WFn g__law_any_k12 [a0] Q := WFn_of h rfl
theorem e__law_with_value_k12 {a0 : NV} {Q : EV → List NV → Prop} (h : WS v__law_with_value_k12 [.sh a0, .un] (KF [] Q)) : WFn g__law_with_value_k12 [a0] Q := WFn_of h rfl
theorem e__law_by_name_k12 {a0 : NV} {Q : EV → List NV → Prop} (h : WS v__law_by_name_k12 [.sh a0, .un] (KF [] Q)) : WFn g__law_by_name_k12 [a0] Q := WFn_of h rfl
theorem e__law_right_k12 {a0 : NV} {Q : EV → List NV → Prop} (h : WS v__law_right_k12 [.bo a0, .un, .un, .un, .un, .un, .un] (KF [0] Q)) : WFn g__law_right_k12 [a0] Q := WFn_of h rfl
theorem e_law_k12 {a0 : NV} {Q : EV → List NV → Prop} (h : WS v_law_k12 [.sh a0, .un] (KF [] Q)) : WFn g_law_k12 [a0] Q := WFn_of h rfl
end Vp
set_option Elab.async false
set_option linter.all false
set_option maxRecDepth 100000
set_option maxHeartbeats 4000000
namespace Vp
open PySem hiding Env
open Sg
open Vg hiding Env
theorem eq_tsv_nil {xs : List Str} (h : ∀ s ∈ xs, okName s = true) : voEq (.tup (sv xs)) (.tup []) = some (.im (.bl (decide (xs = [])))) := by
  rw [voEq_pl (d := 1) (e := 1) (pl_sv h).2 rfl]
  congr 4
  simp
theorem ne_tsv_nil {xs : List Str} (h : ∀ s ∈ xs, okName s = true) : voNe (.tup (sv xs)) (.tup []) = some (.im (.bl (!decide (xs = [])))) := by
  rw [voNe_pl (d := 1) (e := 1) (pl_sv h).2 rfl]
  congr 5
  simp
theorem eq_lsv_nil {xs : List Str} (h : ∀ s ∈ xs, okName s = true) : voEq (.lst (sv xs)) (.lst []) = some (.im (.bl (decide (xs = [])))) := by
  rw [voEq_pl (d := 1) (e := 1) (pl_sv h).1 rfl]
  congr 4
  simp
theorem ne_lsv_nil {xs : List Str} (h : ∀ s ∈ xs, okName s = true) : voNe (.lst (sv xs)) (.lst []) = some (.im (.bl (!decide (xs = [])))) := by
  rw [voNe_pl (d := 1) (e := 1) (pl_sv h).1 rfl]
  congr 5
  simp
theorem sv_iff {xs ys : List Str} : sv xs = sv ys ↔ xs = ys := ⟨sv_inj, fun h => by rw [h]⟩
theorem eq_tsv {xs ys : List Str} (h : ∀ s ∈ xs, okName s = true) (k : ∀ s ∈ ys, okName s = true) : voEq (.tup (sv xs)) (.tup (sv ys)) = some (.im (.bl (decide (xs = ys)))) := by
  rw [voEq_pl (d := 1) (e := 1) (pl_sv h).2 (pl_sv k).2]
  congr 4
  simp only [NV.tup.injEq]
  exact propext sv_iff
theorem ne_tsv {xs ys : List Str} (h : ∀ s ∈ xs, okName s = true) (k : ∀ s ∈ ys, okName s = true) : voNe (.tup (sv xs)) (.tup (sv ys)) = some (.im (.bl (!decide (xs = ys)))) := by
  rw [voNe_pl (d := 1) (e := 1) (pl_sv h).2 (pl_sv k).2]
  congr 5
  simp only [NV.tup.injEq]
  exact propext sv_iff
theorem sl_tsvI (xs : List Str) {n : Int} (h : 0 ≤ n) : vsl (.tup (sv xs)) none (some n) = some (.im (.tup (sv (xs.take n.toNat)))) := by
  obtain ⟨m, rfl⟩ := Int.eq_ofNat_of_zero_le h
  exact sl_tsv xs m
theorem sl_fsvI (xs : List Str) {n : Int} (h : 0 ≤ n) : vsl (.tup (sv xs)) (some n) none = some (.im (.tup (sv (xs.drop n.toNat)))) := by
  obtain ⟨m, rfl⟩ := Int.eq_ofNat_of_zero_le h
  exact sl_fsv xs m
theorem sl_lsv (xs : List Str) {n : Int} (h : 0 ≤ n) : vsl (.lst (sv xs)) none (some n) = some (.fr (.lst (sv (xs.take n.toNat)))) := by
  obtain ⟨m, rfl⟩ := Int.eq_ofNat_of_zero_le h
  show some (EV.fr (NV.lst (cutP (sv xs) none (some (m : Int))))) = _
  rw [cut_to, sv_take]; rfl
theorem tup_lsv (xs : List Str) : vfTuple [.lst (sv xs)] = some (.im (.tup (sv xs))) := rfl
theorem list_tsv (xs : List Str) : vfList [.tup (sv xs)] = some (.fr (.lst (sv xs))) := rfl
theorem add_lsv {xs ys : List Str} (h : xs.length + ys.length ≤ 1000000) : voAdd (.lst (sv xs)) (.lst (sv ys)) = some (.fr (.lst (sv (xs ++ ys)))) := by
  rw [add_lst (by rw [sv_len, sv_len]; exact h)]; simp
theorem add_lsv1 {xs : List Str} {y : Str} (h : xs.length ≤ 900000) : voAdd (.lst (sv xs)) (.lst [.str y]) = some (.fr (.lst (sv (xs ++ [y])))) := by
  rw [add_lst (by rw [sv_len]; simp; omega)]; simp
theorem add_tsv1 {xs : List Str} {y : Str} (h : xs.length ≤ 900000) : voAdd (.tup (sv xs)) (.tup [.str y]) = some (.im (.tup (sv (xs ++ [y])))) := by
  rw [add_tup (Nat.le_trans (show _ ≤ 1000000 by rw [sv_len]; simp; omega) (by decide))]; simp
theorem append_lsv {xs : List Str} {y : Str} (h : xs.length ≤ 1000000) : vmAppend (.lst (sv xs)) [.str y] = some (.non, .lst (sv (xs ++ [y]))) := by
  rw [append_lst (by rw [sv_len]; exact h)]; simp
theorem extend_lsv {xs ys : List Str} (h : xs.length + ys.length ≤ 1000000) : vmExtend (.lst (sv xs)) [.lst (sv ys)] = some (.non, .lst (sv (xs ++ ys))) := by
  rw [extend_lst (by rw [sv_len, sv_len]; exact h)]; simp
theorem rev_tsv (xs : List Str) : vRev (.tup (sv xs)) = some (.im (.tup (sv xs.reverse))) := by
  show some (EV.im (NV.tup (sv xs).reverse)) = _
  rw [← List.map_reverse]
theorem rev_lsv (xs : List Str) : vRev (.lst (sv xs)) = some (.fr (.lst (sv xs.reverse))) := by
  show some (EV.fr (NV.lst (sv xs).reverse)) = _
  rw [← List.map_reverse]
theorem max2 (a b : Int) : vfMax2 [.int a, .int b] = some (.im (.int (if b > a then b else a))) := rfl
theorem min2 (a b : Int) : vfMin2 [.int a, .int b] = some (.im (.int (if b < a then b else a))) := rfl
theorem min2_of {a b c : Int} (h : (if b < a then b else a) = c) : vfMin2 [.int a, .int b] = some (.im (.int c)) := by rw [min2, h]
theorem max2_of {a b c : Int} (h : (if b > a then b else a) = c) : vfMax2 [.int a, .int b] = some (.im (.int c)) := by rw [max2, h]
theorem int_bl (P : Prop) [Decidable P] : vfInt [.bl (decide P)] = some (.im (.int (if P then 1 else 0))) := by
  show some (EV.im (NV.int (if decide P = true then 1 else 0))) = _
  simp
theorem all_map {α : Type} (f : α → Bool) (xs : List α) : vfAll [.lst (xs.map fun x => .bl (f x))] = some (.im (.bl (xs.all f))) := all_ok f xs
theorem lend_src {k : Nat} {x v : NV} {os : List NV} (h : Src k v) (hx : noref x = true) (ho : os = [v]) : lendOk (.im x) os = true := by
  subst ho
  simp [lendOk, hx, h.noref]
theorem lend_fsrc {k : Nat} {x v : NV} {os : List NV} (h : Src k v) (hx : norefO x = true) (ho : os = [v]) : lendOk (.fr x) os = true := by
  subst ho
  simp [lendOk, hx, h.noref]
theorem pickL {k : Nat} {v : NV} {xs : List NV} (h : Src k v) (hk : k ≤ 1000000) (hx : xs ≠ []) (hl : xs.length ≤ 1000000) : ∃ x v', x ∈ xs ∧ g__law_pick [v, .lst xs] = .ok (.im x, [v']) ∧ Src (k + 1) v' :=
  pick_ok h (Nat.lt_of_le_of_lt hk (by decide)) (.inl rfl) hx (Nat.lt_of_le_of_lt hl (by decide))
theorem vrng_mem {n : Nat} {m : Int} (h : (n : Int) ≤ m) : ∀ y ∈ vrng 0 n, ∃ i : Int, y = .int i ∧ 0 ≤ i ∧ i < m := by
  intro y hy
  simp only [vrng, List.mem_map, List.mem_range] at hy
  obtain ⟨a, ha, rfl⟩ := hy
  exact ⟨_, rfl, by omega, by omega⟩
theorem vrng_len {i : Int} {n : Nat} : (vrng i n).length = n := by simp [vrng]
end Vp
section
local macro_rules | `(tactic| walk_at "up") => `(tactic| first | (with_reducible exact Vp.Upd.z) | ((with_reducible apply Vp.Upd.s); walk_at "up"))
local macro_rules | `(tactic| walk_at "put") => `(tactic| first | ((with_reducible apply Vp.Put.s); walk_at "put") | exact Vp.Put.z rfl | exact Vp.Put.z (Vp.Jk_ok _) | exact Vp.Put.z (by with_reducible assumption))
local macro_rules | `(tactic| walk_at "pt") => `(tactic| first | ((with_reducible apply Vp.Put.vPut); walk_at "put") | ((with_reducible apply Vp.put_tp); walk_at "pts"))
local macro_rules | `(tactic| walk_at "pts") => `(tactic| first | (with_reducible exact Vp.puts_nil) | ((with_reducible apply Vp.puts_cons); walk_at "pt"; walk_at "pts"))
local macro_rules | `(tactic| walk_at "fz") => `(tactic| first | (with_reducible exact Vp.frz_im) | (with_reducible exact Vp.frz_fr) | ((with_reducible apply Vp.frz_sh); exact rfl) | ((with_reducible apply Vp.frz_ow); exact rfl; walk_at "up"))
local macro_rules | `(tactic| walk_at "fzs") => `(tactic| first | (with_reducible exact Vp.frzs_nil) | ((with_reducible apply Vp.frzs_cons); walk_at "fz"; walk_at "fzs"))
local macro_rules | `(tactic| walk_at "gs") => `(tactic| first | (with_reducible exact Vp.gets_nil) | ((with_reducible apply Vp.gets_cons); exact rfl; walk_at "gs"))
local macro_rules | `(tactic| walk_at "kp") => `(tactic| first | (with_reducible exact Vp.keep_im) | (with_reducible exact Vp.keep_fr) | ((with_reducible apply Vp.keep_sl); walk_at "fz"))
local macro_rules | `(tactic| walk_at "kps") => `(tactic| first | (with_reducible exact Vp.keeps_nil) | ((with_reducible apply Vp.keeps_cons); walk_at "kp"; walk_at "kps"))
local macro_rules | `(tactic| walk_at "sets") => `(tactic| first | (with_reducible exact Vp.sets_nil) | ((with_reducible apply Vp.sets_cons); walk_at "put"; walk_at "sets"))
local macro_rules | `(tactic| walk_at "bn") => `(tactic| first | (with_reducible exact Vp.bn_t) | (with_reducible exact Vp.bn_f) | (with_reducible exact Vp.bn_nn) | exact rfl)
local macro_rules | `(tactic| walk_at "ar") => `(tactic| first | omega | (simp only [List.length_map, List.length_append, List.length_cons, List.length_nil, List.length_reverse, List.length_take, List.length_drop]; omega) | (simp; omega))
local macro_rules | `(tactic| walk_at "isi") => `(tactic| first | (with_reducible exact Vp.isi_tt) | (with_reducible exact Vp.isi_ss) | (with_reducible exact Vp.isi_ii) | (with_reducible exact Vp.isi_ib) | (with_reducible exact Vp.isi_is) | (with_reducible exact Vp.isi_it) | (with_reducible exact Vp.isi_si) | (with_reducible exact Vp.isi_st) | (with_reducible exact Vp.isi_ts) | (with_reducible exact Vp.isi_ti) | (with_reducible exact Vp.isi_nt) | (with_reducible exact Vp.isi_ns) | (with_reducible exact Vp.isi_ni))
local macro_rules | `(tactic| walk_at "op") => `(tactic| first
  | (with_reducible assumption)
  | (with_reducible exact Vp.len_t2) | (with_reducible exact Vp.len_t1) | (with_reducible exact Vp.len_t0) | (with_reducible exact Vp.len_t3) | walk_at "isi"
  | (with_reducible exact Vp.len_tsv _) | (with_reducible exact Vp.len_lsv _) | (with_reducible exact Vp.in_sv _ _) | (with_reducible exact Vp.notIn_sv _ _) | (with_reducible exact Vp.in_lsv _ _) | (with_reducible exact Vp.notIn_lsv _ _)
  | (with_reducible exact Vp.isN_non) | (with_reducible exact Vp.notN_non) | ((with_reducible apply Vp.isN_of); first | exact Vp.tup_ne | exact Vp.lst_ne | exact Vp.int_ne | exact Vp.str_ne | exact Vp.bl_ne) | ((with_reducible apply Vp.notN_of); first | exact Vp.tup_ne | exact Vp.lst_ne | exact Vp.int_ne | exact Vp.str_ne | exact Vp.bl_ne)
  | (with_reducible exact Vp.eq_str_self _) | ((with_reducible apply Vp.eq_str_f); first | (with_reducible assumption) | decide) | ((with_reducible apply Vp.ne_str_t); first | (with_reducible assumption) | decide) | (with_reducible exact Vp.eq_str _ _) | (with_reducible exact Vp.voNe_str _) | (with_reducible exact Vp.eq_int_self _) | (with_reducible exact Vp.ne_int_self _) | ((with_reducible apply Vp.eq_int_f); first | (with_reducible assumption) | decide) | ((with_reducible apply Vp.ne_int_t); first | (with_reducible assumption) | decide) | (with_reducible exact Vp.eq_int _ _) | (with_reducible exact Vp.ne_str _ _) | (with_reducible exact Vp.ne_int _ _)
  | (with_reducible exact Vp.eq_tsv_nil (by assumption)) | (with_reducible exact Vp.ne_tsv_nil (by assumption)) | (with_reducible exact Vp.eq_lsv_nil (by assumption)) | (with_reducible exact Vp.ne_lsv_nil (by assumption)) | (with_reducible exact Vp.eq_tsv (by assumption) (by assumption)) | (with_reducible exact Vp.ne_tsv (by assumption) (by assumption))
  | ((with_reducible apply Vp.add_tsv); walk_at "ar") | ((with_reducible apply Vp.add_lsv); walk_at "ar") | ((with_reducible apply Vp.add_lsv1); walk_at "ar") | ((with_reducible apply Vp.add_tsv1); walk_at "ar") | ((with_reducible apply Vp.append_lsv); walk_at "ar") | ((with_reducible apply Vp.extend_lsv); walk_at "ar") | ((with_reducible apply Vp.add_lst); walk_at "ar") | ((with_reducible apply Vp.append_lst); walk_at "ar") | ((with_reducible apply Vp.extend_lst); walk_at "ar") | ((with_reducible apply Vp.mul_int); omega; omega)
  | (with_reducible exact Vp.sl_tsv _ _) | (with_reducible exact Vp.sl_fsv _ _) | (with_reducible exact Vp.sl_to _ _) | (with_reducible exact Vp.sl_from _ _)
  | ((with_reducible apply Vp.sl_tsvI); omega) | ((with_reducible apply Vp.sl_fsvI); omega) | ((with_reducible apply Vp.sl_lsv); omega)
  | (with_reducible exact Vp.tup_lsv _) | (with_reducible exact Vp.list_tsv _) | (with_reducible exact Vp.rev_tsv _) | (with_reducible exact Vp.rev_lsv _) | (with_reducible exact Vp.int_bl _) | ((with_reducible apply Vp.min2_of); (with_reducible assumption)) | ((with_reducible apply Vp.max2_of); (with_reducible assumption))
  | (with_reducible exact Vp.ix_p0) | (with_reducible exact Vp.ix_p1) | (with_reducible exact Vp.ix_s0) | (with_reducible exact Vp.sl_m1 _) | ((with_reducible apply Vp.sl_toI); omega) | ((with_reducible apply Vp.sl_fromI); omega) | ((with_reducible apply Vp.add_tupW); walk_at "ar") | (with_reducible exact Vp.len_tup _) | (with_reducible exact Vp.len_lst _)
  | (with_reducible exact Vp.ix_sv (by assumption))
  | exact rfl)
local macro_rules | `(tactic| walk_at "es") => `(tactic| first
  | (with_reducible exact Vp.vNil_ok)
  | ((with_reducible apply Vp.vCons_ok); walk_at "ev"; walk_at "es")
  | ((with_reducible apply Vp.vDfl_go); walk_at "es")
  | ((with_reducible apply Vp.vKw_go); walk_at "es"; walk_at "es"; exact ⟨rfl, rfl⟩; walk_at "sel"))
local macro_rules | `(tactic| walk_at "sel") => `(tactic| first | (with_reducible exact Vp.SelR.nil) | ((with_reducible apply Vp.SelR.t); exact rfl; walk_at "sel") | ((with_reducible apply Vp.SelR.f); exact rfl; walk_at "sel"))
local macro_rules | `(tactic| walk_at "wb") => `(tactic| first | (with_reducible exact Vp.wback_nil) | ((with_reducible apply Vp.wback_bo); exact rfl; exact rfl; walk_at "up"; walk_at "wb") | ((with_reducible apply Vp.wback_ow); exact rfl; exact rfl; walk_at "up"; walk_at "wb") | ((with_reducible apply Vp.wback_fr); exact rfl; walk_at "wb"))
local macro_rules | `(tactic| walk_at "ld") => `(tactic| first | exact Or.inl rfl | exact Or.inr rfl | exact Or.inr (Vp.lend_src (by assumption) rfl rfl) | exact Or.inr (Vp.lend_fsrc (by assumption) rfl rfl) | exact Or.inr (Vp.lend_fsrc (by assumption) (Vp.norefs_sv _) rfl))
local macro_rules | `(tactic| walk_at "fn") => `(tactic| with_reducible assumption)
local macro_rules | `(tactic| walk_at "ln") => `(tactic| (simp only [List.length_cons, List.length_nil]; decide))
local macro_rules | `(tactic| walk_at "ev") => `(tactic| first
  | ((with_reducible apply Vp.ev_var); exact rfl)
  | (with_reducible exact Vp.ev_c)
  | ((with_reducible apply Vp.vBin_ok); walk_at "ev"; walk_at "ev"; exact rfl; exact rfl; walk_at "op")
  | ((with_reducible apply Vp.vCallB_ok); walk_at "es"; walk_at "gs"; walk_at "op")
  | ((with_reducible apply Vp.vVal_g); walk_at "ev"; exact rfl)
  | ((with_reducible apply Vp.vTup_g); walk_at "es"; walk_at "fzs"; walk_at "ln")
  | ((with_reducible apply Vp.vLst_g); walk_at "es"; walk_at "fzs"; walk_at "ln")
  | ((with_reducible apply Vp.ev_call); first | (with_reducible assumption) | ((with_reducible apply Vp.vCallL_ok); walk_at "es"; walk_at "gs"; walk_at "fn"; exact rfl; exact rfl; walk_at "wb"; walk_at "ld"))
  | ((with_reducible apply Vp.vMethB_ok); walk_at "ev"; exact rfl; exact rfl; walk_at "es"; exact rfl; walk_at "gs"; walk_at "op")
  | ((with_reducible apply Vp.vMethM_owU); walk_at "ev"; exact rfl; exact rfl; walk_at "es"; walk_at "fzs"; exact rfl; walk_at "op"; walk_at "up")
  | ((with_reducible apply Vp.vMethM_boU); walk_at "ev"; exact rfl; exact rfl; walk_at "es"; walk_at "fzs"; exact rfl; walk_at "op"; walk_at "up")
  | ((with_reducible apply Vp.vSl_go); walk_at "ev"; walk_at "ev"; walk_at "ev"; exact rfl; walk_at "op")
  | (with_reducible exact Vp.vNoEnd_go)
  | ((with_reducible apply Vp.vEnd_go); walk_at "ev"; exact rfl)
  | ((with_reducible apply Vp.ev_un); walk_at "ev"; exact rfl; walk_at "op")
  | (with_reducible assumption)
  | ((with_reducible apply Vp.vNotT_n); walk_at "ev"; walk_at "bn")
  | ((with_reducible apply Vp.vAndT_g); walk_at "ev"; first | (with_reducible exact Vp.AndR.f) | ((with_reducible apply Vp.AndR.t); walk_at "ev") | ((with_reducible apply Vp.AndR.p); (with_reducible assumption); walk_at "ev") | ((with_reducible apply Vp.AndR.n); (with_reducible assumption)) | ((with_reducible apply Vp.AndR.b); walk_at "ev"))
  | ((with_reducible apply Vp.vOrT_g); walk_at "ev"; first | (with_reducible exact Vp.OrR.t) | ((with_reducible apply Vp.OrR.f); walk_at "ev") | ((with_reducible apply Vp.OrR.p); (with_reducible assumption)) | ((with_reducible apply Vp.OrR.n); (with_reducible assumption); walk_at "ev") | ((with_reducible apply Vp.OrR.b); walk_at "ev"))
  | ((with_reducible apply Vp.vIf_g); walk_at "ev"; first | ((with_reducible apply Vp.IfR.t); walk_at "ev") | ((with_reducible apply Vp.IfR.f); walk_at "ev") | ((with_reducible apply Vp.IfR.p); (with_reducible assumption); walk_at "ev") | ((with_reducible apply Vp.IfR.n); (with_reducible assumption); walk_at "ev") | ((with_reducible apply Vp.IfR.i); walk_at "ev"; walk_at "ev") | ((with_reducible apply Vp.IfR.s); walk_at "ev"; walk_at "ev") | ((with_reducible apply Vp.IfR.u); walk_at "ev"; walk_at "ev"))
  | ((with_reducible apply Vp.vNot_go); walk_at "ev"; exact rfl)
  | ((with_reducible apply Vp.vAnd_f); walk_at "ev"; with_reducible exact Vp.get_im)
  | ((with_reducible apply Vp.vAnd_go); walk_at "ev"; (with_reducible exact Vp.get_im); walk_at "ev")
  | ((with_reducible apply Vp.vAnd_b); walk_at "ev"; exact rfl; walk_at "ev")
  | ((with_reducible apply Vp.vOr_t); walk_at "ev"; with_reducible exact Vp.get_im)
  | ((with_reducible apply Vp.vOr_go); walk_at "ev"; (with_reducible exact Vp.get_im); walk_at "ev")
  | ((with_reducible apply Vp.vOr_b); walk_at "ev"; exact rfl; walk_at "ev")
  | ((with_reducible apply Vp.vChain_b); walk_at "ev"; walk_at "ev"; exact rfl; exact rfl; walk_at "op"; walk_at "ev"; exact rfl; walk_at "op")
  | ((with_reducible apply Vp.vCallBK_ok); walk_at "es"; walk_at "es"; walk_at "gs"; walk_at "gs"; walk_at "op")
  | ((with_reducible apply Vp.vi_seq); walk_at "ev"; walk_at "fz"; exact rfl)
  | ((with_reducible apply Vp.vi_enum); walk_at "ev"; walk_at "fz"; exact rfl)
  | ((with_reducible apply Vp.vi_rng1); walk_at "ev"; exact rfl; exact rfl; omega)
  | ((with_reducible apply Vp.vi_rng2); walk_at "ev"; exact rfl; walk_at "ev"; exact rfl; exact rfl; omega; omega)
  | (with_reducible assumption))
local macro_rules | `(tactic| walk_at "sm") => `(tactic| first
  | ((with_reducible apply Vp.vAsgP_ok); walk_at "ev"; walk_at "kp"; walk_at "put")
  | ((with_reducible apply Vp.vDrop_ok); walk_at "ev")
  | ((with_reducible apply Vp.vAug_ok); exact rfl; walk_at "ev"; exact rfl; walk_at "op"; walk_at "put")
  | ((with_reducible apply Vp.vAsgT_g); walk_at "ev"; walk_at "fz"; walk_at "pt")
  | ((with_reducible apply Vp.vPar_ok); walk_at "es"; walk_at "kps"; walk_at "sets")
  | ((with_reducible apply Vp.vPar3_b); walk_at "es"; exact ⟨rfl, by decide⟩; walk_at "kps"; walk_at "sets"; walk_at "put")
  | ((with_reducible apply Vp.vPar3_c); walk_at "es"; exact rfl; walk_at "kps"; walk_at "sets"; walk_at "put")
  | ((with_reducible apply Vp.vSub_ow); walk_at "ev"; walk_at "ev"; walk_at "ev"; walk_at "fz"; exact rfl; exact rfl; walk_at "op"; walk_at "up")
  | ((with_reducible apply Vp.vSub_bo); walk_at "ev"; walk_at "ev"; walk_at "ev"; walk_at "fz"; exact rfl; exact rfl; walk_at "op"; walk_at "up")
  | (with_reducible assumption))
local macro_rules | `(tactic| walk_at "wp") => `(tactic| first | (with_reducible exact Vp.WipeR.nil) | ((with_reducible apply Vp.WipeR.cons); walk_at "wp"; walk_at "up"))
local macro_rules | `(tactic| walk_at "bk") => `(tactic| first | (with_reducible exact Vp.BackR.nil) | ((with_reducible apply Vp.BackR.cons); walk_at "bk"; exact rfl; walk_at "up"))
local macro_rules | `(tactic| walk_at "if") => `(tactic| first
  | (with_reducible apply Vp.WIf_true) | (with_reducible apply Vp.WIf_false)
  | ((with_reducible apply Vp.WIf_yes); (with_reducible assumption)) | ((with_reducible apply Vp.WIf_no); (with_reducible assumption)) | ((with_reducible apply Vp.WIf_nyes); (with_reducible assumption)) | ((with_reducible apply Vp.WIf_nno); (with_reducible assumption)))
local macro_rules | `(tactic| walk_at "nx") => `(tactic| first | (with_reducible apply Vp.nx_sq) | (with_reducible apply Vp.nx_lp) | (with_reducible apply Vp.rt_sq) | (with_reducible apply Vp.rt_lp) | (with_reducible apply Vp.bk_lp) | (with_reducible apply Vp.bk_sq) | (with_reducible apply Vp.ct_lp) | (with_reducible apply Vp.ct_sq))
local macro_rules | `(tactic| walk_at "outs") => `(tactic| first | (with_reducible exact Vp.outs_nil) | ((with_reducible apply Vp.outs_cons); exact rfl; walk_at "outs"))
local macro_rules | `(tactic| walk_at "ret") => `(tactic| first | (with_reducible exact Vp.ret_im) | (with_reducible exact Vp.ret_fr) | ((with_reducible apply Vp.ret_ow); exact rfl) | ((with_reducible apply Vp.ret_sh); exact rfl))
local macro_rules | `(tactic| walk_at "end") => `(tactic| first | ((with_reducible apply Vp.rt_kf); walk_at "ret"; walk_at "outs") | ((with_reducible apply Vp.nx_kf); walk_at "outs"))
local macro_rules | `(tactic| walk_at "st") => `(tactic| first
  | ((with_reducible apply Vp.WS_sq); walk_at "sm")
  | ((with_reducible apply Vp.WS_ifsq); walk_at "ev"; try walk_at "if")
  | ((with_reducible apply Vp.WS_if); walk_at "ev"; try walk_at "if")
  | (with_reducible apply Vp.WS_pass)
  | ((with_reducible apply Vp.WS_rt); walk_at "ev")
  | (with_reducible apply Vp.WS_rtN)
  | (with_reducible apply Vp.WS_bk)
  | ((with_reducible apply Vp.WS_one); walk_at "sm")
  | ((with_reducible apply Vp.WS_seq); walk_at "st")
  | walk_at "nx" | walk_at "end")
local macro_rules | `(tactic| walk_at "go") => `(tactic| repeat (walk_at "st"))
set_option Elab.async false
set_option linter.all false
set_option maxRecDepth 100000
set_option maxHeartbeats 400000
namespace Vp
open PySem hiding Env
open Sg
open Vg hiding Env
def Rs (d w : Nat) (v : NV) : Prop := rp d v = true ∧ wt v ≤ w
theorem Rs.repr {d w : Nat} {v : NV} (h : Rs d w v) (hd : d ≤ 60 := by omega) (hw : w ≤ 1048576 := by omega) : ∃ S, vfRepr [v] = some (.im (.str S)) := ⟨_, repr_ok h.1 hd (Nat.le_trans h.2 hw)⟩
theorem rp_mono : ∀ {d e : Nat} {v : NV}, d ≤ e → rp d v = true → rp e v = true := by
  have key : ∀ (n : Nat) (d e : Nat) (v : NV), sizeOf v ≤ n → d ≤ e → rp d v = true → rp e v = true := by
    intro n
    induction n with
    | zero => intro d e v hs; cases v <;> simp at hs
    | succ n ih =>
      intro d e v hs hde h
      have lst : ∀ xs : List NV, sizeOf xs ≤ n → ∀ d e, d ≤ e → rps d xs = true → rps e xs = true := fun xs hx d e hde h => rps_iff.mpr fun x hm => ih d e x (by have := List.sizeOf_lt_of_mem hm; omega) hde (rps_iff.mp h x hm)
      cases v with
      | int i => simpa [rp] using h
      | str s => simpa [rp] using h
      | non => simp [rp]
      | tup xs =>
        cases d with
        | zero => simp [rp] at h
        | succ d =>
          cases e with
          | zero => omega
          | succ e => simp only [rp] at h ⊢; exact lst xs (by simp at hs; omega) d e (by omega) h
      | lst xs =>
        cases d with
        | zero => simp [rp] at h
        | succ d =>
          cases e with
          | zero => omega
          | succ e => simp only [rp] at h ⊢; exact lst xs (by simp at hs; omega) d e (by omega) h
      | _ => simp [rp] at h
  exact fun {d e v} h => key _ d e v (Nat.le_refl _) h
theorem Rs.mono {d e w x : Nat} {v : NV} (h : Rs d w v) (hd : d ≤ e) (hw : w ≤ x) : Rs e x v := ⟨rp_mono hd h.1, Nat.le_trans h.2 hw⟩
theorem Rs.int {i : Int} (h : -999999999999 ≤ i ∧ i ≤ 999999999999) : Rs 0 0 (.int i) := ⟨by simp only [rp]; exact decide_eq_true h, by simp [wt]⟩
theorem Rs.str {s : Str} (h : okName s = true) : Rs 0 8 (.str s) := ⟨by simp only [rp]; exact strOk_of h, by simp only [wt]; exact okName_le h⟩
theorem Rs.non : Rs 0 0 .non := ⟨rfl, by simp [wt]⟩
theorem len_fro (ns : List Int) : vfLenA [.fro (ns.map NV.int)] = some (.im (.int ns.length)) := by
  show some (EV.im (NV.int ((ns.map NV.int).length : Nat))) = _
  rw [List.length_map]
theorem all_true {α : Type} (xs : List α) : vfAll [.lst (xs.map fun _ => .bl true)] = some (.im (.bl true)) := by
  rw [all_ok (fun _ => true) xs, List.all_eq_true.mpr fun _ _ => rfl]
theorem law_comp {right : VF} {it : VI} {ns : List Int} {n : Nat} (hr : ∀ v, Src 0 v → ∃ v', right [v] = .ok (.im (.bl true), [v'])) (hl : ns.length ≤ 63) (hi : it [.sh (.fro (ns.map .int)), .un] = .ok (vrng 0 n, [.sh (.fro (ns.map .int)), .un])) (hn : n ≤ 63) :
    vLc it (.nm 1) vYes (vCall right 1 [0] (vCons (vCall g__law_source 2 [] (vCons (vVar 0) (vCons (vVar 1) (vNil)))) (vNil))) [1] [.sh (.fro (ns.map .int)), .un] = .ok (.fr (.lst ((vrng 0 n).map fun _ => .bl true)), [.sh (.fro (ns.map .int)), .un]) := by
  apply lc_map (env2 := [.sh (.fro (ns.map .int)), .un])
  · exact hi
  · rw [vrng_len]; omega
  · walk_at "wp"
  · intro x hx
    obtain ⟨i, rfl, i0, i1⟩ := vrng_mem (m := 63) (by omega) x hx
    obtain ⟨v, e1, s1⟩ := source_ok ns i i0 (by omega) hl
    obtain ⟨v', e2⟩ := hr v s1
    exact ⟨_, by walk_at "pt", by walk_at "wp", _, by walk_at "ev", by walk_at "fz"⟩
/-- all([right(source(script, k)) for k in range(max(1, min(len(script), m)))]) -/
theorem law_max {right : VF} {ns : List Int} {m : Int} (m0 : 0 ≤ m) (m1 : m ≤ 60) (hr : ∀ v, Src 0 v → ∃ v', right [v] = .ok (.im (.bl true), [v'])) (hl : ns.length ≤ 63) :
    vCallB vfAll (vCons (vLc (viRng1 (vCallB vfMax2 (vCons (vC (.int 1)) (vCons (vCallB vfMin2 (vCons (vCallB vfLenA (vCons (vVar 0) (vNil))) (vCons (vC (.int m)) (vNil)))) (vNil))))) (.nm 1) (vYes) (vCall right 1 [0] (vCons (vCall g__law_source 2 [] (vCons (vVar 0) (vCons (vVar 1) (vNil)))) (vNil))) [1]) (vNil)) [.sh (.fro (ns.map .int)), .un] = .ok (.im (.bl true), [.sh (.fro (ns.map .int)), .un]) := by
  have ln := len_fro ns
  obtain ⟨c, hc⟩ : ∃ c : Int, (if m < (ns.length : Int) then m else (ns.length : Int)) = c := ⟨_, rfl⟩
  have hc' : 0 ≤ c ∧ c ≤ 63 := by rw [← hc]; split <;> omega
  obtain ⟨b, hb⟩ : ∃ b : Int, (if c > 1 then c else 1) = b := ⟨_, rfl⟩
  have hb' : 0 ≤ b ∧ b ≤ 63 := by rw [← hb]; split <;> omega
  have q := law_comp (right := right) (it := viRng1 (vCallB vfMax2 (vCons (vC (.int 1)) (vCons (vCallB vfMin2 (vCons (vCallB vfLenA (vCons (vVar 0) (vNil))) (vCons (vC (.int m)) (vNil)))) (vNil))))) (ns := ns) (n := b.toNat) hr hl (by walk_at "ev") (by omega)
  have t := all_true (vrng 0 b.toNat)
  walk_at "ev"
end Vp
set_option Elab.async false
set_option linter.all false
set_option maxRecDepth 100000
set_option maxHeartbeats 1000000
namespace Vp
open PySem hiding Env
open Sg
open Vg hiding Env
def Rb (d w : Nat) (v : NV) : Prop := ∃ x, vdat v = some x ∧ x.canLay0 = true ∧ x.depth ≤ d ∧ x.leavesShort 13 = true ∧ x.showable = true ∧ x.bulk ≤ w
theorem Rb.of {d w : Nat} {v : NV} (h : Rs d w v) : Rb d w v := by
  obtain ⟨h1, h2⟩ := h
  obtain ⟨a, b, c⟩ := rp_all d v h1
  obtain ⟨p, q, r⟩ := pl_dat d v a
  exact ⟨nd v, p, q, r, b, c, by rw [wt_nd]; exact h2⟩
theorem Rb.bl (b : Bool) : Rb 0 0 (.bl b) := ⟨.bool b, rfl, rfl, Nat.le_refl _, by cases b <;> rfl, rfl, Nat.le_refl _⟩
theorem Rb.mono {d e w x : Nat} {v : NV} (h : Rb d w v) (hd : d ≤ e) (hw : w ≤ x) : Rb e x v := by
  obtain ⟨y, h1, h2, h3, h4, h5, h6⟩ := h
  exact ⟨y, h1, h2, by omega, h4, h5, by omega⟩
theorem Rb.all {d w : Nat} : ∀ {xs : List NV}, (∀ x ∈ xs, Rb d w x) → ∃ ys, vdats xs = some ys ∧ PyData.canLayAll0 ys = true ∧ PyData.depthAll ys ≤ d ∧ PyData.leavesShortAll 13 ys = true ∧ PyData.showableAll ys = true ∧ PyData.bulkAll ys ≤ xs.length * (w + 1)
  | [], _ => ⟨[], rfl, rfl, by simp [PyData.depthAll], rfl, rfl, by simp [PyData.bulkAll]⟩
  | x :: xs, h => by
    obtain ⟨y, a1, a2, a3, a4, a5, a6⟩ := h x (List.mem_cons_self ..)
    obtain ⟨ys, b1, b2, b3, b4, b5, b6⟩ := Rb.all (xs := xs) fun z hz => h z (List.mem_cons_of_mem _ hz)
    refine ⟨y :: ys, ?_, ?_, ?_, ?_, ?_, ?_⟩
    · simp only [vdats, a1, b1]
    · simp only [PyData.canLayAll0, a2, b2, Bool.and_self]
    · simp only [PyData.depthAll]; omega
    · simp only [PyData.leavesShortAll, a4, b4, Bool.and_self]
    · simp only [PyData.showableAll, a5, b5, Bool.and_self]
    · simp only [PyData.bulkAll, List.length_cons, Nat.add_mul, Nat.one_mul]; omega
theorem Rb.repr {d w : Nat} {v : NV} (h : Rb d w v) (hd : d ≤ 60 := by omega) (hw : w ≤ 1048576 := by omega) : ∃ S, vfRepr [v] = some (.im (.str S)) := by
  obtain ⟨y, h1, h2, h3, h4, h5, h6⟩ := h
  have h7 : y.shown.length ≤ LINE := by
    have := PyData.shown_fits_bulk (B := 13) (by decide) (by decide) h4 (by
      have e : (2 : Nat) ^ 20 = 1048576 := by decide
      omega)
    rw [sizeLine_eq] at this
    simp only [LINE]; omega
  have c : (y.showable && !y.hasDict && decide (y.depth ≤ 60) && decide (y.shown.length ≤ LINE)) = true := by
    rw [h5, PyData.hasDict_of_canLay _ h2, decide_eq_true (show y.depth ≤ 60 by omega), decide_eq_true h7]; rfl
  exact ⟨y.shown, by simp only [vfRepr, vshown, h1, Option.bind_some, if_pos c, Option.map_some]⟩
end Vp
set_option Elab.async false
set_option linter.all false
set_option maxRecDepth 100000
set_option maxHeartbeats 1000000
namespace Vp
open PySem hiding Env
open Sg
open Vg hiding Env
def okC (c : Nat) : Bool := decide (c ∈ sgl) || (decide (65 ≤ c) && decide (c ≤ 90)) || c == 32 || c == 45 || c == 10 || c == 44 || c == 43 || c == 95
def okT (s : Str) : Bool := s.cps.toList.all okC
def okB (i : Int) : Bool := i == 1000000000000000000000000000000 || i == 100000000000000000000 || i == 1000000000000
def okI (i : Int) : Bool := decide (-999999999999 ≤ i ∧ i ≤ 999999999999) || okB i
def txtB : NV → Bool
  | .str s => okT s
  | _ => false
mutual
def av : Nat → NV → Bool
  | _, .non => true
  | _, .bl _ => true
  | _, .int i => okI i
  | _, .str s => okT s
  | d + 1, .tup xs => avs d xs
  | d + 1, .lst xs => avs d xs
  | d + 1, .dic kvs => avd d kvs
  | _, _ => false
def avs : Nat → List NV → Bool
  | _, [] => true
  | d, x :: xs => av d x && avs d xs
def avd : Nat → List (NV × NV) → Bool
  | _, [] => true
  | d, x :: xs => txtB x.1 && av d x.2 && avd d xs
end
mutual
def wq : NV → Nat
  | .str s => s.length
  | .tup xs => wqs xs
  | .lst xs => wqs xs
  | .dic kvs => wqd kvs
  | _ => 0
def wqs : List NV → Nat
  | [] => 0
  | x :: xs => wq x + 1 + wqs xs
def wqd : List (NV × NV) → Nat
  | [] => 0
  | x :: xs => wq x.1 + wq x.2 + 2 + wqd xs
end
theorem avs_iff {d : Nat} : ∀ {xs : List NV}, avs d xs = true ↔ ∀ x ∈ xs, av d x = true
  | [] => by simp [avs]
  | x :: xs => by simp [avs, avs_iff (xs := xs)]
theorem okC_lt {c : Nat} (h : okC c = true) : c < 128 := by
  have big : ∀ d ∈ sgl, d < 128 := by decide
  unfold okC at h
  simp only [Bool.or_eq_true, Bool.and_eq_true, decide_eq_true_eq, beq_iff_eq] at h
  rcases h with ((((((h | h) | h) | h) | h) | h) | h) | h
  · exact big c h
  · omega
  · omega
  · omega
  · omega
  · omega
  · omega
  · omega
theorem big30 : ∀ i ∈ ([1000000000000000000000000000000, 100000000000000000000, 1000000000000] : List Int), (PyData.shown (.int i)).length ≤ 40 ∧ i.natAbs.log2 < 1920 := by decide +kernel
theorem bigI {i : Int} (h : okB i = true) : (PyData.shown (.int i)).length ≤ 40 ∧ i.natAbs.log2 < 1920 := by
  unfold okB at h
  simp only [Bool.or_eq_true, beq_iff_eq] at h
  exact big30 i (by simp only [List.mem_cons, List.not_mem_nil, or_false]; rcases h with (h | h) | h <;> simp [h])
mutual
theorem av_dat : ∀ (d : Nat) (v : NV), av d v = true → ∃ x, vqat v = some x ∧ x.depth ≤ d ∧ x.leavesShort 40 = true ∧ x.showable = true ∧ x.bulk = wq v
  | d, .non, _ => ⟨.none, rfl, Nat.zero_le _, rfl, rfl, rfl⟩
  | d, .bl b, _ => ⟨.bool b, rfl, Nat.zero_le _, rfl, rfl, rfl⟩
  | d, .int i, h => by
    simp only [av, okI, Bool.or_eq_true, decide_eq_true_eq] at h
    refine ⟨.int i, rfl, Nat.zero_le _, ?_, ?_, rfl⟩
    · simp only [PyData.leavesShort, decide_eq_true_eq]
      rcases h with h | h
      · have : (PyData.shown (.int i)).length ≤ 13 := PyData.shown_int_le2 h.1 h.2
        omega
      · exact (bigI h).1
    · simp only [PyData.showable, decide_eq_true_eq]
      rcases h with h | h
      · exact log_short h.1 h.2
      · exact (bigI h).2
  | d, .str s, h => by
    simp only [av, okT, List.all_eq_true] at h
    refine ⟨.str s, rfl, Nat.zero_le _, ?_, rfl, rfl⟩
    simp only [PyData.leavesShort, List.all_eq_true, decide_eq_true_eq]
    intro c hc
    exact Nat.lt_trans (okC_lt (h c hc)) (by decide)
  | d + 1, .tup xs, h => by
    simp only [av] at h
    obtain ⟨ds, h1, h2, h3, h4, h5⟩ := avs_dat d xs h
    exact ⟨.tuple ds, by simp only [vqat, h1, Option.map_some], by simp only [PyData.depth]; omega, by simpa [PyData.leavesShort] using h3, by simpa [PyData.showable] using h4, by simpa [PyData.bulk, wq] using h5⟩
  | d + 1, .lst xs, h => by
    simp only [av] at h
    obtain ⟨ds, h1, h2, h3, h4, h5⟩ := avs_dat d xs h
    exact ⟨.list ds, by simp only [vqat, h1, Option.map_some], by simp only [PyData.depth]; omega, by simpa [PyData.leavesShort] using h3, by simpa [PyData.showable] using h4, by simpa [PyData.bulk, wq] using h5⟩
  | d + 1, .dic kvs, h => by
    simp only [av] at h
    obtain ⟨ds, h1, h2, h3, h4, h5⟩ := avd_dat d kvs h
    exact ⟨.dict ((kvs.map fun q => vkeyQ q.1).zip ds), by simp only [vqat, h1, Option.map_some], by simp only [PyData.depth]; omega, by simpa [PyData.leavesShort] using h3, by simpa [PyData.showable] using h4, by simpa [PyData.bulk, wq] using h5⟩
  | 0, .tup _, h => by simp [av] at h
  | 0, .lst _, h => by simp [av] at h
  | 0, .dic _, h => by simp [av] at h
  | _, .ty _, h => by simp [av] at h
  | _, .glb _, h => by simp [av] at h
  | _, .fro _, h => by simp [av] at h
  | _, .set _, h => by simp [av] at h
  | _, .dct _, h => by simp [av] at h
  | _, .exn _ _, h => by simp [av] at h
  | _, .tab _, h => by simp [av] at h
  | _, .bex _, h => by simp [av] at h
theorem avs_dat : ∀ (d : Nat) (v : List NV), avs d v = true → ∃ x, vqats v = some x ∧ PyData.depthAll x ≤ d ∧ PyData.leavesShortAll 40 x = true ∧ PyData.showableAll x = true ∧ PyData.bulkAll x = wqs v
  | d, [], _ => ⟨[], rfl, by simp [PyData.depthAll], rfl, rfl, rfl⟩
  | d, x :: xs, h => by
    simp only [avs, Bool.and_eq_true] at h
    obtain ⟨y, a1, a2, a3, a4, a5⟩ := av_dat d x h.1
    obtain ⟨ys, b1, b2, b3, b4, b5⟩ := avs_dat d xs h.2
    exact ⟨y :: ys, by simp only [vqats, a1, b1], by simp only [PyData.depthAll]; omega, by simp [PyData.leavesShortAll, a3, b3], by simp [PyData.showableAll, a4, b4], by simp only [PyData.bulkAll, wqs, a5, b5]⟩
theorem avd_dat : ∀ (d : Nat) (v : List (NV × NV)), avd d v = true → ∃ x, vqatd v = some x ∧ PyData.depthKv ((v.map fun q => vkeyQ q.1).zip x) ≤ d ∧ PyData.leavesShortKv 40 ((v.map fun q => vkeyQ q.1).zip x) = true ∧ PyData.showableKv ((v.map fun q => vkeyQ q.1).zip x) = true ∧ PyData.bulkKv ((v.map fun q => vkeyQ q.1).zip x) = wqd v
  | d, [], _ => ⟨[], rfl, by simp [PyData.depthKv], rfl, rfl, rfl⟩
  | d, (k, x) :: xs, h => by
    simp only [avd, Bool.and_eq_true] at h
    obtain ⟨y, a1, a2, a3, a4, a5⟩ := av_dat d x h.1.2
    obtain ⟨ys, b1, b2, b3, b4, b5⟩ := avd_dat d xs h.2
    cases k with
    | str s =>
      have hs : okT s = true := h.1.1
      obtain ⟨z, c1, c2, c3, c4, c5⟩ := av_dat 0 (.str s) hs
      have c1 : some (PyData.str s) = some z := c1
      cases c1
      refine ⟨y :: ys, by simp only [vqatd, a1, b1], ?_, ?_, ?_, ?_⟩
      · show PyData.depthKv ((PyData.str s, y) :: (xs.map fun q => vkeyQ q.1).zip ys) ≤ d
        simp only [PyData.depthKv, PyData.depth]; omega
      · show PyData.leavesShortKv 40 ((PyData.str s, y) :: (xs.map fun q => vkeyQ q.1).zip ys) = true
        simp only [PyData.leavesShortKv, c3, a3, b3, Bool.and_self]
      · show PyData.showableKv ((PyData.str s, y) :: (xs.map fun q => vkeyQ q.1).zip ys) = true
        simp only [PyData.showableKv, c4, a4, b4, Bool.and_self]
      · show PyData.bulkKv ((PyData.str s, y) :: (xs.map fun q => vkeyQ q.1).zip ys) = wqd ((.str s, x) :: xs)
        simp only [PyData.bulkKv, wqd, c5, a5, b5]
    | _ => exact absurd h.1.1 (by simp [txtB])
end
theorem av_repr {d : Nat} {v : NV} (h : av d v = true) (hd : d ≤ 60) (hw : wq v ≤ 300000) : ∃ S, vfReprD [v] = some (.im (.str S)) := by
  obtain ⟨x, h1, h2, h3, h4, h5⟩ := av_dat d v h
  have hl := PyData.shown_le_bulk 40 (by decide) x h3
  have h7 : x.shown.length ≤ LINE := by
    rw [h5] at hl
    simp only [LINE]
    omega
  have c : (x.showable && decide (x.depth ≤ 60) && decide (x.shown.length ≤ LINE)) = true := by
    rw [h4, decide_eq_true (show x.depth ≤ 60 by omega), decide_eq_true h7]; rfl
  exact ⟨x.shown, by simp only [vfReprD, h1, Option.bind_some, if_pos c]⟩
theorem av_mono : ∀ {d e : Nat} {v : NV}, d ≤ e → av d v = true → av e v = true := by
  have key : ∀ (n : Nat) (d e : Nat), (∀ v : NV, sizeOf v ≤ n → d ≤ e → av d v = true → av e v = true) := by
    intro n
    induction n with
    | zero => intro d e v hs; cases v <;> simp at hs
    | succ n ih =>
      intro d e v hs hde h
      have lst : ∀ (d e : Nat) (xs : List NV), sizeOf xs ≤ n → d ≤ e → avs d xs = true → avs e xs = true := fun d e xs hx hde h => avs_iff.mpr fun x hm => ih d e x (by have := List.sizeOf_lt_of_mem hm; omega) hde (avs_iff.mp h x hm)
      have dct : ∀ (d e : Nat) (xs : List (NV × NV)), sizeOf xs ≤ n → d ≤ e → avd d xs = true → avd e xs = true := by
        intro d e xs
        induction xs with
        | nil => intro _ _ _; rfl
        | cons q xs ihx =>
          obtain ⟨a, b⟩ := q
          intro hx hde h
          simp only [avd, Bool.and_eq_true] at h ⊢
          simp only [List.cons.sizeOf_spec, Prod.mk.sizeOf_spec] at hx
          exact ⟨⟨h.1.1, ih d e b (by omega) hde h.1.2⟩, ihx (by omega) hde h.2⟩
      cases v with
      | non => simp [av]
      | bl b => simp [av]
      | int i => simpa [av] using h
      | str s => simpa [av] using h
      | tup xs =>
        cases d with
        | zero => simp [av] at h
        | succ d =>
          cases e with
          | zero => omega
          | succ e => simp only [av] at h ⊢; exact lst d e xs (by simp at hs; omega) (by omega) h
      | lst xs =>
        cases d with
        | zero => simp [av] at h
        | succ d =>
          cases e with
          | zero => omega
          | succ e => simp only [av] at h ⊢; exact lst d e xs (by simp at hs; omega) (by omega) h
      | dic xs =>
        cases d with
        | zero => simp [av] at h
        | succ d =>
          cases e with
          | zero => omega
          | succ e => simp only [av] at h ⊢; exact dct d e xs (by simp at hs; omega) (by omega) h
      | _ => cases d <;> simp [av] at h
  exact fun {d e v} h => key _ d e v (Nat.le_refl _) h
/-- so deep, so heavy -/
def Av (d w : Nat) (v : NV) : Prop := av d v = true ∧ wq v ≤ w
theorem Av.mono {d e w u : Nat} {v : NV} (h : Av d w v) (hd : d ≤ e) (hw : w ≤ u) : Av e u v := ⟨av_mono hd h.1, Nat.le_trans h.2 hw⟩
theorem Av.repr {d w : Nat} {v : NV} (h : Av d w v) (hd : d ≤ 60 := by omega) (hw : w ≤ 300000 := by omega) : ∃ S, vfReprD [v] = some (.im (.str S)) := av_repr h.1 hd (Nat.le_trans h.2 hw)
theorem Av.of {d : Nat} {v : NV} {w : Nat} (h : (av d v && decide (wq v ≤ w)) = true) : Av d w v := by
  rw [Bool.and_eq_true, decide_eq_true_eq] at h; exact h
theorem Av.all {d w : Nat} {xs : List NV} (h : (xs.all fun v => av d v && decide (wq v ≤ w)) = true) : ∀ x ∈ xs, Av d w x := fun x hx => Av.of (List.all_eq_true.mp h x hx)
theorem Av.tup1 {d w : Nat} {v : NV} (h : Av d w v) : Av (d + 1) (w + 3) (.tup [v]) := ⟨by simp only [av, avs, h.1, Bool.and_self], by simp only [wq, wqs]; have := h.2; omega⟩
theorem Av.lst1 {d w : Nat} {v : NV} (h : Av d w v) : Av (d + 1) (w + 3) (.lst [v]) := ⟨by simp only [av, avs, h.1, Bool.and_self], by simp only [wq, wqs]; have := h.2; omega⟩
theorem Av.dic1 {d w : Nat} {v : NV} (h : Av d w v) : Av (d + 1) (w + 3) (.dic [(.str "a", v)]) := ⟨by
    have : txtB (.str "a") = true := by decide
    simp only [av, avd, h.1, this, Bool.and_self], by
    have : wq (.str "a") = 1 := rfl
    simp only [wq, wqd] at *
    have := h.2
    omega⟩
theorem Av.tupa {d w : Nat} {v : NV} (h : Av d w v) : Av (d + 1) (w + 3) (.tup [.str "a", v]) := ⟨by
    have : okT "a" = true := by decide
    simp only [av, avs, h.1, this, Bool.and_self], by
    have : wq (.str "a") = 1 := rfl
    simp only [wq, wqs] at *
    have := h.2
    omega⟩
theorem dic0_ev {env : Env} : vDic0 env = .ok (.fr (.dic []), env) := rfl
theorem disp_a {y : VE} {env env1 env2 : Env} {ev : EV} {x : NV} (hy : y env = .ok (ev, env1)) (hf : frz ev env1 = some (x, env2)) : vDisp (vpCons (vC (.str "a")) y vpNil) env = .ok (.fr (.dic [(.str "a", x)]), env2) := by
  have k : vkeyOk (.str "a") = true := by decide
  have f0 : ∀ (x : NV) (e : Env), frz (.im x) e = some (x, e) := fun _ _ => rfl
  unfold vDisp vpCons vpNil
  simp only [vC, R.ok_bind, f0, ofO_some, hy, hf, List.all_cons, List.all_nil, k, Bool.and_self, List.length_cons, List.length_nil]
  rw [grd_of ⟨trivial, by decide⟩]
  rfl
local macro_rules | `(tactic| walk_at "ev") => `(tactic| first
  | (with_reducible exact Vp.dic0_ev)
  | ((with_reducible apply Vp.disp_a); walk_at "ev"; walk_at "fz"))
def base18 : List NV := [.non, .bl true, .bl false, .int 0, .int 1, .int (-1), .int 61, .int 1000000000000000000000000000000, .str "", .str "a", .str "A", .str "toolongna", .tup [], .lst [], .dic [], .tup [.str "a"], .lst [.str "a"], .tup [.str "a", .str "a"]]
def base7 : List NV := [.tup [.str "a", .int 1], .tup [.str "drop"], .lst [.str "drop"], .tup [.str "copy", .int 1], .tup [.str "copy", .int 0], .tup [.str "push", .str "k"], .dic [(.str "a", .int 1)]]
theorem base_ok : ∀ x ∈ base18 ++ base7, Av 2 20 x := Av.all (by decide +kernel)
theorem pick6 {k : Nat} {v : NV} {a b c d e f : Int} (h : Src k v) (hk : k ≤ 1000000) : ∃ x v', (x = a ∨ x = b ∨ x = c ∨ x = d ∨ x = e ∨ x = f) ∧ g__law_pick [v, .lst [.int a, .int b, .int c, .int d, .int e, .int f]] = .ok (.im (.int x), [v']) ∧ Src (k + 1) v' := by
  obtain ⟨x, v', hx, e1, s⟩ := pickL (xs := [.int a, .int b, .int c, .int d, .int e, .int f]) h hk (by simp) (by simp)
  simp only [List.mem_cons, List.not_mem_nil, or_false] at hx
  rcases hx with rfl | rfl | rfl | rfl | rfl | rfl
  · exact ⟨a, v', .inl rfl, e1, s⟩
  · exact ⟨b, v', .inr (.inl rfl), e1, s⟩
  · exact ⟨c, v', .inr (.inr (.inl rfl)), e1, s⟩
  · exact ⟨d, v', .inr (.inr (.inr (.inl rfl))), e1, s⟩
  · exact ⟨e, v', .inr (.inr (.inr (.inr (.inl rfl)))), e1, s⟩
  · exact ⟨f, v', .inr (.inr (.inr (.inr (.inr rfl)))), e1, s⟩
end Vp
set_option Elab.async false
set_option linter.all false
set_option maxRecDepth 100000
set_option maxHeartbeats 400000
namespace Vp
open PySem hiding Env
open Sg
open Vg hiding Env
inductive Ins where
  | copy (k : Nat) | move (k : Nat) | drop | push (s : Str)
  deriving Inhabited
/-- an instruction of the document -/
def Ins.ok : Ins → Prop
  | .copy k => 1 ≤ k ∧ k ≤ 100
  | .move k => 1 ≤ k ∧ k ≤ 100
  | .drop => True
  | .push s => okName s = true
/-- .. of any depth -/
def Ins.pos : Ins → Prop
  | .copy k => 1 ≤ k
  | .move k => 1 ≤ k
  | _ => True
theorem Ins.ok.pos {i : Ins} (h : i.ok) : i.pos := by cases i <;> first | exact h.1 | trivial
def itemAt (r : List NV) (k : Nat) : NV := r.getD (r.length - k) .non
def Ins.ex (r : List NV) : Ins → List NV
  | .copy k => r ++ [itemAt r k]
  | .move k => r.take (r.length - k) ++ r.drop (r.length - k + 1) ++ [itemAt r k]
  | .drop => r.dropLast
  | .push s => r ++ [.str s]
theorem ix_p0 {a b : NV} : voIx (.tup [a, b]) (.int 0) = some (.im a) := rfl
theorem ix_p1 {a b : NV} : voIx (.tup [a, b]) (.int 1) = some (.im b) := rfl
theorem ix_s0 {a : NV} : voIx (.tup [a]) (.int 0) = some (.im a) := rfl
theorem sl_m1 (xs : List NV) : vsl (.tup xs) none (some (-1)) = some (.im (.tup xs.dropLast)) := by
  show some (EV.im (NV.tup (cutP xs none (some (-1))))) = _
  congr 3
  unfold cutP sIxP
  simp only [Nat.sub_zero, List.drop_zero]
  rw [if_pos (by omega), List.dropLast_eq_take]
  congr 1; omega
theorem sl_toI (xs : List NV) {n : Int} (h : 0 ≤ n) : vsl (.tup xs) none (some n) = some (.im (.tup (xs.take n.toNat))) := by
  obtain ⟨m, rfl⟩ := Int.eq_ofNat_of_zero_le h
  exact sl_to xs m
theorem sl_fromI (xs : List NV) {n : Int} (h : 0 ≤ n) : vsl (.tup xs) (some n) none = some (.im (.tup (xs.drop n.toNat))) := by
  obtain ⟨m, rfl⟩ := Int.eq_ofNat_of_zero_le h
  exact sl_from xs m
theorem add_tupW {xs ys : List NV} (h : xs.length + ys.length ≤ 1000000) : voAdd (.tup xs) (.tup ys) = some (.im (.tup (xs ++ ys))) := voAdd_tup (Nat.le_trans h (by decide))
theorem len_tup (xs : List NV) : vfLenA [.tup xs] = some (.im (.int (xs.length : Nat))) := rfl
theorem len_lst (xs : List NV) : vfLenA [.lst xs] = some (.im (.int (xs.length : Nat))) := rfl
end Vp
end
section
local macro_rules | `(tactic| walk_at "up") => `(tactic| first | (with_reducible exact Vp.Upd.z) | ((with_reducible apply Vp.Upd.s); walk_at "up"))
local macro_rules | `(tactic| walk_at "put") => `(tactic| first | ((with_reducible apply Vp.Put.s); walk_at "put") | exact Vp.Put.z rfl | exact Vp.Put.z (Vp.Jk_ok _) | exact Vp.Put.z (by with_reducible assumption))
local macro_rules | `(tactic| walk_at "pt") => `(tactic| first | ((with_reducible apply Vp.Put.vPut); walk_at "put") | ((with_reducible apply Vp.put_tp); walk_at "pts"))
local macro_rules | `(tactic| walk_at "pts") => `(tactic| first | (with_reducible exact Vp.puts_nil) | ((with_reducible apply Vp.puts_cons); walk_at "pt"; walk_at "pts"))
local macro_rules | `(tactic| walk_at "fz") => `(tactic| first | (with_reducible exact Vp.frz_im) | (with_reducible exact Vp.frz_fr) | ((with_reducible apply Vp.frz_sh); exact rfl) | ((with_reducible apply Vp.frz_ow); exact rfl; walk_at "up"))
local macro_rules | `(tactic| walk_at "fzs") => `(tactic| first | (with_reducible exact Vp.frzs_nil) | ((with_reducible apply Vp.frzs_cons); walk_at "fz"; walk_at "fzs"))
local macro_rules | `(tactic| walk_at "gs") => `(tactic| first | (with_reducible exact Vp.gets_nil) | ((with_reducible apply Vp.gets_cons); exact rfl; walk_at "gs"))
local macro_rules | `(tactic| walk_at "kp") => `(tactic| first | (with_reducible exact Vp.keep_im) | (with_reducible exact Vp.keep_fr) | ((with_reducible apply Vp.keep_sl); walk_at "fz"))
local macro_rules | `(tactic| walk_at "kps") => `(tactic| first | (with_reducible exact Vp.keeps_nil) | ((with_reducible apply Vp.keeps_cons); walk_at "kp"; walk_at "kps"))
local macro_rules | `(tactic| walk_at "sets") => `(tactic| first | (with_reducible exact Vp.sets_nil) | ((with_reducible apply Vp.sets_cons); walk_at "put"; walk_at "sets"))
local macro_rules | `(tactic| walk_at "bn") => `(tactic| first | (with_reducible exact Vp.bn_t) | (with_reducible exact Vp.bn_f) | (with_reducible exact Vp.bn_nn) | exact rfl)
local macro_rules | `(tactic| walk_at "ar") => `(tactic| first | omega | (simp only [List.length_map, List.length_append, List.length_cons, List.length_nil, List.length_reverse, List.length_take, List.length_drop]; omega) | (simp; omega))
local macro_rules | `(tactic| walk_at "isi") => `(tactic| first | (with_reducible exact Vp.isi_tt) | (with_reducible exact Vp.isi_ss) | (with_reducible exact Vp.isi_ii) | (with_reducible exact Vp.isi_ib) | (with_reducible exact Vp.isi_is) | (with_reducible exact Vp.isi_it) | (with_reducible exact Vp.isi_si) | (with_reducible exact Vp.isi_st) | (with_reducible exact Vp.isi_ts) | (with_reducible exact Vp.isi_ti) | (with_reducible exact Vp.isi_nt) | (with_reducible exact Vp.isi_ns) | (with_reducible exact Vp.isi_ni))
local macro_rules | `(tactic| walk_at "op") => `(tactic| first
  | (with_reducible assumption)
  | (with_reducible exact Vp.len_t2) | (with_reducible exact Vp.len_t1) | (with_reducible exact Vp.len_t0) | (with_reducible exact Vp.len_t3) | walk_at "isi"
  | (with_reducible exact Vp.len_tsv _) | (with_reducible exact Vp.len_lsv _) | (with_reducible exact Vp.in_sv _ _) | (with_reducible exact Vp.notIn_sv _ _) | (with_reducible exact Vp.in_lsv _ _) | (with_reducible exact Vp.notIn_lsv _ _)
  | (with_reducible exact Vp.isN_non) | (with_reducible exact Vp.notN_non) | ((with_reducible apply Vp.isN_of); first | exact Vp.tup_ne | exact Vp.lst_ne | exact Vp.int_ne | exact Vp.str_ne | exact Vp.bl_ne) | ((with_reducible apply Vp.notN_of); first | exact Vp.tup_ne | exact Vp.lst_ne | exact Vp.int_ne | exact Vp.str_ne | exact Vp.bl_ne)
  | (with_reducible exact Vp.eq_str_self _) | ((with_reducible apply Vp.eq_str_f); first | (with_reducible assumption) | decide) | ((with_reducible apply Vp.ne_str_t); first | (with_reducible assumption) | decide) | (with_reducible exact Vp.eq_str _ _) | (with_reducible exact Vp.voNe_str _) | (with_reducible exact Vp.eq_int_self _) | (with_reducible exact Vp.ne_int_self _) | ((with_reducible apply Vp.eq_int_f); first | (with_reducible assumption) | decide) | ((with_reducible apply Vp.ne_int_t); first | (with_reducible assumption) | decide) | (with_reducible exact Vp.eq_int _ _) | (with_reducible exact Vp.ne_str _ _) | (with_reducible exact Vp.ne_int _ _)
  | (with_reducible exact Vp.eq_tsv_nil (by assumption)) | (with_reducible exact Vp.ne_tsv_nil (by assumption)) | (with_reducible exact Vp.eq_lsv_nil (by assumption)) | (with_reducible exact Vp.ne_lsv_nil (by assumption)) | (with_reducible exact Vp.eq_tsv (by assumption) (by assumption)) | (with_reducible exact Vp.ne_tsv (by assumption) (by assumption))
  | ((with_reducible apply Vp.add_tsv); walk_at "ar") | ((with_reducible apply Vp.add_lsv); walk_at "ar") | ((with_reducible apply Vp.add_lsv1); walk_at "ar") | ((with_reducible apply Vp.add_tsv1); walk_at "ar") | ((with_reducible apply Vp.append_lsv); walk_at "ar") | ((with_reducible apply Vp.extend_lsv); walk_at "ar") | ((with_reducible apply Vp.add_lst); walk_at "ar") | ((with_reducible apply Vp.append_lst); walk_at "ar") | ((with_reducible apply Vp.extend_lst); walk_at "ar") | ((with_reducible apply Vp.mul_int); omega; omega)
  | (with_reducible exact Vp.sl_tsv _ _) | (with_reducible exact Vp.sl_fsv _ _) | (with_reducible exact Vp.sl_to _ _) | (with_reducible exact Vp.sl_from _ _)
  | ((with_reducible apply Vp.sl_tsvI); omega) | ((with_reducible apply Vp.sl_fsvI); omega) | ((with_reducible apply Vp.sl_lsv); omega)
  | (with_reducible exact Vp.tup_lsv _) | (with_reducible exact Vp.list_tsv _) | (with_reducible exact Vp.rev_tsv _) | (with_reducible exact Vp.rev_lsv _) | (with_reducible exact Vp.int_bl _) | ((with_reducible apply Vp.min2_of); (with_reducible assumption)) | ((with_reducible apply Vp.max2_of); (with_reducible assumption))
  | (with_reducible exact Vp.ix_p0) | (with_reducible exact Vp.ix_p1) | (with_reducible exact Vp.ix_s0) | (with_reducible exact Vp.sl_m1 _) | ((with_reducible apply Vp.sl_toI); omega) | ((with_reducible apply Vp.sl_fromI); omega) | ((with_reducible apply Vp.add_tupW); walk_at "ar") | (with_reducible exact Vp.len_tup _) | (with_reducible exact Vp.len_lst _)
  | (with_reducible exact Vp.ix_sv (by assumption))
  | exact rfl)
local macro_rules | `(tactic| walk_at "es") => `(tactic| first
  | (with_reducible exact Vp.vNil_ok)
  | ((with_reducible apply Vp.vCons_ok); walk_at "ev"; walk_at "es")
  | ((with_reducible apply Vp.vDfl_go); walk_at "es")
  | ((with_reducible apply Vp.vKw_go); walk_at "es"; walk_at "es"; exact ⟨rfl, rfl⟩; walk_at "sel"))
local macro_rules | `(tactic| walk_at "sel") => `(tactic| first | (with_reducible exact Vp.SelR.nil) | ((with_reducible apply Vp.SelR.t); exact rfl; walk_at "sel") | ((with_reducible apply Vp.SelR.f); exact rfl; walk_at "sel"))
local macro_rules | `(tactic| walk_at "wb") => `(tactic| first | (with_reducible exact Vp.wback_nil) | ((with_reducible apply Vp.wback_bo); exact rfl; exact rfl; walk_at "up"; walk_at "wb") | ((with_reducible apply Vp.wback_ow); exact rfl; exact rfl; walk_at "up"; walk_at "wb") | ((with_reducible apply Vp.wback_fr); exact rfl; walk_at "wb"))
local macro_rules | `(tactic| walk_at "ld") => `(tactic| first | exact Or.inl rfl | exact Or.inr rfl | exact Or.inr (Vp.lend_src (by assumption) rfl rfl) | exact Or.inr (Vp.lend_fsrc (by assumption) rfl rfl) | exact Or.inr (Vp.lend_fsrc (by assumption) (Vp.norefs_sv _) rfl))
local macro_rules | `(tactic| walk_at "fn") => `(tactic| with_reducible assumption)
local macro_rules | `(tactic| walk_at "ln") => `(tactic| (simp only [List.length_cons, List.length_nil]; decide))
local macro_rules | `(tactic| walk_at "ev") => `(tactic| first
  | ((with_reducible apply Vp.ev_var); exact rfl)
  | (with_reducible exact Vp.ev_c)
  | ((with_reducible apply Vp.vBin_ok); walk_at "ev"; walk_at "ev"; exact rfl; exact rfl; walk_at "op")
  | ((with_reducible apply Vp.vCallB_ok); walk_at "es"; walk_at "gs"; walk_at "op")
  | ((with_reducible apply Vp.vVal_g); walk_at "ev"; exact rfl)
  | ((with_reducible apply Vp.vTup_g); walk_at "es"; walk_at "fzs"; walk_at "ln")
  | ((with_reducible apply Vp.vLst_g); walk_at "es"; walk_at "fzs"; walk_at "ln")
  | ((with_reducible apply Vp.ev_call); first | (with_reducible assumption) | ((with_reducible apply Vp.vCallL_ok); walk_at "es"; walk_at "gs"; walk_at "fn"; exact rfl; exact rfl; walk_at "wb"; walk_at "ld"))
  | ((with_reducible apply Vp.vMethB_ok); walk_at "ev"; exact rfl; exact rfl; walk_at "es"; exact rfl; walk_at "gs"; walk_at "op")
  | ((with_reducible apply Vp.vMethM_owU); walk_at "ev"; exact rfl; exact rfl; walk_at "es"; walk_at "fzs"; exact rfl; walk_at "op"; walk_at "up")
  | ((with_reducible apply Vp.vMethM_boU); walk_at "ev"; exact rfl; exact rfl; walk_at "es"; walk_at "fzs"; exact rfl; walk_at "op"; walk_at "up")
  | ((with_reducible apply Vp.vSl_go); walk_at "ev"; walk_at "ev"; walk_at "ev"; exact rfl; walk_at "op")
  | (with_reducible exact Vp.vNoEnd_go)
  | ((with_reducible apply Vp.vEnd_go); walk_at "ev"; exact rfl)
  | ((with_reducible apply Vp.ev_un); walk_at "ev"; exact rfl; walk_at "op")
  | (with_reducible assumption)
  | ((with_reducible apply Vp.vNotT_n); walk_at "ev"; walk_at "bn")
  | ((with_reducible apply Vp.vAndT_g); walk_at "ev"; first | (with_reducible exact Vp.AndR.f) | ((with_reducible apply Vp.AndR.t); walk_at "ev") | ((with_reducible apply Vp.AndR.p); (with_reducible assumption); walk_at "ev") | ((with_reducible apply Vp.AndR.n); (with_reducible assumption)) | ((with_reducible apply Vp.AndR.b); walk_at "ev"))
  | ((with_reducible apply Vp.vOrT_g); walk_at "ev"; first | (with_reducible exact Vp.OrR.t) | ((with_reducible apply Vp.OrR.f); walk_at "ev") | ((with_reducible apply Vp.OrR.p); (with_reducible assumption)) | ((with_reducible apply Vp.OrR.n); (with_reducible assumption); walk_at "ev") | ((with_reducible apply Vp.OrR.b); walk_at "ev"))
  | ((with_reducible apply Vp.vIf_g); walk_at "ev"; first | ((with_reducible apply Vp.IfR.t); walk_at "ev") | ((with_reducible apply Vp.IfR.f); walk_at "ev") | ((with_reducible apply Vp.IfR.p); (with_reducible assumption); walk_at "ev") | ((with_reducible apply Vp.IfR.n); (with_reducible assumption); walk_at "ev") | ((with_reducible apply Vp.IfR.i); walk_at "ev"; walk_at "ev") | ((with_reducible apply Vp.IfR.s); walk_at "ev"; walk_at "ev") | ((with_reducible apply Vp.IfR.u); walk_at "ev"; walk_at "ev"))
  | ((with_reducible apply Vp.vNot_go); walk_at "ev"; exact rfl)
  | ((with_reducible apply Vp.vAnd_f); walk_at "ev"; with_reducible exact Vp.get_im)
  | ((with_reducible apply Vp.vAnd_go); walk_at "ev"; (with_reducible exact Vp.get_im); walk_at "ev")
  | ((with_reducible apply Vp.vAnd_b); walk_at "ev"; exact rfl; walk_at "ev")
  | ((with_reducible apply Vp.vOr_t); walk_at "ev"; with_reducible exact Vp.get_im)
  | ((with_reducible apply Vp.vOr_go); walk_at "ev"; (with_reducible exact Vp.get_im); walk_at "ev")
  | ((with_reducible apply Vp.vOr_b); walk_at "ev"; exact rfl; walk_at "ev")
  | ((with_reducible apply Vp.vChain_b); walk_at "ev"; walk_at "ev"; exact rfl; exact rfl; walk_at "op"; walk_at "ev"; exact rfl; walk_at "op")
  | ((with_reducible apply Vp.vCallBK_ok); walk_at "es"; walk_at "es"; walk_at "gs"; walk_at "gs"; walk_at "op")
  | ((with_reducible apply Vp.vi_seq); walk_at "ev"; walk_at "fz"; exact rfl)
  | ((with_reducible apply Vp.vi_enum); walk_at "ev"; walk_at "fz"; exact rfl)
  | ((with_reducible apply Vp.vi_rng1); walk_at "ev"; exact rfl; exact rfl; omega)
  | ((with_reducible apply Vp.vi_rng2); walk_at "ev"; exact rfl; walk_at "ev"; exact rfl; exact rfl; omega; omega)
  | (with_reducible assumption))
local macro_rules | `(tactic| walk_at "sm") => `(tactic| first
  | ((with_reducible apply Vp.vAsgP_ok); walk_at "ev"; walk_at "kp"; walk_at "put")
  | ((with_reducible apply Vp.vDrop_ok); walk_at "ev")
  | ((with_reducible apply Vp.vAug_ok); exact rfl; walk_at "ev"; exact rfl; walk_at "op"; walk_at "put")
  | ((with_reducible apply Vp.vAsgT_g); walk_at "ev"; walk_at "fz"; walk_at "pt")
  | ((with_reducible apply Vp.vPar_ok); walk_at "es"; walk_at "kps"; walk_at "sets")
  | ((with_reducible apply Vp.vPar3_b); walk_at "es"; exact ⟨rfl, by decide⟩; walk_at "kps"; walk_at "sets"; walk_at "put")
  | ((with_reducible apply Vp.vPar3_c); walk_at "es"; exact rfl; walk_at "kps"; walk_at "sets"; walk_at "put")
  | ((with_reducible apply Vp.vSub_ow); walk_at "ev"; walk_at "ev"; walk_at "ev"; walk_at "fz"; exact rfl; exact rfl; walk_at "op"; walk_at "up")
  | ((with_reducible apply Vp.vSub_bo); walk_at "ev"; walk_at "ev"; walk_at "ev"; walk_at "fz"; exact rfl; exact rfl; walk_at "op"; walk_at "up")
  | (with_reducible assumption))
local macro_rules | `(tactic| walk_at "wp") => `(tactic| first | (with_reducible exact Vp.WipeR.nil) | ((with_reducible apply Vp.WipeR.cons); walk_at "wp"; walk_at "up"))
local macro_rules | `(tactic| walk_at "bk") => `(tactic| first | (with_reducible exact Vp.BackR.nil) | ((with_reducible apply Vp.BackR.cons); walk_at "bk"; exact rfl; walk_at "up"))
local macro_rules | `(tactic| walk_at "if") => `(tactic| first
  | (with_reducible apply Vp.WIf_true) | (with_reducible apply Vp.WIf_false)
  | ((with_reducible apply Vp.WIf_yes); (with_reducible assumption)) | ((with_reducible apply Vp.WIf_no); (with_reducible assumption)) | ((with_reducible apply Vp.WIf_nyes); (with_reducible assumption)) | ((with_reducible apply Vp.WIf_nno); (with_reducible assumption)))
local macro_rules | `(tactic| walk_at "nx") => `(tactic| first | (with_reducible apply Vp.nx_sq) | (with_reducible apply Vp.nx_lp) | (with_reducible apply Vp.rt_sq) | (with_reducible apply Vp.rt_lp) | (with_reducible apply Vp.bk_lp) | (with_reducible apply Vp.bk_sq) | (with_reducible apply Vp.ct_lp) | (with_reducible apply Vp.ct_sq))
local macro_rules | `(tactic| walk_at "outs") => `(tactic| first | (with_reducible exact Vp.outs_nil) | ((with_reducible apply Vp.outs_cons); exact rfl; walk_at "outs"))
local macro_rules | `(tactic| walk_at "ret") => `(tactic| first | (with_reducible exact Vp.ret_im) | (with_reducible exact Vp.ret_fr) | ((with_reducible apply Vp.ret_ow); exact rfl) | ((with_reducible apply Vp.ret_sh); exact rfl))
local macro_rules | `(tactic| walk_at "end") => `(tactic| first | ((with_reducible apply Vp.rt_kf); walk_at "ret"; walk_at "outs") | ((with_reducible apply Vp.nx_kf); walk_at "outs"))
local macro_rules | `(tactic| walk_at "st") => `(tactic| first
  | ((with_reducible apply Vp.WS_sq); walk_at "sm")
  | ((with_reducible apply Vp.WS_ifsq); walk_at "ev"; try walk_at "if")
  | ((with_reducible apply Vp.WS_if); walk_at "ev"; try walk_at "if")
  | (with_reducible apply Vp.WS_pass)
  | ((with_reducible apply Vp.WS_rt); walk_at "ev")
  | (with_reducible apply Vp.WS_rtN)
  | (with_reducible apply Vp.WS_bk)
  | ((with_reducible apply Vp.WS_one); walk_at "sm")
  | ((with_reducible apply Vp.WS_seq); walk_at "st")
  | walk_at "nx" | walk_at "end")
local macro_rules | `(tactic| walk_at "go") => `(tactic| repeat (walk_at "st"))
set_option Elab.async false
set_option linter.all false
set_option maxRecDepth 100000
set_option maxHeartbeats 1000000
namespace Vp
open PySem hiding Env
open Sg
open Vg hiding Env
theorem Av.str {d w : Nat} {s : Str} (h : okT s = true) (hw : s.length ≤ w) : Av d w (.str s) := ⟨by cases d <;> exact h, hw⟩
theorem Av.tup {d w : Nat} {xs : List NV} (h : ∀ x ∈ xs, av d x = true) (hw : wqs xs ≤ w) : Av (d + 1) w (.tup xs) := ⟨by simp only [av]; exact avs_iff.mpr h, hw⟩
theorem Av.lst {d w : Nat} {xs : List NV} (h : ∀ x ∈ xs, av d x = true) (hw : wqs xs ≤ w) : Av (d + 1) w (.lst xs) := ⟨by simp only [av]; exact avs_iff.mpr h, hw⟩
end Vp
set_option Elab.async false
set_option linter.all false
set_option maxRecDepth 100000
set_option maxHeartbeats 1000000
namespace Vp
open PySem hiding Env
open Sg
open Vg hiding Env
local macro_rules | `(tactic| walk_at "ev") => `(tactic| first
  | (with_reducible exact Vp.dic0_ev)
  | ((with_reducible apply Vp.disp_a); walk_at "ev"; walk_at "fz"))
theorem any26_ok {k : Nat} {v : NV} (hs : Src k v) (hk : k ≤ 900000) : ∃ x v', g__law_any_k12 [v] = .ok (.im x, [v']) ∧ Av 28 100 x ∧ Src (k + 40) v' := by
  suffices q : WFn g__law_any_k12 [v] fun a o => ∃ x v', a = .im x ∧ o = [v'] ∧ Av 28 100 x ∧ Src (k + 40) v' by
    obtain ⟨a, o, e, x, v', rfl, rfl, h⟩ := q
    exact ⟨x, v', e, h⟩
  apply e__law_any_k12
  have pw : voPow (.int 10) (.int 30) = some (.im (.int 1000000000000000000000000000000)) := rfl
  have ng : vuNeg (.int 1) = some (.im (.int (-1))) := rfl
  have ad : voAdd (.lst base18) (.lst base7) = some (.fr (.lst (base18 ++ base7))) := voAdd_lst (by decide)
  obtain ⟨x, v1, hx, e1, s1⟩ := pickL (xs := base18 ++ base7) hs (by omega) (by decide) (by decide)
  have hx := base_ok x hx
  have ad : voAdd (.lst [.non, .bl true, .bl false, .int 0, .int 1, .int (-1), .int 61, .int 1000000000000000000000000000000, .str "", .str "a", .str "A", .str "toolongna", .tup [], .lst [], .dic [], .tup [.str "a"], .lst [.str "a"], .tup [.str "a", .str "a"]]) (.lst [.tup [.str "a", .int 1], .tup [.str "drop"], .lst [.str "drop"], .tup [.str "copy", .int 1], .tup [.str "copy", .int 0], .tup [.str "push", .str "k"], .dic [(.str "a", .int 1)]]) = some (.fr (.lst (base18 ++ base7))) := ad
  obtain ⟨n, v2, hn, e2, s2⟩ := pick6 (a := 0) (b := 0) (c := 0) (d := 1) (e := 2) (f := 26) s1 (by omega)
  walk_at "st"
  walk_at "st"
  obtain ⟨B, hB⟩ : ∃ B : NV, NV.lst [.non, .bl true, .bl false, .int 0, .int 1, .int (-1), .int 61, .int 1000000000000000000000000000000, .str "", .str "a", .str "A", .str "toolongna", .tup [], .lst [], .dic [], .tup [.str "a"], .lst [.str "a"], .tup [.str "a", .str "a"]] = B := ⟨_, rfl⟩
  apply WS_forsq (xs := vrng 0 n.toNat) (fun ys en => ∃ (d w : Nat) (x : NV) (k' : Nat) (v' : NV) (b t : Jk), Av d w x ∧ d + ys.length ≤ 28 ∧ w + 3 * ys.length ≤ 100 ∧ Src k' v' ∧ k' + ys.length ≤ k + 40 ∧ en = [.bo v', b.1, .sh x, t.1])
  · walk_at "ev"
  · exact ⟨2, 20, x, _, v2, ⟨_, rfl⟩, ⟨.un, rfl⟩, hx, by rw [vrng_len]; omega, by rw [vrng_len]; omega, s2, by rw [vrng_len]; omega, rfl⟩
  · rintro y ys en ⟨d, w, x, k', v', b, t, hx, h1, h2, s, h3, rfl⟩
    simp only [List.length_cons] at h1 h2 h3
    refine ⟨_, by walk_at "pt", ?_⟩
    obtain ⟨z, v3, hz, e3, s3⟩ := pickL (xs := [.tup [x], .lst [x], .dic [(.str "a", x)], .tup [.str "a", x]]) s (by omega) (by simp) (by simp)
    have hz : Av (d + 1) (w + 3) z := by
      simp only [List.mem_cons, List.not_mem_nil, or_false] at hz
      rcases hz with rfl | rfl | rfl | rfl
      · exact hx.tup1
      · exact hx.lst1
      · exact hx.dic1
      · exact hx.tupa
    walk_at "go"
    exact ⟨d + 1, w + 3, z, k' + 1, v3, b, ⟨.sh y, rfl⟩, hz, by omega, by omega, s3, by omega, rfl⟩
  · rintro en ⟨d, w, x, k', v', b, t, hx, h1, h2, s, h3, rfl⟩
    simp only [List.length_nil] at h1 h2 h3
    walk_at "go"
    exact ⟨x, v', rfl, rfl, hx.mono (by omega) (by omega), s.mono (by omega)⟩
end Vp
set_option Elab.async false
set_option linter.all false
set_option maxRecDepth 100000
set_option maxHeartbeats 1000000
namespace Vp
open PySem hiding Env
open Sg
open Vg hiding Env
theorem Av.shown {d w : Nat} {v : NV} (h : Av d w v) (hd : d ≤ 60 := by omega) (hw : w ≤ 150000 := by omega) : ∃ x, vqat v = some x ∧ x.showable = true ∧ x.depth ≤ 60 ∧ x.shown.length ≤ Sg.MOST := by
  obtain ⟨x, h1, h2, h3, h4, h5⟩ := av_dat d v h.1
  refine ⟨x, h1, h4, by omega, ?_⟩
  have hl := PyData.shown_le_bulk 40 (by decide) x h3
  have := h.2
  rw [h5] at hl
  simp only [Sg.MOST]
  omega
end Vp
set_option Elab.async false
set_option linter.all false
set_option maxRecDepth 100000
set_option maxHeartbeats 4000000
namespace Vp
open PySem hiding Env
open Sg
open Vg hiding Env
def mad12 (x : NV) : List NV := [.exn "InvalidRow" x, .exn "InvalidStack" x, .exn "InvalidConstants" x, .exn "InvalidGoal" x, .exn "InvalidProgram" x, .exn "InvalidInstruction" x, .exn "InvalidReach" x, .exn "InvalidHeight" x, .exn "InvalidCode" x, .exn "InvalidLive" x, .exn "InvalidExits" x, .exn "InvalidLayout" x, .exn "InvalidCount" x, .exn "InvalidText" x, .exn "InvalidLine" x, .exn "TooLow" x, .exn "OutOfReach" x]
def bar12 : List NV := [.bex "NotDistinct", .bex "NothingToUndo", .bex "NoBench"]
theorem vNew_ok {c : Str} {a : VE} {env env1 env2 : Env} {ev : EV} {v : NV} (h : a env = .ok (ev, env1)) (hf : frz ev env1 = some (v, env2)) (hv : ∃ d, vqat v = some d ∧ d.showable = true ∧ d.depth ≤ 60 ∧ d.shown.length ≤ Sg.MOST) : vNew c a env = .ok (.im (.exn c v), env2) := by
  obtain ⟨d, h1, h2, h3, h4⟩ := hv
  unfold vNew
  rw [h]
  simp only [R.ok_bind, hf, ofO_some, h1]
  exact if_pos (by rw [h2, decide_eq_true h3, decide_eq_true h4]; rfl)
local macro_rules | `(tactic| walk_at "ev") => `(tactic| ((with_reducible apply Vp.vNew_ok); walk_at "ev"; walk_at "fz"; (with_reducible assumption)))
theorem with12 {x : NV} (hv : ∃ d, vqat x = some d ∧ d.showable = true ∧ d.depth ≤ 60 ∧ d.shown.length ≤ Sg.MOST) : g__law_with_value_k12 [x] = .ok (.fr (.lst (mad12 x)), []) := by
  apply WFn.eq
  apply e__law_with_value_k12
  walk_at "go"
  exact ⟨rfl, rfl⟩
theorem name12 {x : NV} (hv : ∃ d, vqat x = some d ∧ d.showable = true ∧ d.depth ≤ 60 ∧ d.shown.length ≤ Sg.MOST) : g__law_by_name_k12 [x] = .ok (.fr (.lst (mad12 x)), []) := by
  apply WFn.eq
  apply e__law_by_name_k12
  walk_at "go"
  exact ⟨rfl, rfl⟩
abbrev Z12 (v x : NV) (m a e s : Sl) : Env := [.bo v, .sh x, .ow (.lst bar12), m, a, e, s]
def one12 (i : Nat) : Prop := ∀ (v x : NV) (s : Jk), ∃ s' : Jk, vSeq (p__law_right_k12_5) (p__law_right_k12_7) (Z12 v x (.sh (.lst (mad12 x))) (.sh (.int i)) (.sh ((mad12 x ++ bar12).getD i .non)) s.1) = .ok (.nx, Z12 v x (.sh (.lst (mad12 x))) (.sh (.int i)) (.sh ((mad12 x ++ bar12).getD i .non)) s'.1)
theorem o12_0 : one12 0 := fun v x ⟨s, hs⟩ => ⟨⟨s, hs⟩, by cases s <;> first | cases hs; done | kernel_rfl⟩
theorem o12_1 : one12 1 := fun v x ⟨s, hs⟩ => ⟨⟨s, hs⟩, by cases s <;> first | cases hs; done | kernel_rfl⟩
theorem o12_2 : one12 2 := fun v x ⟨s, hs⟩ => ⟨⟨s, hs⟩, by cases s <;> first | cases hs; done | kernel_rfl⟩
theorem o12_3 : one12 3 := fun v x ⟨s, hs⟩ => ⟨⟨s, hs⟩, by cases s <;> first | cases hs; done | kernel_rfl⟩
theorem o12_4 : one12 4 := fun v x ⟨s, hs⟩ => ⟨⟨s, hs⟩, by cases s <;> first | cases hs; done | kernel_rfl⟩
theorem o12_5 : one12 5 := fun v x ⟨s, hs⟩ => ⟨⟨s, hs⟩, by cases s <;> first | cases hs; done | kernel_rfl⟩
theorem o12_6 : one12 6 := fun v x ⟨s, hs⟩ => ⟨⟨s, hs⟩, by cases s <;> first | cases hs; done | kernel_rfl⟩
theorem o12_7 : one12 7 := fun v x ⟨s, hs⟩ => ⟨⟨s, hs⟩, by cases s <;> first | cases hs; done | kernel_rfl⟩
theorem o12_8 : one12 8 := fun v x ⟨s, hs⟩ => ⟨⟨s, hs⟩, by cases s <;> first | cases hs; done | kernel_rfl⟩
theorem o12_9 : one12 9 := fun v x ⟨s, hs⟩ => ⟨⟨s, hs⟩, by cases s <;> first | cases hs; done | kernel_rfl⟩
theorem o12_10 : one12 10 := fun v x ⟨s, hs⟩ => ⟨⟨s, hs⟩, by cases s <;> first | cases hs; done | kernel_rfl⟩
theorem o12_11 : one12 11 := fun v x ⟨s, hs⟩ => ⟨⟨s, hs⟩, by cases s <;> first | cases hs; done | kernel_rfl⟩
theorem o12_12 : one12 12 := fun v x ⟨s, hs⟩ => ⟨⟨s, hs⟩, by cases s <;> first | cases hs; done | kernel_rfl⟩
theorem o12_13 : one12 13 := fun v x ⟨s, hs⟩ => ⟨⟨s, hs⟩, by cases s <;> first | cases hs; done | kernel_rfl⟩
theorem o12_14 : one12 14 := fun v x ⟨s, hs⟩ => ⟨⟨s, hs⟩, by cases s <;> first | cases hs; done | kernel_rfl⟩
theorem o12_15 : one12 15 := fun v x ⟨s, hs⟩ => ⟨⟨s, hs⟩, by cases s <;> first | cases hs; done | kernel_rfl⟩
theorem o12_16 : one12 16 := fun v x ⟨s, hs⟩ => ⟨⟨s, hs⟩, by cases s <;> first | cases hs; done | kernel_rfl⟩
theorem o12_17 : one12 17 := fun v x ⟨s, hs⟩ => ⟨⟨s, hs⟩, by cases s <;> first | cases hs; done | kernel_rfl⟩
theorem o12_18 : one12 18 := fun v x ⟨s, hs⟩ => ⟨⟨s, hs⟩, by cases s <;> first | cases hs; done | kernel_rfl⟩
theorem o12_19 : one12 19 := fun v x ⟨s, hs⟩ => ⟨⟨s, hs⟩, by cases s <;> first | cases hs; done | kernel_rfl⟩
theorem one12_ok : ∀ i, i < 20 → one12 i
  | 0, _ => o12_0
  | 1, _ => o12_1
  | 2, _ => o12_2
  | 3, _ => o12_3
  | 4, _ => o12_4
  | 5, _ => o12_5
  | 6, _ => o12_6
  | 7, _ => o12_7
  | 8, _ => o12_8
  | 9, _ => o12_9
  | 10, _ => o12_10
  | 11, _ => o12_11
  | 12, _ => o12_12
  | 13, _ => o12_13
  | 14, _ => o12_14
  | 15, _ => o12_15
  | 16, _ => o12_16
  | 17, _ => o12_17
  | 18, _ => o12_18
  | 19, _ => o12_19
  | n + 20, h => absurd h (by omega)
def its12 (x : NV) : List NV := (List.range 20).map fun i => .tup [.int (i : Nat), (mad12 x ++ bar12).getD i .non]
theorem its12_mem {x y : NV} (h : y ∈ its12 x) : ∃ i, i < 20 ∧ y = .tup [.int (i : Nat), (mad12 x ++ bar12).getD i .non] := by
  obtain ⟨i, hi, rfl⟩ := List.mem_map.mp h
  exact ⟨i, List.mem_range.mp hi, rfl⟩
theorem enum12 (v x : NV) (a e s : Sl) : viEnum (vBin voAdd (vVar 3) (vVar 2)) (Z12 v x (.sh (.lst (mad12 x))) a e s) = .ok (its12 x, Z12 v x (.sh (.lst (mad12 x))) a e s) := by rfl
theorem vals12 (v x : NV) (a s : Sl) (e : Jk) : vLc (viSeq (vVar 3)) (.nm 5) (vYes) (vXval ["InvalidRow", "InvalidStack", "InvalidConstants", "InvalidGoal", "InvalidProgram", "InvalidInstruction", "InvalidReach", "InvalidHeight", "InvalidCode", "InvalidLive", "InvalidExits", "InvalidLayout", "InvalidCount", "InvalidText", "InvalidLine", "TooLow", "OutOfReach", "NotDistinct", "NothingToUndo", "NoBench"] (vVar 5)) [5] (Z12 v x (.sh (.lst (mad12 x))) a e.1 s) = .ok (.fr (.lst (List.replicate 17 x)), Z12 v x (.sh (.lst (mad12 x))) a e.1 s) := by
  obtain ⟨e, he⟩ := e
  cases e <;> first | cases he; done | kernel_rfl
theorem right12 {v0 : NV} (h : Src 0 v0) : ∃ v', g__law_right_k12 [v0] = .ok (.im (.bl true), [v']) := by
  suffices q : WFn g__law_right_k12 [v0] fun a o => ∃ v', a = .im (.bl true) ∧ o = [v'] by
    obtain ⟨a, o, e, v', rfl, rfl⟩ := q
    exact ⟨v', e⟩
  apply e__law_right_k12
  obtain ⟨x, v, e1, ax, _⟩ := any26_ok h (by omega)
  have hv := ax.shown (by omega) (by omega)
  have hw := with12 hv
  have hn := name12 hv
  walk_at "st"
  have bare : vLst (vCons (vNew0 "NotDistinct") (vCons (vNew0 "NothingToUndo") (vCons (vNew0 "NoBench") (vNil)))) [.bo v, .sh x, .un, .un, .un, .un, .un] = .ok (.fr (.lst bar12), [.bo v, .sh x, .un, .un, .un, .un, .un]) := rfl
  walk_at "st"
  have rl : Av 29 (17 * 101) (.lst (List.replicate 17 x)) := ⟨by simp only [av]; exact avs_iff.mpr fun y hy => by rw [List.eq_of_mem_replicate hy]; exact ax.1, by
    simp only [wq, List.replicate, wqs]
    have := ax.2
    omega⟩
  obtain ⟨S, rS⟩ := rl.repr (by omega) (by omega)
  have nS := voNe_str S
  have hm : voMul (.lst [x]) (.int 17) = some (.fr (.lst (List.replicate 17 x))) := rfl
  apply WS_forsq (xs := [.lst (mad12 x), .lst (mad12 x)]) (fun ys en => (∀ y ∈ ys, y = .lst (mad12 x)) ∧ ∃ m a e s : Jk, en = Z12 v x m.1 a.1 e.1 s.1)
  · walk_at "ev"
  · exact ⟨by simp, ⟨.un, rfl⟩, ⟨.un, rfl⟩, ⟨.un, rfl⟩, ⟨.un, rfl⟩, rfl⟩
  · rintro y ys en ⟨hy, m, a, e, s, rfl⟩
    obtain rfl := hy y (List.mem_cons_self ..)
    refine ⟨_, by walk_at "pt", ?_⟩
    apply WS_forsq (xs := its12 x) (fun ys en => (∀ y ∈ ys, y ∈ its12 x) ∧ ∃ a e s : Jk, en = Z12 v x (.sh (.lst (mad12 x))) a.1 e.1 s.1) (enum12 _ _ _ _ _)
    · exact ⟨fun _ q => q, a, e, s, rfl⟩
    · rintro y zs en ⟨hz, a, e, s, rfl⟩
      obtain ⟨i, hi, rfl⟩ := its12_mem (hz y (List.mem_cons_self ..))
      refine ⟨_, by walk_at "pt", ?_⟩
      obtain ⟨s', es⟩ := one12_ok i hi v x s
      exact ⟨.nx, _, es, fun y h => hz y (List.mem_cons_of_mem _ h), ⟨_, rfl⟩, ⟨_, rfl⟩, s', rfl⟩
    · rintro en ⟨_, a, e, s, rfl⟩
      have hl := vals12 v x a.1 s.1 e
      walk_at "go"
      exact ⟨fun y h => hy y (List.mem_cons_of_mem _ h), ⟨_, rfl⟩, a, e, s, rfl⟩
  · rintro en ⟨_, m, a, e, s, rfl⟩
    walk_at "go"
    exact ⟨v, rfl, rfl⟩
theorem k12_plain : ∀ ns : List Int, ns.length ≤ 63 → g_law_k12 [.fro (ns.map .int)] = .ok (.im (.bl true), []) := fun ns hl => by
  apply WFn.eq
  apply e_law_k12
  have c := law_max (right := g__law_right_k12) (ns := ns) (m := 2) (by omega) (by omega) (fun v h => right12 h) hl
  walk_at "go"
  exact ⟨rfl, rfl⟩
end Vp
end
open PySem PySem.W PyProof.Rows
set_option maxRecDepth 100000 in
set_option maxHeartbeats 0 in
theorem PySem.Challenge.cw_stackgoals_k12_exceptions_made_by_hand_holds : PySem.Challenge.rw_stackgoals_k12_exceptions_made_by_hand.Holds := by
  w_on; o_law; k_head; (case hw => w_witness2)
  k_fill
  refine Sg.walkDS (l := PySem.Challenge.rw_stackgoals_k12_exceptions_made_by_hand) (k := 5) (x := "_law_script") (F := Sg.k12.f_law) ?hi rfl rfl (Sg.rm_caller80.mono (by decide)) (fun w h Y => PySem.W.kIn_of Y) ?D (fun ns hl => Vg.law_end Sg.k12.r_law (Vp.k12_plain ns hl))
  case hi => first | k_qdec | decide +kernel
  case D =>
    intro w mg fa h KX G hmg
    refine' Sg.k12.all_k12 KX G hmg (Sg.defIs ?a__law_draw ?l__law_draw ?c__law_draw ?k__law_draw) (Sg.defIs ?a__law_pick ?l__law_pick ?c__law_pick ?k__law_pick) (Sg.defIs ?a__law_any ?l__law_any ?c__law_any ?k__law_any) (Sg.defIs ?a__law_by_name ?l__law_by_name ?c__law_by_name ?k__law_by_name) (Sg.defIs ?a__law_with_value ?l__law_with_value ?c__law_with_value ?k__law_with_value) (Sg.defIs ?a__law_marks ?l__law_marks ?c__law_marks ?k__law_marks) (Sg.defIs ?a__law_right ?l__law_right ?c__law_right ?k__law_right) (Sg.defIs ?a__law_source ?l__law_source ?c__law_source ?k__law_source) (Sg.defIs ?a_law ?l_law ?c_law ?k_law) (Sg.supK ?SgS ?Srd ?Sga ?SvV ?Sex ?Shd ?Sty ?Skn ?Skt) (Sg.defC (q := "InvalidRow.__init__") ?g_InvalidRow ?x_InvalidRow ?xv_InvalidRow ?sa_InvalidRow ?exC_InvalidRow ?tyC_InvalidRow ?kC_InvalidRow ?iC_InvalidRow ?tI_InvalidRow ?l_InvalidRow ?cc_InvalidRow ?k_InvalidRow ?ga_InvalidRow ?gg_InvalidRow ?hd_InvalidRow ?ha_InvalidRow ?hm_InvalidRow ?va_InvalidRow ?up_InvalidRow ?hq_InvalidRow) (Sg.defC (q := "InvalidStack.__init__") ?g_InvalidStack ?x_InvalidStack ?xv_InvalidStack ?sa_InvalidStack ?exC_InvalidStack ?tyC_InvalidStack ?kC_InvalidStack ?iC_InvalidStack ?tI_InvalidStack ?l_InvalidStack ?cc_InvalidStack ?k_InvalidStack ?ga_InvalidStack ?gg_InvalidStack ?hd_InvalidStack ?ha_InvalidStack ?hm_InvalidStack ?va_InvalidStack ?up_InvalidStack ?hq_InvalidStack) (Sg.defC (q := "InvalidConstants.__init__") ?g_InvalidConstants ?x_InvalidConstants ?xv_InvalidConstants ?sa_InvalidConstants ?exC_InvalidConstants ?tyC_InvalidConstants ?kC_InvalidConstants ?iC_InvalidConstants ?tI_InvalidConstants ?l_InvalidConstants ?cc_InvalidConstants ?k_InvalidConstants ?ga_InvalidConstants ?gg_InvalidConstants ?hd_InvalidConstants ?ha_InvalidConstants ?hm_InvalidConstants ?va_InvalidConstants ?up_InvalidConstants ?hq_InvalidConstants) (Sg.defC (q := "InvalidGoal.__init__") ?g_InvalidGoal ?x_InvalidGoal ?xv_InvalidGoal ?sa_InvalidGoal ?exC_InvalidGoal ?tyC_InvalidGoal ?kC_InvalidGoal ?iC_InvalidGoal ?tI_InvalidGoal ?l_InvalidGoal ?cc_InvalidGoal ?k_InvalidGoal ?ga_InvalidGoal ?gg_InvalidGoal ?hd_InvalidGoal ?ha_InvalidGoal ?hm_InvalidGoal ?va_InvalidGoal ?up_InvalidGoal ?hq_InvalidGoal) (Sg.defC (q := "InvalidProgram.__init__") ?g_InvalidProgram ?x_InvalidProgram ?xv_InvalidProgram ?sa_InvalidProgram ?exC_InvalidProgram ?tyC_InvalidProgram ?kC_InvalidProgram ?iC_InvalidProgram ?tI_InvalidProgram ?l_InvalidProgram ?cc_InvalidProgram ?k_InvalidProgram ?ga_InvalidProgram ?gg_InvalidProgram ?hd_InvalidProgram ?ha_InvalidProgram ?hm_InvalidProgram ?va_InvalidProgram ?up_InvalidProgram ?hq_InvalidProgram) (Sg.defC (q := "InvalidInstruction.__init__") ?g_InvalidInstruction ?x_InvalidInstruction ?xv_InvalidInstruction ?sa_InvalidInstruction ?exC_InvalidInstruction ?tyC_InvalidInstruction ?kC_InvalidInstruction ?iC_InvalidInstruction ?tI_InvalidInstruction ?l_InvalidInstruction ?cc_InvalidInstruction ?k_InvalidInstruction ?ga_InvalidInstruction ?gg_InvalidInstruction ?hd_InvalidInstruction ?ha_InvalidInstruction ?hm_InvalidInstruction ?va_InvalidInstruction ?up_InvalidInstruction ?hq_InvalidInstruction) (Sg.defC (q := "InvalidReach.__init__") ?g_InvalidReach ?x_InvalidReach ?xv_InvalidReach ?sa_InvalidReach ?exC_InvalidReach ?tyC_InvalidReach ?kC_InvalidReach ?iC_InvalidReach ?tI_InvalidReach ?l_InvalidReach ?cc_InvalidReach ?k_InvalidReach ?ga_InvalidReach ?gg_InvalidReach ?hd_InvalidReach ?ha_InvalidReach ?hm_InvalidReach ?va_InvalidReach ?up_InvalidReach ?hq_InvalidReach) (Sg.defC (q := "InvalidHeight.__init__") ?g_InvalidHeight ?x_InvalidHeight ?xv_InvalidHeight ?sa_InvalidHeight ?exC_InvalidHeight ?tyC_InvalidHeight ?kC_InvalidHeight ?iC_InvalidHeight ?tI_InvalidHeight ?l_InvalidHeight ?cc_InvalidHeight ?k_InvalidHeight ?ga_InvalidHeight ?gg_InvalidHeight ?hd_InvalidHeight ?ha_InvalidHeight ?hm_InvalidHeight ?va_InvalidHeight ?up_InvalidHeight ?hq_InvalidHeight) (Sg.defC (q := "InvalidCode.__init__") ?g_InvalidCode ?x_InvalidCode ?xv_InvalidCode ?sa_InvalidCode ?exC_InvalidCode ?tyC_InvalidCode ?kC_InvalidCode ?iC_InvalidCode ?tI_InvalidCode ?l_InvalidCode ?cc_InvalidCode ?k_InvalidCode ?ga_InvalidCode ?gg_InvalidCode ?hd_InvalidCode ?ha_InvalidCode ?hm_InvalidCode ?va_InvalidCode ?up_InvalidCode ?hq_InvalidCode) (Sg.defC (q := "InvalidLive.__init__") ?g_InvalidLive ?x_InvalidLive ?xv_InvalidLive ?sa_InvalidLive ?exC_InvalidLive ?tyC_InvalidLive ?kC_InvalidLive ?iC_InvalidLive ?tI_InvalidLive ?l_InvalidLive ?cc_InvalidLive ?k_InvalidLive ?ga_InvalidLive ?gg_InvalidLive ?hd_InvalidLive ?ha_InvalidLive ?hm_InvalidLive ?va_InvalidLive ?up_InvalidLive ?hq_InvalidLive) (Sg.defC (q := "InvalidExits.__init__") ?g_InvalidExits ?x_InvalidExits ?xv_InvalidExits ?sa_InvalidExits ?exC_InvalidExits ?tyC_InvalidExits ?kC_InvalidExits ?iC_InvalidExits ?tI_InvalidExits ?l_InvalidExits ?cc_InvalidExits ?k_InvalidExits ?ga_InvalidExits ?gg_InvalidExits ?hd_InvalidExits ?ha_InvalidExits ?hm_InvalidExits ?va_InvalidExits ?up_InvalidExits ?hq_InvalidExits) (Sg.defC (q := "InvalidLayout.__init__") ?g_InvalidLayout ?x_InvalidLayout ?xv_InvalidLayout ?sa_InvalidLayout ?exC_InvalidLayout ?tyC_InvalidLayout ?kC_InvalidLayout ?iC_InvalidLayout ?tI_InvalidLayout ?l_InvalidLayout ?cc_InvalidLayout ?k_InvalidLayout ?ga_InvalidLayout ?gg_InvalidLayout ?hd_InvalidLayout ?ha_InvalidLayout ?hm_InvalidLayout ?va_InvalidLayout ?up_InvalidLayout ?hq_InvalidLayout) (Sg.defC (q := "InvalidCount.__init__") ?g_InvalidCount ?x_InvalidCount ?xv_InvalidCount ?sa_InvalidCount ?exC_InvalidCount ?tyC_InvalidCount ?kC_InvalidCount ?iC_InvalidCount ?tI_InvalidCount ?l_InvalidCount ?cc_InvalidCount ?k_InvalidCount ?ga_InvalidCount ?gg_InvalidCount ?hd_InvalidCount ?ha_InvalidCount ?hm_InvalidCount ?va_InvalidCount ?up_InvalidCount ?hq_InvalidCount) (Sg.defC (q := "InvalidText.__init__") ?g_InvalidText ?x_InvalidText ?xv_InvalidText ?sa_InvalidText ?exC_InvalidText ?tyC_InvalidText ?kC_InvalidText ?iC_InvalidText ?tI_InvalidText ?l_InvalidText ?cc_InvalidText ?k_InvalidText ?ga_InvalidText ?gg_InvalidText ?hd_InvalidText ?ha_InvalidText ?hm_InvalidText ?va_InvalidText ?up_InvalidText ?hq_InvalidText) (Sg.defC (q := "InvalidLine.__init__") ?g_InvalidLine ?x_InvalidLine ?xv_InvalidLine ?sa_InvalidLine ?exC_InvalidLine ?tyC_InvalidLine ?kC_InvalidLine ?iC_InvalidLine ?tI_InvalidLine ?l_InvalidLine ?cc_InvalidLine ?k_InvalidLine ?ga_InvalidLine ?gg_InvalidLine ?hd_InvalidLine ?ha_InvalidLine ?hm_InvalidLine ?va_InvalidLine ?up_InvalidLine ?hq_InvalidLine) (Sg.defC (q := "TooLow.__init__") ?g_TooLow ?x_TooLow ?xv_TooLow ?sa_TooLow ?exC_TooLow ?tyC_TooLow ?kC_TooLow ?iC_TooLow ?tI_TooLow ?l_TooLow ?cc_TooLow ?k_TooLow ?ga_TooLow ?gg_TooLow ?hd_TooLow ?ha_TooLow ?hm_TooLow ?va_TooLow ?up_TooLow ?hq_TooLow) (Sg.defC (q := "OutOfReach.__init__") ?g_OutOfReach ?x_OutOfReach ?xv_OutOfReach ?sa_OutOfReach ?exC_OutOfReach ?tyC_OutOfReach ?kC_OutOfReach ?iC_OutOfReach ?tI_OutOfReach ?l_OutOfReach ?cc_OutOfReach ?k_OutOfReach ?ga_OutOfReach ?gg_OutOfReach ?hd_OutOfReach ?ha_OutOfReach ?hm_OutOfReach ?va_OutOfReach ?up_OutOfReach ?hq_OutOfReach) (Sg.defB ?g_NotDistinct ?exC_NotDistinct ?tyC_NotDistinct ?ga_NotDistinct ?gg_NotDistinct ?hd_NotDistinct ?ha_NotDistinct ?hm_NotDistinct ?va_NotDistinct ?up_NotDistinct ?q_NotDistinct ?kC_NotDistinct) (Sg.defB ?g_NothingToUndo ?exC_NothingToUndo ?tyC_NothingToUndo ?ga_NothingToUndo ?gg_NothingToUndo ?hd_NothingToUndo ?ha_NothingToUndo ?hm_NothingToUndo ?va_NothingToUndo ?up_NothingToUndo ?q_NothingToUndo ?kC_NothingToUndo) (Sg.defB ?g_NoBench ?exC_NoBench ?tyC_NoBench ?ga_NoBench ?gg_NoBench ?hd_NoBench ?ha_NoBench ?hm_NoBench ?va_NoBench ?up_NoBench ?q_NoBench ?kC_NoBench) ?of_InvalidRow ?of_InvalidStack ?of_InvalidConstants ?of_InvalidGoal ?of_InvalidProgram ?of_InvalidInstruction ?of_InvalidReach ?of_InvalidHeight ?of_InvalidCode ?of_InvalidLive ?of_InvalidExits ?of_InvalidLayout ?of_InvalidCount ?of_InvalidText ?of_InvalidLine ?of_TooLow ?of_OutOfReach ?of_NotDistinct ?of_NothingToUndo ?of_NoBench ?uv_InvalidRow ?uv_InvalidStack ?uv_InvalidConstants ?uv_InvalidGoal ?uv_InvalidProgram ?uv_InvalidInstruction ?uv_InvalidReach ?uv_InvalidHeight ?uv_InvalidCode ?uv_InvalidLive ?uv_InvalidExits ?uv_InvalidLayout ?uv_InvalidCount ?uv_InvalidText ?uv_InvalidLine ?uv_TooLow ?uv_OutOfReach ?uv_NotDistinct ?uv_NothingToUndo ?uv_NoBench ?z_len ?z_range ?z_isinstance ?z_enumerate ?z_ValueError ?z_repr ?z_abs ?z_min ?z_max ?z_all
    (case a__law_draw => k_is); (case l__law_draw => k_is); (case c__law_draw => k_is); (case k__law_draw => k_is)
    (case a__law_pick => k_is); (case l__law_pick => k_is); (case c__law_pick => k_is); (case k__law_pick => k_is)
    (case a__law_any => k_is); (case l__law_any => k_is); (case c__law_any => k_is); (case k__law_any => k_is)
    (case a__law_by_name => k_is); (case l__law_by_name => k_is); (case c__law_by_name => k_is); (case k__law_by_name => k_is)
    (case a__law_with_value => k_is); (case l__law_with_value => k_is); (case c__law_with_value => k_is); (case k__law_with_value => k_is)
    (case a__law_marks => k_is); (case l__law_marks => k_is); (case c__law_marks => k_is); (case k__law_marks => k_is)
    (case a__law_right => k_is); (case l__law_right => k_is); (case c__law_right => k_is); (case k__law_right => k_is)
    (case a__law_source => k_is); (case l__law_source => k_is); (case c__law_source => k_is); (case k__law_source => k_is)
    (case a_law => k_is); (case l_law => k_is); (case c_law => k_is); (case k_law => k_is)
    (case SgS => k_is)
    (case Srd => k_is)
    (case Sga => k_is)
    (case SvV => k_is)
    (case Sex => k_is)
    (case Shd => k_is)
    (case Sty => k_is)
    (case Skn => k_is)
    (case Skt => k_is)
    (case g_InvalidRow => k_is)
    (case x_InvalidRow => k_is)
    (case xv_InvalidRow => rfl)
    (case sa_InvalidRow => k_is)
    (case exC_InvalidRow => k_is)
    (case tyC_InvalidRow => k_is)
    (case kC_InvalidRow => k_is)
    (case iC_InvalidRow => k_is)
    (case tI_InvalidRow => k_is)
    (case l_InvalidRow => k_is)
    (case cc_InvalidRow => k_is)
    (case k_InvalidRow => k_is)
    (case ga_InvalidRow => k_is)
    (case gg_InvalidRow => k_is)
    (case hd_InvalidRow => k_is)
    (case ha_InvalidRow => k_is)
    (case hm_InvalidRow => k_is)
    (case va_InvalidRow => k_is)
    (case up_InvalidRow => k_is)
    (case hq_InvalidRow => rfl)
    (case g_InvalidStack => k_is)
    (case x_InvalidStack => k_is)
    (case xv_InvalidStack => rfl)
    (case sa_InvalidStack => k_is)
    (case exC_InvalidStack => k_is)
    (case tyC_InvalidStack => k_is)
    (case kC_InvalidStack => k_is)
    (case iC_InvalidStack => k_is)
    (case tI_InvalidStack => k_is)
    (case l_InvalidStack => k_is)
    (case cc_InvalidStack => k_is)
    (case k_InvalidStack => k_is)
    (case ga_InvalidStack => k_is)
    (case gg_InvalidStack => k_is)
    (case hd_InvalidStack => k_is)
    (case ha_InvalidStack => k_is)
    (case hm_InvalidStack => k_is)
    (case va_InvalidStack => k_is)
    (case up_InvalidStack => k_is)
    (case hq_InvalidStack => rfl)
    (case g_InvalidConstants => k_is)
    (case x_InvalidConstants => k_is)
    (case xv_InvalidConstants => rfl)
    (case sa_InvalidConstants => k_is)
    (case exC_InvalidConstants => k_is)
    (case tyC_InvalidConstants => k_is)
    (case kC_InvalidConstants => k_is)
    (case iC_InvalidConstants => k_is)
    (case tI_InvalidConstants => k_is)
    (case l_InvalidConstants => k_is)
    (case cc_InvalidConstants => k_is)
    (case k_InvalidConstants => k_is)
    (case ga_InvalidConstants => k_is)
    (case gg_InvalidConstants => k_is)
    (case hd_InvalidConstants => k_is)
    (case ha_InvalidConstants => k_is)
    (case hm_InvalidConstants => k_is)
    (case va_InvalidConstants => k_is)
    (case up_InvalidConstants => k_is)
    (case hq_InvalidConstants => rfl)
    (case g_InvalidGoal => k_is)
    (case x_InvalidGoal => k_is)
    (case xv_InvalidGoal => rfl)
    (case sa_InvalidGoal => k_is)
    (case exC_InvalidGoal => k_is)
    (case tyC_InvalidGoal => k_is)
    (case kC_InvalidGoal => k_is)
    (case iC_InvalidGoal => k_is)
    (case tI_InvalidGoal => k_is)
    (case l_InvalidGoal => k_is)
    (case cc_InvalidGoal => k_is)
    (case k_InvalidGoal => k_is)
    (case ga_InvalidGoal => k_is)
    (case gg_InvalidGoal => k_is)
    (case hd_InvalidGoal => k_is)
    (case ha_InvalidGoal => k_is)
    (case hm_InvalidGoal => k_is)
    (case va_InvalidGoal => k_is)
    (case up_InvalidGoal => k_is)
    (case hq_InvalidGoal => rfl)
    (case g_InvalidProgram => k_is)
    (case x_InvalidProgram => k_is)
    (case xv_InvalidProgram => rfl)
    (case sa_InvalidProgram => k_is)
    (case exC_InvalidProgram => k_is)
    (case tyC_InvalidProgram => k_is)
    (case kC_InvalidProgram => k_is)
    (case iC_InvalidProgram => k_is)
    (case tI_InvalidProgram => k_is)
    (case l_InvalidProgram => k_is)
    (case cc_InvalidProgram => k_is)
    (case k_InvalidProgram => k_is)
    (case ga_InvalidProgram => k_is)
    (case gg_InvalidProgram => k_is)
    (case hd_InvalidProgram => k_is)
    (case ha_InvalidProgram => k_is)
    (case hm_InvalidProgram => k_is)
    (case va_InvalidProgram => k_is)
    (case up_InvalidProgram => k_is)
    (case hq_InvalidProgram => rfl)
    (case g_InvalidInstruction => k_is)
    (case x_InvalidInstruction => k_is)
    (case xv_InvalidInstruction => rfl)
    (case sa_InvalidInstruction => k_is)
    (case exC_InvalidInstruction => k_is)
    (case tyC_InvalidInstruction => k_is)
    (case kC_InvalidInstruction => k_is)
    (case iC_InvalidInstruction => k_is)
    (case tI_InvalidInstruction => k_is)
    (case l_InvalidInstruction => k_is)
    (case cc_InvalidInstruction => k_is)
    (case k_InvalidInstruction => k_is)
    (case ga_InvalidInstruction => k_is)
    (case gg_InvalidInstruction => k_is)
    (case hd_InvalidInstruction => k_is)
    (case ha_InvalidInstruction => k_is)
    (case hm_InvalidInstruction => k_is)
    (case va_InvalidInstruction => k_is)
    (case up_InvalidInstruction => k_is)
    (case hq_InvalidInstruction => rfl)
    (case g_InvalidReach => k_is)
    (case x_InvalidReach => k_is)
    (case xv_InvalidReach => rfl)
    (case sa_InvalidReach => k_is)
    (case exC_InvalidReach => k_is)
    (case tyC_InvalidReach => k_is)
    (case kC_InvalidReach => k_is)
    (case iC_InvalidReach => k_is)
    (case tI_InvalidReach => k_is)
    (case l_InvalidReach => k_is)
    (case cc_InvalidReach => k_is)
    (case k_InvalidReach => k_is)
    (case ga_InvalidReach => k_is)
    (case gg_InvalidReach => k_is)
    (case hd_InvalidReach => k_is)
    (case ha_InvalidReach => k_is)
    (case hm_InvalidReach => k_is)
    (case va_InvalidReach => k_is)
    (case up_InvalidReach => k_is)
    (case hq_InvalidReach => rfl)
    (case g_InvalidHeight => k_is)
    (case x_InvalidHeight => k_is)
    (case xv_InvalidHeight => rfl)
    (case sa_InvalidHeight => k_is)
    (case exC_InvalidHeight => k_is)
    (case tyC_InvalidHeight => k_is)
    (case kC_InvalidHeight => k_is)
    (case iC_InvalidHeight => k_is)
    (case tI_InvalidHeight => k_is)
    (case l_InvalidHeight => k_is)
    (case cc_InvalidHeight => k_is)
    (case k_InvalidHeight => k_is)
    (case ga_InvalidHeight => k_is)
    (case gg_InvalidHeight => k_is)
    (case hd_InvalidHeight => k_is)
    (case ha_InvalidHeight => k_is)
    (case hm_InvalidHeight => k_is)
    (case va_InvalidHeight => k_is)
    (case up_InvalidHeight => k_is)
    (case hq_InvalidHeight => rfl)
    (case g_InvalidCode => k_is)
    (case x_InvalidCode => k_is)
    (case xv_InvalidCode => rfl)
    (case sa_InvalidCode => k_is)
    (case exC_InvalidCode => k_is)
    (case tyC_InvalidCode => k_is)
    (case kC_InvalidCode => k_is)
    (case iC_InvalidCode => k_is)
    (case tI_InvalidCode => k_is)
    (case l_InvalidCode => k_is)
    (case cc_InvalidCode => k_is)
    (case k_InvalidCode => k_is)
    (case ga_InvalidCode => k_is)
    (case gg_InvalidCode => k_is)
    (case hd_InvalidCode => k_is)
    (case ha_InvalidCode => k_is)
    (case hm_InvalidCode => k_is)
    (case va_InvalidCode => k_is)
    (case up_InvalidCode => k_is)
    (case hq_InvalidCode => rfl)
    (case g_InvalidLive => k_is)
    (case x_InvalidLive => k_is)
    (case xv_InvalidLive => rfl)
    (case sa_InvalidLive => k_is)
    (case exC_InvalidLive => k_is)
    (case tyC_InvalidLive => k_is)
    (case kC_InvalidLive => k_is)
    (case iC_InvalidLive => k_is)
    (case tI_InvalidLive => k_is)
    (case l_InvalidLive => k_is)
    (case cc_InvalidLive => k_is)
    (case k_InvalidLive => k_is)
    (case ga_InvalidLive => k_is)
    (case gg_InvalidLive => k_is)
    (case hd_InvalidLive => k_is)
    (case ha_InvalidLive => k_is)
    (case hm_InvalidLive => k_is)
    (case va_InvalidLive => k_is)
    (case up_InvalidLive => k_is)
    (case hq_InvalidLive => rfl)
    (case g_InvalidExits => k_is)
    (case x_InvalidExits => k_is)
    (case xv_InvalidExits => rfl)
    (case sa_InvalidExits => k_is)
    (case exC_InvalidExits => k_is)
    (case tyC_InvalidExits => k_is)
    (case kC_InvalidExits => k_is)
    (case iC_InvalidExits => k_is)
    (case tI_InvalidExits => k_is)
    (case l_InvalidExits => k_is)
    (case cc_InvalidExits => k_is)
    (case k_InvalidExits => k_is)
    (case ga_InvalidExits => k_is)
    (case gg_InvalidExits => k_is)
    (case hd_InvalidExits => k_is)
    (case ha_InvalidExits => k_is)
    (case hm_InvalidExits => k_is)
    (case va_InvalidExits => k_is)
    (case up_InvalidExits => k_is)
    (case hq_InvalidExits => rfl)
    (case g_InvalidLayout => k_is)
    (case x_InvalidLayout => k_is)
    (case xv_InvalidLayout => rfl)
    (case sa_InvalidLayout => k_is)
    (case exC_InvalidLayout => k_is)
    (case tyC_InvalidLayout => k_is)
    (case kC_InvalidLayout => k_is)
    (case iC_InvalidLayout => k_is)
    (case tI_InvalidLayout => k_is)
    (case l_InvalidLayout => k_is)
    (case cc_InvalidLayout => k_is)
    (case k_InvalidLayout => k_is)
    (case ga_InvalidLayout => k_is)
    (case gg_InvalidLayout => k_is)
    (case hd_InvalidLayout => k_is)
    (case ha_InvalidLayout => k_is)
    (case hm_InvalidLayout => k_is)
    (case va_InvalidLayout => k_is)
    (case up_InvalidLayout => k_is)
    (case hq_InvalidLayout => rfl)
    (case g_InvalidCount => k_is)
    (case x_InvalidCount => k_is)
    (case xv_InvalidCount => rfl)
    (case sa_InvalidCount => k_is)
    (case exC_InvalidCount => k_is)
    (case tyC_InvalidCount => k_is)
    (case kC_InvalidCount => k_is)
    (case iC_InvalidCount => k_is)
    (case tI_InvalidCount => k_is)
    (case l_InvalidCount => k_is)
    (case cc_InvalidCount => k_is)
    (case k_InvalidCount => k_is)
    (case ga_InvalidCount => k_is)
    (case gg_InvalidCount => k_is)
    (case hd_InvalidCount => k_is)
    (case ha_InvalidCount => k_is)
    (case hm_InvalidCount => k_is)
    (case va_InvalidCount => k_is)
    (case up_InvalidCount => k_is)
    (case hq_InvalidCount => rfl)
    (case g_InvalidText => k_is)
    (case x_InvalidText => k_is)
    (case xv_InvalidText => rfl)
    (case sa_InvalidText => k_is)
    (case exC_InvalidText => k_is)
    (case tyC_InvalidText => k_is)
    (case kC_InvalidText => k_is)
    (case iC_InvalidText => k_is)
    (case tI_InvalidText => k_is)
    (case l_InvalidText => k_is)
    (case cc_InvalidText => k_is)
    (case k_InvalidText => k_is)
    (case ga_InvalidText => k_is)
    (case gg_InvalidText => k_is)
    (case hd_InvalidText => k_is)
    (case ha_InvalidText => k_is)
    (case hm_InvalidText => k_is)
    (case va_InvalidText => k_is)
    (case up_InvalidText => k_is)
    (case hq_InvalidText => rfl)
    (case g_InvalidLine => k_is)
    (case x_InvalidLine => k_is)
    (case xv_InvalidLine => rfl)
    (case sa_InvalidLine => k_is)
    (case exC_InvalidLine => k_is)
    (case tyC_InvalidLine => k_is)
    (case kC_InvalidLine => k_is)
    (case iC_InvalidLine => k_is)
    (case tI_InvalidLine => k_is)
    (case l_InvalidLine => k_is)
    (case cc_InvalidLine => k_is)
    (case k_InvalidLine => k_is)
    (case ga_InvalidLine => k_is)
    (case gg_InvalidLine => k_is)
    (case hd_InvalidLine => k_is)
    (case ha_InvalidLine => k_is)
    (case hm_InvalidLine => k_is)
    (case va_InvalidLine => k_is)
    (case up_InvalidLine => k_is)
    (case hq_InvalidLine => rfl)
    (case g_TooLow => k_is)
    (case x_TooLow => k_is)
    (case xv_TooLow => rfl)
    (case sa_TooLow => k_is)
    (case exC_TooLow => k_is)
    (case tyC_TooLow => k_is)
    (case kC_TooLow => k_is)
    (case iC_TooLow => k_is)
    (case tI_TooLow => k_is)
    (case l_TooLow => k_is)
    (case cc_TooLow => k_is)
    (case k_TooLow => k_is)
    (case ga_TooLow => k_is)
    (case gg_TooLow => k_is)
    (case hd_TooLow => k_is)
    (case ha_TooLow => k_is)
    (case hm_TooLow => k_is)
    (case va_TooLow => k_is)
    (case up_TooLow => k_is)
    (case hq_TooLow => rfl)
    (case g_OutOfReach => k_is)
    (case x_OutOfReach => k_is)
    (case xv_OutOfReach => rfl)
    (case sa_OutOfReach => k_is)
    (case exC_OutOfReach => k_is)
    (case tyC_OutOfReach => k_is)
    (case kC_OutOfReach => k_is)
    (case iC_OutOfReach => k_is)
    (case tI_OutOfReach => k_is)
    (case l_OutOfReach => k_is)
    (case cc_OutOfReach => k_is)
    (case k_OutOfReach => k_is)
    (case ga_OutOfReach => k_is)
    (case gg_OutOfReach => k_is)
    (case hd_OutOfReach => k_is)
    (case ha_OutOfReach => k_is)
    (case hm_OutOfReach => k_is)
    (case va_OutOfReach => k_is)
    (case up_OutOfReach => k_is)
    (case hq_OutOfReach => rfl)
    (case g_NotDistinct => k_is)
    (case exC_NotDistinct => k_is)
    (case tyC_NotDistinct => k_is)
    (case ga_NotDistinct => k_is)
    (case gg_NotDistinct => k_is)
    (case hd_NotDistinct => k_is)
    (case ha_NotDistinct => k_is)
    (case hm_NotDistinct => k_is)
    (case va_NotDistinct => k_is)
    (case up_NotDistinct => k_is)
    (case q_NotDistinct => k_exc)
    (case kC_NotDistinct => k_is)
    (case g_NothingToUndo => k_is)
    (case exC_NothingToUndo => k_is)
    (case tyC_NothingToUndo => k_is)
    (case ga_NothingToUndo => k_is)
    (case gg_NothingToUndo => k_is)
    (case hd_NothingToUndo => k_is)
    (case ha_NothingToUndo => k_is)
    (case hm_NothingToUndo => k_is)
    (case va_NothingToUndo => k_is)
    (case up_NothingToUndo => k_is)
    (case q_NothingToUndo => k_exc)
    (case kC_NothingToUndo => k_is)
    (case g_NoBench => k_is)
    (case exC_NoBench => k_is)
    (case tyC_NoBench => k_is)
    (case ga_NoBench => k_is)
    (case gg_NoBench => k_is)
    (case hd_NoBench => k_is)
    (case ha_NoBench => k_is)
    (case hm_NoBench => k_is)
    (case va_NoBench => k_is)
    (case up_NoBench => k_is)
    (case q_NoBench => k_exc)
    (case kC_NoBench => k_is)
    (case of_InvalidRow => exact ⟨by decide, by decide, by k_is, by k_is, by decide, by decide, by k_is, by k_is, by decide, by decide, by k_is, by k_is, by decide, by decide, by k_is, by k_is, by decide, by decide, by k_is, by k_is, by decide, by decide, by k_is, by k_is, by decide, by decide, by k_is, by k_is, by decide, by decide, by k_is, by k_is, by decide, by decide, by k_is, by k_is, by decide, by decide, by k_is, by k_is, by decide, by decide, by k_is, by k_is, by decide, by decide, by k_is, by k_is, by decide, by decide, by k_is, by k_is, by decide, by decide, by k_is, by k_is, by decide, by decide, by k_is, by k_is, by decide, by decide, by k_is, by k_is, by decide, by decide, by k_is, by k_is, by decide, by decide, by k_is, by k_is, by decide, by decide, by k_is, by k_is, trivial⟩)
    (case of_InvalidStack => exact ⟨by decide, by decide, by k_is, by k_is, by decide, by decide, by k_is, by k_is, by decide, by decide, by k_is, by k_is, by decide, by decide, by k_is, by k_is, by decide, by decide, by k_is, by k_is, by decide, by decide, by k_is, by k_is, by decide, by decide, by k_is, by k_is, by decide, by decide, by k_is, by k_is, by decide, by decide, by k_is, by k_is, by decide, by decide, by k_is, by k_is, by decide, by decide, by k_is, by k_is, by decide, by decide, by k_is, by k_is, by decide, by decide, by k_is, by k_is, by decide, by decide, by k_is, by k_is, by decide, by decide, by k_is, by k_is, by decide, by decide, by k_is, by k_is, by decide, by decide, by k_is, by k_is, by decide, by decide, by k_is, by k_is, trivial⟩)
    (case of_InvalidConstants => exact ⟨by decide, by decide, by k_is, by k_is, by decide, by decide, by k_is, by k_is, by decide, by decide, by k_is, by k_is, by decide, by decide, by k_is, by k_is, by decide, by decide, by k_is, by k_is, by decide, by decide, by k_is, by k_is, by decide, by decide, by k_is, by k_is, by decide, by decide, by k_is, by k_is, by decide, by decide, by k_is, by k_is, by decide, by decide, by k_is, by k_is, by decide, by decide, by k_is, by k_is, by decide, by decide, by k_is, by k_is, by decide, by decide, by k_is, by k_is, by decide, by decide, by k_is, by k_is, by decide, by decide, by k_is, by k_is, by decide, by decide, by k_is, by k_is, by decide, by decide, by k_is, by k_is, trivial⟩)
    (case of_InvalidGoal => exact ⟨by decide, by decide, by k_is, by k_is, by decide, by decide, by k_is, by k_is, by decide, by decide, by k_is, by k_is, by decide, by decide, by k_is, by k_is, by decide, by decide, by k_is, by k_is, by decide, by decide, by k_is, by k_is, by decide, by decide, by k_is, by k_is, by decide, by decide, by k_is, by k_is, by decide, by decide, by k_is, by k_is, by decide, by decide, by k_is, by k_is, by decide, by decide, by k_is, by k_is, by decide, by decide, by k_is, by k_is, by decide, by decide, by k_is, by k_is, by decide, by decide, by k_is, by k_is, by decide, by decide, by k_is, by k_is, by decide, by decide, by k_is, by k_is, trivial⟩)
    (case of_InvalidProgram => exact ⟨by decide, by decide, by k_is, by k_is, by decide, by decide, by k_is, by k_is, by decide, by decide, by k_is, by k_is, by decide, by decide, by k_is, by k_is, by decide, by decide, by k_is, by k_is, by decide, by decide, by k_is, by k_is, by decide, by decide, by k_is, by k_is, by decide, by decide, by k_is, by k_is, by decide, by decide, by k_is, by k_is, by decide, by decide, by k_is, by k_is, by decide, by decide, by k_is, by k_is, by decide, by decide, by k_is, by k_is, by decide, by decide, by k_is, by k_is, by decide, by decide, by k_is, by k_is, by decide, by decide, by k_is, by k_is, trivial⟩)
    (case of_InvalidInstruction => exact ⟨by decide, by decide, by k_is, by k_is, by decide, by decide, by k_is, by k_is, by decide, by decide, by k_is, by k_is, by decide, by decide, by k_is, by k_is, by decide, by decide, by k_is, by k_is, by decide, by decide, by k_is, by k_is, by decide, by decide, by k_is, by k_is, by decide, by decide, by k_is, by k_is, by decide, by decide, by k_is, by k_is, by decide, by decide, by k_is, by k_is, by decide, by decide, by k_is, by k_is, by decide, by decide, by k_is, by k_is, by decide, by decide, by k_is, by k_is, by decide, by decide, by k_is, by k_is, trivial⟩)
    (case of_InvalidReach => exact ⟨by decide, by decide, by k_is, by k_is, by decide, by decide, by k_is, by k_is, by decide, by decide, by k_is, by k_is, by decide, by decide, by k_is, by k_is, by decide, by decide, by k_is, by k_is, by decide, by decide, by k_is, by k_is, by decide, by decide, by k_is, by k_is, by decide, by decide, by k_is, by k_is, by decide, by decide, by k_is, by k_is, by decide, by decide, by k_is, by k_is, by decide, by decide, by k_is, by k_is, by decide, by decide, by k_is, by k_is, by decide, by decide, by k_is, by k_is, trivial⟩)
    (case of_InvalidHeight => exact ⟨by decide, by decide, by k_is, by k_is, by decide, by decide, by k_is, by k_is, by decide, by decide, by k_is, by k_is, by decide, by decide, by k_is, by k_is, by decide, by decide, by k_is, by k_is, by decide, by decide, by k_is, by k_is, by decide, by decide, by k_is, by k_is, by decide, by decide, by k_is, by k_is, by decide, by decide, by k_is, by k_is, by decide, by decide, by k_is, by k_is, by decide, by decide, by k_is, by k_is, by decide, by decide, by k_is, by k_is, trivial⟩)
    (case of_InvalidCode => exact ⟨by decide, by decide, by k_is, by k_is, by decide, by decide, by k_is, by k_is, by decide, by decide, by k_is, by k_is, by decide, by decide, by k_is, by k_is, by decide, by decide, by k_is, by k_is, by decide, by decide, by k_is, by k_is, by decide, by decide, by k_is, by k_is, by decide, by decide, by k_is, by k_is, by decide, by decide, by k_is, by k_is, by decide, by decide, by k_is, by k_is, by decide, by decide, by k_is, by k_is, trivial⟩)
    (case of_InvalidLive => exact ⟨by decide, by decide, by k_is, by k_is, by decide, by decide, by k_is, by k_is, by decide, by decide, by k_is, by k_is, by decide, by decide, by k_is, by k_is, by decide, by decide, by k_is, by k_is, by decide, by decide, by k_is, by k_is, by decide, by decide, by k_is, by k_is, by decide, by decide, by k_is, by k_is, by decide, by decide, by k_is, by k_is, by decide, by decide, by k_is, by k_is, trivial⟩)
    (case of_InvalidExits => exact ⟨by decide, by decide, by k_is, by k_is, by decide, by decide, by k_is, by k_is, by decide, by decide, by k_is, by k_is, by decide, by decide, by k_is, by k_is, by decide, by decide, by k_is, by k_is, by decide, by decide, by k_is, by k_is, by decide, by decide, by k_is, by k_is, by decide, by decide, by k_is, by k_is, by decide, by decide, by k_is, by k_is, trivial⟩)
    (case of_InvalidLayout => exact ⟨by decide, by decide, by k_is, by k_is, by decide, by decide, by k_is, by k_is, by decide, by decide, by k_is, by k_is, by decide, by decide, by k_is, by k_is, by decide, by decide, by k_is, by k_is, by decide, by decide, by k_is, by k_is, by decide, by decide, by k_is, by k_is, by decide, by decide, by k_is, by k_is, trivial⟩)
    (case of_InvalidCount => exact ⟨by decide, by decide, by k_is, by k_is, by decide, by decide, by k_is, by k_is, by decide, by decide, by k_is, by k_is, by decide, by decide, by k_is, by k_is, by decide, by decide, by k_is, by k_is, by decide, by decide, by k_is, by k_is, by decide, by decide, by k_is, by k_is, trivial⟩)
    (case of_InvalidText => exact ⟨by decide, by decide, by k_is, by k_is, by decide, by decide, by k_is, by k_is, by decide, by decide, by k_is, by k_is, by decide, by decide, by k_is, by k_is, by decide, by decide, by k_is, by k_is, by decide, by decide, by k_is, by k_is, trivial⟩)
    (case of_InvalidLine => exact ⟨by decide, by decide, by k_is, by k_is, by decide, by decide, by k_is, by k_is, by decide, by decide, by k_is, by k_is, by decide, by decide, by k_is, by k_is, by decide, by decide, by k_is, by k_is, trivial⟩)
    (case of_TooLow => exact ⟨by decide, by decide, by k_is, by k_is, by decide, by decide, by k_is, by k_is, by decide, by decide, by k_is, by k_is, by decide, by decide, by k_is, by k_is, trivial⟩)
    (case of_OutOfReach => exact ⟨by decide, by decide, by k_is, by k_is, by decide, by decide, by k_is, by k_is, by decide, by decide, by k_is, by k_is, trivial⟩)
    (case of_NotDistinct => exact ⟨by decide, by decide, by k_is, by k_is, by decide, by decide, by k_is, by k_is, trivial⟩)
    (case of_NothingToUndo => exact ⟨by decide, by decide, by k_is, by k_is, trivial⟩)
    (case of_NoBench => exact trivial)
    (case uv_InvalidRow => k_is)
    (case uv_InvalidStack => k_is)
    (case uv_InvalidConstants => k_is)
    (case uv_InvalidGoal => k_is)
    (case uv_InvalidProgram => k_is)
    (case uv_InvalidInstruction => k_is)
    (case uv_InvalidReach => k_is)
    (case uv_InvalidHeight => k_is)
    (case uv_InvalidCode => k_is)
    (case uv_InvalidLive => k_is)
    (case uv_InvalidExits => k_is)
    (case uv_InvalidLayout => k_is)
    (case uv_InvalidCount => k_is)
    (case uv_InvalidText => k_is)
    (case uv_InvalidLine => k_is)
    (case uv_TooLow => k_is)
    (case uv_OutOfReach => k_is)
    (case uv_NotDistinct => k_is)
    (case uv_NothingToUndo => k_is)
    (case uv_NoBench => k_is)
    (case z_len => k_is)
    (case z_range => k_is)
    (case z_isinstance => k_is)
    (case z_enumerate => k_is)
    (case z_ValueError => k_is)
    (case z_repr => k_is)
    (case z_abs => k_is)
    (case z_min => k_is)
    (case z_max => k_is)
    (case z_all => k_is)
