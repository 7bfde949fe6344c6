import PyProof.Rows.All
import Wide.All
import OpenK.AllK
import Wide.FinOn
import HandS.ForMost
import HandS.TupAny
import HandS.Zip
import KE.KeyNested
import HandS.SetKeys
import HandS.Lambda
import HandS.Deep
import HandS.IsInst
import HandS.Wide
import HandS.Strs
import HandS.DictComp
import KE.GoesEnum
import KE.GoesMore
import KE.GoesZip
import HandS.Walk
import HandS.Defaults
import HandS.Ends
import HandS.TupMul
import HandS.SortKw
import KE.DataMinMax
import ObjForm.LawKit
import HandS.Words
import HandS.Conv
import HandS.SetFor
import PyProof.ReprRoads
import PyProof.SeqIndex
import PyProof.Rows.SetFrom
import HandS.Style
import HandS.TupLe
import KE.KDictDisplayH
import KE.KDictWalk
import HandS.Iter
import HandS.TupLen
import HandS.WideBits
import PyProof.RowDictHeap
import PyProof.Rows.Top
import HandS.ExcInit
import HandS.FStr
import HandS.ExcField
import HandS.WordsExc
import HandS.TryOnly
import HandS.ExcIs
import KE.KExcIs
import HandS.EndTab
import HandS.MakeKwOnly
import HandS.Codes
import HandS.OwnEq
import PyProof.InstNe
import HandS.Small
import PyProof.Rows.Walk
import PySem.Challenge.RW_stackgoals_k86_whole_counts_by_sets
def Zt(p:Prop):Prop:=p
theorem ZD{p:Prop}(h:p):Zt p=True:=eq_true h
theorem Zu{p:Prop}(h:Zt p):p:=h
theorem Zi{p:Prop}(h:p):p:=h
local macro_rules | `(by? $t)=>`(no_implicit_lambda% (@Zu _ (by simp (disch:=refine no_implicit_lambda% (@Zi _ ?_);k_dflt ($t)) only [↓ZD])))
set_option Elab.async false
set_option linter.all false
set_option maxRecDepth 100000
set_option maxHeartbeats 4000000
namespace Sg
open PySem
/-- values: tuples are trees;what changes (lists,dicts) is a number into the store -/
inductive PV where
  | non | bl (b:Bool) | int (i:Int) | str (s:Str) | tup (xs:List PV) | fro (xs:List PV) | ref (n:Nat) | ty (s:String) | glb (x:Str)
  deriving Inhabited
mutual
def PV.beq:PV→PV→Bool
  | .non,.non=>true
  | .bl a,.bl b=>a == b
  | .int a,.int b=>a == b
  | .str a,.str b=>a == b
  | .tup a,.tup b=>PV.beqs a b
  | .fro a,.fro b=>PV.beqs a b
  | .ref a,.ref b=>a == b
  | .ty a,.ty b=>a == b
  | .glb a,.glb b=>a == b
  | _,_=>false
def PV.beqs:List PV→List PV→Bool
  | [],[]=>true
  | a::as,b::bs=>PV.beq a b && PV.beqs as bs
  | _,_=>false
end
mutual
theorem PV.beq_of:∀ (a b:PV),PV.beq a b=true→a=b
  | .non,b,h=>by cases b <;> simp_all [PV.beq]
  | .bl _,b,h=>by cases b <;> simp_all [PV.beq]
  | .int _,b,h=>by cases b <;> simp_all [PV.beq]
  | .str _,b,h=>by cases b <;> simp_all [PV.beq]
  | .ref _,b,h=>by cases b <;> simp_all [PV.beq]
  | .ty _,b,h=>by cases b <;> simp_all [PV.beq]
  | .glb _,b,h=>by cases b <;> simp_all [PV.beq]
  | .tup xs,b,h=>by
    cases b with
    | tup ys=>simp only [PV.beq] at h;rw [PV.beqs_of xs ys h]
    | _=>simp [PV.beq] at h
  | .fro xs,b,h=>by
    cases b with
    | fro ys=>simp only [PV.beq] at h;rw [PV.beqs_of xs ys h]
    | _=>simp [PV.beq] at h
theorem PV.beqs_of:∀ (a b:List PV),PV.beqs a b=true→a=b
  | [],b,h=>by cases b <;> simp_all [PV.beqs]
  | x :: xs,b,h=>by
    cases b with
    | nil=>simp [PV.beqs] at h
    | cons y ys=>
      simp only [PV.beqs,Bool.and_eq_true] at h
      rw [PV.beq_of x y h.1,PV.beqs_of xs ys h.2]
end
mutual
theorem PV.beq_self:∀ (a:PV),PV.beq a a=true
  | .non | .bl _ | .int _ | .str _ | .ref _ | .ty _ | .glb _=>by simp [PV.beq]
  | .tup xs=>by simp only [PV.beq];exact PV.beqs_self xs
  | .fro xs=>by simp only [PV.beq];exact PV.beqs_self xs
theorem PV.beqs_self:∀ (a:List PV),PV.beqs a a=true
  | []=>by simp [PV.beqs]
  | x::xs=>by simp only [PV.beqs,Bool.and_eq_true];exact ⟨PV.beq_self x,PV.beqs_self xs⟩
end
instance:DecidableEq PV:=fun a b=>if h:PV.beq a b=true then isTrue (PV.beq_of a b h) else isFalse fun e=>h (e ▸ PV.beq_self a)
/-- what stands in the store -/
inductive PO where
  | lst (xs:List PV) | dic (kvs:List (PV×PV)) | set (xs:List PV) | dead | dct (kvs:List (PV×PV)) | fdc (kvs:List (PV×PV)) | exn (c:Str) (v:PV) | tab (q:Str) | bex (c:Str) | obj (c:Str) (fs:List (PV×PV)) (b:Bool) (j:Nat) (xs:List PV) | hid | dsk (s:PV) (fs:List (PV×PV)) (j l:Nat) (xs:List PV)
  deriving DecidableEq
noncomputable
abbrev Store:=List PO
/-- the pairs of a dict with tuples for keys,open or locked for good -/
noncomputable
def dctR (st:Store) (i:Nat):Option (List (PV×PV)):=match st[i]? with
  | some (.dct kvs)=>some kvs
  | some (.fdc kvs)=>some kvs
  | _=>none
/-- an outcome: a value,an exception of the package (class,field,store),or no statement -/
inductive Res (α:Type) where
  | ok (a:α) | exc (c:Str) (v:PV) (st:Store) | stuck
noncomputable
def Res.bind {α β:Type} (r:Res α) (f:α→Res β):Res β:=match r with
  | .ok a=>f a
  | .exc c v st=>.exc c v st
  | .stuck=>.stuck
noncomputable
instance:Monad Res:={ pure:=.ok,bind:=Res.bind }
section
variable {α β γ:Type}
@[simp] theorem bind_ok (a:α) (f:α→Res β):(Res.ok a >>= f)=f a:=rfl
@[simp] theorem bind_stuck (f:α→Res β):((Res.stuck:Res α) >>= f)=.stuck:=rfl
@[simp] theorem bind_exc (c v st) (f:α→Res β):((Res.exc c v st:Res α) >>= f)=.exc c v st:=rfl
@[simp] theorem pure_ok (a:α):(pure a:Res α)=.ok a:=rfl
theorem bind_assoc' (r:Res α) (f:α→Res β) (g:β→Res γ):((r >>= f) >>= g)=r >>= fun a=>f a >>= g:=by cases r <;> rfl
end
/-- k v,the number in v worked out ahead (for the kernel) -/
noncomputable
def force {β:Type} (v:PV) (k:PV→β):β:=match v with
  | .int (.ofNat n)=>Nat.rec (motive:=fun _=>β) (k (.int (.ofNat 0))) (fun m _=>k (.int (.ofNat (m+1)))) n
  | .int (.negSucc n)=>Nat.rec (motive:=fun _=>β) (k (.int (.negSucc 0))) (fun m _=>k (.int (.negSucc (m+1)))) n
  | .bl true=>k (.bl true)
  | .bl false=>k (.bl false)
  | v=>k v
@[simp] theorem force_eq {β:Type} (v:PV) (k:PV→β):force v k=k v:=by
  unfold force
  split
  · rename_i n;cases n <;> rfl
  · rename_i n;cases n <;> rfl
  · rfl
  · rfl
  · rfl
noncomputable
abbrev Slots:=List (Option PV)
noncomputable
abbrev EvE:=Slots→Store→Res (PV×Store)
noncomputable
abbrev EvA:=Slots→Store→Res (List PV×Store)
noncomputable
abbrev EvT:=Slots→Store→Res (Bool×Store)
inductive Fl where
  | nx | bk | ct | rt (v:PV)
noncomputable
abbrev EvS:=Slots→Store→Res (Fl×Slots×Store)
/-- what is walked: the items,and the lists that must stay as they are -/
noncomputable
abbrev Gd:=List (Nat×PO)
noncomputable
abbrev EvI:=Slots→Store→Res ((List PV×Gd)×Store)
/-- the largest length of a list,tuple or text -/
noncomputable
abbrev LINE:Nat:=16777216
mutual
noncomputable
def refsLt (n:Nat):PV→Bool
  | .ref i=>decide (i < n)
  | .tup xs=>refsLts n xs
  | .fro xs=>refsLts n xs
  | _=>true
noncomputable
def refsLts (n:Nat):List PV→Bool
  | []=>true
  | x::xs=>refsLt n x && refsLts n xs
end
noncomputable
def objLt (n:Nat):PO→Bool
  | .lst xs=>refsLts n xs
  | .dic kvs=>refsLts n (kvs.map (·.1)) && refsLts n (kvs.map (·.2))
  | .set xs=>refsLts n xs
  | .dead=>true
  | .dct kvs=>refsLts n (kvs.map (·.1)) && refsLts n (kvs.map (·.2))
  | .fdc kvs=>refsLts n (kvs.map (·.1)) && refsLts n (kvs.map (·.2))
  | .exn _ v=>refsLt n v
  | .tab _=>true
  | .bex _=>true
  | .obj _ fs b j xs=>refsLts n (fs.map (·.1)) && refsLts n (fs.map (·.2)) && (!b || decide (j < n)) && refsLts n xs
  | .hid=>true
  | .dsk s fs j l xs=>refsLt n s && (refsLts n (fs.map (·.1)) && refsLts n (fs.map (·.2)) && decide (j < n) && decide (l < n) && refsLts n xs)
/-- the hidden places of an object: its own list;a desk's bench and that one's list -/
noncomputable
def hidO:PO→List Nat
  | .obj _ _ true j _=>[j]
  | .dsk _ _ j l _=>[j,l]
  | _=>[]
theorem hidO_lt {n:Nat} {o:PO} {j:Nat} (h:j∈hidO o) (q:objLt n o=true):j < n:=by?
  unfold hidO at h
  split at h
  · rw [List.mem_singleton.mp h]
    simp only [objLt,Bool.and_eq_true,Bool.not_true,Bool.false_or,decide_eq_true_eq] at q
    exact q.1.2
  · simp only [objLt,Bool.and_eq_true,decide_eq_true_eq] at q
    rcases List.mem_cons.mp h with e | h
    · rw [e];exact q.2.1.1.2
    · rw [List.mem_singleton.mp h];exact q.2.1.2
  · cases h
/-- an object's own list is nobody else's -/
noncomputable
def HdOk (st:Store):Prop:=(∀ (i:Nat) (o:PO) (j:Nat),st[i]? = some o→j∈hidO o→st[j]? = some .hid)∧∀ (i i':Nat) (o o':PO) (j:Nat),st[i]? = some o→st[i']? = some o'→j∈hidO o→j∈hidO o'→i=i'
theorem HdOk.nil:HdOk []:=⟨fun i o j h=>by simp at h,fun i i' o o' j h=>by simp at h⟩
theorem app_cases {st:Store} {u:PO} {i:Nat} {o:PO} (h:(st++[u])[i]? = some o):st[i]? = some o∨(i=st.length∧o=u):=by?
  by_cases hi:i < st.length
  · rw [List.getElem?_append_left hi] at h;exact .inl h
  · have hl:=(List.getElem?_eq_some_iff.mp h).1
    rw [List.length_append,List.length_singleton] at hl
    have e:i=st.length:=by omega
    subst e
    rw [List.getElem?_append_right (Nat.le_refl _),Nat.sub_self] at h
    exact .inr ⟨rfl,by simpa using h.symm⟩
theorem HdOk.add {st:Store} (h:HdOk st) {u:PO} (hu:hidO u=[]:=by rfl):HdOk (st++[u]):=by?
  refine ⟨fun i o j h1 h2=>?_,fun i i' o o' j h1 h2 h3 h4=>?_⟩
  · rcases app_cases h1 with h1 | ⟨_,rfl⟩
    · have:=h.1 i o j h1 h2
      rw [List.getElem?_append_left (List.getElem?_eq_some_iff.mp this).1];exact this
    · rw [hu] at h2;cases h2
  · rcases app_cases h1 with h1 | ⟨_,rfl⟩
    · rcases app_cases h2 with h2 | ⟨_,rfl⟩
      · exact h.2 i i' o o' j h1 h2 h3 h4
      · rw [hu] at h4;cases h4
    · rw [hu] at h3;cases h3
theorem set_cases {st:Store} {u:PO} {k i:Nat} {o:PO} (h:(st.set k u)[i]? = some o):(i≠k∧st[i]? = some o)∨(i=k∧o=u∧k < st.length):=by
  by_cases hi:i=k
  · subst hi
    have hl:=(List.getElem?_eq_some_iff.mp h).1
    rw [List.length_set] at hl
    rw [List.getElem?_set_self hl] at h
    exact .inr ⟨rfl,by simpa using h.symm,hl⟩
  · rw [List.getElem?_set_ne (fun e=>hi e.symm)] at h
    exact .inl ⟨hi,h⟩
theorem HdOk.put {st:Store} (h:HdOk st) {k:Nat} {u:PO} (hn:∃o,st[k]? = some o∧o≠.hid) (hu:hidO u=[]):HdOk (st.set k u):=by?
  obtain ⟨o0,e0,n0⟩:=hn
  refine ⟨fun i o j h1 h2=>?_,fun i i' o o' j h1 h2 h3 h4=>?_⟩
  · rcases set_cases h1 with ⟨_,h1⟩ | ⟨_,rfl,_⟩
    · have:=h.1 i o j h1 h2
      rw [List.getElem?_set_ne (fun e=>by subst e;rw [e0] at this;exact n0 (Option.some.inj this))];exact this
    · rw [hu] at h2;cases h2
  · rcases set_cases h1 with ⟨_,h1⟩ | ⟨_,rfl,_⟩
    · rcases set_cases h2 with ⟨_,h2⟩ | ⟨_,rfl,_⟩
      · exact h.2 i i' o o' j h1 h2 h3 h4
      · rw [hu] at h4;cases h4
    · rw [hu] at h3;cases h3
theorem take_get {st:Store} {n i:Nat} {o:PO} (h:(st.take n)[i]? = some o):i < n∧st[i]? = some o:=by
  have hl:=(List.getElem?_eq_some_iff.mp h).1
  rw [List.length_take] at hl
  have hi:i < n:=by omega
  rw [List.getElem?_take_of_lt hi] at h
  exact ⟨hi,h⟩
theorem HdOk.take {st:Store} (h:HdOk st) {n:Nat} (hl:∀ (i:Nat) (o:PO) (j:Nat),i < n→st[i]? = some o→j∈hidO o→j < n):HdOk (st.take n):=by
  refine ⟨fun i o j h1 h2=>?_,fun i i' o o' j h1 h2 h3 h4=>h.2 i i' o o' j (take_get h1).2 (take_get h2).2 h3 h4⟩
  obtain ⟨hi,h1⟩:=take_get h1
  rw [List.getElem?_take_of_lt (hl i o j hi h1 h2)]
  exact h.1 i o j h1 h2
theorem HdOk.gc {st:Store} (h:HdOk st) {n i:Nat} {o:PO} (hn:n≤i) (ho:st[i]? = some o) (hl:∀ (i:Nat) (o:PO) (j:Nat),i < n→st[i]? = some o→j∈hidO o→j < n) (hj:∀j,j∈hidO o→j < n):HdOk (st.take n++[o]):=by?
  have T:=h.take hl
  have le:(st.take n).length=n:=by rw [List.length_take];have:=(List.getElem?_eq_some_iff.mp ho).1;omega
  refine ⟨fun k p j h1 h2=>?_,fun k k' p p' j h1 h2 h3 h4=>?_⟩
  · have:(st.take n)[j]? = some .hid:=by
      rcases app_cases h1 with h1 | ⟨_,rfl⟩
      · exact T.1 k p j h1 h2
      · rw [List.getElem?_take_of_lt (hj j h2)];exact h.1 i p j ho h2
    rw [List.getElem?_append_left (List.getElem?_eq_some_iff.mp this).1];exact this
  · rcases app_cases h1 with q1 | ⟨e1,o1⟩
    · rcases app_cases h2 with q2 | ⟨e2,o2⟩
      · exact T.2 k k' p p' j q1 q2 h3 h4
      · have a:=take_get q1
        have:=h.2 k i p p' j a.2 (o2 ▸ ho) h3 h4
        omega
    · rcases app_cases h2 with q2 | ⟨e2,o2⟩
      · have a:=take_get q2
        have:=h.2 k' i p' p j a.2 (o1 ▸ ho) h4 h3
        omega
      · omega
/-- the old objects are as they were or speak of old ones alone -/
noncomputable
def oldOk (n:Nat):Store→Store→Bool
  | [],_=>true
  | _::_,[]=>false
  | o::r,p::q=>(objLt n p || decide (p=o)) && oldOk n r q
/-- forget new objects that nothing old and not the value speaks of -/
noncomputable
def gc (st:Store) (r:PV×Store):PV×Store:=
  if r.2.length=st.length then r
  else if oldOk st.length st r.2 then
    if refsLt st.length r.1 then (r.1,r.2.take st.length)
    else match r.1 with
      | .ref i=>match r.2[i]? with
        | some o=>if objLt st.length o then (.ref st.length,r.2.take st.length++[o]) else r
        | none=>r
      | _=>r
  else r
noncomputable
def gcR (st:Store):Res (PV×Store)→Res (PV×Store)
  | .ok r=>.ok (gc st r)
  | .exc c v s=>.exc c v s
  | .stuck=>.stuck
@[simp] theorem gcR_ok (st:Store) (r:PV×Store):gcR st (.ok r)=.ok (gc st r):=rfl
noncomputable
def eVar (i:Nat):EvE:=fun σ st=>match σ[i]? with
  | some (some v)=>.ok (v,st)
  | _=>.stuck
noncomputable
def eC (v:PV):EvE:=fun _ st=>.ok (v,st)
noncomputable
abbrev Op2:=PV→PV→Store→Res (PV×Store)
noncomputable
def eBin (f:Op2) (a b:EvE):EvE:=fun σ st=>a σ st >>= fun x=>b σ x.2 >>= fun y=>f x.1 y.1 y.2
/-- .. whose value is scalar: what the sides made is forgotten -/
noncomputable
def eBinG (f:Op2) (a b:EvE):EvE:=fun σ st=>gcR st (eBin f a b σ st)
noncomputable
def eUn (f:PV→Store→Res (PV×Store)) (a:EvE):EvE:=fun σ st=>a σ st >>= fun x=>f x.1 x.2
noncomputable
def aNil:EvA:=fun _ st=>.ok ([],st)
noncomputable
def aCons (a:EvE) (r:EvA):EvA:=fun σ st=>a σ st >>= fun x=>force x.1 fun v=>r σ x.2 >>= fun xs=>.ok (v::xs.1,xs.2)
theorem aCons_eq (a:EvE) (r:EvA) (σ:Slots) (st:Store):aCons a r σ st=(a σ st >>= fun x=>r σ x.2 >>= fun xs=>.ok (x.1::xs.1,xs.2)):=by simp [aCons]
/-- a call of what is given as a function of the values -/
noncomputable
abbrev Fn:=List PV→Store→Res (PV×Store)
noncomputable
def eCall (f:Fn) (a:EvA):EvE:=fun σ st=>gcR st (a σ st >>= fun xs=>f xs.1 xs.2)
noncomputable
def eTup (a:EvA):EvE:=fun σ st=>a σ st >>= fun xs=>if xs.1.length≤LINE then .ok (.tup xs.1,xs.2) else .stuck
noncomputable
def eLst (a:EvA):EvE:=fun σ st=>a σ st >>= fun xs=>if xs.1.length≤LINE then .ok (.ref xs.2.length,xs.2++[.lst xs.1]) else .stuck
noncomputable
def eIf (t:EvT) (a b:EvE):EvE:=fun σ st=>t σ st >>= fun c=>if c.1 then a σ c.2 else b σ c.2
/-- a value that is a bool,as a test -/
noncomputable
def tVal (a:EvE):EvT:=fun σ st=>a σ st >>= fun x=>match x.1 with
  | .bl b=>.ok (b,x.2)
  | _=>.stuck
noncomputable
def tNot (a:EvT):EvT:=fun σ st=>a σ st >>= fun c=>.ok (!c.1,c.2)
noncomputable
def tOr (a b:EvT):EvT:=fun σ st=>a σ st >>= fun c=>if c.1 then .ok (true,c.2) else b σ c.2
/-- and,or as values (bools ahead of the last) -/
noncomputable
def eAnd (a b:EvE):EvE:=fun σ st=>a σ st >>= fun x=>match x.1 with
  | .bl c=>if c then b σ x.2 else .ok (.bl false,x.2)
  | _=>.stuck
noncomputable
def eNot (a:EvE):EvE:=fun σ st=>a σ st >>= fun x=>match x.1 with
  | .bl c=>.ok (.bl (!c),x.2)
  | _=>.stuck
noncomputable
def sSeq (a b:EvS):EvS:=fun σ st=>a σ st >>= fun r=>match r.1 with
  | .nx=>b r.2.1 r.2.2
  | f=>.ok (f,r.2.1,r.2.2)
noncomputable
def sNil:EvS:=fun σ st=>.ok (.nx,σ,st)
noncomputable
def sDrop (a:EvE):EvS:=fun σ st=>a σ st >>= fun x=>.ok (.nx,σ,x.2)
noncomputable
def sRet (a:EvE):EvS:=fun σ st=>a σ st >>= fun x=>.ok (.rt x.1,σ,x.2)
noncomputable
def sIf (t:EvT) (a b:EvS):EvS:=fun σ st=>t σ st >>= fun c=>if c.1 then a σ c.2 else b σ c.2
noncomputable
def sNever:EvS:=fun _ _=>.stuck
/-- a target: a slot,or a tuple of targets -/
inductive Tg where
  | nm (i:Nat) | tp (ts:List Tg)
mutual
noncomputable
def Tg.put:Tg→PV→Slots→Option Slots
  | .nm i,p,σ=>some (σ.set i (some p))
  | .tp ts,.tup xs,σ=>Tg.puts ts xs σ
  | .tp _,_,_=>none
noncomputable
def Tg.puts:List Tg→List PV→Slots→Option Slots
  | [],[],σ=>some σ
  | t::ts,x::xs,σ=>match Tg.put t x σ with
    | some σ'=>Tg.puts ts xs σ'
    | none=>none
  | _,_,_=>none
end
mutual
noncomputable
def Tg.own:Tg→List Nat
  | .nm i=>[i]
  | .tp ts=>Tg.owns ts
noncomputable
def Tg.owns:List Tg→List Nat
  | []=>[]
  | t::ts=>Tg.own t++Tg.owns ts
end
noncomputable
def gPut (g:Tg) (p:PV) (σ:Slots):Res Slots:=force p fun p=>match Tg.put g p σ with
  | some σ'=>.ok σ'
  | none=>.stuck
theorem gPut_eq (g:Tg) (p:PV) (σ:Slots):gPut g p σ=match Tg.put g p σ with
  | some σ'=>.ok σ'
  | none=>.stuck:=force_eq ..
noncomputable
def sAsg (a:EvE) (g:Tg):EvS:=fun σ st=>a σ st >>= fun x=>gPut g x.1 σ >>= fun r=>.ok (.nx,r,x.2)
/-- a,b=x,y -/
noncomputable
def sPar (i j:Nat) (a:EvA):EvS:=fun σ st=>a σ st >>= fun xs=>match xs.1 with
  | [v,w]=>.ok (.nx,(σ.set i (some v)).set j (some w),xs.2)
  | _=>.stuck
noncomputable
def gdOk (gs:Gd) (st:Store):Bool:=gs.all fun g=>decide (st[g.1]? = some g.2)
@[simp] theorem gdOk_nil (st:Store):gdOk [] st=true:=rfl
noncomputable
def forLoop (g:Tg) (b:EvS) (gs:Gd):List PV→Slots→Store→Res (Fl×Slots×Store)
  | [],σ,st=>if gdOk gs st then .ok (.nx,σ,st) else .stuck
  | x :: xs,σ,st=>if gdOk gs st then gPut g x σ >>= fun r=>b r st >>= fun q=>match q.1 with
      | .nx=>forLoop g b gs xs q.2.1 q.2.2
      | .ct=>forLoop g b gs xs q.2.1 q.2.2
      | .bk=>.ok (.nx,q.2.1,q.2.2)
      | .rt v=>.ok (.rt v,q.2.1,q.2.2)
    else .stuck
noncomputable
def sFor (it:EvI) (g:Tg) (b:EvS):EvS:=fun σ st=>it σ st >>= fun r=>forLoop g b r.1.2 r.1.1 σ r.2
noncomputable
def wipeP (σ:Slots):List Nat→Slots
  | []=>σ
  | v::vs=>(wipeP σ vs).set v none
noncomputable
def tYes:EvT:=fun _ st=>.ok (true,st)
noncomputable
def lcLoop (g:Tg) (t:EvT) (e:EvE) (σ:Slots) (gs:Gd):List PV→List PV→Store→Res (List PV×Store)
  | [],acc,st=>if gdOk gs st then .ok (acc,st) else .stuck
  | x :: xs,acc,st=>if gdOk gs st then gPut g x σ >>= fun r=>t r st >>= fun c=>
      if c.1 then e r c.2 >>= fun y=>force y.1 fun v=>if acc.length < LINE then lcLoop g t e σ gs xs (acc++[v]) y.2 else .stuck
      else lcLoop g t e σ gs xs acc c.2
    else .stuck
noncomputable
def eLc (it:EvI) (g:Tg) (t:EvT) (e:EvE) (vs:List Nat):EvE:=fun σ st=>it σ st >>= fun r=>
  lcLoop g t e (wipeP σ vs) r.1.2 r.1.1 [] r.2 >>= fun q=>.ok (.ref q.2.length,q.2++[.lst q.1])
noncomputable
def chars (s:Str):List PV:=s.cps.toList.map fun c=>.str ⟨#[c]⟩
/-- the items of a value -/
noncomputable
def itemsOf (v:PV) (st:Store):Res (List PV×Gd):=match v with
  | .tup xs=>.ok (xs,[])
  | .fro xs=>.ok (xs,[])
  | .str s=>.ok (chars s,[])
  | .ref i=>match st[i]? with
    | some (.lst xs)=>.ok (xs,[(i,.lst xs)])
    | _=>.stuck
  | _=>.stuck
noncomputable
def zipP:List PV→List PV→List PV
  | x::xs,y::ys=>.tup [x,y]::zipP xs ys
  | _,_=>[]
noncomputable
def iZip (a b:EvE):EvI:=fun σ st=>a σ st >>= fun x=>b σ x.2 >>= fun y=>match x.1,y.1 with
  | .str _,_=>.stuck
  | _,.str _=>.stuck
  | v,w=>itemsOf v y.2 >>= fun r=>itemsOf w y.2 >>= fun q=>.ok ((zipP r.1 q.1,r.2++q.2),y.2)
/-- the pairs of a dict,which nobody may ask any more -/
noncomputable
def iItems (a:EvE):EvI:=fun σ st=>a σ st >>= fun x=>match x.1 with
  | .ref i=>match st0 x.2 i with
    | some kvs=>.ok ((kvs.map fun q=>.tup [q.1,q.2],[]),x.2.set i .dead)
    | none=>.stuck
  | _=>.stuck
where st0 (st:Store) (i:Nat):Option (List (PV×PV)):=match st[i]? with
  | some (.dic kvs)=>some kvs
  | _=>none
noncomputable
def small62 (i:Int):Bool:=decide (-4611686018427387904≤i) && decide (i < 4611686018427387904)
theorem small62_iff {i:Int}:small62 i=true↔(-(2 ^ 62)≤i∧i < 2 ^ 62):=by
  unfold small62
  simp only [Bool.and_eq_true,decide_eq_true_eq]
  omega
noncomputable
def rngI (lo:Int) (n:Nat):List PV:=(List.range n).map fun i=>.int (lo+(i:Nat))
noncomputable
def iRng1 (a:EvE):EvI:=fun σ st=>a σ st >>= fun x=>match x.1 with
  | .int j=>if small62 j then .ok ((rngI 0 j.toNat,[]),x.2) else .stuck
  | _=>.stuck
noncomputable
def iRng2 (a b:EvE):EvI:=fun σ st=>a σ st >>= fun x=>b σ x.2 >>= fun y=>match x.1,y.1 with
  | .int i,.int j=>if small62 i && small62 j then .ok ((rngI i (j - i).toNat,[]),y.2) else .stuck
  | _,_=>.stuck
/-- {k: v for ..} -/
noncomputable
def keyOk:PV→Bool
  | .int _=>true
  | .str _=>true
  | _=>false
noncomputable
def dictPut (kvs:List (PV×PV)) (k v:PV):List (PV×PV):=
  if (kvs.any fun q=>decide (q.1=k))=true then kvs.map (fun q=>if q.1=k then (q.1,v) else q) else kvs++[(k,v)]
noncomputable
def dcLoop (g:Tg) (t:EvT) (ek ev:EvE) (σ:Slots) (gs:Gd):List PV→List (PV×PV)→Store→Res (List (PV×PV)×Store)
  | [],acc,st=>if gdOk gs st then .ok (acc,st) else .stuck
  | x :: xs,acc,st=>if gdOk gs st then gPut g x σ >>= fun r=>t r st >>= fun c=>
      if c.1 then ek r c.2 >>= fun y=>force y.1 fun yk=>ev r y.2 >>= fun z=>force z.1 fun zv=>if keyOk yk && decide (acc.length < LINE) then dcLoop g t ek ev σ gs xs (dictPut acc yk zv) z.2 else .stuck
      else dcLoop g t ek ev σ gs xs acc c.2
    else .stuck
noncomputable
def eDc (it:EvI) (g:Tg) (t:EvT) (ek ev:EvE) (vs:List Nat):EvE:=fun σ st=>it σ st >>= fun r=>
  dcLoop g t ek ev (wipeP σ vs) r.1.2 r.1.1 [] r.2 >>= fun q=>.ok (.ref q.2.length,q.2++[.dic q.1])
noncomputable
def eDic0:EvE:=fun _ st=>.ok (.ref st.length,st++[.dic []])
/-- {k: v,..} -/
noncomputable
abbrev EvP:=Slots→Store→Res (List (PV×PV)×Store)
noncomputable
def pNil:EvP:=fun _ st=>.ok ([],st)
noncomputable
def pCons (k v:EvE) (r:EvP):EvP:=fun σ st=>k σ st >>= fun x=>v σ x.2 >>= fun y=>r σ y.2 >>= fun ps=>.ok ((x.1,y.1)::ps.1,ps.2)
noncomputable
def eDisp (p:EvP):EvE:=fun σ st=>p σ st >>= fun ps=>if (ps.1.all fun q=>keyOk q.1) && decide (ps.1.length≤15) then
  .ok (.ref ps.2.length,ps.2++[.dic (ps.1.foldl (fun acc q=>dictPut acc q.1 q.2) [])]) else .stuck
noncomputable
def opAdd:Op2:=fun x y st=>match x,y with
  | .int i,.int j=>.ok (.int (i+j),st)
  | .str i,.str j=>if i.length+j.length≤LINE then .ok (.str (i++j),st) else .stuck
  | .tup i,.tup j=>if i.length+j.length≤LINE then .ok (.tup (i++j),st) else .stuck
  | .ref i,.ref j=>match st[i]?,st[j]? with
    | some (.lst a),some (.lst b)=>if a.length+b.length≤LINE then .ok (.ref st.length,st++[.lst (a++b)]) else .stuck
    | _,_=>.stuck
  | _,_=>.stuck
noncomputable
def opSub:Op2:=fun x y st=>match x,y with
  | .int i,.int j=>.ok (.int (i - j),st)
  | _,_=>.stuck
noncomputable
def mulOk (i j:Int):Bool:=decide (i.natAbs.log2+j.natAbs.log2 < 1000000)
noncomputable
def opMul:Op2:=fun x y st=>match x,y with
  | .int i,.int j=>if mulOk i j then .ok (.int (i * j),st) else .stuck
  | _,_=>.stuck
noncomputable
def opFdiv:Op2:=fun x y st=>match x,y with
  | .int i,.int j=>if 0 < j∧j.natAbs.log2 < 9000 then .ok (.int (i / j),st) else .stuck
  | _,_=>.stuck
noncomputable
def opMod:Op2:=fun x y st=>match x,y with
  | .int i,.int j=>if 0 < j then .ok (.int (i % j),st) else .stuck
  | _,_=>.stuck
noncomputable
def opLt:Op2:=fun x y st=>match x,y with
  | .int i,.int j=>.ok (.bl (decide (i < j)),st)
  | .str i,.str j=>.ok (.bl (decide (i.cps.toList < j.cps.toList)),st)
  | _,_=>.stuck
noncomputable
def opGt:Op2:=fun x y st=>match x,y with
  | .int i,.int j=>.ok (.bl (decide (j < i)),st)
  | _,_=>.stuck
noncomputable
def opGe:Op2:=fun x y st=>match x,y with
  | .int i,.int j=>.ok (.bl (decide (j≤i)),st)
  | _,_=>.stuck
noncomputable
def unNeg (x:PV) (st:Store):Res (PV×Store):=match x with
  | .int i=>.ok (.int (-i),st)
  | _=>.stuck
end Sg
namespace Sg
open PySem PySem.Spec PyProof.Rows L2
/-- a list that is only read -/
noncomputable
def SqF (K:PySem.W.Frag) (H:Hp) (a:Addr) (xs:List V):Prop:=
  (∃o,H a=some (.frz o (.lst xs)))∨(∃ (o:Obj) (its:Array Value) (n:Nat),K.lookup a=some o∧o.cls=.type "list" ∧
    o.dict=none∧o.data=.seq its n∧its.size≤sizeLine∧Vals xs its.toList)
theorem SqF.sq {K:PySem.W.Frag} {H:Hp} {a:Addr} {xs:List V} (h:SqF K H a xs):SqL K H a xs:=by
  rcases h with h | h
  · exact Or.inl (Or.inr h)
  · exact Or.inr h
/-- a tuple whose very object is known to have no dict of its own -/
noncomputable
def SqU (K:PySem.W.Frag) (H:Hp) (a:Addr) (xs:List V):Prop:=
  (∃o,H a=some (.frz o (.tup xs))∧o.cls=.type "tuple" ∧ o.dict=none)∨(∃ (o:Obj) (its:Array Value) (n:Nat),K.lookup a=some o ∧
    o.cls=.type "tuple" ∧ o.dict=none∧o.data=.seq its n∧its.size≤sizeLine∧Vals xs its.toList)
theorem SqU.sq {K:PySem.W.Frag} {H:Hp} {a:Addr} {xs:List V} (h:SqU K H a xs):SqT K H a xs:=by
  rcases h with ⟨o,h,_⟩ | ⟨o,its,n,h1,h2,_,h4⟩
  · exact Or.inl (Or.inr ⟨o,h⟩)
  · exact Or.inr ⟨o,its,n,h1,h2,h4⟩
/-- the object of a new tuple -/
noncomputable
abbrev tupObj (its:List Value):Obj:={ cls:=.type "tuple", data:=.seq its.toArray }
/-- what never changes -/
noncomputable
def Imu:HO→Prop
  | .tup _=>True
  | .frz _ _=>True
  | .xd _=>True
  | .ext f=>∃c q,HO.ext f=LamX.CodeO c q
  | _=>False
theorem codeO_imu (c:Addr) (q:Str):Imu (LamX.CodeO c q):=⟨c,q,rfl⟩
/-- what is no code object -/
theorem ext_ni {f:Heap→Prop} {a:Addr} (h:∀h,f h→∃o:Obj,h.get? a=some o∧∀vs,o.data≠.fields vs):¬ Imu (.ext f):=by?
  rintro ⟨c,q,e⟩
  unfold LamX.CodeO at e
  have e2:=HO.ext.inj e
  let ob:Obj:={ cls:=.none,data:=.fields #[.none,.str q 0] }
  let h0:Heap:={ objs:=Array.replicate (c+1) ob }
  have g:∀b o,h0.get? b=some o→o=ob:=fun b o z=>by
    unfold Heap.get? at z
    show o=ob
    have e:h0.objs[b]? = if b < c+1 then some ob else none:=Array.getElem?_replicate
    rw [e] at z
    by_cases hb:b < c+1
    · rw [if_pos hb] at z
      exact (Option.some.inj z).symm
    · rw [if_neg hb] at z
      cases z
  have gc:h0.get? c=some ob:=by
    have e:h0.objs[c]? = if c < c+1 then some ob else none:=Array.getElem?_replicate
    unfold Heap.get?
    rw [e,if_pos (Nat.lt_succ_self c)]
  have hf:f h0:=by rw [e2];exact ⟨ob,_,0,gc,rfl,rfl⟩
  obtain ⟨o,z,n⟩:=h h0 hf
  rw [g a o z] at n
  exact n _ rfl
/-- keys: tuples of ints,texts,None and such tuples -/
noncomputable
abbrev NK:=PySem.NestedKey
mutual
noncomputable
def nkP:PV→NK
  | .bl b=>.num (if b=true then 1 else 0)
  | .int i=>.num i
  | .str x=>.text x
  | .tup xs=>.tup (nkPs xs)
  | _=>.none
noncomputable
def nkPs:List PV→List NK
  | []=>[]
  | x::xs=>nkP x::nkPs xs
end
mutual
noncomputable
def nkOk:PV→Bool
  | .bl _=>true
  | .non=>true
  | .int _=>true
  | .str _=>true
  | .tup xs=>nkOks xs
  | _=>false
noncomputable
def nkOks:List PV→Bool
  | []=>true
  | x::xs=>nkOk x && nkOks xs
end
noncomputable
def tkOk:PV→Bool
  | .tup [.int _,.int _,.int _,.bl _]=>true
  | _=>false
theorem tk_refs {n:Nat} {p:PV} (h:tkOk p=true):refsLt n p=true:=by
  unfold tkOk at h
  split at h
  · simp [refsLt,refsLts]
  · cases h
/-- the object of a dict whose keys are tuples: its entries as they stand -/
noncomputable
def DX (P:Program) (w:World) (a:Addr) (es:List (NK×Addr×V)):HO:=.ext fun h=>es.length≤sizeLine∧(a == sysModules)=false ∧
  ∃ us:List (NK×Addr×Value),Paired (fun e u=>e.1=u.1∧e.2.1=u.2.1∧RelV e.2.2 u.2.2) es us ∧
    ∃o ents ep,h.get? a=some o∧o.ExactDict∧o.data=.dict ents ep∧ents.toList=us.map (entryOfKey (nestedKind P w))∧(us.map (·.1)).Nodup
theorem dX_ni {P:Program} {w:World} {a:Addr} {es:List (NK×Addr×V)}:¬ Imu (DX P w a es):=ext_ni (a:=a) fun h ⟨_,_,us,_,o,ents,ep,ho,_,hd,_⟩=>⟨o,ho,fun vs z=>by rw [z] at hd;cases hd⟩
/-- an exception that was caught: its class,its dict -/
noncomputable
def ExcO (C d a:Addr):HO:=.ext fun h=>∃ (oe:Obj) (vs:Array Value),h.get? a=some oe∧oe.cls=.ref C∧oe.dict=some d∧oe.data=.fields vs
/-- an exception without a dict -/
noncomputable
def ExcB (C a:Addr):HO:=.ext fun h=>∃ (oe:Obj) (vs:Array Value),h.get? a=some oe∧oe.cls=.ref C∧oe.dict=none∧oe.data=.fields vs
structure Wd where
  K:PySem.W.Frag
  mg:Str→Option Value
  P:Program
  w:World
section
variable (W:Wd)
mutual
inductive VR (ad:List Addr) (H:Hp):PV→V→Prop
  | non:VR ad H .non .non
  | bl (b:Bool):VR ad H (.bl b) (.bl b)
  | int (i:Int):VR ad H (.int i) (.int i)
  | str (x:Str):VR ad H (.str x) (.str x)
  | ty (n:String):VR ad H (.ty n) (.ty n)
  | tup {xs:List PV} {a:Addr} {vs:List V}:SqU W.K H a vs→VRs ad H xs vs→VR ad H (.tup xs) (.ref a)
  | fro {xs:List PV} {a:Addr} {vs:List V}:SqF W.K H a vs→VRs ad H xs vs→VR ad H (.fro xs) (.ref a)
  | ref {i:Nat} {a:Addr}:ad[i]? = some a→VR ad H (.ref i) (.ref a)
  | glb {x:Str} {a:Addr}:W.mg x=some (.ref a)→VR ad H (.glb x) (.ref a)
inductive VRs (ad:List Addr) (H:Hp):List PV→List V→Prop
  | nil:VRs ad H [] []
  | cons {p:PV} {v:V} {ps:List PV} {vs:List V}:VR ad H p v→VRs ad H ps vs→VRs ad H (p::ps) (v::vs)
end
noncomputable
def keyP:Key→PV
  | .inl i=>.int i
  | .inr x=>.str x
/-- a dict's pairs -/
inductive DR (ad:List Addr) (H:Hp):List (PV×PV)→List (Key×V)→Prop
  | nil:DR ad H [] []
  | cons {k:Key} {p:PV} {v:V} {ps:List (PV×PV)} {vs:List (Key×V)}:VR W ad H p v→DR ad H ps vs→DR ad H ((keyP k,p)::ps) ((k,v)::vs)
/-- the pairs of a dict whose keys are tuples,with the places of the keys -/
inductive DT (ad:List Addr) (H:Hp):List (PV×PV)→List (NK×Addr×V)→Prop
  | nil:DT ad H [] []
  | cons {kp:PV} {b:Addr} {p:PV} {v:V} {ps:List (PV×PV)} {vs:List (NK×Addr×V)}:tkOk kp=true→VR W ad H kp (.ref b)→VR W ad H p v→DT ad H ps vs→DT ad H ((kp,p)::ps) ((nkP kp,b,v)::vs)
/-- an object's fields -/
inductive FR (ad:List Addr) (H:Hp):List (PV×PV)→List (Str×V)→Prop
  | nil:FR ad H [] []
  | cons {k:Str} {p:PV} {v:V} {ps:List (PV×PV)} {vs:List (Str×V)}:VR W ad H p v→FR ad H ps vs→FR ad H ((.str k,p)::ps) ((k,v)::vs)
/-- a dict with one list of its own, "past", stands as an object of this name -/
noncomputable
abbrev dictC:Str := "<dict>"
noncomputable
abbrev pastK:Str := "past"
noncomputable
def fldP (f:Str):List (PV×PV)→Option PV
  | []=>none
  | (k,p)::r=>if k=.str f then some p else fldP f r
noncomputable
def fillP (j:Nat) (fs:List (PV×PV)):List (PV×PV):=fs.map fun q=>if q.1=.str pastK then (q.1,.ref j) else q
structure PastOk (fs:List (PV×PV)):Prop where
  f:fldP pastK fs=some .non
  n:(fs.map (·.1)).Nodup
theorem mem_fldP {f:Str} {p:PV}:∀ {fs:List (PV×PV)},(fs.map (·.1)).Nodup→(.str f,p)∈fs→fldP f fs=some p
  | [],_,h=>by cases h
  | (k,q)::r,n,h=>by
    rw [List.map_cons,List.nodup_cons] at n
    unfold fldP
    by_cases e:k=.str f
    · rw [if_pos e]
      rcases List.mem_cons.mp h with z | z
      · cases z;rfl
      · exact absurd (List.mem_map.mpr ⟨_,z,e.symm⟩) n.1
    · rw [if_neg e]
      rcases List.mem_cons.mp h with z | z
      · cases z;exact absurd rfl e
      · exact mem_fldP n.2 z
theorem PastOk.all {fs:List (PV×PV)} (h:PastOk fs):∀q∈fs,q.1=.str pastK→q.2=.non:=fun q hq e=>by
  obtain ⟨k,p⟩:=q
  dsimp only at e
  subst e
  have:=mem_fldP h.n hq
  rw [h.f] at this
  exact (Option.some.inj this).symm
theorem fillP_lt {n j:Nat}:∀ {fs:List (PV×PV)},refsLts n ((fillP j fs).map (·.1))=true→refsLts n ((fillP j fs).map (·.2))=true→fldP pastK fs=some .non→refsLts n (fs.map (·.1))=true∧j < n
  | [],_,_,h=>by cases h
  | (k,p)::r,h1,h2,h=>by
    unfold fldP at h
    unfold fillP at h1 h2
    rw [List.map_cons] at h1 h2
    by_cases e:k=.str pastK
    · rw [if_pos e] at h1 h2
      simp only [List.map_cons,refsLts,Bool.and_eq_true,refsLt,decide_eq_true_eq] at h1 h2 ⊢
      refine ⟨⟨h1.1,?_⟩,h2.1⟩
      rw [← h1.2]
      congr 1
      simp only [List.map_map]
      exact List.map_congr_left fun q _=>by dsimp only [Function.comp];split <;> rfl
    · rw [if_neg e] at h1 h2 h
      simp only [List.map_cons,refsLts,Bool.and_eq_true] at h1 h2 ⊢
      have ih:=fillP_lt (fs:=r) h1.2 h2.2 h
      exact ⟨⟨h1.1,ih.1⟩,ih.2⟩
theorem fillP_vals {n j:Nat}:∀ {fs:List (PV×PV)},refsLts n ((fillP j fs).map (·.2))=true→(∀q∈fs,q.1=.str pastK→q.2=.non)→refsLts n (fs.map (·.2))=true
  | [],_,_=>by simp [refsLts]
  | (k,p)::r,h2,hn=>by
    unfold fillP at h2
    rw [List.map_cons] at h2
    by_cases e:k=.str pastK
    · rw [if_pos e] at h2
      simp only [List.map_cons,refsLts,Bool.and_eq_true] at h2 ⊢
      have:=hn (k,p) (by simp) e
      dsimp only at this
      subst this
      exact ⟨by simp [refsLt],fillP_vals h2.2 fun q hq=>hn q (by simp [hq])⟩
    · rw [if_neg e] at h2
      simp only [List.map_cons,refsLts,Bool.and_eq_true] at h2 ⊢
      exact ⟨h2.1,fillP_vals h2.2 fun q hq=>hn q (by simp [hq])⟩
theorem fillP_of {n j:Nat} (hj:j < n):∀ {fs:List (PV×PV)},refsLts n (fs.map (·.2))=true→refsLts n ((fillP j fs).map (·.2))=true
  | [],_=>by simp [fillP,refsLts]
  | (k,p)::r,h=>by
    unfold fillP
    rw [List.map_cons]
    simp only [List.map_cons,refsLts,Bool.and_eq_true] at h ⊢
    have ih:=fillP_of hj (fs:=r) h.2
    unfold fillP at ih
    refine ⟨?_,ih⟩
    split
    · simp only [refsLt];exact decide_eq_true hj
    · exact h.1
/-- the table of code objects of the def x -/
noncomputable
def TabAt (x:Str) (a:Addr):Prop:=∃ (f c:Addr) (oc e:Value) (od dd:Option Addr) (fd:FuncData) (vs:Array Value) (osl sl:Array (Option Value)),W.mg x=some (.ref f)∧W.K.lookup f=some ⟨oc,od,.func fd,osl⟩∧fd.code=.ref c∧W.K.lookup c=some ⟨e,dd,.fields vs,sl⟩∧vs[11]? = some (.ref a)
noncomputable
abbrev lamQ (x:Str):Str:=(x ++ ".<locals>.") ++ "<lambda>"
noncomputable
abbrev deskC:Str := "Desk"
noncomputable
abbrev benchC:Str := "Bench"
/-- a desk that holds a bench: the desk's settings,the bench's fields,its list -/
noncomputable
def DskAt (ad:List Addr) (H:Hp) (s:PV) (fs:List (PV×PV)) (j l:Nat) (xs:List PV) (a:Addr):Prop:=∃ (C dx:Addr) (w:V) (eb Cb dxb el:Addr) (vs0:List (Str×V)) (ws:List V),
  W.mg deskC=some (.ref C)∧H a=some (.ins C dx [(("bench_held" : Str),V.ref eb),(("settings" : Str),w)])∧VR W ad H s w∧ad[j]? = some eb∧W.mg benchC=some (.ref Cb) ∧
  H eb=some (.ins Cb dxb (vs0++[(("earlier" : Str),V.ref el)]))∧ad[l]? = some el∧H el=some (.lst ws)∧VRs W ad H xs ws∧FR W ad H fs vs0
noncomputable
def OR (ad:List Addr) (H:Hp) (o:PO) (a:Addr):Prop:=match o with
  | .lst xs=>∃vs,H a=some (.lst vs)∧VRs W ad H xs vs
  | .dic kvs=>∃ws,H a=some (.dK ws)∧DR W ad H kvs ws
  | .set xs=>∃ (S:Key→Bool) (ks:List Key),H a=some (SetK W.P W.w a S xs.length)∧xs=ks.map keyP∧ks.Nodup∧∀k,S k=true↔k∈ks
  | .dead=>∃u,H a=some u
  | .dct kvs=>∃es,H a=some (DX W.P W.w a es)∧DT W ad H kvs es
  | .fdc kvs=>∃es o,H a=some (.frz o (DX W.P W.w a es))∧DT W ad H kvs es
  | .exn c p=>∃C d v,W.mg c=some (.ref C)∧H a=some (ExcO C d a)∧H d=some (.xd [("value", v)])∧VR W ad H p v
  | .tab x=>LamX.TabS H a (lamQ x)∧TabAt W x a
  | .bex c=>∃C,W.mg c=some (.ref C)∧H a=some (ExcB C a)
  | .obj c fs b j xs=>(c=dictC∧b=true∧PastOk fs∧(∃ws,H a=some (.dK ws)∧DR W ad H (fillP j fs) ws)∧∃ (ea:Addr) (ws:List V),ad[j]? = some ea∧H ea=some (.lst ws)∧VRs W ad H xs ws) ∨
    (c≠dictC∧∃ (C dx:Addr) (vs:List (Str×V)) (ws:List V),W.mg c=some (.ref C)∧H a=some (.ins C dx vs)∧VRs W ad H xs ws ∧
      match b with
      | false=>FR W ad H fs vs
      | true=>∃ (ea:Addr) (vs0:List (Str×V)),ad[j]? = some ea∧H ea=some (.lst ws)∧vs=vs0++[(("earlier" : Str),V.ref ea)]∧FR W ad H fs vs0)
  | .hid=>(∃ws,H a=some (.lst ws))∨∃C dx vs,H a=some (.ins C dx vs)
  | .dsk s fs j l xs=>DskAt W ad H s fs j l xs a
end
/-- the store and the heap went on -/
structure Ext (ad:List Addr) (H:Hp) (ad':List Addr) (H':Hp):Prop where
  pre:∃t,ad'=ad++t
  frm:∀a o,H a=some o→a∉ad→H' a=some o
  new:∀a,a∈ad'→a∉ad→H a=none
  imm:∀a o,H a=some o→Imu o→H' a=some o
theorem Ext.refl (ad:List Addr) (H:Hp):Ext ad H ad H:=⟨⟨[],by simp⟩,fun _ _ h _=>h,fun _ h n=>absurd h n,fun _ _ h _=>h⟩
theorem Ext.trans {ad ad1 ad2:List Addr} {H H1 H2:Hp} (a:Ext ad H ad1 H1) (b:Ext ad1 H1 ad2 H2):Ext ad H ad2 H2:=by?
  obtain ⟨t,ht⟩:=a.pre
  obtain ⟨u,hu⟩:=b.pre
  refine ⟨⟨t++u,by rw [hu,ht,List.append_assoc]⟩,fun c o h n=>?_,fun c hc n=>?_,fun c o h i=>b.imm c o (a.imm c o h i) i⟩
  · refine b.frm c o (a.frm c o h n) fun hm=>?_
    have:=a.new c hm n
    rw [h] at this;cases this
  · by_cases hm:c∈ad1
    · exact a.new c hm n
    · have h1:=b.new c hc hm
      cases q:H c with
      | none=>rfl
      | some o=>
        have:=a.frm c o q n
        rw [h1] at this;cases this
theorem Ext.at {ad ad':List Addr} {H H':Hp} (e:Ext ad H ad' H') {i:Nat} {a:Addr} (h:ad[i]? = some a):ad'[i]? = some a:=by
  obtain ⟨t,ht⟩:=e.pre
  have hi:i < ad.length:=(List.getElem?_eq_some_iff.mp h).1
  rw [ht,List.getElem?_append_left hi];exact h
section
variable {W:Wd} {ad ad':List Addr} {H H':Hp} {st:Store}
theorem SqU.go (e:∀a o,H a=some o→Imu o→H' a=some o) {a:Addr} {vs:List V} (h:SqU W.K H a vs):SqU W.K H' a vs:=by
  rcases h with ⟨o,h,c⟩ | h
  · exact Or.inl ⟨o,e _ _ h trivial,c⟩
  · exact Or.inr h
theorem SqF.go (e:∀a o,H a=some o→Imu o→H' a=some o) {a:Addr} {vs:List V} (h:SqF W.K H a vs):SqF W.K H' a vs:=by
  rcases h with ⟨o,h⟩ | h
  · exact Or.inl ⟨o,e _ _ h trivial⟩
  · exact Or.inr h
mutual
theorem VR.go (e1:∀ (i:Nat) a,ad[i]? = some a→ad'[i]? = some a) (e2:∀a o,H a=some o→Imu o→H' a=some o):∀ {p:PV} {v:V},VR W ad H p v→VR W ad' H' p v
  | _,_,.non=>.non
  | _,_,.bl b=>.bl b
  | _,_,.int b=>.int b
  | _,_,.str b=>.str b
  | _,_,.ty b=>.ty b
  | _,_,.tup h r=>.tup (SqU.go e2 h) (VRs.go e1 e2 r)
  | _,_,.fro h r=>.fro (SqF.go e2 h) (VRs.go e1 e2 r)
  | _,_,.ref h=>.ref (e1 _ _ h)
  | _,_,.glb h=>.glb h
theorem VRs.go (e1:∀ (i:Nat) a,ad[i]? = some a→ad'[i]? = some a) (e2:∀a o,H a=some o→Imu o→H' a=some o):∀ {p:List PV} {v:List V},VRs W ad H p v→VRs W ad' H' p v
  | _,_,.nil=>.nil
  | _,_,.cons h r=>.cons (VR.go e1 e2 h) (VRs.go e1 e2 r)
end
theorem VR.mono (e:Ext ad H ad' H') {p:PV} {v:V} (h:VR W ad H p v):VR W ad' H' p v:=VR.go (fun _ _ q=>e.at q) e.imm h
theorem VRs.mono (e:Ext ad H ad' H') {p:List PV} {v:List V} (h:VRs W ad H p v):VRs W ad' H' p v:=VRs.go (fun _ _ q=>e.at q) e.imm h
theorem DR.go (e1:∀ (i:Nat) a,ad[i]? = some a→ad'[i]? = some a) (e2:∀a o,H a=some o→Imu o→H' a=some o) {p:List (PV×PV)} {v:List (Key×V)} (h:DR W ad H p v):DR W ad' H' p v:=by
  induction h with
  | nil=>exact .nil
  | cons r _ ih=>exact .cons (VR.go e1 e2 r) ih
theorem VRs.length:∀ {p:List PV} {v:List V},VRs W ad H p v→p.length=v.length
  | _,_,.nil=>rfl
  | _,_,.cons _ r=>by rw [List.length_cons,List.length_cons,VRs.length r]
theorem VRs.get:∀ {p:List PV} {v:List V} {i:Nat} {x:PV},VRs W ad H p v→p[i]? = some x→∃y,v[i]? = some y∧VR W ad H x y
  | _,_,_,_,.nil,h=>by simp at h
  | _,_,0,_,.cons r _,h=>by
    simp only [List.getElem?_cons_zero,Option.some.injEq] at h
    subst h
    exact ⟨_,by simp,r⟩
  | _,_,i+1,_,.cons _ r,h=>by
    simp only [List.getElem?_cons_succ] at h
    obtain ⟨y,h1,h2⟩:=VRs.get r h
    exact ⟨y,by simpa using h1,h2⟩
theorem VRs.append:∀ {p q:List PV} {v w:List V},VRs W ad H p v→VRs W ad H q w→VRs W ad H (p++q) (v++w)
  | _,_,_,_,.nil,s=>s
  | _,_,_,_,.cons r t,s=>.cons r (VRs.append t s)
theorem VRs.take:∀ {p:List PV} {v:List V} (n:Nat),VRs W ad H p v→VRs W ad H (p.take n) (v.take n)
  | _,_,0,_=>.nil
  | _,_,_+1,.nil=>.nil
  | _,_,n+1,.cons r t=>.cons r (VRs.take n t)
theorem VRs.drop:∀ {p:List PV} {v:List V} (n:Nat),VRs W ad H p v→VRs W ad H (p.drop n) (v.drop n)
  | _,_,0,r=>r
  | _,_,_+1,.nil=>.nil
  | _,_,n+1,.cons _ t=>VRs.drop n t
theorem VRs.set {x:PV} {y:V} (r:VR W ad H x y):∀ {p:List PV} {v:List V} (i:Nat),VRs W ad H p v→VRs W ad H (p.set i x) (v.set i y)
  | _,_,_,.nil=>.nil
  | _,_,0,.cons _ t=>.cons r t
  | _,_,i+1,.cons q t=>.cons q (VRs.set r i t)
theorem VRs.reverse {p:List PV} {v:List V} (h:VRs W ad H p v):VRs W ad H p.reverse v.reverse:=by
  induction p generalizing v with
  | nil=>cases h;exact .nil
  | cons x p ih=>
    cases h with
    | cons r t=>
      rw [List.reverse_cons,List.reverse_cons]
      exact (ih t).append (.cons r .nil)
theorem VRs.ints:∀ {ns:List Int} {v:List V},VRs W ad H (ns.map PV.int) v→v=ns.map V.int
  | [],_,.nil=>rfl
  | _::_,_,.cons (.int _) r=>by rw [VRs.ints r,List.map_cons]
mutual
theorem VR.lt:∀ {p:PV} {v:V},VR W ad H p v→refsLt ad.length p=true
  | _,_,.non=>by simp [refsLt]
  | _,_,.bl _=>by simp [refsLt]
  | _,_,.int _=>by simp [refsLt]
  | _,_,.str _=>by simp [refsLt]
  | _,_,.ty _=>by simp [refsLt]
  | _,_,.glb _=>by simp [refsLt]
  | _,_,.tup _ r=>by simp only [refsLt];exact VRs.lt r
  | _,_,.fro _ r=>by simp only [refsLt];exact VRs.lt r
  | _,_,.ref h=>by simp only [refsLt];exact decide_eq_true (List.getElem?_eq_some_iff.mp h).1
theorem VRs.lt:∀ {p:List PV} {v:List V},VRs W ad H p v→refsLts ad.length p=true
  | _,_,.nil=>by simp [refsLts]
  | _,_,.cons r t=>by simp only [refsLts,Bool.and_eq_true];exact ⟨VR.lt r,VRs.lt t⟩
end
/-- from a longer to a shorter list of addresses -/
theorem at_cut {t:List Addr} {n i:Nat} {a:Addr} (hn:n≤ad.length) (hi:i < n) (h:(ad++t)[i]? = some a):ad[i]? = some a:=by
  rwa [List.getElem?_append_left (Nat.lt_of_lt_of_le hi hn)] at h
mutual
theorem VR.cut {n:Nat} (e:∀ (i:Nat) a,i < n→ad[i]? = some a→ad'[i]? = some a):∀ {p:PV} {v:V},VR W ad H p v→refsLt n p=true→VR W ad' H p v
  | _,_,.non,_=>.non
  | _,_,.bl b,_=>.bl b
  | _,_,.int b,_=>.int b
  | _,_,.str b,_=>.str b
  | _,_,.ty b,_=>.ty b
  | _,_,.glb h,_=>.glb h
  | _,_,.tup h r,q=>.tup h (VRs.cut e r (by simpa only [refsLt] using q))
  | _,_,.fro h r,q=>.fro h (VRs.cut e r (by simpa only [refsLt] using q))
  | _,_,.ref h,q=>.ref (e _ _ (by simpa [refsLt] using q) h)
theorem VRs.cut {n:Nat} (e:∀ (i:Nat) a,i < n→ad[i]? = some a→ad'[i]? = some a):∀ {p:List PV} {v:List V},VRs W ad H p v→refsLts n p=true→VRs W ad' H p v
  | _,_,.nil,_=>.nil
  | _,_,.cons r t,q=>by
    simp only [refsLts,Bool.and_eq_true] at q
    exact .cons (VR.cut e r q.1) (VRs.cut e t q.2)
end
theorem DR.cut {n:Nat} (e:∀ (i:Nat) a,i < n→ad[i]? = some a→ad'[i]? = some a) {p:List (PV×PV)} {v:List (Key×V)} (h:DR W ad H p v) (q:refsLts n (p.map (·.2))=true):DR W ad' H p v:=by
  induction h with
  | nil=>exact .nil
  | cons r _ ih=>
    simp only [List.map_cons,refsLts,Bool.and_eq_true] at q
    exact .cons (VR.cut e r q.1) (ih q.2)
theorem DR.lt {p:List (PV×PV)} {v:List (Key×V)} (h:DR W ad H p v):refsLts ad.length (p.map (·.1))=true∧refsLts ad.length (p.map (·.2))=true:=by
  induction h with
  | nil=>simp [refsLts]
  | cons r _ ih=>
    simp only [List.map_cons,refsLts,Bool.and_eq_true]
    exact ⟨⟨by rename_i k _ _ _ _ _;cases k <;> simp [keyP,refsLt],ih.1⟩,VR.lt r,ih.2⟩
theorem refsLts_keys {n:Nat}:∀ks:List Key,refsLts n (ks.map keyP)=true
  | []=>by simp [refsLts]
  | .inl _::r=>by simpa [refsLts,refsLt,keyP] using refsLts_keys r
  | .inr _::r=>by simpa [refsLts,refsLt,keyP] using refsLts_keys r
theorem DT.go (e1:∀ (i:Nat) a,ad[i]? = some a→ad'[i]? = some a) (e2:∀a o,H a=some o→Imu o→H' a=some o) {p:List (PV×PV)} {v:List (NK×Addr×V)} (h:DT W ad H p v):DT W ad' H' p v:=by
  induction h with
  | nil=>exact .nil
  | cons s k r _ ih=>exact .cons s (VR.go e1 e2 k) (VR.go e1 e2 r) ih
theorem DT.cut {n:Nat} (e:∀ (i:Nat) a,i < n→ad[i]? = some a→ad'[i]? = some a) {p:List (PV×PV)} {v:List (NK×Addr×V)} (h:DT W ad H p v) (q:refsLts n (p.map (·.2))=true):DT W ad' H p v:=by
  induction h with
  | nil=>exact .nil
  | cons s k r _ ih=>
    simp only [List.map_cons,refsLts,Bool.and_eq_true] at q
    exact .cons s (VR.cut e k (tk_refs s)) (VR.cut e r q.1) (ih q.2)
theorem DT.lt {p:List (PV×PV)} {v:List (NK×Addr×V)} (h:DT W ad H p v):refsLts ad.length (p.map (·.1))=true∧refsLts ad.length (p.map (·.2))=true:=by
  induction h with
  | nil=>simp [refsLts]
  | cons s k r _ ih=>
    simp only [List.map_cons,refsLts,Bool.and_eq_true]
    exact ⟨⟨VR.lt k,ih.1⟩,VR.lt r,ih.2⟩
theorem FR.go (e1:∀ (i:Nat) a,ad[i]? = some a→ad'[i]? = some a) (e2:∀a o,H a=some o→Imu o→H' a=some o) {p:List (PV×PV)} {v:List (Str×V)} (h:FR W ad H p v):FR W ad' H' p v:=by
  induction h with
  | nil=>exact .nil
  | cons r _ ih=>exact .cons (VR.go e1 e2 r) ih
theorem FR.lt {p:List (PV×PV)} {v:List (Str×V)} (h:FR W ad H p v):refsLts ad.length (p.map (·.1))=true∧refsLts ad.length (p.map (·.2))=true:=by
  induction h with
  | nil=>simp [refsLts]
  | cons r _ ih=>
    simp only [List.map_cons,refsLts,Bool.and_eq_true]
    exact ⟨⟨rfl,ih.1⟩,VR.lt r,ih.2⟩
theorem FR.cut {n:Nat} (e:∀ (i:Nat) a,i < n→ad[i]? = some a→ad'[i]? = some a) {p:List (PV×PV)} {v:List (Str×V)} (h:FR W ad H p v) (q:refsLts n (p.map (·.2))=true):FR W ad' H p v:=by
  induction h with
  | nil=>exact .nil
  | cons r _ ih=>
    simp only [List.map_cons,refsLts,Bool.and_eq_true] at q
    exact .cons (VR.cut e r q.1) (ih q.2)
theorem OR.lt {o:PO} {a:Addr} (h:OR W ad H o a):objLt ad.length o=true:=by?
  cases o with
  | dsk s fs j l xs=>
    obtain ⟨C,dx,w,eb,Cb,dxb,el,vs0,ws,h1,h2,h3,h4,h5,h6,h7,h8,h9,h10⟩:=h
    simp only [objLt,Bool.and_eq_true,decide_eq_true_eq]
    exact ⟨VR.lt h3,⟨⟨FR.lt h10,(List.getElem?_eq_some_iff.mp h4).1⟩,(List.getElem?_eq_some_iff.mp h7).1⟩,VRs.lt h9⟩
  | lst xs=>obtain ⟨vs,_,r⟩:=h;exact VRs.lt r
  | dic kvs=>
    obtain ⟨ws,_,r⟩:=h
    simp only [objLt,Bool.and_eq_true]
    exact DR.lt r
  | set xs=>
    obtain ⟨S,ks,_,e,_⟩:=h
    subst e
    exact refsLts_keys ks
  | dead=>rfl
  | dct kvs=>
    obtain ⟨es,_,r⟩:=h
    simp only [objLt,Bool.and_eq_true]
    exact DT.lt r
  | fdc kvs=>
    obtain ⟨es,_,_,r⟩:=h
    simp only [objLt,Bool.and_eq_true]
    exact DT.lt r
  | exn c p=>obtain ⟨_,_,_,_,_,_,r⟩:=h;exact VR.lt r
  | tab q=>rfl
  | bex q=>rfl
  | hid=>rfl
  | obj c fs b j xs=>
    rcases h with ⟨_,hb,hp,⟨ws,_,dr⟩,ea,vs,hj,_,r⟩ | ⟨_,C,dx,vs,ws,_,_,r,k⟩
    · simp only [objLt,Bool.and_eq_true]
      have l:=DR.lt dr
      subst hb
      exact ⟨⟨⟨(fillP_lt l.1 l.2 hp.f).1,fillP_vals l.2 hp.all⟩,by simpa using (List.getElem?_eq_some_iff.mp hj).1⟩,VRs.lt r⟩
    simp only [objLt,Bool.and_eq_true]
    cases b with
    | false=>exact ⟨⟨FR.lt k,rfl⟩,VRs.lt r⟩
    | true=>
      obtain ⟨ea,vs0,hj,_,_,k⟩:=k
      exact ⟨⟨FR.lt k,by simpa using (List.getElem?_eq_some_iff.mp hj).1⟩,VRs.lt r⟩
theorem OR.cut {n:Nat} (e:∀ (i:Nat) a,i < n→ad[i]? = some a→ad'[i]? = some a) {o:PO} {a:Addr} (h:OR W ad H o a) (q:objLt n o=true):OR W ad' H o a:=by?
  cases o with
  | dsk s fs j l xs=>
    obtain ⟨C,dx,w,eb,Cb,dxb,el,vs0,ws,h1,h2,h3,h4,h5,h6,h7,h8,h9,h10⟩:=h
    simp only [objLt,Bool.and_eq_true,decide_eq_true_eq] at q
    exact ⟨C,dx,w,eb,Cb,dxb,el,vs0,ws,h1,h2,VR.cut e h3 q.1,e _ _ q.2.1.1.2 h4,h5,h6,e _ _ q.2.1.2 h7,h8,VRs.cut e h9 q.2.2,FR.cut e h10 q.2.1.1.1.2⟩
  | lst xs=>obtain ⟨vs,h1,r⟩:=h;exact ⟨vs,h1,VRs.cut e r q⟩
  | dic kvs=>
    obtain ⟨ws,h1,r⟩:=h
    simp only [objLt,Bool.and_eq_true] at q
    exact ⟨ws,h1,DR.cut e r q.2⟩
  | set xs=>obtain ⟨S,ks,h1,r⟩:=h;exact ⟨S,ks,h1,r⟩
  | dead=>exact h
  | dct kvs=>
    obtain ⟨es,h1,r⟩:=h
    simp only [objLt,Bool.and_eq_true] at q
    exact ⟨es,h1,DT.cut e r q.2⟩
  | fdc kvs=>
    obtain ⟨es,o,h1,r⟩:=h
    simp only [objLt,Bool.and_eq_true] at q
    exact ⟨es,o,h1,DT.cut e r q.2⟩
  | exn c p=>obtain ⟨C,d,v,h1,h2,h3,r⟩:=h;exact ⟨C,d,v,h1,h2,h3,VR.cut e r q⟩
  | tab q=>exact h
  | bex q=>exact h
  | hid=>exact h
  | obj c fs b j xs=>
    simp only [objLt,Bool.and_eq_true] at q
    rcases h with ⟨hc,hb,hp,⟨ws,hd,dr⟩,ea,vs,hj,he,r⟩ | ⟨hc,C,dx,vs,ws,h1,h2,r,k⟩
    · have hjn:j < n:=by subst hb;simpa using q.1.2
      exact .inl ⟨hc,hb,hp,⟨ws,hd,DR.cut e dr (fillP_of hjn q.1.1.2)⟩,ea,vs,e _ _ hjn hj,he,VRs.cut e r q.2⟩
    refine .inr ⟨hc,C,dx,vs,ws,h1,h2,VRs.cut e r q.2,?_⟩
    cases b with
    | false=>exact FR.cut e k q.1.1.2
    | true=>
      obtain ⟨ea,vs0,hj,he,hv,k⟩:=k
      exact ⟨ea,vs0,e _ _ (by simpa using q.1.2) hj,he,hv,FR.cut e k q.1.1.2⟩
theorem OR.go (e1:∀ (i:Nat) a,ad[i]? = some a→ad'[i]? = some a) (e2:∀a o,H a=some o→Imu o→H' a=some o) {o:PO} {a:Addr} (h:OR W ad H o a) (ha:H' a=H a) (hh:∀j,j∈hidO o→∀ea,ad[j]? = some ea→H' ea=H ea):OR W ad' H' o a:=by?
  cases o with
  | dsk s fs j l xs=>
    obtain ⟨C,dx,w,eb,Cb,dxb,el,vs0,ws,h1,h2,h3,h4,h5,h6,h7,h8,h9,h10⟩:=h
    exact ⟨C,dx,w,eb,Cb,dxb,el,vs0,ws,h1,ha.trans h2,VR.go e1 e2 h3,e1 _ _ h4,h5,(hh j (by simp [hidO]) eb h4).trans h6,e1 _ _ h7,(hh l (by simp [hidO]) el h7).trans h8,VRs.go e1 e2 h9,FR.go e1 e2 h10⟩
  | lst xs=>obtain ⟨vs,h1,r⟩:=h;exact ⟨vs,ha.trans h1,VRs.go e1 e2 r⟩
  | dic kvs=>obtain ⟨ws,h1,r⟩:=h;exact ⟨ws,ha.trans h1,DR.go e1 e2 r⟩
  | set xs=>obtain ⟨S,ks,h1,r⟩:=h;exact ⟨S,ks,ha.trans h1,r⟩
  | dead=>obtain ⟨u,e⟩:=h;exact ⟨u,ha.trans e⟩
  | dct kvs=>obtain ⟨es,h1,r⟩:=h;exact ⟨es,ha.trans h1,DT.go e1 e2 r⟩
  | fdc kvs=>obtain ⟨es,o,h1,r⟩:=h;exact ⟨es,o,ha.trans h1,DT.go e1 e2 r⟩
  | exn c p=>obtain ⟨C,d,v,h1,h2,h3,r⟩:=h;exact ⟨C,d,v,h1,ha.trans h2,e2 _ _ h3 trivial,VR.go e1 e2 r⟩
  | bex q=>obtain ⟨C,h1,h2⟩:=h;exact ⟨C,h1,ha.trans h2⟩
  | hid=>exact h.imp (fun ⟨ws,h1⟩=>⟨ws,ha.trans h1⟩) fun ⟨C,dx,vs,h1⟩=>⟨C,dx,vs,ha.trans h1⟩
  | obj c fs b j xs=>
    rcases h with ⟨hc,hb,hp,⟨ws,hd,dr⟩,ea,vs,hj,he,r⟩ | ⟨hc,C,dx,vs,ws,h1,h2,r,k⟩
    · subst hb
      exact .inl ⟨hc,rfl,hp,⟨ws,ha.trans hd,DR.go e1 e2 dr⟩,ea,vs,e1 _ _ hj,(hh j (by simp [hidO]) ea hj).trans he,VRs.go e1 e2 r⟩
    refine .inr ⟨hc,C,dx,vs,ws,h1,ha.trans h2,VRs.go e1 e2 r,?_⟩
    cases b with
    | false=>exact FR.go e1 e2 k
    | true=>
      obtain ⟨ea,vs0,hj,he,hv,k⟩:=k
      exact ⟨ea,vs0,e1 _ _ hj,(hh j (by simp [hidO]) ea hj).trans he,hv,FR.go e1 e2 k⟩
  | tab q=>
    obtain ⟨⟨ps,h1,h2,h3⟩,ht⟩:=h
    refine ⟨⟨ps,ha.trans h1,h2,fun pos cv hc=>?_⟩,ht⟩
    obtain ⟨c,k1,k2⟩:=h3 pos cv hc
    exact ⟨c,k1,e2 _ _ k2 (codeO_imu _ _)⟩
theorem OR.some {o:PO} {a:Addr} (h:OR W ad H o a):∃u,H a=some u:=by?
  cases o with
  | dsk s fs j l xs=>obtain ⟨C,dx,w,eb,Cb,dxb,el,vs0,ws,h1,h2,_⟩:=h;exact ⟨_,h2⟩
  | lst xs=>obtain ⟨vs,h1,r⟩:=h;exact ⟨_,h1⟩
  | dic kvs=>obtain ⟨ws,h1,r⟩:=h;exact ⟨_,h1⟩
  | set xs=>obtain ⟨S,ks,h1,r⟩:=h;exact ⟨_,h1⟩
  | dead=>exact h
  | dct kvs=>obtain ⟨es,h1,r⟩:=h;exact ⟨_,h1⟩
  | fdc kvs=>obtain ⟨es,o,h1,r⟩:=h;exact ⟨_,h1⟩
  | exn c p=>obtain ⟨C,d,v,h1,h2,r⟩:=h;exact ⟨_,h2⟩
  | tab q=>obtain ⟨⟨ps,h1,r⟩,_⟩:=h;exact ⟨_,h1⟩
  | bex q=>obtain ⟨C,h1,h2⟩:=h;exact ⟨_,h2⟩
  | hid=>rcases h with ⟨ws,h1⟩ | ⟨C,dx,vs,h1⟩ <;> exact ⟨_,h1⟩
  | obj c fs b j xs=>
    rcases h with ⟨_,_,_,⟨ws,hd,_⟩,_⟩ | ⟨_,C,dx,vs,ws,h1,h2,_⟩
    · exact ⟨_,hd⟩
    · exact ⟨_,h2⟩
end
section
variable (W:Wd)
/-- the store stands in the heap -/
structure RO (ad:List Addr) (H:Hp) (st:Store):Prop where
  len:st.length=ad.length
  nd:ad.Nodup
  obj:∀ (i:Nat) o a,st[i]? = some o→ad[i]? = some a→OR W ad H o a
  hid:HdOk st
structure RS (ad:List Addr) (H:Hp) (st:Store) (σp:Slots) (σ:L2.St):Prop where
  ro:RO W ad H st
  sl:∀ (i:Nat) p,σp[i]? = some (some p)→∃v,σ[i]? = some (some v)∧VR W ad H p v
  ln:σp.length=σ.length
/-- what is wanted of an outcome -/
noncomputable
def RdG {α:Type} (r:Res α) (ad:List Addr) (H:Hp) (G:α→List Addr→Hp→Prop):Prop:=match r with
  | .ok x=>∀ad' H',Ext ad H ad' H'→G x ad' H'
  | _=>False
noncomputable
def RdE (r:Res (PV×Store)) (ad:List Addr) (H:Hp) (Q:VK):Prop:=RdG r ad H fun x ad' H'=>RO W ad' H' x.2→∀v,VR W ad' H' x.1 v→Q v H'
noncomputable
def RdA (r:Res (List PV×Store)) (ad:List Addr) (H:Hp) (Q:List V→Hp→Prop):Prop:=RdG r ad H fun x ad' H'=>RO W ad' H' x.2→∀v,VRs W ad' H' x.1 v→Q v H'
noncomputable
def RdT (r:Res (Bool×Store)) (ad:List Addr) (H:Hp) (Q:Bool→Hp→Prop):Prop:=RdG r ad H fun x ad' H'=>RO W ad' H' x.2→Q x.1 H'
noncomputable
def RdS (r:Res (Fl×Slots×Store)) (ad:List Addr) (H:Hp) (D:Ends):Prop:=RdG r ad H fun x ad' H'=>match x.1 with
  | .nx=>∀σ',RS W ad' H' x.2.2 x.2.1 σ'→D.nx σ' H'
  | .bk=>∀σ',RS W ad' H' x.2.2 x.2.1 σ'→D.bk σ' H'
  | .ct=>∀σ',RS W ad' H' x.2.2 x.2.1 σ'→D.ct σ' H'
  | .rt p=>RO W ad' H' x.2.2→∀v,VR W ad' H' p v→D.rt v H'
noncomputable
def tOfE (m:EvE):TE:=fun σ H Q=>∃ad st σp,RS W ad H st σp σ∧RdE W (m σp st) ad H Q
noncomputable
def tOfA (m:EvA):TA:=fun σ H Q=>∃ad st σp,RS W ad H st σp σ∧RdA W (m σp st) ad H Q
noncomputable
def tOfT (m:EvT):TT:=fun σ H Q=>∃ad st σp,RS W ad H st σp σ∧RdT W (m σp st) ad H Q
noncomputable
def tOfS (m:EvS):TS:=fun D σ H=>∃ad st σp,RS W ad H st σp σ∧RdS W (m σp st) ad H D
end
noncomputable
abbrev _root_.L2.Cx.wd (X:Cx):Wd:=⟨X.K,X.mg,X.prog,X.w⟩
/-- the judgements -/
noncomputable
def SE (X:Cx) (e:Expr) (m:EvE):Prop:=PE X e (tOfE X.wd m)
noncomputable
def SA (X:Cx) (es:List Expr) (m:EvA):Prop:=PA X es (tOfA X.wd m)
noncomputable
def ST (X:Cx) (e:Expr) (m:EvT):Prop:=PT X e (tOfT X.wd m)
noncomputable
def SW (X:Cx) (e:Expr) (m:EvT):Prop:=PW X e (tOfT X.wd m)
noncomputable
def SS (X:Cx) (s:Stmt) (m:EvS):Prop:=PS X s (tOfS X.wd m)
noncomputable
def SSs (X:Cx) (s:List Stmt) (m:EvS):Prop:=PSs X s (tOfS X.wd m)
mutual
/-- a target's reading -/
noncomputable
def rdG (K:PySem.W.Frag):Tg→TG
  | .nm i=>L2.gName i
  | .tp ts=>L2.gTup K ts.length (rdGs K ts)
noncomputable
def rdGs (K:PySem.W.Frag):List Tg→TGs
  | []=>gNil
  | t::ts=>gCons (rdG K t) (rdGs K ts)
end
noncomputable
def SG (X:Cx) (e:Expr) (t:Tg):Prop:=PG X e (rdG X.K t)
noncomputable
def SGs (X:Cx) (es:List Expr) (ts:List Tg):Prop:=PGs X es (rdGs X.K ts)
section
variable {W:Wd} {ad ad':List Addr} {H H':Hp} {st:Store} {σp:Slots} {σ:L2.St}
theorem RO.some (h:RO W ad H st) {a:Addr} (ha:a∈ad):∃u,H a=some u:=by
  obtain ⟨i,hi,e⟩:=List.getElem_of_mem ha
  have hs:i < st.length:=by rw [h.len];exact hi
  exact (h.obj i st[i] a (List.getElem?_eq_getElem hs) (by rw [List.getElem?_eq_getElem hi,e])).some
theorem RO.get (h:RO W ad H st) {i:Nat} {o:PO} (e:st[i]? = Option.some o):∃a,ad[i]? = Option.some a∧OR W ad H o a:=by
  have hi:i < ad.length:=by rw [← h.len];exact (List.getElem?_eq_some_iff.mp e).1
  exact ⟨ad[i],List.getElem?_eq_getElem hi,h.obj i o _ e (List.getElem?_eq_getElem hi)⟩
theorem Ext.fresh {p:Addr} {o:HO} (hp:H p=none):Ext ad H ad (upd H p o):=by
  refine ⟨⟨[],by simp⟩,fun a u h _=>?_,fun a h n=>absurd h n,fun a u h _=>?_⟩ <;> (rw [upd_ne (ne_of_none h hp)];exact h)
theorem Ext.alloc {p:Addr} {o:HO} (hp:H p=none):Ext ad H (ad++[p]) (upd H p o):=by
  refine ⟨⟨[p],rfl⟩,fun a u h _=>?_,fun a h n=>?_,fun a u h _=>?_⟩
  · rw [upd_ne (ne_of_none h hp)];exact h
  · rcases List.mem_append.mp h with z | z
    · exact absurd z n
    · rw [List.mem_singleton.mp z];exact hp
  · rw [upd_ne (ne_of_none h hp)];exact h
theorem RO.not_mem (h:RO W ad H st) {p:Addr} (hp:H p=none):p∉ad:=fun hm=>by
  obtain ⟨u,e⟩:=h.some hm
  rw [hp] at e;cases e
theorem RO.same (h:RO W ad H st) (e:Ext ad H ad H') (s:∀a∈ad,H' a=H a):RO W ad H' st:=
  ⟨h.len,h.nd,fun i o a h1 h2=>(h.obj i o a h1 h2).go (fun _ _ q=>q) e.imm (s a (List.mem_of_getElem? h2)) fun _ _ ea q=>s ea (List.mem_of_getElem? q),h.hid⟩
theorem RO.fresh (h:RO W ad H st) {p:Addr} {o:HO} (hp:H p=none):RO W ad (upd H p o) st:=
  h.same (.fresh hp) fun a ha=>upd_ne fun e=>h.not_mem hp (e ▸ ha)
theorem RO.alloc (h:RO W ad H st) {p:Addr} {o:HO} {u:PO} (hp:H p=none) (r:OR W (ad++[p]) (upd H p o) u p) (hu:hidO u=[]:=by rfl):RO W (ad++[p]) (upd H p o) (st++[u]):=by?
  have hn:=h.not_mem hp
  refine ⟨by simp [h.len],?_,fun i v a h1 h2=>?_,h.hid.add hu⟩
  · refine List.nodup_append.mpr ⟨h.nd,by simp,fun a ha b hb=>?_⟩
    rw [List.mem_singleton.mp hb]
    exact fun e=>hn (e ▸ ha)
  · by_cases hi:i < ad.length
    · rw [List.getElem?_append_left hi] at h2
      rw [List.getElem?_append_left (by rw [h.len];exact hi)] at h1
      have e:=Ext.alloc (ad:=ad) (o:=o) hp
      exact (h.obj i v a h1 h2).go (fun _ _ q=>e.at q) e.imm (upd_ne fun z=>hn (z ▸ List.mem_of_getElem? h2)) fun _ _ ea q=>upd_ne fun z=>hn (z ▸ List.mem_of_getElem? q)
    · have hi':i=ad.length:=by
        have:=(List.getElem?_eq_some_iff.mp h2).1
        simp at this
        omega
      subst hi'
      rw [List.getElem?_append_right (Nat.le_refl _)] at h2
      rw [List.getElem?_append_right (by rw [h.len];exact Nat.le_refl _),h.len] at h1
      simp at h1 h2
      subst h1;subst h2
      exact r
theorem Ext.write (h:RO W ad H st) {a:Addr} {o:HO} (ha:a∈ad) (ni:∀u,H a=Option.some u→¬ Imu u):Ext ad H ad (upd H a o):=by
  obtain ⟨u,e⟩:=h.some ha
  refine ⟨⟨[],by simp⟩,fun b v hb n=>?_,fun b hb n=>absurd hb n,fun b v hb i=>?_⟩
  · rw [upd_ne fun z=>n (by rw [z];exact ha)];exact hb
  · rw [upd_ne fun z=>by subst z;rw [e] at hb;cases hb;exact ni _ e i];exact hb
theorem RO.write (h:RO W ad H st) {i:Nat} {a:Addr} {o:HO} {u:PO} (ha:ad[i]? = Option.some a) (r:OR W ad (upd H a o) u a) (ni:∀u,H a=Option.some u→¬ Imu u) (hnh:∃o,st[i]? = Option.some o∧o≠.hid:=by exact ⟨_,by assumption,by simp⟩) (hu:hidO u=[]:=by rfl):RO W ad (upd H a o) (st.set i u):=by?
  have hm:=List.mem_of_getElem? ha
  have e:=Ext.write (o:=o) h hm ni
  have hi:i < ad.length:=(List.getElem?_eq_some_iff.mp ha).1
  refine ⟨by rw [List.length_set,h.len],h.nd,fun j v b h1 h2=>?_,h.hid.put hnh hu⟩
  by_cases hj:j=i
  · subst hj
    rw [ha] at h2;cases h2
    rw [List.getElem?_set_self (by rw [h.len];exact hi)] at h1
    cases h1
    exact r
  · rw [List.getElem?_set_ne (Ne.symm hj)] at h1
    have un:∀ {k:Nat} {c:Addr},ad[k]? = Option.some c→c=a→k=i:=fun {k c} q z=>by
      subst z
      obtain ⟨h3,h4⟩:=List.getElem?_eq_some_iff.mp q
      obtain ⟨h5,h6⟩:=List.getElem?_eq_some_iff.mp ha
      exact (List.getElem_inj h.nd).mp (h4.trans h6.symm)
    refine (h.obj j v b h1 h2).go (fun _ _ q=>q) e.imm (upd_ne fun z=>hj (un h2 z)) fun k hk ea q=>upd_ne fun z=>?_
    have e1:=un q z
    subst e1
    obtain ⟨o0,e0,n0⟩:=hnh
    rw [h.hid.1 j v k h1 hk] at e0
    exact n0 (Option.some.inj e0).symm
theorem RS.mono (S:RS W ad H st σp σ) (e:Ext ad H ad' H') {st':Store} (r:RO W ad' H' st'):RS W ad' H' st' σp σ:=
  ⟨r,fun i p h=>let ⟨v,h1,h2⟩:=S.sl i p h;⟨v,h1,h2.mono e⟩,S.ln⟩
theorem RS.set (S:RS W ad H st σp σ) {i:Nat} {p:PV} {v:V} (r:VR W ad H p v):RS W ad H st (σp.set i (Option.some p)) (σ.set i (Option.some v)):=by?
  refine ⟨S.ro,fun j q h=>?_,by rw [List.length_set,List.length_set,S.ln]⟩
  by_cases hj:j=i
  · subst hj
    have hl:j < σp.length:=by have:=(List.getElem?_eq_some_iff.mp h).1;rwa [List.length_set] at this
    rw [List.getElem?_set_self hl] at h
    cases h
    exact ⟨v,List.getElem?_set_self (by rw [← S.ln];exact hl),r⟩
  · rw [List.getElem?_set_ne (Ne.symm hj)] at h ⊢
    exact S.sl j q h
theorem RdG.mono {α:Type} {r:Res α} {G:α→List Addr→Hp→Prop} (h:RdG r ad H G) (e:Ext ad H ad' H'):RdG r ad' H' G:=by
  cases r with
  | ok x=>exact fun ad2 H2 e2=>h ad2 H2 (e.trans e2)
  | exc _ _ _=>exact h
  | stuck=>exact h
theorem RdG.imp {α:Type} {r:Res α} {G G':α→List Addr→Hp→Prop} (h:RdG r ad H G) (g:∀x ad' H',r=.ok x→Ext ad H ad' H'→G x ad' H'→G' x ad' H'):RdG r ad H G':=by
  cases r with
  | ok x=>exact fun ad2 H2 e2=>g x ad2 H2 rfl e2 (h ad2 H2 e2)
  | exc _ _ _=>exact h
  | stuck=>exact h
/-- an outcome,then more -/
theorem RdG.bind {α β:Type} {r:Res α} {f:α→Res β} {G:β→List Addr→Hp→Prop} (h:RdG (r >>= f) ad H G):RdG r ad H fun x ad' H'=>RdG (f x) ad' H' G:=by
  cases r with
  | ok x=>exact fun ad2 H2 e2=>RdG.mono (r:=f x) h e2
  | exc _ _ _=>exact h
  | stuck=>exact h
/-- what a rule's reading asks of a part -/
theorem goE {α:Type} {m:EvE} {f:PV×Store→Res α} {G:α→List Addr→Hp→Prop} {R:VK} (S:RS W ad H st σp σ) (h:RdG (m σp st >>= f) ad H G)
    (k:∀x ad' H' v,m σp st=.ok x→Ext ad H ad' H'→RS W ad' H' x.2 σp σ→VR W ad' H' x.1 v→RdG (f x) ad' H' G→R v H'):tOfE W m σ H R:=
  ⟨ad,st,σp,S,h.bind.imp fun x ad' H' e1 e2 g r v hv=>k x ad' H' v e1 e2 (S.mono e2 r) hv g⟩
theorem goA {α:Type} {m:EvA} {f:List PV×Store→Res α} {G:α→List Addr→Hp→Prop} {R:List V→Hp→Prop} (S:RS W ad H st σp σ) (h:RdG (m σp st >>= f) ad H G)
    (k:∀x ad' H' v,m σp st=.ok x→Ext ad H ad' H'→RS W ad' H' x.2 σp σ→VRs W ad' H' x.1 v→RdG (f x) ad' H' G→R v H'):tOfA W m σ H R:=
  ⟨ad,st,σp,S,h.bind.imp fun x ad' H' e1 e2 g r v hv=>k x ad' H' v e1 e2 (S.mono e2 r) hv g⟩
theorem goT {α:Type} {m:EvT} {f:Bool×Store→Res α} {G:α→List Addr→Hp→Prop} {R:Bool→Hp→Prop} (S:RS W ad H st σp σ) (h:RdG (m σp st >>= f) ad H G)
    (k:∀x ad' H',m σp st=.ok x→Ext ad H ad' H'→RS W ad' H' x.2 σp σ→RdG (f x) ad' H' G→R x.1 H'):tOfT W m σ H R:=
  ⟨ad,st,σp,S,h.bind.imp fun x ad' H' e1 e2 g r=>k x ad' H' e1 e2 (S.mono e2 r) g⟩
theorem RdG.ok {α:Type} {x:α} {G:α→List Addr→Hp→Prop} (h:RdG (.ok x) ad H G):G x ad H:=h ad H (.refl ad H)
end
theorem PE.to {X:Cx} {e:Expr} {t t':TE} (h:PE X e t) (i:∀σ H Q,t' σ H Q→t σ H Q):PE X e t':=⟨fun pins s σ H Q I q=>h.run pins s σ H Q I (i σ H Q q)⟩
theorem PA.to {X:Cx} {e:List Expr} {t t':TA} (h:PA X e t) (i:∀σ H Q,t' σ H Q→t σ H Q):PA X e t':=⟨fun p pins s σ H Q I q=>h.run p pins s σ H Q I (i σ H Q q)⟩
theorem PT.to {X:Cx} {e:Expr} {t t':TT} (h:PT X e t) (i:∀σ H Q,t' σ H Q→t σ H Q):PT X e t':=⟨fun pins s σ H Q I q=>h.run pins s σ H Q I (i σ H Q q)⟩
theorem PW.to {X:Cx} {e:Expr} {t t':TT} (h:PW X e t) (i:∀σ H Q,t' σ H Q→t σ H Q):PW X e t':=⟨fun wh pins s σ H Q I q=>h.run wh pins s σ H Q I (i σ H Q q)⟩
theorem PS.to {X:Cx} {e:Stmt} {t t':TS} (h:PS X e t) (i:∀D σ H,t' D σ H→t D σ H):PS X e t':=⟨fun pins s σ H D I q=>h.run pins s σ H D I (i D σ H q)⟩
theorem PSs.to {X:Cx} {e:List Stmt} {t t':TS} (h:PSs X e t) (i:∀D σ H,t' D σ H→t D σ H):PSs X e t':=⟨fun pins s σ H D I q=>h.run pins s σ H D I (i D σ H q)⟩
/-- wanted of a new tuple,whatever its place and its items' tokens -/
noncomputable
def NewT (H:Hp) (xs:List V) (Q:VK):Prop:=∀ (p:Addr) (its:List Value),H p=none→Q (.ref p) (upd H p (.frz (tupObj its) (.tup xs)))
section
variable {X:Cx} {pins:List (Addr×Obj)} {σ:L2.St} {H:Hp} {s:Shared}
theorem newT_ok {xs:List V} {its:List Value} {Q:VK} (I:Inv X pins σ H s) (r:Vals xs its) (hz:xs.length≤sizeLine) (q:NewT H xs Q) :
    EP X pins σ Q (.ref s.heap.objs.size) { s with heap:=s.heap.push (tupObj its) }:=by?
  have e0:=Heap.get?_push_size s.heap (o:=tupObj its) rfl
  refine ⟨.ref s.heap.objs.size,upd H s.heap.objs.size (.frz (tupObj its) (.tup xs)),?_,rfl,q _ its (I.hok.fresh (Nat.le_refl _))⟩
  refine I.laid (t':=s.toks) (o:=.frz (tupObj its) (.tup xs)) (fun b u e=>?_) (Nat.le_refl _) ⟨e0,hz,its,r,_,e0,rfl,_,rfl⟩
  exact Heap.get?_push_of_some _ e
theorem pe_tupU {es:List Expr} {t:TA} {pos:Pos} {k} (h:PA X es t) :
    PE X (.Tuple es k pos) (fun σ H Q=>t σ H fun xs H1=>xs.length≤sizeLine∧NewT H1 xs Q):=by
  constructor
  intro pins s σ H Q I hq
  apply wpAny_Tuple_spliced
  refine thn (h.run pos pins s σ H _ I hq) ?_
  rintro us s1 ⟨xs,H1,I1,r,z,q⟩
  exact ⟨by rw [← r.length];exact z,newT_ok I1 r z q⟩
theorem op_catU:OpR X (binaryOp .Add) (fun x y H Q=>∃a b xs ys,x=.ref a∧y=.ref b∧SqT X.K H a xs∧SqT X.K H b ys∧xs.length+ys.length≤sizeLine ∧
    (xs=[]→Q (.ref b) H)∧(xs≠[]→ys=[]→Q (.ref a) H)∧(xs≠[]→ys≠[]→NewT H (xs++ys) Q)):=by?
  intro pins s σ H x y v u Q I rx ry h
  obtain ⟨a,b,xs,ys,e1,e2,ha,hb,hz,q0,q1,q2⟩:=h
  subst e1;subst e2;cases rx;cases ry
  obtain ⟨i1,r1,p1,z1⟩:=I.tuple ha
  obtain ⟨i2,r2,p2,z2⟩:=I.tuple hb
  by_cases hx:xs=[]
  · subst hx
    cases r1
    exact cat_tup0 p1 p2 ⟨.ref b,H,I,rfl,q0 rfl⟩
  · have hi:i1≠[]:=fun e=>hx (r1.nil_iff.mp e)
    refine HT.cat_tup p1 p2 hi ?_ ?_ (by rw [← r1.length,← r2.length];exact hz)
    · exact fun e=>⟨.ref a,H,I,rfl,q1 hx (r2.nil_iff.mp e)⟩
    · exact fun e=>newT_ok I (r1.append r2) (by rw [List.length_append];exact hz) (q2 hx fun w=>e (r2.nil_iff.mpr w))
theorem sl_tupU:SlR X (fun x lo hi H Q=>∃a xs,x=.ref a∧SqT X.K H a xs ∧
    (HT.sIx xs.length 0 lo=0∧HT.sIx xs.length xs.length hi=xs.length→Q (.ref a) H) ∧
    (¬ (HT.sIx xs.length 0 lo=0∧HT.sIx xs.length xs.length hi=xs.length)→NewT H (cutV xs lo hi) Q)):=by?
  intro pins s σ H x v vl vu lo hi sl Q I rx hs pl pu h
  obtain ⟨a,xs,e1,hx,q1,q2⟩:=h
  subst e1;cases rx
  obtain ⟨its,r,ht,hz⟩:=I.tuple hx
  have hl:its.toArray.size=xs.length:=by simpa using r.length.symm
  refine ⟨"tuple", _,PyProof.Rows.slot_tuple_getitem.lookup,ht.typeIs,?_⟩
  by_cases hw:HT.sIx xs.length 0 lo=0∧HT.sIx xs.length xs.length hi=xs.length
  · exact getItem_tuple_whole ht hs pl pu (by rw [hl];exact hw) ⟨.ref a,H,I,rfl,q1 hw⟩
  · refine HT.getItem_tuple_cut ht hs pl pu (by rw [hl];exact hw) ?_ (by rw [hl];exact hz)
    rw [hl]
    have hr:Vals (cutV xs lo hi) ((its.drop (HT.sIx xs.length 0 lo)).take (HT.sIx xs.length xs.length hi - HT.sIx xs.length 0 lo)):=(r.drop _).take _
    exact newT_ok I hr (Nat.le_trans (cutV_length xs lo hi) hz) (q2 hw)
end
noncomputable
abbrev LSt:=L2.St
section
variable {W:Wd} {ad ad':List Addr} {H H':Hp} {st:Store}
theorem oldOk_at {n:Nat}:∀ {s t:Store},oldOk n s t=true→∀ (i:Nat) o u,s[i]? = some o→t[i]? = some u→u=o∨objLt n u=true
  | [],_,_,i,_,_,h,_=>by simp at h
  | _::_,[],h,_,_,_,_,_=>by simp [oldOk] at h
  | a::s,b::t,h,0,o,u,h1,h2=>by
    simp only [oldOk,Bool.and_eq_true,Bool.or_eq_true,decide_eq_true_eq] at h
    simp only [List.getElem?_cons_zero,Option.some.injEq] at h1 h2
    subst h1;subst h2
    exact h.1.symm
  | a::s,b::t,h,i+1,o,u,h1,h2=>by
    simp only [oldOk,Bool.and_eq_true] at h
    simp only [List.getElem?_cons_succ] at h1 h2
    exact oldOk_at h.2 i o u h1 h2
theorem oldOk_len {n:Nat}:∀ {s t:Store},oldOk n s t=true→s.length≤t.length
  | [],_,_=>Nat.zero_le _
  | _::_,[],h=>by simp [oldOk] at h
  | a::s,b::t,h=>by
    simp only [oldOk,Bool.and_eq_true] at h
    simpa using oldOk_len h.2
/-- the old part of a store -/
theorem RO.old (h0:RO W ad H st) {st':Store} {t:List Addr} (h:RO W (ad++t) H' st') (ok:oldOk st.length st st'=true):RO W ad H' (st'.take st.length):=by?
  have hl:=oldOk_len ok
  have lt_:∀ (i:Nat) (o:PO) (j:Nat),i < st.length→st'[i]? = Option.some o→j∈hidO o→j < st.length:=fun i o j hi h1 hj=>by
    have q:=oldOk_at ok i st[i] o (List.getElem?_eq_getElem hi) h1
    rcases q with e | e
    · subst e
      exact (List.getElem?_eq_some_iff.mp (h0.hid.1 i _ j (List.getElem?_eq_getElem hi) hj)).1
    · exact hidO_lt hj e
  refine ⟨by rw [List.length_take,Nat.min_eq_left hl,h0.len],h0.nd,fun i o a h1 h2=>?_,h.hid.take lt_⟩
  have hi:i < ad.length:=(List.getElem?_eq_some_iff.mp h2).1
  have hi':i < st.length:=by rw [h0.len];exact hi
  rw [List.getElem?_take_of_lt hi'] at h1
  have r:=h.obj i o a h1 (by rw [List.getElem?_append_left hi];exact h2)
  have q:=oldOk_at ok i st[i] o (List.getElem?_eq_getElem hi') h1
  refine r.cut (n:=st.length) (fun j b hj e=>at_cut (Nat.le_of_eq h0.len) hj e) ?_
  rcases q with e | e
  · subst e
    rw [h0.len]
    exact (h0.obj i _ a (List.getElem?_eq_getElem hi') h2).lt
  · exact e
theorem Ext.cut {t:List Addr} (e:Ext ad H (ad++t) H'):Ext ad H ad H':=⟨⟨[],by simp⟩,e.frm,fun a h n=>absurd h n,e.imm⟩
/-- what is forgotten was not asked of -/
theorem rd_gc {r:Res (PV×Store)} {Q:VK} (h0:RO W ad H st) (h:RdE W (gcR st r) ad H Q):RdE W r ad H Q:=by?
  cases r with
  | exc _ _ _=>exact h
  | stuck=>exact h
  | ok x=>
    obtain ⟨p,st'⟩:=x
    intro ad' H' E R v V
    simp only [gcR_ok] at h
    unfold gc at h
    by_cases c0:(p,st').2.length=st.length
    · rw [if_pos c0] at h
      exact h ad' H' E R v V
    rw [if_neg c0] at h
    have E':=E
    obtain ⟨t,rfl⟩:=E.pre
    by_cases c1:oldOk st.length st st'=true
    · rw [if_pos c1] at h
      by_cases c2:refsLt st.length p=true
      · rw [if_pos c2] at h
        exact h ad H' E.cut (h0.old R c1) v (V.cut (n:=st.length) (fun j b hj e=>at_cut (Nat.le_of_eq h0.len) hj e) c2)
      · rw [if_neg c2] at h
        cases p with
        | ref i =>
          simp only at h
          cases hq:st'[i]? with
          | none=>simp only [hq] at h;exact h _ _ E R v V
          | some o=>
            simp only [hq] at h
            by_cases c3:objLt st.length o=true
            · rw [if_pos c3] at h
              cases V with
              | ref hv=>
                rename_i a
                have ha:a∉ad:=fun hm=>by
                  obtain ⟨j,hj,e⟩:=List.getElem_of_mem hm
                  obtain ⟨h3,h4⟩:=List.getElem?_eq_some_iff.mp hv
                  have hj':j < (ad++t).length:=by rw [List.length_append];omega
                  have e2:(ad++t)[j]=a:=by rw [List.getElem_append_left hj];exact e
                  have:i=j:=(List.getElem_inj R.nd).mp (h4.trans e2.symm)
                  subst this
                  apply c2
                  simp only [refsLt,decide_eq_true_eq,h0.len]
                  exact hj
                have E2:Ext ad H (ad++[a]) H':=⟨⟨[a],rfl⟩,E.frm,fun b hb n=>by
                  rcases List.mem_append.mp hb with z | z
                  · exact absurd z n
                  · rw [List.mem_singleton.mp z]
                    exact E.new a (List.mem_of_getElem? hv) ha,E.imm⟩
                have R0:=h0.old R c1
                have lt_:∀ (i:Nat) (o:PO) (j:Nat),i < st.length→st'[i]? = some o→j∈hidO o→j < st.length:=fun i o j hi h1 hj=>by
                  have q:=oldOk_at c1 i st[i] o (List.getElem?_eq_getElem hi) h1
                  rcases q with e | e
                  · subst e
                    exact (List.getElem?_eq_some_iff.mp (h0.hid.1 i _ j (List.getElem?_eq_getElem hi) hj)).1
                  · exact hidO_lt hj e
                refine h (ad++[a]) H' E2 ⟨?_,?_,fun j u b h1 h2=>?_,R.hid.gc (n:=st.length) (i:=i) (Nat.le_of_not_lt fun z=>c2 (by simp only [refsLt,decide_eq_true_eq];exact z)) hq lt_ fun j hj=>hidO_lt hj c3⟩ (.ref a) (.ref ?_)
                · rw [List.length_append,List.length_append,R0.len];rfl
                · refine List.nodup_append.mpr ⟨R0.nd,by simp,fun b hb c hc=>?_⟩
                  rw [List.mem_singleton.mp hc]
                  exact fun e=>ha (e ▸ hb)
                · by_cases hj:j < ad.length
                  · rw [List.getElem?_append_left (by rw [R0.len];exact hj)] at h1
                    rw [List.getElem?_append_left hj] at h2
                    exact (R0.obj j u b h1 h2).go (fun k c q=>by
                      have:=(List.getElem?_eq_some_iff.mp q).1
                      rw [List.getElem?_append_left this];exact q) (fun _ _ q _=>q) rfl (fun _ _ _ _=>rfl)
                  · have hj':j=ad.length:=by
                      have:=(List.getElem?_eq_some_iff.mp h2).1
                      simp at this
                      omega
                    subst hj'
                    rw [List.getElem?_append_right (Nat.le_refl _)] at h2
                    rw [List.getElem?_append_right (by rw [R0.len];exact Nat.le_refl _),R0.len] at h1
                    simp at h1 h2
                    subst h1;subst h2
                    refine (R.obj i o a hq hv).cut (n:=st.length) (fun k c hk e=>?_) c3
                    have hk':k < ad.length:=by rw [← h0.len];exact hk
                    rw [List.getElem?_append_left hk'] at e ⊢
                    exact e
                · rw [h0.len];simp
            · rw [if_neg c3] at h;exact h _ _ E R v V
        | _=>exact h _ _ E R v V
    · rw [if_neg c1] at h
      exact h _ _ E R v V
end
section
variable {X:Cx} {e a b c:Expr} {es:List Expr} {m ma mb mc:EvE} {pos:Pos}
theorem se_gc {X:Cx} {e:Expr} {m:EvE} (h:SE X e m):SE X e (fun σ st=>gcR st (m σ st)):=PE.to h fun σ H Q ⟨ad,st,σp,S,q⟩=>⟨ad,st,σp,S,rd_gc S.ro q⟩
theorem se_var (i:Nat) {x:Str} {pos:Pos} (hN:X.N[i]? = some x:=by rfl) (hv:Vis X.env.scope x:=by first | exact Or.inl rfl | exact Or.inr (Or.inl rfl) | exact Or.inr (Or.inr rfl))
    (hd:(x == ("__debug__" : Str))=false:=by decide) (hcd:(x == ("__classdict__" : Str))=false:=by decide):SE X (.Name x pos) (eVar i):=
  PE.to (pv i hN hv hd hcd) fun σ H Q ⟨ad,st,σp,S,q⟩=>by
    unfold eVar at q
    cases h:σp[i]? with
    | none=>rw [h] at q;exact q.elim
    | some o=>
      cases o with
      | none=>rw [h] at q;exact q.elim
      | some p=>
        rw [h] at q
        obtain ⟨v,h1,h2⟩:=S.sl i p h
        exact ⟨v,h1,q.ok S.ro v h2⟩
/-- a value that hangs on nothing -/
theorem se_c {p:PV} {v:V} (h:PE X e (tC v)) (hp:∀ad H,VR X.wd ad H p v):SE X e (eC p):=
  PE.to h fun σ H Q ⟨ad,st,σp,S,q⟩=>RdG.ok q S.ro v (hp ad H)
theorem se_int {i j pos}:SE X (.Constant (.int i) j pos) (eC (.int i)):=se_c pe_int fun _ _=>.int i
theorem se_bl {i j pos}:SE X (.Constant (.bool i) j pos) (eC (.bl i)):=se_c pe_bl fun _ _=>.bl i
/-- an operator of two values -/
noncomputable
def rOf (X:Cx) (F:Op2):R2:=fun x y H Q=>∃ad st p q,RO X.wd ad H st∧VR X.wd ad H p x∧VR X.wd ad H q y∧RdE X.wd (F p q st) ad H Q
noncomputable
def OpD (X:Cx) (f:Value→Value→Sem Value) (F:Op2):Prop:=OpR X f (rOf X F)
theorem OpR.to {f:Value→Value→Sem Value} {r r':R2} (h:OpR X f r) (i:∀x y H Q,r' x y H Q→r x y H Q):OpR X f r':=
  fun pins s σ H x y v u Q I rx ry q=>h pins s σ H x y v u Q I rx ry (i x y H Q q)
theorem go2 {F:Op2} {σ:LSt} {H:Hp} {Q:VK} (q:tOfE X.wd (eBin F ma mb) σ H Q):tOp (rOf X F) (tOfE X.wd ma) (tOfE X.wd mb) σ H Q:=by
  obtain ⟨ad,st,σp,S,q⟩:=q
  refine goE S q fun x ad1 H1 v e1 E1 S1 V1 q1=>goE S1 q1 fun y ad2 H2 w e2 E2 S2 V2 q2=>?_
  exact ⟨ad2,y.2,x.1,y.1,S2.ro,V1.mono E2,V2,q2⟩
theorem se_bin {op:Operator} {F:Op2} (ho:OpD X (binaryOp op) F) (ha:SE X a ma) (hb:SE X b mb):SE X (.BinOp a op b pos) (eBin F ma mb):=
  PE.to (pe_op ho ha hb) fun σ H Q q=>go2 q
theorem se_cmp {op:CmpOp} {F:Op2} (ho:OpD X (compareOp op) F) (ha:SE X a ma) (hb:SE X b mb) (hm:behindInMarks op b=false):SE X (.Compare a [op] [b] pos) (eBinG F ma mb):=
  se_gc (PE.to (pe_cmpR ho ha hb hm) fun σ H Q q=>go2 q)
noncomputable
def rUOf (X:Cx) (F:PV→Store→Res (PV×Store)):V→Hp→VK→Prop:=fun x H Q=>∃ad st p,RO X.wd ad H st∧VR X.wd ad H p x∧RdE X.wd (F p st) ad H Q
theorem se_un {op:UnaryOp} {F:PV→Store→Res (PV×Store)} (ho:UnR X (unaryOp op) (rUOf X F)) (ha:SE X a ma):SE X (.UnaryOp op a pos) (eUn F ma):=
  PE.to (pe_un ho ha) fun σ H Q ⟨ad,st,σp,S,q⟩=>goE S q fun x ad1 H1 v e1 E1 S1 V1 q1=>⟨ad1,x.2,x.1,S1.ro,V1,q1⟩
theorem UnR.to {f:Value→Sem Value} {r r':V→Hp→VK→Prop} (h:UnR X f r) (i:∀x H Q,r' x H Q→r x H Q):UnR X f r':=
  fun pins s σ H x v Q I rx q=>h pins s σ H x v Q I rx (i x H Q q)
theorem ud_neg:UnR X (unaryOp .USub) (rUOf X unNeg):=UnR.to un_neg fun x H Q ⟨ad,st,p,R,V,q⟩=>by
  cases V with
  | int i=>exact ⟨i,rfl,RdG.ok q R _ (.int _)⟩
  | _=>exact q.elim
theorem rdOk {W:Wd} {ad:List Addr} {H:Hp} {st:Store} {p:PV} {v:V} {Q:VK} (q:RdE W (.ok (p,st)) ad H Q) (R:RO W ad H st) (V:VR W ad H p v):Q v H:=RdG.ok q R v V
/-- a new list -/
theorem rdNew {W:Wd} {ad:List Addr} {H:Hp} {st:Store} {xs:List PV} {vs:List V} {Q:VK} (q:RdE W (.ok (.ref st.length,st++[.lst xs])) ad H Q) (R:RO W ad H st) (V:VRs W ad H xs vs)
    {l:Addr} (hl:H l=none):Q (.ref l) (upd H l (.lst vs)):=
  q (ad++[l]) _ (.alloc hl) (R.alloc hl ⟨vs,upd_same,V.mono (.alloc hl)⟩) _ (.ref (by rw [R.len];simp))
/-- a new tuple -/
theorem rdTup {W:Wd} {ad:List Addr} {H:Hp} {st:Store} {xs:List PV} {vs:List V} {Q:VK} (q:RdE W (.ok (.tup xs,st)) ad H Q) (R:RO W ad H st) (V:VRs W ad H xs vs):NewT H vs Q:=fun l its hl=>
  q ad _ (.fresh hl) (R.fresh hl) _ (.tup (Or.inl ⟨_,upd_same,rfl,rfl⟩) (V.mono (.fresh hl)))
theorem od_add:OpD X (binaryOp .Add) opAdd:=by?
  refine OpR.to (op_add.or (op_add_str.or (op_catU.or op_cat))) fun x y H Q ⟨ad,st,p,q,R,V,W,h⟩=>?_
  cases V with
  | int i=>
    cases W with
    | int j=>exact Or.inl ⟨i,j,rfl,rfl,rdOk h R (.int _)⟩
    | _=>exact h.elim
  | str i=>
    cases W with
    | str j=>
      simp only [opAdd] at h
      split at h
      · rename_i hc
        exact Or.inr (Or.inl ⟨i,j,rfl,rfl,by rw [sizeLine_eq];exact hc,rdOk h R (.str _)⟩)
      · exact h.elim
    | _=>exact h.elim
  | tup hs rs=>
    cases W with
    | tup hs' rs'=>
      simp only [opAdd] at h
      split at h
      · rename_i hc
        rw [rs.length,rs'.length] at hc
        refine Or.inr (Or.inr (Or.inl ⟨_,_,_,_,rfl,rfl,hs.sq,hs'.sq,by rw [sizeLine_eq];exact hc,?_⟩))
        refine ⟨fun e=>?_,fun _ e=>?_,fun _ _=>rdTup h R (rs.append rs')⟩
        · subst e
          cases rs
          exact rdOk h R (.tup hs' rs')
        · subst e
          cases rs'
          rw [List.append_nil] at h
          exact rdOk h R (.tup hs rs)
      · exact h.elim
    | _=>exact h.elim
  | ref hi=>
    cases W with
    | ref hj=>
      simp only [opAdd] at h
      split at h
      · rename_i i a1 j b1 l1 l2 h1 h2
        split at h
        · rename_i hc
          obtain ⟨vs,e1,r1⟩:=R.obj _ _ _ h1 hi
          obtain ⟨ws,e2,r2⟩:=R.obj _ _ _ h2 hj
          rw [r1.length,r2.length] at hc
          exact Or.inr (Or.inr (Or.inr ⟨_,_,_,_,rfl,rfl,e1,e2,by rw [sizeLine_eq];exact hc,fun l hl=>rdNew h R (r1.append r2) hl⟩))
        · exact h.elim
      · exact h.elim
    | _=>exact h.elim
  | _=>exact h.elim
end
end Sg
namespace Sg
open PySem
mutual
noncomputable
def datF (rec:Nat→Option PyData):PV→Option PyData
  | .non=>some .none
  | .bl b=>some (.bool b)
  | .int i=>some (.int i)
  | .str x=>some (.str x)
  | .tup xs=>(datFs rec xs).map .tuple
  | .fro xs=>(datFs rec xs).map .list
  | .ref i=>rec i
  | _=>none
noncomputable
def datFs (rec:Nat→Option PyData):List PV→Option (List PyData)
  | []=>some []
  | x::xs=>match datF rec x,datFs rec xs with
    | some d,some ds=>some (d::ds)
    | _,_=>none
end
noncomputable
def datR (st:Store):Nat→Nat→Option PyData
  | 0,_=>none
  | f+1,i=>match st[i]? with
    | some (.lst xs)=>(datFs (datR st f) xs).map .list
    | _=>none
noncomputable
def dat (st:Store) (p:PV):Option PyData:=datF (datR st 64) p
noncomputable
def eqD (st:Store) (x y:PV):Option Bool:=match dat st x,dat st y with
  | some d,some e=>if SeqAt.shaped d && SeqAt.shaped e then some (PyData.eqv d e) else none
  | _,_=>none
noncomputable
def eqP (st:Store) (x y:PV):Option Bool:=match x,y with
  | .int a,.int b=>some (decide (a=b))
  | .str a,.str b=>some (decide (a=b))
  | .bl a,.bl b=>some (decide (a=b))
  | .non,.non=>some true
  | .non,.int _=>some false
  | .int _,.non=>some false
  | .non,.str _=>some false
  | .str _,.non=>some false
  | .int _,.str _=>some false
  | .str _,.int _=>some false
  | x,y=>eqD st x y
noncomputable
def opEq:Op2:=fun x y st=>match eqP st x y with
  | some b=>.ok (.bl b,st)
  | none=>.stuck
noncomputable
def opNe:Op2:=fun x y st=>match eqP st x y with
  | some b=>.ok (.bl (!b),st)
  | none=>.stuck
noncomputable
abbrev keyB:=keyOk
noncomputable
def dGet (kvs:List (PV×PV)) (k:PV):Option PV:=(kvs.find? fun q=>decide (q.1=k)).map (·.2)
noncomputable
def opPow:Op2:=fun x y st=>match x,y with
  | .int i,.int j=>if 0≤j∧(Builtin.Int.intBits i:Int) * j≤2 ^ 27 then .ok (.int (i ^ j.toNat),st) else .stuck
  | _,_=>.stuck
end Sg
namespace Sg
open PySem PySem.Spec PyProof.Rows L2
section
variable {X:Cx}
theorem od_sub:OpD X (binaryOp .Sub) opSub:=OpR.to op_sub fun x y H Q ⟨ad,st,p,q,R,V,W,h⟩=>by
  cases V with
  | int i=>
    cases W with
    | int j=>exact ⟨i,j,rfl,rfl,rdOk h R (.int _)⟩
    | _=>exact h.elim
  | _=>exact h.elim
theorem od_mulI:OpD X (binaryOp .Mult) opMul:=by?
 exact OpR.to op_mulW fun x y H Q ⟨ad,st,p,q,R,V,W,h⟩=>by
  cases V with
  | int i=>
    cases W with
    | int j=>
      simp only [opMul] at h
      split at h
      · rename_i hc
        exact ⟨i,j,rfl,rfl,of_decide_eq_true (p:=i.natAbs.log2+j.natAbs.log2 < 1000000) hc,rdOk h R (.int _)⟩
      · exact h.elim
    | _=>exact h.elim
  | _=>exact h.elim
theorem od_fdiv:OpD X (binaryOp .FloorDiv) opFdiv:=OpR.to op_fdivW fun x y H Q ⟨ad,st,p,q,R,V,W,h⟩=>by
  cases V with
  | int i=>
    cases W with
    | int j=>
      simp only [opFdiv] at h
      split at h
      · rename_i hc
        exact ⟨i,j,rfl,rfl,hc,rdOk h R (.int _)⟩
      · exact h.elim
    | _=>exact h.elim
  | _=>exact h.elim
theorem od_mod:OpD X (binaryOp .Mod) opMod:=OpR.to op_mod fun x y H Q ⟨ad,st,p,q,R,V,W,h⟩=>by
  cases V with
  | int i=>
    cases W with
    | int j=>
      simp only [opMod] at h
      split at h
      · rename_i hc
        exact ⟨i,j,rfl,rfl,hc,rdOk h R (.int _)⟩
      · exact h.elim
    | _=>exact h.elim
  | _=>exact h.elim
theorem od_pow:OpD X (binaryOp .Pow) opPow:=by?
 exact OpR.to (opI (C:=fun i j=>0≤j∧(Builtin.Int.intBits i:Int) * j≤2 ^ 27) fun _ _ _ _ _ _ _ hc q=>pow_int hc.1 hc.2 q) fun x y H Q ⟨ad,st,p,q,R,V,W,h⟩=>by
  cases V with
  | int i=>
    cases W with
    | int j=>
      simp only [opPow] at h
      split at h
      · rename_i hc
        exact ⟨i,j,rfl,rfl,hc,rdOk h R (.int _)⟩
      · exact h.elim
    | _=>exact h.elim
  | _=>exact h.elim
theorem od_lt:OpD X (compareOp .Lt) opLt:=OpR.to (op_lt.or op_lt_str) fun x y H Q ⟨ad,st,p,q,R,V,W,h⟩=>by
  cases V with
  | int i=>
    cases W with
    | int j=>exact Or.inl ⟨i,j,rfl,rfl,rdOk h R (.bl _)⟩
    | _=>exact h.elim
  | str i=>
    cases W with
    | str j=>exact Or.inr ⟨i,j,rfl,rfl,rdOk h R (.bl _)⟩
    | _=>exact h.elim
  | _=>exact h.elim
theorem od_gt:OpD X (compareOp .Gt) opGt:=OpR.to op_gt fun x y H Q ⟨ad,st,p,q,R,V,W,h⟩=>by
  cases V with
  | int i=>
    cases W with
    | int j=>exact ⟨i,j,rfl,rfl,rdOk h R (.bl _)⟩
    | _=>exact h.elim
  | _=>exact h.elim
theorem od_ge:OpD X (compareOp .GtE) opGe:=OpR.to op_ge fun x y H Q ⟨ad,st,p,q,R,V,W,h⟩=>by
  cases V with
  | int i=>
    cases W with
    | int j=>exact ⟨i,j,rfl,rfl,rdOk h R (.bl _)⟩
    | _=>exact h.elim
  | _=>exact h.elim
section
variable {W:Wd} {ad:List Addr} {H:Hp} {st:Store}
mutual
theorem dp_of {rec:Nat→Option PyData} (hr:∀ (i:Nat) a d,ad[i]? = some a→rec i=some d→Dp W.K H (.ref a) d):∀ {p:PV} {v:V} {d:PyData},VR W ad H p v→datF rec p=some d→Dp W.K H v d
  | _,_,_,.non,h=>by simp only [datF,Option.some.injEq] at h;subst h;exact .non
  | _,_,_,.bl b,h=>by simp only [datF,Option.some.injEq] at h;subst h;exact .bl b
  | _,_,_,.int b,h=>by simp only [datF,Option.some.injEq] at h;subst h;exact .int b
  | _,_,_,.str b,h=>by simp only [datF,Option.some.injEq] at h;subst h;exact .str b
  | _,_,_,.ty _,h=>by simp [datF] at h
  | _,_,_,.glb _,h=>by simp [datF] at h
  | _,_,_,.tup hs r,h=>by
    simp only [datF,Option.map_eq_some_iff] at h
    obtain ⟨ds,h1,h2⟩:=h
    subst h2
    exact .tup hs.sq (dps_of hr r h1)
  | _,_,_,.fro hs r,h=>by
    simp only [datF,Option.map_eq_some_iff] at h
    obtain ⟨ds,h1,h2⟩:=h
    subst h2
    exact .lst hs.sq (dps_of hr r h1)
  | _,_,_,.ref hi,h=>by simp only [datF] at h;exact hr _ _ _ hi h
theorem dps_of {rec:Nat→Option PyData} (hr:∀ (i:Nat) a d,ad[i]? = some a→rec i=some d→Dp W.K H (.ref a) d):∀ {p:List PV} {v:List V} {d:List PyData},VRs W ad H p v→datFs rec p=some d→DpAll W.K H v d
  | _,_,_,.nil,h=>by simp only [datFs,Option.some.injEq] at h;subst h;exact .nil
  | _,_,_,.cons r t,h=>by
    simp only [datFs] at h
    split at h
    · rename_i h1 h2
      cases h
      exact .cons (dp_of hr r h1) (dps_of hr t h2)
    · cases h
end
theorem dpR_of (R:RO W ad H st):∀ (f i:Nat) a d,ad[i]? = some a→datR st f i=some d→Dp W.K H (.ref a) d
  | 0,_,_,_,_,h=>by simp [datR] at h
  | f + 1,i,a,d,ha,h=>by
    simp only [datR] at h
    split at h
    · rename_i xs hx
      simp only [Option.map_eq_some_iff] at h
      obtain ⟨ds,h1,h2⟩:=h
      subst h2
      obtain ⟨vs,e,r⟩:=R.obj i _ a hx ha
      exact .lst (SqL.of e) (dps_of (fun i a d=>dpR_of R f i a d) r h1)
    · cases h
theorem dat_of (R:RO W ad H st) {p:PV} {v:V} {d:PyData} (V:VR W ad H p v) (h:dat st p=some d):Dp W.K H v d:=dp_of (dpR_of R 64) V h
end
theorem eqP_of {ad:List Addr} {H:Hp} {st:Store} {p q:PV} {x y:V} {b:Bool} (R:RO X.wd ad H st) (V:VR X.wd ad H p x) (W:VR X.wd ad H q y) (h:eqP st p q=some b) :
    (scal x y=true∧decide (x=y)=b)∨∃d e,Dp X.K H x d∧Dp X.K H y e∧SeqAt.shaped d=true∧SeqAt.shaped e=true∧PyData.eqv d e=b:=by?
  have go:eqD st p q=some b→∃d e,Dp X.K H x d∧Dp X.K H y e∧SeqAt.shaped d=true∧SeqAt.shaped e=true∧PyData.eqv d e=b:=fun h=>by
    unfold eqD at h
    split at h
    · rename_i d e h1 h2
      split at h
      · rename_i hc
        simp only [Bool.and_eq_true] at hc
        cases h
        exact ⟨d,e,dat_of R V h1,dat_of R W h2,hc.1,hc.2,rfl⟩
      · cases h
    · cases h
  cases V <;> cases W <;> first
    | (simp only [eqP,Option.some.injEq] at h;subst h;left;constructor <;> first | rfl | simp)
    | exact Or.inr (go h)
theorem od_eq (hu:X.A.units+64 < cLine):OpD X (compareOp .Eq) opEq:=by?
 exact OpR.to (op_eq.or (op_eqD hu)) fun x y H Q ⟨ad,st,p,q,R,V,W,h⟩=>by
  unfold opEq at h
  split at h
  · rename_i b hb
    rcases eqP_of R V W hb with ⟨h1,h2⟩ | ⟨d,e,h1,h2,h3,h4,h5⟩
    · exact Or.inl ⟨h1,by rw [h2];exact rdOk h R (.bl _)⟩
    · exact Or.inr ⟨d,e,h1,h2,h3,h4,by rw [h5];exact rdOk h R (.bl _)⟩
  · exact h.elim
theorem od_ne (hu:X.A.units+64 < cLine):OpD X (compareOp .NotEq) opNe:=by?
 exact OpR.to (op_ne.or (op_neD hu)) fun x y H Q ⟨ad,st,p,q,R,V,W,h⟩=>by
  unfold opNe at h
  split at h
  · rename_i b hb
    rcases eqP_of R V W hb with ⟨h1,h2⟩ | ⟨d,e,h1,h2,h3,h4,h5⟩
    · exact Or.inl ⟨h1,by rw [h2];exact rdOk h R (.bl _)⟩
    · exact Or.inr ⟨d,e,h1,h2,h3,h4,by rw [h5];exact rdOk h R (.bl _)⟩
  · exact h.elim
end
end Sg
namespace Sg
open PySem
/-- the items of a sequence -/
noncomputable
def seqP (st:Store):PV→Option (List PV)
  | .tup xs=>some xs
  | .fro xs=>some xs
  | .ref i=>match st[i]? with
    | some (.lst xs)=>some xs
    | _=>none
  | _=>none
noncomputable
def fnLen:Fn:=fun vs st=>match vs with
  | [.str s]=>if s.length≤LINE then .ok (.int s.length,st) else .stuck
  | [.ref i]=>match st[i]? with
    | some (.lst xs)=>.ok (.int xs.length,st)
    | some (.dic kvs)=>.ok (.int kvs.length,st)
    | _=>.stuck
  | [.tup xs]=>.ok (.int xs.length,st)
  | [.fro xs]=>.ok (.int xs.length,st)
  | _=>.stuck
noncomputable
def tyName (st:Store):PV→Option String
  | .non=>some "NoneType"
  | .bl _=>some "bool"
  | .int _=>some "int"
  | .str _=>some "str"
  | .tup _=>some "tuple"
  | .fro _=>some "list"
  | .ref i=>match st[i]? with
    | some (.lst _)=>some "list"
    | some (.dic _)=>some "dict"
    | _=>none
  | _=>none
noncomputable
def isSub (a b:String):Bool:=decide (a=b) || (decide (a = "bool") && decide (b = "int"))
noncomputable
def tyNames:List String:=["NoneType", "bool", "int", "str", "tuple", "list", "dict"]
noncomputable
def clsNames:List String:=["bool", "int", "str", "tuple", "list", "dict"]
noncomputable
def fnIsi:Fn:=fun vs st=>match vs with
  | [x,.ty b]=>match tyName st x with
    | some a=>if b∈clsNames then .ok (.bl (isSub a b),st) else .stuck
    | none=>.stuck
  | _=>.stuck
noncomputable
def fnAbs:Fn:=fun vs st=>match vs with
  | [.int i]=>.ok (.int (if i < 0 then -i else i),st)
  | _=>.stuck
noncomputable
def fnMin2:Fn:=fun vs st=>match vs with
  | [.int i,.int j]=>.ok (.int (if j < i then j else i),st)
  | _=>.stuck
noncomputable
def fnMax2:Fn:=fun vs st=>match vs with
  | [.int i,.int j]=>.ok (.int (if j > i then j else i),st)
  | _=>.stuck
noncomputable
def fnInt:Fn:=fun vs st=>match vs with
  | [.int i]=>.ok (.int i,st)
  | [.bl k]=>.ok (.int (if k then 1 else 0),st)
  | _=>.stuck
noncomputable
def asInts:List PV→Option (List Int)
  | []=>some []
  | .int i::r=>(asInts r).map (i :: ·)
  | _=>none
/-- a list's items -/
noncomputable
def lstP (st:Store):PV→Option (List PV)
  | .fro xs=>some xs
  | .ref i=>match st[i]? with
    | some (.lst xs)=>some xs
    | _=>none
  | _=>none
noncomputable
def fnSum:Fn:=fun vs st=>match vs with
  | [x]=>match (lstP st x).bind asInts with
    | some ns=>.ok (.int ns.sum,st)
    | none=>.stuck
  | _=>.stuck
/-- methods: the receiver's kind is looked at ahead of the arguments -/
noncomputable
def eMeth (T:Store→PV→Bool) (F:PV→Fn) (a:EvE) (as:EvA):EvE:=fun σ st=>gcR st (a σ st >>= fun x=>if T x.2 x.1 then as σ x.2 >>= fun xs=>F x.1 xs.1 xs.2 else .stuck)
noncomputable
def isLst (st:Store):PV→Bool
  | .ref i=>match st[i]? with
    | some (.lst _)=>true
    | _=>false
  | .fro _=>true
  | _=>false
noncomputable
def isDic (st:Store):PV→Bool
  | .ref i=>match st[i]? with
    | some (.dic _)=>true
    | _=>false
  | _=>false
noncomputable
def mAppend:PV→Fn:=fun x vs st=>match x,vs with
  | .ref i,[y]=>match st[i]? with
    | some (.lst xs)=>if xs.length < LINE then .ok (.non,st.set i (.lst (xs++[y]))) else .stuck
    | _=>.stuck
  | _,_=>.stuck
/-- the place that an index means -/
noncomputable
def ixP (n:Nat) (i:Int):Option Nat:=if 0≤i then (if i < n then some i.toNat else none) else if -(n:Int)≤i then some (i+n).toNat else none
/-- d.get(k),d.get(k,x) -/
noncomputable
def mGet:PV→Fn:=fun x vs st=>match x with
  | .ref i=>match st[i]? with
    | some (.dic kvs)=>match vs with
      | [k]=>if keyB k then .ok ((dGet kvs k).getD .non,st) else .stuck
      | [k,d]=>if keyB k then .ok ((dGet kvs k).getD d,st) else .stuck
      | _=>.stuck
    | _=>.stuck
  | _=>.stuck
noncomputable
def opIx:Op2:=fun x y st=>match y with
  | .int i=>match x with
    | .str s=>if s.length≤LINE then match ixP s.cps.toList.length i with
        | some j=>match s.cps.toList[j]? with
          | some c=>.ok (.str ⟨#[c]⟩,st)
          | none=>.stuck
        | none=>.stuck
      else .stuck
    | x => match seqP st x with
      | some xs=>match ixP xs.length i with
        | some j=>match xs[j]? with
          | some v=>.ok (v,st)
          | none=>.stuck
        | none=>.stuck
      | none=>.stuck
  | _=>.stuck
/-- d[k] -/
noncomputable
def opDGet:Op2:=fun x y st=>match x with
  | .ref i=>match st[i]? with
    | some (.dic kvs)=>if keyB y then match dGet kvs y with
        | some v=>.ok (v,st)
        | none=>.stuck
      else .stuck
    | _=>.stuck
  | _=>.stuck
noncomputable
abbrev dPut:=dictPut
/-- o[i]=v -/
noncomputable
def setP (o i v:PV) (st:Store):Res Store:=match o with
  | .ref n=>match st[n]? with
    | some (.lst xs)=>match i with
      | .int k=>match ixP xs.length k with
        | some j=>.ok (st.set n (.lst (xs.set j v)))
        | none=>.stuck
      | _=>.stuck
    | some (.dic kvs)=>if keyB i && decide (kvs.length < LINE) then .ok (st.set n (.dic (dPut kvs i v))) else .stuck
    | _=>.stuck
  | _=>.stuck
noncomputable
def sSub (o i e:EvE):EvS:=fun σ st=>e σ st >>= fun x=>force x.1 fun v=>o σ x.2 >>= fun y=>i σ y.2 >>= fun z=>force z.1 fun w=>setP y.1 w v z.2 >>= fun st'=>.ok (.nx,σ,st')
theorem sSub_eq (o i e:EvE) (σ:Slots) (st:Store):sSub o i e σ st=(e σ st >>= fun x=>o σ x.2 >>= fun y=>i σ y.2 >>= fun z=>setP y.1 z.1 x.1 z.2 >>= fun st'=>.ok (.nx,σ,st')):=by simp [sSub]
/-- an end of a slice -/
noncomputable
def eEnd (a:EvE):Slots→Store→Res (Option Int×Store):=fun σ st=>a σ st >>= fun x=>match x.1 with
  | .int i=>.ok (some i,x.2)
  | _=>.stuck
noncomputable
def eNoEnd:Slots→Store→Res (Option Int×Store):=fun _ st=>.ok (none,st)
noncomputable
def sIxP (n d:Nat):Option Int→Nat
  | none=>d
  | some i=>if i < 0 then (i+n).toNat else min i.toNat n
noncomputable
def cutP {α:Type} (xs:List α) (lo hi:Option Int):List α:=(xs.drop (sIxP xs.length 0 lo)).take (sIxP xs.length xs.length hi - sIxP xs.length 0 lo)
noncomputable
def opSl (x:PV) (lo hi:Option Int) (st:Store):Res (PV×Store):=match x with
  | .tup xs=>.ok (.tup (cutP xs lo hi),st)
  | .str s=>if s.length≤LINE then .ok (.str ⟨(cutP s.cps.toList lo hi).toArray⟩,st) else .stuck
  | .ref i=>match st[i]? with
    | some (.lst xs)=>.ok (.ref st.length,st++[.lst (cutP xs lo hi)])
    | _=>.stuck
  | _=>.stuck
noncomputable
def eSl (a:EvE) (lo hi:Slots→Store→Res (Option Int×Store)):EvE:=fun σ st=>gcR st (a σ st >>= fun x=>lo σ x.2 >>= fun l=>hi σ l.2 >>= fun h=>opSl x.1 l.1 h.1 h.2)
end Sg
namespace Sg
open PySem PySem.Spec PyProof.Rows L2
section
variable {X:Cx}
/-- a function of the values -/
noncomputable
def rCOf (X:Cx) (F:Fn):List V→Hp→VK→Prop:=fun vs H Q=>∃ad st ps,RO X.wd ad H st∧VRs X.wd ad H ps vs∧RdE X.wd (F ps st) ad H Q
theorem CallR.to {f:Value} {r r':List V→Hp→VK→Prop} (h:CallR X f r) (i:∀xs H Q,r' xs H Q→r xs H Q):CallR X f r':=
  fun pins s σ H xs us Q I r q=>h pins s σ H xs us Q I r (i xs H Q q)
variable {e:Expr} {es:List Expr} {ma:EvA} {x:Str} {p pos:Pos} {id T:String} {F:Fn}
theorem goC {ma:EvA} {F:Fn} {σ:LSt} {H:Hp} {Q:VK} (q:tOfE X.wd (fun σ st=>ma σ st >>= fun xs=>F xs.1 xs.2) σ H Q):tOfA X.wd ma σ H fun vs H1=>rCOf X F vs H1 Q:=by
  obtain ⟨ad,st,σp,S,q⟩:=q
  exact goA S q fun x ad1 H1 v e1 E1 S1 V1 q1=>⟨ad1,x.2,x.1,S1.ro,V1,q1⟩
theorem se_callB (hc:CallR X (.builtin id) (rCOf X F)) (hg:Gl X x) (hm:X.mg x=none) (hv:bootBuiltins x=some (.builtin id)) (ha:SA X (e::es) ma) (hn:x ≠ "__name__" := by decide)
    (hdb:(x == ("__debug__" : Str))=false:=by decide) (he:starEach (e::es) X.env=(false,eval e X.env)::starEach es X.env:=by rfl)
    (hpl:(backTo pos (starEach es X.env)).any (·.1)=false:=by rfl):SE X (.Call (.Name x p) (e::es) [] pos) (eCall F ma):=
  se_gc (PE.to (pe_callB hc hg hm hv ha hn hdb he hpl) fun σ H Q q=>goC q)
theorem se_callTy (hc:CallR X (.type T) (rCOf X F)) (hg:Gl X x) (hm:X.mg x=none) (hv:bootBuiltins x=some (.type T)) (ha:SA X (e::es) ma) (hn:x ≠ "__name__" := by decide)
    (hdb:(x == ("__debug__" : Str))=false:=by decide) (he:starEach (e::es) X.env=(false,eval e X.env)::starEach es X.env:=by rfl)
    (hpl:(backTo pos (starEach es X.env)).any (·.1)=false:=by rfl):SE X (.Call (.Name x p) (e::es) [] pos) (eCall F ma):=
  se_gc (PE.to (pe_callTy hc hg hm hv ha hn hdb he hpl) fun σ H Q q=>goC q)
theorem sa_nil:SA X [] aNil:=PA.to pa_nil fun σ H Q ⟨ad,st,σp,S,q⟩=>RdG.ok q S.ro [] .nil
theorem sa_cons {m:EvE} (ha:SE X e m) (hr:SA X es ma) (hs:starEach (e::es) X.env=(false,eval e X.env)::starEach es X.env:=by rfl):SA X (e::es) (aCons m ma):=
  PA.to (pa_cons ha hr hs) fun σ H Q ⟨ad,st,σp,S,q⟩=>by
    unfold RdA at q
    rw [aCons_eq] at q
    exact goE S q fun x ad1 H1 v e1 E1 S1 V1 q1=>goA S1 q1 fun y ad2 H2 w e2 E2 S2 V2 q2=>
    RdG.ok q2 S2.ro (v::w) (.cons (V1.mono E2) V2)
theorem se_tup {k} (h:SA X es ma):SE X (.Tuple es k pos) (eTup ma):=PE.to (pe_tupU h) fun σ H Q ⟨ad,st,σp,S,q⟩=>goA S q fun x ad1 H1 v e1 E1 S1 V1 q1=>by
  split at q1
  · rename_i hc
    exact ⟨by rw [← V1.length,sizeLine_eq];exact hc,rdTup q1 S1.ro V1⟩
  · exact q1.elim
theorem se_lst (h:SA X es ma):SE X (.List es pos) (eLst ma):=PE.to (pe_lst h) fun σ H Q ⟨ad,st,σp,S,q⟩=>goA S q fun x ad1 H1 v e1 E1 S1 V1 q1=>by
  split at q1
  · rename_i hc
    exact ⟨by rw [← V1.length,sizeLine_eq];exact hc,fun l hl=>rdNew q1 S1.ro V1 hl⟩
  · exact q1.elim
section
variable {W:Wd} {ad:List Addr} {H:Hp} {st:Store}
theorem lstP_of (R:RO W ad H st) {p:PV} {v:V} {xs:List PV} (V:VR W ad H p v) (h:lstP st p=some xs):∃a vs,v=.ref a∧SqL W.K H a vs∧VRs W ad H xs vs:=by
  cases V with
  | fro hs r=>cases h;exact ⟨_,_,rfl,hs.sq,r⟩
  | ref hi=>
    simp only [lstP] at h
    split at h
    · rename_i hx
      cases h
      obtain ⟨vs,e,r⟩:=R.obj _ _ _ hx hi
      exact ⟨_,vs,rfl,SqL.of e,r⟩
    · cases h
  | _=>cases h
theorem seqP_of (R:RO W ad H st) {p:PV} {v:V} {xs:List PV} (V:VR W ad H p v) (h:seqP st p=some xs):∃a vs,v=.ref a∧(SqL W.K H a vs∨SqT W.K H a vs)∧VRs W ad H xs vs:=by
  cases V with
  | tup hs r=>cases h;exact ⟨_,_,rfl,Or.inr hs.sq,r⟩
  | fro hs r=>cases h;exact ⟨_,_,rfl,Or.inl hs.sq,r⟩
  | ref hi=>
    simp only [seqP] at h
    split at h
    · rename_i hx
      cases h
      obtain ⟨vs,e,r⟩:=R.obj _ _ _ hx hi
      exact ⟨_,vs,rfl,Or.inl (SqL.of e),r⟩
    · cases h
  | _=>cases h
theorem asInts_eq:∀ {xs:List PV} {ns:List Int},asInts xs=some ns→xs=ns.map .int
  | [],ns,h=>by simp only [asInts,Option.some.injEq] at h;subst h;rfl
  | .int i::r,ns,h=>by
    simp only [asInts,Option.map_eq_some_iff] at h
    obtain ⟨m,h1,h2⟩:=h
    subst h2
    rw [asInts_eq h1];rfl
  | .non::_,_,h | .bl _::_,_,h | .str _::_,_,h | .tup _::_,_,h | .fro _::_,_,h | .ref _::_,_,h | .ty _::_,_,h | .glb _::_,_,h=>by simp [asInts] at h
theorem VRs.one {p:PV} {vs:List V} (h:VRs W ad H [p] vs):∃v,vs=[v]∧VR W ad H p v:=by
  cases h with
  | cons r t=>cases t;exact ⟨_,rfl,r⟩
theorem VRs.two {p q:PV} {vs:List V} (h:VRs W ad H [p,q] vs):∃v w,vs=[v,w]∧VR W ad H p v∧VR W ad H q w:=by
  cases h with
  | cons r t=>
    obtain ⟨w,e,r2⟩:=t.one
    subst e
    exact ⟨_,_,rfl,r,r2⟩
end
theorem DR.length {W:Wd} {ad:List Addr} {H:Hp} {p:List (PV×PV)} {v:List (Key×V)} (h:DR W ad H p v):p.length=v.length:=by
  induction h with
  | nil=>rfl
  | cons _ _ ih=>rw [List.length_cons,List.length_cons,ih]
theorem call_lenDic:CallR X (.builtin "len") (fun xs H Q=>∃p kvs,xs=[.ref p]∧H p=some (.dK kvs)∧Q (.int kvs.length) H):=by
  intro pins s σ H xs us Q I r h
  obtain ⟨p,kvs,e1,e2,q⟩:=h
  subst e1
  obtain ⟨u,e3,rx⟩:=vals1 r
  subst e3;cases rx
  exact d_len I (.inl e2) fun t s' I'=>⟨.int kvs.length,H,I',⟨t,rfl⟩,q⟩
theorem cd_len:CallR X (.builtin "len") (rCOf X fnLen):=by?
 exact CallR.to (call_len.or call_lenDic) fun xs H Q ⟨ad,st,ps,R,Vs,h⟩=>by
  unfold fnLen at h
  split at h
  · obtain ⟨v,e,r⟩:=Vs.one
    subst e
    cases r
    split at h
    · rename_i hc
      exact Or.inl ⟨_,_,rfl,⟨by rw [sizeLine_eq];exact hc,rfl⟩,rdOk h R (.int _)⟩
    · exact h.elim
  · obtain ⟨v,e,r⟩:=Vs.one
    subst e
    cases r with
    | ref hi=>
      split at h
      · rename_i hx
        obtain ⟨vs,e,r⟩:=R.obj _ _ _ hx hi
        refine Or.inl ⟨_,_,rfl,Or.inl ⟨vs,SqL.of e,rfl⟩,?_⟩
        rw [← r.length]
        exact rdOk h R (.int _)
      · rename_i hx
        obtain ⟨vs,e,r⟩:=R.obj _ _ _ hx hi
        refine Or.inr ⟨_,vs,rfl,e,?_⟩
        rw [← r.length]
        exact rdOk h R (.int _)
      · exact h.elim
  · obtain ⟨v,e,r⟩:=Vs.one
    subst e
    cases r with
    | tup hs r=>
      refine Or.inl ⟨_,_,rfl,Or.inr ⟨_,hs.sq,rfl⟩,?_⟩
      rw [← r.length]
      exact rdOk h R (.int _)
  · obtain ⟨v,e,r⟩:=Vs.one
    subst e
    cases r with
    | fro hs r=>
      refine Or.inl ⟨_,_,rfl,Or.inl ⟨_,hs.sq,rfl⟩,?_⟩
      rw [← r.length]
      exact rdOk h R (.int _)
  · exact h.elim
theorem isSub_ok:∀a∈tyNames,∀b∈clsNames,kitB a b=some (isSub a b):=by decide +kernel
theorem tyName_in {st:Store} {p:PV} {t:String} (h:tyName st p=some t):t∈tyNames:=by
  unfold tyName at h
  split at h <;> first
    | (cases h;decide)
    | (split at h <;> first | (cases h;decide) | cases h)
    | cases h
theorem tyName_of {ad:List Addr} {H:Hp} {st:Store} (R:RO X.wd ad H st) {p:PV} {v:V} {t:String} (V:VR X.wd ad H p v) (h:tyName st p=some t):TyX X.K H v (.type t):=by?
  cases V with
  | non=>cases h;exact .base .non
  | bl b=>cases h;exact .base (.bl b)
  | int b=>cases h;exact .base (.int b)
  | str b=>cases h;exact .base (.str b)
  | ty _=>cases h
  | glb _=>cases h
  | tup hs r=>
    cases h
    rcases hs with ⟨o,e,_⟩ | ⟨o,its,n,e,c,_⟩
    · exact .fTuple e
    · exact .kTuple e c
  | fro hs r=>
    cases h
    rcases hs with ⟨o,e⟩ | ⟨o,its,n,e,c,_⟩
    · exact .base (.frz e)
    · exact .kList e c
  | ref hi=>
    simp only [tyName] at h
    split at h
    · rename_i hx
      cases h
      obtain ⟨vs,e,r⟩:=R.obj _ _ _ hx hi
      exact .base (.lst e)
    · rename_i hx
      cases h
      obtain ⟨vs,e,r⟩:=R.obj _ _ _ hx hi
      exact .base (.dK e)
    · cases h
theorem cd_isi:CallR X (.builtin "isinstance") (rCOf X fnIsi):=by?
 exact CallR.to call_isi fun xs H Q ⟨ad,st,ps,R,Vs,h⟩=>by
  unfold fnIsi at h
  split at h
  · rename_i x b
    obtain ⟨v,w,e,r1,r2⟩:=Vs.two
    subst e
    cases r2
    split at h
    · rename_i a ha
      split at h
      · rename_i hb
        exact ⟨v,.ty b,.type a,.type b,isSub a b,rfl,.ty b,tyName_of R r1 ha,kit_ty (isSub_ok a (tyName_in ha) b hb),rdOk h R (.bl _)⟩
      · exact h.elim
    · exact h.elim
  · exact h.elim
theorem cd_abs:CallR X (.builtin "abs") (rCOf X fnAbs):=CallR.to call_abs fun xs H Q ⟨ad,st,ps,R,Vs,h⟩=>by
  unfold fnAbs at h
  split at h
  · obtain ⟨v,e,r⟩:=Vs.one
    subst e;cases r
    exact ⟨_,rfl,rdOk h R (.int _)⟩
  · exact h.elim
theorem cd_min2 (hc:X.calm=true):CallR X (.builtin "min") (rCOf X fnMin2):=CallR.to (call_min2 hc) fun xs H Q ⟨ad,st,ps,R,Vs,h⟩=>by
  unfold fnMin2 at h
  split at h
  · obtain ⟨v,w,e,r1,r2⟩:=Vs.two
    subst e;cases r1;cases r2
    exact ⟨_,_,rfl,rdOk h R (.int _)⟩
  · exact h.elim
theorem cd_max2 (hc:X.calm=true):CallR X (.builtin "max") (rCOf X fnMax2):=CallR.to (call_max2 hc) fun xs H Q ⟨ad,st,ps,R,Vs,h⟩=>by
  unfold fnMax2 at h
  split at h
  · obtain ⟨v,w,e,r1,r2⟩:=Vs.two
    subst e;cases r1;cases r2
    exact ⟨_,_,rfl,rdOk h R (.int _)⟩
  · exact h.elim
theorem cd_int:CallR X (.type "int") (rCOf X fnInt):=CallR.to call_int1 fun xs H Q ⟨ad,st,ps,R,Vs,h⟩=>by
  unfold fnInt at h
  split at h
  · obtain ⟨v,e,r⟩:=Vs.one
    subst e;cases r
    exact Or.inl ⟨_,rfl,rdOk h R (.int _)⟩
  · obtain ⟨v,e,r⟩:=Vs.one
    subst e;cases r
    exact Or.inr ⟨_,rfl,rdOk h R (.int _)⟩
  · exact h.elim
theorem cd_sum (hc:X.calm=true):CallR X (.builtin "sum") (rCOf X fnSum):=by?
 exact CallR.to (cr_sum hc) fun xs H Q ⟨ad,st,ps,R,Vs,h⟩=>by
  unfold fnSum at h
  split at h
  · obtain ⟨v,e,r⟩:=Vs.one
    subst e
    split at h
    · rename_i hx
      obtain ⟨ys,h1,h2⟩:=Option.bind_eq_some_iff.mp hx
      obtain ⟨a,vs,e,hs,r2⟩:=lstP_of R r h1
      rw [asInts_eq h2] at r2
      subst e
      exact ⟨a,_,rfl,by rw [← r2.ints];exact hs,rdOk h R (.int _)⟩
    · exact h.elim
  · exact h.elim
end
section
variable {X:Cx}
theorem keyP_inj {a b:Key} (h:keyP a=keyP b):a=b:=by
  cases a <;> cases b <;> simp_all [keyP]
theorem keyP_vr {W:Wd} {ad:List Addr} {H:Hp} {p:PV} {v:V} (V:VR W ad H p v) (h:keyB p=true):∃k,p=keyP k∧v=kV k:=by
  cases V with
  | int i=>exact ⟨.inl i,rfl,rfl⟩
  | str i=>exact ⟨.inr i,rfl,rfl⟩
  | _=>cases h
theorem DR.get {W:Wd} {ad:List Addr} {H:Hp} {k:Key}:∀ {ps:List (PV×PV)} {vs:List (Key×V)},DR W ad H ps vs→match dGet ps (keyP k) with
    | some p=>∃v,valV vs k=some v∧VR W ad H p v
    | none=>valV vs k=none
  | _,_,.nil=>rfl
  | _,_,.cons (k:=j) (p:=p) (v:=v) (ps:=ps) (vs:=vs) r t=>by
    have ih:=DR.get (k:=k) t
    by_cases e:j=k
    · subst e
      have e1:dGet ((keyP j,p)::ps) (keyP j)=some p:=by simp [dGet]
      rw [e1]
      exact ⟨v,valV_pos rfl,r⟩
    · have e1:dGet ((keyP j,p)::ps) (keyP k)=dGet ps (keyP k):=by
        have:¬ keyP j=keyP k:=fun z=>e (keyP_inj z)
        simp [dGet,List.find?_cons,this]
      rw [e1,valV_neg (show ¬ (j,v).1=k from e)]
      exact ih
noncomputable
def rMOf (X:Cx) (F:PV→Fn):V→List V→Hp→VK→Prop:=fun x vs H Q=>∃ad st p ps,RO X.wd ad H st∧VR X.wd ad H p x∧VRs X.wd ad H ps vs∧RdE X.wd (F p ps st) ad H Q
theorem MtR.to {id:String} {r r':V→List V→Hp→VK→Prop} (h:MtR X id r) (i:∀x xs H Q,r' x xs H Q→r x xs H Q):MtR X id r':=
  fun pins s σ H x xs v us Q I rx rs q=>h pins s σ H x xs v us Q I rx rs (i x xs H Q q)
/-- the receiver is of a built-in type,with no dict of its own -/
noncomputable
def KindOk (X:Cx) (T:String) (x:V) (H:Hp):Prop:=∀ (pins:List (Addr×Obj)) (s:Shared) (σ:LSt) (u:Value),Inv X pins σ H s→RelV x u →
  s.TypeIs u T∧∀a,u=.ref a→∃ob,s.heap.get? a=some ob∧ob.dict=none
noncomputable
def KindD (X:Cx) (T:String) (k:Store→PV→Bool):Prop:=∀ad H st p x,RO X.wd ad H st→VR X.wd ad H p x→k st p=true→KindOk X T x H
variable {o e:Expr} {es:List Expr} {mo:EvE} {ma:EvA} {name:Str} {apos cpos:Pos} {T id:String} {F:PV→Fn} {k:Store→PV→Bool}
/-- which method of which built-in type the name means for such a receiver -/
noncomputable
def MethR (X:Cx) (name:Str) (k:Store→PV→Bool) (F:PV→Fn):Prop:=∀ad H st p x,RO X.wd ad H st→VR X.wd ad H p x→k st p=true →
  ∃ (T id:String) (F':PV→Fn),PlainAttrs T∧Slot T name id∧typeOf (.builtin id)=pure (.type "method_descriptor")∧KindOk X T x H∧MtR X id (rMOf X F')∧F' p=F p
theorem MethR.mk (pa:PlainAttrs T) (slot:Slot T name id) (hty:typeOf (.builtin id)=pure (.type "method_descriptor")) (hm:MtR X id (rMOf X F)) (hk:KindD X T k):MethR X name k F:=
  fun ad H st p x R V h=>⟨T,id,F,pa,slot,hty,hk ad H st p x R V h,hm,rfl⟩
theorem se_meth (hm:MethR X name k F) (ho:SE X o mo) (ha:SA X (e::es) ma)
    (hbase:attributeBase o name X.env (eval o X.env)=eval o X.env:=by rfl)
    (hfew:((backTo cpos (starEach (e::es) X.env)).all (fun x=>!x.1) && (backToKw cpos (keywordEach [] X.env)).all (fun x=>x.1.isSome)
      && decide ((e::es).length+([]:List Keyword).length+(if ([]:List Keyword).isEmpty then 0 else 1) < 30))=true:=by rfl)
    (hline:(apos.endLine == cpos.line)=true:=by rfl) (hs:starEach (e::es) X.env=(false,eval e X.env)::starEach es X.env:=by rfl)
    (hpl:(backTo cpos (starEach es X.env)).any (·.1)=false:=by rfl):SE X (.Call (.Attribute o name apos) (e::es) [] cpos) (eMeth k F mo ma):=by?
  refine se_gc ⟨fun pins s σ H Q I ⟨ad,st,σp,S,q⟩=>?_⟩
  refine wpAny_Call_method_late hbase hfew hline rfl (thn (ho.run pins s σ H _ I (goE (R:=fun v H1=>∃ (x:PV×Store) (ad1:List Addr),RS X.wd ad1 H1 x.2 σp σ∧VR X.wd ad1 H1 x.1 v ∧
    RdE X.wd (if k x.2 x.1 then ma σp x.2 >>= fun xs=>F x.1 xs.1 xs.2 else .stuck) ad1 H1 Q) S q fun x ad1 H1 v e1 E1 S1 V1 q1=>⟨x,ad1,S1,V1,q1⟩)) ?_)
  rintro u s1 ⟨v,H1,I1,r1,x,ad1,S1,V1,q1⟩
  split at q1
  · rename_i hc
    obtain ⟨T,id,F',pa,slot,hty,hk,hmt,eF⟩:=hm ad1 H1 x.2 x.1 v S1.ro V1 hc
    obtain ⟨h1,h2⟩:=hk pins s1 σ u I1 r1
    refine ⟨T,id,pa,slot,hty,h1,h2,?_⟩
    have hA:=ha.run cpos pins s1 σ H1 _ I1 (goA (R:=fun w H2=>rMOf X F' v w H2 Q) S1 q1 fun y ad2 H2 w e2 E2 S2 V2 q2=>⟨ad2,y.2,x.1,y.1,S2.ro,V1.mono E2,V2,by rw [eF];exact q2⟩)
    rw [hs] at hA ⊢
    refine Calls.callWith_builtin (by show (false || (backTo cpos (starEach es X.env)).any (·.1))=false;rw [hpl] <;> rfl) (Calls.evalArgs_plain ?_)
    exact thn hA fun us s2 ⟨vs,H2,I2,r2,q2⟩=>hmt pins s2 σ H2 v vs u us Q I2 r1 r2 q2
  · exact q1.elim
theorem sqF_plain {pins:List (Addr×Obj)} {s:Shared} {σ:LSt} {H:Hp} {a:Addr} {xs:List V} (I:Inv X pins σ H s) (h:SqL X.K H a xs):s.TypeIs (.ref a) "list" ∧ ∀b,Value.ref a=.ref b→∃ob,s.heap.get? b=some ob∧ob.dict=none:=by
  obtain ⟨its,_,⟨ob,n,h1,h2,h3,_⟩,_⟩:=I.list h
  exact ⟨⟨ob,h1,h2⟩,fun b e=>by cases e;exact ⟨ob,h1,h3⟩⟩
theorem kd_lst:KindD X "list" isLst:=fun ad H st p x R V h pins s σ u I r=>by
  cases V with
  | fro hs r2=>cases r;exact sqF_plain I hs.sq
  | ref hi=>
    simp only [isLst] at h
    split at h
    · rename_i hx
      obtain ⟨vs,e,_⟩:=R.obj _ _ _ hx hi
      cases r
      exact sqF_plain I (SqL.of e)
    · cases h
  | _=>cases h
theorem kd_dic:KindD X "dict" isDic:=fun ad H st p x R V h pins s σ u I r=>by
  cases V with
  | ref hi=>
    simp only [isDic] at h
    split at h
    · rename_i hx
      obtain ⟨vs,e,_⟩:=R.obj _ _ _ hx hi
      cases r
      obtain ⟨t1,t2,_⟩:=isD_at I (Or.inl ⟨vs,.inl e⟩)
      exact ⟨t1,t2⟩
    · cases h
  | _=>cases h
/-- a write of a tracked object -/
theorem ni_lst {H:Hp} {a:Addr} {vs:List V} (e:H a=some (.lst vs)):∀u,H a=some u→¬ Imu u:=fun u z i=>by rw [e] at z;cases z;exact i
theorem rdSet {W:Wd} {ad:List Addr} {H:Hp} {st:Store} {i:Nat} {a:Addr} {o:HO} {u:PO} {p:PV} {v:V} {Q:VK} (q:RdE W (.ok (p,st.set i u)) ad H Q) (R:RO W ad H st) (ha:ad[i]? = some a)
    (r:Ext ad H ad (upd H a o)→OR W ad (upd H a o) u a) (V:VR W ad H p v) (ni:∀u,H a=some u→¬ Imu u) (hnh:∃o,st[i]? = some o∧o≠.hid:=by exact ⟨_,by assumption,by simp⟩) (hu:hidO u=[]:=by rfl):Q v (upd H a o):=by
  have E:=Ext.write (o:=o) R (List.mem_of_getElem? ha) ni
  exact q ad _ E (R.write ha (r E) ni hnh hu) v (V.mono E)
theorem md_append:MtR X "list.append" (rMOf X mAppend):=by?
 exact MtR.to mt_append fun x xs H Q ⟨ad,st,p,ps,R,V,Vs,h⟩=>by
  unfold mAppend at h
  split at h
  · obtain ⟨y,e,ry⟩:=Vs.one
    subst e
    cases V with
    | ref hi=>
      split at h
      · rename_i hx
        obtain ⟨vs,e,r⟩:=R.obj _ _ _ hx hi
        split at h
        · rename_i hc
          rw [r.length] at hc
          refine ⟨_,vs,y,rfl,rfl,e,by rw [sizeLine_eq];exact hc,rdSet h R hi (fun E=>⟨_,upd_same,(r.mono E).append (.cons (ry.mono E) .nil)⟩) .non (ni_lst e)⟩
        · exact h.elim
      · exact h.elim
  · exact h.elim
theorem mr_append:MethR X "append" isLst mAppend:=MethR.mk PySem.F.plainAttrs_list PySem.F.slot_list_append PySem.F.type_list_append md_append kd_lst
theorem mt_dget (hu:X.A.units+1 < cLine):MtR X "dict.get" (fun x xs H Q=>∃a,x=.ref a∧((∃y o,xs=[y]∧DGet H a y o∧Q (o.getD .non) H)∨∃y z o,xs=[y,z]∧DGet H a y o∧Q (o.getD z) H)):=by?
  intro pins s σ H x xs v us Q I rx rs h
  obtain ⟨a,e,h⟩:=h
  subst e;cases rx
  rcases h with ⟨y,o,e,g,q⟩ | ⟨y,z,o,e,g,q⟩
  · subst e
    obtain ⟨u,e2,ry⟩:=vals1 rs
    subst e2
    exact d_get1 hu I g ry fun w' s' I' rw'=>⟨_,H,I',rw',q⟩
  · subst e
    obtain ⟨u,u2,e2,ry,rz⟩:=vals2 rs
    subst e2
    exact d_get2 hu I g ry rz fun w' s' I' rw'=>⟨_,H,I',rw',q⟩
theorem dget_vr {W:Wd} {ad:List Addr} {H:Hp} {ps:List (PV×PV)} {vs:List (Key×V)} (r:DR W ad H ps vs) {p:PV} {v:V} (U:VR W ad H p v) (hk:keyB p=true) {d:PV} {w:V} (D:VR W ad H d w) :
    ∃k,v=kV k∧VR W ad H ((dGet ps p).getD d) ((valV vs k).getD w):=by
  obtain ⟨k,e1,e2⟩:=keyP_vr U hk
  subst e1;subst e2
  refine ⟨k,rfl,?_⟩
  have g:=r.get (k:=k)
  split at g
  · rename_i hg
    obtain ⟨u,g1,g2⟩:=g
    rw [g1,hg];exact g2
  · rename_i hg
    rw [g,hg];exact D
theorem md_get (hu:X.A.units+64 < cLine):MtR X "dict.get" (rMOf X mGet):=by?
 exact MtR.to (mt_dget (by omega)) fun x xs H Q ⟨ad,st,p,ps,R,V,Vs,h⟩=>by
  unfold mGet at h
  split at h
  · cases V with
    | ref hi=>
      split at h
      · rename_i kvs hx
        obtain ⟨ws,e,r⟩:=R.obj _ _ _ hx hi
        refine ⟨_,rfl,?_⟩
        split at h
        · obtain ⟨y,e2,ry⟩:=Vs.one
          subst e2
          split at h
          · rename_i hk
            obtain ⟨k,e3,r3⟩:=dget_vr r ry hk .non
            subst e3
            exact Or.inl ⟨_,_,rfl,DGet.k e,rdOk h R r3⟩
          · exact h.elim
        · obtain ⟨y,z,e2,ry,rz⟩:=Vs.two
          subst e2
          split at h
          · rename_i hk
            obtain ⟨k,e3,r3⟩:=dget_vr r ry hk rz
            subst e3
            exact Or.inr ⟨_,_,_,rfl,DGet.k e,rdOk h R r3⟩
          · exact h.elim
        · exact h.elim
      · exact h.elim
  · exact h.elim
theorem mr_get (hu:X.A.units+64 < cLine):MethR X "get" isDic mGet:=MethR.mk PySem.F.plainAttrs_dict PySem.F.slot_dict_get PySem.F.type_dict_get (md_get hu) kd_dic
theorem IxR.to {r r':R2} (h:IxR X r) (i:∀x y H Q,r' x y H Q→r x y H Q):IxR X r':=fun v s pins sh σ H x y u w Q I rx ry q hs=>h v s pins sh σ H x y u w Q I rx ry (i x y H Q q) hs
theorem id_seq:IxR X (rOf X opIx):=by?
 exact IxR.to ix_seq fun x y H Q ⟨ad,st,p,q,R,V,W,h⟩=>by
  unfold opIx at h
  split at h
  · rename_i i
    cases W
    split at h
    · cases V
      split at h
      · rename_i hl
        split at h
        · rename_i j hj
          split at h
          · rename_i c hc
            refine Or.inr (Or.inr ⟨_,_,c,rfl,rfl,by rw [sizeLine_eq];exact hl,?_,rdOk h R (.str _)⟩)
            unfold atI
            rw [show ixN _ _=some j from hj]
            exact hc
          · exact h.elim
        · exact h.elim
      · exact h.elim
    · split at h
      · rename_i ys hy
        split at h
        · rename_i j hj
          split at h
          · rename_i v hv
            obtain ⟨a,vs,e,hs,r⟩:=seqP_of R V hy
            subst e
            obtain ⟨w,hw,rw'⟩:=r.get hv
            have hat:atI vs i=some w:=by
              unfold atI
              rw [← r.length,show ixN ys.length i=some j from hj]
              exact hw
            rcases hs with hs | hs
            · exact Or.inl ⟨a,vs,_,w,rfl,rfl,hs,hat,rdOk h R rw'⟩
            · exact Or.inr (Or.inl ⟨a,vs,_,w,rfl,rfl,hs,hat,rdOk h R rw'⟩)
          · exact h.elim
        · exact h.elim
      · exact h.elim
  · exact h.elim
variable {a b:Expr} {mb mc:EvE} {pos:Pos}
theorem se_ix (ha:SE X a mo) (hb:SE X b mb) (hs:PlainIx b:=by first | exact fun _ _=>rfl | (intro _ _;rfl)):SE X (.Subscript a b pos) (eBinG opIx mo mb):=
  se_gc (PE.to (pe_ix id_seq ha hb hs) fun σ H Q q=>go2 q)
theorem se_dget (hu:X.A.units+64 < cLine) (ha:SE X a mo) (hb:SE X b mb) (hs:NoSl b:=by first | exact fun _ _=>rfl | (intro _ _;rfl)):SE X (.Subscript a b pos) (eBinG opDGet mo mb):=by?
  refine se_gc (PE.to (pe_dget (by omega) ha hb hs) fun σ H Q ⟨ad,st,σp,S,q⟩=>goE S q fun x ad1 H1 v e1 E1 S1 V1 q1=>goE S1 q1 fun y ad2 H2 w e2 E2 S2 V2 h=>?_)
  have V1':=V1.mono E2
  unfold opDGet at h
  split at h
  · rename_i i hxi
    rw [hxi] at V1'
    cases V1' with
    | ref hi=>
      split at h
      · rename_i kvs hx
        obtain ⟨ws,e,r⟩:=S2.ro.obj _ _ _ hx hi
        split at h
        · rename_i hk
          split at h
          · rename_i u hu'
            obtain ⟨k,e3,e4⟩:=keyP_vr V2 hk
            have g:=r.get (k:=k)
            rw [← e3,hu'] at g
            obtain ⟨z,g1,g2⟩:=g
            subst e4
            exact ⟨_,z,rfl,by rw [← g1];exact DGet.k e,rdOk h S2.ro g2⟩
          · exact h.elim
        · exact h.elim
      · exact h.elim
  · exact h.elim
noncomputable
abbrev EvO:=Slots→Store→Res (Option Int×Store)
noncomputable
def tOfO (W:Wd) (m:EvO):L2.St→Hp→(Option Int→Hp→Prop)→Prop:=fun σ H Q=>∃ad st σp,RS W ad H st σp σ∧RdG (m σp st) ad H fun x ad' H'=>RO W ad' H' x.2→Q x.1 H'
noncomputable
def SO (X:Cx) (e:Option Expr) (m:EvO):Prop:=L2.PO X e (tOfO X.wd m)
theorem so_none:SO X none eNoEnd:=⟨fun pins s σ H Q I ⟨ad,st,σp,S,q⟩=>po_none.run pins s σ H Q I (RdG.ok q S.ro)⟩
theorem so_some (h:SE X a mo):SO X (some a) (eEnd mo):=⟨fun pins s σ H Q I ⟨ad,st,σp,S,q⟩=>(po_some h).run pins s σ H Q I (goE S q fun x ad1 H1 v e1 E1 S1 V1 q1=>by
  split at q1
  · rename_i i hi
    rw [hi] at V1
    cases V1
    exact ⟨_,rfl,RdG.ok q1 S1.ro⟩
  · exact q1.elim)⟩
theorem sIxP_eq (n d:Nat) (o:Option Int):sIxP n d o=HT.sIx n d o:=by
  cases o with
  | none=>rfl
  | some i=>
    unfold HT.sIx sIxP
    first | rfl | (simp only [];split <;> omega)
theorem SlR.to {r r':V→Option Int→Option Int→Hp→VK→Prop} (h:SlR X r) (i:∀x lo hi H Q,r' x lo hi H Q→r x lo hi H Q):SlR X r':=
  fun pins s σ H x v vl vu lo hi sl Q I rx hs pl pu q=>h pins s σ H x v vl vu lo hi sl Q I rx hs pl pu (i x lo hi H Q q)
theorem VRs.cut2 {W:Wd} {ad:List Addr} {H:Hp} {ps:List PV} {vs:List V} (h:VRs W ad H ps vs) (lo hi:Option Int):VRs W ad H (cutP ps lo hi) (cutV vs lo hi):=by
  unfold cutP cutV
  rw [h.length,sIxP_eq,sIxP_eq]
  exact (h.drop _).take _
noncomputable
def rSlOf (X:Cx):V→Option Int→Option Int→Hp→VK→Prop:=fun x lo hi H Q=>∃ad st p,RO X.wd ad H st∧VR X.wd ad H p x∧RdE X.wd (opSl p lo hi st) ad H Q
theorem sd_sl:SlR X (rSlOf X):=by?
 exact SlR.to (sl_tupU.or (sl_list.or sl_str)) fun x lo hi H Q ⟨ad,st,p,R,V,h⟩=>by
  unfold opSl at h
  split at h
  · cases V with
    | tup hs r=>
      refine Or.inl ⟨_,_,rfl,hs.sq,fun hw=>?_,fun _=>rdTup h R (r.cut2 lo hi)⟩
      have e:cutP _ lo hi=_:=(show cutP _ lo hi=_ from by
        unfold cutP
        rw [sIxP_eq,sIxP_eq,r.length,hw.1,hw.2,← r.length,Nat.sub_zero,List.drop_zero,List.take_length])
      rw [e] at h
      exact rdOk h R (.tup hs r)
  · cases V
    split at h
    · rename_i hl
      refine Or.inr (Or.inr ⟨_,rfl,by rw [sizeLine_eq];exact hl,?_⟩)
      refine rdOk (by
        rw [show (cutS _ lo hi)=⟨(cutP _ lo hi).toArray⟩ from by
          unfold cutP cutS
          rw [sIxP_eq,sIxP_eq]
          rfl]
        exact h) R (.str _)
    · exact h.elim
  · cases V with
    | ref hi'=>
      split at h
      · rename_i hx
        obtain ⟨vs,e,r⟩:=R.obj _ _ _ hx hi'
        exact Or.inr (Or.inl ⟨_,vs,rfl,SqL.of e,fun l hl=>rdNew h R (r.cut2 lo hi) hl⟩)
      · exact h.elim
  · exact h.elim
theorem se_sl {lo hi:Option Expr} {ml mh:EvO} {p2:Pos} (ha:SE X a mo) (hl:SO X lo ml) (hh:SO X hi mh):SE X (.Subscript a (.Slice lo hi none p2) pos) (eSl mo ml mh):=
  se_gc (PE.to (pe_slice sd_sl ha hl hh) fun σ H Q ⟨ad,st,σp,S,q⟩=>goE S q fun x ad1 H1 v e1 E1 S1 V1 q1=>
    ⟨ad1,x.2,σp,S1,q1.bind.imp fun l ad2 H2 e2 E2 q2 R2=>⟨ad2,l.2,σp,S1.mono E2 R2,q2.bind.imp fun h ad3 H3 e3 E3 q3 R3=>⟨ad3,h.2,x.1,R3,(V1.mono E2).mono E3,q3⟩⟩⟩)
end
noncomputable
def SqB (K:PySem.W.Frag) (tp:Bool) (H:Hp) (a:Addr) (xs:List V):Prop:=if tp then SqT K H a xs else SqL K H a xs
noncomputable
def IsB (tp:Bool) (h:Heap) (a:Addr) (its:Array Value):Prop:=if tp then h.IsTuple a its else h.IsList a its
noncomputable
def ItB (tp:Bool) (h:Heap) (it a:Addr) (i:Nat):Prop:=if tp then h.IsTupleIter it a i else h.IsListIter it a i
section
variable {X:Cx} {pins:List (Addr×Obj)} {σ:L2.St} {H:Hp} {s:Shared} {a:Addr} {xs ys:List V} {tp:Bool}
theorem SqB.at (I:Inv X pins σ H s) (h:SqB X.K tp H a xs):∃its:List Value,Vals xs its∧IsB tp s.heap a its.toArray∧xs.length≤sizeLine:=by
  cases tp with
  | true=>
    obtain ⟨its,r,p,z⟩:=I.tuple h
    exact ⟨its,r,p,z⟩
  | false=>
    obtain ⟨its,r,p,z⟩:=I.list h
    exact ⟨its,r,p.isList,z⟩
theorem SqB.inj (I:Inv X pins σ H s) (h:SqB X.K tp H a xs) (h':SqB X.K tp H a ys):xs=ys:=by
  cases tp with
  | true=>exact I.tuple_inj h h'
  | false=>exact I.list_inj h h'
theorem ItB.obj {h:Heap} {it a:Addr} {i:Nat} (st:ItB tp h it a i):∃o,h.get? it=some o∧∀v,o.data≠.cell v:=by
  cases tp with
  | true=>
    obtain ⟨o,e,_,d⟩:=(st:h.IsTupleIter it a i)
    exact ⟨o,e,fun v z=>by rw [d] at z;cases z⟩
  | false=>
    obtain ⟨o,e,_,d⟩:=(st:h.IsListIter it a i)
    exact ⟨o,e,fun v z=>by rw [d] at z;cases z⟩
theorem ItB.keep {h h':Heap} {it a:Addr} {i:Nat} (st:ItB tp h it a i) (k:∀o,h.get? it=some o→h'.get? it=some o):ItB tp h' it a i:=by
  cases tp with
  | true=>exact (st:h.IsTupleIter it a i).at k
  | false=>exact (st:h.IsListIter it a i).at k
theorem drawsB {prog:Program} {w:World} {A:Around} (hh:A.handled=none) (it l:Addr) (hne:l≠it) (items:Array Value) :
    Draws prog w A it [it,l] items.size (fun i v=>items[i]? = some v) (fun i h=>ItB tp h it l i∧IsB tp h l items):=by
  cases tp with
  | true=>exact Draws.tuple hh it l hne items
  | false=>exact Draws.list hh it l hne items
/-- the iterator object that iter() makes -/
noncomputable
def itObj (tp:Bool) (a:Addr):Obj:=if tp then { cls:=.type "tuple_iterator", data:=.fields #[.ref a,.int 0 0] } else { cls:=.type "list_iterator", data:=.fields #[.ref a,.int 0 0] }
theorem beginsB (a:Addr) (items:Array Value):Begins (.ref a) (itObj tp a) fun h=>IsB tp h a items:=by
  cases tp with
  | true=>exact begins_tuple a items
  | false=>exact begins_list a items
theorem itB_new {h:Heap} {it:Addr} (e:h.get? it=some (itObj tp a)):ItB tp h it a 0:=by
  cases tp with
  | true=>exact ⟨_,e,rfl,rfl⟩
  | false=>exact ⟨_,e,rfl,rfl⟩
/-- zip -/
noncomputable
def ItZ (K:PySem.W.Frag) (t1 t2:Bool) (a b:Addr):It:=
  ⟨fun i H=>∃ (xs ys:List V) (x y:V),SqB K t1 H a xs∧SqB K t2 H b ys∧xs[i]? = some x∧ys[i]? = some y,
   fun i H v H'=>∃T x y its,v=.ref T∧H T=none∧H'=upd H T (.frz (tupObj its) (.tup [x,y]))∧(∀xs,SqB K t1 H a xs→xs[i]? = some x)∧∀ys,SqB K t2 H b ys→ys[i]? = some y,
   fun i H=>∃xs ys:List V,SqB K t1 H a xs∧SqB K t2 H b ys∧i≤xs.length∧i≤ys.length∧(i=xs.length∨i=ys.length)⟩
theorem turn_zipB {P:Program} {w:World} {K:PySem.W.Frag} {elts:List Expr} {kk:Nat} {tpos:Pos} {t1 t2:Bool} {a b z TI TO i1 i2:Addr} (S:ZipSep2 z TI TO i1 i2 [i1,a] [i2,b]) (na:a≠i1) (nb:b≠i2) :
    Turn P w K (.Tuple elts kk tpos) (ItZ K t1 t2 a b) [z,TI,TO,i1,i2] z (fun i h=>IsZip h z TI TO .none∧IsTupOf2 h TI (.ref i1) (.ref i2)∧(∃x y,IsTupOf2 h TO x y)∧ItB t1 h i1 a i∧ItB t2 h i2 b i) where
  mem:=by simp
  obj:=fun i h st c hc=>by
    obtain ⟨hz,hTI,⟨x,y,hTO⟩,h1,h2⟩:=st
    have hc':c=z∨c=TI∨c=TO∨c=i1∨c=i2:=by simpa using hc
    rcases hc' with q | q | q | q | q <;> subst q
    · exact ⟨_,hz,fun v q=>nomatch q⟩
    · exact ⟨_,hTI,fun v q=>nomatch q⟩
    · exact ⟨_,hTO,fun v q=>nomatch q⟩
    · exact h1.obj
    · exact h2.obj
  keep:=fun i h h' st k=>by
    obtain ⟨hz,hTI,⟨x,y,hTO⟩,h1,h2⟩:=st
    exact ⟨k z (by simp) _ hz,k TI (by simp) _ hTI,⟨x,y,k TO (by simp) _ hTO⟩,h1.keep fun o q=>k i1 (by simp) o q,h2.keep fun o q=>k i2 (by simp) o q⟩
  item:=by
    intro X hP hw hK hc i pins s σ H E I hf st hg
    subst hP hw hK
    obtain ⟨hz,hTI,⟨x0,y0,hTO⟩,h1,h2⟩:=st
    obtain ⟨xs,ys,x,y,hqx,hqy,hx,hy⟩:=hg
    obtain ⟨its,rv,p,_⟩:=hqx.at I
    obtain ⟨its2,rv2,p2,_⟩:=hqy.at I
    obtain ⟨u,hu,ru⟩:=rv.get hx
    obtain ⟨u2,hu2,ru2⟩:=rv2.get hy
    have hzl:z < s.heap.objs.size:=Heap.lt_size hz
    have lt1:i < its.toArray.size:=by simpa using (List.getElem?_eq_some_iff.mp hu).1
    have lt2:i < its2.toArray.size:=by simpa using (List.getElem?_eq_some_iff.mp hu2).1
    refine wpAny_pyNext_zipD2_item S (drawsB (A:=X.A.in1) (tp:=t1) (I.ok.hd hc) i1 a na its.toArray) (drawsB (A:=X.A.in1) (tp:=t2) (I.ok.hd hc) i2 b nb its2.toArray) hz hTI hTO ⟨h1,p⟩ ⟨h2,p2⟩ lt1 lt2 fun v1 v2 h' tk P1 P2 z' TO' s1' s2' hT hsz hk=>?_
    have e1:v1=u:=by
      have q1:its.toArray[i]? = some v1:=P1
      rw [show its.toArray[i]? = some u from by simpa using hu] at q1
      exact (Option.some.inj q1).symm
    have e2:v2=u2:=by
      have q1:its2.toArray[i]? = some v2:=P2
      rw [show its2.toArray[i]? = some u2 from by simpa using hu2] at q1
      exact (Option.some.inj q1).symm
    subst e1;subst e2
    refine ⟨_,rfl,wpAny_letOwnedTupleGo_zip (s:={ s with heap:=h',toks:=tk }) z' fun h'' z'' sb=>?_⟩
    have hT2:h''.get? s.heap.objs.size=some (tupObj [v1,v2]):=(sb.2 _ (Nat.ne_of_gt hzl)).trans hT
    have hk':∀c o,c∉[z,TI,TO,i1,i2]→s.heap.get? c=some o→h''.get? c=some o:=fun c o hc q=>
      (sb.2 c (fun e=>hc (by simp [e]))).trans (hk c o (fun e=>hc (by simp [e])) (fun e=>hc (by simp [e])) (fun e=>hc (by simp [e])) (fun e=>hc (by simp [e])) q)
    have I1:Inv X pins σ (upd H s.heap.objs.size (.frz (tupObj [v1,v2]) (.tup [x,y]))) { s with heap:=h'',toks:=tk }:=
      I.turnedNew (ch:=[z,TI,TO,i1,i2]) hk' hf (Nat.le_refl _) ⟨hT2,(by show 2≤sizeLine;decide),_,.cons ru (.cons ru2 .nil),_,hT2,rfl,_,rfl⟩
    have lt:∀c∈[z,TI,TO,i1,i2],c < s.heap.objs.size:=fun c hc=>by
      have hc':c=z∨c=TI∨c=TO∨c=i1∨c=i2:=by simpa using hc
      rcases hc' with q | q | q | q | q <;> subst q
      · exact hzl
      · exact Heap.lt_size hTI
      · exact Heap.lt_size hTO
      · obtain ⟨_,q,_⟩:=h1.obj;exact Heap.lt_size q
      · obtain ⟨_,q,_⟩:=h2.obj;exact Heap.lt_size q
    have zi1:i1≠z:=fun e=>S.zf1 (e ▸ by simp)
    have zi2:i2≠z:=fun e=>S.zf2 (e ▸ by simp)
    refine ⟨.ref s.heap.objs.size,_,I1,rfl,⟨_,x,y,_,rfl,I.hok.fresh (Nat.le_refl _),rfl,fun l hl=>by rw [hl.inj I hqx];exact hx,fun l hl=>by rw [hl.inj I hqy];exact hy⟩,
      ⟨z'',?_,⟨v1,v2,(sb.2 _ S.TOz).trans TO'⟩,s1'.1.keep fun o q=>(sb.2 _ zi1).trans q,s2'.1.keep fun o q=>(sb.2 _ zi2).trans q⟩,fun c hcm=>?_⟩
    · exact (sb.2 _ S.TIz).trans (hk _ _ S.TIz S.TITO S.TIi1 S.TIi2 hTI)
    · rw [upd_ne (Nat.ne_of_lt (lt c hcm))]
      exact (hf c hcm).1
  done:=by
    intro X hP hw hK hc i pins s σ H E I hf st hg
    subst hP hw hK
    obtain ⟨hz,hTI,⟨x0,y0,hTO⟩,h1,h2⟩:=st
    obtain ⟨xs,ys,hqx,hqy,l1,l2,hend⟩:=hg
    obtain ⟨its,rv,p,_⟩:=hqx.at I
    obtain ⟨its2,rv2,p2,_⟩:=hqy.at I
    have e1:=rv.length
    have e2:=rv2.length
    refine wpAny_pyNext_zipD2_end S (drawsB (A:=X.A.in1) (tp:=t1) (I.ok.hd hc) i1 a na its.toArray) (drawsB (A:=X.A.in1) (tp:=t2) (I.ok.hd hc) i2 b nb its2.toArray) hz hTI hTO ⟨h1,p⟩ ⟨h2,p2⟩ (by simp;omega) (by simp;omega)
      (by simp;omega) fun h' tk hk=>⟨rfl,?_⟩
    have nit:∀b u,H b=some u→b∉[z,TI,TO,i1,i2]:=fun b u e q=>by
      have:=(hf b q).1
      rw [this] at e;cases e
    refine I.step (g':=s.gens) (d':=s.drawn) (ch:=[z,TI,TO,i1,i2]) (fun b hb=>⟨(hf b hb).2.2.2.1,(hf b hb).2.1,(hf b hb).2.2.2.2.1,(hf b hb).2.2.2.2.2⟩) (fun b o _ _ hc e _=>?_) (fun b o _ _ hc e _=>⟨o.slots,?_⟩) (fun _ _ _ _ n=>n)
      (fun b o hc e=>⟨o,?_⟩) (fun _ _ e=>e) (fun _ _ _ e=>e) (fun b ps e=>⟨#[],by rw [e];simp⟩) (fun m hm=>?_) (fun b u e=>?_) I.bare
    · exact hk b o (fun q=>hc (by simp [q])) (fun q=>hc (by simp [q])) (fun q=>hc (by simp [q])) (fun q=>hc (by simp [q])) e
    · exact hk b o (fun q=>hc (by simp [q])) (fun q=>hc (by simp [q])) (fun q=>hc (by simp [q])) (fun q=>hc (by simp [q])) e
    · exact hk b o (fun q=>hc (by simp [q])) (fun q=>hc (by simp [q])) (fun q=>hc (by simp [q])) (fun q=>hc (by simp [q])) e
    · obtain ⟨o,es,ep,ho,r⟩:=hm
      have nl:∀c∈[z,TI,TO,i1,i2],c≠X.env.locals:=fun c hc=>(hf c hc).2.1
      exact ⟨o,es,ep,hk _ o (nl z (by simp)).symm (nl TO (by simp)).symm (nl i1 (by simp)).symm (nl i2 (by simp)).symm ho,r⟩
    · refine (I.hok b u e).stay (fun c v hc q=>?_) (fun _ q=>q) fun _ _ q=>q
      have hn:c∉[z,TI,TO,i1,i2]:=by
        rcases hc with q2 | q2
        · rw [q2];exact nit b u e
        · exact nit c _ q2
      exact hk c v (fun q=>hn (by simp [q])) (fun q=>hn (by simp [q])) (fun q=>hn (by simp [q])) (fun q=>hn (by simp [q])) q
  self:=fun A i s Q E st h=>wpAny_pyIter_zip st.1 h
theorem pi_zipB {e e2:Expr} {ta:TA} {p pos tpos:Pos} {elts:List Expr} {kk:Nat} (hg:Gl X "zip") (hm:X.mg "zip" = none) (ha:PA X [e,e2] ta)
    (hs:starEach [e,e2] X.env=(false,eval e X.env)::starEach [e2] X.env:=by rfl) (hpl:(backTo pos (starEach [e2] X.env)).any (·.1)=false:=by rfl) :
    PI X (.Tuple elts kk tpos) (.Call (.Name "zip" p) [e,e2] [] pos) (fun σ H R=>ta σ H fun vs H1=>∃a b xs ys t1 t2,vs=[.ref a,.ref b]∧SqB X.K t1 H1 a xs∧SqB X.K t2 H1 b ys∧R (ItZ X.K t1 t2 a b) H1):=by?
  constructor
  intro pins s σ H R I h
  refine Call_ (ld_blt I hg hm PyProof.Rows.boot_zip (PyProof.Rows.callWith_type1 (thn (ha.run pos pins s σ H _ I h) ?_) hs hpl))
  rintro us s1 ⟨vs,H1,I1,r1,a,b,xs,ys,t1,t2,ex,hqx,hqy,q⟩
  subst ex
  obtain ⟨u,u2,e3,rx,ry⟩:=vals2 r1
  subst e3;cases rx;cases ry
  obtain ⟨its,rv,p1,_⟩:=hqx.at I1
  obtain ⟨its2,rv2,p2,_⟩:=hqy.at I1
  refine zip_begins2 (beginsB a its.toArray) (beginsB b its2.toArray) p1 p2 fun h' hz hTI hTO h1 h2 hsz hk=>wpAny_pyIter_zip hz ?_
  have I2:Inv X pins σ H1 { s1 with heap:=h' }:=I1.kept (t':=s1.toks) hk
  have lt:∀ {t:Bool} {c:Addr} {l:Array Value},IsB t s1.heap c l→c < s1.heap.objs.size:=fun {t c l} z=>by
    cases t with
    | true=>obtain ⟨o,z,_⟩:=(z:s1.heap.IsTuple c _);exact Heap.lt_size z
    | false=>obtain ⟨o,z,_⟩:=(z:s1.heap.IsList c _);exact Heap.lt_size z
  have S:=zip_sep2 (N:=s1.heap.objs.size) (fp1:=[a]) (fp2:=[b]) (by intro c hc;rw [List.mem_singleton.mp hc];exact lt p1) (by intro c hc;rw [List.mem_singleton.mp hc];exact lt p2)
  refine ⟨s1.heap.objs.size+4,[s1.heap.objs.size+4,s1.heap.objs.size+2,s1.heap.objs.size+3,s1.heap.objs.size,s1.heap.objs.size+1],_,_,H1,rfl,I2,
    turn_zipB S (Nat.ne_of_lt (lt p1)) (Nat.ne_of_lt (Nat.lt_succ_of_lt (lt p2))),⟨hz,hTI,⟨_,_,hTO⟩,itB_new h1,itB_new h2⟩,fun c hcm=>?_,q⟩
  have hc':c=s1.heap.objs.size+4∨c=s1.heap.objs.size+2∨c=s1.heap.objs.size+3∨c=s1.heap.objs.size∨c=s1.heap.objs.size+1:=by simpa using hcm
  have hle:s1.heap.objs.size≤c:=by
    rcases hc' with z | z | z | z | z <;> (rw [z];first | exact Nat.le_add_right _ _ | exact Nat.le_refl _)
  exact I1.fpOk hle (I1.hok.fresh hle)
end
section
variable {X:Cx} {e a b c:Expr} {es:List Expr} {m ma mb mc:EvE} {t u ta tb:EvT} {pos:Pos}
theorem tval_go {σ:LSt} {H:Hp} {Q:Bool→Hp→Prop} (q:tOfT X.wd (tVal m) σ H Q):tOfE X.wd m σ H fun x H1=>∃k,x=.bl k∧Q k H1:=by
  obtain ⟨ad,st,σp,S,q⟩:=q
  refine goE S q fun x ad1 H1 v e1 E1 S1 V1 q1=>?_
  split at q1
  · rename_i k hk
    rw [hk] at V1
    cases V1
    exact ⟨_,rfl,RdG.ok q1 S1.ro⟩
  · exact q1.elim
theorem st_val (h:SE X e m) (he:∀whole,isTrue e X.env whole=(do let v ← whole;standAt e.pos;holding [v] (truthy v)):=by intro _;rfl):ST X e (tVal m):=
  PT.to (pt_val h he) fun σ H Q q=>tval_go q
theorem gcE {σ:LSt} {H:Hp} {Q:VK} (q:tOfE X.wd (fun σ st=>gcR st (m σ st)) σ H Q):tOfE X.wd m σ H Q:=by
  obtain ⟨ad,st,σp,S,q⟩:=q
  exact ⟨ad,st,σp,S,rd_gc S.ro q⟩
theorem st_cmp {op:CmpOp} {F:Op2} (ho:OpD X (compareOp op) F) (ha:SE X a ma) (hb:SE X b mb) (hm:behindInMarks op b=false):ST X (.Compare a [op] [b] pos) (tVal (eBinG F ma mb)):=
  PT.to (pt_cmpR ho ha hb hm) fun σ H Q q=>go2 (gcE (m:=eBin F ma mb) (tval_go q))
theorem st_not (h:ST X a ta):ST X (.UnaryOp .Not a pos) (tNot ta):=PT.to (pt_not h) fun σ H Q ⟨ad,st,σp,S,q⟩=>goT S q fun x ad1 H1 e1 E1 S1 q1=>RdG.ok q1 S1.ro
theorem sw_or1 (h:ST X a ta):SW X (.BoolOp .Or [a] pos) ta:=PW.to (pw_or1 h) fun σ H Q q=>q
theorem sw_or {rest:List Expr} (ha:ST X a ta) (hb:SW X (.BoolOp .Or (b::rest) pos) tb):SW X (.BoolOp .Or (a::b::rest) pos) (tOr ta tb):=
  PW.to (pw_or ha hb) fun σ H Q ⟨ad,st,σp,S,q⟩=>goT S q fun x ad1 H1 e1 E1 S1 q1=>by
    cases hx:x.1 with
    | true=>rw [if_pos rfl];rw [hx] at q1;exact RdG.ok q1 S1.ro
    | false=>rw [if_neg (by decide)];rw [hx] at q1;exact ⟨ad1,x.2,σp,S1,q1⟩
theorem SW.st (h:SW X e t):ST X e t:=PW.pt h
theorem se_one {op} (h:SE X a ma):SE X (.BoolOp op [a] pos) ma:=PE.to (pe_one h) fun σ H Q q=>q
theorem se_and {rest:List Expr} (ha:SE X a ma) (hb:SE X (.BoolOp .And (b::rest) pos) mb):SE X (.BoolOp .And (a::b::rest) pos) (eAnd ma mb):=
  PE.to (pe_and ha hb) fun σ H Q ⟨ad,st,σp,S,q⟩=>goE S q fun x ad1 H1 v e1 E1 S1 V1 q1=>by
    split at q1
    · rename_i k hk
      rw [hk] at V1
      cases V1
      refine ⟨k,rfl,?_⟩
      cases k with
      | true=>exact ⟨ad1,x.2,σp,S1,q1⟩
      | false=>exact rdOk q1 S1.ro (.bl _)
    · exact q1.elim
theorem se_not (ha:SE X a ma):SE X (.UnaryOp .Not a pos) (eNot ma):=
  PE.to (pe_not ha) fun σ H Q ⟨ad,st,σp,S,q⟩=>goE S q fun x ad1 H1 v e1 E1 S1 V1 q1=>by
    split at q1
    · rename_i k hk
      rw [hk] at V1
      cases V1
      exact ⟨k,rfl,rdOk q1 S1.ro (.bl _)⟩
    · exact q1.elim
theorem se_if (ht:ST X c t) (ha:SE X a ma) (hb:SE X b mb):SE X (.IfExp c a b pos) (eIf t ma mb):=
  PE.to (pe_ifExp ht ha hb) fun σ H Q ⟨ad,st,σp,S,q⟩=>goT S q fun x ad1 H1 e1 E1 S1 q1=>by
    cases hx:x.1 with
    | true=>rw [if_pos rfl];rw [hx] at q1;exact ⟨ad1,x.2,σp,S1,q1⟩
    | false=>rw [if_neg (by decide)];rw [hx] at q1;exact ⟨ad1,x.2,σp,S1,q1⟩
variable {s:Stmt} {ss:List Stmt} {n n':EvS}
/-- a part's outcome,the rest by its flow -/
theorem rdS_bind {W:Wd} {ad:List Addr} {H:Hp} {r:Res (Fl×Slots×Store)} {f:Fl×Slots×Store→Res (Fl×Slots×Store)} {D D':Ends} (h:RdS W (r >>= f) ad H D)
    (nx:∀σp st ad' H' σ',Ext ad H ad' H'→RS W ad' H' st σp σ'→RdS W (f (.nx,σp,st)) ad' H' D→D'.nx σ' H')
    (bk:∀σp st ad' H' σ',Ext ad H ad' H'→RS W ad' H' st σp σ'→RdS W (f (.bk,σp,st)) ad' H' D→D'.bk σ' H')
    (ct:∀σp st ad' H' σ',Ext ad H ad' H'→RS W ad' H' st σp σ'→RdS W (f (.ct,σp,st)) ad' H' D→D'.ct σ' H')
    (rt:∀p σp st ad' H' v,Ext ad H ad' H'→RO W ad' H' st→VR W ad' H' p v→RdS W (f (.rt p,σp,st)) ad' H' D→D'.rt v H'):RdS W r ad H D':=by
  refine (RdG.bind h).imp fun x ad' H' e1 E g=>?_
  obtain ⟨fl,σp,st⟩:=x
  cases fl with
  | nx=>exact fun σ' S=>nx σp st ad' H' σ' E S g
  | bk=>exact fun σ' S=>bk σp st ad' H' σ' E S g
  | ct=>exact fun σ' S=>ct σp st ad' H' σ' E S g
  | rt p=>exact fun R v V=>rt p σp st ad' H' v E R V g
theorem ss_nil:SSs X [] sNil:=PSs.to pss_nil fun D σ H ⟨ad,st,σp,S,q⟩=>RdG.ok q σ S
theorem ss_cons (h1:SS X s n) (h2:SSs X ss n'):SSs X (s::ss) (sSeq n n'):=
  PSs.to (pss_cons h1 h2) fun D σ H ⟨ad,st,σp,S,q⟩=>⟨ad,st,σp,S,rdS_bind q (fun σp st ad' H' σ' E S q=>⟨ad',st,σp,S,q⟩) (fun σp st ad' H' σ' E S q=>RdG.ok q σ' S)
    (fun σp st ad' H' σ' E S q=>RdG.ok q σ' S) (fun p σp st ad' H' v E R V q=>RdG.ok q R v V)⟩
theorem ss_one (h1:SS X s n):SSs X [s] n:=PSs.to (pss_one h1) fun D σ H q=>q
theorem ss_never:SS X s sNever:=PS.to ps_never fun D σ H ⟨ad,st,σp,S,q⟩=>q
theorem ss_expr (h:SE X e m) (hs:swapsWith e none pos.line X.env=pure false:=by rfl):SS X (.Expr e pos) (sDrop m):=
  PS.to (ps_expr h hs) fun D σ H ⟨ad,st,σp,S,q⟩=>goE S q fun x ad1 H1 v e1 E1 S1 V1 q1=>RdG.ok q1 σ S1
theorem ss_ret (h:SE X e m):SS X (.Return (some e) pos) (sRet m):=
  PS.to (ps_ret h) fun D σ H ⟨ad,st,σp,S,q⟩=>goE S q fun x ad1 H1 v e1 E1 S1 V1 q1=>RdG.ok q1 S1.ro v V1
theorem ss_if {ss ss':List Stmt} (hc:ST X c t) (ha:SSs X ss n) (hb:SSs X ss' n'):SS X (.If c ss ss' pos) (sIf t n n'):=
  PS.to (ps_if hc ha hb) fun D σ H ⟨ad,st,σp,S,q⟩=>goT S q fun x ad1 H1 e1 E1 S1 q1=>by
    cases hx:x.1 with
    | true=>rw [if_pos rfl];rw [hx] at q1;exact ⟨ad1,x.2,σp,S1,q1⟩
    | false=>rw [if_neg (by decide)];rw [hx] at q1;exact ⟨ad1,x.2,σp,S1,q1⟩
theorem sg_name {i:Nat} {x:Str} (hN:X.N.Nodup) (hi:X.N[i]? = some x:=by rfl) (hx:Loc X.env.scope x:=by first | exact Or.inl rfl | exact Or.inr rfl)
    (hf:X.fn x=true∨X.env.scope.names.lookup x=some .local:=by first | exact .inl rfl | exact .inr rfl):SG X (.Name x pos) (.nm i):=pg_name hN hi hx hf
theorem sgs_nil:SGs X [] []:=pgs_nil
theorem sgs_cons {g:Tg} {gs:List Tg} (h1:SG X e g) (h2:SGs X es gs) (hs:(assignEach (e::es) X.env).map (·.2)=assign e X.env::(assignEach es X.env).map (·.2):=by rfl):SGs X (e::es) (g::gs):=pgs_cons h1 h2 hs
theorem sg_tup {k:Nat} {gs:List Tg} (hc:X.calm=true) (h:SGs X es gs) (hn:(assignEach es X.env).length=gs.length:=by rfl) (hst:(assignEach es X.env).findIdx? (·.1)=none:=by rfl):SG X (.Tuple es k pos) (.tp gs):=pg_tup hc h hn hst
section
variable {W:Wd} {ad:List Addr} {H:Hp} {st:Store}
theorem wipe_set (vs:List Nat) {i:Nat} (σ:LSt) (o:Option V):i∈vs→wipe (σ.set i o) vs=wipe σ vs:=by?
  induction vs with
  | nil=>intro h;cases h
  | cons v vs ih=>
    intro h
    unfold wipe
    by_cases e:i=v
    · subst e
      by_cases hm:i∈vs
      · rw [ih hm]
      · have:∀ (l:List Nat),i∉l→wipe (σ.set i o) l=(wipe σ l).set i o:=fun l=>by
          induction l with
          | nil=>intro _;rfl
          | cons w l ih2=>
            intro hl
            unfold wipe
            rw [ih2 (fun z=>hl (List.mem_cons_of_mem _ z)),List.set_comm _ _ (fun z=>hl (by rw [z];exact List.mem_cons_self))]
        rw [this vs hm,List.set_set]
    · rcases List.mem_cons.mp h with z | z
      · exact absurd z e
      · rw [ih z]
theorem wipe_wipe (vs:List Nat) (σ:LSt):wipe (wipe σ vs) vs=wipe σ vs:=by?
  have:∀ (ws:List Nat),(∀i∈ws,i∈vs)→wipe (wipe σ ws) vs=wipe σ vs:=fun ws=>by
    induction ws with
    | nil=>intro _;rfl
    | cons w ws ih=>
      intro h
      show wipe ((wipe σ ws).set w none) vs=_
      rw [wipe_set vs _ _ (h w List.mem_cons_self),ih fun i hi=>h i (List.mem_cons_of_mem _ hi)]
  exact this vs fun _ h=>h
theorem RS.wipe {σp:Slots} {σ:LSt} (S:RS W ad H st σp σ):∀vs:List Nat,RS W ad H st (wipeP σp vs) (L2.wipe σ vs)
  | []=>S
  | v :: vs=>by
    have ih:=RS.wipe S vs
    refine ⟨ih.ro,fun i p h=>?_,?_⟩
    · have hi:i≠v:=fun e=>by
        subst e
        change ((wipeP σp vs).set i none)[i]? = _ at h
        by_cases hl:i < (wipeP σp vs).length
        · rw [List.getElem?_set_self hl] at h;cases h
        · rw [List.getElem?_eq_none (by simpa using hl)] at h;cases h
      change ((wipeP σp vs).set v none)[i]? = _ at h
      rw [List.getElem?_set_ne (Ne.symm hi)] at h
      show ∃w,((L2.wipe σ vs).set v none)[i]? = _∧_
      rw [List.getElem?_set_ne (Ne.symm hi)]
      exact ih.sl i p h
    · show ((wipeP σp vs).set v none).length=((L2.wipe σ vs).set v none).length
      rw [List.length_set,List.length_set,ih.ln]
mutual
theorem put_go {vs:List Nat}:∀ (g:Tg) {p:PV} {v:V} {σp σp':Slots} {σ:LSt} {Q:LSt→Hp→Prop},RS W ad H st σp σ→VR W ad H p v→g.put p σp=some σp' →
    (∀σ',RS W ad H st σp' σ'→((∀i∈g.own,i∈vs)→wipe σ' vs=wipe σ vs)→Q σ' H)→rdG W.K g v σ H Q
  | .nm i,p,v,σp,σp',σ,Q,S,V,h,k=>by
    simp only [Tg.put,Option.some.injEq] at h
    subst h
    exact k _ (S.set V) fun ho=>wipe_set vs _ _ (ho i (by simp [Tg.own]))
  | .tp ts,p,v,σp,σp',σ,Q,S,V,h,k=>by
    cases V with
    | tup hs r=>
      simp only [Tg.put] at h
      exact ⟨_,_,rfl,hs.sq,(puts_len r h).symm,puts_go ts S r h k⟩
    | _=>simp [Tg.put] at h
theorem puts_go {vs:List Nat}:∀ (gs:List Tg) {ps:List PV} {ws:List V} {σp σp':Slots} {σ:LSt} {Q:LSt→Hp→Prop},RS W ad H st σp σ→VRs W ad H ps ws→Tg.puts gs ps σp=some σp' →
    (∀σ',RS W ad H st σp' σ'→((∀i∈Tg.owns gs,i∈vs)→wipe σ' vs=wipe σ vs)→Q σ' H)→rdGs W.K gs ws σ H Q
  | [],_,_,σp,σp',σ,Q,S,.nil,h,k=>by
    simp only [Tg.puts,Option.some.injEq] at h
    subst h
    exact ⟨rfl,k _ S fun _=>rfl⟩
  | g::gs,_,_,σp,σp',σ,Q,S,.nil,h,k=>by simp [Tg.puts] at h
  | [],_,_,σp,σp',σ,Q,S,.cons _ _,h,k=>by simp [Tg.puts] at h
  | g :: gs,_,_,σp,σp',σ,Q,S,.cons r t,h,k=>by
    simp only [Tg.puts] at h
    split at h
    · rename_i σ1 h1
      refine ⟨_,_,rfl,put_go (vs:=vs) g S r h1 fun σ' S' w'=>puts_go (vs:=vs) gs S' t h fun σ2 S2 w2=>k σ2 S2 fun ho=>?_⟩
      rw [w2 fun i hi=>ho i (by simp only [Tg.owns];exact List.mem_append_right _ hi),w' fun i hi=>ho i (by simp only [Tg.owns];exact List.mem_append_left _ hi)]
    · cases h
theorem puts_len:∀ {gs:List Tg} {ps:List PV} {ws:List V} {σp σp':Slots},VRs W ad H ps ws→Tg.puts gs ps σp=some σp'→gs.length=ws.length
  | [],_,_,_,_,.nil,_=>rfl
  | g::gs,_,_,σp,σp',.nil,h=>by simp [Tg.puts] at h
  | [],_,_,σp,σp',.cons _ _,h=>by simp [Tg.puts] at h
  | g::gs,_,_,σp,σp',.cons r t,h=>by
    simp only [Tg.puts] at h
    split at h
    · rw [List.length_cons,List.length_cons,puts_len t h]
    · cases h
end
end
theorem gput_go {g:Tg} {p:PV} {v:V} {ad:List Addr} {H:Hp} {st:Store} {σp:Slots} {σ:LSt} {α:Type} {f:Slots→Res α} {G:α→List Addr→Hp→Prop} {Q:LSt→Hp→Prop} (vs:List Nat) (S:RS X.wd ad H st σp σ) (V:VR X.wd ad H p v)
    (h:RdG (gPut g p σp >>= f) ad H G) (k:∀σp' σ',gPut g p σp=.ok σp'→RS X.wd ad H st σp' σ'→((∀i∈g.own,i∈vs)→wipe σ' vs=wipe σ vs)→RdG (f σp') ad H G→Q σ' H):rdG X.K g v σ H Q:=by
  rw [gPut_eq] at h
  cases hp:g.put p σp with
  | none=>rw [hp] at h;exact h.elim
  | some σp'=>
    rw [hp] at h
    exact put_go (W:=X.wd) (vs:=vs) g S V hp fun σ' S' w=>k σp' σ' (by rw [gPut_eq,hp]) S' w h
theorem gput_nm {i:Nat} {p:PV} {σp:Slots} {α:Type} {f:Slots→Res α} {ad:List Addr} {H:Hp} {G:α→List Addr→Hp→Prop} (h:RdG (gPut (.nm i) p σp >>= f) ad H G):RdG (f (σp.set i (some p))) ad H G:=by
  rw [gPut_eq] at h
  exact h
theorem ss_asg {tg:Expr} {g:Tg} (he:SE X e m) (hg:SG X tg g) (hs:swapsWithSole [tg] e pos.line X.env=pure false:=by rfl) (hw:swappedStores [tg] e X.env=pure none:=by rfl)
    (h1:(assignEach [tg] X.env).map (·.2)=[assign tg X.env]:=by rfl):SS X (.Assign [tg] e pos) (sAsg m g):=
  PS.to (ps_asg he hg hs hw h1) fun D σ H ⟨ad,st,σp,S,q⟩=>goE S q fun x ad1 H1 v e1 E1 S1 V1 q1=>gput_go [] S1 V1 q1 fun σp' σ' _ S' _ q2=>RdG.ok q2 σ' S'
theorem ss_set {i:Nat} {x:Str} {pos':Pos} (hN:X.N.Nodup) (he:SE X e m) (hi:X.N[i]? = some x:=by rfl) (hx:Loc X.env.scope x:=by first | exact Or.inl rfl | exact Or.inr rfl) (hs:swapsWith e (some (.Name x pos')) pos.line X.env=pure false:=by rfl)
    (hf:X.fn x=true∨X.env.scope.names.lookup x=some .local:=by first | exact .inl rfl | exact .inr rfl):SS X (.Assign [.Name x pos'] e pos) (sAsg m (.nm i)):=
  PS.to (ps_set hN hi hx he hs hf) fun D σ H ⟨ad,st,σp,S,q⟩=>goE S q fun x ad1 H1 v e1 E1 S1 V1 q1=>RdG.ok (gput_nm (f:=fun r=>Res.ok (Fl.nx,r,x.2)) q1) _ (S1.set V1)
theorem ss_par {i j:Nat} {x y:Str} {mm:EvA} {px py pt:Pos} {kt k2 pt2} (hc:X.calm=true) (hN:X.N.Nodup) (ha:SA X [a,b] mm) (hij:i≠j:=by decide) (hi:X.N[i]? = some x:=by rfl) (hj:X.N[j]? = some y:=by rfl)
    (hx:X.env.scope.names.lookup x=some .local:=by rfl) (hy:X.env.scope.names.lookup y=some .local:=by rfl)
    (hw:swappedStores [.Tuple [.Name x px,.Name y py] kt pt] (.Tuple [a,b] k2 pt2) X.env=pure (some [x,y]):=by rfl)
    (hs:swapsWithSole [.Tuple [.Name x px,.Name y py] kt pt] (.Tuple [a,b] k2 pt2) pos.line X.env=pure false:=by rfl) :
    SS X (.Assign [.Tuple [.Name x px,.Name y py] kt pt] (.Tuple [a,b] k2 pt2) pos) (sPar i j mm):=
  PS.to (ps_par hc hN hi hj hij hx hy ha hw hs) fun D σ H ⟨ad,st,σp,S,q⟩=>goA S q fun x ad1 H1 v e1 E1 S1 V1 q1=>by
    split at q1
    · rename_i p q hx
      rw [hx] at V1
      obtain ⟨v,w,e,r1,r2⟩:=V1.two
      subst e
      exact ⟨v,w,rfl,RdG.ok q1 _ ((S1.set r1).set r2)⟩
    · exact q1.elim
theorem PSet.or {t t':TSet} (h:PSet X t) (h':PSet X t'):PSet X (fun o i v H Q=>t o i v H Q∨t' o i v H Q):=fun pins s σ H o i v ov iv u Q I r1 r2 r3 q=>by
  rcases q with q | q
  · exact h pins s σ H o i v ov iv u Q I r1 r2 r3 q
  · exact h' pins s σ H o i v ov iv u Q I r1 r2 r3 q
theorem set_dic (hu:X.A.units+1 < cLine):PSet X (fun o i v H Q=>∃a H',o=.ref a∧DPut H a i v H'∧Q H'):=by
  intro pins s σ H o i v ov iv u Q I r1 r2 r3 q
  obtain ⟨a,H',e,g,q⟩:=q
  subst e;cases r1
  exact d_setItem hu I g r2 r3 fun s' I'=>⟨H',I',q⟩
theorem DR.put {W:Wd} {ad:List Addr} {H:Hp} {k:Key} {p:PV} {v:V} (U:VR W ad H p v) {ps:List (PV×PV)} {vs:List (Key×L2.V)} (r:DR W ad H ps vs):DR W ad H (dPut ps (keyP k) p) (putK vs k v):=by?
  have any:∀ {ps:List (PV×PV)} {vs:List (Key×L2.V)},DR W ad H ps vs→(ps.any fun q=>decide (q.1=keyP k))=vs.any fun kv=>decide (kv.1=k):=fun r=>by
    induction r with
    | nil=>rfl
    | cons r _ ih=>
      simp only [List.any_cons,ih]
      congr 1
      rw [Bool.eq_iff_iff,decide_eq_true_eq,decide_eq_true_eq]
      exact ⟨keyP_inj,fun e=>by rw [e]⟩
  have mp:∀ {ps:List (PV×PV)} {vs:List (Key×L2.V)},DR W ad H ps vs→DR W ad H (ps.map fun q=>if q.1=keyP k then (q.1,p) else q) (vs.map fun kv=>if kv.1=k then (kv.1,v) else kv):=fun r=>by
    induction r with
    | nil=>exact .nil
    | cons r _ ih=>
      rename_i j q w ps vs _
      simp only [List.map_cons]
      by_cases e:j=k
      · subst e
        rw [if_pos rfl,if_pos rfl]
        exact .cons U ih
      · rw [if_neg (fun z=>e (keyP_inj z)),if_neg e]
        exact .cons r ih
  have ap:∀ {ps:List (PV×PV)} {vs:List (Key×L2.V)},DR W ad H ps vs→DR W ad H (ps++[(keyP k,p)]) (vs++[(k,v)]):=fun r=>by
    induction r with
    | nil=>exact .cons U .nil
    | cons r _ ih=>exact .cons r ih
  unfold dPut dictPut putK
  rw [any r]
  split
  · exact mp r
  · exact ap r
noncomputable
def rSOf (X:Cx):TSet:=fun o i v H Q=>∃ad st p q r,RO X.wd ad H st∧VR X.wd ad H p o∧VR X.wd ad H q i∧VR X.wd ad H r v∧RdG (setP p q r st) ad H fun st' ad' H'=>RO X.wd ad' H' st'→Q H'
theorem sd_set (hu:X.A.units+64 < cLine):PSet X (rSOf X):=by?
 exact fun pins s σ H o i v ov iv u Q I r1 r2 r3 ⟨ad,st,p,q,r,R,Vp,Vq,Vr,h⟩=>by
  refine (PSet.or set_list (set_dic (by omega))) pins s σ H o i v ov iv u Q I r1 r2 r3 ?_
  have wr:∀ {j:Nat} {a:Addr} {ob:HO} {x:PO},RdG (.ok (st.set j x)) ad H (fun st' ad' H'=>RO X.wd ad' H' st'→Q H')→ad[j]? = some a→(∀u,H a=some u→¬ Imu u)→(Ext ad H ad (upd H a ob)→OR X.wd ad (upd H a ob) x a)→(∃o,st[j]? = some o∧o≠.hid)→hidO x=[]→Q (upd H a ob):=
    fun {j a ob x} g ha ni ro hnh hu=>by
      have E:=Ext.write (o:=ob) R (List.mem_of_getElem? ha) ni
      exact g ad _ E (R.write ha (ro E) ni hnh hu)
  unfold setP at h
  split at h
  · cases Vp with
    | ref hi=>
      split at h
      · rename_i hx
        obtain ⟨vs,e,rr⟩:=R.obj _ _ _ hx hi
        split at h
        · rename_i k
          cases Vq
          split at h
          · rename_i j hj
            rw [rr.length] at hj
            exact Or.inl ⟨_,vs,_,j,rfl,rfl,e,hj,wr h hi (ni_lst e) (fun E=>⟨_,upd_same,VRs.set (Vr.mono E) j (rr.mono E)⟩) ⟨_,hx,by simp⟩ rfl⟩
          · exact h.elim
        · exact h.elim
      · rename_i hx
        obtain ⟨ws,e,rr⟩:=R.obj _ _ _ hx hi
        split at h
        · rename_i hc
          simp only [Bool.and_eq_true,decide_eq_true_eq] at hc
          obtain ⟨k,e1,e2⟩:=keyP_vr Vq hc.1
          subst e1;subst e2
          have hl:=hc.2
          rw [rr.length] at hl
          exact Or.inr ⟨_,_,rfl,DPut.k e (by rw [sizeLine_eq];exact hl),wr h hi (fun u z i=>by rw [e] at z;cases z;exact i) (fun E=>⟨_,upd_same,DR.put (Vr.mono E) (DR.go (fun _ _ q=>q) E.imm rr)⟩) ⟨_,hx,by simp⟩ rfl⟩
        · exact h.elim
      · exact h.elim
  · exact h.elim
theorem ss_sub {o i:Expr} {mo mi:EvE} {pos':Pos} (hu:X.A.units+64 < cLine) (he:SE X e m) (ho:SE X o mo) (hi:SE X i mi)
    (ha:∀v,assign (.Subscript o i pos') X.env v=(do
      let ov ← holding [v] (eval o X.env)
      let iv ← holding [v,ov] (eval i X.env)
      standAt pos'
      holding [v,ov,iv] (setItem ov iv v)
      release [v,ov,iv] []):=by intro _;rfl)
    (hs:swapsWithSole [.Subscript o i pos'] e pos.line X.env=pure false:=by rfl) (hw:swappedStores [.Subscript o i pos'] e X.env=pure none:=by rfl)
    (h1:(assignEach [.Subscript o i pos'] X.env).map (·.2)=[assign (.Subscript o i pos') X.env]:=by rfl):SS X (.Assign [.Subscript o i pos'] e pos) (sSub mo mi m):=by?
 exact PS.to (ps_asg he (pg_sub ho hi (sd_set hu) ha) hs hw h1) fun D σ H ⟨ad,st,σp,S,q⟩=>by
    unfold RdS at q
    rw [sSub_eq] at q
    exact goE S q fun x ad1 H1 v e1 E1 S1 V1 q1=>goE S1 q1 fun y ad2 H2 w e2 E2 S2 V2 q2=>goE S2 q2 fun z ad3 H3 u e3 E3 S3 V3 q3=>
    ⟨ad3,z.2,y.1,z.1,x.1,S3.ro,V2.mono E3,V3,(V1.mono E2).mono E3,q3.bind.imp fun st' ad4 H4 e4 E4 q4 R4=>RdG.ok q4 _ (S3.mono E4 R4)⟩
end
/-- what is walked goes item by item while its lists stand -/
structure WK (W:Wd) (ad:List Addr) (H:Hp) (items:List PV) (gs:Gd) (J:It):Prop where
  go:∀i ad1 H1 st1,i < items.length→Ext ad H ad1 H1→RO W ad1 H1 st1→gdOk gs st1=true→J.go i H1
  stop:∀ad1 H1 st1,Ext ad H ad1 H1→RO W ad1 H1 st1→gdOk gs st1=true→J.stop items.length H1
  yld:∀ (i:Nat) p ad1 H1 st1 v H2,items[i]? = some p→Ext ad H ad1 H1→RO W ad1 H1 st1→gdOk gs st1=true→J.yld i H1 v H2→Ext ad1 H1 ad1 H2∧RO W ad1 H2 st1∧VR W ad1 H2 p v
noncomputable
def tOfI (W:Wd) (m:EvI):TI:=fun σ H R=>∃ad st σp,RS W ad H st σp σ∧RdG (m σp st) ad H fun x ad' H'=>RO W ad' H' x.2→∀J,WK W ad' H' x.1.1 x.1.2 J→R J H'
noncomputable
def SI (X:Cx) (tg e:Expr) (m:EvI):Prop:=PI X tg e (tOfI X.wd m)
theorem PI.to {X:Cx} {tg e:Expr} {t t':TI} (h:PI X tg e t) (i:∀σ H R,t' σ H R→t σ H R):PI X tg e t':=⟨fun pins s σ H R I q=>h.run pins s σ H R I (i σ H R q)⟩
theorem PI.or {X:Cx} {tg e:Expr} {t t':TI} (h:PI X tg e t) (h':PI X tg e t'):PI X tg e fun σ H R=>t σ H R∨t' σ H R:=⟨fun pins s σ H R I q=>q.elim (h.run pins s σ H R I) (h'.run pins s σ H R I)⟩
section
variable {W:Wd} {ad:List Addr} {H:Hp} {st:Store} {items:List PV} {gs:Gd}
/-- nothing moves at a turn -/
theorem wk_of {J:It} {n:Nat} {G:Hp→Prop} {Y:Nat→Hp→V→Hp→Prop} (w:Walk J n G Y) (hn:items.length=n) (hg:∀ad1 H1 st1,Ext ad H ad1 H1→RO W ad1 H1 st1→gdOk gs st1=true→G H1)
    (hy:∀ (i:Nat) p ad1 H1 st1 v H2,items[i]? = some p→Ext ad H ad1 H1→RO W ad1 H1 st1→gdOk gs st1=true→Y i H1 v H2→H2=H1∧VR W ad1 H1 p v):WK W ad H items gs J where
  go:=fun i ad1 H1 st1 hi E R g=>w.goes i H1 (by omega) (hg ad1 H1 st1 E R g)
  stop:=fun ad1 H1 st1 E R g=>by rw [hn];exact w.stops H1 (hg ad1 H1 st1 E R g)
  yld:=fun i p ad1 H1 st1 v H2 hp E R g y=>by
    have hi:i < n:=by have:=(List.getElem?_eq_some_iff.mp hp).1;omega
    obtain ⟨e,V⟩:=hy i p ad1 H1 st1 v H2 hp E R g (w.yields i H1 v H2 hi (hg ad1 H1 st1 E R g) y)
    subst e
    exact ⟨.refl _ _,R,V⟩
theorem wk_rng {lo:Int} {n:Nat}:WK W ad H (rngI lo n) gs (Itr lo n):=by?
 exact wk_of walk_range (by simp [rngI]) (fun ad1 H1 st1 E R g=>trivial) fun i p ad1 H1 st1 v H2 hp E R g ⟨e,hv⟩=>by
    subst hv
    refine ⟨e,?_⟩
    simp only [rngI,List.getElem?_map,Option.map_eq_some_iff] at hp
    obtain ⟨j,h1,h2⟩:=hp
    obtain ⟨h3,h4⟩:=List.getElem?_eq_some_iff.mp h1
    rw [List.getElem_range] at h4
    subst h4;subst h2
    exact .int _
/-- a list of the store stands while it is guarded -/
theorem gd_list {j:Nat} {a:Addr} {xs:List PV} {ad1:List Addr} {H1:Hp} {st1:Store} (ha:ad[j]? = some a) (E:Ext ad H ad1 H1) (R:RO W ad1 H1 st1) (g:gdOk gs st1=true) (hm:(j,PO.lst xs)∈gs) :
    ∃vs,H1 a=some (.lst vs)∧VRs W ad1 H1 xs vs:=by
  have:=of_decide_eq_true (List.all_eq_true.mp g _ hm)
  exact R.obj j _ a this (E.at ha)
/-- a sequence: its object and what is asked that it stands -/
theorem seq_at {p:PV} {v:V} {xs:List PV} {g:Gd} (R:RO W ad H st) (V:VR W ad H p v) (h:itemsOf p st=.ok (xs,g)) (hn:∀z,p≠.str z) :
    ∃a tp,v=.ref a∧(∃vs,SqB W.K tp H a vs∧vs.length=xs.length)∧∀gs' ad1 H1 st1,(∀q∈g,q∈gs')→Ext ad H ad1 H1→RO W ad1 H1 st1→gdOk gs' st1=true→∃vs,SqB W.K tp H1 a vs∧VRs W ad1 H1 xs vs:=by?
  cases V with
  | tup hs r=>
    cases h
    exact ⟨_,true,rfl,⟨_,hs.sq,r.length.symm⟩,fun gs' ad1 H1 st1 _ E _ _=>⟨_,(hs.go E.imm).sq,r.mono E⟩⟩
  | fro hs r=>
    cases h
    exact ⟨_,false,rfl,⟨_,hs.sq,r.length.symm⟩,fun gs' ad1 H1 st1 _ E _ _=>⟨_,(hs.go E.imm).sq,r.mono E⟩⟩
  | ref hi=>
    simp only [itemsOf] at h
    split at h
    · rename_i hx
      cases h
      obtain ⟨vs,e,r⟩:=R.obj _ _ _ hx hi
      exact ⟨_,false,rfl,⟨vs,SqL.of e,r.length.symm⟩,fun gs' ad1 H1 st1 hm E R1 g1=>by
        obtain ⟨ws,e1,r1⟩:=gd_list hi E R1 g1 (hm _ (List.mem_singleton.mpr rfl))
        exact ⟨ws,SqL.of e1,r1⟩⟩
    · cases h
  | str z=>exact absurd rfl (hn z)
  | _=>cases h
theorem pair_at {T:Addr} {x y:V} {p q:PV} {its:List Value} {ad1:List Addr} {H1:Hp} {st1:Store} (R:RO W ad1 H1 st1) (hT:H1 T=none) (V1:VR W ad1 H1 p x) (V2:VR W ad1 H1 q y) :
    Ext ad1 H1 ad1 (upd H1 T (.frz (tupObj its) (.tup [x,y])))∧RO W ad1 (upd H1 T (.frz (tupObj its) (.tup [x,y]))) st1∧VR W ad1 (upd H1 T (.frz (tupObj its) (.tup [x,y]))) (.tup [p,q]) (.ref T):=by
  have E:=Ext.fresh (ad:=ad1) (o:=.frz (tupObj its) (.tup [x,y])) hT
  exact ⟨E,R.fresh hT,.tup (Or.inl ⟨_,upd_same,rfl,rfl⟩) (.cons (V1.mono E) (.cons (V2.mono E) .nil))⟩
theorem zipP_get:∀ {xs ys:List PV} {i:Nat} {p:PV},(zipP xs ys)[i]? = some p→∃x y,xs[i]? = some x∧ys[i]? = some y∧p=.tup [x,y]
  | [],_,_,_,h=>by simp [zipP] at h
  | _::_,[],_,_,h=>by simp [zipP] at h
  | x::xs,y::ys,0,p,h=>by
    simp only [zipP,List.getElem?_cons_zero,Option.some.injEq] at h
    exact ⟨x,y,rfl,rfl,h.symm⟩
  | x::xs,y::ys,i+1,p,h=>by
    simp only [zipP,List.getElem?_cons_succ] at h
    obtain ⟨x',y',h1,h2,h3⟩:=zipP_get h
    exact ⟨x',y',by simpa using h1,by simpa using h2,h3⟩
theorem zipP_length:∀ (xs ys:List PV),(zipP xs ys).length=min xs.length ys.length
  | [],_=>by simp [zipP]
  | _::_,[]=>by simp [zipP]
  | x::xs,y::ys=>by
    rw [zipP,List.length_cons,zipP_length xs ys,List.length_cons,List.length_cons]
    omega
theorem wk_zip {a b:Addr} {t1 t2:Bool} {xs ys:List PV} {g1 g2:Gd}
    (hs:∀gs' ad1 H1 st1,(∀q∈g1,q∈gs')→Ext ad H ad1 H1→RO W ad1 H1 st1→gdOk gs' st1=true→∃vs,SqB W.K t1 H1 a vs∧VRs W ad1 H1 xs vs)
    (hs2:∀gs' ad1 H1 st1,(∀q∈g2,q∈gs')→Ext ad H ad1 H1→RO W ad1 H1 st1→gdOk gs' st1=true→∃vs,SqB W.K t2 H1 b vs∧VRs W ad1 H1 ys vs):WK W ad H (zipP xs ys) (g1++g2) (ItZ W.K t1 t2 a b) where
  go:=fun i ad1 H1 st1 hi E R1 gg=>by
    obtain ⟨vs,h1,h2⟩:=hs _ ad1 H1 st1 (fun _ h=>List.mem_append_left _ h) E R1 gg
    obtain ⟨ws,h3,h4⟩:=hs2 _ ad1 H1 st1 (fun _ h=>List.mem_append_right _ h) E R1 gg
    rw [zipP_length] at hi
    have l1:i < vs.length:=by rw [← h2.length];omega
    have l2:i < ws.length:=by rw [← h4.length];omega
    exact ⟨vs,ws,vs[i],ws[i],h1,h3,by simp [l1],by simp [l2]⟩
  stop:=fun ad1 H1 st1 E R1 gg=>by
    obtain ⟨vs,h1,h2⟩:=hs _ ad1 H1 st1 (fun _ h=>List.mem_append_left _ h) E R1 gg
    obtain ⟨ws,h3,h4⟩:=hs2 _ ad1 H1 st1 (fun _ h=>List.mem_append_right _ h) E R1 gg
    rw [zipP_length]
    have e1:=h2.length
    have e2:=h4.length
    exact ⟨vs,ws,h1,h3,by omega,by omega,by omega⟩
  yld:=fun i p ad1 H1 st1 v H2 hp E R1 gg y=>by
    obtain ⟨vs,h1,h2⟩:=hs _ ad1 H1 st1 (fun _ h=>List.mem_append_left _ h) E R1 gg
    obtain ⟨ws,h3,h4⟩:=hs2 _ ad1 H1 st1 (fun _ h=>List.mem_append_right _ h) E R1 gg
    obtain ⟨T,x,z,its,e1,hT,e2,hx,hz⟩:=y
    obtain ⟨q1,q2,h5,h6,h7⟩:=zipP_get hp
    obtain ⟨u1,h8,h9⟩:=h2.get h5
    obtain ⟨u2,h10,h11⟩:=h4.get h6
    rw [hx vs h1] at h8
    rw [hz ws h3] at h10
    cases h8;cases h10
    subst e1;subst e2;subst h7
    exact pair_at R1 hT h9 h11
end
theorem RdG.of_eq {α:Type} {r r':Res α} {ad:List Addr} {H:Hp} {G:α→List Addr→Hp→Prop} (h:RdG r ad H G) (e:r=r'):RdG r' ad H G:=e ▸ h
section
variable {X:Cx} {tg e e2 e3:Expr} {es:List Expr} {m m2 m3:EvE} {p pos:Pos}
theorem si_rng1 (hg:Gl X "range") (hm:X.mg "range" = none) (ha:SE X e m) (hs:starEach [e] X.env=[(false,eval e X.env)]:=by rfl) (h0:starEach [e] X.env=(false,eval e X.env)::starEach [] X.env:=by rfl):SI X tg (.Call (.Name "range" p) [e] [] pos) (iRng1 m):=by?
 exact PI.to (pi_range1 hg hm (sa_cons ha sa_nil h0) hs) fun σ H R ⟨ad,st,σp,S,q⟩=>by
    refine goA (m:=aCons m aNil) (f:=fun xs=>match xs.1 with | [.int j]=>if small62 j then .ok ((rngI 0 j.toNat,[]),xs.2) else .stuck | _=>.stuck) S (RdG.of_eq q (by
      simp only [iRng1,aCons,force_eq,aNil,bind_assoc',bind_ok]
      congr 1;funext x
      cases hx:x.1 <;> simp [hx])) fun x ad1 H1 v e1 E1 S1 V1 q1=>?_
    split at q1
    · rename_i j hj
      rw [hj] at V1
      obtain ⟨w,e,r⟩:=V1.one
      subst e;cases r
      split at q1
      · rename_i hc
        have hc':=small62_iff.mp hc
        exact ⟨j,rfl,hc'.1,hc'.2,RdG.ok q1 S1.ro _ wk_rng⟩
      · exact q1.elim
    · exact q1.elim
theorem si_rng2 (hg:Gl X "range") (hm:X.mg "range" = none) (ha:SE X e m) (hb:SE X e2 m2) (hs:starEach [e,e2] X.env=[(false,eval e X.env),(false,eval e2 X.env)]:=by rfl)
    (hs2:starEach [e2] X.env=[(false,eval e2 X.env)]:=by rfl)
    (h0:starEach [e,e2] X.env=(false,eval e X.env)::starEach [e2] X.env:=by rfl) (h00:starEach [e2] X.env=(false,eval e2 X.env)::starEach [] X.env:=by rfl):SI X tg (.Call (.Name "range" p) [e,e2] [] pos) (iRng2 m m2):=by?
 exact PI.to (pi_range2 hg hm (sa_cons ha (sa_cons hb sa_nil h00) h0) hs hs2) fun σ H R ⟨ad,st,σp,S,q⟩=>by
    refine goA (m:=aCons m (aCons m2 aNil)) (f:=fun xs=>match xs.1 with | [.int i,.int j]=>if small62 i && small62 j then .ok ((rngI i (j - i).toNat,[]),xs.2) else .stuck | _=>.stuck) S (RdG.of_eq q (by
      simp only [iRng2,aCons,force_eq,aNil,bind_assoc',bind_ok]
      congr 1;funext x;congr 1;funext y
      cases hx:x.1 <;> cases hy:y.1 <;> simp [hx,hy])) fun x ad1 H1 v e1 E1 S1 V1 q1=>?_
    split at q1
    · rename_i i j hj
      rw [hj] at V1
      obtain ⟨u,w,e,r,r2⟩:=V1.two
      subst e;cases r;cases r2
      split at q1
      · rename_i hc
        simp only [Bool.and_eq_true] at hc
        have h1:=small62_iff.mp hc.1
        have h2:=small62_iff.mp hc.2
        exact ⟨i,j,rfl,⟨h1.1,h1.2,h2.1,h2.2⟩,RdG.ok q1 S1.ro _ wk_rng⟩
      · exact q1.elim
    · exact q1.elim
theorem si_zip {elts:List Expr} {kk:Nat} {tpos:Pos} (hg:Gl X "zip") (hm:X.mg "zip" = none) (ha:SE X e m) (hb:SE X e2 m2)
    (hs:starEach [e,e2] X.env=(false,eval e X.env)::starEach [e2] X.env:=by rfl) (hs2:starEach [e2] X.env=(false,eval e2 X.env)::starEach [] X.env:=by rfl) (hpl:(backTo pos (starEach [e2] X.env)).any (·.1)=false:=by rfl) :
    SI X (.Tuple elts kk tpos) (.Call (.Name "zip" p) [e,e2] [] pos) (iZip m m2):=by?
 exact PI.to (pi_zipB hg hm (sa_cons ha (sa_cons hb sa_nil hs2) hs) hs hpl) fun σ H R ⟨ad,st,σp,S,q⟩=>by
    refine goA (m:=aCons m (aCons m2 aNil)) (f:=fun xs=>match xs.1 with
      | [.str _,_]=>.stuck
      | [_,.str _]=>.stuck
      | [v,w]=>itemsOf v xs.2 >>= fun r=>itemsOf w xs.2 >>= fun q=>.ok ((zipP r.1 q.1,r.2++q.2),xs.2)
      | _=>.stuck) S (RdG.of_eq q (by
      simp only [iZip,aCons,force_eq,aNil,bind_assoc',bind_ok]
      congr 1;funext x;congr 1;funext y
      cases hx:x.1 <;> cases hy:y.1 <;> simp [hx,hy])) fun x ad1 H1 v e1 E1 S1 V1 q1=>?_
    split at q1
    · exact q1.elim
    · exact q1.elim
    · rename_i v w hn hn2 hv
      rw [hv] at V1
      obtain ⟨u1,u2,e,r,r2⟩:=V1.two
      subst e
      cases hi:itemsOf v x.2 with
      | ok r'=>
        rw [hi] at q1
        simp only [bind_ok] at q1
        cases hj:itemsOf w x.2 with
        | ok r''=>
          rw [hj] at q1
          obtain ⟨a,tp,e,⟨vs,h1,_⟩,h2⟩:=seq_at S1.ro r hi (fun z hz=>hn z hz)
          obtain ⟨b,tp2,e',⟨ws,h3,_⟩,h4⟩:=seq_at S1.ro r2 hj (fun z hz=>hn2 z hz)
          exact ⟨a,b,vs,ws,tp,tp2,by rw [e,e'],h1,h3,RdG.ok q1 S1.ro _ (wk_zip h2 h4)⟩
        | exc _ _ _=>rw [hj] at q1;exact q1.elim
        | stuck=>rw [hj] at q1;exact q1.elim
      | exc _ _ _=>rw [hi] at q1;exact q1.elim
      | stuck=>rw [hi] at q1;exact q1.elim
    · exact q1.elim
end
section
variable {X:Cx} {tg iter elt kx vx:Expr} {g:Tg} {mi:EvI} {m mk mv:EvE} {t:EvT} {n:EvS} {pos:Pos} {body:List Stmt}
theorem RdG.bind_ok {α β:Type} {r:Res α} {f:α→Res β} {x:α} {ad:List Addr} {H:Hp} {G:β→List Addr→Hp→Prop} (h:RdG (r >>= f) ad H G) (e:r=.ok x):RdG (f x) ad H G:=by
  rw [e] at h;exact h
theorem drop_cons {α:Type} {l:List α} {i:Nat} (h:i < l.length):l.drop i=l[i]::l.drop (i+1):=List.drop_eq_getElem_cons h
theorem ss_for (hp:PassesOwn (model X.prog X.w) X.A X.env X.xe) (hc:X.calm=true) (hi:SI X tg iter mi) (hg:SG X tg g) (hb:SSs X body n)
    (hs:∀x,foldedSetIterable iter X.env x=pure x:=by intro _;rfl):SS X (.For tg iter body [] pos) (sFor mi g n):=by?
 exact PS.to (ps_for hp hc hi hg hb hs) fun D σ H ⟨ad,st,σp,S,q⟩=>by
    refine ⟨ad,st,σp,S,(RdG.bind q).imp fun x ad0 H0 e0 E0 q0 R0 J wk=>?_⟩
    have S0:=S.mono E0 R0
    refine ⟨fun i m σ' H'=>m=x.1.1.length - i∧i≤x.1.1.length∧∃ad' st' σp',Ext ad0 H0 ad' H'∧RS X.wd ad' H' st' σp' σ'∧RdS X.wd (forLoop g n x.1.2 (x.1.1.drop i) σp' st') ad' H' D,
      ⟨_,rfl,Nat.zero_le _,ad0,x.2,σp,.refl _ _,S0,q0⟩,?_⟩
    rintro i m σ' H' ⟨rfl,hi,ad',st',σp',E',S',q'⟩
    by_cases hlt:i < x.1.1.length
    · rw [drop_cons hlt] at q'
      simp only [forLoop] at q'
      split at q'
      · rename_i hgd
        refine Or.inr ⟨wk.go i ad' H' st' hlt E' S'.ro hgd,fun σ2 H2=>∃ad2 st2 σp2,Ext ad0 H0 ad2 H2∧RS X.wd ad2 H2 st2 σp2 σ2∧RdS X.wd (forLoop g n x.1.2 (x.1.1.drop (i+1)) σp2 st2) ad2 H2 D,
          fun σ2 H2 w=>⟨x.1.1.length - (i+1),by omega,rfl,hlt,w⟩,fun v H2 y=>?_⟩
        obtain ⟨E2,R2,V2⟩:=wk.yld i _ ad' H' st' v H2 (List.getElem?_eq_getElem hlt) E' S'.ro hgd y
        have S2:=S'.mono E2 R2
        refine gput_go [] S2 V2 (RdG.mono q' E2) fun σp3 σ3 _ S3 _ q3=>⟨ad',st',σp3,S3,rdS_bind q3 ?_ ?_ ?_ ?_⟩
        · exact fun σp st ad4 H4 σ4 E4 S4 q4=>⟨ad4,st,σp,(E'.trans E2).trans E4,S4,q4⟩
        · exact fun σp st ad4 H4 σ4 E4 S4 q4=>RdG.ok q4 σ4 S4
        · exact fun σp st ad4 H4 σ4 E4 S4 q4=>⟨ad4,st,σp,(E'.trans E2).trans E4,S4,q4⟩
        · exact fun p σp st ad4 H4 v E4 R4 V4 q4=>RdG.ok q4 R4 v V4
      · exact q'.elim
    · have e:i=x.1.1.length:=by omega
      subst e
      rw [List.drop_eq_nil_of_le (Nat.le_refl _)] at q'
      simp only [forLoop] at q'
      split at q'
      · rename_i hgd
        exact Or.inl ⟨wk.stop ad' H' st' E' S'.ro hgd,RdG.ok q' σ' S'⟩
      · exact q'.elim
theorem D_notin {W:Wd} {ad:List Addr} {H:Hp} {st:Store} {D:Addr} (R:RO W ad H st) (h:H D=none):D∉ad:=R.not_mem h
/-- a thing of our own beside the store is written -/
theorem own_write {W:Wd} {ad0 ad:List Addr} {H0 H:Hp} {st:Store} {D:Addr} {o:HO} {u:HO} (R:RO W ad H st) (hD:D∉ad) (h0:H0 D=none) (E:Ext ad0 H0 ad H) (hu:H D=some u) (ni:¬ Imu u) :
    Ext ad0 H0 ad (upd H D o)∧RO W ad (upd H D o) st∧(∀a v,H a=some v→Imu v→upd H D o a=some v):=by?
  have im:∀a v,H a=some v→Imu v→upd H D o a=some v:=fun a v h i=>by
    rw [upd_ne fun e=>by subst e;rw [hu] at h;cases h;exact ni i];exact h
  refine ⟨⟨E.pre,fun a v h n=>?_,E.new,fun a v h i=>im a v (E.imm a v h i) i⟩,⟨R.len,R.nd,fun i v a h1 h2=>(R.obj i v a h1 h2).go (fun _ _ q=>q) im (upd_ne fun e=>hD (e ▸ List.mem_of_getElem? h2)) fun _ _ ea q=>upd_ne fun e=>hD (e ▸ List.mem_of_getElem? q),R.hid⟩,im⟩
  rw [upd_ne fun e=>by subst e;rw [h0] at h;cases h]
  exact E.frm a v h n
theorem lc_go {σ:LSt} {H:Hp} {Q:VK} {vs:List Nat} {te:TE} {tt:TT} (ho:∀i∈g.own,i∈vs) (ht:∀σ H Q,tOfT X.wd t σ H Q→tt σ H Q) (he:∀σ H Q,tOfE X.wd m σ H Q→te σ H Q)
    (q:tOfE X.wd (eLc mi g t m vs) σ H Q):tLc (tOfI X.wd mi) (rdG X.K g) tt te vs σ H Q:=by?
  obtain ⟨ad,st,σp,S,q⟩:=q
  refine ⟨ad,st,σp,S,(RdG.bind q).imp fun x ad0 H0 e0 E0 q0 R0 J wk D hD=>?_⟩
  have S0:=S.mono E0 R0
  have nD:=D_notin R0 hD
  obtain ⟨E1,R1,im1⟩:Ext ad0 H0 ad0 (upd H0 D (.lst []))∧RO X.wd ad0 (upd H0 D (.lst [])) x.2∧True:=⟨.fresh hD,R0.fresh hD,trivial⟩
  refine ⟨fun i mm H'=>mm=x.1.1.length - i∧i≤x.1.1.length∧∃ad' st' acc ws,Ext ad0 H0 ad' H'∧RO X.wd ad' H' st'∧D∉ad'∧H' D=some (.lst ws)∧VRs X.wd ad' H' acc ws ∧
    RdE X.wd (lcLoop g t m (wipeP σp vs) x.1.2 (x.1.1.drop i) acc st' >>= fun q=>.ok (.ref q.2.length,q.2++[PO.lst q.1])) ad0 H0 Q,⟨_,rfl,Nat.zero_le _,ad0,x.2,[],[],E1,R1,nD,upd_same,.nil,q0⟩,?_⟩
  rintro i mm H' ⟨rfl,hi,ad',st',acc,ws,E',R',nD',hD',Va,q'⟩
  by_cases hlt:i < x.1.1.length
  · rw [drop_cons hlt] at q'
    simp only [lcLoop,force_eq] at q'
    split at q'
    · rename_i hgd
      refine Or.inr ⟨wk.go i ad' H' st' hlt E' R' hgd,fun H2=>∃ad2 st2 acc2 ws2,Ext ad0 H0 ad2 H2∧RO X.wd ad2 H2 st2∧D∉ad2∧H2 D=some (.lst ws2)∧VRs X.wd ad2 H2 acc2 ws2 ∧
        RdE X.wd (lcLoop g t m (wipeP σp vs) x.1.2 (x.1.1.drop (i+1)) acc2 st2 >>= fun q=>.ok (.ref q.2.length,q.2++[PO.lst q.1])) ad0 H0 Q,fun H2 w=>⟨x.1.1.length - (i+1),by omega,rfl,hlt,w⟩,fun v H2 y=>?_⟩
      obtain ⟨E2,R2,V2⟩:=wk.yld i _ ad' H' st' v H2 (List.getElem?_eq_getElem hlt) E' R' hgd y
      have S2:RS X.wd ad' H2 st' (wipeP σp vs) (wipe σ vs):=(S0.mono (E'.trans E2) R2).wipe vs
      rw [bind_assoc'] at q'
      refine gput_go vs S2 V2 (RdG.mono q' (E'.trans E2)) fun σp3 σ3 e3 S3 w3 q3=>⟨by rw [w3 ho,wipe_wipe],ht _ _ _ ?_⟩
      have q3b:=q'
      rw [e3] at q3b
      simp only [bind_ok,bind_assoc'] at q3 q3b
      refine goT S3 q3 fun c ad4 H4 e4 E4 S4 q4=>?_
      have q4b:=RdG.bind_ok q3b e4
      have D4:H4 D=some (.lst ws):=E4.frm D _ (E2.frm D _ hD' nD') nD'
      have n4:D∉ad4:=fun hm=>by
        have:=(E2.trans E4).new D hm nD'
        rw [hD'] at this;cases this
      cases hc:c.1 with
      | false=>
        rw [if_neg (by decide)]
        rw [hc] at q4b
        exact ⟨ad4,c.2,acc,ws,(E'.trans E2).trans E4,S4.ro,n4,D4,(Va.mono E2).mono E4,q4b⟩
      | true=>
        rw [if_pos rfl]
        rw [hc] at q4 q4b
        simp only [if_true,bind_assoc'] at q4 q4b
        refine he _ _ _ (goE S4 q4 fun y5 ad5 H5 v5 e5 E5 S5 V5 q5=>?_)
        have q5b:=RdG.bind_ok q4b e5
        have D5:H5 D=some (.lst ws):=E5.frm D _ D4 n4
        have n5:D∉ad5:=fun hm=>by
          have:=E5.new D hm n4
          rw [D4] at this;cases this
        split at q5b
        · rename_i hl
          have Va5:=((Va.mono E2).mono E4).mono E5
          rw [Va.length] at hl
          obtain ⟨E6,R6,im6⟩:=own_write (o:=.lst (ws++[v5])) S5.ro n5 hD (((E'.trans E2).trans E4).trans E5) D5 (fun z=>z)
          exact ⟨ws,D5,by rw [sizeLine_eq];exact hl,ad5,y5.2,acc++[y5.1],ws++[v5],E6,R6,n5,upd_same,(Va5.append (.cons V5 .nil)).go (fun _ _ q=>q) im6,q5b⟩
        · exact q5b.elim
    · exact q'.elim
  · have e:i=x.1.1.length:=by omega
    subst e
    rw [List.drop_eq_nil_of_le (Nat.le_refl _)] at q'
    simp only [lcLoop,force_eq] at q'
    split at q'
    · rename_i hgd
      refine Or.inl ⟨wk.stop ad' H' st' E' R' hgd,?_⟩
      simp only [bind_ok] at q'
      have E2:Ext ad0 H0 (ad'++[D]) H':=by
        obtain ⟨tl,et⟩:=E'.pre
        refine ⟨⟨tl++[D],by rw [et,List.append_assoc]⟩,E'.frm,fun a ha n=>?_,E'.imm⟩
        rcases List.mem_append.mp ha with z | z
        · exact E'.new a z n
        · rw [List.mem_singleton.mp z];exact hD
      have at':∀ (k:Nat) a,ad'[k]? = some a→(ad'++[D])[k]? = some a:=fun k a h=>by
        rw [List.getElem?_append_left (List.getElem?_eq_some_iff.mp h).1];exact h
      refine q' (ad'++[D]) H' E2 ⟨by simp [R'.len],?_,fun k u a h1 h2=>?_,R'.hid.add⟩ (.ref D) (.ref (by rw [R'.len];simp))
      · refine List.nodup_append.mpr ⟨R'.nd,by simp,fun a ha b hb=>?_⟩
        rw [List.mem_singleton.mp hb]
        exact fun e=>nD' (e ▸ ha)
      · by_cases hk:k < ad'.length
        · rw [List.getElem?_append_left hk] at h2
          rw [List.getElem?_append_left (by rw [R'.len];exact hk)] at h1
          exact (R'.obj k u a h1 h2).go at' (fun _ _ q _=>q) rfl (fun _ _ _ _=>rfl)
        · have hk':k=ad'.length:=by
            have:=(List.getElem?_eq_some_iff.mp h2).1
            simp at this
            omega
          subst hk'
          rw [List.getElem?_append_right (Nat.le_refl _)] at h2
          rw [List.getElem?_append_right (by rw [R'.len];exact Nat.le_refl _),R'.len] at h1
          simp at h1 h2
          subst h1;subst h2
          exact ⟨ws,hD',Va.go at' fun _ _ q _=>q⟩
    · exact q'.elim
theorem dc_go {σ:LSt} {H:Hp} {Q:VK} {vs:List Nat} {tk te:TE} {tt:TT} (ho:∀i∈g.own,i∈vs) (ht:∀σ H Q,tOfT X.wd t σ H Q→tt σ H Q) (hk:∀σ H Q,tOfE X.wd mk σ H Q→tk σ H Q) (he:∀σ H Q,tOfE X.wd mv σ H Q→te σ H Q)
    (q:tOfE X.wd (eDc mi g t mk mv vs) σ H Q):tDc (tOfI X.wd mi) (rdG X.K g) tt tk te vs σ H Q:=by?
  obtain ⟨ad,st,σp,S,q⟩:=q
  refine ⟨ad,st,σp,S,(RdG.bind q).imp fun x ad0 H0 e0 E0 q0 R0 J wk D hD=>?_⟩
  have S0:=S.mono E0 R0
  have nD:=D_notin R0 hD
  obtain ⟨E1,R1,im1⟩:Ext ad0 H0 ad0 (upd H0 D (.dK []))∧RO X.wd ad0 (upd H0 D (.dK [])) x.2∧True:=⟨.fresh hD,R0.fresh hD,trivial⟩
  refine ⟨fun i mm H'=>mm=x.1.1.length - i∧i≤x.1.1.length∧∃ad' st' acc ws,Ext ad0 H0 ad' H'∧RO X.wd ad' H' st'∧D∉ad'∧H' D=some (.dK ws)∧DR X.wd ad' H' acc ws ∧
    RdE X.wd (dcLoop g t mk mv (wipeP σp vs) x.1.2 (x.1.1.drop i) acc st' >>= fun q=>.ok (.ref q.2.length,q.2++[PO.dic q.1])) ad0 H0 Q,⟨_,rfl,Nat.zero_le _,ad0,x.2,[],[],E1,R1,nD,upd_same,.nil,q0⟩,?_⟩
  rintro i mm H' ⟨rfl,hi,ad',st',acc,ws,E',R',nD',hD',Va,q'⟩
  by_cases hlt:i < x.1.1.length
  · rw [drop_cons hlt] at q'
    simp only [dcLoop,force_eq] at q'
    split at q'
    · rename_i hgd
      refine Or.inr ⟨wk.go i ad' H' st' hlt E' R' hgd,fun H2=>∃ad2 st2 acc2 ws2,Ext ad0 H0 ad2 H2∧RO X.wd ad2 H2 st2∧D∉ad2∧H2 D=some (.dK ws2)∧DR X.wd ad2 H2 acc2 ws2 ∧
        RdE X.wd (dcLoop g t mk mv (wipeP σp vs) x.1.2 (x.1.1.drop (i+1)) acc2 st2 >>= fun q=>.ok (.ref q.2.length,q.2++[PO.dic q.1])) ad0 H0 Q,fun H2 w=>⟨x.1.1.length - (i+1),by omega,rfl,hlt,w⟩,fun v H2 y=>?_⟩
      obtain ⟨E2,R2,V2⟩:=wk.yld i _ ad' H' st' v H2 (List.getElem?_eq_getElem hlt) E' R' hgd y
      have S2:RS X.wd ad' H2 st' (wipeP σp vs) (wipe σ vs):=(S0.mono (E'.trans E2) R2).wipe vs
      rw [bind_assoc'] at q'
      refine gput_go vs S2 V2 (RdG.mono q' (E'.trans E2)) fun σp3 σ3 e3 S3 w3 q3=>⟨by rw [w3 ho,wipe_wipe],ht _ _ _ ?_⟩
      have q3b:=q'
      rw [e3] at q3b
      simp only [bind_ok,bind_assoc'] at q3 q3b
      refine goT S3 q3 fun c ad4 H4 e4 E4 S4 q4=>?_
      have q4b:=RdG.bind_ok q3b e4
      have D4:H4 D=some (.dK ws):=E4.frm D _ (E2.frm D _ hD' nD') nD'
      have n4:D∉ad4:=fun hm=>by
        have:=(E2.trans E4).new D hm nD'
        rw [hD'] at this;cases this
      cases hc:c.1 with
      | false=>
        rw [if_neg (by decide)]
        rw [hc] at q4b
        exact ⟨ad4,c.2,acc,ws,(E'.trans E2).trans E4,S4.ro,n4,D4,DR.go (fun _ _ q=>(E2.trans E4).at q) (E2.trans E4).imm Va,q4b⟩
      | true=>
        rw [if_pos rfl]
        rw [hc] at q4 q4b
        simp only [if_true,bind_assoc'] at q4 q4b
        refine hk _ _ _ (goE S4 q4 fun y5 ad5 H5 v5 e5 E5 S5 V5 q5=>?_)
        have q5b:=RdG.bind_ok q4b e5
        have D5:H5 D=some (.dK ws):=E5.frm D _ D4 n4
        have n5:D∉ad5:=fun hm=>by
          have:=E5.new D hm n4
          rw [D4] at this;cases this
        try simp only [bind_assoc'] at q5 q5b
        refine he _ _ _ (goE S5 q5 fun y6 ad6 H6 v6 e6 E6 S6 V6 q6=>?_)
        have q6b:=RdG.bind_ok q5b e6
        have D6:H6 D=some (.dK ws):=E6.frm D _ D5 n5
        have n6:D∉ad6:=fun hm=>by
          have:=E6.new D hm n5
          rw [D5] at this;cases this
        split at q6b
        · rename_i hl
          simp only [Bool.and_eq_true,decide_eq_true_eq] at hl
          obtain ⟨hk',hl⟩:=hl
          have E26:=((E2.trans E4).trans E5).trans E6
          have Va6:=DR.go (fun _ _ q=>E26.at q) E26.imm Va
          rw [Va.length] at hl
          obtain ⟨k,ek1,ek2⟩:=keyP_vr (V5.mono E6) hk'
          obtain ⟨E7,R7,im7⟩:=own_write (o:=.dK (putK ws k v6)) S6.ro n6 hD (E'.trans E26) D6 (fun z=>z)
          rw [ek1] at q6b
          exact ⟨ws,k,ek2,D6,by rw [sizeLine_eq];exact hl,ad6,y6.2,dictPut acc (keyP k) y6.1,putK ws k v6,E7,R7,n6,upd_same,DR.go (fun _ _ q=>q) im7 (DR.put V6 Va6),q6b⟩
        · exact q6b.elim
    · exact q'.elim
  · have e:i=x.1.1.length:=by omega
    subst e
    rw [List.drop_eq_nil_of_le (Nat.le_refl _)] at q'
    simp only [dcLoop,force_eq] at q'
    split at q'
    · rename_i hgd
      refine Or.inl ⟨wk.stop ad' H' st' E' R' hgd,?_⟩
      simp only [bind_ok] at q'
      have E2:Ext ad0 H0 (ad'++[D]) H':=by
        obtain ⟨tl,et⟩:=E'.pre
        refine ⟨⟨tl++[D],by rw [et,List.append_assoc]⟩,E'.frm,fun a ha n=>?_,E'.imm⟩
        rcases List.mem_append.mp ha with z | z
        · exact E'.new a z n
        · rw [List.mem_singleton.mp z];exact hD
      have at':∀ (k:Nat) a,ad'[k]? = some a→(ad'++[D])[k]? = some a:=fun k a h=>by
        rw [List.getElem?_append_left (List.getElem?_eq_some_iff.mp h).1];exact h
      refine q' (ad'++[D]) H' E2 ⟨by simp [R'.len],?_,fun k u a h1 h2=>?_,R'.hid.add⟩ (.ref D) (.ref (by rw [R'.len];simp))
      · refine List.nodup_append.mpr ⟨R'.nd,by simp,fun a ha b hb=>?_⟩
        rw [List.mem_singleton.mp hb]
        exact fun e=>nD' (e ▸ ha)
      · by_cases hk:k < ad'.length
        · rw [List.getElem?_append_left hk] at h2
          rw [List.getElem?_append_left (by rw [R'.len];exact hk)] at h1
          exact (R'.obj k u a h1 h2).go at' (fun _ _ q _=>q) rfl (fun _ _ _ _=>rfl)
        · have hk':k=ad'.length:=by
            have:=(List.getElem?_eq_some_iff.mp h2).1
            simp at this
            omega
          subst hk'
          rw [List.getElem?_append_right (Nat.le_refl _)] at h2
          rw [List.getElem?_append_right (by rw [R'.len];exact Nat.le_refl _),R'.len] at h1
          simp at h1 h2
          subst h1;subst h2
          exact ⟨ws,hD',DR.go at' (fun _ _ q _=>q) Va⟩
    · exact q'.elim
/-- the tests of a comprehension -/
noncomputable
def STs (X:Cx) (ifs:List Expr) (t:EvT):Prop:=PTs X ifs (tOfT X.wd t)
theorem sts_nil:STs X [] tYes:=⟨fun pins s σ H Q I ⟨ad,st,σp,S,q⟩=>pts_nil.run pins s σ H Q I (RdG.ok q S.ro)⟩
theorem sts_one {c:Expr} (h:ST X c t):STs X [c] t:=pts_one h
section
variable {ifs:List Expr} {scope:Scope} {own:List (Str×Nat)}
theorem se_lc (hc:X.calm=true) (hN:X.N.Nodup) (hi:SI X tg iter mi) (ok:BlkOk X.N X.env.scope scope own)
    (hg:∀ (s:Shared) (H:Hp) (C:Addr) (cl:List (Str×Addr)) (fp:List Addr),SG (X.blk s H scope (compEnvC scope cl C X.env) fp) tg g) (ht:∀ (s:Shared) (H:Hp) (C:Addr) (cl:List (Str×Addr)) (fp:List Addr),STs (X.blk s H scope (compEnvC scope cl C X.env) fp) ifs t)
    (he:∀ (s:Shared) (H:Hp) (C:Addr) (cl:List (Str×Addr)) (fp:List Addr),SE (X.blk s H scope (compEnvC scope cl C X.env) fp) elt m) (ho:∀i∈g.own,i∈own.map (·.2):=by decide) (hs:∀x,foldedSetIterable iter X.env x=pure x:=by intro _;rfl) :
    SE X (.ListComp elt [⟨tg,iter,ifs,0⟩] scope pos) (eLc mi g t m (own.map (·.2))):=
  PE.to (pe_lc (g:=rdG X.K g) (tt:=tOfT X.wd t) (te:=tOfE X.wd m) hc hN hi ok hg ht he hs) fun σ H Q q=>lc_go ho (fun _ _ _ q=>q) (fun _ _ _ q=>q) q
theorem se_dc (hc:X.calm=true) (hN:X.N.Nodup) (hi:SI X tg iter mi) (ok:BlkOk X.N X.env.scope scope own)
    (hg:∀ (s:Shared) (H:Hp) (C:Addr) (cl:List (Str×Addr)) (fp:List Addr),SG (X.blk s H scope (compEnvC scope cl C X.env) fp) tg g) (ht:∀ (s:Shared) (H:Hp) (C:Addr) (cl:List (Str×Addr)) (fp:List Addr),STs (X.blk s H scope (compEnvC scope cl C X.env) fp) ifs t)
    (hk:∀ (s:Shared) (H:Hp) (C:Addr) (cl:List (Str×Addr)) (fp:List Addr),SE (X.blk s H scope (compEnvC scope cl C X.env) fp) kx mk)
    (he:∀ (s:Shared) (H:Hp) (C:Addr) (cl:List (Str×Addr)) (fp:List Addr),SE (X.blk s H scope (compEnvC scope cl C X.env) fp) vx mv) (ho:∀i∈g.own,i∈own.map (·.2):=by decide) (hs:∀x,foldedSetIterable iter X.env x=pure x:=by intro _;rfl) :
    SE X (.DictComp kx vx [⟨tg,iter,ifs,0⟩] scope pos) (eDc mi g t mk mv (own.map (·.2))):=
  PE.to (pe_dc (g:=rdG X.K g) (tt:=tOfT X.wd t) (tk:=tOfE X.wd mk) (tv:=tOfE X.wd mv) hc hN hi ok hg ht hk he hs) fun σ H Q q=>dc_go ho (fun _ _ _ q=>q) (fun _ _ _ q=>q) (fun _ _ _ q=>q) q
end
theorem se_dic0:SE X (.Dict [] [] pos) eDic0:=PE.to pe_dnewK fun σ H Q ⟨ad,st,σp,S,q⟩ p hp=>
  q (ad++[p]) _ (.alloc hp) (S.ro.alloc hp ⟨[],upd_same,.nil⟩) _ (.ref (by rw [S.ro.len];simp))
end
/-- room for k calls more,nothing being shown -/
structure Rm (k:Nat) (A:Around):Prop where
  rm:Room k A
  gd:A.guards=some []
theorem Rm.mono {j k:Nat} {A:Around} (r:Rm k A) (h:j≤k):Rm j A:=⟨r.rm.mono h,r.gd⟩
theorem Rm.deeper {k:Nat} {A:Around} (r:Rm (k+1) A) (env:Env):Rm k (A.deeper env):=⟨r.rm.deeper env,r.gd⟩
theorem Rm.un {k:Nat} {A:Around} (r:Rm k A):A.units+64 < cLine:=r.rm.units
noncomputable
abbrev noX:XK:=fun _ _ _=>False
/-- what a call of F promises -/
noncomputable
def Pm (W:Wd) (n:Nat) (F:Fn) (vs:List V) (H:Hp) (Q:VK):Prop:=vs.length=n∧∃ad st ps,RO W ad H st∧VRs W ad H ps vs∧RdE W (F ps st) ad H Q
/-- a def does what F says -/
noncomputable
def FnD (W:Wd) (base:Heap) (k:Nat) (f:Addr) (fd:FuncData) (ps:List Str) (F:Fn):Prop:=
  ∀ (A:Around) (o:List Env) (s:Shared) (H:Hp) (args:Args) (us:List Value) (vs:List V) (Q:VK),Rm k A→Env0 W.P W.w W.K W.mg base A o s H→BindsTo s fd args (ps.zip us) →
    Vals vs us→Pm W ps.length F vs H Q→codeAny (model W.P W.w) A (.call (.ref f) args) (CR CX0 o W.P W.w H s Q noX) s
theorem FnD.mono {W:Wd} {base:Heap} {j k:Nat} {f:Addr} {fd:FuncData} {ps:List Str} {F:Fn} (h:FnD W base j f fd ps F) (q:j≤k):FnD W base k f fd ps F:=
  fun A o s H args us vs Q hr=>h A o s H args us vs Q (hr.mono q)
/-- the slots at the entry -/
noncomputable
def start0 (n:Nat) (ps:List PV):Slots:=ps.map some++List.replicate (n - ps.length) none
noncomputable
def fnOf (n:Nat) (m:EvS):Fn:=fun ps st=>m (start0 n ps) st >>= fun r=>match r.1 with
  | .nx=>.ok (.non,r.2.2)
  | .rt v=>.ok (v,r.2.2)
  | _=>.stuck
theorem rs_start {W:Wd} {ad:List Addr} {H:Hp} {st:Store} {ps:List PV} {vs:List V} {N:List Str} (R:RO W ad H st) (V:VRs W ad H ps vs):RS W ad H st (start0 N.length ps) (L2.start N vs):=by?
  have hl:=V.length
  refine ⟨R,fun i p h=>?_,by simp [start0,L2.start,hl]⟩
  unfold start0 at h
  unfold L2.start
  by_cases hi:i < ps.length
  · rw [List.getElem?_append_left (by simpa using hi),List.getElem?_map] at h
    rw [List.getElem?_append_left (by simpa [← hl] using hi),List.getElem?_map]
    cases e:ps[i]? with
    | none=>rw [e] at h;cases h
    | some q=>
      rw [e] at h
      cases h
      obtain ⟨y,h1,h2⟩:=V.get e
      exact ⟨y,by rw [h1];rfl,h2⟩
  · rw [List.getElem?_append_right (by simpa using hi),List.getElem?_replicate] at h
    split at h <;> cases h
section
variable {W:Wd} {base:Heap} {name qual:Str} {args:Arguments} {body:List Stmt} {scope:Scope} {dvs:List V} {kws:List (Str×V)} {f:Addr} {fd:FuncData} {N ps:List Str} {k:Nat} {m:EvS}
/-- the context of a body -/
noncomputable
abbrev bX (W:Wd) (base:Heap) (N:List Str) (qual:Str) (scope:Scope) (f:Addr) (cd:Value) (A:Around) (o:List Env) (s:Shared) (H:Hp):Cx:=
  (cxOf CX0 W.P W.w W.K W.mg base N qual scope f cd A o s H noX).nox
/-- THE RULE of a def -/
theorem fnD_of (F:FunD W.K name qual args body scope dvs kws f fd) (S:FnScope N ps scope)
    (hb:∀ (cd:Value) (A:Around) (o:List Env) (s:Shared) (H:Hp),Rm k (A.deeper (envOfC qual scope s.heap.objs.size f cd))→SSs (bX W base N qual scope f cd A o s H) body m) :
    FnD W base (k+1) f fd ps (fnOf N.length m):=by?
  obtain ⟨oc,od,dV,kV,doc,pm,an,cdv,ct,osl,rfl,lk,hcd,_,_⟩:=F.ex
  intro A o s H ar us vs Q hr e0 bi rv hsp
  obtain ⟨hl,ad,st,qs,R,V,D⟩:=hsp
  have KX:W.K.In s.heap:=e0.mod.kin.keeps fun b o e=>(e0.bs b o e).1
  have lim:s.heap.NoLimit:=e0.mod.nolimit.keeps fun b o e=>(e0.bs b o e).1
  have kinds:∀y∈ps.zip us,scope.names.lookup y.1=some .local∨(scope.names.lookup y.1=some .cell∧((cellsFrom (s.heap.objs.size+1) scope.names []).lookup y.1).isSome=true):=by
    rintro ⟨n,v⟩ hy
    exact (S.par n (List.of_mem_zip hy).1).imp id fun q=>⟨q,PySem.W.cellsFrom_some _ _ _ (.inl q)⟩
  refine codeAny_call_function hr.rm.depth (KX _ _ lk) rfl S.co S.gen rfl (PySem.W.codeRec_of KX hcd) (bi _ _ _ _ (wpAny_newFunctionEnv_cells S.kind kinds fun env he s1 x=>?_))
  cases he
  refine ⟨lim.keeps x.toInCall.keep,codeAny_func ?_⟩
  have I:Inv (cxOf CX0 W.P W.w W.K W.mg base N qual scope f cdv A o s H noX) [] (L2.start N vs) H s1:=inv_start S hr.rm.hd e0 hl rv x
  have run:=(PSs.nox (hb cdv A o s H (hr.deeper _))).run [] s1 (L2.start N vs) H { nx:=fun _ H'=>Q .non H',rt:=Q } I
    ⟨ad,st,start0 N.length qs,rs_start R V,(RdG.bind D).imp fun y ad1 H1 e1 E1 g=>by
      obtain ⟨fl,σ1,st1⟩:=y
      cases fl with
      | nx=>exact fun σ' S'=>RdG.ok g S'.ro _ .non
      | bk=>exact g.elim
      | ct=>exact g.elim
      | rt v=>exact fun R' v' V'=>RdG.ok g R' v' V'⟩
  refine wpAny_mono run (fun fl s' hs=>?_) fun e s' hs=>hs
  have fin:∀ {σ':LSt} {H':Hp} {v:L2.V} {u:Value},Inv (cxOf CX0 W.P W.w W.K W.mg base N qual scope f cdv A o s H noX) [] σ' H' s'→RelV v u→Q v H'→CE o W.P W.w H s Q u s':=
    fun J rv q=>⟨_,_,J.os,J.bare,J.base,J.hok,rv,q⟩
  cases fl with
  | next=>obtain ⟨_,_,J,q⟩:=hs;exact fin (v:=L2.V.non) (u:=Value.none) J rfl q
  | ret u=>obtain ⟨_,_,_,J,rv,q⟩:=hs;exact fin J rv q
  | brk=>obtain ⟨_,_,_,q⟩:=hs;exact q.elim
  | cont=>obtain ⟨_,_,_,q⟩:=hs;exact q.elim
/-- values that stand whatever the heap is -/
noncomputable
def Dfl (W:Wd) (ps:List PV) (vs:List V):Prop:=∀ad H,VRs W ad H ps vs
theorem Dfl.nil:Dfl W [] []:=fun _ _=>.nil
end
section
variable {X:Cx} {k:Nat} {f:Addr} {fd:FuncData} {ps:List Str} {F:Fn} {dps:List PV} {dvs:List V} {ds:List Value} {x:Str} {p pos:Pos} {e:Expr} {es:List Expr} {ma:EvA}
theorem run_fnD {pins:List (Addr×Obj)} {σ:LSt} {H:Hp} {s:Shared} {Q:VK} {us:List Value} {kw:List (Str×Value)} {bs:List Value} {vs:List V} (D:FnD X.wd X.base k f fd ps F) (hr:Rm k X.A) (hb:BindsTo s fd ⟨us,kw⟩ (ps.zip bs))
    (I:Inv X pins σ H s) (r:Vals vs bs) (h:Pm X.wd ps.length F vs H Q):wpAny (model X.prog X.w) X.A (call (.ref f) us kw) (EP X pins σ Q) X.xe s:=by
  refine wpAny_call (codeAny_mono (D X.A X.stack s H ⟨us,kw⟩ bs vs Q hr I.env0 hb r h) fun r s' hq=>?_)
  match r,hq with
  | .error e,hq=>exact False.elim hq
  | .ok (.ret u),hq=>exact I.after hq
theorem goF {σ:LSt} {H:Hp} {Q:VK} {n:Nat} (hd:Dfl X.wd dps dvs) (hn:∀st ps',ps'.length≠n→F ps' st=.stuck) (q:tOfE X.wd (eCall (fun ps st=>F (ps++dps) st) ma) σ H Q) :
    tOfA X.wd ma σ H fun vs H1=>Pm X.wd n F (vs++dvs) H1 Q:=by?
  obtain ⟨ad,st,σp,S,q⟩:=q
  have q2:=rd_gc S.ro q
  refine goA S q2 fun y ad1 H1 v e1 E1 S1 V1 q1=>?_
  have V2:=V1.append (hd ad1 H1)
  refine ⟨?_,ad1,y.2,_,S1.ro,V2,q1⟩
  by_cases h:(y.1++dps).length=n
  · rw [← V2.length];exact h
  · have q3:RdE X.wd (F (y.1++dps) y.2) ad1 H1 Q:=q1
    rw [hn _ _ h] at q3
    exact q3.elim
end
/-- F,of n values alone -/
noncomputable
def ofN (n:Nat) (F:Fn):Fn:=fun ps st=>if ps.length=n then F ps st else .stuck
theorem ofN_ne (n:Nat) (F:Fn):∀st ps',ps'.length≠n→ofN n F ps' st=.stuck:=fun _ _ h=>if_neg h
theorem FnD.ofN {W:Wd} {base:Heap} {k n:Nat} {f:Addr} {fd:FuncData} {ps:List Str} {F:Fn} (h:FnD W base k f fd ps F) (hn:ps.length=n):FnD W base k f fd ps (Sg.ofN n F):=
  fun A o s H args us vs Q hr e0 hb rv hsp=>h A o s H args us vs Q hr e0 hb rv <| by
    obtain ⟨h1,ad,st,qs,R,V,D⟩:=hsp
    refine ⟨h1,ad,st,qs,R,V,?_⟩
    unfold Sg.ofN at D
    rwa [if_pos (by rw [V.length,h1,hn])] at D
section
variable {X:Cx} {k n:Nat} {f:Addr} {fd:FuncData} {ps:List Str} {F:Fn} {dps:List PV} {dvs:List V} {ds:List Value} {x:Str} {p pos:Pos} {e:Expr} {es:List Expr} {ma:EvA}
/-- f(e,..) -/
theorem se_call (D:FnD X.wd X.base k f fd ps (ofN n F)) (hn:ps.length=n) (hr:Rm k X.A) (hg:Gl X x) (hm:X.mg x=some (.ref f)) (hk:PySem.W.keepIn X.K (.ref f)=true) (hb:Binds X.K fd ps ds) (hv:Vals dvs ds) (hd:Dfl X.wd dps dvs)
    (ha:SA X (e::es) ma) (hdb:(x == ("__debug__" : Str))=false:=by decide) (he:starEach (e::es) X.env=(false,eval e X.env)::starEach es X.env:=by rfl) (hpl:(backTo pos (starEach es X.env)).any (·.1)=false:=by rfl) :
    SE X (.Call (.Name x p) (e::es) [] pos) (eCall (fun ps st=>ofN n F (ps++dps) st) ma):=by?
  refine ⟨fun pins s σ H Q I h=>?_⟩
  refine wpAny_Call_Name_kw (ld_glob I hg hm ?_ hdb)
  refine PySem.W.callWith_K (h₀:=X.base) I.ok.mod.kin hk (thn (PA.run ha pos pins s σ H _ I (goF hd (ofN_ne n F) h)) fun us s1 ⟨vs,H1,I1,r,q⟩=>⟨I1.kIn,?_⟩) he hpl
  have r2:=r.append hv
  subst hn
  exact run_fnD D hr (hb s1 us I1.kIn (by rw [← r2.length];exact q.1)) I1 r2 q
end
end Sg
namespace Sg
open PySem PySem.W PySem.Spec PyProof.Rows L2
theorem vrs_ints {W:Wd} {ad:List Addr} {H:Hp}:∀ns:List Int,VRs W ad H (ns.map PV.int) (ns.map V.int)
  | []=>.nil
  | n::r=>.cons (.int n) (vrs_ints r)
/-- what a law's call ends with -/
noncomputable
def Good (s₁:Shared) (r:Result) (s':Shared):Prop:=r=.ok (.ret (.bool true))∧OldK s₁.heap s'.heap∧s'.os=s₁.os∧AllBare s'.gens
/-- the script's object -/
noncomputable
abbrev scr (vs:List Value):Obj:={ cls:=.type "list", data:=.seq vs.toArray }
/-- of a heap in which at most the script is tracked -/
theorem law_core {W:Wd} {mb:Str→Option Value} {k:Nat} {fa a:Addr} {fd:FuncData} {x:Str} {F:Fn} {s₁:Shared} {vs:List Value} {ns:List Int} {H:Hp}
    (KX:W.K.In s₁.heap) (hns:s₁.heap.Ns mainGlobals W.mg) (hb:s₁.heap.Ns builtinsNs mb) (hbb:∀x:Str,x ≠ "__name__" → mb x=bootBuiltins x) (hlim:s₁.heap.NoLimit) (hg:s₁.gens = #[])
    (ha:s₁.heap.get? a=some (scr vs)) (hr:Rm k callerA)
    (D:∀base:Heap,W.K.In base→base.Ns mainGlobals W.mg→FnD W base k fa fd [x] F) (bi:∀ (s:Shared) (u:Value),BindsTo s fd ⟨[u],[]⟩ [(x,u)])
    (hF:∃st,F [.fro (ns.map .int)] []=.ok (.bl true,st))
    (hO:∀b,H b=none∨∃o xs,H b=some (.frz o (.lst xs))) (hS:SqF W.K H a (ns.map V.int)) (hok:HOk W.P W.w H s₁.heap) (hA:∀b,H b≠none→b=a) (hK:H a≠none→W.K.lookup a=none) :
    codeAny (model W.P W.w) callerA (.call (.ref fa) ⟨[.ref a],[]⟩) (Good s₁) s₁:=by?
  have nn:∀ {b:Addr} {o:Obj},s₁.heap.get? b=some o→(∀vs n,o.data≠.seq vs n)→H b=none:=fun {b o} e d=>by
    by_cases q:H b=none
    · exact q
    · obtain rfl:=hA b q
      rw [ha] at e
      cases e
      exact absurd rfl (d _ _)
  have nsK:∀ {b:Addr} {m:Str→Option Value},s₁.heap.Ns b m→(hidT s₁.heap H).Ns b m:=fun {b m} ⟨o,es,ep,e,d,r⟩=>
    ⟨o,es,ep,hidT_get e (nn e fun vs n z=>by rw [d] at z;cases z),d,r⟩
  have kb:W.K.In (hidT s₁.heap H):=fun b o e=>hidT_get (KX b o e) <| by
    by_cases q:H b=none
    · exact q
    · obtain rfl:=hA b q
      rw [hK q] at e
      cases e
  have e0:Env0 W.P W.w W.K W.mg (hidT s₁.heap H) callerA [] s₁ H:=
    ⟨rfl,⟨kb,nsK hns,⟨mb,nsK hb,hbb⟩,hlim.elim fun mc h=>⟨mc,nsK h.1,h.2⟩⟩,fun b o e=>of_hidT e,Nat.le_of_eq (hidT_size _ _),trivial,(fun _ z=>nomatch z),hok,.of_eq hg⟩
  obtain ⟨st,eF⟩:=hF
  refine codeAny_mono (D _ kb (nsK hns) callerA [] s₁ H ⟨[.ref a],[]⟩ [.ref a] [.ref a] (fun v _=>v=.bl true) hr e0 (bi s₁ (.ref a)) (.cons rfl .nil)
    ⟨rfl,[],[],[.fro (ns.map .int)],⟨rfl,List.nodup_nil,fun i o a h=>by simp at h,.nil⟩,.cons (.fro hS (vrs_ints ns)) .nil,?_⟩) fun r s' h=>?_
  · rw [eF]
    intro ad' H' E R v V
    cases V
    rfl
  · match r,h with
    | .error e,h=>exact False.elim h
    | .ok (.ret u),⟨v,H',os,bare,un,hok',r',q⟩=>
      have q':v=.bl true:=q
      subst q'
      obtain rfl:u=Value.bool true:=r'
      refine ⟨rfl,.of_keep fun b o e=>?_,os,bare⟩
      rcases hO b with z | ⟨ob,xs,z⟩
      · exact un.keep b o e z (fun z=>nomatch z) (fun z=>nomatch z)
      · obtain ⟨e1,_⟩:=hok b _ z
        obtain ⟨e2,_⟩:=hok' b _ (un.frzs b ob _ z)
        rw [e] at e1;cases e1
        exact e2
theorem law_callD {W:Wd} {mb:Str→Option Value} {k:Nat} {fa a:Addr} {fd:FuncData} {x:Str} {F:Fn} {s₁:Shared} {vs:List Value} {ns:List Int}
    (KX:W.K.In s₁.heap) (hns:s₁.heap.Ns mainGlobals W.mg) (hb:s₁.heap.Ns builtinsNs mb) (hbb:∀x:Str,x ≠ "__name__" → mb x=bootBuiltins x) (hlim:s₁.heap.NoLimit) (hg:s₁.gens = #[])
    (ha:s₁.heap.get? a=some (scr vs)) (hi:IntsAre vs ns) (hl:ns.length≤sizeLine) (hr:Rm k callerA)
    (D:∀base:Heap,W.K.In base→base.Ns mainGlobals W.mg→FnD W base k fa fd [x] F) (bi:∀ (s:Shared) (u:Value),BindsTo s fd ⟨[u],[]⟩ [(x,u)])
    (hF:∃st,F [.fro (ns.map .int)] []=.ok (.bl true,st)):codeAny (model W.P W.w) callerA (.call (.ref fa) ⟨[.ref a],[]⟩) (Good s₁) s₁:=by?
  have rv:=vals_ints hi
  cases hk:W.K.lookup a with
  | some o=>
    have e:=KX a o hk
    rw [ha] at e
    cases e
    exact law_core (H:=fun _=>none) KX hns hb hbb hlim hg ha hr D bi hF (fun _=>.inl rfl) (.inr ⟨_,vs.toArray,_,hk,rfl,rfl,rfl,by rw [List.size_toArray,hi.length];exact hl,by simpa using rv⟩)
      (fun b u z=>nomatch z) (fun b z=>absurd rfl z) fun z=>absurd rfl z
  | none=>
    have at_:∀ {b:Addr} {u:HO},(if b=a then some (HO.frz (scr vs) (.lst (ns.map V.int))) else none)=some u→b=a∧u=.frz (scr vs) (.lst (ns.map V.int)):=fun {b u} z=>by
      split at z
      · rename_i h;cases z;exact ⟨h,rfl⟩
      · cases z
    refine law_core (H:=fun b=>if b=a then some (.frz (scr vs) (.lst (ns.map V.int))) else none) KX hns hb hbb hlim hg ha hr D bi hF (fun b=>?_) (.inl ⟨scr vs,if_pos rfl⟩) (fun b u z=>?_) (fun b z=>?_) fun _=>hk
    · by_cases h:b=a
      · exact .inr ⟨_,_,if_pos h⟩
      · exact .inl (if_neg h)
    · obtain ⟨rfl,rfl⟩:=at_ z
      exact ⟨ha,by rw [List.length_map];exact hl,vs,_,rv,ha⟩
    · cases q:(if b=a then some (HO.frz (scr vs) (.lst (ns.map V.int))) else none) with
      | none=>exact absurd q z
      | some u=>exact (at_ q).1
/-- the goal that k_head leaves -/
theorem walkD {l:PySem.W.OpenLaw} {k:Nat} {q:Program} {loose:List Str} {XP:(Str→Option Value)→Heap→Prop} {YP:World→Heap→Prop} {d:DefRec} {K:Params→PySem.W.Frag} {F:Fn} {x:Str}
    (hn:l.most=some 63) (hdf:d.params.defaults=[]) (hr:Rm k callerA) (hY:∀ (w:World) (h:Heap),YP w h→(K w.params).In h)
    (D:∀ (w:World) (mg:Str→Option Value) (fa:Addr) (h:Heap),(K w.params).In h→h.Ns mainGlobals mg→mg d.name=some (.ref fa) →
      ∃fd:FuncData,(∀ (s:Shared) (u:Value),BindsTo s fd ⟨[u],[]⟩ [(x,u)])∧∀base:Heap,(K w.params).In base→base.Ns mainGlobals mg→FnD ⟨K w.params,mg,l.prog,w⟩ base k fa fd [x] F)
    (hF:∀ns:List Int,ns.length≤63→∃st,F [.fro (ns.map .int)] []=.ok (.bl true,st)) :
    PySem.W.WalkO q loose XP YP l.row.toRowW d [] (fun f vs=>PySem.call f vs):=by
  refine Att.attach_call hn hdf fun w s₀ s₁ mg mb fa o pm cd doc a vs ns G Y ho hd hcd hmg hobj hints hlen hg=>?_
  obtain ⟨fd,hb,hD⟩:=D w mg fa _ (hY w _ Y) G.T.g hmg
  exact law_callD (W:=⟨K w.params,mg,l.prog,w⟩) (hY w _ Y) G.T.g G.T.b G.T.builtins G.T.nolimit hg hobj hints (Nat.le_trans hlen (by decide)) hr hD hb (hF ns hlen)
theorem rm_caller:Rm 40 callerA:=⟨⟨rfl,by decide,by decide⟩,rfl⟩
section
variable {X:Cx} {a b e:Expr} {ma mb m:EvE} {pos p cpos apos:Pos} {x:Str}
theorem se_glob {q:PV} {v:V} {u:Value} (hg:Gl X x) (hm:X.mg x=some u) (r:RelV v u) (hp:∀ad H,VR X.wd ad H q v) (hd:(x == ("__debug__" : Str))=false:=by decide):SE X (.Name x pos) (eC q):=
  se_c (pe_glob hg hm r hd) hp
noncomputable
def opMulA:Op2:=fun x y st=>match x,y with
  | .int i,.int j=>if mulOk i j then .ok (.int (i * j),st) else .stuck
  | .ref i,.int k=>match st[i]? with
    | some (.lst xs)=>if 0≤k∧k≤16777216∧xs.length * k.toNat≤LINE then .ok (.ref st.length,st++[.lst (List.replicate k.toNat xs).flatten]) else .stuck
    | _=>.stuck
  | _,_=>.stuck
theorem VRs.rep {W:Wd} {ad:List Addr} {H:Hp} {xs:List PV} {vs:List V} (h:VRs W ad H xs vs):∀n:Nat,VRs W ad H (List.replicate n xs).flatten (List.replicate n vs).flatten
  | 0=>.nil
  | n+1=>by
    rw [List.replicate_succ,List.replicate_succ,List.flatten_cons,List.flatten_cons]
    exact h.append (VRs.rep h n)
theorem od_mul:OpD X (binaryOp .Mult) opMulA:=by?
 exact OpR.to (od_mulI.or op_rep) fun x y H Q ⟨ad,st,p,q,R,V,W,h⟩=>by
  unfold opMulA at h
  split at h
  · exact Or.inl ⟨ad,st,_,_,R,V,W,h⟩
  · split at h
    · rename_i hx
      split at h
      · rename_i hc
        cases V with
        | ref hi=>
          obtain ⟨vs,e,r⟩:=R.obj _ _ _ hx hi
          cases W
          refine Or.inr ⟨_,_,vs,rfl,rfl,e,by omega,by omega,by rw [← r.length,sizeLine_eq];exact hc.2.2,fun l hl=>rdNew h R ?_ hl⟩
          exact r.rep _
      · exact h.elim
    · exact h.elim
  · exact h.elim
inductive SPs (X:Cx) (pos:Pos):List (Option Expr)→List Expr→EvP→Prop
  | nil:SPs X pos [] [] pNil
  | cons {k v:Expr} {ks vs} {mk mv:EvE} {r:EvP}:SE X k mk→SE X v mv→SPs X pos ks vs r→SPs X pos (some k::ks) (v::vs) (pCons mk mv r)
theorem DR.merge {W:Wd} {ad:List Addr} {H:Hp}:∀ {ps:List (PV×PV)} {kvs:List (Key×V)} {as:List (PV×PV)} {ws:List (Key×V)},DR W ad H ps kvs→DR W ad H as ws →
    DR W ad H (ps.foldl (fun acc q=>dictPut acc q.1 q.2) as) (mergeK ws kvs)
  | [],_,_,_,h,r=>by cases h;exact r
  | _ :: _,_,_,_,h,r=>by
    cases h with
    | @cons k p v' ps' vs' v t=>
      have z:=DR.merge t (DR.put (k:=k) v r)
      exact z
/-- pairs whose keys are keys -/
theorem pairs_dr {W:Wd} {ad:List Addr} {H:Hp}:∀ {ps:List (PV×PV)} {vs:List (V×V)},VRs W ad H (ps.map (·.1)) (vs.map (·.1))→VRs W ad H (ps.map (·.2)) (vs.map (·.2))→(ps.all fun q=>keyOk q.1)=true →
    ∃kvs:List (Key×V),vs=kvs.map (fun kv=>(kV kv.1,kv.2))∧DR W ad H ps kvs
  | [],[],_,_,_=>⟨[],rfl,.nil⟩
  | [],_::_,h,_,_=>by cases h
  | _::_,[],h,_,_=>by cases h
  | p::ps,v::vs,.cons a b,.cons c d,h=>by
    simp only [List.all_cons,Bool.and_eq_true] at h
    obtain ⟨kvs,e,r⟩:=pairs_dr b d h.2
    obtain ⟨k,e1,e2⟩:=keyP_vr a h.1
    obtain ⟨p1,p2⟩:=p
    obtain ⟨v1,v2⟩:=v
    simp only at e1 e2 c
    subst e1;subst e2
    exact ⟨(k,v2)::kvs,by rw [e];rfl,.cons c r⟩
/-- a new thing of our own enters the store -/
theorem own_end {W:Wd} {ad0 ad:List Addr} {H0 H:Hp} {st:Store} {D:Addr} {o:PO} (E:Ext ad0 H0 ad H) (R:RO W ad H st) (hD:H0 D=none) (nD:D∉ad) (r:OR W (ad++[D]) H o D) (hu:hidO o=[]:=by rfl) :
    Ext ad0 H0 (ad++[D]) H∧RO W (ad++[D]) H (st++[o]):=by?
  obtain ⟨tl,et⟩:=E.pre
  refine ⟨⟨⟨tl++[D],by rw [et,List.append_assoc]⟩,E.frm,fun a ha n=>?_,E.imm⟩,by simp [R.len],?_,fun k u a h1 h2=>?_,R.hid.add hu⟩
  · rcases List.mem_append.mp ha with z | z
    · exact E.new a z n
    · rw [List.mem_singleton.mp z];exact hD
  · refine List.nodup_append.mpr ⟨R.nd,by simp,fun a ha b hb=>?_⟩
    rw [List.mem_singleton.mp hb]
    exact fun e=>nD (e ▸ ha)
  · by_cases hk:k < ad.length
    · rw [List.getElem?_append_left hk] at h2
      rw [List.getElem?_append_left (by rw [R.len];exact hk)] at h1
      exact (R.obj k u a h1 h2).go (fun k a h=>by rw [List.getElem?_append_left (List.getElem?_eq_some_iff.mp h).1];exact h) (fun _ _ q _=>q) rfl (fun _ _ _ _=>rfl)
    · have hk':k=ad.length:=by
        have:=(List.getElem?_eq_some_iff.mp h2).1
        simp at this
        omega
      subst hk'
      rw [List.getElem?_append_right (Nat.le_refl _)] at h2
      rw [List.getElem?_append_right (by rw [R.len];exact Nat.le_refl _),R.len] at h1
      simp at h1 h2
      subst h1;subst h2
      exact r
theorem at_app {ad:List Addr} {D:Addr}:∀ (k:Nat) a,ad[k]? = some a→(ad++[D])[k]? = some a:=fun k a h=>by
  rw [List.getElem?_append_left (List.getElem?_eq_some_iff.mp h).1];exact h
theorem sps_go {keys:List (Option Expr)} {vals:List Expr} {mp:EvP} (h:SPs X pos keys vals mp):∃trs:List (TE×TE),PPs X pos keys vals trs∧keys.all (·.isSome)=true∧keys.length=vals.length ∧
    ∀ {ad st σp σ H} {R:List (V×V)→Hp→Prop},RS X.wd ad H st σp σ→(∃x,mp σp st=.ok x) →
      (∀x ad' H' (vs:List (V×V)),mp σp st=.ok x→Ext ad H ad' H'→RO X.wd ad' H' x.2→VRs X.wd ad' H' (x.1.map (·.1)) (vs.map (·.1))→VRs X.wd ad' H' (x.1.map (·.2)) (vs.map (·.2))→R vs H')→tPairs trs σ H R:=by?
  induction h with
  | nil=>exact ⟨[],pps_nil,rfl,rfl,fun S q k=>k ([],_) _ _ [] rfl (.refl _ _) S.ro .nil .nil⟩
  | @cons k v ks vs mk mv r hk hv _ ih=>
    obtain ⟨trs,h1,h2,h3,h4⟩:=ih
    refine ⟨(tOfE X.wd mk,tOfE X.wd mv)::trs,pps_cons hk hv h1,by simpa using h2,by simp [h3],fun {ad st σp σ H R} S q kk=>?_⟩
    obtain ⟨x,q⟩:=q
    unfold pCons at q kk
    cases e1:mk σp st with
    | stuck=>rw [e1] at q;cases q
    | exc _ _ _=>rw [e1] at q;cases q
    | ok x1=>
      rw [e1] at q kk
      simp only [bind_ok] at q kk
      cases e2:mv σp x1.2 with
      | stuck=>rw [e2] at q;cases q
      | exc _ _ _=>rw [e2] at q;cases q
      | ok x2=>
        rw [e2] at q kk
        simp only [bind_ok] at q kk
        cases e3:r σp x2.2 with
        | stuck=>rw [e3] at q;cases q
        | exc _ _ _=>rw [e3] at q;cases q
        | ok x3=>
          rw [e3] at kk
          simp only [bind_ok] at kk
          refine ⟨ad,st,σp,S,?_⟩
          rw [e1]
          intro ad1 H1 E1 R1 v1 V1
          have S1:=S.mono E1 R1
          refine ⟨ad1,x1.2,σp,S1,?_⟩
          rw [e2]
          intro ad2 H2 E2 R2 v2 V2
          have S2:=S1.mono E2 R2
          refine h4 S2 ⟨_,e3⟩ fun y ad3 H3 ws ey E3 R3 A3 B3=>?_
          rw [e3] at ey
          cases ey
          exact kk _ ad3 H3 ((v1,v2)::ws) rfl ((E1.trans E2).trans E3) R3 (.cons ((V1.mono E2).mono E3) A3) (.cons (V2.mono E3) B3)
theorem se_disp {keys:List (Option Expr)} {vals:List Expr} {mp:EvP} (h:SPs X pos keys vals mp) (h0:keys≠[]:=by exact List.cons_ne_nil _ _) (h15:keys.length≤15:=by simp only [List.length_cons,List.length_nil];omega):SE X (.Dict keys vals pos) (eDisp mp):=by?
  obtain ⟨trs,h1,h2,h3,h4⟩:=sps_go h
  refine PE.to (pe_disp h1 h2 h3 h0 h15) fun σ H Q ⟨ad,st,σp,S,q⟩ d hd=>?_
  have nD:=S.ro.not_mem hd
  have S1:RS X.wd ad (upd H d (.dK [])) st σp σ:=S.mono (.fresh hd) (S.ro.fresh hd)
  unfold eDisp at q
  cases ex:mp σp st with
  | stuck=>rw [ex] at q;exact q.elim
  | exc _ _ _=>rw [ex] at q;exact q.elim
  | ok x=>
    rw [ex] at q
    simp only [bind_ok] at q
    split at q
    · rename_i hc
      simp only [Bool.and_eq_true,decide_eq_true_eq] at hc
      refine h4 S1 ⟨x,ex⟩ fun y ad' H' vs ey E R A B=>?_
      rw [ex] at ey
      cases ey
      have dD:H' d=some (.dK []):=E.frm d _ upd_same nD
      obtain ⟨kvs,e,r⟩:=pairs_dr A B hc.1
      refine ⟨dD,kvs,e,by rw [← r.length];exact hc.2,?_⟩
      have nd':d∉ad':=fun hm=>by
        have:=E.new d hm nD
        rw [upd_same] at this;cases this
      have E0:Ext ad H ad' H':=(Ext.fresh hd).trans E
      obtain ⟨E6,R6,im6⟩:=own_write (o:=.dK (mergeK [] kvs)) R nd' hd E0 dD (fun z=>z)
      obtain ⟨E7,R7⟩:=own_end (o:=.dic (x.1.foldl (fun acc q=>dictPut acc q.1 q.2) [])) E6 R6 hd nd' ⟨_,upd_same,DR.go at_app (fun _ _ q _=>q) (DR.merge (DR.go (fun _ _ q=>q) im6 r) .nil)⟩
      exact q _ _ E7 R7 _ (.ref (by rw [R.len];simp))
    · exact q.elim
end
noncomputable
def ItI (d:Addr) (o:Obj) (kvs:List (Key×V)):It:=
  ⟨fun i H=>H d=some (.frz o (.dK kvs))∧i < kvs.length,
   fun i H x H'=>∃T k v its,kvs[i]? = some (k,v)∧x=.ref T∧H T=none∧H'=upd H T (.frz (tupObj its) (.tup [kV k,v])),fun i H=>H d=some (.frz o (.dK kvs))∧kvs.length≤i⟩
theorem turn_itemsB {P:Program} {w:World} {K:PySem.W.Frag} {d:Addr} {o:Obj} {es:Array DictEntry} {ep:Nat} {kvs:List (Key×V)} {elts:List Expr} {kk:Nat} {tpos:Pos} (it:Addr) (hod:o.data=.dict es ep) :
    Turn P w K (.Tuple elts kk tpos) (ItI d o kvs) [it] it (fun i h=>∃a b,IsItemIter h it d i kvs.length ep a b) where
  mem:=List.mem_singleton.mpr rfl
  obj:=fun i h ⟨a,b,e⟩ c hc=>by
    rw [List.mem_singleton.mp hc]
    exact ⟨_,e,fun v z=>nomatch z⟩
  keep:=fun i h h' ⟨a,b,e⟩ k=>⟨a,b,k it (List.mem_singleton.mpr rfl) _ e⟩
  self:=fun A i s Q E ⟨a,b,e⟩ h=>PySem.W.kcp_self e h
  item:=by
    intro X hP hw hK hc i pins s σ H E I hf ⟨a,b,he⟩ ⟨hd,hi⟩
    subst hP hw hK
    obtain ⟨_,_,_,es2,ep2,vs,hdt,_,kv,hm⟩:=I.frzK hd
    obtain ⟨rfl,rfl⟩:=dict_ep hod hdt
    obtain ⟨u,hu,ru⟩:=kv_get kv (i:=i) (k:=kvs[i].1) (v:=kvs[i].2) (List.getElem?_eq_getElem hi)
    rw [show kvs.length=vs.length from Paired.length kv] at he ⊢
    have hlt:it < s.heap.objs.size:=Heap.lt_size he
    refine wpAny_pyNext_items_item he hm hu fun key h1 hkey ho hT _ hk=>⟨_,rfl,wpAny_letOwnedTupleGo_items (s:={ s with heap:=h1 }) ho fun h2 he2 sb=>?_⟩
    have hT2:h2.get? s.heap.objs.size=some (tupObj [key,u]):=(sb.2 _ (Nat.ne_of_gt hlt)).trans hT
    have rr:Vals [kV kvs[i].1,kvs[i].2] [key,u]:=.cons (relV_key (show keyIs kvs[i].1 key=true from hkey)) (.cons ru .nil)
    have I1:Inv X pins σ (upd H s.heap.objs.size (.frz (tupObj [key,u]) (.tup [kV kvs[i].1,kvs[i].2]))) { s with heap:=h2 }:=by
      refine I.turnedNew (t':=s.toks) (ch:=[it]) (fun c ob hb e=>?_) hf (Nat.le_refl _) ⟨hT2,(by show 2≤sizeLine;decide),_,rr,_,hT2,rfl,_,rfl⟩
      exact (sb.2 c (by simpa using hb)).trans (hk c ob (by simpa using hb) e)
    refine ⟨.ref s.heap.objs.size,_,I1,rfl,⟨_,kvs[i].1,kvs[i].2,_,List.getElem?_eq_getElem hi,rfl,I.hok.fresh (Nat.le_refl _),rfl⟩,⟨key,u,he2⟩,fun c hc=>?_⟩
    rw [List.mem_singleton.mp hc,upd_ne (Nat.ne_of_lt hlt)]
    exact (hf it (List.mem_singleton.mpr rfl)).1
  done:=by
    intro X hP hw hK hc i pins s σ H E I hf ⟨a,b,he⟩ ⟨hd,hi⟩
    subst hP hw hK
    obtain ⟨g0,g1,g2,g3,g4,g5⟩:=hf it (List.mem_singleton.mpr rfl)
    obtain ⟨_,_,_,es2,ep2,vs,hdt,_,kv,hm⟩:=I.frzK hd
    obtain ⟨rfl,rfl⟩:=dict_ep hod hdt
    have hl:kvs.length=vs.length:=Paired.length kv
    rw [hl] at he
    exact wpAny_pyNext_items_end (I.ok.hd hc) he hm (List.getElem?_eq_none (by omega)) fun h1 eb=>⟨rfl,I.turned (t':=s.toks) (fun c ob hb q=>eb c ob hb q) g0 g1 g3 g4 g5⟩
section
variable {X:Cx} {e:Expr} {m:EvE} {apos cpos tpos:Pos} {elts:List Expr} {kk:Nat} {td:TE}
theorem pe_lockV (he:PE X e td):PE X e (fun σ H Q=>td σ H fun x H1=>∃d u,x=.ref d∧H1 d=some u∧Mut (some u)∧∀o,Q x (upd H1 d (.frz o u))):=
  ⟨fun pins s σ H Q I h=>thn (he.run pins s σ H _ I h) fun u s1 ⟨x,H1,I1,rx,d,ob,ex,hd,mu,q⟩=>let ⟨od,I2⟩:=I1.lock hd mu;⟨x,_,I2,rx,q od⟩⟩
theorem pi_itemsB (he:PE X e td) (hbase:attributeBase e "items" X.env (eval e X.env)=eval e X.env) (hline:(apos.endLine == cpos.line)=true) :
    PI X (.Tuple elts kk tpos) (.Call (.Attribute e "items" apos) [] [] cpos) (fun σ H R=>td σ H fun x H1=>∃d o kvs,x=.ref d∧H1 d=some (.frz o (.dK kvs))∧R (ItI d o kvs) H1):=by?
  refine ⟨fun pins s σ H R I h=>?_⟩
  refine wpAny_Call_method (T := "dict") (id := "dict.items") hbase rfl hline F.plainAttrs_dict F.slot_dict_items F.type_dict_items <| thn (he.run pins s σ H _ I h) ?_
  rintro u s1 ⟨x,H1,I1,rx,d,o,kvs,ex,hd,q⟩
  subst ex
  obtain rfl:u=Value.ref d:=rx
  obtain ⟨hs,hgd,hx,es,ep,vs,hdt,hsz,kv,hm⟩:=I1.frzK hd
  refine ⟨hm.dictOf.typeIs,hm.dictOf.mapOf.noDict,?_⟩
  have I2:Inv X pins σ H1 { s1 with heap:=s1.heap.push { cls:=.type "dict_items", data:=.fields #[.ref d] } }:=I1.kept (t':=s1.toks) fun b ob q=>Heap.get?_push_of_some _ q
  have fin:wpAny (model X.prog X.w) X.A (pyIter (.ref s1.heap.objs.size)) (PIE X pins σ (.Tuple elts kk tpos) R) X.xe { s1 with heap:=s1.heap.push { cls:=.type "dict_items", data:=.fields #[.ref d] } }:=by
    refine wpAny_pyIter_items (d:=d) (knd:=mixKind X.prog X.w) ⟨_,Heap.get?_push_size _ rfl,rfl,rfl⟩ (hm.push _) (pi_one (tk:=s1.toks) I2 _ (turn_itemsB _ hdt) ⟨.none,.none,?_⟩ q)
    rw [show kvs.length=vs.length from Paired.length kv]
    exact Heap.get?_push_size _ rfl
  exact method_meetsIn F.slot_dict_items F.entry_dict_items rfl (PySem.evalArgs_none ⟨rfl,hm.dictOf.typeIs,F.args_dict_items_1 _,_,meets_dict_items (mixKind X.prog X.w) d hs,⟨vs,hm.dictOf⟩,fin⟩)
theorem vr_key {W:Wd} {ad:List Addr} {H:Hp} (k:Key):VR W ad H (keyP k) (kV k):=by
  cases k with
  | inl i=>exact .int i
  | inr x=>exact .str x
theorem DR.nth {W:Wd} {ad:List Addr} {H:Hp}:∀ {ps:List (PV×PV)} {vs:List (Key×V)} {i:Nat} {k:Key} {v:V},DR W ad H ps vs→vs[i]? = some (k,v)→∃p,ps[i]? = some (keyP k,p)∧VR W ad H p v
  | _,_,_,_,_,.nil,h=>by simp at h
  | _,_,0,_,_,.cons r _,h=>by
    simp only [List.getElem?_cons_zero,Option.some.injEq,Prod.mk.injEq] at h
    obtain ⟨rfl,rfl⟩:=h
    exact ⟨_,by simp,r⟩
  | _,_,i+1,_,_,.cons _ t,h=>by
    simp only [List.getElem?_cons_succ] at h ⊢
    exact DR.nth t h
theorem si_items (he:SE X e m) (hbase:attributeBase e "items" X.env (eval e X.env)=eval e X.env:=by rfl) (hline:(apos.endLine == cpos.line)=true:=by rfl) :
    SI X (.Tuple elts kk tpos) (.Call (.Attribute e "items" apos) [] [] cpos) (iItems m):=by?
 exact PI.to (pi_itemsB (pe_lockV he) hbase hline) fun σ H R ⟨ad,st,σp,S,q⟩=>by
    refine goE S q fun x ad1 H1 v e1 E1 S1 V1 q1=>?_
    split at q1
    · rename_i i hx
      split at q1
      · rename_i kvs hs
        unfold iItems.st0 at hs
        split at hs
        · rename_i kvs' hk
          cases hs
          rw [hx] at V1
          cases V1 with
          | ref ha=>
            rename_i a
            obtain ⟨ws,e2,r⟩:=S1.ro.obj _ _ _ hk ha
            refine ⟨a,.dK ws,rfl,e2,trivial,fun o=>⟨a,o,ws,rfl,upd_same,?_⟩⟩
            have ni:∀u,H1 a=some u→¬ Imu u:=fun u z i=>by rw [e2] at z;cases z;exact i
            have E2:=Ext.write (o:=.frz o (.dK ws)) S1.ro (List.mem_of_getElem? ha) ni
            have R2:RO X.wd ad1 (upd H1 a (.frz o (.dK ws))) (x.2.set i .dead):=S1.ro.write ha ⟨_,upd_same⟩ ni
            have r2:=DR.go (fun _ _ q=>E2.at q) E2.imm r
            refine q1 ad1 _ E2 R2 _ ⟨fun j ad3 H3 st3 hj E3 R3 g3=>⟨E3.imm _ _ upd_same trivial,?_⟩,fun ad3 H3 st3 E3 R3 g3=>⟨E3.imm _ _ upd_same trivial,?_⟩,fun j p ad3 H3 st3 v H4 hp E3 R3 g3 y=>?_⟩
            · rw [List.length_map,r.length] at hj;exact hj
            · rw [List.length_map,r.length];exact Nat.le_refl _
            · obtain ⟨T,k,v',its,hk',rfl,hT,rfl⟩:=y
              obtain ⟨p',hp',V'⟩:=DR.nth r2 hk'
              rw [List.getElem?_map,hp'] at hp
              simp only [Option.map_some,Option.some.injEq] at hp
              subst hp
              have E4:Ext ad3 H3 ad3 (upd H3 T (.frz (tupObj its) (.tup [kV k,v']))):=.fresh hT
              exact ⟨E4,R3.fresh hT,.tup (Or.inl ⟨_,upd_same,rfl,rfl⟩) (.cons (vr_key k) (.cons ((V'.mono E3).mono E4) .nil))⟩
        · cases hs
      · exact q1.elim
    · exact q1.elim
end
/-- a def of the text,as the module's top has laid it (no defaults) -/
noncomputable
def DefIs (K:PySem.W.Frag) (x:Str) (st:Stmt):Prop:=∃ (f:Addr) (fd:FuncData),PySem.W.nsIn K mainGlobals x=some (some (.ref f))∧FunD K x x (L2.defArgs st) (L2.defBody st) (L2.defScope st) [] [] f fd
theorem defIs {K:PySem.W.Frag} {x:Str} {st:Stmt} {f:Addr} {od an:Option Addr} {sl:Array (Option Value)} {oc kV dc pm cd ct:Value} (a:PySem.W.nsIn K mainGlobals x=some (some (.ref f)))
    (l:K.lookup f=some ⟨oc,od,.func (PySem.W.fnOf x x (L2.defArgs st) (L2.defBody st) (L2.defScope st) .none kV dc pm an cd ct),sl⟩) (c:PySem.W.codeIn K cd x=true) (k:PySem.W.keepIn K (.ref f)=true):DefIs K x st:=
  ⟨f,_,a,⟨oc,od,.none,kV,dc,pm,an,cd,ct,sl,rfl,l,c,Or.inl ⟨rfl,rfl⟩,Or.inl rfl⟩,k⟩
/-- what may be called by name -/
noncomputable
def Cal (W:Wd) (base:Heap) (k n:Nat) (x:Str) (F:Fn):Prop:=∃ (f:Addr) (fd:FuncData) (ps:List Str),ps.length=n∧FnD W base k f fd ps (ofN n F)∧W.mg x=some (.ref f)∧PySem.W.keepIn W.K (.ref f)=true∧L2.Binds W.K fd ps []
/-- how a def binds what is given by position -/
noncomputable
def BindAll (x:Str) (st:Stmt) (ps:List Str):Prop:=∀ (kV doc pm:Value) (an:Option Addr) (cdv ct:Value) (us:List Value),us.length=ps.length →
  bindArgs (PySem.W.fnOf x x (L2.defArgs st) (L2.defBody st) (L2.defScope st) .none kV doc pm an cdv ct) ⟨us,[]⟩=pure (ps.zip us)
noncomputable
abbrev BodyOk (W:Wd) (base:Heap) (N:List Str) (x:Str) (st:Stmt) (k:Nat) (m:EvS):Prop:=∀ (f:Addr) (cd:Value) (A:Around) (o:List Env) (s:Shared) (H:Hp),Rm k (A.deeper (envOfC x (L2.defScope st) s.heap.objs.size f cd)) →
  SSs (bX W base N x (L2.defScope st) f cd A o s H) (L2.defBody st) m
section
variable {W:Wd} {base h:Heap} {x:Str} {st:Stmt} {N ps:List Str} {k n:Nat} {m:EvS}
theorem cal_of (D:DefIs W.K x st) (KX:W.K.In h) (G:h.Ns mainGlobals W.mg) (S:FnScope N ps (L2.defScope st)) (bi:BindAll x st ps) (b:BodyOk W base N x st k m) (hn:ps.length=n:=by rfl):Cal W base (k+1) n x (fnOf N.length m):=by
  obtain ⟨f,fd,a,F⟩:=D
  exact ⟨f,fd,ps,hn,FnD.ofN (fnD_of F S fun cd A o s H hr=>b f cd A o s H hr) hn,PySem.W.mg_of KX G a,F.kp,F.bindsN bi⟩
theorem Cal.mono {F:Fn} {k':Nat} (c:Cal W base k n x F) (h:k≤k'):Cal W base k' n x F:=by
  obtain ⟨f,fd,ps,hn,D,r⟩:=c
  exact ⟨f,fd,ps,hn,D.mono h,r⟩
/-- the law's own def,in the shape that walkD wants -/
theorem law_of {K:PySem.W.Frag} {mg:Str→Option Value} {P:Program} {w:World} {fa:Addr} {y:Str} (D:DefIs K x st) (KX:K.In h) (G:h.Ns mainGlobals mg) (hfa:mg x=some (.ref fa)) (S:FnScope N [y] (L2.defScope st)) (bi:BindAll x st [y])
    (b:∀base:Heap,K.In base→base.Ns mainGlobals mg→BodyOk ⟨K,mg,P,w⟩ base N x st k m) :
    ∃fd:FuncData,(∀ (s:Shared) (u:Value),BindsTo s fd ⟨[u],[]⟩ [(y,u)])∧∀base:Heap,K.In base→base.Ns mainGlobals mg→FnD ⟨K,mg,P,w⟩ base (k+1) fa fd [y] (fnOf N.length m):=by
  obtain ⟨f,fd,a,F⟩:=D
  have e:=hfa.symm.trans (PySem.W.mg_of KX G a)
  cases e
  exact ⟨fd,fun s u=>F.bindsA bi s [u] rfl,fun base h1 h2=>fnD_of F S fun cd A o s H hr=>b base h1 h2 fa cd A o s H hr⟩
end
section
variable {X:Cx} {k k' n:Nat} {F:Fn} {x:Str} {p pos:Pos} {e:Expr} {es:List Expr} {ma:EvA}
theorem se_callC (C:Cal X.wd X.base k' n x F) (hr:Rm k X.A) (ha:SA X (e::es) ma) (hg:Gl X x:=by rfl) (hk:k'≤k:=by decide)
    (hdb:(x == ("__debug__" : Str))=false:=by decide) (he:starEach (e::es) X.env=(false,eval e X.env)::starEach es X.env:=by rfl) (hpl:(backTo pos (starEach es X.env)).any (·.1)=false:=by rfl) :
    SE X (.Call (.Name x p) (e::es) [] pos) (eCall (ofN n F) ma):=by
  obtain ⟨f,fd,ps,hn,D,hm,hkp,hb⟩:=C
  have q:=se_call (X:=X) (dps:=[]) (dvs:=[]) (ds:=[]) (pos:=pos) (p:=p) D hn (hr.mono hk) hg hm hkp hb .nil Dfl.nil ha hdb he hpl
  have e:(fun (ps:List PV) (st:Store)=>ofN n F (ps++[]) st)=ofN n F:=by funext ps st;rw [List.append_nil]
  rw [e] at q
  exact q
/-- a module's number -/
noncomputable
def NumIs (W:Wd) (x:Str) (i:Int):Prop:=∃t,W.mg x=some (.int i t)
theorem se_num {i:Int} (h:NumIs X.wd x i) (hg:Gl X x:=by rfl) (hd:(x == ("__debug__" : Str))=false:=by decide):SE X (.Name x pos) (eC (.int i)):=by
  obtain ⟨t,h⟩:=h
  exact se_glob hg h (v:=.int i) ⟨t,rfl⟩ (fun _ _=>.int i) hd
/-- a built-in type,as a value -/
theorem se_ty {T:String} (hm:X.mg x=none) (hv:bootBuiltins x=some (.type T)) (hg:Gl X x:=by rfl) (hn:x ≠ "__name__" := by decide) (hd:(x == ("__debug__" : Str))=false:=by decide):SE X (.Name x pos) (eC (.ty T)):=
  se_c (v:=.ty T) (pe_bltn hg hm hv rfl hn hd) fun _ _=>.ty T
theorem SE.or {m m' q:EvE} (h:SE X e m) (h':SE X e m') (c:∀σ st,q σ st=m σ st∨q σ st=m' σ st):SE X e q:=⟨fun pins s σ H Q I ⟨ad,st,σp,S,d⟩=>by
  rcases c σp st with z | z
  · rw [z] at d
    exact PE.run h pins s σ H Q I ⟨ad,st,σp,S,d⟩
  · rw [z] at d
    exact PE.run h' pins s σ H Q I ⟨ad,st,σp,S,d⟩⟩
end
/-- x[y] of a list,a tuple,a text or a dict -/
noncomputable
def opIxA:Op2:=fun x y st=>if isDic st x then opDGet x y st else opIx x y st
theorem se_ixA {X:Cx} {a b:Expr} {ma mb:EvE} {pos:Pos} (hu:X.A.units+64 < cLine) (ha:SE X a ma) (hb:SE X b mb) (hs:PlainIx b:=by first | exact fun _ _=>rfl | (intro _ _;rfl)) (hs2:NoSl b:=by first | exact fun _ _=>rfl | (intro _ _;rfl)) :
    SE X (.Subscript a b pos) (eBinG opIxA ma mb):=by?
  refine SE.or (se_ix ha hb hs) (se_dget hu ha hb hs2) fun σ st=>?_
  unfold eBinG eBin
  cases ma σ st with
  | stuck=>exact Or.inl rfl
  | exc _ _ _=>exact Or.inl rfl
  | ok x=>
    simp only [bind_ok]
    cases mb σ x.2 with
    | stuck=>exact Or.inl rfl
    | exc _ _ _=>exact Or.inl rfl
    | ok y=>
      simp only [bind_ok]
      unfold opIxA
      cases isDic y.2 x.1 with
      | true=>exact Or.inr rfl
      | false=>exact Or.inl rfl
theorem bt_len:bootBuiltins "len" = some (.builtin "len"):=by decide +kernel
theorem bt_isinstance:bootBuiltins "isinstance" = some (.builtin "isinstance"):=by decide +kernel
theorem bt_abs:bootBuiltins "abs" = some (.builtin "abs"):=by decide +kernel
theorem bt_min:bootBuiltins "min" = some (.builtin "min"):=by decide +kernel
theorem bt_max:bootBuiltins "max" = some (.builtin "max"):=by decide +kernel
theorem bt_sum:bootBuiltins "sum" = some (.builtin "sum"):=by decide +kernel
theorem bt_int:bootBuiltins "int" = some (.type "int"):=by decide +kernel
theorem bt_bool:bootBuiltins "bool" = some (.type "bool"):=by decide +kernel
section
variable {X:Cx} {tg iter elt kx vx:Expr} {g:Tg} {mi:EvI} {m mk mv:EvE} {t:EvT} {pos:Pos} {ifs:List Expr} {scope:Scope} (own:List (Str×Nat)) {vs:List Nat}
theorem se_lcB (hi:SI X tg iter mi) (hN:X.N.Nodup) (hc:X.calm=true) (ok:blkC X.N X.env.scope scope own=true)
    (hg:∀ (s:Shared) (H:Hp) (C:Addr) (cl:List (Str×Addr)) (fp:List Addr),SG (X.blk s H scope (compEnvC scope cl C X.env) fp) tg g) (ht:∀ (s:Shared) (H:Hp) (C:Addr) (cl:List (Str×Addr)) (fp:List Addr),STs (X.blk s H scope (compEnvC scope cl C X.env) fp) ifs t)
    (he:∀ (s:Shared) (H:Hp) (C:Addr) (cl:List (Str×Addr)) (fp:List Addr),SE (X.blk s H scope (compEnvC scope cl C X.env) fp) elt m) (ho:∀i∈g.own,i∈own.map (·.2):=by decide) (hs:∀x,foldedSetIterable iter X.env x=pure x:=by intro _;rfl) (hv:own.map (·.2)=vs:=by rfl) :
    SE X (.ListComp elt [⟨tg,iter,ifs,0⟩] scope pos) (eLc mi g t m vs):=by subst hv;exact se_lc hc hN hi (blkOk_by ok) hg ht he ho hs
theorem se_dcB (hi:SI X tg iter mi) (hN:X.N.Nodup) (hc:X.calm=true) (ok:blkC X.N X.env.scope scope own=true)
    (hg:∀ (s:Shared) (H:Hp) (C:Addr) (cl:List (Str×Addr)) (fp:List Addr),SG (X.blk s H scope (compEnvC scope cl C X.env) fp) tg g) (ht:∀ (s:Shared) (H:Hp) (C:Addr) (cl:List (Str×Addr)) (fp:List Addr),STs (X.blk s H scope (compEnvC scope cl C X.env) fp) ifs t)
    (hk:∀ (s:Shared) (H:Hp) (C:Addr) (cl:List (Str×Addr)) (fp:List Addr),SE (X.blk s H scope (compEnvC scope cl C X.env) fp) kx mk)
    (he:∀ (s:Shared) (H:Hp) (C:Addr) (cl:List (Str×Addr)) (fp:List Addr),SE (X.blk s H scope (compEnvC scope cl C X.env) fp) vx mv) (ho:∀i∈g.own,i∈own.map (·.2):=by decide) (hs:∀x,foldedSetIterable iter X.env x=pure x:=by intro _;rfl) (hv:own.map (·.2)=vs:=by rfl) :
    SE X (.DictComp kx vx [⟨tg,iter,ifs,0⟩] scope pos) (eDc mi g t mk mv vs):=by subst hv;exact se_dc hc hN hi (blkOk_by ok) hg ht hk he ho hs
end
section
variable {X:Cx}
theorem MtR.par {id:String} {F:PV→Fn} {P:PV→Prop} (h:MtR X id (fun x xs H Q=>∃ad st p ps,RO X.wd ad H st∧VR X.wd ad H p x∧VRs X.wd ad H ps xs∧P p∧RdE X.wd (F p ps st) ad H Q)) [DecidablePred P] :
    MtR X id (rMOf X fun p vs st=>if P p then F p vs st else .stuck):=
  MtR.to h fun x xs H Q ⟨ad,st,p,ps,R,V,Vs,q⟩=>by
    by_cases hp:P p
    · exact ⟨ad,st,p,ps,R,V,Vs,hp,by simpa [hp] using q⟩
    · simp only [hp,if_false] at q
      exact q.elim
end
end Sg
namespace Sg
open PySem
theorem oldOk_self (n:Nat):∀st t:Store,oldOk n st (st++t)=true
  | [],_=>rfl
  | o::r,t=>by simp [oldOk,oldOk_self n r t]
theorem gc_same {st st':Store} {v:PV} (h:st'.length=st.length):gc st (v,st')=(v,st'):=if_pos h
theorem gc_app {st t:Store} {v:PV} (h:refsLt st.length v=true):gc st (v,st++t)=(v,st):=by?
  by_cases ht:t=[]
  · subst ht
    rw [List.append_nil]
    exact gc_same rfl
  · have hn:¬ (st++t).length=st.length:=by
      rw [List.length_append]
      have:=List.length_pos_iff.mpr ht
      omega
    simp only [gc,if_neg hn,oldOk_self,h,if_true]
    rw [List.take_append_of_le_length (Nat.le_refl _),List.take_of_length_le (Nat.le_refl _)]
theorem gc_new {st t:Store} {o:PO} {i:Nat} (hi:(st++t)[i]? = some o) (hn:st.length≤i) (h:objLt st.length o=true):gc st (.ref i,st++t)=(.ref st.length,st++[o]):=by
  have hl:=(List.getElem?_eq_some_iff.mp hi).1
  simp only [gc,if_neg (show ¬ (st++t).length=st.length by omega),oldOk_self,if_true,refsLt,decide_eq_true_eq,if_neg (Nat.not_lt.mpr hn),hi,h]
  rw [List.take_append_of_le_length (Nat.le_refl _),List.take_of_length_le (Nat.le_refl _)]
noncomputable
def Bd (a:Nat) (i:Int):Prop:=i.natAbs < 2 ^ a
theorem Bd.mono {a b:Nat} {i:Int} (h:Bd a i) (hab:a≤b):Bd b i:=Nat.lt_of_lt_of_le h (Nat.pow_le_pow_right (by decide) hab)
theorem Bd.mul {a b:Nat} {i j:Int} (h:Bd a i) (g:Bd b j):Bd (a+b) (i * j):=by
  unfold Bd at *
  rw [Int.natAbs_mul,Nat.pow_add]
  exact Nat.mul_lt_mul'' h g
theorem Bd.add {a:Nat} {i j:Int} (h:Bd a i) (g:Bd a j):Bd (a+1) (i+j):=by
  unfold Bd at *
  have:=Int.natAbs_add_le i j
  rw [Nat.pow_succ];omega
theorem Bd.lt {a:Nat} {i:Int} (h0:0≤i) (h:i < 2 ^ a):Bd a i:=by
  unfold Bd
  have e:((2 ^ a:Nat):Int)=(2:Int) ^ a:=by simp
  have:(i.natAbs:Int) < ((2 ^ a:Nat):Int):=by rw [Int.natAbs_of_nonneg h0,e];exact h
  omega
theorem mulOk_of {a b:Nat} {i j:Int} (h:Bd a i) (g:Bd b j) (hab:a+b < 1000000):mulOk i j=true:=by
  unfold mulOk
  have e:∀ (c:Nat) (x:Int),Bd c x→x.natAbs.log2≤c:=fun c x hx=>by
    by_cases z:x.natAbs=0
    · rw [z];exact Nat.zero_le _
    · exact Nat.le_of_lt ((Nat.log2_lt z).mpr hx)
  have h1:=e a i h
  have h2:=e b j g
  simp only [decide_eq_true_eq]
  omega
noncomputable
def mDraw:EvS:=sSeq (sIf (tVal (eBinG opGt (eBinG opIxA (eVar 0) (eC (.int 0))) (eC (.int 0)))) (sSeq (sAsg (eBin opMod (eBinG opIxA (eVar 0) (eC (.int 0))) (eVar 1)) (.nm 2)) (sSeq (sSub (eVar 0) (eC (.int 0)) (eBin opFdiv (eBinG opIxA (eVar 0) (eC (.int 0))) (eVar 1))) (sRet (eVar 2)))) (sNil)) (sSeq (sSub (eVar 0) (eC (.int 2)) (eBin opAdd (eBinG opIxA (eVar 0) (eC (.int 2))) (eC (.int 1)))) (sSeq (sAsg (eBinG opIxA (eVar 0) (eC (.int 2))) (.nm 3)) (sSeq (sAsg (eBin opMod (eBin opMulA (eBin opAdd (eBin opAdd (eBinG opIxA (eVar 0) (eC (.int 1))) (eBin opMulA (eBin opMulA (eC (.int 65537)) (eVar 3)) (eVar 3))) (eC (.int 11))) (eC (.int 48271))) (eC (.int 2305843009213693921))) (.nm 4)) (sSeq (sAsg (eBin opMod (eBin opMulA (eVar 4) (eBin opAdd (eBin opMod (eVar 4) (eC (.int 1000003))) (eBin opMulA (eC (.int 99991)) (eVar 3)))) (eC (.int 2305843009213693907))) (.nm 4)) (sRet (eBin opMod (eBin opAdd (eBin opFdiv (eVar 4) (eC (.int 97))) (eBin opFdiv (eVar 4) (eC (.int 1000033)))) (eVar 1)))))))
noncomputable
def mSource:EvS:=sSeq (sAsg (eIf (tVal (eBinG opLt (eVar 1) (eCall fnLen (aCons (eVar 0) (aNil))))) (eBinG opIxA (eVar 0) (eVar 1)) (eC (.int 0))) (.nm 2)) (sSeq (sAsg (eIf (tVal (eBinG opGe (eCall fnAbs (aCons (eVar 2) (aNil))) (eBin opPow (eC (.int 10)) (eC (.int 18))))) (eBin opMod (eCall fnAbs (aCons (eVar 2) (aNil))) (eBin opPow (eBin opPow (eC (.int 10)) (eC (.int 60))) (eC (.int 4)))) (eC (.int 0))) (.nm 3)) (sRet (eLst (aCons (eVar 3) (aCons (eBin opMod (eBin opAdd (eBin opAdd (eBin opMulA (eBin opMod (eVar 2) (eC (.int 2305843009213693951))) (eC (.int 1000003))) (eBin opMulA (eBin opMulA (eC (.int 7919)) (eVar 1)) (eVar 1))) (eC (.int 97))) (eC (.int 2305843009213693921))) (aCons (eC (.int 0)) (aNil)))))))
/-- a state of draws: what is left of the digits,the seed,the number of draws -/
noncomputable
def srcO (d s t:Int):PO:=.lst [.int d,.int s,.int t]
structure SrcOk (d s t:Int):Prop where
  d0:0≤d
  s0:0≤s
  s1:s < 2305843009213693952
  t0:0≤t
@[simp] theorem gcR_bind (st:Store) (x:PV×Store):gcR st (Res.ok x)=Res.ok (gc st x):=rfl
theorem gc_int {st:Store} {i:Int}:gc st (.int i,st)=(.int i,st):=gc_same rfl
theorem gc_bl {st:Store} {i:Bool}:gc st (.bl i,st)=(.bl i,st):=gc_same rfl
theorem gc_non {st:Store}:gc st (.non,st)=(.non,st):=gc_same rfl
theorem ix_src {st:Store} {i:Nat} {d s t:Int} (hi:st[i]? = some (srcO d s t)):opIxA (.ref i) (.int 0) st=.ok (.int d,st)∧opIxA (.ref i) (.int 1) st=.ok (.int s,st)∧opIxA (.ref i) (.int 2) st=.ok (.int t,st):=by
  simp [opIxA,isDic,hi,srcO,opIx,ixP,seqP]
theorem set_src {st:Store} {i:Nat} {d s t x:Int} (hi:st[i]? = some (srcO d s t)):setP (.ref i) (.int 0) (.int x) st=.ok (st.set i (srcO x s t))∧setP (.ref i) (.int 2) (.int x) st=.ok (st.set i (srcO d s x)):=by
  simp [setP,hi,srcO,ixP]
/-- a draw below n -/
theorem draw_ok {st:Store} {i:Nat} {d s t n:Int} (hi:st[i]? = some (srcO d s t)) (h:SrcOk d s t) (ht:t < 2 ^ 64) (n0:0 < n) (n1:n < 2 ^ 62) :
    ∃r d' t',0≤r∧r < n∧SrcOk d' s t'∧t'≤t+1∧fnOf 5 mDraw [.ref i,.int n] st=.ok (.int r,st.set i (srcO d' s t')):=by?
  have hlt:i < st.length:=(List.getElem?_eq_some_iff.mp hi).1
  have nl:n.natAbs.log2 < 9000:=by
    have:n.natAbs≠0:=by omega
    have:=(Nat.log2_lt (n:=n.natAbs) (k:=62) this).mpr (by omega)
    omega
  obtain ⟨i0,i1,i2⟩:=ix_src hi
  obtain ⟨w0,w2⟩:=set_src (x:=d / n) hi
  by_cases hd:0 < d
  · refine ⟨d % n,d / n,t,Int.emod_nonneg _ (by omega),Int.emod_lt_of_pos _ n0,⟨Int.ediv_nonneg h.d0 (by omega),h.s0,h.s1,h.t0⟩,by omega,?_⟩
    simp [fnOf,mDraw,start0,sSeq,sIf,tVal,eBinG,eBin,eVar,eC,i0,gc_int,gc_bl,opGt,hd,sAsg,gPut,Tg.put,opMod,n0,sSub,opFdiv,nl,w0,sRet]
  · have h1:=set_src (x:=t+1) hi
    have hi':(st.set i (srcO d s (t+1)))[i]? = some (srcO d s (t+1)):=by rw [List.getElem?_set_self hlt]
    obtain ⟨j0,j1,j2⟩:=ix_src hi'
    have hs:=h.s0
    have hs1:=h.s1
    have ht0:=h.t0
    have bt:Bd 65 (t+1):=.lt (by omega) (by omega)
    have b1:Bd 17 65537:=.lt (by decide) (by decide)
    have b2:Bd 61 s:=.lt hs (by omega)
    have m1:mulOk 65537 (t+1)=true:=mulOk_of b1 bt (by decide)
    have m2:mulOk (65537 * (t+1)) (t+1)=true:=mulOk_of (b1.mul bt) bt (by decide)
    have m3:mulOk (s+65537 * (t+1) * (t+1)+11) 48271=true:=mulOk_of (a:=200) (b:=17) (((b2.mono (b:=198) (by decide)).add (((b1.mul bt).mul bt).mono (by decide))).add (Bd.mono (a:=4) (.lt (by decide) (by decide)) (by decide))) (.lt (by decide) (by decide)) (by decide)
    have m4:mulOk 99991 (t+1)=true:=mulOk_of (a:=17) (.lt (by decide) (by decide)) bt (by decide)
    have q1:=Int.emod_nonneg ((s+65537 * (t+1) * (t+1)+11) * 48271) (show (2305843009213693921:Int)≠0 by decide)
    have q2:=Int.emod_lt_of_pos ((s+65537 * (t+1) * (t+1)+11) * 48271) (show (0:Int) < 2305843009213693921 by decide)
    generalize hmm:(s+65537 * (t+1) * (t+1)+11) * 48271 % 2305843009213693921=mm at q1 q2
    have r1:=Int.emod_nonneg mm (show (1000003:Int)≠0 by decide)
    have r2:=Int.emod_lt_of_pos mm (show (0:Int) < 1000003 by decide)
    have m5:mulOk mm (mm % 1000003+99991 * (t+1))=true:=mulOk_of (a:=62) (b:=100) (.lt q1 (by omega)) (.lt (by omega) (by omega)) (by decide)
    have l1:Nat.log2 97 < 9000:=by decide +kernel
    have l2:Nat.log2 1000033 < 9000:=by decide +kernel
    refine ⟨(mm * (mm % 1000003+99991 * (t+1)) % 2305843009213693907 / 97+mm * (mm % 1000003+99991 * (t+1)) % 2305843009213693907 / 1000033) % n,d,t+1,Int.emod_nonneg _ (by omega),Int.emod_lt_of_pos _ n0,⟨h.d0,h.s0,h.s1,by omega⟩,by omega,?_⟩
    simp [fnOf,mDraw,start0,sSeq,sIf,sNil,tVal,eBinG,eBin,eVar,eC,i0,i2,gc_int,gc_bl,opGt,hd,sAsg,gPut,Tg.put,sSub,opAdd,h1.2,j1,j2,opMulA,m1,m2,m3,hmm,opMod,m4,m5,opFdiv,l1,l2,n0,sRet]
theorem pow_ok {i j:Int} {st:Store} (h:(decide (0≤j∧(Builtin.Int.intBits i:Int) * j≤2 ^ 27))=true):opPow (.int i) (.int j) st=.ok (.int (i ^ j.toNat),st):=by
  unfold opPow
  exact if_pos (of_decide_eq_true h)
/-- the source of draws of a cell -/
theorem source_ok (ns:List Int) (k:Int) (st:Store) (k0:0≤k) (k1:k < 64) (hl:ns.length≤63):∃d s,SrcOk d s 0∧fnOf 4 mSource [.fro (ns.map .int),.int k] st=.ok (.ref st.length,st++[srcO d s 0]):=by?
  obtain ⟨g,hg⟩:∃g:Int,eIf (tVal (eBinG opLt (eVar 1) (eCall fnLen (aCons (eVar 0) (aNil))))) (eBinG opIxA (eVar 0) (eVar 1)) (eC (.int 0)) [some (.fro (ns.map .int)),some (.int k),none,none] st=.ok (.int g,st):=by
    by_cases hk:k < (ns.length:Int)
    · obtain ⟨j,rfl⟩:∃j:Nat,k=j:=⟨k.toNat,by omega⟩
      have hj:j < ns.length:=by omega
      refine ⟨ns[j],?_⟩
      simp [eIf,tVal,eBinG,eBin,eVar,eCall,aCons,aNil,fnLen,opLt,gc_int,gc_bl,hj,opIxA,isDic,opIx,seqP,ixP]
    · refine ⟨0,?_⟩
      simp [eIf,tVal,eBinG,eBin,eVar,eCall,aCons,aNil,fnLen,opLt,gc_int,gc_bl,hk,eC]
  have g1:=Int.emod_nonneg g (show (2305843009213693951:Int)≠0 by decide)
  have g2:=Int.emod_lt_of_pos g (show (0:Int) < 2305843009213693951 by decide)
  have b1:Bd 61 (g % 2305843009213693951):=.lt g1 (by omega)
  have m1:mulOk (g % 2305843009213693951) 1000003=true:=mulOk_of b1 (.lt (a:=20) (by decide) (by decide)) (by decide)
  have bk:Bd 6 k:=.lt k0 (by omega)
  have m2:mulOk 7919 k=true:=mulOk_of (a:=13) (.lt (by decide) (by decide)) bk (by decide)
  have m3:mulOk (7919 * k) k=true:=mulOk_of (Bd.mul (a:=13) (.lt (by decide) (by decide)) bk) bk (by decide)
  have s1:=Int.emod_nonneg (g % 2305843009213693951 * 1000003+7919 * k * k+97) (show (2305843009213693921:Int)≠0 by decide)
  have s2:=Int.emod_lt_of_pos (g % 2305843009213693951 * 1000003+7919 * k * k+97) (show (0:Int) < 2305843009213693921 by decide)
  have p1:opPow (.int 10) (.int 18) st=.ok (.int (10 ^ 18),st):=pow_ok (by decide +kernel)
  have p2:opPow (.int 10) (.int 60) st=.ok (.int (10 ^ 60),st):=pow_ok (by decide +kernel)
  have p3:opPow (.int (10 ^ 60)) (.int 4) st=.ok (.int ((10 ^ 60) ^ 4),st):=pow_ok (by decide +kernel)
  obtain ⟨d,hd0,hd⟩:∃d:Int,0≤d∧eIf (tVal (eBinG opGe (eCall fnAbs (aCons (eVar 2) (aNil))) (eBin opPow (eC (.int 10)) (eC (.int 18))))) (eBin opMod (eCall fnAbs (aCons (eVar 2) (aNil))) (eBin opPow (eBin opPow (eC (.int 10)) (eC (.int 60))) (eC (.int 4)))) (eC (.int 0)) [some (.fro (ns.map .int)),some (.int k),some (.int g),none] st=.ok (.int d,st):=by
    have hp:(0:Int) < (10 ^ 60) ^ 4:=by decide +kernel
    generalize hA:(10 ^ 18:Int)=A at p1
    generalize hB:(10 ^ 60:Int)=B at p2 p3 hp
    by_cases hc:A≤(if g < 0 then -g else g)
    · refine ⟨(if g < 0 then -g else g) % B ^ 4,Int.emod_nonneg _ (by omega),?_⟩
      simp [eIf,tVal,eBinG,eBin,eVar,eCall,aCons,aNil,eC,fnAbs,gc_int,gc_bl,p1,p2,p3,opGe,hc,opMod,hp]
    · refine ⟨0,Int.le_refl _,?_⟩
      simp [eIf,tVal,eBinG,eBin,eVar,eCall,aCons,aNil,eC,fnAbs,gc_int,gc_bl,p1,opGe,hc]
  refine ⟨d,_,⟨hd0,s1,by omega,by decide⟩,?_⟩
  have e:start0 4 [.fro (ns.map .int),.int k]=[some (.fro (ns.map .int)),some (.int k),none,none]:=rfl
  simp only [fnOf,mSource,sSeq,sAsg,e,hg,bind_ok,gPut_eq,Tg.put,List.set,hd]
  simp [sRet,eLst,aCons,aNil,eVar,eBin,eC,opMod,opMulA,m1,opAdd,m2,m3,srcO,LINE]
theorem refsLts_ints (n:Nat):∀ns:List Int,refsLts n (ns.map .int)=true
  | []=>rfl
  | x::r=>by simp [refsLts,refsLt,refsLts_ints n r]
theorem seq_ok {a b:EvS} {σ σ':Slots} {st st':Store} (h:a σ st=.ok (.nx,σ',st')):sSeq a b σ st=b σ' st':=by
  unfold sSeq;rw [h];rfl
theorem seq_rt {a b:EvS} {σ σ':Slots} {st st':Store} {v:PV} (h:a σ st=.ok (.rt v,σ',st')):sSeq a b σ st=.ok (.rt v,σ',st'):=by
  unfold sSeq;rw [h];rfl
theorem small_of {x:Int} (h0:0≤x) (h:x≤1000000):small62 x=true:=
  small62_iff.mpr ⟨Int.le_trans (show (-(2 ^ 62):Int)≤0 by decide) h0,Int.lt_of_le_of_lt h (by decide)⟩
theorem iRng1_of {m:EvE} {σ:Slots} {st st':Store} {x:Int} (h:m σ st=.ok (.int x,st')) (hs:small62 x=true):iRng1 m σ st=.ok ((rngI 0 x.toNat,[]),st'):=by
  unfold iRng1
  rw [h]
  simp only [bind_ok,hs,if_true]
theorem iRng1_ok {m:EvE} {σ:Slots} {st st':Store} {x:Int} {j:Nat} (h:m σ st=.ok (.int x,st')) (hx:x=j) (hj:j≤1000000):iRng1 m σ st=.ok ((rngI 0 j,[]),st'):=by
  rw [iRng1_of h (small_of (by omega) (by omega))]
  rw [show x.toNat=j by omega]
section
variable {σ:Slots} {st st1 st2:Store} {v w:PV} {vs:List PV} {i:Nat}
theorem var_ok (h:σ[i]? = some (some v)):eVar i σ st=.ok (v,st):=by unfold eVar;rw [h]
theorem c_ok:eC v σ st=.ok (v,st):=rfl
theorem asg_ok {a:EvE} (h:a σ st=.ok (v,st1)):sAsg a (.nm i) σ st=.ok (.nx,σ.set i (some v),st1):=by
  unfold sAsg;rw [h];simp [gPut_eq,Tg.put]
theorem asgT2_ok {a:EvE} {j:Nat} (h:a σ st=.ok (.tup [v,w],st1)):sAsg a (.tp [.nm i,.nm j]) σ st=.ok (.nx,(σ.set i (some v)).set j (some w),st1):=by
  unfold sAsg;rw [h];simp only [bind_ok,gPut_eq];rfl
theorem addI_ok {a b:EvE} {x y:Int} (h:a σ st=.ok (.int x,st1)) (h2:b σ st1=.ok (.int y,st2)):eBin opAdd a b σ st=.ok (.int (x+y),st2):=by
  unfold eBin;rw [h];simp only [bind_ok];rw [h2];rfl
theorem subI_ok {a b:EvE} {x y:Int} (h:a σ st=.ok (.int x,st1)) (h2:b σ st1=.ok (.int y,st2)):eBin opSub a b σ st=.ok (.int (x - y),st2):=by
  unfold eBin;rw [h];simp only [bind_ok];rw [h2];rfl
theorem mulI_ok {a b:EvE} {x y:Int} (h:a σ st=.ok (.int x,st1)) (h2:b σ st1=.ok (.int y,st2)) (hm:mulOk x y=true):eBin opMulA a b σ st=.ok (.int (x * y),st2):=by
  unfold eBin;rw [h];simp only [bind_ok];rw [h2];simp only [bind_ok];exact if_pos hm
theorem addL_ok {i j:Nat} {a b:List PV} (h:st[i]? = some (.lst a)) (h2:st[j]? = some (.lst b)) (hl:a.length+b.length≤LINE):opAdd (.ref i) (.ref j) st=.ok (.ref st.length,st++[.lst (a++b)]):=by
  unfold opAdd
  simp only [h,h2]
  rw [if_pos hl]
theorem drop_ok {a:EvE} (h:a σ st=.ok (v,st1)):sDrop a σ st=.ok (.nx,σ,st1):=by unfold sDrop;rw [h];rfl
theorem ret_ok {a:EvE} (h:a σ st=.ok (v,st1)):sRet a σ st=.ok (.rt v,σ,st1):=by unfold sRet;rw [h];rfl
theorem anil_ok:aNil σ st=.ok ([],st):=rfl
theorem acons_ok {a:EvE} {r:EvA} (h:a σ st=.ok (v,st1)) (h2:r σ st1=.ok (vs,st2)):aCons a r σ st=.ok (v::vs,st2):=by rw [aCons_eq,h];simp only [bind_ok];rw [h2];rfl
theorem lst_ok {a:EvA} (h:a σ st=.ok (vs,st1)) (hl:vs.length≤LINE:=by (try simp only [List.length_cons,List.length_nil]);decide):eLst a σ st=.ok (.ref st1.length,st1++[.lst vs]):=by
  unfold eLst;rw [h];simp only [bind_ok];rw [if_pos hl]
theorem tup_ok {a:EvA} (h:a σ st=.ok (vs,st1)) (hl:vs.length≤LINE:=by (try simp only [List.length_cons,List.length_nil]);decide):eTup a σ st=.ok (.tup vs,st1):=by
  unfold eTup;rw [h];simp only [bind_ok];rw [if_pos hl]
theorem bin_ok {f:Op2} {a b:EvE} (h:a σ st=.ok (v,st1)) (h2:b σ st1=.ok (w,st2)):eBin f a b σ st=f v w st2:=by
  unfold eBin;rw [h];simp only [bind_ok];rw [h2];rfl
theorem binG_ok {f:Op2} {a b:EvE} {x:PV×Store} (h:a σ st=.ok (v,st1)) (h2:b σ st1=.ok (w,st2)) (h3:f v w st2=.ok x):eBinG f a b σ st=.ok (gc st x):=by
  unfold eBinG;rw [bin_ok h h2,h3];rfl
theorem un_ok {f:PV→Store→Res (PV×Store)} {a:EvE} (h:a σ st=.ok (v,st1)):eUn f a σ st=f v st1:=by unfold eUn;rw [h];rfl
theorem call_ok {f:Fn} {a:EvA} {x:PV×Store} (h:a σ st=.ok (vs,st1)) (h2:f vs st1=.ok x):eCall f a σ st=.ok (gc st x):=by
  unfold eCall;rw [h];simp only [bind_ok];rw [h2];rfl
theorem ofN_ok {n:Nat} {f:Fn} (h:vs.length=n):ofN n f vs st=f vs st:=if_pos h
theorem meth_ok {k:Store→PV→Bool} {F:PV→Fn} {a:EvE} {as:EvA} {x:PV×Store} (h:a σ st=.ok (v,st1)) (hk:k st1 v=true) (h2:as σ st1=.ok (vs,st2)) (h3:F v vs st2=.ok x):eMeth k F a as σ st=.ok (gc st x):=by
  unfold eMeth;rw [h];simp only [bind_ok,hk,if_true];rw [h2];simp only [bind_ok];rw [h3];rfl
theorem val_ok {a:EvE} {b:Bool} (h:a σ st=.ok (.bl b,st1)):tVal a σ st=.ok (b,st1):=by unfold tVal;rw [h];rfl
theorem if_ok {t:EvT} {a b:EvS} {c:Bool} (h:t σ st=.ok (c,st1)):sIf t a b σ st=if c then a σ st1 else b σ st1:=by unfold sIf;rw [h];rfl
theorem fn_rt {n:Nat} {m:EvS} {σ':Slots} (h:m (start0 n vs) st=.ok (.rt v,σ',st1)):fnOf n m vs st=.ok (v,st1):=by unfold fnOf;rw [h];rfl
end
/-- nothing but values is made -/
theorem lcLoop_ok {g:Tg} {t:EvT} {e:EvE} {σ:Slots} {gs:Gd} {c:PV→Bool} {v:PV→PV} {st:Store} (hg:gdOk gs st=true):∀ (xs acc:List PV),acc.length+xs.length≤LINE →
    (∀x∈xs,∃σx,gPut g x σ=.ok σx∧t σx st=.ok (c x,st)∧(c x=true→e σx st=.ok (v x,st)))→lcLoop g t e σ gs xs acc st=.ok (acc++(xs.filter c).map v,st)
  | [],acc,_,_=>by simp [lcLoop,hg]
  | x :: xs,acc,hl,h=>by
    obtain ⟨σx,h1,h2,h3⟩:=h x List.mem_cons_self
    rw [List.length_cons] at hl
    have hr:=fun z hz=>h z (List.mem_cons_of_mem _ hz)
    simp only [lcLoop,hg,if_true,h1,bind_ok,h2]
    cases hc:c x with
    | false=>
      simp only [Bool.false_eq_true,if_false]
      rw [lcLoop_ok hg xs acc (by omega) hr,List.filter_cons_of_neg (by simp [hc])]
    | true=>
      simp only [if_true,h3 hc,bind_ok,force_eq,show acc.length < LINE by omega]
      rw [lcLoop_ok hg xs (acc++[v x]) (by simp;omega) hr,List.filter_cons_of_pos (by simp [hc])]
      simp
theorem eLc_ok {it:EvI} {g:Tg} {t:EvT} {e:EvE} {vs:List Nat} {σ:Slots} {st st1:Store} {xs:List PV} {gs:Gd} {c:PV→Bool} {v:PV→PV} (hi:it σ st=.ok ((xs,gs),st1)) (hg:gdOk gs st1=true) (hl:xs.length≤LINE)
    (h:∀x∈xs,∃σx,gPut g x (wipeP σ vs)=.ok σx∧t σx st1=.ok (c x,st1)∧(c x=true→e σx st1=.ok (v x,st1))):eLc it g t e vs σ st=.ok (.ref st1.length,st1++[.lst ((xs.filter c).map v)]):=by
  unfold eLc
  rw [hi]
  simp only [bind_ok]
  rw [lcLoop_ok hg xs [] (by simpa using hl) h]
  rfl
theorem iRng2_ok {m m2:EvE} {σ:Slots} {st st1 st2:Store} {x y:Int} {a n:Nat} (h:m σ st=.ok (.int x,st1)) (h2:m2 σ st1=.ok (.int y,st2)) (hx:x=a) (hy:y=(a+n:Nat)) (hn:a+n≤1000000) :
    iRng2 m m2 σ st=.ok (((List.range n).map fun i=>.int ((a+i:Nat):Int),[]),st2):=by?
  have s1:small62 x=true:=small_of (by omega) (by omega)
  have s2:small62 y=true:=small_of (by omega) (by omega)
  have e:(y - x).toNat=n:=by omega
  have z:rngI x n=(List.range n).map fun i=>.int ((a+i:Nat):Int):=by
    unfold rngI
    apply List.map_congr_left
    intro i _
    rw [hx]
    simp
  unfold iRng2
  rw [h];simp only [bind_ok];rw [h2]
  simp only [bind_ok,s1,s2,Bool.and_self,if_true,e,z]
theorem forLoop_foldI {α δ:Type} {g:Tg} {b:EvS} {item:α→PV} {step:δ→α→δ} {Rel:Nat→δ→Slots→Store→Prop}:∀ (l:List α) (n:Nat) (d:δ) (σ:Slots) (st:Store),Rel n d σ st →
    (∀x∈l,∀m d σ st,m < n+l.length→Rel m d σ st→∃σx,gPut g (item x) σ=.ok σx∧∃σ' st',b σx st=.ok (.nx,σ',st')∧Rel (m+1) (step d x) σ' st') →
    ∃σ' st',forLoop g b [] (l.map item) σ st=.ok (.nx,σ',st')∧Rel (n+l.length) (l.foldl step d) σ' st'
  | [],n,d,σ,st,r,_=>⟨σ,st,rfl,r⟩
  | x::l,n,d,σ,st,r,h=>by
    obtain ⟨σx,h1,σ',st',h2,r'⟩:=h x List.mem_cons_self n d σ st (by simp) r
    obtain ⟨σ2,st2,q1,q2⟩:=forLoop_foldI l (n+1) (step d x) σ' st' r' fun y hy m d σ st hm=>h y (List.mem_cons_of_mem _ hy) m d σ st (by simp only [List.length_cons];omega)
    refine ⟨σ2,st2,by simp only [List.map_cons,forLoop,gdOk_nil,if_true,h1,bind_ok,h2,q1],?_⟩
    rw [show n+(x::l).length=n+1+l.length by simp only [List.length_cons];omega]
    exact q2
end Sg
namespace Vg
open PySem Sg
inductive NV where
  | non | bl (b:Bool) | int (i:Int) | str (s:Str) | ty (s:String) | glb (x:Str)
  | tup (xs:List NV) | fro (xs:List NV) | lst (xs:List NV) | dic (kvs:List (NV×NV)) | set (xs:List NV) | dct (kvs:List (NV×NV)) | exn (c:Str) (v:NV) | tab (x:Str) | bex (c:Str) | obj (c:Str) (fs:List (NV×NV)) (b:Bool) (xs:List NV) | dsk (s b:NV)
  deriving Inhabited
mutual
noncomputable
def NV.beq:NV→NV→Bool
  | .non,.non=>true
  | .bl a,.bl b=>a == b
  | .int a,.int b=>a == b
  | .str a,.str b=>a == b
  | .ty a,.ty b=>a == b
  | .glb a,.glb b=>a == b
  | .tup a,.tup b=>NV.beqs a b
  | .fro a,.fro b=>NV.beqs a b
  | .lst a,.lst b=>NV.beqs a b
  | .set a,.set b=>NV.beqs a b
  | .dic a,.dic b=>NV.beqd a b
  | .dct a,.dct b=>NV.beqd a b
  | .exn c a,.exn d b=>c == d && NV.beq a b
  | .tab a,.tab b=>a == b
  | .bex a,.bex b=>a == b
  | .dsk a b,.dsk c d=>NV.beq a c && NV.beq b d
  | .obj c f b x,.obj c' f' b' x'=>c == c' && NV.beqd f f' && b == b' && NV.beqs x x'
  | _,_=>false
noncomputable
def NV.beqs:List NV→List NV→Bool
  | [],[]=>true
  | a::as,b::bs=>NV.beq a b && NV.beqs as bs
  | _,_=>false
noncomputable
def NV.beqd:List (NV×NV)→List (NV×NV)→Bool
  | [],[]=>true
  | a::as,b::bs=>NV.beqp a b && NV.beqd as bs
  | _,_=>false
noncomputable
def NV.beqp:NV×NV→NV×NV→Bool
  | (a,b),(c,d)=>NV.beq a c && NV.beq b d
end
mutual
theorem NV.beq_of:∀ (a b:NV),NV.beq a b=true→a=b
  | .non,b,h=>by cases b <;> simp_all [NV.beq]
  | .bl _,b,h=>by cases b <;> simp_all [NV.beq]
  | .int _,b,h=>by cases b <;> simp_all [NV.beq]
  | .str _,b,h=>by cases b <;> simp_all [NV.beq]
  | .ty _,b,h=>by cases b <;> simp_all [NV.beq]
  | .glb _,b,h=>by cases b <;> simp_all [NV.beq]
  | .tup xs,b,h=>by
    cases b with
    | tup ys=>simp only [NV.beq] at h;rw [NV.beqs_of xs ys h]
    | _=>simp [NV.beq] at h
  | .fro xs,b,h=>by
    cases b with
    | fro ys=>simp only [NV.beq] at h;rw [NV.beqs_of xs ys h]
    | _=>simp [NV.beq] at h
  | .lst xs,b,h=>by
    cases b with
    | lst ys=>simp only [NV.beq] at h;rw [NV.beqs_of xs ys h]
    | _=>simp [NV.beq] at h
  | .set xs,b,h=>by
    cases b with
    | set ys=>simp only [NV.beq] at h;rw [NV.beqs_of xs ys h]
    | _=>simp [NV.beq] at h
  | .dic xs,b,h=>by
    cases b with
    | dic ys=>simp only [NV.beq] at h;rw [NV.beqd_of xs ys h]
    | _=>simp [NV.beq] at h
  | .dct xs,b,h=>by
    cases b with
    | dct ys=>simp only [NV.beq] at h;rw [NV.beqd_of xs ys h]
    | _=>simp [NV.beq] at h
  | .tab _,b,h=>by cases b <;> simp_all [NV.beq]
  | .bex _,b,h=>by cases b <;> simp_all [NV.beq]
  | .dsk s u,b,h=>by
    cases b with
    | dsk s' u'=>
      simp only [NV.beq,Bool.and_eq_true] at h
      rw [NV.beq_of s s' h.1,NV.beq_of u u' h.2]
    | _=>simp [NV.beq] at h
  | .obj c f b x,y,h=>by
    cases y with
    | obj c' f' b' x'=>
      simp only [NV.beq,Bool.and_eq_true,beq_iff_eq] at h
      rw [h.1.1.1,NV.beqd_of f f' h.1.1.2,h.1.2,NV.beqs_of x x' h.2]
    | _=>simp [NV.beq] at h
  | .exn c x,b,h=>by
    cases b with
    | exn d y=>simp only [NV.beq,Bool.and_eq_true,beq_iff_eq] at h;rw [NV.beq_of x y h.2,h.1]
    | _=>simp [NV.beq] at h
theorem NV.beqs_of:∀ (a b:List NV),NV.beqs a b=true→a=b
  | [],b,h=>by cases b <;> simp_all [NV.beqs]
  | x :: xs,b,h=>by
    cases b with
    | nil=>simp [NV.beqs] at h
    | cons y ys=>
      simp only [NV.beqs,Bool.and_eq_true] at h
      rw [NV.beq_of x y h.1,NV.beqs_of xs ys h.2]
theorem NV.beqd_of:∀ (a b:List (NV×NV)),NV.beqd a b=true→a=b
  | [],b,h=>by cases b <;> simp_all [NV.beqd]
  | x :: xs,b,h=>by
    cases b with
    | nil=>simp [NV.beqd] at h
    | cons y ys=>
      simp only [NV.beqd,Bool.and_eq_true] at h
      rw [NV.beqp_of x y h.1,NV.beqd_of xs ys h.2]
theorem NV.beqp_of:∀ (a b:NV×NV),NV.beqp a b=true→a=b
  | (a,b),(c,d),h=>by
    simp only [NV.beqp,Bool.and_eq_true] at h
    rw [NV.beq_of a c h.1,NV.beq_of b d h.2]
end
mutual
theorem NV.beq_self:∀ (a:NV),NV.beq a a=true
  | .non | .bl _ | .int _ | .str _ | .ty _ | .glb _=>by simp [NV.beq]
  | .tup xs=>by simp only [NV.beq];exact NV.beqs_self xs
  | .fro xs=>by simp only [NV.beq];exact NV.beqs_self xs
  | .lst xs=>by simp only [NV.beq];exact NV.beqs_self xs
  | .set xs=>by simp only [NV.beq];exact NV.beqs_self xs
  | .dic xs=>by simp only [NV.beq];exact NV.beqd_self xs
  | .dct xs=>by simp only [NV.beq];exact NV.beqd_self xs
  | .tab _=>by simp [NV.beq]
  | .bex _=>by simp [NV.beq]
  | .dsk s u=>by simp only [NV.beq,Bool.and_eq_true];exact ⟨NV.beq_self s,NV.beq_self u⟩
  | .obj c f b x=>by simp only [NV.beq,Bool.and_eq_true,beq_iff_eq];exact ⟨⟨⟨trivial,NV.beqd_self f⟩,trivial⟩,NV.beqs_self x⟩
  | .exn c x=>by simp only [NV.beq,Bool.and_eq_true];exact ⟨beq_self_eq_true c,NV.beq_self x⟩
theorem NV.beqs_self:∀ (a:List NV),NV.beqs a a=true
  | []=>by simp [NV.beqs]
  | x::xs=>by simp only [NV.beqs,Bool.and_eq_true];exact ⟨NV.beq_self x,NV.beqs_self xs⟩
theorem NV.beqd_self:∀ (a:List (NV×NV)),NV.beqd a a=true
  | []=>by simp [NV.beqd]
  | x::xs=>by simp only [NV.beqd,Bool.and_eq_true];exact ⟨NV.beqp_self x,NV.beqd_self xs⟩
theorem NV.beqp_self:∀ (a:NV×NV),NV.beqp a a=true
  | (a,b)=>by simp only [NV.beqp,Bool.and_eq_true];exact ⟨NV.beq_self a,NV.beq_self b⟩
end
noncomputable
instance:DecidableEq NV:=fun a b=>if h:NV.beq a b=true then isTrue (NV.beq_of a b h) else isFalse fun e=>h (e ▸ NV.beq_self a)
/-- an outcome: a value,an exception with what is left,or no statement -/
inductive R (ε α:Type) where
  | ok (a:α) | ex (e:ε) | no
noncomputable
def R.bind {ε α β:Type} (r:R ε α) (f:α→R ε β):R ε β:=match r with
  | .ok a=>f a
  | .ex e=>.ex e
  | .no=>.no
noncomputable
instance {ε:Type}:Monad (R ε):={ pure:=.ok,bind:=R.bind }
section
variable {ε α β γ:Type}
@[simp] theorem R.ok_bind (a:α) (f:α→R ε β):(R.ok a >>= f)=f a:=rfl
@[simp] theorem R.no_bind (f:α→R ε β):((R.no:R ε α) >>= f)=.no:=rfl
@[simp] theorem R.ex_bind (e:ε) (f:α→R ε β):((R.ex e:R ε α) >>= f)=.ex e:=rfl
@[simp] theorem R.pure_eq (a:α):(pure a:R ε α)=.ok a:=rfl
theorem R.bind_ok {r:R ε α} {f:α→R ε β} {b:β}:(r >>= f)=.ok b↔∃a,r=.ok a∧f a=.ok b:=by
  cases r with
  | ok a=>exact ⟨fun h=>⟨a,rfl,h⟩,fun ⟨_,h,g⟩=>by cases h;exact g⟩
  | ex e=>exact ⟨(fun h=>nomatch h),(fun ⟨_,h,_⟩=>nomatch h)⟩
  | no=>exact ⟨(fun h=>nomatch h),(fun ⟨_,h,_⟩=>nomatch h)⟩
/-- a value or no statement -/
noncomputable
def ofO (o:Option α):R ε α:=match o with
  | some a=>.ok a
  | none=>.no
@[simp] theorem ofO_some (a:α):(ofO (some a):R ε α)=.ok a:=rfl
@[simp] theorem ofO_none:(ofO (none:Option α):R ε α)=.no:=rfl
theorem ofO_ok {o:Option α} {a:α}:(ofO o:R ε α)=.ok a↔o=some a:=by cases o <;> simp [ofO]
noncomputable
def grd (c:Prop) [Decidable c] (r:R ε α):R ε α:=if c then r else .no
theorem grd_ok {c:Prop} [Decidable c] {r:R ε α} {a:α}:grd c r=.ok a↔c∧r=.ok a:=by
  unfold grd;split <;> simp_all
@[simp] theorem grd_of {c:Prop} [Decidable c] {r:R ε α} (h:c):grd c r=r:=if_pos h
end
/-- a slot: nothing,a value,a list of its own,a list of the caller's -/
inductive Sl where
  | un | sh (v:NV) | ow (v:NV) | bo (v:NV)
  deriving Inhabited
noncomputable
def Sl.val:Sl→Option NV
  | .un=>none
  | .sh v=>some v
  | .ow v=>some v
  | .bo v=>some v
/-- a list that may change -/
noncomputable
def Sl.mut:Sl→Option NV
  | .ow v=>some v
  | .bo v=>some v
  | _=>none
/-- the same kind,another content -/
noncomputable
def Sl.put (v:NV):Sl→Sl
  | .ow _=>.ow v
  | .bo _=>.bo v
  | s=>s
noncomputable
abbrev Env:=List Sl
/-- the value of an expression: a value,a new list,the list of a slot -/
inductive EV where
  | im (v:NV) | fr (v:NV) | sl (k:Nat)
  deriving Inhabited
noncomputable
def EV.get (env:Env):EV→Option NV
  | .im v=>some v
  | .fr v=>some v
  | .sl k=>env[k]?.bind Sl.val
noncomputable
abbrev EE:=Str×NV×Env
noncomputable
abbrev VE:=Env→R EE (EV×Env)
noncomputable
abbrev VA:=Env→R EE (List EV×Env)
noncomputable
abbrev VT:=Env→R EE (Bool×Env)
inductive VFl where
  | nx | bk | ct | rt (v:EV)
noncomputable
abbrev VS:=Env→R EE (VFl×Env)
/-- the items -/
noncomputable
abbrev VI:=Env→R EE (List NV×Env)
/-- a value that nobody changes any more -/
noncomputable
def frz (e:EV) (env:Env):Option (NV×Env):=match e with
  | .im v=>some (v,env)
  | .fr v=>some (v,env)
  | .sl k=>match env[k]? with
    | some (.ow v)=>some (v,env.set k (.sh v))
    | some (.sh v)=>some (v,env)
    | _=>none
noncomputable
def frzs:List EV→Env→Option (List NV×Env)
  | [],env=>some ([],env)
  | e::r,env=>(frz e env).bind fun x=>(frzs r x.2).map fun y=>(x.1::y.1,y.2)
noncomputable
def gets (env:Env):List EV→Option (List NV)
  | []=>some []
  | e::r=>(e.get env).bind fun v=>(gets env r).map (v :: ·)
noncomputable
def vVar (k:Nat):VE:=fun env=>match env[k]? with
  | some (.sh v)=>.ok (.im v,env)
  | some (.ow _)=>.ok (.sl k,env)
  | some (.bo _)=>.ok (.sl k,env)
  | _=>.no
noncomputable
def vC (v:NV):VE:=fun env=>.ok (.im v,env)
/-- operations on values -/
noncomputable
abbrev VO2:=NV→NV→Option EV
noncomputable
def vBin (f:VO2) (a b:VE):VE:=fun env=>a env >>= fun x=>b x.2 >>= fun y=>ofO ((x.1.get y.2).bind fun u=>(y.1.get y.2).bind fun w=>f u w) >>= fun z=>.ok (z,y.2)
noncomputable
def vUn (f:NV→Option EV) (a:VE):VE:=fun env=>a env >>= fun x=>ofO ((x.1.get x.2).bind f) >>= fun z=>.ok (z,x.2)
noncomputable
def vNil:VA:=fun env=>.ok ([],env)
noncomputable
def vCons (a:VE) (r:VA):VA:=fun env=>a env >>= fun x=>r x.2 >>= fun y=>.ok (x.1::y.1,y.2)
noncomputable
def vTup (a:VA):VE:=fun env=>a env >>= fun x=>grd (x.1.length≤LINE) (ofO (frzs x.1 x.2) >>= fun y=>.ok (.im (.tup y.1),y.2))
noncomputable
def vLst (a:VA):VE:=fun env=>a env >>= fun x=>grd (x.1.length≤LINE) (ofO (frzs x.1 x.2) >>= fun y=>.ok (.fr (.lst y.1),y.2))
noncomputable
def vIf (t:VT) (a b:VE):VE:=fun env=>t env >>= fun c=>if c.1 then a c.2 else b c.2
noncomputable
def isBl:NV→Option Bool
  | .bl b=>some b
  | _=>none
noncomputable
def vVal (a:VE):VT:=fun env=>a env >>= fun x=>ofO ((x.1.get x.2).bind isBl) >>= fun b=>.ok (b,x.2)
noncomputable
def vNotT (a:VT):VT:=fun env=>a env >>= fun c=>.ok (!c.1,c.2)
noncomputable
def vAndT (a b:VT):VT:=fun env=>a env >>= fun c=>if c.1 then b c.2 else .ok (false,c.2)
noncomputable
def vOrT (a b:VT):VT:=fun env=>a env >>= fun c=>if c.1 then .ok (true,c.2) else b c.2
noncomputable
def vAnd (a b:VE):VE:=fun env=>a env >>= fun x=>ofO ((x.1.get x.2).bind isBl) >>= fun c=>if c then b x.2 else .ok (.im (.bl false),x.2)
noncomputable
def vOr (a b:VE):VE:=fun env=>a env >>= fun x=>ofO ((x.1.get x.2).bind isBl) >>= fun c=>if c then .ok (.im (.bl true),x.2) else b x.2
noncomputable
def vNot (a:VE):VE:=fun env=>a env >>= fun x=>ofO ((x.1.get x.2).bind isBl) >>= fun c=>.ok (.im (.bl (!c)),x.2)
noncomputable
def vChain (f g:VO2) (a b c:VE):VE:=fun env=>a env >>= fun x=>b x.2 >>= fun y=>ofO ((x.1.get y.2).bind fun u=>(y.1.get y.2).bind fun w=>f u w) >>= fun z=>
  ofO ((z.get y.2).bind isBl) >>= fun k=>if k then c y.2 >>= fun q=>ofO ((y.1.get q.2).bind fun u=>(q.1.get q.2).bind fun w=>g u w) >>= fun z2=>.ok (z2,q.2) else .ok (z,y.2)
/-- a built-in function of the values -/
noncomputable
def vCallB (f:List NV→Option EV) (a:VA):VE:=fun env=>a env >>= fun x=>ofO ((gets x.2 x.1).bind f) >>= fun z=>.ok (z,x.2)
noncomputable
def vCallBK (f:List NV→List NV→Option EV) (a b:VA):VE:=fun env=>a env >>= fun x=>b x.2 >>= fun y=>ofO ((gets y.2 x.1).bind fun us=>(gets y.2 y.1).bind fun ws=>f us ws) >>= fun z=>.ok (z,y.2)
/-- a method that changes nothing -/
noncomputable
def vMethB (K:NV→Bool) (f:NV→List NV→Option EV) (o:VE) (a:VA):VE:=fun env=>o env >>= fun x=>ofO (x.1.get x.2) >>= fun u0=>grd (K u0=true) (a x.2 >>= fun y=>
  ofO ((x.1.get y.2).bind fun u=>(gets y.2 y.1).bind fun ws=>f u ws) >>= fun z=>.ok (z,y.2))
/-- a method that changes a slot's list: the answer,the new content -/
noncomputable
def vMethM (K:NV→Bool) (f:NV→List NV→Option (NV×NV)) (o:VE) (a:VA):VE:=fun env=>o env >>= fun x=>ofO (x.1.get x.2) >>= fun u0=>grd (K u0=true) (a x.2 >>= fun y=>match x.1 with
  | .sl k=>ofO (frzs y.1 y.2) >>= fun w=>match w.2[k]? with
    | some (.ow u)=>ofO (f u w.1) >>= fun z=>.ok (.im z.1,w.2.set k (.ow z.2))
    | some (.bo u)=>ofO (f u w.1) >>= fun z=>.ok (.im z.1,w.2.set k (.bo z.2))
    | _=>.no
  | _=>.no)
noncomputable
abbrev EF:=Str×NV×List NV
noncomputable
abbrev VF:=List NV→R EF (EV×List NV)
mutual
noncomputable
def noref:NV→Bool
  | .tup xs=>norefs xs
  | .fro xs=>norefs xs
  | .lst _=>false
  | .dic _=>false
  | .set _=>false
  | .dct _=>false
  | .exn _ _=>false
  | .tab _=>false
  | .bex _=>false
  | .obj _ _ _ _=>false
  | .dsk _ _=>false
  | _=>true
noncomputable
def norefs:List NV→Bool
  | []=>true
  | x::r=>noref x && norefs r
end
/-- nothing in it that may change -/
noncomputable
def norefO:NV→Bool
  | .lst xs=>norefs xs
  | .set xs=>norefs xs
  | .dic kvs=>kvs.all fun q=>noref q.1 && noref q.2
  | .dct kvs=>kvs.all fun q=>noref q.1 && noref q.2
  | .obj _ fs _ xs=>(fs.all fun q=>noref q.1 && noref q.2) && norefs xs
  | .dsk s (.obj _ fs _ xs)=>noref s && ((fs.all fun q=>noref q.1 && noref q.2) && norefs xs)
  | _=>false
noncomputable
def lendOk (ev:EV) (os:List NV):Bool:=(match ev with
  | .im v=>noref v
  | .fr v=>norefO v
  | .sl _=>false) && os.all norefO
/-- the new contents of the lists that were given to be changed (at the places mp) -/
noncomputable
def wback (mp:List Nat) (os:List NV) (es:List EV) (env:Env):Option Env:=match mp,os with
  | [],[]=>some env
  | j :: mp,o::os=>match es[j]? with
    | some (.sl k)=>match env[k]? with
      | some (.ow _)=>wback mp os es (env.set k (.ow o))
      | some (.bo _)=>wback mp os es (env.set k (.bo o))
      | _=>none
    | some (.fr _)=>wback mp os es env
    | _=>none
  | _,_=>none
/-- no list is given twice,if it is given to be changed -/
noncomputable
def noAlias (mp:List Nat) (es:List EV):Bool:=mp.all fun j=>match es[j]? with
  | some (.sl k)=>(List.range es.length).all fun i=>i == j || (match es[i]? with
    | some (.sl l)=>l != k
    | _=>true)
  | _=>true
/-- the slots whose lists are lent -/
noncomputable
def lent (mp:List Nat):Nat→List EV→List Nat
  | _,[]=>[]
  | j,.sl k::r=>if mp.contains j then lent mp (j+1) r else k::lent mp (j+1) r
  | j,_::r=>lent mp (j+1) r
noncomputable
def frzK:List Nat→Env→Option Env
  | [],env=>some env
  | k::r,env=>match env[k]? with
    | some (.ow v)=>frzK r (env.set k (.sh v))
    | some (.sh _)=>frzK r env
    | _=>none
noncomputable
def lend (ks:List Nat) (c:Bool) (env:Env):Option Env:=if c then some env else frzK ks env
noncomputable
def vCall (f:VF) (n:Nat) (mp:List Nat) (a:VA):VE:=fun env=>a env >>= fun x=>grd (x.1.length=n∧noAlias mp x.1=true) (ofO (gets x.2 x.1) >>= fun vs=>match f vs with
  | .ok r=>ofO ((wback mp r.2 x.1 x.2).bind fun e=>lend (lent mp 0 x.1) (lendOk r.1 r.2) e) >>= fun e=>.ok (r.1,e)
  | .ex e=>ofO (wback mp e.2.2 x.1 x.2) >>= fun e2=>.ex (e.1,e.2.1,e2)
  | .no=>.no)
noncomputable
def vst (mp:List Nat):Nat→List NV→Env
  | _,[]=>[]
  | j,v::r=>(if mp.contains j then .bo v else .sh v)::vst mp (j+1) r
noncomputable
def outs (env:Env):List Nat→Option (List NV)
  | []=>some []
  | j::r=>match env[j]? with
    | some (.bo v)=>(outs env r).map (v :: ·)
    | _=>none
noncomputable
def vret (env:Env):EV→Option EV
  | .im v=>some (.im v)
  | .fr v=>some (.fr v)
  | .sl k=>match env[k]? with
    | some (.ow v)=>some (.fr v)
    | some (.sh v)=>some (.im v)
    | _=>none
noncomputable
def vFn (N:Nat) (mp:List Nat) (m:VS):VF:=fun vs=>grd ((mp.all fun j=>decide (j < vs.length))=true) <| match m (vst mp 0 vs++List.replicate (N - vs.length) .un) with
  | .ok r=>match r.1 with
    | .nx=>ofO (outs r.2 mp) >>= fun os=>.ok (.im .non,os)
    | .rt e=>ofO (vret r.2 e) >>= fun v=>ofO (outs r.2 mp) >>= fun os=>.ok (v,os)
    | _=>.no
  | .ex e=>ofO (outs e.2.2 mp) >>= fun os=>.ex (e.1,e.2.1,os)
  | .no=>.no
noncomputable
def vSeq (a b:VS):VS:=fun env=>a env >>= fun r=>match r.1 with
  | .nx=>b r.2
  | f=>.ok (f,r.2)
noncomputable
def vPass:VS:=fun env=>.ok (.nx,env)
noncomputable
def vDrop (a:VE):VS:=fun env=>a env >>= fun x=>.ok (.nx,x.2)
noncomputable
def vRet (a:VE):VS:=fun env=>a env >>= fun x=>.ok (.rt x.1,x.2)
noncomputable
def vRetN:VS:=fun env=>.ok (.rt (.im .non),env)
noncomputable
def vIfS (t:VT) (a b:VS):VS:=fun env=>t env >>= fun c=>if c.1 then a c.2 else b c.2
noncomputable
def vBreak:VS:=fun env=>.ok (.bk,env)
noncomputable
def vNever:VS:=fun _=>.no
mutual
noncomputable
def vPut:Tg→NV→Env→Option Env
  | .nm i,v,env=>match env[i]? with
    | some (.bo _)=>none
    | _=>some (env.set i (.sh v))
  | .tp ts,.tup xs,env=>vPuts ts xs env
  | .tp _,_,_=>none
noncomputable
def vPuts:List Tg→List NV→Env→Option Env
  | [],[],env=>some env
  | t::ts,x::xs,env=>(vPut t x env).bind (vPuts ts xs)
  | _,_,_=>none
end
/-- what a slot is set to -/
noncomputable
def vKeep (e:EV) (env:Env):Option (Sl×Env):=match e with
  | .fr v=>some (.ow v,env)
  | e=>(frz e env).map fun x=>(.sh x.1,x.2)
noncomputable
def vSet (i:Nat) (s:Sl) (env:Env):Option Env:=match env[i]? with
  | some (.bo _)=>none
  | _=>some (env.set i s)
noncomputable
def vAsg (a:VE) (g:Tg):VS:=fun env=>a env >>= fun x=>match g with
  | .nm i=>ofO ((vKeep x.1 x.2).bind fun y=>vSet i y.1 y.2) >>= fun r=>.ok (.nx,r)
  | g=>ofO ((frz x.1 x.2).bind fun y=>vPut g y.1 y.2) >>= fun r=>.ok (.nx,r)
noncomputable
def vKeeps:List EV→Env→Option (List Sl×Env)
  | [],env=>some ([],env)
  | e::r,env=>(vKeep e env).bind fun x=>(vKeeps r x.2).map fun y=>(x.1::y.1,y.2)
noncomputable
def vSets:List Nat→List Sl→Env→Option Env
  | [],[],env=>some env
  | i::is,s::ss,env=>(vSet i s env).bind (vSets is ss)
  | _,_,_=>none
/-- a,b=x,y -/
noncomputable
def vPar (is:List Nat) (a:VA):VS:=fun env=>a env >>= fun x=>ofO ((vKeeps x.1 x.2).bind fun y=>vSets is y.1 y.2) >>= fun r=>.ok (.nx,r)
noncomputable
def vAug (i:Nat) (f:VO2) (a:VE):VS:=fun env=>match env[i]? with
  | some (.sh x)=>a env >>= fun y=>ofO ((y.1.get y.2).bind fun w=>f x w) >>= fun z=>match z with
    | .im v=>ofO (vSet i (.sh v) y.2) >>= fun r=>.ok (.nx,r)
    | _=>.no
  | _=>.no
noncomputable
def vForL (g:Tg) (b:VS):List NV→Env→R EE (VFl×Env)
  | [],env=>.ok (.nx,env)
  | x :: xs,env=>ofO (vPut g x env) >>= fun e=>b e >>= fun q=>match q.1 with
      | .nx=>vForL g b xs q.2
      | .ct=>vForL g b xs q.2
      | .bk=>.ok (.nx,q.2)
      | .rt v=>.ok (.rt v,q.2)
noncomputable
def vFor (it:VI) (g:Tg) (b:VS):VS:=fun env=>it env >>= fun r=>vForL g b r.1 r.2
/-- o[i]=e -/
noncomputable
def vSub (f:NV→NV→NV→Option NV) (o i e:VE):VS:=fun env=>e env >>= fun x=>o x.2 >>= fun y=>i y.2 >>= fun z=>match y.1 with
  | .sl k=>ofO (frz x.1 z.2) >>= fun w=>match w.2[k]? with
    | some (.ow u)=>ofO ((z.1.get w.2).bind fun j=>f u j w.1) >>= fun n=>.ok (.nx,w.2.set k (.ow n))
    | some (.bo u)=>ofO ((z.1.get w.2).bind fun j=>f u j w.1) >>= fun n=>.ok (.nx,w.2.set k (.bo n))
    | _=>.no
  | _=>.no
noncomputable
def vWipe (env:Env):List Nat→Env
  | []=>env
  | v::vs=>(vWipe env vs).set v .un
noncomputable
def vYes:VT:=fun env=>.ok (true,env)
/-- the slots in vs as they are in env -/
noncomputable
def vBack (env:Env):List Nat→Env→Env
  | [],e=>e
  | v::vs,e=>(vBack env vs e).set v (env.getD v .un)
noncomputable
def vLcL (g:Tg) (t:VT) (e:VE) (vs:List Nat):List NV→List NV→Env→R EE (List NV×Env)
  | [],acc,env=>.ok (acc,env)
  | x :: xs,acc,env=>ofO (vPut g x env) >>= fun r=>t r >>= fun c=>
      if c.1 then e c.2 >>= fun y=>ofO (frz y.1 y.2) >>= fun z=>grd (acc.length < LINE) (vLcL g t e vs xs (acc++[z.1]) (vWipe z.2 vs))
      else vLcL g t e vs xs acc (vWipe c.2 vs)
noncomputable
def vLc (it:VI) (g:Tg) (t:VT) (e:VE) (vs:List Nat):VE:=fun env=>it env >>= fun r=>
  vLcL g t e vs r.1 [] (vWipe r.2 vs) >>= fun q=>.ok (.fr (.lst q.1),vBack r.2 vs q.2)
noncomputable
def vchars (s:Str):List NV:=s.cps.toList.map fun c=>.str ⟨#[c]⟩
noncomputable
def vitems:NV→Option (List NV)
  | .tup xs=>some xs
  | .fro xs=>some xs
  | .lst xs=>some xs
  | .str s=>some (vchars s)
  | _=>none
/-- .. without texts -/
noncomputable
def vseq:NV→Option (List NV)
  | .tup xs=>some xs
  | .fro xs=>some xs
  | .lst xs=>some xs
  | _=>none
noncomputable
def viSeq (a:VE):VI:=fun env=>a env >>= fun x=>ofO (frz x.1 x.2) >>= fun y=>ofO (vitems y.1) >>= fun r=>.ok (r,y.2)
noncomputable
def venum:Nat→List NV→List NV
  | _,[]=>[]
  | i,x::r=>.tup [.int i,x]::venum (i+1) r
noncomputable
def viEnum (a:VE):VI:=fun env=>a env >>= fun x=>ofO (frz x.1 x.2) >>= fun y=>ofO (vseq y.1) >>= fun r=>.ok (venum 0 r,y.2)
noncomputable
def vzip:List NV→List NV→List NV
  | x::xs,y::ys=>.tup [x,y]::vzip xs ys
  | _,_=>[]
noncomputable
def vrng (lo:Int) (n:Nat):List NV:=(List.range n).map fun i=>.int (lo+(i:Nat))
noncomputable
def isInt:NV→Option Int
  | .int i=>some i
  | _=>none
noncomputable
def viRng1 (a:VE):VI:=fun env=>a env >>= fun x=>ofO ((x.1.get x.2).bind isInt) >>= fun j=>grd (small62 j=true) (.ok (vrng 0 j.toNat,x.2))
noncomputable
def viRng2 (a b:VE):VI:=fun env=>a env >>= fun x=>ofO ((x.1.get x.2).bind isInt) >>= fun i=>b x.2 >>= fun y=>ofO ((y.1.get y.2).bind isInt) >>= fun j=>
  grd (small62 i=true∧small62 j=true) (.ok (vrng i (j - i).toNat,y.2))
noncomputable
def vkeyOk:NV→Bool
  | .int _=>true
  | .str _=>true
  | _=>false
noncomputable
def vdPut (kvs:List (NV×NV)) (k v:NV):List (NV×NV):=
  if (kvs.any fun q=>decide (q.1=k))=true then kvs.map (fun q=>if q.1=k then (q.1,v) else q) else kvs++[(k,v)]
noncomputable
def vDcL (g:Tg) (t:VT) (ek ev:VE) (vs:List Nat):List NV→List (NV×NV)→Env→R EE (List (NV×NV)×Env)
  | [],acc,env=>.ok (acc,env)
  | x :: xs,acc,env=>ofO (vPut g x env) >>= fun r=>t r >>= fun c=>
      if c.1 then ek c.2 >>= fun y=>ofO (frz y.1 y.2) >>= fun y=>ev y.2 >>= fun z=>ofO (frz z.1 z.2) >>= fun z=>grd (vkeyOk y.1=true∧acc.length < LINE) (vDcL g t ek ev vs xs (vdPut acc y.1 z.1) (vWipe z.2 vs))
      else vDcL g t ek ev vs xs acc (vWipe c.2 vs)
noncomputable
def vDc (it:VI) (g:Tg) (t:VT) (ek ev:VE) (vs:List Nat):VE:=fun env=>it env >>= fun r=>
  vDcL g t ek ev vs r.1 [] (vWipe r.2 vs) >>= fun q=>.ok (.fr (.dic q.1),vBack r.2 vs q.2)
noncomputable
def vDic0:VE:=fun env=>.ok (.fr (.dic []),env)
/-- what stands in the store speaks of places below n -/
noncomputable
def vLt (n:Nat):PO→Bool
  | .lst xs=>refsLts n xs
  | .dic kvs=>refsLts n (kvs.map (·.1)) && refsLts n (kvs.map (·.2))
  | .set xs=>refsLts n xs
  | .dead=>true
  | .dct kvs=>refsLts n (kvs.map (·.1)) && refsLts n (kvs.map (·.2))
  | .fdc kvs=>refsLts n (kvs.map (·.1)) && refsLts n (kvs.map (·.2))
  | .exn _ v=>refsLt n v
  | .tab _=>true
  | .bex _=>true
  | .obj _ fs _ _ xs=>refsLts n (fs.map (·.1)) && refsLts n (fs.map (·.2)) && refsLts n xs
  | .hid=>true
  | .dsk s fs _ _ xs=>refsLt n s && (refsLts n (fs.map (·.1)) && refsLts n (fs.map (·.2)) && refsLts n xs)
theorem vLt_of {n:Nat} {o:PO} (h:objLt n o=true):vLt n o=true:=by
  cases o with
  | obj c fs b j xs=>
    simp only [objLt,Bool.and_eq_true] at h
    simp only [vLt,Bool.and_eq_true]
    exact ⟨h.1.1,h.2⟩
  | dsk s fs j l xs=>
    simp only [objLt,Bool.and_eq_true] at h
    simp only [vLt,Bool.and_eq_true]
    exact ⟨h.1,h.2.1.1.1,h.2.2⟩
  | _=>exact h
/-- the objects that nobody changes any more -/
noncomputable
abbrev FF:=Nat→Option PO
mutual
inductive VRep (F:FF):NV→PV→Prop
  | non:VRep F .non .non
  | bl (b:Bool):VRep F (.bl b) (.bl b)
  | int (i:Int):VRep F (.int i) (.int i)
  | str (s:Str):VRep F (.str s) (.str s)
  | ty (s:String):VRep F (.ty s) (.ty s)
  | glb (s:Str):VRep F (.glb s) (.glb s)
  | tup {xs:List NV} {ps:List PV}:VReps F xs ps→VRep F (.tup xs) (.tup ps)
  | fro {xs:List NV} {ps:List PV}:VReps F xs ps→VRep F (.fro xs) (.fro ps)
  | lst {i:Nat} {xs:List NV} {ps:List PV}:F i=some (.lst ps)→VReps F xs ps→VRep F (.lst xs) (.ref i)
  | dic {i:Nat} {xs:List (NV×NV)} {ps:List (PV×PV)}:F i=some (.dic ps)→VRepd F xs ps→VRep F (.dic xs) (.ref i)
  | set {i:Nat} {xs:List NV} {ps:List PV}:F i=some (.set ps)→VReps F xs ps→VRep F (.set xs) (.ref i)
  | dct {i:Nat} {xs:List (NV×NV)} {ps:List (PV×PV)}:F i=some (.dct ps)→VRepd F xs ps→VRep F (.dct xs) (.ref i)
  | fdc {i:Nat} {xs:List (NV×NV)} {ps:List (PV×PV)}:F i=some (.fdc ps)→VRepd F xs ps→VRep F (.dct xs) (.ref i)
  | exn {i:Nat} {c:Str} {v:NV} {p:PV}:F i=some (.exn c p)→VRep F v p→VRep F (.exn c v) (.ref i)
  | tab {i:Nat} {x:Str}:F i=some (.tab x)→VRep F (.tab x) (.ref i)
  | bex {i:Nat} {c:Str}:F i=some (.bex c)→VRep F (.bex c) (.ref i)
  | ob {i:Nat} {c:Str} {fs:List (NV×NV)} {ps:List (PV×PV)} {b:Bool} {j:Nat} {xs:List NV} {qs:List PV}:F i=some (.obj c ps b j qs)→VRepd F fs ps→VReps F xs qs→VRep F (.obj c fs b xs) (.ref i)
  | dsk {i:Nat} {s:NV} {p:PV} {fs:List (NV×NV)} {ps:List (PV×PV)} {j l:Nat} {xs:List NV} {qs:List PV}:F i=some (.dsk p ps j l qs)→VRep F s p→VRepd F fs ps→VReps F xs qs→VRep F (.dsk s (.obj benchC fs true xs)) (.ref i)
inductive VReps (F:FF):List NV→List PV→Prop
  | nil:VReps F [] []
  | cons {v:NV} {p:PV} {xs:List NV} {ps:List PV}:VRep F v p→VReps F xs ps→VReps F (v::xs) (p::ps)
inductive VRepd (F:FF):List (NV×NV)→List (PV×PV)→Prop
  | nil:VRepd F [] []
  | cons {k v:NV} {p q:PV} {xs:List (NV×NV)} {ps:List (PV×PV)}:VRep F k p→VRep F v q→VRepd F xs ps→VRepd F ((k,v)::xs) ((p,q)::ps)
end
inductive ORep (F:FF):NV→PO→Prop
  | lst {xs:List NV} {ps:List PV}:VReps F xs ps→ORep F (.lst xs) (.lst ps)
  | dic {xs:List (NV×NV)} {ps:List (PV×PV)}:VRepd F xs ps→ORep F (.dic xs) (.dic ps)
  | set {xs:List NV} {ps:List PV}:VReps F xs ps→ORep F (.set xs) (.set ps)
  | dct {xs:List (NV×NV)} {ps:List (PV×PV)}:VRepd F xs ps→ORep F (.dct xs) (.dct ps)
  | obj {c:Str} {fs:List (NV×NV)} {ps:List (PV×PV)} {b:Bool} {j:Nat} {xs:List NV} {qs:List PV}:VRepd F fs ps→VReps F xs qs→ORep F (.obj c fs b xs) (.obj c ps b j qs)
  | dsk {s:NV} {p:PV} {fs:List (NV×NV)} {ps:List (PV×PV)} {j l:Nat} {xs:List NV} {qs:List PV}:VRep F s p→VRepd F fs ps→VReps F xs qs→ORep F (.dsk s (.obj benchC fs true xs)) (.dsk p ps j l qs)
section
variable {F G:FF}
mutual
theorem VRep.mono (e:∀i o,F i=some o→G i=some o):∀ {v:NV} {p:PV},VRep F v p→VRep G v p
  | _,_,.non=>.non
  | _,_,.bl b=>.bl b
  | _,_,.int b=>.int b
  | _,_,.str b=>.str b
  | _,_,.ty b=>.ty b
  | _,_,.glb b=>.glb b
  | _,_,.tup r=>.tup (VReps.mono e r)
  | _,_,.fro r=>.fro (VReps.mono e r)
  | _,_,.lst h r=>.lst (e _ _ h) (VReps.mono e r)
  | _,_,.dic h r=>.dic (e _ _ h) (VRepd.mono e r)
  | _,_,.dct h r=>.dct (e _ _ h) (VRepd.mono e r)
  | _,_,.fdc h r=>.fdc (e _ _ h) (VRepd.mono e r)
  | _,_,.exn h r=>.exn (e _ _ h) (VRep.mono e r)
  | _,_,.tab h=>.tab (e _ _ h)
  | _,_,.bex h=>.bex (e _ _ h)
  | _,_,.ob h r t=>.ob (e _ _ h) (VRepd.mono e r) (VReps.mono e t)
  | _,_,.dsk h s r t=>.dsk (e _ _ h) (VRep.mono e s) (VRepd.mono e r) (VReps.mono e t)
  | _,_,.set h r=>.set (e _ _ h) (VReps.mono e r)
theorem VReps.mono (e:∀i o,F i=some o→G i=some o):∀ {v:List NV} {p:List PV},VReps F v p→VReps G v p
  | _,_,.nil=>.nil
  | _,_,.cons h r=>.cons (VRep.mono e h) (VReps.mono e r)
theorem VRepd.mono (e:∀i o,F i=some o→G i=some o):∀ {v:List (NV×NV)} {p:List (PV×PV)},VRepd F v p→VRepd G v p
  | _,_,.nil=>.nil
  | _,_,.cons h k r=>.cons (VRep.mono e h) (VRep.mono e k) (VRepd.mono e r)
end
theorem ORep.mono (e:∀i o,F i=some o→G i=some o) {v:NV} {o:PO} (h:ORep F v o):ORep G v o:=by
  cases h with
  | lst r=>exact .lst (r.mono e)
  | dic r=>exact .dic (r.mono e)
  | dct r=>exact .dct (r.mono e)
  | obj r t=>exact .obj (r.mono e) (t.mono e)
  | dsk s r t=>exact .dsk (s.mono e) (r.mono e) (t.mono e)
  | set r=>exact .set (r.mono e)
mutual
theorem VRep.lt {n:Nat} (e:∀i o,F i=some o→i < n):∀ {v:NV} {p:PV},VRep F v p→refsLt n p=true
  | _,_,.non=>by simp [refsLt]
  | _,_,.bl b=>by simp [refsLt]
  | _,_,.int b=>by simp [refsLt]
  | _,_,.str b=>by simp [refsLt]
  | _,_,.ty b=>by simp [refsLt]
  | _,_,.glb b=>by simp [refsLt]
  | _,_,.tup r=>by simp only [refsLt];exact VReps.lt e r
  | _,_,.fro r=>by simp only [refsLt];exact VReps.lt e r
  | _,_,.lst h _=>by simp only [refsLt];exact decide_eq_true (e _ _ h)
  | _,_,.dic h _=>by simp only [refsLt];exact decide_eq_true (e _ _ h)
  | _,_,.dct h _=>by simp only [refsLt];exact decide_eq_true (e _ _ h)
  | _,_,.fdc h _=>by simp only [refsLt];exact decide_eq_true (e _ _ h)
  | _,_,.exn h _=>by simp only [refsLt];exact decide_eq_true (e _ _ h)
  | _,_,.tab h=>by simp only [refsLt];exact decide_eq_true (e _ _ h)
  | _,_,.bex h=>by simp only [refsLt];exact decide_eq_true (e _ _ h)
  | _,_,.ob h _ _=>by simp only [refsLt];exact decide_eq_true (e _ _ h)
  | _,_,.dsk h _ _ _=>by simp only [refsLt];exact decide_eq_true (e _ _ h)
  | _,_,.set h _=>by simp only [refsLt];exact decide_eq_true (e _ _ h)
theorem VReps.lt {n:Nat} (e:∀i o,F i=some o→i < n):∀ {v:List NV} {p:List PV},VReps F v p→refsLts n p=true
  | _,_,.nil=>by simp [refsLts]
  | _,_,.cons h r=>by simp only [refsLts,Bool.and_eq_true];exact ⟨VRep.lt e h,VReps.lt e r⟩
theorem VRepd.lt {n:Nat} (e:∀i o,F i=some o→i < n):∀ {v:List (NV×NV)} {p:List (PV×PV)},VRepd F v p→refsLts n (p.map (·.1))=true∧refsLts n (p.map (·.2))=true
  | _,_,.nil=>by simp [refsLts]
  | _,_,.cons h k r=>by
    have ih:=VRepd.lt e r
    simp only [List.map_cons,refsLts,Bool.and_eq_true];exact ⟨⟨VRep.lt e h,ih.1⟩,VRep.lt e k,ih.2⟩
end
theorem ORep.lt {n:Nat} (e:∀i o,F i=some o→i < n) {v:NV} {o:PO} (h:ORep F v o):vLt n o=true:=by?
  cases h with
  | lst r=>exact r.lt e
  | dic r=>simp only [vLt,Bool.and_eq_true];exact r.lt e
  | dct r=>simp only [vLt,Bool.and_eq_true];exact r.lt e
  | obj r t=>
    simp only [vLt,Bool.and_eq_true]
    exact ⟨r.lt e,t.lt e⟩
  | dsk s r t=>
    simp only [vLt,Bool.and_eq_true]
    exact ⟨s.lt e,r.lt e,t.lt e⟩
  | set r=>exact r.lt e
/-- the objects below n alone -/
noncomputable
def cutF (n:Nat) (F:FF):FF:=fun i=>if i < n then F i else none
mutual
theorem VRep.cut {n:Nat} (e:∀i o,i < n→F i=some o→vLt n o=true):∀ {v:NV} {p:PV},VRep F v p→refsLt n p=true→VRep (cutF n F) v p
  | _,_,.non,_=>.non
  | _,_,.bl b,_=>.bl b
  | _,_,.int b,_=>.int b
  | _,_,.str b,_=>.str b
  | _,_,.ty b,_=>.ty b
  | _,_,.glb b,_=>.glb b
  | _,_,.tup r,h=>.tup (VReps.cut e r (by simpa only [refsLt] using h))
  | _,_,.fro r,h=>.fro (VReps.cut e r (by simpa only [refsLt] using h))
  | _,_,.lst q r,h=>by
    have hi:=of_decide_eq_true (show decide (_ < n)=true by simpa only [refsLt] using h)
    exact .lst (by unfold cutF;rw [if_pos hi];exact q) (VReps.cut e r (e _ _ hi q))
  | _,_,.dic q r,h=>by
    have hi:=of_decide_eq_true (show decide (_ < n)=true by simpa only [refsLt] using h)
    have ho:=e _ _ hi q
    simp only [vLt,Bool.and_eq_true] at ho
    exact .dic (by unfold cutF;rw [if_pos hi];exact q) (VRepd.cut e r ho.1 ho.2)
  | _,_,.dct q r,h=>by
    have hi:=of_decide_eq_true (show decide (_ < n)=true by simpa only [refsLt] using h)
    have ho:=e _ _ hi q
    simp only [vLt,Bool.and_eq_true] at ho
    exact .dct (by unfold cutF;rw [if_pos hi];exact q) (VRepd.cut e r ho.1 ho.2)
  | _,_,.fdc q r,h=>by
    have hi:=of_decide_eq_true (show decide (_ < n)=true by simpa only [refsLt] using h)
    have ho:=e _ _ hi q
    simp only [vLt,Bool.and_eq_true] at ho
    exact .fdc (by unfold cutF;rw [if_pos hi];exact q) (VRepd.cut e r ho.1 ho.2)
  | _,_,.exn q r,h=>by
    have hi:=of_decide_eq_true (show decide (_ < n)=true by simpa only [refsLt] using h)
    exact .exn (by unfold cutF;rw [if_pos hi];exact q) (VRep.cut e r (e _ _ hi q))
  | _,_,.tab q,h=>by
    have hi:=of_decide_eq_true (show decide (_ < n)=true by simpa only [refsLt] using h)
    exact .tab (by unfold cutF;rw [if_pos hi];exact q)
  | _,_,.ob q r t,h=>by
    have hi:=of_decide_eq_true (show decide (_ < n)=true by simpa only [refsLt] using h)
    have ho:=e _ _ hi q
    simp only [vLt,Bool.and_eq_true] at ho
    exact .ob (by unfold cutF;rw [if_pos hi];exact q) (VRepd.cut e r ho.1.1 ho.1.2) (VReps.cut e t ho.2)
  | _,_,.dsk q s r t,h=>by
    have hi:=of_decide_eq_true (show decide (_ < n)=true by simpa only [refsLt] using h)
    have ho:=e _ _ hi q
    simp only [vLt,Bool.and_eq_true] at ho
    exact .dsk (by unfold cutF;rw [if_pos hi];exact q) (VRep.cut e s ho.1) (VRepd.cut e r ho.2.1.1 ho.2.1.2) (VReps.cut e t ho.2.2)
  | _,_,.bex q,h=>by
    have hi:=of_decide_eq_true (show decide (_ < n)=true by simpa only [refsLt] using h)
    exact .bex (by unfold cutF;rw [if_pos hi];exact q)
  | _,_,.set q r,h=>by
    have hi:=of_decide_eq_true (show decide (_ < n)=true by simpa only [refsLt] using h)
    exact .set (by unfold cutF;rw [if_pos hi];exact q) (VReps.cut e r (e _ _ hi q))
theorem VReps.cut {n:Nat} (e:∀i o,i < n→F i=some o→vLt n o=true):∀ {v:List NV} {p:List PV},VReps F v p→refsLts n p=true→VReps (cutF n F) v p
  | _,_,.nil,_=>.nil
  | _,_,.cons h r,q=>by
    simp only [refsLts,Bool.and_eq_true] at q
    exact .cons (VRep.cut e h q.1) (VReps.cut e r q.2)
theorem VRepd.cut {n:Nat} (e:∀i o,i < n→F i=some o→vLt n o=true):∀ {v:List (NV×NV)} {p:List (PV×PV)},VRepd F v p→refsLts n (p.map (·.1))=true→refsLts n (p.map (·.2))=true→VRepd (cutF n F) v p
  | _,_,.nil,_,_=>.nil
  | _,_,.cons h k r,q,q2=>by
    simp only [List.map_cons,refsLts,Bool.and_eq_true] at q q2
    exact .cons (VRep.cut e h q.1) (VRep.cut e k q2.1) (VRepd.cut e r q.2 q2.2)
end
theorem ORep.cut {n:Nat} (e:∀i o,i < n→F i=some o→vLt n o=true) {v:NV} {o:PO} (h:ORep F v o) (q:vLt n o=true):ORep (cutF n F) v o:=by?
  cases h with
  | lst r=>exact .lst (r.cut e q)
  | dic r=>simp only [vLt,Bool.and_eq_true] at q;exact .dic (r.cut e q.1 q.2)
  | dct r=>simp only [vLt,Bool.and_eq_true] at q;exact .dct (r.cut e q.1 q.2)
  | obj r t=>simp only [vLt,Bool.and_eq_true] at q;exact .obj (r.cut e q.1.1 q.1.2) (t.cut e q.2)
  | dsk s r t=>simp only [vLt,Bool.and_eq_true] at q;exact .dsk (s.cut e q.1) (r.cut e q.2.1.1 q.2.1.2) (t.cut e q.2.2)
  | set r=>exact .set (r.cut e q)
mutual
theorem VRep.nor:∀ {v:NV} {p:PV},VRep F v p→noref v=true→VRep G v p
  | _,_,.non,_=>.non
  | _,_,.bl b,_=>.bl b
  | _,_,.int b,_=>.int b
  | _,_,.str b,_=>.str b
  | _,_,.ty b,_=>.ty b
  | _,_,.glb b,_=>.glb b
  | _,_,.tup r,h=>.tup (VReps.nor r (by simpa only [noref] using h))
  | _,_,.fro r,h=>.fro (VReps.nor r (by simpa only [noref] using h))
  | _,_,.lst _ _,h=>by simp [noref] at h
  | _,_,.dic _ _,h=>by simp [noref] at h
  | _,_,.dct _ _,h=>by simp [noref] at h
  | _,_,.fdc _ _,h=>by simp [noref] at h
  | _,_,.exn _ _,h=>by simp [noref] at h
  | _,_,.tab _,h=>by simp [noref] at h
  | _,_,.bex _,h=>by simp [noref] at h
  | _,_,.ob _ _ _,h=>by simp [noref] at h
  | _,_,.dsk _ _ _ _,h=>by simp [noref] at h
  | _,_,.set _ _,h=>by simp [noref] at h
theorem VReps.nor:∀ {v:List NV} {p:List PV},VReps F v p→norefs v=true→VReps G v p
  | _,_,.nil,_=>.nil
  | _,_,.cons h r,q=>by
    simp only [norefs,Bool.and_eq_true] at q
    exact .cons (VRep.nor h q.1) (VReps.nor r q.2)
end
theorem VReps.length:∀ {v:List NV} {p:List PV},VReps F v p→v.length=p.length
  | _,_,.nil=>rfl
  | _,_,.cons _ r=>by rw [List.length_cons,List.length_cons,VReps.length r]
theorem VReps.get:∀ {v:List NV} {p:List PV} {i:Nat} {x:NV},VReps F v p→v[i]? = some x→∃y,p[i]? = some y∧VRep F x y
  | _,_,_,_,.nil,h=>by simp at h
  | _,_,0,_,.cons r _,h=>by
    simp only [List.getElem?_cons_zero,Option.some.injEq] at h
    subst h
    exact ⟨_,by simp,r⟩
  | _,_,i+1,_,.cons _ r,h=>by
    simp only [List.getElem?_cons_succ] at h
    obtain ⟨y,h1,h2⟩:=VReps.get r h
    exact ⟨y,by simpa using h1,h2⟩
theorem VReps.append:∀ {v w:List NV} {p q:List PV},VReps F v p→VReps F w q→VReps F (v++w) (p++q)
  | _,_,_,_,.nil,s=>s
  | _,_,_,_,.cons r t,s=>.cons r (VReps.append t s)
theorem VReps.take:∀ {v:List NV} {p:List PV} (n:Nat),VReps F v p→VReps F (v.take n) (p.take n)
  | _,_,0,_=>.nil
  | _,_,_+1,.nil=>.nil
  | _,_,n+1,.cons r t=>.cons r (VReps.take n t)
theorem VReps.drop:∀ {v:List NV} {p:List PV} (n:Nat),VReps F v p→VReps F (v.drop n) (p.drop n)
  | _,_,0,r=>r
  | _,_,_+1,.nil=>.nil
  | _,_,n+1,.cons _ t=>VReps.drop n t
theorem VReps.setI {x:NV} {y:PV} (r:VRep F x y):∀ {v:List NV} {p:List PV} (i:Nat),VReps F v p→VReps F (v.set i x) (p.set i y)
  | _,_,_,.nil=>.nil
  | _,_,0,.cons _ t=>.cons r t
  | _,_,i+1,.cons q t=>.cons q (VReps.setI r i t)
theorem VReps.reverse {v:List NV} {p:List PV} (h:VReps F v p):VReps F v.reverse p.reverse:=by
  induction v generalizing p with
  | nil=>cases h;exact .nil
  | cons x v ih=>
    cases h with
    | cons r t=>
      rw [List.reverse_cons,List.reverse_cons]
      exact (ih t).append (.cons r .nil)
theorem VReps.rep {v:List NV} {p:List PV} (h:VReps F v p):∀n,VReps F (List.replicate n v).flatten (List.replicate n p).flatten
  | 0=>.nil
  | n+1=>by
    rw [List.replicate_succ,List.replicate_succ,List.flatten_cons,List.flatten_cons]
    exact h.append (h.rep n)
end
noncomputable
def mutV (env:Env) (k:Nat):Option NV:=env[k]?.bind Sl.mut
noncomputable
def Ow (env:Env) (σ:Slots) (i:Nat):Prop:=∃k v,mutV env k=some v∧σ[k]? = some (some (.ref i))
structure RR (F:FF) (env:Env) (σ:Slots) (st:Store):Prop where
  len:env.length=σ.length
  sub:∀ (i:Nat) o,F i=some o→st[i]? = some o
  wf:∀ (i:Nat) o,st[i]? = some o→vLt st.length o=true
  sh:∀ (k:Nat) v,env[k]? = some (.sh v)→∃p,σ[k]? = some (some p)∧VRep F v p
  mu:∀ (k:Nat) v,mutV env k=some v→∃i o,σ[k]? = some (some (.ref i))∧F i=none∧st[i]? = some o∧ORep F v o
  rf:∀ (k:Nat) p,σ[k]? = some (some p)→refsLt st.length p=true
  dj:∀ (k l:Nat) v w i,mutV env k=some v→mutV env l=some w→σ[k]? = some (some (.ref i))→σ[l]? = some (some (.ref i))→k=l
structure Go (F:FF) (env:Env) (σ:Slots) (st:Store) (F':FF) (env':Env) (σ':Slots) (st':Store):Prop where
  rr:RR F' env' σ' st'
  ext:∀i o,F i=some o→F' i=some o
  frm:∀ (i:Nat),i < st.length→¬ Ow env σ i→st'[i]? = st[i]?∧F' i=F i
  le:st.length≤st'.length
  own:∀i,Ow env' σ' i→Ow env σ i∨st.length≤i
  pin:∀ (k:Nat) v,env[k]? = some (.bo v)→σ'[k]? = σ[k]?∧∃v',env'[k]? = some (.bo v')
theorem get_lt {st:Store} {i:Nat} {o:PO} (h:st[i]? = some o):i < st.length:=(List.getElem?_eq_some_iff.mp h).1
section
variable {F F1 F2 F':FF} {env env1 env2 env':Env} {σ σ1 σ2 σ':Slots} {st st1 st2 st':Store}
theorem RR.ltF (h:RR F env σ st):∀i o,F i=some o→i < st.length:=fun i o q=>get_lt (h.sub i o q)
theorem Go.refl (h:RR F env σ st):Go F env σ st F env σ st:=⟨h,fun _ _ q=>q,fun _ _ _=>⟨rfl,rfl⟩,Nat.le_refl _,fun _ q=>.inl q,fun _ v q=>⟨rfl,v,q⟩⟩
theorem Go.trans (a:Go F env σ st F1 env1 σ1 st1) (b:Go F1 env1 σ1 st1 F2 env2 σ2 st2):Go F env σ st F2 env2 σ2 st2:=by?
  refine ⟨b.rr,fun i o q=>b.ext _ _ (a.ext _ _ q),fun i hi hn=>?_,Nat.le_trans a.le b.le,fun i q=>?_,fun k v q=>?_⟩
  · obtain ⟨h1,h2⟩:=a.frm i hi hn
    have hn1:¬ Ow env1 σ1 i:=fun q=>(a.own i q).elim hn fun z=>absurd hi (Nat.not_lt.mpr z)
    obtain ⟨h3,h4⟩:=b.frm i (Nat.lt_of_lt_of_le hi a.le) hn1
    exact ⟨h3.trans h1,h4.trans h2⟩
  · rcases b.own i q with z | z
    · exact a.own i z
    · exact .inr (Nat.le_trans a.le z)
  · obtain ⟨h1,v1,h2⟩:=a.pin k v q
    obtain ⟨h3,h4⟩:=b.pin k v1 h2
    exact ⟨h3.trans h1,h4⟩
/-- the value of an expression -/
noncomputable
def EVR (F:FF) (env:Env) (σ:Slots) (st:Store) (n:Nat) (e:EV) (p:PV):Prop:=match e with
  | .im v=>VRep F v p
  | .fr v=>∃i o,p=.ref i∧n≤i∧F i=none∧st[i]? = some o∧ORep F v o∧¬ Ow env σ i
  | .sl k=>σ[k]? = some (some p)
theorem EVR.go {n:Nat} {e:EV} {p:PV} (h:EVR F1 env1 σ st1 n e p) (g:Go F1 env1 σ st1 F2 env2 σ st2):EVR F2 env2 σ st2 n e p:=by
  cases e with
  | im v=>exact VRep.mono g.ext h
  | sl k=>exact h
  | fr v=>
    obtain ⟨i,o,h1,h2,h3,h4,h5,h6⟩:=h
    have hi:=get_lt h4
    obtain ⟨q1,q2⟩:=g.frm i hi h6
    exact ⟨i,o,h1,h2,q2.trans h3,q1.trans h4,h5.mono g.ext,fun z=>(g.own i z).elim h6 fun y=>absurd hi (Nat.not_lt.mpr y)⟩
theorem EVR.le {n m:Nat} {e:EV} {p:PV} (h:EVR F1 env1 σ st1 n e p) (g:m≤n):EVR F1 env1 σ st1 m e p:=by
  cases e with
  | im v=>exact h
  | sl k=>exact h
  | fr v=>
    obtain ⟨i,o,h1,h2,h3⟩:=h
    exact ⟨i,o,h1,Nat.le_trans g h2,h3⟩
/-- a value as it stands in the store just now -/
noncomputable
def LRep (F:FF) (st:Store) (v:NV) (p:PV):Prop:=VRep F v p∨∃i o,p=.ref i∧st[i]? = some o∧ORep F v o
theorem mutV_val {k:Nat} {v:NV} (h:mutV env k=some v):env[k]?.bind Sl.val=some v:=by
  unfold mutV at h
  cases q:env[k]? with
  | none=>simp [q] at h
  | some s=>cases s <;> simp_all [Sl.mut,Sl.val]
theorem val_cases {k:Nat} {v:NV} (h:env[k]?.bind Sl.val=some v):env[k]? = some (.sh v)∨mutV env k=some v:=by
  unfold mutV
  cases q:env[k]? with
  | none=>simp [q] at h
  | some s=>cases s <;> simp_all [Sl.mut,Sl.val]
theorem EVR.get {n:Nat} {e:EV} {p:PV} {v:NV} (r:RR F env σ st) (h:EVR F env σ st n e p) (g:e.get env=some v):LRep F st v p:=by?
  cases e with
  | im w=>simp only [EV.get,Option.some.injEq] at g;subst g;exact .inl h
  | fr w=>
    simp only [EV.get,Option.some.injEq] at g;subst g
    obtain ⟨i,o,h1,_,_,h4,h5,_⟩:=h
    exact .inr ⟨i,o,h1,h4,h5⟩
  | sl k=>
    have h:σ[k]? = some (some p):=h
    rcases val_cases g with q | q
    · obtain ⟨p',h1,h2⟩:=r.sh k v q
      rw [h] at h1
      simp only [Option.some.injEq] at h1
      subst h1;exact .inl h2
    · obtain ⟨i,o,h1,_,h3,h4⟩:=r.mu k v q
      rw [h] at h1
      simp only [Option.some.injEq] at h1
      exact .inr ⟨i,o,h1,h3,h4⟩
mutual
theorem refsLt_mono {n m:Nat} (h:n≤m):∀p:PV,refsLt n p=true→refsLt m p=true
  | .ref i,q=>by simp only [refsLt,decide_eq_true_eq] at *;omega
  | .tup xs,q=>by simp only [refsLt] at *;exact refsLts_mono h q
  | .fro xs,q=>by simp only [refsLt] at *;exact refsLts_mono h q
  | .non,_=>by simp [refsLt]
  | .bl _,_=>by simp [refsLt]
  | .int _,_=>by simp [refsLt]
  | .str _,_=>by simp [refsLt]
  | .ty _,_=>by simp [refsLt]
  | .glb _,_=>by simp [refsLt]
theorem refsLts_mono {n m:Nat} (h:n≤m):∀ {ps:List PV},refsLts n ps=true→refsLts m ps=true
  | [],_=>by simp [refsLts]
  | x::xs,q=>by
    simp only [refsLts,Bool.and_eq_true] at *
    exact ⟨refsLt_mono h x q.1,refsLts_mono h q.2⟩
end
theorem vLt_mono {n m:Nat} (h:n≤m) {o:PO} (q:vLt n o=true):vLt m o=true:=by?
  cases o with
  | lst xs=>exact refsLts_mono h q
  | dic kvs=>
    simp only [vLt,Bool.and_eq_true] at *
    exact ⟨refsLts_mono h q.1,refsLts_mono h q.2⟩
  | set xs=>exact refsLts_mono h q
  | dead=>rfl
  | dct kvs=>
    simp only [vLt,Bool.and_eq_true] at *
    exact ⟨refsLts_mono h q.1,refsLts_mono h q.2⟩
  | fdc kvs=>
    simp only [vLt,Bool.and_eq_true] at *
    exact ⟨refsLts_mono h q.1,refsLts_mono h q.2⟩
  | exn c v=>exact refsLt_mono h v q
  | tab q=>rfl
  | bex q=>rfl
  | hid=>rfl
  | obj c fs b j xs=>
    simp only [vLt,Bool.and_eq_true] at *
    exact ⟨⟨refsLts_mono h q.1.1,refsLts_mono h q.1.2⟩,refsLts_mono h q.2⟩
  | dsk s fs j l xs=>
    simp only [vLt,Bool.and_eq_true] at *
    exact ⟨refsLt_mono h _ q.1,⟨refsLts_mono h q.2.1.1,refsLts_mono h q.2.1.2⟩,refsLts_mono h q.2.2⟩
theorem get_app1 {t:List PO} {i:Nat} {o:PO} (h:st[i]? = some o):(st++t)[i]? = some o:=by rw [List.getElem?_append_left (get_lt h)];exact h
theorem RR.alloc (r:RR F env σ st) {o:PO} (ho:vLt st.length o=true):Go F env σ st F env σ (st++[o]):=by?
  refine ⟨⟨r.len,fun i o q=>get_app1 (r.sub i o q),fun i p q=>?_,r.sh,fun k v q=>?_,fun k p q=>refsLt_mono (by simp) _ (r.rf k p q),r.dj⟩,fun _ _ q=>q,fun i hi _=>⟨List.getElem?_append_left hi,rfl⟩,by simp,fun _ q=>.inl q,fun _ v q=>⟨rfl,v,q⟩⟩
  · have hm:st.length≤(st++[o]).length:=by simp
    by_cases hi:i < st.length
    · rw [List.getElem?_append_left hi] at q
      exact vLt_mono hm (r.wf i p q)
    · have:i < (st++[o]).length:=get_lt q
      have e:i=st.length:=by simp at this;omega
      subst e
      simp only [List.getElem?_append_right (Nat.le_refl _),Nat.sub_self,List.getElem?_cons_zero,Option.some.injEq] at q
      subst q
      exact vLt_mono hm ho
  · obtain ⟨i,p,h1,h2,h3,h4⟩:=r.mu k v q
    exact ⟨i,p,h1,h2,get_app1 h3,h4⟩
theorem RR.notOw (r:RR F env σ st) {i:Nat} (h:st.length≤i):¬ Ow env σ i:=fun ⟨k,v,h1,h2⟩=>by
  obtain ⟨j,o,h3,_,h5,_⟩:=r.mu k v h1
  rw [h2] at h3
  simp only [Option.some.injEq,PV.ref.injEq] at h3
  subst h3
  exact absurd (get_lt h5) (Nat.not_lt.mpr h)
theorem RR.noneF (r:RR F env σ st) {i:Nat} (h:st.length≤i):F i=none:=by
  cases q:F i with
  | none=>rfl
  | some o=>exact absurd (r.ltF i o q) (Nat.not_lt.mpr h)
theorem RR.new (r:RR F env σ st) {v:NV} {o:PO} (h:ORep F v o):Go F env σ st F env σ (st++[o])∧EVR F env σ (st++[o]) st.length (.fr v) (.ref st.length):=by
  refine ⟨r.alloc (h.lt r.ltF),st.length,o,rfl,Nat.le_refl _,r.noneF (Nat.le_refl _),by simp,h,r.notOw (Nat.le_refl _)⟩
noncomputable
def addF (F:FF) (i:Nat) (o:PO):FF:=fun j=>if j=i then some o else F j
theorem addF_ext {i:Nat} {o:PO} (h:F i=none):∀j p,F j=some p→addF F i o j=some p:=fun j p q=>by
  unfold addF
  by_cases e:j=i
  · subst e;rw [h] at q;cases q
  · rw [if_neg e];exact q
theorem ORep.toV {i:Nat} {o:PO} {v:NV} (h:ORep F v o) (hi:F i=some o):VRep F v (.ref i):=by
  cases h with
  | lst r=>exact .lst hi r
  | dic r=>exact .dic hi r
  | dct r=>exact .dct hi r
  | obj r t=>exact .ob hi r t
  | dsk s r t=>exact .dsk hi s r t
  | set r=>exact .set hi r
theorem Go.frzF {v:NV} {i:Nat} {o:PO} (g:Go F env σ st F1 env1 σ1 st1) (hi:st.length≤i) (hF:F1 i=none) (ho:st1[i]? = some o) (hw:¬ Ow env1 σ1 i):Go F env σ st (addF F1 i o) env1 σ1 st1:=by?
  have r:=g.rr
  refine ⟨⟨r.len,fun j p q=>?_,r.wf,fun k v q=>?_,fun k v q=>?_,r.rf,r.dj⟩,fun j p q=>addF_ext hF _ _ (g.ext _ _ q),fun j hj hn=>?_,g.le,g.own,g.pin⟩
  · unfold addF at q
    by_cases e:j=i
    · subst e;rw [if_pos rfl] at q;cases q;exact ho
    · rw [if_neg e] at q;exact r.sub j p q
  · obtain ⟨p,h1,h2⟩:=r.sh k v q
    exact ⟨p,h1,h2.mono (addF_ext hF)⟩
  · obtain ⟨j,p,h1,h2,h3,h4⟩:=r.mu k v q
    refine ⟨j,p,h1,?_,h3,h4.mono (addF_ext hF)⟩
    unfold addF
    rw [if_neg (fun e=>hw ⟨k,v,q,by rw [← e];exact h1⟩)];exact h2
  · obtain ⟨h1,h2⟩:=g.frm j hj hn
    refine ⟨h1,?_⟩
    unfold addF
    rw [if_neg (by omega)];exact h2
theorem mutV_set {k l:Nat} {s:Sl} {v:NV} (h:mutV (env.set k s) l=some v):(l=k∧s.mut=some v)∨(l≠k∧mutV env l=some v):=by
  unfold mutV at *
  rw [List.getElem?_set] at h
  by_cases e:k=l
  · subst e
    rw [if_pos rfl] at h
    split at h
    · exact .inl ⟨rfl,by simpa using h⟩
    · simp at h
  · rw [if_neg e] at h
    exact .inr ⟨fun q=>e q.symm,h⟩
theorem set_get {k l:Nat} {s t:Sl} (h:(env.set k s)[l]? = some t):(l=k∧s=t∧k < env.length)∨(l≠k∧env[l]? = some t):=by
  rw [List.getElem?_set] at h
  by_cases e:k=l
  · subst e
    rw [if_pos rfl] at h
    split at h
    · rename_i hl;exact .inl ⟨rfl,by simpa using h,hl⟩
    · simp at h
  · rw [if_neg e] at h
    exact .inr ⟨fun q=>e q.symm,h⟩
theorem RR.frzS (r:RR F env σ st) {k:Nat} {v:NV} (h:env[k]? = some (.ow v)):∃i o,σ[k]? = some (some (.ref i))∧F i=none∧st[i]? = some o∧ORep F v o∧Go F env σ st (addF F i o) (env.set k (.sh v)) σ st:=by?
  have hm:mutV env k=some v:=by unfold mutV;rw [h];rfl
  obtain ⟨i,o,h1,h2,h3,h4⟩:=r.mu k v hm
  have hO:Ow env σ i:=⟨k,v,hm,h1⟩
  refine ⟨i,o,h1,h2,h3,h4,⟨by simp [r.len],fun j p q=>?_,r.wf,fun l w q=>?_,fun l w q=>?_,r.rf,fun l l' w w' j q q'=>?_⟩,addF_ext h2,fun j hj hn=>⟨rfl,?_⟩,Nat.le_refl _,fun j q=>?_,fun l w q=>⟨rfl,w,?_⟩⟩
  · unfold addF at q
    by_cases e:j=i
    · subst e;rw [if_pos rfl] at q;cases q;exact h3
    · rw [if_neg e] at q;exact r.sub j p q
  · rcases set_get q with ⟨e1,e2,_⟩ | ⟨e1,e2⟩
    · subst e1;cases e2
      exact ⟨.ref i,h1,ORep.toV (h4.mono (addF_ext h2)) (if_pos rfl)⟩
    · obtain ⟨p,q1,q2⟩:=r.sh l w e2
      exact ⟨p,q1,q2.mono (addF_ext h2)⟩
  · rcases mutV_set q with ⟨e1,e2⟩ | ⟨e1,e2⟩
    · cases e2
    · obtain ⟨j,p,q1,q2,q3,q4⟩:=r.mu l w e2
      refine ⟨j,p,q1,?_,q3,q4.mono (addF_ext h2)⟩
      unfold addF
      rw [if_neg (fun e=>e1 (r.dj l k w v i e2 hm (by rw [← e];exact q1) h1))];exact q2
  · rcases mutV_set q with ⟨e1,e2⟩ | ⟨e1,e2⟩
    · cases e2
    · rcases mutV_set q' with ⟨e3,e4⟩ | ⟨e3,e4⟩
      · cases e4
      · exact r.dj l l' w w' j e2 e4
  · unfold addF
    rw [if_neg (fun e:j=i=>hn (by rw [e];exact hO))]
  · obtain ⟨l,w,q1,q2⟩:=q
    rcases mutV_set q1 with ⟨e1,e2⟩ | ⟨e1,e2⟩
    · cases e2
    · exact .inl ⟨l,w,e2,q2⟩
  · rw [List.getElem?_set_ne (fun e=>by subst e;rw [h] at q;cases q)];exact q
/-- the new objects among the values -/
noncomputable
def frIx:List EV→List PV→List Nat
  | .fr _::r,.ref i::ps=>i::frIx r ps
  | _::r,_::ps=>frIx r ps
  | _,_=>[]
inductive EVRs (F:FF) (env:Env) (σ:Slots) (st:Store) (n:Nat):List EV→List PV→Prop
  | nil:EVRs F env σ st n [] []
  | cons {e:EV} {p:PV} {es:List EV} {ps:List PV}:EVR F env σ st n e p→EVRs F env σ st n es ps→EVRs F env σ st n (e::es) (p::ps)
theorem EVRs.go {n:Nat} {e:List EV} {p:List PV} (g:Go F1 env1 σ st1 F2 env2 σ st2) (h:EVRs F1 env1 σ st1 n e p):EVRs F2 env2 σ st2 n e p:=by
  induction h with
  | nil=>exact .nil
  | cons a _ ih=>exact .cons (a.go g) ih
theorem EVRs.le {n m:Nat} {e:List EV} {p:List PV} (g:m≤n) (h:EVRs F1 env1 σ st1 n e p):EVRs F1 env1 σ st1 m e p:=by
  induction h with
  | nil=>exact .nil
  | cons a _ ih=>exact .cons (a.le g) ih
theorem EVRs.ge {n:Nat} {e:List EV} {p:List PV} (h:EVRs F1 env1 σ st1 n e p):∀i∈frIx e p,n≤i∧i < st1.length:=by?
  induction h with
  | nil=>intro i hi;simp [frIx] at hi
  | cons a _ ih=>
    rename_i e p es ps _
    intro i hi
    cases e with
    | fr v=>
      obtain ⟨j,o,rfl,h2,h3,h4,_⟩:=a
      simp only [frIx,List.mem_cons] at hi
      rcases hi with rfl | hi
      · exact ⟨h2,get_lt h4⟩
      · exact ih i hi
    | im v=>exact ih i (by cases p <;> simpa [frIx] using hi)
    | sl v=>exact ih i (by cases p <;> simpa [frIx] using hi)
theorem frz_one {F0:FF} {env0:Env} {σ0:Slots} {st0:Store} (g:Go F0 env0 σ0 st0 F env σ st) {e:EV} {p:PV} (h:EVR F env σ st st0.length e p) {v:NV} (hf:frz e env=some (v,env')) :
    ∃F',Go F0 env0 σ0 st0 F' env' σ st∧VRep F' v p∧(∀i o,F i=some o→F' i=some o)∧(∀i,F i=none→(∀w,e=.fr w→p≠.ref i)→¬ Ow env σ i→F' i=none)∧(∀i,Ow env' σ i→Ow env σ i):=by?
  cases e with
  | im w=>
    simp only [frz,Option.some.injEq,Prod.mk.injEq] at hf
    obtain ⟨rfl,rfl⟩:=hf
    exact ⟨F,g,h,fun _ _ q=>q,fun _ q _ _=>q,fun _ q=>q⟩
  | fr w=>
    simp only [frz,Option.some.injEq,Prod.mk.injEq] at hf
    obtain ⟨rfl,rfl⟩:=hf
    obtain ⟨i,o,rfl,h2,h3,h4,h5,h6⟩:=h
    refine ⟨addF F i o,g.frzF (v:=w) h2 h3 h4 h6,ORep.toV (h5.mono (addF_ext h3)) (if_pos rfl),addF_ext h3,fun j q q2 _=>?_,fun _ q=>q⟩
    unfold addF
    rw [if_neg (fun e=>q2 w rfl (by rw [e]))];exact q
  | sl k=>
    have h:σ[k]? = some (some p):=h
    simp only [frz] at hf
    split at hf
    · rename_i w q
      simp only [Option.some.injEq,Prod.mk.injEq] at hf
      obtain ⟨rfl,rfl⟩:=hf
      obtain ⟨i,o,h1,h2,h3,h4,h5⟩:=g.rr.frzS q
      rw [h] at h1
      simp only [Option.some.injEq] at h1
      subst h1
      refine ⟨_,g.trans h5,ORep.toV (h4.mono (addF_ext h2)) (if_pos rfl),addF_ext h2,fun j q1 _ q3=>?_,fun j q1=>?_⟩
      · unfold addF
        rw [if_neg (fun e=>q3 ⟨k,w,by unfold mutV;rw [q];rfl,by rw [e];exact h⟩)];exact q1
      · obtain ⟨l,u,y1,y2⟩:=q1
        rcases mutV_set y1 with ⟨e1,e2⟩ | ⟨e1,e2⟩
        · cases e2
        · exact ⟨l,u,e2,y2⟩
    · rename_i w q
      simp only [Option.some.injEq,Prod.mk.injEq] at hf
      obtain ⟨rfl,rfl⟩:=hf
      obtain ⟨p',h1,h2⟩:=g.rr.sh k w q
      rw [h] at h1
      simp only [Option.some.injEq] at h1
      subst h1
      exact ⟨F,g,h2,fun _ _ q=>q,fun _ q _ _=>q,fun _ q=>q⟩
    · cases hf
/-- the others are still what they were -/
theorem EVR.frz {n:Nat} {e:EV} {p:PV} {F':FF} (h:EVR F env σ st n e p) (ext:∀i o,F i=some o→F' i=some o) (hN:∀v i,e=.fr v→p=.ref i→F i=none→¬ Ow env σ i→F' i=none) (own:∀i,Ow env' σ i→Ow env σ i):EVR F' env' σ st n e p:=by
  cases e with
  | im v=>exact VRep.mono ext h
  | sl k=>exact h
  | fr v=>
    obtain ⟨i,o,h1,h2,h3,h4,h5,h6⟩:=h
    exact ⟨i,o,h1,h2,hN v i rfl h1 h3 h6,h4,h5.mono ext,fun q=>h6 (own i q)⟩
theorem frz_all {F0:FF} {env0:Env} {σ0:Slots} {st0:Store} {es:List EV} {ps:List PV}:∀ {F:FF} {env env':Env} (g:Go F0 env0 σ0 st0 F env σ st) (h:EVRs F env σ st st0.length es ps) (hn:(frIx es ps).Nodup) {vs:List NV} (hf:frzs es env=some (vs,env')),
    ∃F',Go F0 env0 σ0 st0 F' env' σ st∧VReps F' vs ps∧(∀i o,F i=some o→F' i=some o)∧(∀i,F i=none→i∉frIx es ps→¬ Ow env σ i→F' i=none)∧(∀i,Ow env' σ i→Ow env σ i):=by?
  induction es generalizing ps with
  | nil=>
    intro F env env' g h hn vs hf
    cases h
    simp only [frzs,Option.some.injEq,Prod.mk.injEq] at hf
    obtain ⟨rfl,rfl⟩:=hf
    exact ⟨F,g,.nil,fun _ _ q=>q,fun _ q _ _=>q,fun _ q=>q⟩
  | cons e es ih=>
    intro F env env' g h hn vs hf
    cases h with
    | cons a b=>
      rename_i p ps
      simp only [frzs,Option.bind_eq_some_iff,Option.map_eq_some_iff] at hf
      obtain ⟨⟨v,env1⟩,f1,⟨ws,env2⟩,f2,f3⟩:=hf
      simp only [Prod.mk.injEq] at f3
      obtain ⟨rfl,rfl⟩:=f3
      obtain ⟨F1,g1,r1,x1,n1,o1⟩:=frz_one g a f1
      have b1:EVRs F1 env1 σ st st0.length es ps:=by
        have hm:∀i∈frIx es ps,∀w,e=.fr w→p≠.ref i:=by
          intro i hi w he hp
          subst he;subst hp
          simp only [frIx,List.nodup_cons] at hn
          exact hn.1 hi
        clear ih f2 hn
        induction b with
        | nil=>exact .nil
        | cons a' b' ih'=>
          rename_i e' p' es' ps'
          refine .cons (a'.frz x1 (fun v i he hp hF hO=>n1 i hF (hm i (by subst he;subst hp;simp [frIx])) hO) o1) (ih' fun i hi=>hm i ?_)
          cases e' <;> cases p' <;> simp_all [frIx]
      obtain ⟨F2,g2,r2,x2,n2,o2⟩:=ih g1 b1 (by cases e <;> cases p <;> simp_all [frIx]) f2
      refine ⟨F2,g2,.cons (r1.mono x2) r2,fun i o q=>x2 _ _ (x1 _ _ q),fun i q hi hO=>n2 i (n1 i q (fun w he hp=>hi (by subst he;subst hp;simp [frIx])) hO) (fun hm=>hi (by cases e <;> cases p <;> simp_all [frIx])) (fun z=>hO (o1 i z)),fun i q=>o1 i (o2 i q)⟩
end
noncomputable
def RE (m:EvE) (n:VE):Prop:=∀F env σ st,RR F env σ st→∀ev env',n env=.ok (ev,env')→∃p st' F',m σ st=.ok (p,st')∧Go F env σ st F' env' σ st'∧EVR F' env' σ st' st.length ev p
noncomputable
def RA (m:EvA) (n:VA):Prop:=∀F env σ st,RR F env σ st→∀es env',n env=.ok (es,env')→∃ps st' F',m σ st=.ok (ps,st')∧Go F env σ st F' env' σ st'∧EVRs F' env' σ st' st.length es ps∧(frIx es ps).Nodup
noncomputable
def RT (m:EvT) (n:VT):Prop:=∀F env σ st,RR F env σ st→∀b env',n env=.ok (b,env')→∃st' F',m σ st=.ok (b,st')∧Go F env σ st F' env' σ st'
theorem oldOk_get {n:Nat}:∀ {st st1:Store},oldOk n st st1=true→∀ (i:Nat) o,st[i]? = some o→∃q,st1[i]? = some q∧(objLt n q=true∨q=o)
  | [],_,_,i,o,h=>by simp at h
  | _::_,[],h,_,_,_=>by simp [oldOk] at h
  | a::r,b::s,h,i,o,q=>by
    simp only [oldOk,Bool.and_eq_true,Bool.or_eq_true,decide_eq_true_eq] at h
    cases i with
    | zero=>simp only [List.getElem?_cons_zero,Option.some.injEq] at q;subst q;exact ⟨b,by simp,h.1⟩
    | succ i=>exact oldOk_get h.2 i o (by simpa using q)
section
variable {F F1:FF} {env env1:Env} {σ:Slots} {st st1:Store}
theorem take_get {n i:Nat} (h:i < n):(st1.take n)[i]? = st1[i]?:=by rw [List.getElem?_take];rw [if_pos h]
/-- what is new is forgotten -/
theorem Go.take (r:RR F env σ st) (g:Go F env σ st F1 env1 σ st1) (ho:oldOk st.length st st1=true):Go F env σ st (cutF st.length F1) env1 σ (st1.take st.length)∧∀i o,i < st.length→F1 i=some o→vLt st.length o=true:=by?
  have old:∀ (i:Nat) q,i < st.length→st1[i]? = some q→vLt st.length q=true:=fun i q hi hq=>by
    obtain ⟨p,h1,h2⟩:=oldOk_get ho i st[i] (List.getElem?_eq_getElem hi)
    rw [hq] at h1
    simp only [Option.some.injEq] at h1
    subst h1
    rcases h2 with h2 | h2
    · exact vLt_of h2
    · exact r.wf i q (by rw [h2];exact List.getElem?_eq_getElem hi)
  have r1:=g.rr
  have e:∀i o,i < st.length→F1 i=some o→vLt st.length o=true:=fun i o hi q=>old i o hi (r1.sub i o q)
  have hl:(st1.take st.length).length=st.length:=by rw [List.length_take];exact Nat.min_eq_left g.le
  refine ⟨⟨⟨r1.len,fun i o q=>?_,fun i o q=>?_,fun k v q=>?_,fun k v q=>?_,fun k p q=>?_,r1.dj⟩,fun i o q=>?_,fun i hi hn=>?_,Nat.le_of_eq hl.symm,g.own,g.pin⟩,e⟩
  · unfold cutF at q
    split at q
    · rename_i hi;rw [take_get hi];exact r1.sub i o q
    · cases q
  · have hi:i < st.length:=by have:=get_lt q;omega
    rw [take_get hi] at q
    rw [hl];exact old i o hi q
  · obtain ⟨p,h1,h2⟩:=r1.sh k v q
    exact ⟨p,h1,h2.cut e (r.rf k p h1)⟩
  · obtain ⟨i,o,h1,h2,h3,h4⟩:=r1.mu k v q
    have hi:i < st.length:=by have:=r.rf k _ h1;simpa [refsLt] using this
    exact ⟨i,o,h1,by unfold cutF;rw [if_pos hi];exact h2,by rw [take_get hi];exact h3,h4.cut e (old i o hi h3)⟩
  · rw [hl];exact r.rf k p q
  · have hi:=r.ltF i o q
    unfold cutF;rw [if_pos hi];exact g.ext i o q
  · obtain ⟨h1,h2⟩:=g.frm i hi hn
    exact ⟨by rw [take_get hi];exact h1,by unfold cutF;rw [if_pos hi];exact h2⟩
theorem VRep.obj {i:Nat} {v:NV} (h:VRep F v (.ref i)):∃o,F i=some o∧(ORep F v o∨(∃xs ps,v=.dct xs∧o=.fdc ps∧VRepd F xs ps)∨(∃c w p,v=.exn c w∧o=.exn c p∧VRep F w p)∨(∃x,v=.tab x∧o=.tab x)∨∃x,v=.bex x∧o=.bex x):=by?
  cases h with
  | lst a b=>exact ⟨_,a,.inl (.lst b)⟩
  | dic a b=>exact ⟨_,a,.inl (.dic b)⟩
  | dct a b=>exact ⟨_,a,.inl (.dct b)⟩
  | set a b=>exact ⟨_,a,.inl (.set b)⟩
  | fdc a b=>exact ⟨_,a,.inr (.inl ⟨_,_,rfl,rfl,b⟩)⟩
  | exn a b=>exact ⟨_,a,.inr (.inr (.inl ⟨_,_,_,rfl,rfl,b⟩))⟩
  | tab a=>exact ⟨_,a,.inr (.inr (.inr (.inl ⟨_,rfl,rfl⟩)))⟩
  | bex a=>exact ⟨_,a,.inr (.inr (.inr (.inr ⟨_,rfl,rfl⟩)))⟩
  | ob a r t=>exact ⟨_,a,.inl (.obj r t)⟩
  | dsk a s r t=>exact ⟨_,a,.inl (.dsk s r t)⟩
theorem gc_go (r:RR F env σ st) {p:PV} {e:EV} (g:Go F env σ st F1 env1 σ st1) (h:EVR F1 env1 σ st1 st.length e p) :
    ∃p2 st2 F2,gc st (p,st1)=(p2,st2)∧Go F env σ st F2 env1 σ st2∧EVR F2 env1 σ st2 st.length e p2:=by?
  unfold gc
  split
  · exact ⟨p,st1,F1,rfl,g,h⟩
  · split
    · rename_i hne ho
      obtain ⟨gt,ce⟩:=g.take r ho
      split
      · rename_i hp
        refine ⟨p,_,cutF st.length F1,rfl,gt,?_⟩
        cases e with
        | im v=>exact VRep.cut ce h hp
        | sl k=>exact h
        | fr v=>
          obtain ⟨i,o,rfl,h2,_⟩:=h
          simp only [refsLt,decide_eq_true_eq] at hp
          omega
      · rename_i hp
        cases p with
        | ref i =>
          dsimp only at hp ⊢
          cases hi:st1[i]? with
          | none=>exact ⟨_,st1,F1,rfl,g,h⟩
          | some o=>
            dsimp only
            by_cases hob:objLt st.length o=true
            · rw [if_pos hob]
              have hob:=vLt_of hob
              have hl:(st1.take st.length).length=st.length:=by rw [List.length_take];exact Nat.min_eq_left g.le
              simp only [refsLt,decide_eq_true_eq,Nat.not_lt] at hp
              cases e with
              | sl k=>
                have:=r.rf k _ h
                simp only [refsLt,decide_eq_true_eq] at this
                omega
              | fr v=>
                obtain ⟨j,o',e1,h2,h3,h4,h5,h6⟩:=h
                simp only [PV.ref.injEq] at e1
                subst e1
                rw [hi] at h4
                simp only [Option.some.injEq] at h4
                subst h4
                obtain ⟨g2,v2⟩:=gt.rr.new (h5.cut ce hob)
                rw [hl] at v2
                exact ⟨_,_,_,rfl,gt.trans g2,v2⟩
              | im v=>
                obtain ⟨o',h1,h2⟩:=VRep.obj h
                have:=g.rr.sub i o' h1
                rw [hi] at this
                simp only [Option.some.injEq] at this
                subst this
                rcases h2 with h2 | ⟨xs,ps,rfl,rfl,h2⟩ | ⟨cc,w,pp,rfl,rfl,h2⟩ | ⟨xx,rfl,rfl⟩ | ⟨xx,rfl,rfl⟩
                · obtain ⟨g2,v2⟩:=gt.rr.new (h2.cut ce hob)
                  rw [hl] at v2
                  obtain ⟨j,o2,e1,q2,q3,q4,q5,q6⟩:=v2
                  simp only [PV.ref.injEq] at e1
                  subst e1
                  refine ⟨_,_,_,rfl,(gt.trans g2).frzF (v:=v) q2 q3 q4 q6,?_⟩
                  exact ORep.toV (q5.mono (addF_ext q3)) (if_pos rfl)
                · have hob':=hob
                  simp only [vLt,Bool.and_eq_true] at hob'
                  have h2':=h2.cut ce hob'.1 hob'.2
                  have q3:cutF st.length F1 st.length=none:=by
                    have:=gt.rr.noneF (i:=st.length) (by rw [hl];exact Nat.le_refl _)
                    exact this
                  have q6:¬ Ow env1 σ st.length:=gt.rr.notOw (by rw [hl];exact Nat.le_refl _)
                  have g2:=gt.rr.alloc (o:=.fdc ps) (by rw [hl];exact hob)
                  refine ⟨.ref st.length,st1.take st.length++[.fdc ps],_,rfl,(gt.trans g2).frzF (v:=.dct xs) (i:=st.length) (o:=.fdc ps) (Nat.le_refl _) q3 (by rw [List.getElem?_append_right (by rw [hl];exact Nat.le_refl _),hl];simp) q6,?_⟩
                  exact .fdc (if_pos rfl) (h2'.mono (addF_ext q3))
                · have h2':=h2.cut ce hob
                  have q3:cutF st.length F1 st.length=none:=by
                    have:=gt.rr.noneF (i:=st.length) (by rw [hl];exact Nat.le_refl _)
                    exact this
                  have q6:¬ Ow env1 σ st.length:=gt.rr.notOw (by rw [hl];exact Nat.le_refl _)
                  have g2:=gt.rr.alloc (o:=.exn cc pp) (by rw [hl];exact hob)
                  refine ⟨.ref st.length,st1.take st.length++[.exn cc pp],_,rfl,(gt.trans g2).frzF (v:=.exn cc w) (i:=st.length) (o:=.exn cc pp) (Nat.le_refl _) q3 (by rw [List.getElem?_append_right (by rw [hl];exact Nat.le_refl _),hl];simp) q6,?_⟩
                  exact .exn (if_pos rfl) (h2'.mono (addF_ext q3))
                · have q3:cutF st.length F1 st.length=none:=by
                    have:=gt.rr.noneF (i:=st.length) (by rw [hl];exact Nat.le_refl _)
                    exact this
                  have q6:¬ Ow env1 σ st.length:=gt.rr.notOw (by rw [hl];exact Nat.le_refl _)
                  have g2:=gt.rr.alloc (o:=.tab xx) (by rw [hl];exact hob)
                  refine ⟨.ref st.length,st1.take st.length++[.tab xx],_,rfl,(gt.trans g2).frzF (v:=.tab xx) (i:=st.length) (o:=.tab xx) (Nat.le_refl _) q3 (by rw [List.getElem?_append_right (by rw [hl];exact Nat.le_refl _),hl];simp) q6,?_⟩
                  exact .tab (if_pos rfl)
                · have q3:cutF st.length F1 st.length=none:=by
                    have:=gt.rr.noneF (i:=st.length) (by rw [hl];exact Nat.le_refl _)
                    exact this
                  have q6:¬ Ow env1 σ st.length:=gt.rr.notOw (by rw [hl];exact Nat.le_refl _)
                  have g2:=gt.rr.alloc (o:=.bex xx) (by rw [hl];exact hob)
                  refine ⟨.ref st.length,st1.take st.length++[.bex xx],_,rfl,(gt.trans g2).frzF (v:=.bex xx) (i:=st.length) (o:=.bex xx) (Nat.le_refl _) q3 (by rw [List.getElem?_append_right (by rw [hl];exact Nat.le_refl _),hl];simp) q6,?_⟩
                  exact .bex (if_pos rfl)
            · rw [if_neg hob];exact ⟨_,st1,F1,rfl,g,h⟩
        | _=>exact ⟨_,st1,F1,rfl,g,h⟩
    · exact ⟨p,st1,F1,rfl,g,h⟩
end
theorem re_gc {m:EvE} {n:VE} (h:RE m n):RE (fun σ st=>gcR st (m σ st)) n:=fun F env σ st r ev env' hn=>by
  obtain ⟨p,st1,F1,h1,g,v⟩:=h F env σ st r ev env' hn
  obtain ⟨p2,st2,F2,e,g2,v2⟩:=gc_go r g v
  exact ⟨p2,st2,F2,by show gcR st (m σ st)=_;rw [h1,gcR_ok,e],g2,v2⟩
section
variable {a b c:EvE} {a' b' c':VE} {as:EvA} {as':VA} {t t':EvT} {u u':VT}
theorem re_var (k:Nat):RE (eVar k) (vVar k):=by?
 exact fun F env σ st r ev env' h=>by
  unfold vVar at h
  split at h
  · rename_i v q
    simp only [R.ok.injEq,Prod.mk.injEq] at h
    obtain ⟨rfl,rfl⟩:=h
    obtain ⟨p,h1,h2⟩:=r.sh k v q
    exact ⟨p,st,F,by unfold eVar;rw [h1],.refl r,h2⟩
  · rename_i v q
    simp only [R.ok.injEq,Prod.mk.injEq] at h
    obtain ⟨rfl,rfl⟩:=h
    obtain ⟨i,o,h1,_⟩:=r.mu k v (by unfold mutV;rw [q];rfl)
    exact ⟨.ref i,st,F,by unfold eVar;rw [h1],.refl r,h1⟩
  · rename_i v q
    simp only [R.ok.injEq,Prod.mk.injEq] at h
    obtain ⟨rfl,rfl⟩:=h
    obtain ⟨i,o,h1,_⟩:=r.mu k v (by unfold mutV;rw [q];rfl)
    exact ⟨.ref i,st,F,by unfold eVar;rw [h1],.refl r,h1⟩
  · cases h
theorem re_c {v:NV} {p:PV} (hv:∀F,VRep F v p):RE (eC p) (vC v):=fun F env σ st r ev env' h=>by
  simp only [vC,R.ok.injEq,Prod.mk.injEq] at h
  obtain ⟨rfl,rfl⟩:=h
  exact ⟨p,st,F,rfl,.refl r,hv F⟩
theorem re_int {i:Int}:RE (eC (.int i)) (vC (.int i)):=re_c fun _=>.int i
theorem re_bl {i:Bool}:RE (eC (.bl i)) (vC (.bl i)):=re_c fun _=>.bl i
/-- what an operation gives: an old value,or a new object -/
noncomputable
def OpRes (F:FF) (st:Store) (ev:EV) (r:PV) (st':Store):Prop:=
  (∃v,ev=.im v∧st'=st∧VRep F v r)∨(∃v o,ev=.fr v∧r=.ref st.length∧st'=st++[o]∧ORep F v o)
theorem OpRes.go {F:FF} {env:Env} {σ:Slots} {st st':Store} {ev:EV} {p:PV} (r:RR F env σ st) (h:OpRes F st ev p st'):Go F env σ st F env σ st'∧EVR F env σ st' st.length ev p:=by
  rcases h with ⟨v,rfl,rfl,h⟩ | ⟨v,o,rfl,rfl,rfl,h⟩
  · exact ⟨.refl r,h⟩
  · exact r.new h
/-- an operation on two values -/
noncomputable
def OpV (f:Op2) (g:VO2):Prop:=∀F st a b p q,(∀ (i:Nat) o,F i=some o→st[i]? = some o)→LRep F st a p→LRep F st b q→∀ev,g a b=some ev→∃r st',f p q st=.ok (r,st')∧OpRes F st ev r st'
theorem re_bin {f:Op2} {g:VO2} (hf:OpV f g) (ha:RE a a') (hb:RE b b'):RE (eBin f a b) (vBin g a' b'):=by?
 exact fun F env σ st r ev env' h=>by
  simp only [vBin,R.bind_ok,ofO_ok,Option.bind_eq_some_iff] at h
  obtain ⟨⟨x,env1⟩,h1,⟨y,env2⟩,h2,z,⟨u,g1,w,g2,g3⟩,h3⟩:=h
  simp only [R.ok.injEq,Prod.mk.injEq] at h3
  obtain ⟨rfl,rfl⟩:=h3
  obtain ⟨p,st1,F1,e1,G1,v1⟩:=ha F env σ st r x env1 h1
  obtain ⟨q,st2,F2,e2,G2,v2⟩:=hb F1 env1 σ st1 G1.rr y env2 h2
  obtain ⟨s,st3,e3,k⟩:=hf F2 st2 u w p q G2.rr.sub ((v1.go G2).get G2.rr g1) (v2.get G2.rr g2) z g3
  obtain ⟨G3,v3⟩:=k.go G2.rr
  exact ⟨s,st3,F2,by unfold eBin;rw [e1];simp only [bind_ok];rw [e2];simp only [bind_ok];exact e3,(G1.trans G2).trans G3,v3.le (Nat.le_trans G1.le G2.le)⟩
theorem re_binG {f:Op2} {g:VO2} (hf:OpV f g) (ha:RE a a') (hb:RE b b'):RE (eBinG f a b) (vBin g a' b'):=re_gc (re_bin hf ha hb)
noncomputable
def UnV (f:PV→Store→Res (PV×Store)) (g:NV→Option EV):Prop:=∀F st a p,(∀ (i:Nat) o,F i=some o→st[i]? = some o)→LRep F st a p→∀ev,g a=some ev→∃r st',f p st=.ok (r,st')∧OpRes F st ev r st'
theorem re_un {f:PV→Store→Res (PV×Store)} {g:NV→Option EV} (hf:UnV f g) (ha:RE a a'):RE (eUn f a) (vUn g a'):=by?
 exact fun F env σ st r ev env' h=>by
  simp only [vUn,R.bind_ok,ofO_ok,Option.bind_eq_some_iff] at h
  obtain ⟨⟨x,env1⟩,h1,z,⟨u,g1,g3⟩,h3⟩:=h
  simp only [R.ok.injEq,Prod.mk.injEq] at h3
  obtain ⟨rfl,rfl⟩:=h3
  obtain ⟨p,st1,F1,e1,G1,v1⟩:=ha F env σ st r x env1 h1
  obtain ⟨s,st3,e3,k⟩:=hf F1 st1 u p G1.rr.sub (v1.get G1.rr g1) z g3
  obtain ⟨G3,v3⟩:=k.go G1.rr
  exact ⟨s,st3,F1,by unfold eUn;rw [e1];exact e3,G1.trans G3,v3.le G1.le⟩
theorem ra_nil:RA aNil vNil:=fun F env σ st r es env' h=>by
  simp only [vNil,R.ok.injEq,Prod.mk.injEq] at h
  obtain ⟨rfl,rfl⟩:=h
  exact ⟨[],st,F,rfl,.refl r,.nil,by simp [frIx]⟩
theorem ra_cons (ha:RE a a') (hr:RA as as'):RA (aCons a as) (vCons a' as'):=by?
 exact fun F env σ st r es env' h=>by
  simp only [vCons,R.bind_ok] at h
  obtain ⟨⟨x,env1⟩,h1,⟨ys,env2⟩,h2,h3⟩:=h
  simp only [R.ok.injEq,Prod.mk.injEq] at h3
  obtain ⟨rfl,rfl⟩:=h3
  obtain ⟨p,st1,F1,e1,G1,v1⟩:=ha F env σ st r x env1 h1
  obtain ⟨ps,st2,F2,e2,G2,v2,n2⟩:=hr F1 env1 σ st1 G1.rr ys env2 h2
  refine ⟨p::ps,st2,F2,by rw [aCons_eq,e1];simp only [bind_ok];rw [e2];rfl,G1.trans G2,.cons (v1.go G2) (v2.le G1.le),?_⟩
  cases x with
  | fr v=>
    obtain ⟨i,o,rfl,h2,h3,h4,_⟩:=v1
    simp only [frIx,List.nodup_cons]
    refine ⟨fun hm=>?_,n2⟩
    have:=(v2.ge i hm).1
    have:=get_lt h4
    omega
  | im v=>cases p <;> simpa [frIx] using n2
  | sl v=>cases p <;> simpa [frIx] using n2
theorem EVRs.length {F:FF} {env:Env} {σ:Slots} {st:Store} {n:Nat} {es:List EV} {ps:List PV} (h:EVRs F env σ st n es ps):es.length=ps.length:=by
  induction h with
  | nil=>rfl
  | cons _ _ ih=>simp [ih]
theorem re_tup (ha:RA as as'):RE (eTup as) (vTup as'):=by?
 exact fun F env σ st r ev env' h=>by
  simp only [vTup,R.bind_ok,grd_ok,ofO_ok] at h
  obtain ⟨⟨es,env1⟩,h1,hl,⟨vs,env2⟩,h2,h3⟩:=h
  simp only [R.ok.injEq,Prod.mk.injEq] at h3
  obtain ⟨rfl,rfl⟩:=h3
  obtain ⟨ps,st1,F1,e1,G1,v1,n1⟩:=ha F env σ st r es env1 h1
  obtain ⟨F2,G2,r2,_⟩:=frz_all G1 v1 n1 h2
  refine ⟨.tup ps,st1,F2,?_,G2,VRep.tup r2⟩
  unfold eTup
  rw [e1]
  simp only [bind_ok]
  rw [if_pos (by rw [← v1.length];exact hl)]
theorem re_lst (ha:RA as as'):RE (eLst as) (vLst as'):=by?
 exact fun F env σ st r ev env' h=>by
  simp only [vLst,R.bind_ok,grd_ok,ofO_ok] at h
  obtain ⟨⟨es,env1⟩,h1,hl,⟨vs,env2⟩,h2,h3⟩:=h
  simp only [R.ok.injEq,Prod.mk.injEq] at h3
  obtain ⟨rfl,rfl⟩:=h3
  obtain ⟨ps,st1,F1,e1,G1,v1,n1⟩:=ha F env σ st r es env1 h1
  obtain ⟨F2,G2,r2,_⟩:=frz_all G1 v1 n1 h2
  obtain ⟨G3,v3⟩:=G2.rr.new (.lst r2)
  refine ⟨.ref st1.length,st1++[.lst ps],F2,?_,G2.trans G3,v3.le G1.le⟩
  unfold eLst
  rw [e1]
  simp only [bind_ok]
  rw [if_pos (by rw [← v1.length];exact hl)]
theorem re_if {t:EvT} {t':VT} (ht:RT t t') (ha:RE a a') (hb:RE b b'):RE (eIf t a b) (vIf t' a' b'):=by?
 exact fun F env σ st r ev env' h=>by
  simp only [vIf,R.bind_ok] at h
  obtain ⟨⟨k,env1⟩,h1,h2⟩:=h
  obtain ⟨st1,F1,e1,G1⟩:=ht F env σ st r k env1 h1
  cases k with
  | true=>
    obtain ⟨q,st2,F2,e2,G2,v2⟩:=ha F1 env1 σ st1 G1.rr ev env' h2
    exact ⟨q,st2,F2,by unfold eIf;rw [e1];exact e2,G1.trans G2,v2.le G1.le⟩
  | false=>
    obtain ⟨q,st2,F2,e2,G2,v2⟩:=hb F1 env1 σ st1 G1.rr ev env' h2
    exact ⟨q,st2,F2,by unfold eIf;rw [e1];exact e2,G1.trans G2,v2.le G1.le⟩
theorem LRep.bl {F:FF} {st:Store} {v:NV} {p:PV} {b:Bool} (h:LRep F st v p) (hb:isBl v=some b):p=.bl b:=by
  cases v <;> simp [isBl] at hb
  subst hb
  rcases h with h | ⟨i,o,_,_,h⟩
  · cases h;rfl
  · cases h
theorem rt_val (ha:RE a a'):RT (tVal a) (vVal a'):=by?
 exact fun F env σ st r k env' h=>by
  simp only [vVal,R.bind_ok,ofO_ok,Option.bind_eq_some_iff] at h
  obtain ⟨⟨x,env1⟩,h1,w,⟨v,h2,h3⟩,h4⟩:=h
  simp only [R.ok.injEq,Prod.mk.injEq] at h4
  obtain ⟨rfl,rfl⟩:=h4
  obtain ⟨p,st1,F1,e1,G1,v1⟩:=ha F env σ st r x env1 h1
  have:=(v1.get G1.rr h2).bl h3
  subst this
  exact ⟨st1,F1,by unfold tVal;rw [e1];rfl,G1⟩
theorem rt_yes:RT tYes vYes:=fun F env σ st r k env' h=>by
  simp only [vYes,R.ok.injEq,Prod.mk.injEq] at h
  obtain ⟨rfl,rfl⟩:=h
  exact ⟨st,F,rfl,.refl r⟩
theorem re_and (ha:RE a a') (hb:RE b b'):RE (eAnd a b) (vAnd a' b'):=by?
 exact fun F env σ st r ev env' h=>by
  simp only [vAnd,R.bind_ok,ofO_ok,Option.bind_eq_some_iff] at h
  obtain ⟨⟨x,env1⟩,h1,w,⟨v,h2,h3⟩,h4⟩:=h
  obtain ⟨p,st1,F1,e1,G1,v1⟩:=ha F env σ st r x env1 h1
  have:=(v1.get G1.rr h2).bl h3
  subst this
  cases w with
  | true=>
    obtain ⟨q,st2,F2,e2,G2,v2⟩:=hb F1 env1 σ st1 G1.rr ev env' h4
    exact ⟨q,st2,F2,by unfold eAnd;rw [e1];exact e2,G1.trans G2,v2.le G1.le⟩
  | false=>
    simp only [Bool.false_eq_true,if_false,R.ok.injEq,Prod.mk.injEq] at h4
    obtain ⟨rfl,rfl⟩:=h4
    exact ⟨.bl false,st1,F1,by unfold eAnd;rw [e1];rfl,G1,VRep.bl false⟩
/-- values as they stand -/
inductive LReps (F:FF) (st:Store):List NV→List PV→Prop
  | nil:LReps F st [] []
  | cons {v:NV} {p:PV} {vs:List NV} {ps:List PV}:LRep F st v p→LReps F st vs ps→LReps F st (v::vs) (p::ps)
theorem EVRs.gets {F:FF} {env:Env} {σ:Slots} {st:Store} {n:Nat} {es:List EV} {ps:List PV} (r:RR F env σ st) (h:EVRs F env σ st n es ps):∀ {vs:List NV},gets env es=some vs→LReps F st vs ps:=by
  induction h with
  | nil=>intro vs g;cases g;exact .nil
  | cons a _ ih=>
    intro vs g
    simp only [Vg.gets,Option.bind_eq_some_iff,Option.map_eq_some_iff] at g
    obtain ⟨v,g1,ws,g2,rfl⟩:=g
    exact .cons (a.get r g1) (ih g2)
noncomputable
def FnV (f:Fn) (g:List NV→Option EV):Prop:=∀F st vs ps,(∀ (i:Nat) o,F i=some o→st[i]? = some o)→LReps F st vs ps→∀ev,g vs=some ev→∃r st',f ps st=.ok (r,st')∧OpRes F st ev r st'
theorem re_callB {f:Fn} {g:List NV→Option EV} (hf:FnV f g) (ha:RA as as'):RE (eCall f as) (vCallB g as'):=by?
 exact re_gc (m:=fun σ st=>as σ st >>= fun xs=>f xs.1 xs.2) fun F env σ st r ev env' h=>by
  simp only [vCallB,R.bind_ok,ofO_ok,Option.bind_eq_some_iff] at h
  obtain ⟨⟨es,env1⟩,h1,z,⟨vs,g1,g3⟩,h3⟩:=h
  simp only [R.ok.injEq,Prod.mk.injEq] at h3
  obtain ⟨rfl,rfl⟩:=h3
  obtain ⟨ps,st1,F1,e1,G1,v1,n1⟩:=ha F env σ st r es env1 h1
  obtain ⟨s,st3,e3,k⟩:=hf F1 st1 vs ps G1.rr.sub (v1.gets G1.rr g1) z g3
  obtain ⟨G3,v3⟩:=k.go G1.rr
  exact ⟨s,st3,F1,by show (as σ st >>= _)=_;rw [e1];exact e3,G1.trans G3,v3.le G1.le⟩
end
/-- a method that changes nothing -/
noncomputable
def MeV (f:PV→Fn) (g:NV→List NV→Option EV):Prop:=∀F st u p vs ps,(∀ (i:Nat) o,F i=some o→st[i]? = some o)→LRep F st u p→LReps F st vs ps→∀ev,g u vs=some ev→∃r st',f p ps st=.ok (r,st')∧OpRes F st ev r st'
/-- the receiver's kind,known ahead of the arguments -/
noncomputable
def KnV (T:Store→PV→Bool) (K:NV→Bool):Prop:=∀F st u p,(∀ (i:Nat) o,F i=some o→st[i]? = some o)→LRep F st u p→K u=true→T st p=true
section
variable {a:EvE} {a':VE} {as:EvA} {as':VA}
theorem re_methB {T:Store→PV→Bool} {K:NV→Bool} {f:PV→Fn} {g:NV→List NV→Option EV} (hk:KnV T K) (hf:MeV f g) (ho:RE a a') (ha:RA as as'):RE (eMeth T f a as) (vMethB K g a' as'):=by?
 exact re_gc (m:=fun σ st=>a σ st >>= fun x=>if T x.2 x.1 then as σ x.2 >>= fun xs=>f x.1 xs.1 xs.2 else .stuck) fun F env σ st r ev env' h=>by
  simp only [vMethB,R.bind_ok,ofO_ok,grd_ok,Option.bind_eq_some_iff] at h
  obtain ⟨⟨x,env1⟩,h1,u0,k1,k2,⟨es,env2⟩,h2,z,⟨u,g1,ws,g2,g3⟩,h3⟩:=h
  simp only [R.ok.injEq,Prod.mk.injEq] at h3
  obtain ⟨rfl,rfl⟩:=h3
  obtain ⟨p,st1,F1,e1,G1,v1⟩:=ho F env σ st r x env1 h1
  have kk:=hk F1 st1 u0 p G1.rr.sub (v1.get G1.rr k1) k2
  obtain ⟨ps,st2,F2,e2,G2,v2,n2⟩:=ha F1 env1 σ st1 G1.rr es env2 h2
  obtain ⟨s,st3,e3,k⟩:=hf F2 st2 u p ws ps G2.rr.sub ((v1.go G2).get G2.rr g1) (v2.gets G2.rr g2) z g3
  obtain ⟨G3,v3⟩:=k.go G2.rr
  refine ⟨s,st3,F2,?_,(G1.trans G2).trans G3,v3.le (Nat.le_trans G1.le G2.le)⟩
  show (a σ st >>= _)=_
  rw [e1];simp only [bind_ok];rw [if_pos kk,e2];exact e3
theorem set_getP {st:Store} {i j:Nat} {o:PO} (hi:i < st.length):(st.set i o)[j]? = if i=j then some o else st[j]?:=by
  rw [List.getElem?_set];split <;> simp [hi]
/-- a list of a slot changes -/
theorem RR.setObj {F:FF} {env:Env} {σ:Slots} {st:Store} (r:RR F env σ st) {k i:Nat} {u u':NV} {s s':Sl} {o':PO} (hk:env[k]? = some s) (hs:(s=.ow u∧s'=.ow u')∨(s=.bo u∧s'=.bo u')) (hσ:σ[k]? = some (some (.ref i))) (ho:ORep F u' o') :
    Go F env σ st F (env.set k s') σ (st.set i o'):=by?
  have hm:mutV env k=some u:=by unfold mutV;rw [hk];rcases hs with ⟨rfl,_⟩ | ⟨rfl,_⟩ <;> rfl
  have hm':s'.mut=some u':=by rcases hs with ⟨_,rfl⟩ | ⟨_,rfl⟩ <;> rfl
  obtain ⟨j,o,h1,h2,h3,h4⟩:=r.mu k u hm
  rw [hσ] at h1
  simp only [Option.some.injEq,PV.ref.injEq] at h1
  subst h1
  have hi:=get_lt h3
  have hO:Ow env σ i:=⟨k,u,hm,hσ⟩
  have hne:∀j o,F j=some o→i≠j:=fun j o q e=>by subst e;rw [h2] at q;cases q
  refine ⟨⟨by simp [r.len],fun j p q=>?_,fun j p q=>?_,fun l w q=>?_,fun l w q=>?_,fun l p q=>?_,fun l l' w w' j q q'=>?_⟩,fun _ _ q=>q,fun j hj hn=>⟨?_,rfl⟩,by simp,fun j q=>?_,fun l w q=>⟨rfl,?_⟩⟩
  · rw [set_getP hi,if_neg (hne j p q)];exact r.sub j p q
  · rw [List.length_set]
    rw [set_getP hi] at q
    split at q
    · cases q;exact ho.lt r.ltF
    · exact r.wf j p q
  · rcases set_get q with ⟨e1,e2,_⟩ | ⟨e1,e2⟩
    · subst e1;rcases hs with ⟨_,rfl⟩ | ⟨_,rfl⟩ <;> cases e2
    · exact r.sh l w e2
  · rcases mutV_set q with ⟨e1,e2⟩ | ⟨e1,e2⟩
    · subst e1
      rw [hm'] at e2;cases e2
      exact ⟨i,o',hσ,h2,by rw [set_getP hi,if_pos rfl],ho⟩
    · obtain ⟨j,p,q1,q2,q3,q4⟩:=r.mu l w e2
      refine ⟨j,p,q1,q2,?_,q4⟩
      rw [set_getP hi,if_neg (fun e=>e1 (r.dj l k w u i e2 hm (by rw [e];exact q1) hσ))];exact q3
  · rw [List.length_set];exact r.rf l p q
  · have x1:∃w,mutV env l=some w:=by
      rcases mutV_set q with ⟨e1,e2⟩ | ⟨e1,e2⟩
      · exact ⟨u,by rw [e1];exact hm⟩
      · exact ⟨w,e2⟩
    have x2:∃w,mutV env l'=some w:=by
      rcases mutV_set q' with ⟨e1,e2⟩ | ⟨e1,e2⟩
      · exact ⟨u,by rw [e1];exact hm⟩
      · exact ⟨w',e2⟩
    obtain ⟨w1,x1⟩:=x1
    obtain ⟨w2,x2⟩:=x2
    exact r.dj l l' w1 w2 j x1 x2
  · rw [set_getP hi,if_neg (fun e=>hn (by rw [← e];exact hO))]
  · obtain ⟨l,w,q1,q2⟩:=q
    rcases mutV_set q1 with ⟨e1,e2⟩ | ⟨e1,e2⟩
    · subst e1;rw [hσ] at q2;simp only [Option.some.injEq,PV.ref.injEq] at q2;subst q2;exact .inl hO
    · exact .inl ⟨l,w,e2,q2⟩
  · by_cases e:k=l
    · subst e
      rw [hk] at q
      simp only [Option.some.injEq] at q
      subst q
      rcases hs with ⟨e,_⟩ | ⟨_,rfl⟩
      · cases e
      · exact ⟨u',by rw [List.getElem?_set_self (get_lt' hk)]⟩
    · exact ⟨w,by rw [List.getElem?_set_ne e];exact q⟩
where get_lt' {env:Env} {k:Nat} {s:Sl} (h:env[k]? = some s):k < env.length:=(List.getElem?_eq_some_iff.mp h).1
end
noncomputable
def RFn (f:Fn) (g:VF) (mp:List Nat):Prop:=∀F st vs ps,RR F (vst mp 0 vs) (ps.map some) st→∀ev os,g vs=.ok (ev,os) →
  ∃r st' F' envf,f ps st=.ok (r,st')∧Go F (vst mp 0 vs) (ps.map some) st F' envf (ps.map some) st'∧outs envf mp=some os∧EVR F' envf (ps.map some) st' st.length ev r∧∀k,ev≠.sl k
theorem vst_get {mp:List Nat}:∀ {vs:List NV} {j0 j:Nat},(vst mp j0 vs)[j]? = vs[j]?.map fun v=>if mp.contains (j0+j) then Sl.bo v else .sh v
  | [],_,_=>by simp [vst]
  | v::vs,j0,0=>by simp [vst]
  | v::vs,j0,j+1=>by
    simp only [vst,List.getElem?_cons_succ]
    rw [vst_get,show j0+1+j=j0+(j+1) by omega]
theorem vst_len {mp:List Nat}:∀ {vs:List NV} {j0:Nat},(vst mp j0 vs).length=vs.length
  | [],_=>rfl
  | v::vs,j0=>by simp [vst,vst_len]
theorem EVRs.at {F:FF} {env:Env} {σ:Slots} {st:Store} {n:Nat} {es:List EV} {ps:List PV} (h:EVRs F env σ st n es ps):∀ (j:Nat) e,es[j]? = some e→∃p,ps[j]? = some p∧EVR F env σ st n e p:=by
  induction h with
  | nil=>intro j e q;simp at q
  | cons a _ ih=>
    intro j e q
    cases j with
    | zero=>simp only [List.getElem?_cons_zero,Option.some.injEq] at q;subst q;exact ⟨_,by simp,a⟩
    | succ j=>obtain ⟨p,h1,h2⟩:=ih j e (by simpa using q);exact ⟨p,by simpa using h1,h2⟩
theorem gets_at {env:Env}:∀ {es:List EV} {vs:List NV},gets env es=some vs→vs.length=es.length∧∀ (j:Nat) e,es[j]? = some e→∃v,vs[j]? = some v∧e.get env=some v
  | [],vs,h=>by cases h;exact ⟨rfl,fun j e q=>by simp at q⟩
  | e::es,vs,h=>by
    simp only [gets,Option.bind_eq_some_iff,Option.map_eq_some_iff] at h
    obtain ⟨v,g1,ws,g2,rfl⟩:=h
    obtain ⟨l,k⟩:=gets_at g2
    refine ⟨by simp [l],fun j e' q=>?_⟩
    cases j with
    | zero=>simp only [List.getElem?_cons_zero,Option.some.injEq] at q;subst q;exact ⟨v,by simp,g1⟩
    | succ j=>obtain ⟨w,h1,h2⟩:=k j e' (by simpa using q);exact ⟨w,by simpa using h1,h2⟩
theorem frIx_mem:∀ {es:List EV} {ps:List PV} {j:Nat} {v:NV} {i:Nat},es[j]? = some (.fr v)→ps[j]? = some (.ref i)→i∈frIx es ps
  | [],_,_,_,_,h,_=>by simp at h
  | _::_,[],_,_,_,_,h=>by simp at h
  | e::es,p::ps,0,v,i,h,q=>by
    simp only [List.getElem?_cons_zero,Option.some.injEq] at h q
    subst h;subst q;simp [frIx]
  | e::es,p::ps,j+1,v,i,h,q=>by
    have:=frIx_mem (es:=es) (ps:=ps) (j:=j) (by simpa using h) (by simpa using q)
    cases e <;> cases p <;> simp_all [frIx]
theorem frIx_inj:∀ {es:List EV} {ps:List PV} {j l:Nat} {v w:NV} {i:Nat},(frIx es ps).Nodup→es[j]? = some (.fr v)→es[l]? = some (.fr w)→ps[j]? = some (.ref i)→ps[l]? = some (.ref i)→j=l
  | [],_,_,_,_,_,_,_,h,_,_,_=>by simp at h
  | _::_,[],_,_,_,_,_,_,_,_,h,_=>by simp at h
  | e::es,p::ps,0,0,_,_,_,_,_,_,_,_=>rfl
  | e::es,p::ps,0,l+1,v,w,i,hn,h1,h2,h3,h4=>by
    simp only [List.getElem?_cons_zero,Option.some.injEq] at h1 h3
    subst h1;subst h3
    simp only [frIx,List.nodup_cons] at hn
    exact absurd (frIx_mem (by simpa using h2) (by simpa using h4)) hn.1
  | e::es,p::ps,j+1,0,v,w,i,hn,h1,h2,h3,h4=>by
    simp only [List.getElem?_cons_zero,Option.some.injEq] at h2 h4
    subst h2;subst h4
    simp only [frIx,List.nodup_cons] at hn
    exact absurd (frIx_mem (by simpa using h1) (by simpa using h3)) hn.1
  | e::es,p::ps,j+1,l+1,v,w,i,hn,h1,h2,h3,h4=>by
    have hn':(frIx es ps).Nodup:=by cases e <;> cases p <;> simp_all [frIx]
    have h1:es[j]? = some (.fr v):=by simpa using h1
    have h2:es[l]? = some (.fr w):=by simpa using h2
    have h3:ps[j]? = some (.ref i):=by simpa using h3
    have h4:ps[l]? = some (.ref i):=by simpa using h4
    rw [frIx_inj hn' h1 h2 h3 h4]
theorem noAlias_of {mp:List Nat} {es:List EV} (h:noAlias mp es=true) {j l k:Nat} (hj:j∈mp) (e1:es[j]? = some (.sl k)) (e2:es[l]? = some (.sl k)):j=l:=by
  unfold noAlias at h
  rw [List.all_eq_true] at h
  have:=h j hj
  rw [e1] at this
  simp only [List.all_eq_true,List.mem_range,Bool.or_eq_true,beq_iff_eq] at this
  have hl:l < es.length:=(List.getElem?_eq_some_iff.mp e2).1
  rcases this l hl with q | q
  · exact q.symm
  · rw [e2] at q;simp at q
theorem outs_at {env:Env}:∀ {mp:List Nat} {os:List NV},outs env mp=some os→os.length=mp.length∧∀ (t:Nat) j,mp[t]? = some j→∃v,os[t]? = some v∧env[j]? = some (.bo v)
  | [],os,h=>by cases h;exact ⟨rfl,fun t j q=>by simp at q⟩
  | j :: mp,os,h=>by
    simp only [outs] at h
    split at h
    · rename_i v q
      simp only [Option.map_eq_some_iff] at h
      obtain ⟨ws,g2,rfl⟩:=h
      obtain ⟨l,k⟩:=outs_at g2
      refine ⟨by simp [l],fun t j' q'=>?_⟩
      cases t with
      | zero=>simp only [List.getElem?_cons_zero,Option.some.injEq] at q';subst q';exact ⟨v,by simp,q⟩
      | succ t=>obtain ⟨w,h1,h2⟩:=k t j' (by simpa using q');exact ⟨w,by simpa using h1,h2⟩
    · cases h
theorem wback_at {es:List EV}:∀ {mp:List Nat} {os:List NV} {env env':Env},wback mp os es env=some env'→mp.Nodup→(∀j∈mp,∀l∈mp,∀k,es[j]? = some (.sl k)→es[l]? = some (.sl k)→j=l) →
    env'.length=env.length∧(∀k,(∀j∈mp,es[j]?≠some (.sl k))→env'[k]? = env[k]?) ∧
    ∀ (t:Nat) j,mp[t]? = some j→(∃v,es[j]? = some (.fr v))∨∃k o s u,es[j]? = some (.sl k)∧os[t]? = some o∧env[k]? = some s∧((s=.ow u∧env'[k]? = some (.ow o))∨(s=.bo u∧env'[k]? = some (.bo o)))
  | [],[],env,env',h,_,_=>by cases h;exact ⟨rfl,fun _ _=>rfl,fun t j q=>by simp at q⟩
  | [],_::_,_,_,h,_,_=>by simp [wback] at h
  | _::_,[],_,_,h,_,_=>by simp [wback] at h
  | j :: mp,o::os,env,env',h,hn,hd=>by
    simp only [List.nodup_cons] at hn
    have hd':∀j∈mp,∀l∈mp,∀k,es[j]? = some (.sl k)→es[l]? = some (.sl k)→j=l:=fun j hj l hl=>hd j (List.mem_cons_of_mem _ hj) l (List.mem_cons_of_mem _ hl)
    simp only [wback] at h
    split at h
    · rename_i k q
      have hk:∀j'∈mp,es[j']?≠some (.sl k):=fun j' hj' e=>hn.1 (by rw [hd j (List.mem_cons_self ..) j' (List.mem_cons_of_mem _ hj') k q e];exact hj')
      have main:∀ (s s':Sl) (u:NV),env[k]? = some s→((s=.ow u∧s'=.ow o)∨(s=.bo u∧s'=.bo o))→wback mp os es (env.set k s')=some env' →
          env'.length=env.length∧(∀l,(∀i∈j::mp,es[i]?≠some (.sl l))→env'[l]? = env[l]?) ∧
          ∀ (t:Nat) i,(j::mp)[t]? = some i→(∃v,es[i]? = some (.fr v))∨∃k o' s u,es[i]? = some (.sl k)∧(o::os)[t]? = some o'∧env[k]? = some s∧((s=.ow u∧env'[k]? = some (.ow o'))∨(s=.bo u∧env'[k]? = some (.bo o'))):=by
        intro s s' u q1 q2 q3
        obtain ⟨l1,l2,l3⟩:=wback_at q3 hn.2 hd'
        have hkl:k < env.length:=(List.getElem?_eq_some_iff.mp q1).1
        have hke:env'[k]? = some s':=by rw [l2 k hk,List.getElem?_set_self hkl]
        refine ⟨by rw [l1,List.length_set],fun l hl=>?_,fun t i ht=>?_⟩
        · rw [l2 l fun i hi=>hl i (List.mem_cons_of_mem _ hi),List.getElem?_set_ne]
          exact fun e=>hl j (List.mem_cons_self ..) (by rw [← e];exact q)
        · cases t with
          | zero=>
            simp only [List.getElem?_cons_zero,Option.some.injEq] at ht
            subst ht
            refine .inr ⟨k,o,s,u,q,by simp,q1,?_⟩
            rcases q2 with ⟨rfl,rfl⟩ | ⟨rfl,rfl⟩
            · exact .inl ⟨rfl,hke⟩
            · exact .inr ⟨rfl,hke⟩
          | succ t=>
            have ht':mp[t]? = some i:=by simpa using ht
            rcases l3 t i ht' with h | ⟨k2,o2,s2,u2,y1,y2,y3,y4⟩
            · exact .inl h
            · refine .inr ⟨k2,o2,s2,u2,y1,by simpa using y2,?_,y4⟩
              have hne:k≠k2:=fun e=>hk i (List.mem_of_getElem? ht') (by rw [e];exact y1)
              rw [List.getElem?_set_ne hne] at y3
              exact y3
      split at h
      · rename_i u q1;exact main _ _ u q1 (.inl ⟨rfl,rfl⟩) h
      · rename_i u q1;exact main _ _ u q1 (.inr ⟨rfl,rfl⟩) h
      · cases h
    · rename_i v q
      obtain ⟨l1,l2,l3⟩:=wback_at h hn.2 hd'
      refine ⟨l1,fun l hl=>l2 l fun i hi=>hl i (List.mem_cons_of_mem _ hi),fun t i ht=>?_⟩
      cases t with
      | zero=>
        simp only [List.getElem?_cons_zero,Option.some.injEq] at ht
        subst ht
        exact .inl ⟨v,q⟩
      | succ t=>
        rcases l3 t i (by simpa using ht) with h | ⟨k2,o2,s2,u2,y1,y2,y3,y4⟩
        · exact .inl h
        · exact .inr ⟨k2,o2,s2,u2,y1,by simpa using y2,y3,y4⟩
    · cases h
theorem frzK_at:∀ {ks:List Nat} {env env':Env},frzK ks env=some env'→env'.length=env.length∧(∀k,k∉ks→env'[k]? = env[k]?)∧∀k∈ks,∃v,(env[k]? = some (.ow v)∨env[k]? = some (.sh v))∧env'[k]? = some (.sh v)
  | [],env,env',h=>by cases h;exact ⟨rfl,fun _ _=>rfl,fun k q=>by simp at q⟩
  | k :: ks,env,env',h=>by
    simp only [frzK] at h
    split at h
    · rename_i v q
      obtain ⟨l1,l2,l3⟩:=frzK_at h
      have hkl:k < env.length:=(List.getElem?_eq_some_iff.mp q).1
      refine ⟨by rw [l1,List.length_set],fun l hl=>?_,fun l hl=>?_⟩
      · simp only [List.mem_cons,not_or] at hl
        rw [l2 l hl.2,List.getElem?_set_ne (fun e=>hl.1 e.symm)]
      · by_cases e:l=k
        · subst e
          refine ⟨v,.inl q,?_⟩
          by_cases hm:l∈ks
          · obtain ⟨w,h1,h2⟩:=l3 l hm
            rw [List.getElem?_set_self hkl] at h1
            simp only [Option.some.injEq,reduceCtorEq,Sl.sh.injEq,false_or] at h1
            subst h1;exact h2
          · rw [l2 l hm,List.getElem?_set_self hkl]
        · have hm:l∈ks:=by simpa [e] using hl
          obtain ⟨w,h1,h2⟩:=l3 l hm
          rw [List.getElem?_set_ne (fun q=>e q.symm)] at h1
          exact ⟨w,h1,h2⟩
    · rename_i v q
      obtain ⟨l1,l2,l3⟩:=frzK_at h
      refine ⟨l1,fun l hl=>l2 l fun q=>hl (List.mem_cons_of_mem _ q),fun l hl=>?_⟩
      by_cases e:l=k
      · subst e
        by_cases hm:l∈ks
        · exact l3 l hm
        · exact ⟨v,.inr q,by rw [l2 l hm];exact q⟩
      · exact l3 l (by simpa [e] using hl)
    · cases h
theorem lent_mem {mp:List Nat}:∀ {es:List EV} {j0 k:Nat},k∈lent mp j0 es↔∃j,es[j]? = some (.sl k)∧j0+j∉mp
  | [],_,_=>by simp [lent]
  | e :: es,j0,k=>by
    have ih:=lent_mem (mp:=mp) (es:=es) (j0:=j0+1) (k:=k)
    have sft:(∃j,(e::es)[j]? = some (.sl k)∧j0+j∉mp)↔((e=.sl k∧j0∉mp)∨∃j,es[j]? = some (.sl k)∧j0+1+j∉mp):=by
      constructor
      · rintro ⟨j,h1,h2⟩
        cases j with
        | zero=>exact .inl ⟨by simpa using h1,h2⟩
        | succ j=>exact .inr ⟨j,by simpa using h1,by rw [show j0+1+j=j0+(j+1) by omega];exact h2⟩
      · rintro (⟨h1,h2⟩ | ⟨j,h1,h2⟩)
        · exact ⟨0,by simp [h1],h2⟩
        · exact ⟨j+1,by simpa using h1,by rw [show j0+(j+1)=j0+1+j by omega];exact h2⟩
    rw [sft]
    cases e with
    | im v=>simp [lent,ih]
    | fr v=>simp [lent,ih]
    | sl l=>
      by_cases hm:mp.contains j0=true
      · simp only [lent,hm,if_true,ih]
        have:j0∈mp:=by simpa using hm
        simp [this]
      · have:j0∉mp:=by simpa using hm
        simp only [lent]
        rw [if_neg hm,List.mem_cons,ih]
        constructor
        · rintro (rfl | h)
          · exact .inl ⟨rfl,this⟩
          · exact .inr h
        · rintro (⟨h,_⟩ | h)
          · simp only [EV.sl.injEq] at h;exact .inl h.symm
          · exact .inr h
theorem ORep.nor {F G:FF} {v:NV} {o:PO} (h:ORep F v o) (q:norefO v=true):ORep G v o:=by?
  cases h with
  | lst r=>exact .lst (r.nor q)
  | set r=>exact .set (r.nor q)
  | dic r=>exact .dic (go r (by simpa only [norefO] using q))
  | dct r=>exact .dct (go r (by simpa only [norefO] using q))
  | obj r t=>
    simp only [norefO,Bool.and_eq_true] at q
    exact .obj (go r q.1) (t.nor q.2)
  | dsk s r t=>
    simp only [norefO,Bool.and_eq_true] at q
    exact .dsk (s.nor q.1) (go r q.2.1) (t.nor q.2.2)
where go:∀ {xs:List (NV×NV)} {ps:List (PV×PV)},VRepd F xs ps→(xs.all fun q=>noref q.1 && noref q.2)=true→VRepd G xs ps
  | _,_,.nil,_=>.nil
  | _,_,.cons a b r,q=>by
    simp only [List.all_cons,Bool.and_eq_true] at q
    exact .cons (a.nor q.1.1) (b.nor q.1.2) (go r q.2)
open Classical in
theorem re_call {f:Fn} {g:VF} {n:Nat} {mp:List Nat} {as:EvA} {as':VA} (hf:RFn f g mp) (hmp:mp.Nodup) (ha:RA as as'):RE (eCall (ofN n f) as) (vCall g n mp as'):=by?
 exact re_gc (m:=fun σ st=>as σ st >>= fun xs=>ofN n f xs.1 xs.2) fun F env σ st r ev env' h=>by
  simp only [vCall,R.bind_ok,grd_ok,ofO_ok] at h
  obtain ⟨⟨es,env1⟩,h1,⟨hl,hal⟩,vs,h2,h3⟩:=h
  dsimp only at hl hal h2 h3
  obtain ⟨ps,st1,F1,e1,G1,V1,n1⟩:=ha F env σ st r es env1 h1
  split at h3
  · rename_i res hg
    obtain ⟨ev0,os⟩:=res
    simp only [R.bind_ok,ofO_ok,Option.bind_eq_some_iff] at h3
    obtain ⟨env3,⟨env2,w1,w2⟩,h4⟩:=h3
    simp only [R.ok.injEq,Prod.mk.injEq] at h4
    obtain ⟨rfl,rfl⟩:=h4
    have r1:=G1.rr
    obtain ⟨gl,ga⟩:=gets_at h2
    have at_:∀ (j:Nat) e,es[j]? = some e→∃p v,ps[j]? = some p∧vs[j]? = some v∧EVR F1 env1 σ st1 st.length e p∧e.get env1=some v:=fun j e q=>by
      obtain ⟨p,a1,a2⟩:=V1.at j e q
      obtain ⟨v,a3,a4⟩:=ga j e q
      exact ⟨p,v,a1,a3,a2,a4⟩
    have atv:∀ (j:Nat) v,vs[j]? = some v→∃e,es[j]? = some e:=fun j v q=>by
      have:j < es.length:=by rw [← gl];exact (List.getElem?_eq_some_iff.mp q).1
      exact ⟨_,List.getElem?_eq_getElem this⟩
    obtain ⟨wl,wk,wm⟩:=wback_at w1 hmp fun j hj l hl k a b=>noAlias_of hal hj a b
    -- the lists that are lent,and the new ones that are only read
    let L:Nat→Prop:=fun i=>∃j k v,es[j]? = some (.sl k)∧j∉mp∧mutV env1 k=some v∧σ[k]? = some (some (.ref i))
    let N:Nat→Prop:=fun i=>∃j v,es[j]? = some (.fr v)∧j∉mp∧ps[j]? = some (.ref i)
    let Fx:FF:=fun i=>if L i∨N i then st1[i]? else F1 i
    have mun:∀k v i,mutV env1 k=some v→σ[k]? = some (some (.ref i))→F1 i=none∧∃o,st1[i]? = some o∧ORep F1 v o:=fun k v i q1 q2=>by
      obtain ⟨i',o,y1,y2,y3,y4⟩:=r1.mu k v q1
      rw [q2] at y1
      simp only [Option.some.injEq,PV.ref.injEq] at y1
      subst y1;exact ⟨y2,o,y3,y4⟩
    have fru:∀ (j:Nat) v i,es[j]? = some (.fr v)→ps[j]? = some (.ref i)→st.length≤i∧F1 i=none∧(∃o,st1[i]? = some o∧ORep F1 v o)∧¬ Ow env1 σ i:=fun j v i q1 q2=>by
      obtain ⟨p,v',y1,y2,y3,y4⟩:=at_ j _ q1
      rw [q2] at y1
      simp only [Option.some.injEq] at y1
      subst y1
      obtain ⟨i',o,z1,z2,z3,z4,z5,z6⟩:=y3
      simp only [PV.ref.injEq] at z1
      subst z1
      exact ⟨z2,z3,⟨o,z4,z5⟩,z6⟩
    have LO:∀i,L i→Ow env1 σ i:=fun i ⟨j,k,v,q1,q2,q3,q4⟩=>⟨k,v,q3,q4⟩
    have LF:∀i,L i∨N i→F1 i=none:=fun i q=>by
      rcases q with ⟨j,k,v,q1,q2,q3,q4⟩ | ⟨j,v,q1,q2,q3⟩
      · exact (mun k v i q3 q4).1
      · exact (fru j v i q1 q3).2.1
    have x1:∀i o,F1 i=some o→Fx i=some o:=fun i o q=>by
      show (if L i∨N i then st1[i]? else F1 i)=_
      rw [if_neg (fun z=>by rw [LF i z] at q;cases q)];exact q
    have xL:∀i,L i∨N i→Fx i=st1[i]?:=fun i q=>if_pos q
    have xN:∀i,¬ L i→¬ N i→Fx i=F1 i:=fun i q1 q2=>if_neg (fun z=>z.elim q1 q2)
    have slσ:∀ (j k:Nat),es[j]? = some (.sl k)→∀p,ps[j]? = some p→σ[k]? = some (some p):=fun j k q p q2=>by
      obtain ⟨p',v,y1,y2,y3,y4⟩:=at_ j _ q
      rw [q2] at y1
      simp only [Option.some.injEq] at y1
      subst y1;exact y3
    -- what stands at the places of mp
    have atM:∀j∈mp,∀v,vs[j]? = some v→∃i o,ps[j]? = some (.ref i)∧F1 i=none∧st1[i]? = some o∧ORep F1 v o∧¬ L i∧¬ N i:=fun j hj v hv=>by
      obtain ⟨t,ht⟩:=List.getElem?_of_mem hj
      rcases wm t j ht with ⟨v',q⟩ | ⟨k,o,s,u,q1,q2,q3,q4⟩
      · obtain ⟨p,v2,y1,y2,y3,y4⟩:=at_ j _ q
        rw [hv] at y2
        simp only [Option.some.injEq] at y2
        subst y2
        simp only [EV.get,Option.some.injEq] at y4
        subst y4
        obtain ⟨i,o,z1,z2,z3,z4,z5,z6⟩:=y3
        subst z1
        refine ⟨i,o,y1,z3,z4,z5,fun z=>z6 (LO i z),fun ⟨j',v'',a1,a2,a3⟩=>?_⟩
        exact a2 (by rw [← frIx_inj n1 q a1 y1 a3];exact hj)
      · obtain ⟨p,v2,y1,y2,y3,y4⟩:=at_ j _ q1
        rw [hv] at y2
        simp only [Option.some.injEq] at y2
        subst y2
        have hm:mutV env1 k=some u:=by unfold mutV;rw [q3];rcases q4 with ⟨rfl,_⟩ | ⟨rfl,_⟩ <;> rfl
        have:u=v:=by
          have:=mutV_val hm
          simp only [EV.get] at y4
          rw [y4] at this
          simpa using this.symm
        subst this
        obtain ⟨i,o',z1,z2,z3,z4⟩:=r1.mu k u hm
        have y3:σ[k]? = some (some p):=y3
        rw [y3] at z1
        simp only [Option.some.injEq] at z1
        subst z1
        refine ⟨i,o',y1,z2,z3,z4,fun ⟨j',k',v',a1,a2,a3,a4⟩=>?_,fun ⟨j',v',a1,a2,a3⟩=>?_⟩
        · have:=r1.dj k' k v' u i a3 hm a4 y3
          subst this
          exact a2 (by rw [← noAlias_of hal hj q1 a1];exact hj)
        · exact (fru j' v' i a1 a3).2.2.2 ⟨k,u,hm,y3⟩
    have rc : RR Fx (vst mp 0 vs) (ps.map some) st1:=by
      refine ⟨?_,fun i o q=>?_,r1.wf,fun j v q=>?_,fun j v q=>?_,fun j p q=>?_,fun j l v w i q1 q2 q3 q4=>?_⟩
      · rw [vst_len,List.length_map,gl,V1.length]
      · by_cases z:L i∨N i
        · rw [xL i z] at q;exact q
        · rw [xN i (fun y=>z (.inl y)) (fun y=>z (.inr y))] at q;exact r1.sub i o q
      · rw [vst_get] at q
        simp only [Nat.zero_add,Option.map_eq_some_iff] at q
        obtain ⟨v',a1,a2⟩:=q
        by_cases hj:mp.contains j=true
        · rw [if_pos hj] at a2;cases a2
        · rw [if_neg hj] at a2
          simp only [Sl.sh.injEq] at a2
          subst a2
          have hj:j∉mp:=by simpa using hj
          obtain ⟨e,he⟩:=atv j _ a1
          obtain ⟨p,v2,y1,y2,y3,y4⟩:=at_ j e he
          rw [a1] at y2
          simp only [Option.some.injEq] at y2
          subst y2
          refine ⟨p,by simp [y1],?_⟩
          cases e with
          | im w=>
            simp only [EV.get,Option.some.injEq] at y4
            subst y4;exact VRep.mono x1 y3
          | fr w=>
            simp only [EV.get,Option.some.injEq] at y4
            subst y4
            obtain ⟨i,o,z1,z2,z3,z4,z5,z6⟩:=y3
            subst z1
            exact ORep.toV (z5.mono x1) (by rw [xL i (.inr ⟨j,_,he,hj,y1⟩)];exact z4)
          | sl k=>
            have y3:σ[k]? = some (some p):=y3
            rcases val_cases y4 with z | z
            · obtain ⟨p',b1,b2⟩:=r1.sh k _ z
              rw [y3] at b1
              simp only [Option.some.injEq] at b1
              subst b1;exact b2.mono x1
            · obtain ⟨i,o,b1,b2,b3,b4⟩:=r1.mu k _ z
              rw [y3] at b1
              simp only [Option.some.injEq] at b1
              subst b1
              exact ORep.toV (b4.mono x1) (by rw [xL i (.inl ⟨j,k,_,he,hj,z,y3⟩)];exact b3)
      · unfold mutV at q
        rw [vst_get] at q
        cases hv:vs[j]? with
        | none=>simp [hv] at q
        | some v'=>
          simp only [hv,Nat.zero_add,Option.map_some,Option.bind_some] at q
          by_cases hj:mp.contains j=true
          · rw [if_pos hj] at q
            simp only [Sl.mut,Option.some.injEq] at q
            subst q
            obtain ⟨i,o,b1,b2,b3,b4,b5,b6⟩:=atM j (by simpa using hj) _ hv
            exact ⟨i,o,by simp [b1],by rw [xN i b5 b6];exact b2,b3,b4.mono x1⟩
          · rw [if_neg hj] at q;cases q
      · simp only [List.getElem?_map,Option.map_eq_some_iff,Option.some.injEq] at q
        obtain ⟨p',a1,rfl⟩:=q
        have:j < es.length:=by rw [V1.length];exact (List.getElem?_eq_some_iff.mp a1).1
        obtain ⟨p2,v2,y1,y2,y3,y4⟩:=at_ j _ (List.getElem?_eq_getElem this)
        rw [a1] at y1
        simp only [Option.some.injEq] at y1
        subst y1
        cases hE:es[j] with
        | im w=>rw [hE] at y3;exact VRep.lt r1.ltF y3
        | fr w=>
          rw [hE] at y3
          obtain ⟨i,o,z1,z2,z3,z4,z5,z6⟩:=y3
          subst z1
          simp only [refsLt,decide_eq_true_eq];exact get_lt z4
        | sl k=>rw [hE] at y3;exact r1.rf k _ y3
      · have mm:∀ (j:Nat) v,mutV (vst mp 0 vs) j=some v→j∈mp∧∃v,vs[j]? = some v:=fun j v q=>by
          unfold mutV at q
          rw [vst_get] at q
          cases hv:vs[j]? with
          | none=>simp [hv] at q
          | some v'=>
            simp only [hv,Nat.zero_add,Option.map_some,Option.bind_some] at q
            by_cases hj:mp.contains j=true
            · exact ⟨by simpa using hj,v',rfl⟩
            · rw [if_neg hj] at q;cases q
        obtain ⟨m1,v1,hv1⟩:=mm j v q1
        obtain ⟨m2,v2,hv2⟩:=mm l w q2
        simp only [List.getElem?_map,Option.map_eq_some_iff,Option.some.injEq] at q3 q4
        obtain ⟨p3,q3,rfl⟩:=q3
        obtain ⟨p4,q4,rfl⟩:=q4
        obtain ⟨t1,ht1⟩:=List.getElem?_of_mem m1
        obtain ⟨t2,ht2⟩:=List.getElem?_of_mem m2
        have mu_of:∀ {k o s u},env1[k]? = some s→((s=Sl.ow u∧env2[k]? = some (.ow o))∨(s=.bo u∧env2[k]? = some (.bo o)))→mutV env1 k=some u:=fun {k o s u} c1 c2=>by unfold mutV;rw [c1];rcases c2 with ⟨rfl,_⟩ | ⟨rfl,_⟩ <;> rfl
        rcases wm t1 j ht1 with ⟨v',c1⟩ | ⟨k,o,s,u,c1,c2,c3,c4⟩
        · rcases wm t2 l ht2 with ⟨v'',d1⟩ | ⟨k',o',s',u',d1,d2,d3,d4⟩
          · exact frIx_inj n1 c1 d1 q3 q4
          · exact absurd ⟨k',u',mu_of d3 d4,slσ l k' d1 _ q4⟩ (fru j v' i c1 q3).2.2.2
        · rcases wm t2 l ht2 with ⟨v'',d1⟩ | ⟨k',o',s',u',d1,d2,d3,d4⟩
          · exact absurd ⟨k,u,mu_of c3 c4,slσ j k c1 _ q3⟩ (fru l v'' i d1 q4).2.2.2
          · have:=r1.dj k k' u u' i (mu_of c3 c4) (mu_of d3 d4) (slσ j k c1 _ q3) (slσ l k' d1 _ q4)
            subst this
            exact noAlias_of hal m1 c1 d1
    obtain ⟨rv,st2,F2,envf,e2,Gc,ho,Vr,nsl⟩:=hf Fx st1 vs ps rc ev0 os hg
    obtain ⟨ol,oa⟩:=outs_at ho
    -- who owns an object within the call
    have M_of:∀i,Ow (vst mp 0 vs) (ps.map some) i→∃j∈mp,ps[j]? = some (.ref i)∧((∃v,es[j]? = some (.fr v))∨∃k u,es[j]? = some (.sl k)∧mutV env1 k=some u∧σ[k]? = some (some (.ref i))):=fun i ⟨j,v,q1,q2⟩=>by
      unfold mutV at q1
      rw [vst_get] at q1
      cases hv:vs[j]? with
      | none=>simp [hv] at q1
      | some v'=>
        simp only [hv,Nat.zero_add,Option.map_some,Option.bind_some] at q1
        by_cases hj:mp.contains j=true
        · have hj:j∈mp:=by simpa using hj
          simp only [List.getElem?_map,Option.map_eq_some_iff,Option.some.injEq] at q2
          obtain ⟨p,q2,rfl⟩:=q2
          obtain ⟨t,ht⟩:=List.getElem?_of_mem hj
          refine ⟨j,hj,q2,?_⟩
          rcases wm t j ht with h | ⟨k,o,s,u,c1,c2,c3,c4⟩
          · exact .inl h
          · exact .inr ⟨k,u,c1,by unfold mutV;rw [c3];rcases c4 with ⟨rfl,_⟩ | ⟨rfl,_⟩ <;> rfl,slσ j k c1 _ q2⟩
        · rw [if_neg hj] at q1;cases q1
    let b:Bool:=lendOk ev0 os
    let F3:FF:=fun i=>if b=true∧L i then none else F2 i
    have y1:∀i o,F1 i=some o→F3 i=some o:=fun i o q=>by
      show (if b=true∧L i then none else F2 i)=_
      rw [if_neg (fun z=>by rw [LF i (.inl z.2)] at q;cases q)]
      exact Gc.ext i o (x1 i o q)
    have y2:∀i o,F3 i=some o→F2 i=some o:=fun i o q=>by
      have q:(if b=true∧L i then none else F2 i)=some o:=q
      split at q
      · cases q
      · exact q
    have y3:∀i,F2 i=none→F3 i=none:=fun i q=>by
      show (if b=true∧L i then none else F2 i)=_
      split
      · rfl
      · exact q
    have ybf:b=false→F3=F2:=fun q=>by funext i;show (if b=true∧L i then none else F2 i)=_;rw [if_neg (by simp [q])]
    have nor:b=true→(∀v,ev0=.im v→noref v=true)∧(∀v,ev0=.fr v→norefO v=true)∧∀o∈os,norefO o=true:=fun q=>by
      have q:lendOk ev0 os=true:=q
      unfold lendOk at q
      simp only [Bool.and_eq_true,List.all_eq_true] at q
      refine ⟨fun v e=>?_,fun v e=>?_,q.2⟩
      · subst e;exact q.1
      · subst e;exact q.1
    have orep3:∀ {v o},ORep F2 v o→(b=true→norefO v=true)→ORep F3 v o:=fun {v o} q z=>by
      cases hb:b with
      | true=>exact q.nor (z hb)
      | false=>rw [ybf hb];exact q
    -- the slots behind the call
    have lm:∀k,k∈lent mp 0 es↔∃j,es[j]? = some (.sl k)∧j∉mp:=fun k=>by simpa using lent_mem (mp:=mp) (es:=es) (j0:=0) (k:=k)
    have fin:env3.length=env2.length∧(∀k,k∉lent mp 0 es→env3[k]? = env2[k]?)∧∀k∈lent mp 0 es,(b=true∧env3[k]? = env2[k]?)∨(b=false∧∃v,(env2[k]? = some (.ow v)∨env2[k]? = some (.sh v))∧env3[k]? = some (.sh v)):=by
      have w2:lend (lent mp 0 es) b env2=some env3:=w2
      unfold lend at w2
      cases hb:b with
      | true=>
        rw [hb] at w2
        simp only [if_true,Option.some.injEq] at w2
        subst w2
        exact ⟨rfl,fun _ _=>rfl,fun _ _=>.inl ⟨rfl,rfl⟩⟩
      | false=>
        rw [hb] at w2
        simp only [Bool.false_eq_true,if_false] at w2
        obtain ⟨a1,a2,a3⟩:=frzK_at w2
        exact ⟨a1,a2,fun k hk=>.inr ⟨rfl,a3 k hk⟩⟩
    obtain ⟨fl,fk,fm⟩:=fin
    have slot:∀ (k:Nat),(∃ (t j:Nat) (o:NV) (s:Sl) (u:NV),mp[t]? = some j∧es[j]? = some (.sl k)∧os[t]? = some o∧env1[k]? = some s∧((s=.ow u∧env3[k]? = some (.ow o))∨(s=.bo u∧env3[k]? = some (.bo o)))) ∨
        ((∀j∈mp,es[j]?≠some (.sl k))∧(∃ (j:Nat),es[j]? = some (.sl k)∧j∉mp)∧((b=true∧env3[k]? = env1[k]?)∨(b=false∧∃v,(env1[k]? = some (.ow v)∨env1[k]? = some (.sh v))∧env3[k]? = some (.sh v)))) ∨
        ((∀ (j:Nat),es[j]?≠some (.sl k))∧env3[k]? = env1[k]?):=fun k=>by
      by_cases hA:∃j∈mp,es[j]? = some (.sl k)
      · obtain ⟨j,hj,hs⟩:=hA
        obtain ⟨t,ht⟩:=List.getElem?_of_mem hj
        rcases wm t j ht with ⟨v,h⟩ | ⟨k',o,s,u,c1,c2,c3,c4⟩
        · rw [hs] at h;cases h
        · rw [hs] at c1
          simp only [Option.some.injEq,EV.sl.injEq] at c1
          subst c1
          have nl:k∉lent mp 0 es:=fun z=>by
            obtain ⟨j',a1,a2⟩:=(lm k).mp z
            exact a2 (by rw [← noAlias_of hal hj hs a1];exact hj)
          rw [← fk k nl] at c4
          exact .inl ⟨t,j,o,s,u,ht,hs,c2,c3,c4⟩
      · have hA':∀j∈mp,es[j]?≠some (.sl k):=fun j hj e=>hA ⟨j,hj,e⟩
        have e2:=wk k hA'
        by_cases hB:∃ (j:Nat),es[j]? = some (.sl k)∧j∉mp
        · refine .inr (.inl ⟨hA',hB,?_⟩)
          have:=fm k ((lm k).mpr hB)
          rw [e2] at this
          exact this
        · refine .inr (.inr ⟨fun j e=>?_,by rw [fk k (fun z=>hB ((lm k).mp z)),e2]⟩)
          by_cases hj:j∈mp
          · exact hA' j hj e
          · exact hB ⟨j,e,hj⟩
    have mut3:∀k v,mutV env3 k=some v→∃w,mutV env1 k=some w:=fun k v q=>by
      rcases slot k with ⟨t,j,o,s,u,c0,c1,c2,c3,c4⟩ | ⟨c1,c2,c3⟩ | ⟨c1,c2⟩
      · exact ⟨u,by unfold mutV;rw [c3];rcases c4 with ⟨rfl,_⟩ | ⟨rfl,_⟩ <;> rfl⟩
      · rcases c3 with ⟨_,c3⟩ | ⟨_,v',_,c3⟩
        · exact ⟨v,by unfold mutV at q ⊢;rw [← c3];exact q⟩
        · unfold mutV at q;rw [c3] at q;cases q
      · exact ⟨v,by unfold mutV at q ⊢;rw [← c2];exact q⟩
    have ow3:∀i,Ow env3 σ i→Ow env1 σ i:=fun i ⟨k,v,q1,q2⟩=>by
      obtain ⟨w,q⟩:=mut3 k v q1
      exact ⟨k,w,q,q2⟩
    have noM:∀k v i,mutV env1 k=some v→σ[k]? = some (some (.ref i))→(∀j∈mp,es[j]?≠some (.sl k))→¬ Ow (vst mp 0 vs) (ps.map some) i:=fun k v i q1 q2 q3 z=>by
      obtain ⟨j,hj,hp,h⟩:=M_of i z
      rcases h with ⟨v',h⟩ | ⟨k',u,h1,h2,h3⟩
      · exact (fru j v' i h hp).2.2.2 ⟨k,v,q1,q2⟩
      · have:=r1.dj k' k u v i h2 q1 h3 q2
        subst this
        exact q3 j hj h1
    have R3 : RR F3 env3 σ st2:=by
      refine ⟨by rw [fl,wl];exact r1.len,fun i o q=>Gc.rr.sub i o (y2 i o q),Gc.rr.wf,fun k v q=>?_,fun k v q=>?_,fun k p q=>refsLt_mono Gc.le p (r1.rf k p q),fun k l v w i q1 q2 q3 q4=>?_⟩
      · rcases slot k with ⟨t,j,o,s,u,c0,c1,c2,c3,c4⟩ | ⟨c1,⟨j,c2,c2'⟩,c3⟩ | ⟨c1,c2⟩
        · rw [q] at c4;rcases c4 with ⟨_,c4⟩ | ⟨_,c4⟩ <;> cases c4
        · rcases c3 with ⟨_,c3⟩ | ⟨hb,v',c4,c3⟩
          · rw [q] at c3
            obtain ⟨p,z1,z2⟩:=r1.sh k v c3.symm
            exact ⟨p,z1,z2.mono y1⟩
          · rw [q] at c3
            simp only [Option.some.injEq,Sl.sh.injEq] at c3
            subst c3
            rcases c4 with c4 | c4
            · have hm:mutV env1 k=some v:=by unfold mutV;rw [c4];rfl
              obtain ⟨i,o,z1,z2,z3,z4⟩:=r1.mu k v hm
              refine ⟨_,z1,ORep.toV (o:=o) (z4.mono y1) ?_⟩
              rw [ybf hb]
              exact Gc.ext i o (by rw [xL i (.inl ⟨j,k,v,c2,c2',hm,z1⟩)];exact z3)
            · obtain ⟨p,z1,z2⟩:=r1.sh k v c4
              exact ⟨p,z1,z2.mono y1⟩
        · rw [q] at c2
          obtain ⟨p,z1,z2⟩:=r1.sh k v c2.symm
          exact ⟨p,z1,z2.mono y1⟩
      · rcases slot k with ⟨t,j,o,s,u,c0,c1,c2,c3,c4⟩ | ⟨c1,⟨j,c2,c2'⟩,c3⟩ | ⟨c1,c2⟩
        · have hv:v=o:=by
            unfold mutV at q
            rcases c4 with ⟨_,c4⟩ | ⟨_,c4⟩ <;> (rw [c4] at q;simpa [Sl.mut] using q.symm)
          subst hv
          obtain ⟨v',a1,a2⟩:=oa t j c0
          rw [c2] at a1
          simp only [Option.some.injEq] at a1
          subst a1
          have hm:mutV envf j=some v:=by unfold mutV;rw [a2];rfl
          obtain ⟨i,o',z1,z2,z3,z4⟩:=Gc.rr.mu j v hm
          simp only [List.getElem?_map,Option.map_eq_some_iff,Option.some.injEq] at z1
          obtain ⟨p,z1,rfl⟩:=z1
          exact ⟨i,o',slσ j k c1 _ z1,y3 i z2,z3,orep3 z4 fun hb=>(nor hb).2.2 v (List.mem_of_getElem? c2)⟩
        · rcases c3 with ⟨hb,c3⟩ | ⟨hb,v',c4,c3⟩
          · have hm:mutV env1 k=some v:=by unfold mutV at q ⊢;rw [← c3];exact q
            obtain ⟨i,o,z1,z2,z3,z4⟩:=r1.mu k v hm
            obtain ⟨f1,f2⟩:=Gc.frm i (get_lt z3) (noM k v i hm z1 c1)
            refine ⟨i,o,z1,?_,by rw [f1];exact z3,z4.mono y1⟩
            show (if b=true∧L i then none else F2 i)=_
            rw [if_pos ⟨hb,j,k,v,c2,c2',hm,z1⟩]
          · unfold mutV at q;rw [c3] at q;cases q
        · have hm:mutV env1 k=some v:=by unfold mutV at q ⊢;rw [← c2];exact q
          obtain ⟨i,o,z1,z2,z3,z4⟩:=r1.mu k v hm
          obtain ⟨f1,f2⟩:=Gc.frm i (get_lt z3) (noM k v i hm z1 fun j _=>c1 j)
          refine ⟨i,o,z1,y3 i ?_,by rw [f1];exact z3,z4.mono y1⟩
          rw [f2,xN i (fun ⟨j',k',v',a1,a2,a3,a4⟩=>?_) (fun ⟨j',v',a1,a2,a3⟩=>?_)]
          · exact z2
          · have:=r1.dj k' k v' v i a3 hm a4 z1
            subst this
            exact c1 j' a1
          · exact (fru j' v' i a1 a3).2.2.2 ⟨k,v,hm,z1⟩
      · obtain ⟨v',q1⟩:=mut3 k v q1
        obtain ⟨w',q2⟩:=mut3 l w q2
        exact r1.dj k l v' w' i q1 q2 q3 q4
    have G:Go F env σ st F3 env3 σ st2:=by
      refine ⟨R3,fun i o q=>y1 i o (G1.ext i o q),fun i hi hn=>?_,Nat.le_trans G1.le Gc.le,fun i q=>G1.own i (ow3 i q),fun k v q=>⟨rfl,?_⟩⟩
      · obtain ⟨a1,a2⟩:=G1.frm i hi hn
        have hn1:¬ Ow env1 σ i:=fun z=>(G1.own i z).elim hn fun z=>absurd hi (Nat.not_lt.mpr z)
        have hi1:=Nat.lt_of_lt_of_le hi G1.le
        have nL:¬ L i:=fun z=>hn1 (LO i z)
        have nN:¬ N i:=fun ⟨j,v,b1,b2,b3⟩=>absurd hi (Nat.not_lt.mpr (fru j v i b1 b3).1)
        obtain ⟨f1,f2⟩:=Gc.frm i hi1 fun z=>by
          obtain ⟨j,hj,hp,h⟩:=M_of i z
          rcases h with ⟨v',h⟩ | ⟨k',u,h1,h2,h3⟩
          · exact absurd hi (Nat.not_lt.mpr (fru j v' i h hp).1)
          · exact hn1 ⟨k',u,h2,h3⟩
        refine ⟨by rw [f1,a1],?_⟩
        show (if b=true∧L i then none else F2 i)=_
        rw [if_neg (fun z=>nL z.2),f2,xN i nL nN,a2]
      · obtain ⟨_,v',q'⟩:=G1.pin k v q
        rcases slot k with ⟨t,j,o,s,u,c0,c1,c2,c3,c4⟩ | ⟨c1,c2,c3⟩ | ⟨c1,c2⟩
        · rw [q'] at c3
          simp only [Option.some.injEq] at c3
          subst c3
          rcases c4 with ⟨e,_⟩ | ⟨_,e⟩
          · cases e
          · exact ⟨o,e⟩
        · rcases c3 with ⟨_,c3⟩ | ⟨_,v'',c4,_⟩
          · exact ⟨v',by rw [c3];exact q'⟩
          · rw [q'] at c4;rcases c4 with c4 | c4 <;> cases c4
        · exact ⟨v',by rw [c2];exact q'⟩
    refine ⟨rv,st2,F3,?_,G,?_⟩
    · show (as σ st >>= _)=_
      rw [e1]
      simp only [bind_ok]
      unfold ofN
      rw [if_pos (by rw [← V1.length];exact hl)]
      exact e2
    · cases hE:ev0 with
      | sl k=>exact absurd hE (nsl k)
      | im v=>
        rw [hE] at Vr
        have Vr:VRep F2 v rv:=Vr
        show VRep F3 v rv
        cases hb:b with
        | true=>exact Vr.nor ((nor hb).1 v hE)
        | false=>rw [ybf hb];exact Vr
      | fr v=>
        rw [hE] at Vr
        obtain ⟨i,o,z1,z2,z3,z4,z5,z6⟩:=Vr
        exact ⟨i,o,z1,Nat.le_trans G1.le z2,y3 i z3,z4,orep3 z5 fun hb=>(nor hb).2.1 v hE,fun z=>r1.notOw z2 (ow3 i z)⟩
  · simp only [R.bind_ok] at h3
    obtain ⟨_,_,h⟩:=h3
    cases h
  · cases h3
section
variable {F F0 F1:FF} {env env0 env1 env2:Env} {σ σ0 σ1:Slots} {st st0 st1:Store}
theorem σset_get {i l:Nat} {p:PV} (hl:i < σ.length):(σ.set i (some p))[l]? = if i=l then some (some p) else σ[l]?:=by
  rw [List.getElem?_set];split <;> simp [hl]
/-- a slot gets a value -/
theorem RR.setSh (r:RR F env σ st) {i:Nat} {v:NV} {p:PV} (hb:∀w,env[i]?≠some (.bo w)) (h:VRep F v p):Go F env σ st F (env.set i (.sh v)) (σ.set i (some p)) st:=by?
  by_cases hi:i < env.length
  · have hi':i < σ.length:=by rw [← r.len];exact hi
    refine ⟨⟨by simp [r.len],r.sub,r.wf,fun l w q=>?_,fun l w q=>?_,fun l q hq=>?_,fun l l' w w' j q q' q2 q3=>?_⟩,fun _ _ q=>q,fun _ _ _=>⟨rfl,rfl⟩,Nat.le_refl _,fun j q=>?_,fun l w q=>?_⟩
    · rcases set_get q with ⟨e1,e2,_⟩ | ⟨e1,e2⟩
      · subst e1;cases e2
        exact ⟨p,by rw [σset_get hi',if_pos rfl],h⟩
      · obtain ⟨p',q1,q2⟩:=r.sh l w e2
        exact ⟨p',by rw [σset_get hi',if_neg (fun e=>e1 e.symm)];exact q1,q2⟩
    · rcases mutV_set q with ⟨e1,e2⟩ | ⟨e1,e2⟩
      · cases e2
      · obtain ⟨j,o,q1,q2⟩:=r.mu l w e2
        exact ⟨j,o,by rw [σset_get hi',if_neg (fun e=>e1 e.symm)];exact q1,q2⟩
    · rw [σset_get hi'] at hq
      split at hq
      · cases hq;exact h.lt r.ltF
      · exact r.rf l q hq
    · rcases mutV_set q with ⟨e1,e2⟩ | ⟨e1,e2⟩
      · cases e2
      · rcases mutV_set q' with ⟨e3,e4⟩ | ⟨e3,e4⟩
        · cases e4
        · rw [σset_get hi',if_neg (fun e=>e1 e.symm)] at q2
          rw [σset_get hi',if_neg (fun e=>e3 e.symm)] at q3
          exact r.dj l l' w w' j e2 e4 q2 q3
    · obtain ⟨l,w,q1,q2⟩:=q
      rcases mutV_set q1 with ⟨e1,e2⟩ | ⟨e1,e2⟩
      · cases e2
      · rw [σset_get hi',if_neg (fun e=>e1 e.symm)] at q2
        exact .inl ⟨l,w,e2,q2⟩
    · have hne:i≠l:=fun e=>by subst e;exact hb w q
      exact ⟨by rw [σset_get hi',if_neg hne],w,by rw [List.getElem?_set_ne hne];exact q⟩
  · have e1:env.set i (.sh v)=env:=List.set_eq_of_length_le (by omega)
    have e2:σ.set i (some p)=σ:=List.set_eq_of_length_le (by rw [← r.len];omega)
    rw [e1,e2];exact .refl r
/-- a slot gets a new list -/
theorem Go.setOw (g:Go F0 env0 σ0 st0 F env σ st) {i:Nat} {v:NV} {p:PV} (hb:∀w,env[i]?≠some (.bo w)) (h:EVR F env σ st st0.length (.fr v) p):Go F0 env0 σ0 st0 F (env.set i (.ow v)) (σ.set i (some p)) st:=by?
  have r:=g.rr
  obtain ⟨a,o,rfl,h2,h3,h4,h5,h6⟩:=h
  by_cases hi:i < env.length
  · have hi':i < σ.length:=by rw [← r.len];exact hi
    have gi:(σ.set i (some (.ref a)))[i]? = some (some (.ref a)):=by rw [σset_get hi',if_pos rfl]
    refine ⟨⟨by simp [r.len],r.sub,r.wf,fun l w q=>?_,fun l w q=>?_,fun l q hq=>?_,fun l l' w w' j q q' q2 q3=>?_⟩,g.ext,g.frm,g.le,fun j q=>?_,fun l w q=>?_⟩
    · rcases set_get q with ⟨e1,e2,_⟩ | ⟨e1,e2⟩
      · cases e2
      · obtain ⟨p',q1,q2⟩:=r.sh l w e2
        exact ⟨p',by rw [σset_get hi',if_neg (fun e=>e1 e.symm)];exact q1,q2⟩
    · rcases mutV_set q with ⟨e1,e2⟩ | ⟨e1,e2⟩
      · subst e1;cases e2
        exact ⟨a,o,gi,h3,h4,h5⟩
      · obtain ⟨j,o,q1,q2⟩:=r.mu l w e2
        exact ⟨j,o,by rw [σset_get hi',if_neg (fun e=>e1 e.symm)];exact q1,q2⟩
    · rw [σset_get hi'] at hq
      split at hq
      · cases hq;simp only [refsLt,decide_eq_true_eq];exact get_lt h4
      · exact r.rf l q hq
    · rcases mutV_set q with ⟨e1,e2⟩ | ⟨e1,e2⟩
      · rcases mutV_set q' with ⟨e3,e4⟩ | ⟨e3,e4⟩
        · rw [e1,e3]
        · subst e1
          rw [gi] at q2
          simp only [Option.some.injEq,PV.ref.injEq] at q2
          subst q2
          rw [σset_get hi',if_neg (fun e=>e3 e.symm)] at q3
          exact absurd ⟨l',w',e4,q3⟩ h6
      · rcases mutV_set q' with ⟨e3,e4⟩ | ⟨e3,e4⟩
        · subst e3
          rw [gi] at q3
          simp only [Option.some.injEq,PV.ref.injEq] at q3
          subst q3
          rw [σset_get hi',if_neg (fun e=>e1 e.symm)] at q2
          exact absurd ⟨l,w,e2,q2⟩ h6
        · rw [σset_get hi',if_neg (fun e=>e1 e.symm)] at q2
          rw [σset_get hi',if_neg (fun e=>e3 e.symm)] at q3
          exact r.dj l l' w w' j e2 e4 q2 q3
    · obtain ⟨l,w,q1,q2⟩:=q
      rcases mutV_set q1 with ⟨e1,e2⟩ | ⟨e1,e2⟩
      · subst e1
        rw [gi] at q2
        simp only [Option.some.injEq,PV.ref.injEq] at q2
        subst q2
        exact .inr h2
      · rw [σset_get hi',if_neg (fun e=>e1 e.symm)] at q2
        exact g.own j ⟨l,w,e2,q2⟩
    · obtain ⟨q1,w',q2⟩:=g.pin l w q
      have hne:i≠l:=fun e=>by subst e;exact hb w' q2
      exact ⟨by rw [σset_get hi',if_neg hne];exact q1,w',by rw [List.getElem?_set_ne hne];exact q2⟩
  · have e1:env.set i (.ow v)=env:=List.set_eq_of_length_le (by omega)
    have e2:σ.set i (some (.ref a))=σ:=List.set_eq_of_length_le (by rw [← r.len];omega)
    rw [e1,e2];exact g
mutual
theorem put_go:∀ (g:Tg) {v:NV} {p:PV} {env env':Env} {σ:Slots},RR F env σ st→VRep F v p→vPut g v env=some env'→∃σ',Tg.put g p σ=some σ'∧Go F env σ st F env' σ' st
  | .nm i,v,p,env,env',σ,r,h,q=>by
    simp only [vPut] at q
    split at q
    · cases q
    · rename_i hb
      simp only [Option.some.injEq] at q
      subst q
      exact ⟨_,rfl,r.setSh (fun w z=>hb w z) h⟩
  | .tp ts,v,p,env,env',σ,r,h,q=>by
    cases h with
    | tup hs=>exact puts_go ts r hs (by simpa only [vPut] using q)
    | _=>simp [vPut] at q
theorem puts_go:∀ (g:List Tg) {v:List NV} {p:List PV} {env env':Env} {σ:Slots},RR F env σ st→VReps F v p→vPuts g v env=some env'→∃σ',Tg.puts g p σ=some σ'∧Go F env σ st F env' σ' st
  | [],_,_,env,env',σ,r,.nil,q=>by
    simp only [vPuts,Option.some.injEq] at q
    subst q
    exact ⟨σ,rfl,.refl r⟩
  | [],_,_,_,_,_,_,.cons _ _,q=>by simp [vPuts] at q
  | _::_,_,_,_,_,_,_,.nil,q=>by simp [vPuts] at q
  | t::ts,_,_,env,env',σ,r,.cons h hs,q=>by
    simp only [vPuts,Option.bind_eq_some_iff] at q
    obtain ⟨e1,q1,q2⟩:=q
    obtain ⟨σ1,h1,g1⟩:=put_go t r h q1
    obtain ⟨σ2,h2,g2⟩:=puts_go ts g1.rr hs q2
    exact ⟨σ2,by simp only [Tg.puts,h1,h2],g1.trans g2⟩
end
theorem gPut_go {g:Tg} {v:NV} {p:PV} {env env':Env} {σ:Slots} (r:RR F env σ st) (h:VRep F v p) (q:vPut g v env=some env'):∃σ',gPut g p σ=.ok σ'∧Go F env σ st F env' σ' st:=by
  obtain ⟨σ',h1,h2⟩:=put_go g r h q
  exact ⟨σ',by rw [gPut_eq,h1],h2⟩
/-- what a slot is set to -/
noncomputable
def SlR (F:FF) (env:Env) (σ:Slots) (st:Store) (n:Nat) (s:Sl) (p:PV):Prop:=match s with
  | .sh v=>VRep F v p
  | .ow v=>EVR F env σ st n (.fr v) p
  | _=>False
theorem keep_go (g:Go F0 env0 σ0 st0 F env σ st) {e:EV} {p:PV} {s:Sl} (h:EVR F env σ st st0.length e p) (q:vKeep e env=some (s,env1)) :
    ∃F1,Go F0 env0 σ0 st0 F1 env1 σ st∧SlR F1 env1 σ st st0.length s p∧(∀i o,F i=some o→F1 i=some o)∧(∀i,F i=none→(∀w,e=.fr w→p≠.ref i)→¬ Ow env σ i→F1 i=none)∧(∀i,Ow env1 σ i→Ow env σ i):=by?
  cases e with
  | fr v=>
    simp only [vKeep,Option.some.injEq,Prod.mk.injEq] at q
    obtain ⟨rfl,rfl⟩:=q
    exact ⟨F,g,h,fun _ _ q=>q,fun _ q _ _=>q,fun _ q=>q⟩
  | im v=>
    simp only [vKeep,Option.map_eq_some_iff,Prod.mk.injEq] at q
    obtain ⟨⟨w,e2⟩,q1,rfl,rfl⟩:=q
    obtain ⟨F1,g1,r1,x1,n1,o1⟩:=frz_one g h q1
    exact ⟨F1,g1,r1,x1,n1,o1⟩
  | sl k=>
    simp only [vKeep,Option.map_eq_some_iff,Prod.mk.injEq] at q
    obtain ⟨⟨w,e2⟩,q1,rfl,rfl⟩:=q
    obtain ⟨F1,g1,r1,x1,n1,o1⟩:=frz_one g h q1
    exact ⟨F1,g1,r1,x1,n1,o1⟩
theorem set_go (g:Go F0 env0 σ0 st0 F env σ st) {p:PV} {s:Sl} {i:Nat} (h:SlR F env σ st st0.length s p) (q:vSet i s env=some env1):Go F0 env0 σ0 st0 F env1 (σ.set i (some p)) st:=by
  unfold vSet at q
  split at q
  · cases q
  · rename_i hb
    simp only [Option.some.injEq] at q
    subst q
    cases s with
    | sh v=>exact g.trans (g.rr.setSh (fun w z=>hb w z) h)
    | ow v=>exact g.setOw (fun w z=>hb w z) h
    | un=>exact h.elim
    | bo v=>exact h.elim
end
noncomputable
def FlR (F:FF) (env:Env) (σ:Slots) (st:Store) (n:Nat):VFl→Fl→Prop
  | .nx,.nx=>True
  | .bk,.bk=>True
  | .ct,.ct=>True
  | .rt e,.rt p=>EVR F env σ st n e p
  | _,_=>False
theorem FlR.le {F:FF} {env:Env} {σ:Slots} {st:Store} {n m:Nat} {a:VFl} {b:Fl} (h:FlR F env σ st n a b) (q:m≤n):FlR F env σ st m a b:=by
  cases a <;> cases b <;> first | exact h | exact EVR.le h q
noncomputable
def RS (m:EvS) (n:VS):Prop:=∀F env σ st,RR F env σ st→∀fl env',n env=.ok (fl,env')→∃fl' σ' st' F',m σ st=.ok (fl',σ',st')∧Go F env σ st F' env' σ' st'∧FlR F' env' σ' st' st.length fl fl'
section
variable {a b c:EvE} {a' b' c':VE} {as:EvA} {as':VA} {t:EvT} {t':VT} {s u:EvS} {s' u':VS}
theorem rs_seq (hs:RS s s') (hu:RS u u'):RS (sSeq s u) (vSeq s' u'):=by?
 exact fun F env σ st r fl env' h=>by
  simp only [vSeq,R.bind_ok] at h
  obtain ⟨⟨f1,env1⟩,h1,h2⟩:=h
  obtain ⟨f,σ1,st1,F1,e1,G1,v1⟩:=hs F env σ st r f1 env1 h1
  cases f1 with
  | nx=>
    cases f <;> try exact v1.elim
    obtain ⟨f2,σ2,st2,F2,e2,G2,v2⟩:=hu F1 env1 σ1 st1 G1.rr fl env' h2
    exact ⟨f2,σ2,st2,F2,by unfold sSeq;rw [e1];exact e2,G1.trans G2,v2.le G1.le⟩
  | bk=>
    cases f <;> try exact v1.elim
    cases h2
    exact ⟨_,σ1,st1,F1,by unfold sSeq;rw [e1];rfl,G1,v1⟩
  | ct=>
    cases f <;> try exact v1.elim
    cases h2
    exact ⟨_,σ1,st1,F1,by unfold sSeq;rw [e1];rfl,G1,v1⟩
  | rt e=>
    cases f <;> try exact v1.elim
    cases h2
    exact ⟨_,σ1,st1,F1,by unfold sSeq;rw [e1];rfl,G1,v1⟩
theorem rs_pass:RS sNil vPass:=fun F env σ st r fl env' h=>by
  cases h
  exact ⟨.nx,σ,st,F,rfl,.refl r,trivial⟩
theorem rs_ret (ha:RE a a'):RS (sRet a) (vRet a'):=fun F env σ st r fl env' h=>by
  simp only [vRet,R.bind_ok] at h
  obtain ⟨⟨x,env1⟩,h1,h2⟩:=h
  cases h2
  obtain ⟨p,st1,F1,e1,G1,v1⟩:=ha F env σ st r x env1 h1
  exact ⟨.rt p,σ,st1,F1,by unfold sRet;rw [e1];rfl,G1,v1⟩
theorem rs_if (ht:RT t t') (hs:RS s s') (hu:RS u u'):RS (sIf t s u) (vIfS t' s' u'):=by?
 exact fun F env σ st r fl env' h=>by
  simp only [vIfS,R.bind_ok] at h
  obtain ⟨⟨k,env1⟩,h1,h2⟩:=h
  obtain ⟨st1,F1,e1,G1⟩:=ht F env σ st r k env1 h1
  cases k with
  | true=>
    obtain ⟨f2,σ2,st2,F2,e2,G2,v2⟩:=hs F1 env1 σ st1 G1.rr fl env' h2
    exact ⟨f2,σ2,st2,F2,by unfold sIf;rw [e1];exact e2,G1.trans G2,v2.le G1.le⟩
  | false=>
    obtain ⟨f2,σ2,st2,F2,e2,G2,v2⟩:=hu F1 env1 σ st1 G1.rr fl env' h2
    exact ⟨f2,σ2,st2,F2,by unfold sIf;rw [e1];exact e2,G1.trans G2,v2.le G1.le⟩
theorem rs_asg (i:Nat) (ha:RE a a'):RS (sAsg a (.nm i)) (vAsg a' (.nm i)):=by?
 exact fun F env σ st r fl env' h=>by
  simp only [vAsg,R.bind_ok,ofO_ok,Option.bind_eq_some_iff] at h
  obtain ⟨⟨x,env1⟩,h1,env2,⟨⟨y,env3⟩,h2,h3⟩,h4⟩:=h
  cases h4
  obtain ⟨p,st1,F1,e1,G1,v1⟩:=ha F env σ st r x env1 h1
  obtain ⟨F2,G2,v2,_⟩:=keep_go G1 v1 h2
  exact ⟨.nx,σ.set i (some p),st1,F2,by unfold sAsg;rw [e1];simp only [bind_ok];rw [gPut_eq];rfl,set_go G2 v2 h3,trivial⟩
theorem rs_par (i j : Nat) (ha:RA as as'):RS (sPar i j as) (vPar [i,j] as'):=by?
 exact fun F env σ st r fl env' h=>by
  simp only [vPar,R.bind_ok,ofO_ok,Option.bind_eq_some_iff] at h
  obtain ⟨⟨es,env1⟩,h1,env2,⟨⟨ss,env3⟩,h2,h3⟩,h4⟩:=h
  cases h4
  obtain ⟨ps,st1,F1,e1,G1,v1,n1⟩:=ha F env σ st r es env1 h1
  cases v1 with
  | nil=>simp only [vKeeps,Option.some.injEq,Prod.mk.injEq] at h2;obtain ⟨rfl,rfl⟩:=h2;simp [vSets] at h3
  | cons va vb=>
    rename_i e p es ps
    simp only [vKeeps,Option.bind_eq_some_iff,Option.map_eq_some_iff,Prod.mk.injEq] at h2
    obtain ⟨⟨s1,e1'⟩,k1,⟨ss',e2'⟩,k2,rfl,rfl⟩:=h2
    cases vb with
    | nil=>
      simp only [vKeeps,Option.some.injEq,Prod.mk.injEq] at k2;obtain ⟨rfl,rfl⟩:=k2
      simp only [vSets,Option.bind_eq_some_iff] at h3
      obtain ⟨_,_,h⟩:=h3
      simp at h
    | cons vb vc=>
      rename_i e' p' es ps
      simp only [vKeeps,Option.bind_eq_some_iff,Option.map_eq_some_iff,Prod.mk.injEq] at k2
      obtain ⟨⟨s2,e3'⟩,k3,⟨ss'',e4'⟩,k4,rfl,rfl⟩:=k2
      cases vc with
      | cons _ _=>
        simp only [vKeeps,Option.bind_eq_some_iff,Option.map_eq_some_iff,Prod.mk.injEq] at k4
        obtain ⟨_,_,_,_,rfl,_⟩:=k4
        simp only [vSets,Option.bind_eq_some_iff] at h3
        obtain ⟨_,_,_,_,h⟩:=h3
        simp at h
      | nil =>
        simp only [vKeeps,Option.some.injEq,Prod.mk.injEq] at k4
        obtain ⟨rfl,rfl⟩:=k4
        simp only [vSets,Option.bind_eq_some_iff] at h3
        obtain ⟨env4,h5,env5,h6,h7⟩:=h3
        simp only [Option.some.injEq] at h7
        subst h7
        -- the two are distinct
        have dist:∀w w' i,e=.fr w→e'=.fr w'→p=.ref i→p'≠.ref i:=by
          rintro w w' i rfl rfl rfl rfl
          simp [frIx] at n1
        obtain ⟨F2,G2,v2,x2,n2,o2⟩:=keep_go G1 va k1
        have vb2:=vb.frz x2 (fun w i he hp hF hO=>n2 i hF (fun w' he' hp'=>dist w' w i he' he hp' hp) hO) o2
        obtain ⟨F3,G3,v3,x3,n3,o3⟩:=keep_go G2 vb2 k3
        have v23:SlR F3 e3' σ st1 st.length s1 p:=by
          cases s1 with
          | sh w=>exact VRep.mono x3 v2
          | ow w=>
            have hw:∃w0,e=.fr w0:=by
              cases e with
              | fr w0=>exact ⟨w0,rfl⟩
              | im w0=>simp [vKeep,frz] at k1
              | sl k0=>
                simp only [vKeep,Option.map_eq_some_iff,Prod.mk.injEq] at k1
                obtain ⟨_,_,h,_⟩:=k1
                cases h
            obtain ⟨w0,hw⟩:=hw
            exact EVR.frz (e:=.fr w) v2 x3 (fun w2 i he hp hF hO=>n3 i hF (fun w' he' hp'=>dist w0 w' i hw he' hp hp') hO) o3
          | un=>exact v2.elim
          | bo w=>exact v2.elim
        have G4:=set_go G3 v23 h5
        have v34:SlR F3 env4 (σ.set i (some p)) st1 st.length s2 p':=by
          cases s2 with
          | sh w=>exact v3
          | un=>exact v3.elim
          | bo w=>exact v3.elim
          | ow w=>
            have hw:∃w0,e'=.fr w0:=by
              cases e' with
              | fr w0=>exact ⟨w0,rfl⟩
              | im w0=>simp [vKeep,frz] at k3
              | sl k0=>
                simp only [vKeep,Option.map_eq_some_iff,Prod.mk.injEq] at k3
                obtain ⟨_,_,h,_⟩:=k3
                cases h
            obtain ⟨w0,hw⟩:=hw
            obtain ⟨a1,o,y1,y2,y3,y4,y5,y6⟩:=v3
            refine ⟨a1,o,y1,y2,y3,y4,y5,fun ⟨l,q,z1,z2⟩=>?_⟩
            unfold vSet at h5
            split at h5
            · cases h5
            · simp only [Option.some.injEq] at h5
              subst h5
              rcases mutV_set z1 with ⟨t1,t2⟩ | ⟨t1,t2⟩
              · subst t1
                by_cases hl:l < σ.length
                · rw [σset_get hl,if_pos rfl] at z2
                  simp only [Option.some.injEq] at z2
                  cases s1 with
                  | sh _=>cases t2
                  | un=>exact v23.elim
                  | bo w=>exact v23.elim
                  | ow w1=>
                    have hw1:∃w0,e=.fr w0:=by
                      cases e with
                      | fr w0=>exact ⟨w0,rfl⟩
                      | im w0=>simp [vKeep,frz] at k1
                      | sl k0=>
                        simp only [vKeep,Option.map_eq_some_iff,Prod.mk.injEq] at k1
                        obtain ⟨_,_,h,_⟩:=k1
                        cases h
                    obtain ⟨w3,hw3⟩:=hw1
                    exact dist w3 w0 a1 hw3 hw z2 y1
                · rw [List.set_eq_of_length_le (by omega)] at z2
                  rw [List.getElem?_eq_none (by omega)] at z2;cases z2
              · by_cases hl:i < σ.length
                · rw [σset_get hl,if_neg (fun e=>t1 e.symm)] at z2
                  exact y6 ⟨l,q,t2,z2⟩
                · rw [List.set_eq_of_length_le (by omega)] at z2
                  exact y6 ⟨l,q,t2,z2⟩
        have G5:=set_go G4 v34 h6
        exact ⟨.nx,_,st1,F3,by unfold sPar;rw [e1];rfl,G5,trivial⟩
/-- o[i]=e -/
noncomputable
def SubV (g:NV→NV→NV→Option NV):Prop:=∀F st i o u j q v w,(∀ (i:Nat) o,F i=some o→st[i]? = some o)→st[i]? = some o→ORep F u o→LRep F st j q→VRep F v w→∀u',g u j v=some u'→∃o',setP (.ref i) q w st=.ok (st.set i o')∧ORep F u' o'
theorem rs_sub {g:NV→NV→NV→Option NV} (hg:SubV g) (he:RE a a') (ho:RE b b') (hi:RE c c'):RS (sSub b c a) (vSub g b' c' a'):=by?
 exact fun F env σ st r fl env' h=>by
  simp only [vSub,R.bind_ok] at h
  obtain ⟨⟨x,env1⟩,h1,⟨y,env2⟩,h2,⟨z,env3⟩,h3,h4⟩:=h
  obtain ⟨p,st1,F1,e1,G1,v1⟩:=he F env σ st r x env1 h1
  obtain ⟨q,st2,F2,e2,G2,v2⟩:=ho F1 env1 σ st1 G1.rr y env2 h2
  obtain ⟨w,st3,F3,e3,G3,v3⟩:=hi F2 env2 σ st2 G2.rr z env3 h3
  cases y with
  | im v=>cases h4
  | fr v=>cases h4
  | sl k=>
    simp only [R.bind_ok,ofO_ok] at h4
    obtain ⟨⟨v,env4⟩,f1,f2⟩:=h4
    have G13:=(G1.trans G2).trans G3
    have vx:=(v1.go G2).go G3
    obtain ⟨F4,G4,r4,x4,n4,o4⟩:=frz_one G13 vx f1
    have hσ:σ[k]? = some (some q):=v2
    have main:∀ (s s':Sl) (u n j:NV),env4[k]? = some s→((s=.ow u∧s'=.ow n)∨(s=.bo u∧s'=.bo n))→z.get env4=some j→g u j v=some n→fl=.nx→env'=env4.set k s' →
        ∃fl' σ' st' F',sSub b c a σ st=.ok (fl',σ',st')∧Go F env σ st F' env' σ' st'∧FlR F' env' σ' st' st.length fl fl':=by
      intro s s' u n j q1 q2 qj q3 q4 q5
      have hm:mutV env4 k=some u:=by unfold mutV;rw [q1];rcases q2 with ⟨rfl,_⟩ | ⟨rfl,_⟩ <;> rfl
      obtain ⟨i,o,y1,y2,y3,y4⟩:=G4.rr.mu k u hm
      rw [hσ] at y1
      simp only [Option.some.injEq] at y1
      subst y1
      -- the index stands where it stood
      have hz:LRep F4 st3 j w:=by
        cases z with
        | im v0=>
          simp only [EV.get,Option.some.injEq] at qj
          subst qj;exact .inl (VRep.mono x4 v3)
        | fr v0=>
          simp only [EV.get,Option.some.injEq] at qj
          subst qj
          obtain ⟨i0,o0,t1,t2,t3,t4,t5,t6⟩:=v3
          exact .inr ⟨i0,o0,t1,t4,t5.mono x4⟩
        | sl k0=>exact EVR.get (n:=0) (e:=.sl k0) G4.rr v3 qj
      obtain ⟨o',z1,z2⟩:=hg F4 st3 i o u j w v p G4.rr.sub y3 y4 hz r4 n q3
      have G5:=G4.rr.setObj (u':=n) q1 q2 hσ z2
      subst q4;subst q5
      refine ⟨.nx,σ,_,F4,?_,G4.trans G5,trivial⟩
      unfold sSub
      rw [e1];simp only [bind_ok,force_eq];rw [e2];simp only [bind_ok];rw [e3];simp only [bind_ok,force_eq];rw [z1];rfl
    split at f2
    · rename_i u qk
      simp only [R.bind_ok,ofO_ok,Option.bind_eq_some_iff] at f2
      obtain ⟨n,⟨j,g1,g2⟩,g3⟩:=f2
      cases g3
      exact main _ _ u n j qk (.inl ⟨rfl,rfl⟩) g1 g2 rfl rfl
    · rename_i u qk
      simp only [R.bind_ok,ofO_ok,Option.bind_eq_some_iff] at f2
      obtain ⟨n,⟨j,g1,g2⟩,g3⟩:=f2
      cases g3
      exact main _ _ u n j qk (.inr ⟨rfl,rfl⟩) g1 g2 rfl rfl
    · cases f2
noncomputable
def RI (m:EvI) (n:VI):Prop:=∀F env σ st,RR F env σ st→∀xs env',n env=.ok (xs,env')→∃ps gs st' F',m σ st=.ok ((ps,gs),st')∧Go F env σ st F' env' σ st'∧VReps F' xs ps∧∀g∈gs,F' g.1=some g.2
theorem gd_of {F:FF} {gs:Gd} {st:Store} (sub:∀ (i:Nat) o,F i=some o→st[i]? = some o) (h:∀g∈gs,F g.1=some g.2):gdOk gs st=true:=by
  unfold gdOk
  rw [List.all_eq_true]
  exact fun g hg=>decide_eq_true (sub _ _ (h g hg))
theorem rs_loop {g:Tg} (hs:RS s s') {gs:Gd}:∀ (xs:List NV) (ps:List PV) F env σ st,RR F env σ st→VReps F xs ps→(∀g∈gs,F g.1=some g.2)→∀fl env',vForL g s' xs env=.ok (fl,env') →
    ∃fl' σ' st' F',forLoop g s gs ps σ st=.ok (fl',σ',st')∧Go F env σ st F' env' σ' st'∧FlR F' env' σ' st' st.length fl fl'
  | [],_,F,env,σ,st,r,.nil,hg,fl,env',h=>by
    cases h
    exact ⟨.nx,σ,st,F,by unfold forLoop;rw [if_pos (gd_of r.sub hg)],.refl r,trivial⟩
  | x :: xs,_,F,env,σ,st,r,.cons hx hxs,hg,fl,env',h=>by
    rename_i p ps
    simp only [vForL,R.bind_ok,ofO_ok] at h
    obtain ⟨env1,h1,⟨f2,env2⟩,h2,h3⟩:=h
    obtain ⟨σ1,e1,G1⟩:=gPut_go r hx h1
    obtain ⟨f,σ2,st2,F2,e2,G2,v2⟩:=hs F env1 σ1 st G1.rr f2 env2 h2
    have G12:=G1.trans G2
    have E:∀X,forLoop g s gs (p::ps) σ st=X↔(match (generalizing:=false) f with
        | .nx=>forLoop g s gs ps σ2 st2
        | .ct=>forLoop g s gs ps σ2 st2
        | .bk=>.ok (.nx,σ2,st2)
        | .rt v=>.ok (.rt v,σ2,st2))=X:=fun X=>by
      simp only [forLoop]
      rw [if_pos (gd_of r.sub hg),e1];simp only [bind_ok];rw [e2];simp only [bind_ok]
      all_goals (cases f <;> rfl)
    have hxs':VReps F2 xs ps:=hxs.mono G12.ext
    have hg':∀g∈gs,F2 g.1=some g.2:=fun g q=>G12.ext _ _ (hg g q)
    cases f2 with
    | nx=>
      cases f <;> try exact v2.elim
      obtain ⟨f3,σ3,st3,F3,e3,G3,v3⟩:=rs_loop hs xs ps F2 env2 σ2 st2 G2.rr hxs' hg' fl env' h3
      exact ⟨f3,σ3,st3,F3,(E _).mpr e3,G12.trans G3,v3.le G12.le⟩
    | ct=>
      cases f <;> try exact v2.elim
      obtain ⟨f3,σ3,st3,F3,e3,G3,v3⟩:=rs_loop hs xs ps F2 env2 σ2 st2 G2.rr hxs' hg' fl env' h3
      exact ⟨f3,σ3,st3,F3,(E _).mpr e3,G12.trans G3,v3.le G12.le⟩
    | bk=>
      cases f <;> try exact v2.elim
      cases h3
      exact ⟨.nx,σ2,st2,F2,(E _).mpr rfl,G12,trivial⟩
    | rt e=>
      cases f <;> try exact v2.elim
      cases h3
      exact ⟨_,σ2,st2,F2,(E _).mpr rfl,G12,v2⟩
theorem rs_for {it:EvI} {it':VI} {g:Tg} (hi:RI it it') (hs:RS s s'):RS (sFor it g s) (vFor it' g s'):=by?
 exact fun F env σ st r fl env' h=>by
  simp only [vFor,R.bind_ok] at h
  obtain ⟨⟨xs,env1⟩,h1,h2⟩:=h
  obtain ⟨ps,gs,st1,F1,e1,G1,v1,hg⟩:=hi F env σ st r xs env1 h1
  obtain ⟨f3,σ3,st3,F3,e3,G3,v3⟩:=rs_loop hs xs ps F1 env1 σ st1 G1.rr v1 hg fl env' h2
  exact ⟨f3,σ3,st3,F3,by unfold sFor;rw [e1];exact e3,G1.trans G3,v3.le G1.le⟩
end
theorem VReps.zip {F:FF}:∀ {xs ys:List NV} {ps qs:List PV},VReps F xs ps→VReps F ys qs→VReps F (vzip xs ys) (zipP ps qs)
  | _,_,_,_,.nil,.nil=>.nil
  | _,_,_,_,.nil,.cons _ _=>.nil
  | _,_,_,_,.cons _ _,.nil=>.nil
  | _,_,_,_,.cons h r,.cons k s=>.cons (.tup (.cons h (.cons k .nil))) (VReps.zip r s)
theorem VReps.rng {F:FF} (lo:Int) (n:Nat):VReps F (vrng lo n) (rngI lo n):=by
  unfold vrng rngI
  induction List.range n with
  | nil=>exact .nil
  | cons c r ih=>exact .cons (.int _) ih
section
variable {a b c:EvE} {a' b' c':VE}
theorem ints_of {F:FF} {st:Store} {v:NV} {p:PV} {i:Int} (h:LRep F st v p) (q:isInt v=some i):p=.int i:=by
  cases v <;> simp [isInt] at q
  subst q
  rcases h with h | ⟨_,_,_,_,h⟩
  · cases h;rfl
  · cases h
theorem ri_rng1 (ha:RE a a'):RI (iRng1 a) (viRng1 a'):=by?
 exact fun F env σ st r xs env' h=>by
  simp only [viRng1,R.bind_ok,ofO_ok,grd_ok,Option.bind_eq_some_iff] at h
  obtain ⟨⟨x,env1⟩,h1,j,⟨v,h2,h3⟩,h4,h5⟩:=h
  cases h5
  obtain ⟨p,st1,F1,e1,G1,v1⟩:=ha F env σ st r x env1 h1
  have:=ints_of (v1.get G1.rr h2) h3
  subst this
  exact ⟨_,[],st1,F1,by unfold iRng1;rw [e1];simp only [bind_ok];rw [if_pos h4],G1,VReps.rng 0 _,by simp⟩
/-- nobody asks a new object any more -/
theorem Go.dead {F F1:FF} {env env1:Env} {σ σ1:Slots} {st st1:Store} (g:Go F env σ st F1 env1 σ1 st1) {i:Nat} (hi:st.length≤i) (hF:F1 i=none) (hO:¬ Ow env1 σ1 i):Go F env σ st F1 env1 σ1 (st1.set i .dead):=by?
  have r:=g.rr
  by_cases hl:i < st1.length
  · refine ⟨⟨r.len,fun j o q=>?_,fun j o q=>?_,r.sh,fun k v q=>?_,fun k p q=>by rw [List.length_set];exact r.rf k p q,r.dj⟩,g.ext,fun j hj hn=>?_,by rw [List.length_set];exact g.le,g.own,g.pin⟩
    · rw [set_getP hl,if_neg (fun e=>by subst e;rw [hF] at q;cases q)];exact r.sub j o q
    · rw [List.length_set]
      rw [set_getP hl] at q
      split at q
      · cases q;rfl
      · exact r.wf j o q
    · obtain ⟨j,o,h1,h2,h3,h4⟩:=r.mu k v q
      exact ⟨j,o,h1,h2,by rw [set_getP hl,if_neg (fun e=>hO ⟨k,v,q,by rw [e];exact h1⟩)];exact h3,h4⟩
    · rw [set_getP hl,if_neg (by omega)];exact g.frm j hj hn
  · rw [List.set_eq_of_length_le (by omega)];exact g
end
mutual
theorem put_frame:∀ (g:Tg) {p:PV} {σ σ':Slots},Tg.put g p σ=some σ'→σ'.length=σ.length∧∀k,k∉Tg.own g→σ'[k]? = σ[k]?
  | .nm i,p,σ,σ',h=>by
    simp only [Tg.put,Option.some.injEq] at h
    subst h
    refine ⟨by simp,fun k hk=>?_⟩
    simp only [Tg.own,List.mem_singleton] at hk
    exact List.getElem?_set_ne (fun e=>hk e.symm)
  | .tp ts,p,σ,σ',h=>by
    cases p with
    | tup xs=>exact puts_frame ts (by simpa only [Tg.put] using h)
    | _=>simp [Tg.put] at h
theorem puts_frame:∀ (g:List Tg) {p:List PV} {σ σ':Slots},Tg.puts g p σ=some σ'→σ'.length=σ.length∧∀k,k∉Tg.owns g→σ'[k]? = σ[k]?
  | [],[],σ,σ',h=>by simp only [Tg.puts,Option.some.injEq] at h;subst h;exact ⟨rfl,fun _ _=>rfl⟩
  | [],_::_,σ,σ',h=>by simp [Tg.puts] at h
  | _::_,[],σ,σ',h=>by simp [Tg.puts] at h
  | t :: ts,p::ps,σ,σ',h=>by
    simp only [Tg.puts] at h
    split at h
    · rename_i σ1 h1
      obtain ⟨l1,k1⟩:=put_frame t h1
      obtain ⟨l2,k2⟩:=puts_frame ts h
      refine ⟨l2.trans l1,fun k hk=>?_⟩
      simp only [Tg.owns,List.mem_append,not_or] at hk
      rw [k2 k hk.2,k1 k hk.1]
    · cases h
end
theorem wipeP_len (σ:Slots):∀vs,(wipeP σ vs).length=σ.length
  | []=>rfl
  | v::vs=>by simp [wipeP,wipeP_len σ vs]
theorem wipeP_out (σ:Slots):∀ {vs:List Nat} {k:Nat},k∉vs→(wipeP σ vs)[k]? = σ[k]?
  | [],_,_=>rfl
  | v::vs,k,h=>by
    simp only [List.mem_cons,not_or] at h
    simp only [wipeP]
    rw [List.getElem?_set_ne (fun e=>h.1 e.symm),wipeP_out σ h.2]
theorem wipeP_in (σ:Slots):∀ {vs:List Nat} {k:Nat} {x:Option PV},k∈vs→(wipeP σ vs)[k]? = some x→x=none
  | [],_,_,h,_=>by simp at h
  | v :: vs,k,x,h,q=>by
    simp only [wipeP] at q
    rw [List.getElem?_set] at q
    by_cases e:v=k
    · rw [if_pos e] at q
      split at q
      · simpa using q.symm
      · cases q
    · rw [if_neg e] at q
      exact wipeP_in σ ((List.mem_cons.mp h).resolve_left fun z=>e z.symm) q
theorem vWipe_len (env:Env):∀vs,(vWipe env vs).length=env.length
  | []=>rfl
  | v::vs=>by simp [vWipe,vWipe_len env vs]
theorem vWipe_out (env:Env):∀ {vs:List Nat} {k:Nat},k∉vs→(vWipe env vs)[k]? = env[k]?
  | [],_,_=>rfl
  | v::vs,k,h=>by
    simp only [List.mem_cons,not_or] at h
    simp only [vWipe]
    rw [List.getElem?_set_ne (fun e=>h.1 e.symm),vWipe_out env h.2]
theorem vWipe_in (env:Env):∀ {vs:List Nat} {k:Nat} {x:Sl},k∈vs→(vWipe env vs)[k]? = some x→x=.un
  | [],_,_,h,_=>by simp at h
  | v :: vs,k,x,h,q=>by
    simp only [vWipe] at q
    rw [List.getElem?_set] at q
    by_cases e:v=k
    · rw [if_pos e] at q
      split at q
      · simpa using q.symm
      · cases q
    · rw [if_neg e] at q
      exact vWipe_in env ((List.mem_cons.mp h).resolve_left fun z=>e z.symm) q
theorem vWipe_get {env:Env} {vs:List Nat} {k:Nat} {x:Sl} (h:(vWipe env vs)[k]? = some x) (hx:x≠.un):k∉vs∧env[k]? = some x:=by
  by_cases hk:k∈vs
  · exact absurd (vWipe_in env hk h) hx
  · exact ⟨hk,by rw [← vWipe_out env hk];exact h⟩
theorem vWipe_mut {env:Env} {vs:List Nat} {k:Nat} {v:NV} (h:mutV (vWipe env vs) k=some v):k∉vs∧mutV env k=some v:=by
  by_cases hk:k∈vs
  · unfold mutV at h
    cases q:(vWipe env vs)[k]? with
    | none=>simp [q] at h
    | some x=>rw [q,vWipe_in env hk q] at h;cases h
  · exact ⟨hk,by unfold mutV at *;rw [← vWipe_out env hk];exact h⟩
theorem vBack_len (env e:Env):∀vs,(vBack env vs e).length=e.length
  | []=>rfl
  | v::vs=>by simp [vBack,vBack_len env e vs]
theorem vBack_out (env e:Env):∀ {vs:List Nat} {k:Nat},k∉vs→(vBack env vs e)[k]? = e[k]?
  | [],_,_=>rfl
  | v::vs,k,h=>by
    simp only [List.mem_cons,not_or] at h
    simp only [vBack]
    rw [List.getElem?_set_ne (fun e=>h.1 e.symm),vBack_out env e h.2]
theorem vBack_in (env e:Env) (hl:e.length=env.length):∀ {vs:List Nat} {k:Nat},k∈vs→(vBack env vs e)[k]? = env[k]?
  | [],_,h=>by simp at h
  | v :: vs,k,h=>by
    simp only [vBack]
    rw [List.getElem?_set]
    by_cases q:v=k
    · subst q
      rw [if_pos rfl,vBack_len,hl]
      split
      · rename_i hv;rw [List.getD_eq_getElem?_getD,List.getElem?_eq_getElem hv];rfl
      · rename_i hv;rw [List.getElem?_eq_none (by omega)]
    · rw [if_neg q]
      exact vBack_in env e hl ((List.mem_cons.mp h).resolve_left fun z=>q z.symm)
section
variable {F F1:FF} {env env1 env':Env} {σ σ1:Slots} {st st1:Store}
/-- a turn of a comprehension ends -/
theorem Go.wipe {vs:List Nat} (r:RR F env σ st) (g:Go F env σ st F1 env1 σ1 st1) (hσ:∀k,k∉vs→σ1[k]? = σ[k]?) (hl:σ1.length=σ.length) (hb:∀k∈vs,∀v,env[k]?≠some (.bo v)):Go F env σ st F1 (vWipe env1 vs) σ st1:=by?
  have r1:=g.rr
  refine ⟨⟨by rw [vWipe_len,r1.len,hl],r1.sub,r1.wf,fun k v q=>?_,fun k v q=>?_,fun k p q=>refsLt_mono g.le p (r.rf k p q),fun k l v w i q1 q2 q3 q4=>?_⟩,g.ext,g.frm,g.le,fun i q=>?_,fun k v q=>?_⟩
  · obtain ⟨h1,h2⟩:=vWipe_get q (by simp)
    rw [← hσ k h1];exact r1.sh k v h2
  · obtain ⟨h1,h2⟩:=vWipe_mut q
    rw [← hσ k h1];exact r1.mu k v h2
  · obtain ⟨h1,h2⟩:=vWipe_mut q1
    obtain ⟨h3,h4⟩:=vWipe_mut q2
    rw [← hσ k h1] at q3
    rw [← hσ l h3] at q4
    exact r1.dj k l v w i h2 h4 q3 q4
  · obtain ⟨k,v,q1,q2⟩:=q
    obtain ⟨h1,h2⟩:=vWipe_mut q1
    rw [← hσ k h1] at q2
    exact g.own i ⟨k,v,h2,q2⟩
  · obtain ⟨_,v',h2⟩:=g.pin k v q
    have hk:k∉vs:=fun z=>hb k z v q
    exact ⟨rfl,v',by rw [vWipe_out env1 hk];exact h2⟩
theorem RR.wipe (r:RR F env σ st) (vs:List Nat):RR F (vWipe env vs) (wipeP σ vs) st:=by?
  refine ⟨by rw [vWipe_len,wipeP_len,r.len],r.sub,r.wf,fun k v q=>?_,fun k v q=>?_,fun k p q=>?_,fun k l v w i q1 q2 q3 q4=>?_⟩
  · obtain ⟨h1,h2⟩:=vWipe_get q (by simp)
    rw [wipeP_out σ h1];exact r.sh k v h2
  · obtain ⟨h1,h2⟩:=vWipe_mut q
    rw [wipeP_out σ h1];exact r.mu k v h2
  · by_cases hk:k∈vs
    · exact absurd (wipeP_in σ hk q) (by simp)
    · rw [wipeP_out σ hk] at q;exact r.rf k p q
  · obtain ⟨h1,h2⟩:=vWipe_mut q1
    obtain ⟨h3,h4⟩:=vWipe_mut q2
    rw [wipeP_out σ h1] at q3
    rw [wipeP_out σ h3] at q4
    exact r.dj k l v w i h2 h4 q3 q4
/-- a comprehension ends -/
theorem Go.back {vs:List Nat} (r:RR F env σ st) (g:Go F (vWipe env vs) (wipeP σ vs) st F1 env1 (wipeP σ vs) st1):Go F env σ st F1 (vBack env vs env1) σ st1:=by?
  have r1:=g.rr
  have hl:env1.length=env.length:=by rw [r1.len,wipeP_len,r.len]
  have mb:∀k v,mutV (vBack env vs env1) k=some v→(k∈vs∧mutV env k=some v)∨(k∉vs∧mutV env1 k=some v):=fun k v q=>by
    unfold mutV at *
    by_cases hk:k∈vs
    · rw [vBack_in env env1 hl hk] at q;exact .inl ⟨hk,q⟩
    · rw [vBack_out env env1 hk] at q;exact .inr ⟨hk,q⟩
  have hid:∀k v i,k∈vs→mutV env k=some v→σ[k]? = some (some (.ref i))→¬ Ow (vWipe env vs) (wipeP σ vs) i:=fun k v i h1 h2 h3 ⟨l,w,q1,q2⟩=>by
    obtain ⟨z1,z2⟩:=vWipe_mut q1
    rw [wipeP_out σ z1] at q2
    exact z1 (by rw [← r.dj k l v w i h2 z2 h3 q2];exact h1)
  have owx:∀k v i,k∉vs→mutV env1 k=some v→σ[k]? = some (some (.ref i))→Ow env σ i∨st.length≤i:=fun k v i h1 h2 h3=>by
    rcases g.own i ⟨k,v,h2,by rw [wipeP_out σ h1];exact h3⟩ with ⟨l,w,q1,q2⟩ | h
    · obtain ⟨z1,z2⟩:=vWipe_mut q1
      rw [wipeP_out σ z1] at q2
      exact .inl ⟨l,w,z2,q2⟩
    · exact .inr h
  have cross:∀k l v w i,k∈vs→l∉vs→mutV env k=some v→mutV env1 l=some w→σ[k]? = some (some (.ref i))→σ[l]? = some (some (.ref i))→False:=fun k l v w i h1 h2 h3 h4 h5 h6=>by
    rcases g.own i ⟨l,w,h4,by rw [wipeP_out σ h2];exact h6⟩ with ⟨l',w',q1,q2⟩ | h
    · exact hid k v i h1 h3 h5 ⟨l',w',q1,q2⟩
    · obtain ⟨i',o,z1,_,z3,_⟩:=r.mu k v h3
      rw [h5] at z1
      simp only [Option.some.injEq,PV.ref.injEq] at z1
      subst z1
      exact absurd (get_lt z3) (Nat.not_lt.mpr h)
  refine ⟨⟨by rw [vBack_len,hl,r.len],r1.sub,r1.wf,fun k v q=>?_,fun k v q=>?_,fun k p q=>refsLt_mono g.le p (r.rf k p q),fun k l v w i q1 q2 q3 q4=>?_⟩,g.ext,fun i hi hn=>?_,g.le,fun i q=>?_,fun k v q=>?_⟩
  · by_cases hk:k∈vs
    · rw [vBack_in env env1 hl hk] at q
      obtain ⟨p,h1,h2⟩:=r.sh k v q
      exact ⟨p,h1,h2.mono g.ext⟩
    · rw [vBack_out env env1 hk] at q
      obtain ⟨p,h1,h2⟩:=r1.sh k v q
      rw [wipeP_out σ hk] at h1
      exact ⟨p,h1,h2⟩
  · rcases mb k v q with ⟨hk,h⟩ | ⟨hk,h⟩
    · obtain ⟨i,o,h1,h2,h3,h4⟩:=r.mu k v h
      obtain ⟨f1,f2⟩:=g.frm i (get_lt h3) (hid k v i hk h h1)
      exact ⟨i,o,h1,f2.trans h2,f1.trans h3,h4.mono g.ext⟩
    · obtain ⟨i,o,h1,h2,h3,h4⟩:=r1.mu k v h
      rw [wipeP_out σ hk] at h1
      exact ⟨i,o,h1,h2,h3,h4⟩
  · rcases mb k v q1 with ⟨hk,h⟩ | ⟨hk,h⟩
    · rcases mb l w q2 with ⟨hk2,h2⟩ | ⟨hk2,h2⟩
      · exact r.dj k l v w i h h2 q3 q4
      · exact (cross k l v w i hk hk2 h h2 q3 q4).elim
    · rcases mb l w q2 with ⟨hk2,h2⟩ | ⟨hk2,h2⟩
      · exact (cross l k w v i hk2 hk h2 h q4 q3).elim
      · exact r1.dj k l v w i h h2 (by rw [wipeP_out σ hk];exact q3) (by rw [wipeP_out σ hk2];exact q4)
  · refine g.frm i hi fun ⟨l,w,q1,q2⟩=>?_
    obtain ⟨z1,z2⟩:=vWipe_mut q1
    rw [wipeP_out σ z1] at q2
    exact hn ⟨l,w,z2,q2⟩
  · obtain ⟨k,v,q1,q2⟩:=q
    rcases mb k v q1 with ⟨hk,h⟩ | ⟨hk,h⟩
    · exact .inl ⟨k,v,h,q2⟩
    · exact owx k v i hk h q2
  · refine ⟨rfl,?_⟩
    by_cases hk:k∈vs
    · exact ⟨v,by rw [vBack_in env env1 hl hk];exact q⟩
    · obtain ⟨_,v',h2⟩:=g.pin k v (by rw [vWipe_out env hk];exact q)
      exact ⟨v',by rw [vBack_out env env1 hk];exact h2⟩
end
theorem wiped_un {env:Env} {vs:List Nat}:∀k∈vs,∀v,(vWipe env vs)[k]?≠some (.bo v):=fun k hk v q=>by cases vWipe_in env hk q
theorem lc_loop {g:Tg} {t:EvT} {t':VT} {e:EvE} {e':VE} {vs:List Nat} (hg:∀k∈Tg.own g,k∈vs) (ht:RT t t') (he:RE e e') {gs:Gd} {σ:Slots}:∀ (xs:List NV) (ps:List PV) (acc:List NV) (aps:List PV) F env st,RR F env σ st→(∀k∈vs,∀v,env[k]?≠some (.bo v))→VReps F xs ps→VReps F acc aps→(∀g∈gs,F g.1=some g.2) →
    ∀ys env',vLcL g t' e' vs xs acc env=.ok (ys,env')→∃qs st' F',lcLoop g t e σ gs ps aps st=.ok (qs,st')∧Go F env σ st F' env' σ st'∧VReps F' ys qs
  | [],_,acc,aps,F,env,st,r,hb,.nil,ha,hgs,ys,env',h=>by
    cases h
    exact ⟨aps,st,F,by unfold lcLoop;rw [if_pos (gd_of r.sub hgs)],.refl r,ha⟩
  | x :: xs,_,acc,aps,F,env,st,r,hb,.cons hx hxs,ha,hgs,ys,env',h=>by
    rename_i p ps
    simp only [vLcL,R.bind_ok,ofO_ok] at h
    obtain ⟨env1,h1,⟨k,env2⟩,h2,h3⟩:=h
    obtain ⟨σ1,e1,G1⟩:=gPut_go r hx h1
    have hput:Tg.put g p σ=some σ1:=by
      rw [gPut_eq] at e1
      cases q:Tg.put g p σ with
      | none=>rw [q] at e1;cases e1
      | some s=>rw [q] at e1;cases e1;rfl
    obtain ⟨hl,hσ⟩:=put_frame g hput
    have hσ':∀k,k∉vs→σ1[k]? = σ[k]?:=fun k hk=>hσ k fun z=>hk (hg k z)
    obtain ⟨st2,F2,e2,G2⟩:=ht F env1 σ1 st G1.rr k env2 h2
    have G12:=G1.trans G2
    have E:∀X,lcLoop g t e σ gs (p::ps) aps st=X↔(if k=true then e σ1 st2 >>= fun y=>if aps.length < LINE then lcLoop g t e σ gs ps (aps++[y.1]) y.2 else .stuck else lcLoop g t e σ gs ps aps st2)=X:=fun X=>by
      simp only [lcLoop]
      rw [if_pos (gd_of r.sub hgs),e1];simp only [bind_ok];rw [e2];simp only [bind_ok,force_eq]
    cases k with
    | false=>
      simp only [Bool.false_eq_true,if_false] at h3
      have GW:=G12.wipe r hσ' hl hb
      obtain ⟨qs,st3,F3,e3,G3,v3⟩:=lc_loop hg ht he xs ps acc aps F2 _ st2 GW.rr wiped_un (hxs.mono GW.ext) (ha.mono GW.ext) (fun g q=>GW.ext _ _ (hgs g q)) ys env' h3
      exact ⟨qs,st3,F3,(E _).mpr (by simpa using e3),GW.trans G3,v3⟩
    | true=>
      simp only [if_true,R.bind_ok,ofO_ok,grd_ok] at h3
      obtain ⟨⟨y,env3⟩,k1,⟨z,env4⟩,k2,k3,k4⟩:=h3
      obtain ⟨q,st3,F3,e3,G3,v3⟩:=he F2 env2 σ1 st2 G2.rr y env3 k1
      have G13:=G12.trans G3
      obtain ⟨F4,G4,v4,_⟩:=frz_one G13 (v3.le G12.le) k2
      have GW:=G4.wipe r hσ' hl hb
      obtain ⟨qs,st5,F5,e5,G5,v5⟩:=lc_loop hg ht he xs ps (acc++[z]) (aps++[q]) F4 _ st3 GW.rr wiped_un (hxs.mono GW.ext) ((ha.mono GW.ext).append (.cons v4 .nil)) (fun g q=>GW.ext _ _ (hgs g q)) ys env' k4
      refine ⟨qs,st5,F5,(E _).mpr ?_,GW.trans G5,v5⟩
      rw [if_pos rfl,e3];simp only [bind_ok];rw [if_pos (by rw [← ha.length];exact k3)];exact e5
theorem re_lc {it:EvI} {it':VI} {g:Tg} {t:EvT} {t':VT} {e:EvE} {e':VE} {vs:List Nat} (hg:((Tg.own g).all fun k=>vs.contains k)=true) (hi:RI it it') (ht:RT t t') (he:RE e e'):RE (eLc it g t e vs) (vLc it' g t' e' vs):=by?
 exact fun F env σ st r ev env' h=>by
  simp only [vLc,R.bind_ok] at h
  obtain ⟨⟨xs,env1⟩,h1,⟨ys,env2⟩,h2,h3⟩:=h
  cases h3
  obtain ⟨ps,gs,st1,F1,e1,G1,v1,hgs⟩:=hi F env σ st r xs env1 h1
  have hg':∀k∈Tg.own g,k∈vs:=fun k hk=>by simpa using List.all_eq_true.mp hg k hk
  obtain ⟨qs,st2,F2,e2,G2,v2⟩:=lc_loop hg' ht he xs ps [] [] F1 _ st1 (G1.rr.wipe vs) wiped_un v1 .nil hgs ys env2 h2
  have GB:=G2.back G1.rr
  obtain ⟨G3,v3⟩:=GB.rr.new (.lst v2)
  refine ⟨_,_,F2,?_,(G1.trans GB).trans G3,v3.le (Nat.le_trans G1.le G2.le)⟩
  unfold eLc
  rw [e1];simp only [bind_ok];rw [e2];rfl
theorem key_eq {F:FF} {k k2:NV} {p p2:PV} (h:VRep F k p) (h2:VRep F k2 p2) (q:vkeyOk k=true):k2=k↔p2=p:=by
  cases h with
  | int i=>
    constructor
    · rintro rfl;cases h2;rfl
    · rintro rfl;cases h2;rfl
  | str i=>
    constructor
    · rintro rfl;cases h2;rfl
    · rintro rfl;cases h2;rfl
  | _=>simp [vkeyOk] at q
theorem key_ok {F:FF} {k:NV} {p:PV} (h:VRep F k p) (q:vkeyOk k=true):keyOk p=true:=by
  cases h <;> simp_all [vkeyOk,keyOk]
theorem VRepd.any {F:FF} {k:NV} {p:PV} (h:VRep F k p) (q:vkeyOk k=true):∀ {xs:List (NV×NV)} {ps:List (PV×PV)},VRepd F xs ps→(xs.any fun r=>decide (r.1=k))=(ps.any fun r=>decide (r.1=p))
  | _,_,.nil=>rfl
  | _,_,.cons a b r=>by
    simp only [List.any_cons]
    rw [VRepd.any h q r]
    congr 1
    exact decide_eq_decide.mpr (key_eq h a q)
theorem VRepd.append {F:FF}:∀ {v w:List (NV×NV)} {p q:List (PV×PV)},VRepd F v p→VRepd F w q→VRepd F (v++w) (p++q)
  | _,_,_,_,.nil,s=>s
  | _,_,_,_,.cons a b t,s=>.cons a b (VRepd.append t s)
theorem VRepd.length {F:FF}:∀ {v:List (NV×NV)} {p:List (PV×PV)},VRepd F v p→v.length=p.length
  | _,_,.nil=>rfl
  | _,_,.cons _ _ r=>by rw [List.length_cons,List.length_cons,VRepd.length r]
theorem VRepd.upd {F:FF} {k v:NV} {p q:PV} (h:VRep F k p) (hv:VRep F v q) (hk:vkeyOk k=true):∀ {xs:List (NV×NV)} {ps:List (PV×PV)},VRepd F xs ps→VRepd F (xs.map fun r=>if r.1=k then (r.1,v) else r) (ps.map fun r=>if r.1=p then (r.1,q) else r)
  | _,_,.nil=>.nil
  | (k2,v2)::_,(p2,q2)::_,.cons a b r=>by
    simp only [List.map_cons]
    by_cases e:k2=k
    · rw [if_pos e,if_pos ((key_eq h a hk).mp e)]
      exact .cons a hv (VRepd.upd h hv hk r)
    · rw [if_neg e,if_neg (fun z=>e ((key_eq h a hk).mpr z))]
      exact .cons a b (VRepd.upd h hv hk r)
theorem VRepd.put {F:FF} {k v:NV} {p q:PV} (h:VRep F k p) (hv:VRep F v q) (hk:vkeyOk k=true) {xs:List (NV×NV)} {ps:List (PV×PV)} (r:VRepd F xs ps):VRepd F (vdPut xs k v) (Sg.dictPut ps p q):=by
  unfold vdPut Sg.dictPut
  rw [VRepd.any h hk r]
  split
  · exact VRepd.upd h hv hk r
  · exact r.append (.cons h hv .nil)
theorem re_dic0:RE eDic0 vDic0:=fun F env σ st r ev env' h=>by
  cases h
  obtain ⟨G3,v3⟩:=r.new (.dic .nil)
  exact ⟨_,_,F,rfl,G3,v3⟩
theorem rfn {N:Nat} {mp:List Nat} {m:EvS} {n:VS} (hm:RS m n):RFn (fnOf N m) (vFn N mp n) mp:=by?
 exact fun F st vs ps r ev os h=>by
  simp only [vFn,grd_ok] at h
  obtain ⟨hlt,h⟩:=h
  have hlt:∀j∈mp,j < vs.length:=fun j hj=>by simpa using List.all_eq_true.mp hlt j hj
  have hlen:vs.length=ps.length:=by have:=r.len;rw [vst_len,List.length_map] at this;exact this
  have e0:start0 N ps=ps.map some++List.replicate (N - vs.length) none:=by unfold start0;rw [hlen]
  have gE:∀ (k:Nat) s,(vst mp 0 vs++List.replicate (N - vs.length) Sl.un)[k]? = some s→s≠.un→(vst mp 0 vs)[k]? = some s:=fun k s q hs=>by
    by_cases hk:k < (vst mp 0 vs).length
    · rw [List.getElem?_append_left hk] at q;exact q
    · rw [List.getElem?_append_right (by omega),List.getElem?_replicate] at q
      split at q
      · exact absurd (by simpa using q.symm) hs
      · cases q
  have gM:∀ (k:Nat) v,mutV (vst mp 0 vs++List.replicate (N - vs.length) Sl.un) k=some v→mutV (vst mp 0 vs) k=some v:=fun k v q=>by
    unfold mutV at *
    cases h:(vst mp 0 vs++List.replicate (N - vs.length) Sl.un)[k]? with
    | none=>rw [h] at q;cases q
    | some s=>rw [h] at q;rw [gE k s h (fun e=>by subst e;cases q)];exact q
  have gP:∀ (k:Nat) p,(ps.map some)[k]? = some p→(ps.map some++List.replicate (N - vs.length) (none:Option PV))[k]? = some p:=fun k p q=>by
    rw [List.getElem?_append_left (List.getElem?_eq_some_iff.mp q).1];exact q
  have gP':∀ (k:Nat) p,(ps.map some++List.replicate (N - vs.length) (none:Option PV))[k]? = some (some p)→(ps.map some)[k]? = some (some p):=fun k p q=>by
    by_cases hk:k < (ps.map some).length
    · rw [List.getElem?_append_left hk] at q;exact q
    · rw [List.getElem?_append_right (by omega),List.getElem?_replicate] at q
      split at q <;> cases q
  have gO:∀i,Ow (vst mp 0 vs++List.replicate (N - vs.length) .un) (ps.map some++List.replicate (N - vs.length) none) i→Ow (vst mp 0 vs) (ps.map some) i:=fun i ⟨k,v,q1,q2⟩=>⟨k,v,gM k v q1,gP' k _ q2⟩
  have r0:RR F (vst mp 0 vs++List.replicate (N - vs.length) .un) (start0 N ps) st:=by
    rw [e0]
    refine ⟨by simp [vst_len,hlen],r.sub,r.wf,fun k v q=>?_,fun k v q=>?_,fun k p q=>r.rf k p (gP' k p q),fun k l v w i q1 q2 q3 q4=>r.dj k l v w i (gM k v q1) (gM l w q2) (gP' k _ q3) (gP' l _ q4)⟩
    · obtain ⟨p,h1,h2⟩:=r.sh k v (gE k _ q (by simp))
      exact ⟨p,gP k _ h1,h2⟩
    · obtain ⟨i,o,h1,h2⟩:=r.mu k v (gM k v q)
      exact ⟨i,o,gP k _ h1,h2⟩
  split at h
  · rename_i res hr
    obtain ⟨fl,envC⟩:=res
    obtain ⟨fl',σC,st',F',e1,G1,v1⟩:=hm F _ _ st r0 fl envC hr
    rw [e0] at G1
    have rC:=G1.rr
    -- the parameters behind the body
    let envf:Env:=(vst mp 0 vs).mapIdx fun j s=>if mp.contains j then envC.getD j .un else s
    have ef:∀ (k:Nat),envf[k]? = (vst mp 0 vs)[k]?.map fun s=>if mp.contains k then envC.getD k .un else s:=fun k=>by
      show ((vst mp 0 vs).mapIdx _)[k]? = _
      rw [List.getElem?_mapIdx]
    have pin:∀j∈mp,∃v,envC[j]? = some (.bo v)∧σC[j]? = (ps.map some)[j]?∧envf[j]? = some (.bo v)∧∃v0,(vst mp 0 vs)[j]? = some (.bo v0):=fun j hj=>by
      have hjl:=hlt j hj
      have hb:(vst mp 0 vs)[j]? = some (.bo vs[j]):=by
        rw [vst_get,List.getElem?_eq_getElem hjl]
        simp [hj]
      have hb2:(vst mp 0 vs++List.replicate (N - vs.length) Sl.un)[j]? = some (.bo vs[j]):=by
        rw [List.getElem?_append_left (by rw [vst_len];exact hjl)];exact hb
      obtain ⟨q1,v',q2⟩:=G1.pin j _ hb2
      refine ⟨v',q2,?_,?_,_,hb⟩
      · rw [q1,List.getElem?_append_left (by rw [List.length_map,← hlen];exact hjl)]
      · rw [ef,hb]
        simp only [Option.map_some]
        rw [if_pos (by simpa using hj),List.getD_eq_getElem?_getD,q2];rfl
    have fM:∀ (k:Nat) v,mutV envf k=some v→k∈mp∧mutV envC k=some v:=fun k v q=>by
      unfold mutV at q
      rw [ef] at q
      by_cases hk:k∈mp
      · obtain ⟨w,h1,h2,h3,_⟩:=pin k hk
        rw [← ef,h3] at q
        exact ⟨hk,by unfold mutV;rw [h1];exact q⟩
      · rw [vst_get] at q
        have hk':¬ mp.contains k=true:=by simpa using hk
        have hk'':¬ mp.contains (0+k)=true:=by simpa using hk
        cases hv:vs[k]? with
        | none=>simp [hv] at q
        | some v'=>
          rw [hv] at q
          simp only [Option.map_some,Option.bind_some] at q
          rw [if_neg hk',if_neg hk''] at q;cases q
    have fO:∀i,Ow envf (ps.map some) i→Ow envC σC i:=fun i ⟨k,v,q1,q2⟩=>by
      obtain ⟨h1,h2⟩:=fM k v q1
      obtain ⟨w,_,h4,_⟩:=pin k h1
      exact ⟨k,v,h2,by rw [h4];exact q2⟩
    have Rf:RR F' envf (ps.map some) st':=by
      refine ⟨by show ((vst mp 0 vs).mapIdx _).length=_;simp [vst_len,hlen],rC.sub,rC.wf,fun k v q=>?_,fun k v q=>?_,fun k p q=>refsLt_mono G1.le p (r.rf k p q),fun k l v w i q1 q2 q3 q4=>?_⟩
      · rw [ef] at q
        by_cases hk:k∈mp
        · obtain ⟨w,h1,h2,h3,_⟩:=pin k hk
          rw [← ef,h3] at q;cases q
        · have hk':¬ mp.contains k=true:=by simpa using hk
          simp only [if_neg hk',Option.map_id'] at q
          obtain ⟨p,h1,h2⟩:=r.sh k v q
          exact ⟨p,h1,h2.mono G1.ext⟩
      · obtain ⟨h1,h2⟩:=fM k v q
        obtain ⟨w,_,h4,_⟩:=pin k h1
        obtain ⟨i,o,z1,z2⟩:=rC.mu k v h2
        exact ⟨i,o,by rw [← h4];exact z1,z2⟩
      · obtain ⟨h1,h2⟩:=fM k v q1
        obtain ⟨h3,h4⟩:=fM l w q2
        obtain ⟨_,_,y1,_⟩:=pin k h1
        obtain ⟨_,_,y2,_⟩:=pin l h3
        exact rC.dj k l v w i h2 h4 (by rw [y1];exact q3) (by rw [y2];exact q4)
    have Gf:Go F (vst mp 0 vs) (ps.map some) st F' envf (ps.map some) st':=by
      refine ⟨Rf,G1.ext,fun i hi hn=>G1.frm i hi fun z=>hn (gO i z),G1.le,fun i q=>(G1.own i (fO i q)).elim (fun z=>.inl (gO i z)) .inr,fun k v q=>⟨rfl,?_⟩⟩
      have hk:k∈mp:=by
        rw [vst_get] at q
        cases hv:vs[k]? with
        | none=>simp [hv] at q
        | some v'=>
          rw [hv] at q
          simp only [Nat.zero_add,Option.map_some,Option.some.injEq] at q
          by_cases hk:mp.contains k=true
          · simpa using hk
          · rw [if_neg hk] at q;cases q
      obtain ⟨w,_,_,h3,_⟩:=pin k hk
      exact ⟨w,h3⟩
    have oe:∀ms:List Nat,(∀j∈ms,j∈mp)→outs envf ms=outs envC ms:=by
      intro ms
      induction ms with
      | nil=>intro _;rfl
      | cons j ms ih=>
        intro hs
        obtain ⟨w,h1,_,h3,_⟩:=pin j (hs j (List.mem_cons_self ..))
        simp only [outs,h1,h3,ih fun j hj=>hs j (List.mem_cons_of_mem _ hj)]
    have outsE:=oe mp fun _ h=>h
    have notOw:∀i,st.length≤i→¬ Ow envf (ps.map some) i:=fun i hi ⟨k,v,q1,q2⟩=>by
      have:=r.rf k _ q2
      simp only [refsLt,decide_eq_true_eq] at this
      omega
    cases fl with
    | nx=>
      cases fl' <;> try exact v1.elim
      simp only [R.bind_ok,ofO_ok] at h
      obtain ⟨os',h1,h2⟩:=h
      cases h2
      exact ⟨.non,st',F',envf,by unfold fnOf;rw [e1];rfl,Gf,by rw [outsE];exact h1,VRep.non,by simp⟩
    | bk=>cases h
    | ct=>cases h
    | rt e=>
      cases fl' <;> try exact v1.elim
      rename_i p
      simp only [R.bind_ok,ofO_ok] at h
      obtain ⟨w,h0,os',h1,h2⟩:=h
      cases h2
      have v1:EVR F' envC σC st' st.length e p:=v1
      refine ⟨p,st',F',envf,by unfold fnOf;rw [e1];rfl,Gf,by rw [outsE];exact h1,?_⟩
      cases e with
      | im v=>simp only [vret,Option.some.injEq] at h0;subst h0;exact ⟨v1,by simp⟩
      | fr v=>
        simp only [vret,Option.some.injEq] at h0;subst h0
        obtain ⟨i,o,z1,z2,z3,z4,z5,z6⟩:=v1
        exact ⟨⟨i,o,z1,z2,z3,z4,z5,notOw i z2⟩,by simp⟩
      | sl k=>
        have v1:σC[k]? = some (some p):=v1
        simp only [vret] at h0
        split at h0
        · rename_i v q
          simp only [Option.some.injEq] at h0
          subst h0
          have hm:mutV envC k=some v:=by unfold mutV;rw [q];rfl
          obtain ⟨i,o,z1,z2,z3,z4⟩:=rC.mu k v hm
          rw [v1] at z1
          simp only [Option.some.injEq] at z1
          subst z1
          have hi : st.length≤i:=by
            rcases G1.own i ⟨k,v,hm,v1⟩ with z | z
            · obtain ⟨j,w,y1,y2⟩:=gO i z
              have hj:j∈mp:=by
                unfold mutV at y1
                rw [vst_get] at y1
                cases hv:vs[j]? with
                | none=>simp [hv] at y1
                | some v'=>
                  rw [hv] at y1
                  simp only [Nat.zero_add,Option.map_some,Option.bind_some] at y1
                  by_cases hk:mp.contains j=true
                  · simpa using hk
                  · rw [if_neg hk] at y1;cases y1
              obtain ⟨v',b1,b2,_,_⟩:=pin j hj
              have hm2:mutV envC j=some v':=by unfold mutV;rw [b1];rfl
              have:=rC.dj k j v v' i hm hm2 v1 (by rw [b2];exact y2)
              subst this
              rw [q] at b1;cases b1
            · exact z
          exact ⟨⟨i,o,rfl,hi,z2,z3,z4,notOw i hi⟩,by simp⟩
        · rename_i v q
          simp only [Option.some.injEq] at h0
          subst h0
          obtain ⟨p',z1,z2⟩:=rC.sh k v q
          rw [v1] at z1
          simp only [Option.some.injEq] at z1
          subst z1
          exact ⟨z2,by simp⟩
        · cases h0
  · simp only [R.bind_ok] at h
    obtain ⟨_,_,h⟩:=h
    cases h
  · cases h
/-- the end: a law -/
theorem law_end {f:Fn} {g:VF} (hf:RFn f g []) {ns:List Int} (h:g [.fro (ns.map .int)]=.ok (.im (.bl true),[])):∃st,f [.fro (ns.map .int)] []=.ok (.bl true,st):=by?
  have hr:∀ns:List Int,VReps (fun _=>none) (ns.map .int) (ns.map .int):=fun ns=>by
    induction ns with
    | nil=>exact .nil
    | cons n r ih=>exact .cons (.int n) ih
  have hlt:∀ns:List Int,refsLts 0 (ns.map .int)=true:=fun ns=>by
    induction ns with
    | nil=>rfl
    | cons n r ih=>simpa [refsLts,refsLt] using ih
  have r:RR (fun _=>none) (vst [] 0 [.fro (ns.map .int)]) (([.fro (ns.map .int)]:List PV).map some) []:=by
    refine ⟨rfl,(fun i o q=>nomatch q),(fun i o q=>by simp at q),fun k v q=>?_,fun k v q=>?_,fun k p q=>?_,fun k l v w i q1 q2 q3 q4=>?_⟩
    · cases k with
      | zero=>simp [vst] at q;subst q;exact ⟨_,by simp,.fro (hr ns)⟩
      | succ k=>simp [vst] at q
    · cases k with
      | zero=>simp [mutV,vst,Sl.mut] at q
      | succ k=>simp [mutV,vst] at q
    · cases k with
      | zero=>simp at q;subst q;simpa [refsLt] using hlt ns
      | succ k=>simp at q
    · cases k with
      | zero=>simp [mutV,vst,Sl.mut] at q1
      | succ k=>simp [mutV,vst] at q1
  obtain ⟨p,st',F',envf,h1,_,_,h4,_⟩:=hf _ [] _ _ r _ _ h
  cases h4
  exact ⟨st',h1⟩
noncomputable
abbrev Sub (F:FF) (st:Store):Prop:=∀ (i:Nat) o,F i=some o→st[i]? = some o
section
variable {F:FF} {st:Store} {p:PV}
theorem LRep.int {i:Int} (h:LRep F st (.int i) p):p=.int i:=by
  rcases h with h | ⟨_,_,_,_,h⟩
  · cases h;rfl
  · cases h
theorem LRep.str {i:Str} (h:LRep F st (.str i) p):p=.str i:=by
  rcases h with h | ⟨_,_,_,_,h⟩
  · cases h;rfl
  · cases h
theorem LRep.bool {i:Bool} (h:LRep F st (.bl i) p):p=.bl i:=by
  rcases h with h | ⟨_,_,_,_,h⟩
  · cases h;rfl
  · cases h
theorem LRep.ty {i:String} (h:LRep F st (.ty i) p):p=.ty i:=by
  rcases h with h | ⟨_,_,_,_,h⟩
  · cases h;rfl
  · cases h
theorem LRep.non (h:LRep F st .non p):p=.non:=by
  rcases h with h | ⟨_,_,_,_,h⟩
  · cases h;rfl
  · cases h
theorem LRep.tup {xs:List NV} (h:LRep F st (.tup xs) p):∃ps,p=.tup ps∧VReps F xs ps:=by
  rcases h with h | ⟨_,_,_,_,h⟩
  · cases h with | tup r=>exact ⟨_,rfl,r⟩
  · cases h
theorem LRep.fro {xs:List NV} (h:LRep F st (.fro xs) p):∃ps,p=.fro ps∧VReps F xs ps:=by
  rcases h with h | ⟨_,_,_,_,h⟩
  · cases h with | fro r=>exact ⟨_,rfl,r⟩
  · cases h
theorem LRep.lst {xs:List NV} (s:Sub F st) (h:LRep F st (.lst xs) p):∃i ps,p=.ref i∧st[i]? = some (.lst ps)∧VReps F xs ps:=by
  rcases h with h | ⟨i,_,rfl,h1,h⟩
  · cases h with | lst q r=>exact ⟨_,_,rfl,s _ _ q,r⟩
  · cases h with | lst r=>exact ⟨i,_,rfl,h1,r⟩
theorem LRep.dic {xs:List (NV×NV)} (s:Sub F st) (h:LRep F st (.dic xs) p):∃i ps,p=.ref i∧st[i]? = some (.dic ps)∧VRepd F xs ps:=by
  rcases h with h | ⟨i,_,rfl,h1,h⟩
  · cases h with | dic q r=>exact ⟨_,_,rfl,s _ _ q,r⟩
  · cases h with | dic r=>exact ⟨i,_,rfl,h1,r⟩
theorem LRep.dct {xs:List (NV×NV)} (s:Sub F st) (h:LRep F st (.dct xs) p):∃i ps,p=.ref i∧dctR st i=some ps∧VRepd F xs ps:=by
  rcases h with h | ⟨i,_,rfl,h1,h⟩
  · cases h with
    | dct q r=>exact ⟨_,_,rfl,by unfold dctR;rw [s _ _ q],r⟩
    | fdc q r=>exact ⟨_,_,rfl,by unfold dctR;rw [s _ _ q],r⟩
  · cases h with | dct r=>exact ⟨i,_,rfl,by unfold dctR;rw [h1],r⟩
theorem LRep.set {xs:List NV} (s:Sub F st) (h:LRep F st (.set xs) p):∃i ps,p=.ref i∧st[i]? = some (.set ps)∧VReps F xs ps:=by
  rcases h with h | ⟨i,_,rfl,h1,h⟩
  · cases h with | set q r=>exact ⟨_,_,rfl,s _ _ q,r⟩
  · cases h with | set r=>exact ⟨i,_,rfl,h1,r⟩
theorem LRep.v {v:NV} (h:VRep F v p):LRep F st v p:=.inl h
theorem OpRes.im {v:NV} {r:PV} (h:VRep F v r):OpRes F st (.im v) r st:=.inl ⟨v,rfl,rfl,h⟩
theorem OpRes.fr {v:NV} {o:PO} (h:ORep F v o):OpRes F st (.fr v) (.ref st.length) (st++[o]):=.inr ⟨v,o,rfl,rfl,rfl,h⟩
end
noncomputable
def voAdd:VO2:=fun x y=>match x,y with
  | .int i,.int j=>some (.im (.int (i+j)))
  | .str i,.str j=>if i.length+j.length≤LINE then some (.im (.str (i++j))) else none
  | .tup i,.tup j=>if i.length+j.length≤LINE then some (.im (.tup (i++j))) else none
  | .lst i,.lst j=>if i.length+j.length≤LINE then some (.fr (.lst (i++j))) else none
  | _,_=>none
theorem ov_add:OpV opAdd voAdd:=by?
 exact fun F st a b p q s ha hb ev h=>by
  unfold voAdd at h
  split at h
  · cases ha.int;cases hb.int;cases h;exact ⟨_,_,rfl,.im (.int _)⟩
  · cases ha.str;cases hb.str
    split at h
    · rename_i hl;cases h;exact ⟨_,_,if_pos hl,.im (.str _)⟩
    · cases h
  · obtain ⟨ps,rfl,r1⟩:=ha.tup
    obtain ⟨qs,rfl,r2⟩:=hb.tup
    split at h
    · rename_i hl;cases h;exact ⟨_,_,if_pos (by rw [← r1.length,← r2.length];exact hl),.im (.tup (r1.append r2))⟩
    · cases h
  · obtain ⟨i,ps,rfl,h1,r1⟩:=ha.lst s
    obtain ⟨j,qs,rfl,h2,r2⟩:=hb.lst s
    split at h
    · rename_i hl;cases h
      exact ⟨_,_,by simp only [opAdd,h1,h2];exact if_pos (by rw [← r1.length,← r2.length];exact hl),.fr (.lst (r1.append r2))⟩
    · cases h
  · cases h
noncomputable
def voSub:VO2:=fun x y=>match x,y with
  | .int i,.int j=>some (.im (.int (i - j)))
  | _,_=>none
theorem ov_sub:OpV opSub voSub:=fun F st a b p q s ha hb ev h=>by
  unfold voSub at h
  split at h
  · cases ha.int;cases hb.int;cases h;exact ⟨_,_,rfl,.im (.int _)⟩
  · cases h
noncomputable
def voMul:VO2:=fun x y=>match x,y with
  | .int i,.int j=>if mulOk i j then some (.im (.int (i * j))) else none
  | .lst xs,.int k=>if 0≤k∧k≤16777216∧xs.length * k.toNat≤LINE then some (.fr (.lst (List.replicate k.toNat xs).flatten)) else none
  | _,_=>none
theorem ov_mul:OpV opMulA voMul:=by?
 exact fun F st a b p q s ha hb ev h=>by
  unfold voMul at h
  split at h
  · cases ha.int;cases hb.int
    split at h
    · rename_i hl;cases h;exact ⟨_,_,if_pos hl,.im (.int _)⟩
    · cases h
  · obtain ⟨i,ps,rfl,h1,r1⟩:=ha.lst s
    cases hb.int
    split at h
    · rename_i hl;cases h
      exact ⟨_,_,by simp only [opMulA,h1];exact if_pos (by rw [← r1.length];exact hl),.fr (.lst (r1.rep _))⟩
    · cases h
  · cases h
noncomputable
def voFdiv:VO2:=fun x y=>match x,y with
  | .int i,.int j=>if 0 < j∧j.natAbs.log2 < 9000 then some (.im (.int (i / j))) else none
  | _,_=>none
theorem ov_fdiv:OpV opFdiv voFdiv:=fun F st a b p q s ha hb ev h=>by
  unfold voFdiv at h
  split at h
  · cases ha.int;cases hb.int
    split at h
    · rename_i hl;cases h;exact ⟨_,_,if_pos hl,.im (.int _)⟩
    · cases h
  · cases h
noncomputable
def voMod:VO2:=fun x y=>match x,y with
  | .int i,.int j=>if 0 < j then some (.im (.int (i % j))) else none
  | _,_=>none
theorem ov_mod:OpV opMod voMod:=fun F st a b p q s ha hb ev h=>by
  unfold voMod at h
  split at h
  · cases ha.int;cases hb.int
    split at h
    · rename_i hl;cases h;exact ⟨_,_,if_pos hl,.im (.int _)⟩
    · cases h
  · cases h
noncomputable
def voPow:VO2:=fun x y=>match x,y with
  | .int i,.int j=>if 0≤j∧(Builtin.Int.intBits i:Int) * j≤2 ^ 27 then some (.im (.int (i ^ j.toNat))) else none
  | _,_=>none
theorem ov_pow:OpV opPow voPow:=fun F st a b p q s ha hb ev h=>by
  unfold voPow at h
  split at h
  · cases ha.int;cases hb.int
    split at h
    · rename_i hl;cases h;exact ⟨_,_,if_pos hl,.im (.int _)⟩
    · cases h
  · cases h
noncomputable
def voLt:VO2:=fun x y=>match x,y with
  | .int i,.int j=>some (.im (.bl (decide (i < j))))
  | .str i,.str j=>some (.im (.bl (decide (i.cps.toList < j.cps.toList))))
  | _,_=>none
theorem ov_lt:OpV opLt voLt:=fun F st a b p q s ha hb ev h=>by
  unfold voLt at h
  split at h
  · cases ha.int;cases hb.int;cases h;exact ⟨_,_,rfl,.im (.bl _)⟩
  · cases ha.str;cases hb.str;cases h;exact ⟨_,_,rfl,.im (.bl _)⟩
  · cases h
noncomputable
def voLe:VO2:=fun x y=>match x,y with
  | .int i,.int j=>some (.im (.bl (decide (i≤j))))
  | _,_=>none
noncomputable
def voGt:VO2:=fun x y=>match x,y with
  | .int i,.int j=>some (.im (.bl (decide (j < i))))
  | _,_=>none
theorem ov_gt:OpV opGt voGt:=fun F st a b p q s ha hb ev h=>by
  unfold voGt at h
  split at h
  · cases ha.int;cases hb.int;cases h;exact ⟨_,_,rfl,.im (.bl _)⟩
  · cases h
noncomputable
def voGe:VO2:=fun x y=>match x,y with
  | .int i,.int j=>some (.im (.bl (decide (j≤i))))
  | _,_=>none
theorem ov_ge:OpV opGe voGe:=fun F st a b p q s ha hb ev h=>by
  unfold voGe at h
  split at h
  · cases ha.int;cases hb.int;cases h;exact ⟨_,_,rfl,.im (.bl _)⟩
  · cases h
noncomputable
def voIsN:VO2:=fun x y=>match y with
  | .non=>some (.im (.bl (decide (x=.non))))
  | _=>none
noncomputable
def voNotN:VO2:=fun x y=>match y with
  | .non=>some (.im (.bl (!decide (x=.non))))
  | _=>none
noncomputable
def vuNeg:NV→Option EV
  | .int i=>some (.im (.int (-i)))
  | _=>none
mutual
noncomputable
def vdat:NV→Option PyData
  | .non=>some .none
  | .bl b=>some (.bool b)
  | .int i=>some (.int i)
  | .str x=>some (.str x)
  | .tup xs=>(vdats xs).map .tuple
  | .fro xs=>(vdats xs).map .list
  | .lst xs=>(vdats xs).map .list
  | _=>none
noncomputable
def vdats:List NV→Option (List PyData)
  | []=>some []
  | x::xs=>match vdat x,vdats xs with
    | some d,some ds=>some (d::ds)
    | _,_=>none
end
mutual
theorem dat_rep {F:FF} {st:Store} (s:Sub F st):∀ {v:NV} {p:PV} {d:PyData} (f:Nat),VRep F v p→vdat v=some d→d.depth≤f→datF (datR st f) p=some d
  | _,_,_,f,.non,h,_=>by simpa [vdat,datF] using h
  | _,_,_,f,.bl _,h,_=>by simpa [vdat,datF] using h
  | _,_,_,f,.int _,h,_=>by simpa [vdat,datF] using h
  | _,_,_,f,.str _,h,_=>by simpa [vdat,datF] using h
  | _,_,_,f,.ty _,h,_=>by simp [vdat] at h
  | _,_,_,f,.glb _,h,_=>by simp [vdat] at h
  | _,_,_,f,.tup r,h,hd=>by
    simp only [vdat,Option.map_eq_some_iff] at h
    obtain ⟨ds,h,rfl⟩:=h
    simp only [datF,dats_rep s f r h (by simp only [PyData.depth] at hd;omega),Option.map_some]
  | _,_,_,f,.fro r,h,hd=>by
    simp only [vdat,Option.map_eq_some_iff] at h
    obtain ⟨ds,h,rfl⟩:=h
    simp only [datF,dats_rep s f r h (by simp only [PyData.depth] at hd;omega),Option.map_some]
  | _,_,_,f,.lst q r,h,hd=>by
    simp only [vdat,Option.map_eq_some_iff] at h
    obtain ⟨ds,h,rfl⟩:=h
    simp only [PyData.depth] at hd
    cases f with
    | zero=>omega
    | succ f=>simp only [datF,datR,s _ _ q,dats_rep s f r h (by omega),Option.map_some]
  | _,_,_,f,.dic _ _,h,_=>by simp [vdat] at h
  | _,_,_,f,.dct _ _,h,_=>by simp [vdat] at h
  | _,_,_,f,.fdc _ _,h,_=>by simp [vdat] at h
  | _,_,_,f,.exn _ _,h,_=>by simp [vdat] at h
  | _,_,_,f,.tab _,h,_=>by simp [vdat] at h
  | _,_,_,f,.bex _,h,_=>by simp [vdat] at h
  | _,_,_,f,.dsk _ _ _ _,h,_=>by simp [vdat] at h
  | _,_,_,f,.ob _ _ _,h,_=>by simp [vdat] at h
  | _,_,_,f,.set _ _,h,_=>by simp [vdat] at h
theorem dats_rep {F:FF} {st:Store} (s:Sub F st):∀ {v:List NV} {p:List PV} {d:List PyData} (f:Nat),VReps F v p→vdats v=some d→PyData.depthAll d≤f→datFs (datR st f) p=some d
  | _,_,_,f,.nil,h,_=>by simpa [vdats,datFs] using h
  | _,_,_,f,.cons a r,h,hd=>by
    simp only [vdats] at h
    split at h
    · rename_i d ds h1 h2
      cases h
      simp only [PyData.depthAll] at hd
      simp only [datFs,dat_rep s f a h1 (by omega),dats_rep s f r h2 (by omega)]
    · cases h
end
theorem dat_of {F:FF} {st:Store} (s:Sub F st) {v:NV} {p:PV} {d:PyData} (h:LRep F st v p) (hv:vdat v=some d) (hd:d.depth≤64):dat st p=some d:=by?
  rcases h with h | ⟨i,o,rfl,h1,h2⟩
  · exact dat_rep s 64 h hv hd
  · cases h2 with
    | lst r=>
      simp only [vdat,Option.map_eq_some_iff] at hv
      obtain ⟨ds,hv,rfl⟩:=hv
      simp only [PyData.depth] at hd
      have e:dat st (.ref i)=datR st (63+1) i:=rfl
      rw [e]
      unfold datR
      simp only [h1]
      rw [dats_rep s 63 r hv (by omega)];rfl
    | dic r=>simp [vdat] at hv
    | set r=>simp [vdat] at hv
    | dct r=>simp [vdat] at hv
    | obj r t=>simp [vdat] at hv
    | dsk s r t=>simp [vdat] at hv
noncomputable
def veqD (x y:NV):Option Bool:=match vdat x,vdat y with
  | some d,some e=>if SeqAt.shaped d && SeqAt.shaped e then some (PyData.eqv d e) else none
  | _,_=>none
noncomputable
def veq (x y:NV):Option Bool:=match x,y with
  | .int a,.int b=>some (decide (a=b))
  | .str a,.str b=>some (decide (a=b))
  | .bl a,.bl b=>some (decide (a=b))
  | .non,.non=>some true
  | .non,.int _=>some false
  | .int _,.non=>some false
  | .non,.str _=>some false
  | .str _,.non=>some false
  | .int _,.str _=>some false
  | .str _,.int _=>some false
  | x,y=>veqD x y
theorem veqD_rep {F:FF} {st:Store} (s:Sub F st) {x y:NV} {p q:PV} {b:Bool} (hx:LRep F st x p) (hy:LRep F st y q) (h:veqD x y=some b):eqD st p q=some b:=by
  unfold veqD at h
  split at h
  · rename_i d e h1 h2
    split at h
    · rename_i hs
      simp only [Bool.and_eq_true] at hs
      unfold eqD
      rw [dat_of s hx h1 (SeqAt.depth_of_shaped hs.1),dat_of s hy h2 (SeqAt.depth_of_shaped hs.2)]
      simp only [hs.1,hs.2,Bool.and_self,if_true];exact h
    · cases h
  · cases h
theorem veq_rep {F:FF} {st:Store} (s:Sub F st) {x y:NV} {p q:PV} {b:Bool} (hx:LRep F st x p) (hy:LRep F st y q) (h:veq x y=some b):eqP st p q=some b:=by?
  unfold veq at h
  split at h
  · cases hx.int;cases hy.int;exact h
  · cases hx.str;cases hy.str;exact h
  · cases hx.bool;cases hy.bool;exact h
  · cases hx.non;cases hy.non;exact h
  · cases hx.non;cases hy.int;exact h
  · cases hx.int;cases hy.non;exact h
  · cases hx.non;cases hy.str;exact h
  · cases hx.str;cases hy.non;exact h
  · cases hx.int;cases hy.str;exact h
  · cases hx.str;cases hy.int;exact h
  · rename_i n1 n2 n3 n4 n5 n6 n7 n8 n9 n10
    have:=veqD_rep s hx hy h
    unfold eqP
    cases p <;> cases q <;> first
      | exact this
      | exact (n1 _ _ (inv_int hx) (inv_int hy)).elim
      | exact (n2 _ _ (inv_str hx) (inv_str hy)).elim
      | exact (n3 _ _ (inv_bl hx) (inv_bl hy)).elim
      | exact (n4 (inv_non hx) (inv_non hy)).elim
      | exact (n5 _ (inv_non hx) (inv_int hy)).elim
      | exact (n6 _ (inv_int hx) (inv_non hy)).elim
      | exact (n7 _ (inv_non hx) (inv_str hy)).elim
      | exact (n8 _ (inv_str hx) (inv_non hy)).elim
      | exact (n9 _ _ (inv_int hx) (inv_str hy)).elim
      | exact (n10 _ _ (inv_str hx) (inv_int hy)).elim
where
  inv_int {x:NV} {i:Int} (h:LRep F st x (.int i)):x=.int i:=by
    rcases h with h | ⟨_,_,h,_,_⟩
    · cases h;rfl
    · cases h
  inv_str {x:NV} {i:Str} (h:LRep F st x (.str i)):x=.str i:=by
    rcases h with h | ⟨_,_,h,_,_⟩
    · cases h;rfl
    · cases h
  inv_bl {x:NV} {i:Bool} (h:LRep F st x (.bl i)):x=.bl i:=by
    rcases h with h | ⟨_,_,h,_,_⟩
    · cases h;rfl
    · cases h
  inv_non {x:NV} (h:LRep F st x .non):x=.non:=by
    rcases h with h | ⟨_,_,h,_,_⟩
    · cases h;rfl
    · cases h
noncomputable
def voEq:VO2:=fun x y=>(veq x y).map fun b=>.im (.bl b)
theorem ov_eq:OpV opEq voEq:=fun F st a b p q s ha hb ev h=>by
  simp only [voEq,Option.map_eq_some_iff] at h
  obtain ⟨c,h,rfl⟩:=h
  exact ⟨_,_,by unfold opEq;rw [veq_rep s ha hb h],.im (.bl _)⟩
noncomputable
def voNe:VO2:=fun x y=>(veq x y).map fun b=>.im (.bl (!b))
theorem ov_ne:OpV opNe voNe:=fun F st a b p q s ha hb ev h=>by
  simp only [voNe,Option.map_eq_some_iff] at h
  obtain ⟨c,h,rfl⟩:=h
  exact ⟨_,_,by unfold opNe;rw [veq_rep s ha hb h],.im (.bl _)⟩
noncomputable
def vflat:NV→Bool
  | .non=>true
  | .bl _=>true
  | .int _=>true
  | .str _=>true
  | _=>false
noncomputable
def veqF:NV→NV→Bool
  | .non,.non=>true
  | .bl a,.bl b=>a == b
  | .bl a,.int b=>(if a then 1 else 0) == b
  | .int a,.bl b=>a == (if b then 1 else 0)
  | .int a,.int b=>a == b
  | .str a,.str b=>a == b
  | _,_=>false
theorem flat_L {F:FF} {st:Store} {v:NV} {p:PV} (h:LRep F st v p) (q:vflat v=true):VRep F v p:=by
  rcases h with h | ⟨_,_,_,_,h⟩
  · exact h
  · cases h <;> simp [vflat] at q
noncomputable
def vdGet (kvs:List (NV×NV)) (k:NV):Option NV:=(kvs.find? fun q=>decide (q.1=k)).map (·.2)
theorem dget_rep {F:FF} {k:NV} {p:PV} (h:VRep F k p) (hk:vkeyOk k=true):∀ {xs:List (NV×NV)} {ps:List (PV×PV)},VRepd F xs ps→(vdGet xs k=none∧dGet ps p=none)∨∃v q,vdGet xs k=some v∧dGet ps p=some q∧VRep F v q
  | _,_,.nil=>.inl ⟨rfl,rfl⟩
  | (k2,v2)::_,(p2,q2)::_,.cons a b r=>by
    by_cases e:k2=k
    · exact .inr ⟨v2,q2,by simp [vdGet,e],by simp [dGet,(key_eq h a hk).mp e],b⟩
    · have e2:p2≠p:=fun z=>e ((key_eq h a hk).mpr z)
      rcases dget_rep h hk r with ⟨h1,h2⟩ | ⟨v,q,h1,h2,h3⟩
      · exact .inl ⟨by simpa [vdGet,e] using h1,by simpa [dGet,e2] using h2⟩
      · exact .inr ⟨v,q,by simpa [vdGet,e] using h1,by simpa [dGet,e2] using h2,h3⟩
theorem key_L {F:FF} {st:Store} {v:NV} {p:PV} (h:LRep F st v p) (q:vkeyOk v=true):VRep F v p:=by
  rcases h with h | ⟨_,_,_,_,h⟩
  · exact h
  · cases h <;> simp [vkeyOk] at q
noncomputable
def vin (x y:NV):Option Bool:=match y with
  | .tup xs=>if vflat x && xs.all vflat then some (xs.any fun z=>veqF z x) else none
  | .fro xs=>if vflat x && xs.all vflat then some (xs.any fun z=>veqF z x) else none
  | .lst xs=>if vflat x && xs.all vflat then some (xs.any fun z=>veqF z x) else none
  | .str t=>match x with
    | .str s=>match s.cps.toList with
      | [c]=>some (decide (c∈t.cps.toList))
      | _=>none
    | _=>none
  | .dic kvs=>if vkeyOk x then some (vdGet kvs x).isSome else none
  | .set xs=>if vkeyOk x then some (decide (x∈xs)) else none
  | _=>none
noncomputable
def voIn:VO2:=fun x y=>(vin x y).map fun b=>.im (.bl b)
noncomputable
def voNotIn:VO2:=fun x y=>(vin x y).map fun b=>.im (.bl (!b))
noncomputable
def vix (xs:List NV) (i:Int):Option NV:=(ixP xs.length i).bind fun j=>xs[j]?
noncomputable
def voIx:VO2:=fun x y=>match x with
  | .dic kvs=>if vkeyOk y then (vdGet kvs y).map .im else none
  | .str s=>match y with
    | .int i=>if s.length≤LINE then (ixP s.cps.toList.length i).bind fun j=>s.cps.toList[j]?.map fun c=>.im (.str ⟨#[c]⟩) else none
    | _=>none
  | .tup xs=>match y with
    | .int i=>(vix xs i).map .im
    | _=>none
  | .fro xs=>match y with
    | .int i=>(vix xs i).map .im
    | _=>none
  | .lst xs=>match y with
    | .int i=>(vix xs i).map .im
    | _=>none
  | _=>none
theorem ix_rep {F:FF} {st:Store} {xs:List NV} {ps:List PV} {i:Int} {v:NV} (r:VReps F xs ps) (h:vix xs i=some v):∃j q,ixP ps.length i=some j∧ps[j]? = some q∧VRep F v q:=by
  simp only [vix,Option.bind_eq_some_iff] at h
  obtain ⟨j,h1,h2⟩:=h
  obtain ⟨q,h3,h4⟩:=r.get h2
  exact ⟨j,q,by rw [← r.length];exact h1,h3,h4⟩
theorem ov_ix:OpV opIxA voIx:=by?
 exact fun F st a b p q s ha hb ev h=>by
  unfold voIx at h
  split at h
  · obtain ⟨i,ps,rfl,h1,r⟩:=ha.dic s
    split at h
    · rename_i hk
      have vx:=key_L hb hk
      have ko:keyB q=true:=key_ok vx hk
      simp only [Option.map_eq_some_iff] at h
      obtain ⟨v,h,rfl⟩:=h
      rcases dget_rep vx hk r with ⟨h2,h3⟩ | ⟨w,z,h2,h3,h4⟩
      · rw [h2] at h;cases h
      · rw [h2] at h;cases h
        exact ⟨z,st,by simp [opIxA,isDic,h1,opDGet,ko,h3],.im h4⟩
    · cases h
  · cases ha.str
    split at h
    · cases hb.int
      split at h
      · rename_i hl
        simp only [Option.bind_eq_some_iff,Option.map_eq_some_iff] at h
        obtain ⟨j,h1,c,h2,rfl⟩:=h
        exact ⟨_,st,by unfold opIxA;simp only [isDic,opIx,Bool.false_eq_true,if_false];rw [if_pos hl,h1];simp only [h2],.im (.str _)⟩
      · cases h
    · cases h
  · obtain ⟨ps,rfl,r⟩:=ha.tup
    split at h
    · cases hb.int
      simp only [Option.map_eq_some_iff] at h
      obtain ⟨v,h,rfl⟩:=h
      obtain ⟨j,z,h1,h2,h3⟩:=ix_rep (st:=st) r h
      exact ⟨z,st,by simp [opIxA,isDic,opIx,seqP,h1,h2],.im h3⟩
    · cases h
  · obtain ⟨ps,rfl,r⟩:=ha.fro
    split at h
    · cases hb.int
      simp only [Option.map_eq_some_iff] at h
      obtain ⟨v,h,rfl⟩:=h
      obtain ⟨j,z,h1,h2,h3⟩:=ix_rep (st:=st) r h
      exact ⟨z,st,by simp [opIxA,isDic,opIx,seqP,h1,h2],.im h3⟩
    · cases h
  · obtain ⟨i,ps,rfl,h0,r⟩:=ha.lst s
    split at h
    · cases hb.int
      simp only [Option.map_eq_some_iff] at h
      obtain ⟨v,h,rfl⟩:=h
      obtain ⟨j,z,h1,h2,h3⟩:=ix_rep (st:=st) r h
      exact ⟨z,st,by simp [opIxA,isDic,h0,opIx,seqP,h1,h2],.im h3⟩
    · cases h
  · cases h
/-- slices -/
noncomputable
abbrev VOp:=Env→R EE (Option Int×Env)
noncomputable
def vEnd (a:VE):VOp:=fun env=>a env >>= fun x=>ofO ((x.1.get x.2).bind isInt) >>= fun i=>.ok (some i,x.2)
noncomputable
def vNoEnd:VOp:=fun env=>.ok (none,env)
noncomputable
def vsl (x:NV) (lo hi:Option Int):Option EV:=match x with
  | .tup xs=>some (.im (.tup (cutP xs lo hi)))
  | .str s=>if s.length≤LINE then some (.im (.str ⟨(cutP s.cps.toList lo hi).toArray⟩)) else none
  | .lst xs=>some (.fr (.lst (cutP xs lo hi)))
  | _=>none
noncomputable
def vSl (a:VE) (lo hi:VOp):VE:=fun env=>a env >>= fun x=>lo x.2 >>= fun l=>hi l.2 >>= fun h=>ofO ((x.1.get h.2).bind fun u=>vsl u l.1 h.1) >>= fun z=>.ok (z,h.2)
/-- o[i]=v -/
noncomputable
def vset (u j v:NV):Option NV:=match u with
  | .lst xs=>match j with
    | .int k=>(ixP xs.length k).map fun i=>.lst (xs.set i v)
    | _=>none
  | .dic kvs=>if vkeyOk j=true∧kvs.length < LINE then some (.dic (vdPut kvs j v)) else none
  | _=>none
theorem sv_set:SubV vset:=by?
 exact fun F st i o u j q v w s hi ho hj hv u' h=>by
  unfold vset at h
  split at h
  · cases ho with
    | lst r=>
      split at h
      · cases hj.int
        simp only [Option.map_eq_some_iff] at h
        obtain ⟨k,h1,rfl⟩:=h
        exact ⟨_,by simp only [setP,hi];rw [← r.length,h1],.lst (r.setI hv k)⟩
      · cases h
  · cases ho with
    | dic r=>
      split at h
      · rename_i hc
        cases h
        have vk:=key_L hj hc.1
        exact ⟨_,by simp only [setP,hi];exact if_pos (by rw [Bool.and_eq_true];exact ⟨key_ok vk hc.1,decide_eq_true (by rw [← r.length];exact hc.2)⟩),.dic (VRepd.put vk hv hc.1 r)⟩
      · cases h
  · cases h
section
variable {F:FF} {st:Store}
theorem LReps.one {v:NV} {ps:List PV} (h:LReps F st [v] ps):∃p,ps=[p]∧LRep F st v p:=by
  cases h with
  | cons a b=>cases b;exact ⟨_,rfl,a⟩
theorem LReps.two {v w:NV} {ps:List PV} (h:LReps F st [v,w] ps):∃p q,ps=[p,q]∧LRep F st v p∧LRep F st w q:=by
  cases h with
  | cons a b=>obtain ⟨q,rfl,c⟩:=b.one;exact ⟨_,_,rfl,a,c⟩
end
noncomputable
def vfLen:List NV→Option EV
  | [.str s]=>if s.length≤LINE then some (.im (.int s.length)) else none
  | [.lst xs]=>some (.im (.int xs.length))
  | [.dic xs]=>some (.im (.int xs.length))
  | [.tup xs]=>some (.im (.int xs.length))
  | [.fro xs]=>some (.im (.int xs.length))
  | _=>none
theorem fv_len:FnV fnLen vfLen:=by?
 exact fun F st vs ps s h ev q=>by
  unfold vfLen at q
  split at q
  · obtain ⟨p,rfl,h'⟩:=h.one;have h:=h'
    cases h.str
    split at q
    · rename_i hl;cases q;exact ⟨_,_,if_pos hl,.im (.int _)⟩
    · cases q
  · obtain ⟨p,rfl,h'⟩:=h.one;have h:=h'
    obtain ⟨i,ps,rfl,h1,r⟩:=h.lst s
    cases q
    exact ⟨.int ps.length,st,by simp only [fnLen,h1],.im (by rw [r.length];exact .int _)⟩
  · obtain ⟨p,rfl,h'⟩:=h.one;have h:=h'
    obtain ⟨i,ps,rfl,h1,r⟩:=h.dic s
    cases q
    exact ⟨.int ps.length,st,by simp only [fnLen,h1],.im (by rw [r.length];exact .int _)⟩
  · obtain ⟨p,rfl,h'⟩:=h.one;have h:=h'
    obtain ⟨ps,rfl,r⟩:=h.tup
    cases q
    exact ⟨_,_,rfl,.im (by rw [r.length];exact .int _)⟩
  · obtain ⟨p,rfl,h'⟩:=h.one;have h:=h'
    obtain ⟨ps,rfl,r⟩:=h.fro
    cases q
    exact ⟨_,_,rfl,.im (by rw [r.length];exact .int _)⟩
  · cases q
noncomputable
def vtyName:NV→Option String
  | .non=>some "NoneType"
  | .bl _=>some "bool"
  | .int _=>some "int"
  | .str _=>some "str"
  | .tup _=>some "tuple"
  | .fro _=>some "list"
  | .lst _=>some "list"
  | .dic _=>some "dict"
  | _=>none
noncomputable
def vfIsi:List NV→Option EV
  | [x,.ty b]=>(vtyName x).bind fun a=>if b∈clsNames then some (.im (.bl (isSub a b))) else none
  | _=>none
noncomputable
def vfAbs:List NV→Option EV
  | [.int i]=>some (.im (.int (if i < 0 then -i else i)))
  | _=>none
theorem fv_abs:FnV fnAbs vfAbs:=fun F st vs ps s h ev q=>by
  unfold vfAbs at q
  split at q
  · obtain ⟨p,rfl,h'⟩:=h.one;have h:=h'
    cases h.int;cases q
    exact ⟨_,_,rfl,.im (.int _)⟩
  · cases q
noncomputable
def vfMin2:List NV→Option EV
  | [.int i,.int j]=>some (.im (.int (if j < i then j else i)))
  | _=>none
theorem fv_min2:FnV fnMin2 vfMin2:=fun F st vs ps s h ev q=>by
  unfold vfMin2 at q
  split at q
  · obtain ⟨p,p2,rfl,h',h2⟩:=h.two;have h:=h'
    cases h.int;cases h2.int;cases q
    exact ⟨_,_,rfl,.im (.int _)⟩
  · cases q
noncomputable
def vfMax2:List NV→Option EV
  | [.int i,.int j]=>some (.im (.int (if j > i then j else i)))
  | _=>none
theorem fv_max2:FnV fnMax2 vfMax2:=fun F st vs ps s h ev q=>by
  unfold vfMax2 at q
  split at q
  · obtain ⟨p,p2,rfl,h',h2⟩:=h.two;have h:=h'
    cases h.int;cases h2.int;cases q
    exact ⟨_,_,rfl,.im (.int _)⟩
  · cases q
noncomputable
def vfInt:List NV→Option EV
  | [.int i]=>some (.im (.int i))
  | [.bl k]=>some (.im (.int (if k then 1 else 0)))
  | _=>none
theorem fv_int:FnV fnInt vfInt:=fun F st vs ps s h ev q=>by
  unfold vfInt at q
  split at q
  · obtain ⟨p,rfl,h'⟩:=h.one;have h:=h'
    cases h.int;cases q
    exact ⟨_,_,rfl,.im (.int _)⟩
  · obtain ⟨p,rfl,h'⟩:=h.one;have h:=h'
    cases h.bool;cases q
    exact ⟨_,_,rfl,.im (.int _)⟩
  · cases q
noncomputable
def vfList:List NV→Option EV
  | [x]=>(vseq x).map fun xs=>.fr (.lst xs)
  | _=>none
noncomputable
def vfTuple:List NV→Option EV
  | [.tup xs]=>some (.im (.tup xs))
  | [.lst xs]=>some (.im (.tup xs))
  | _=>none
noncomputable
def vasInts:List NV→Option (List Int)
  | []=>some []
  | .int i::r=>(vasInts r).map (i :: ·)
  | _=>none
noncomputable
def vasBls:List NV→Option (List Bool)
  | []=>some []
  | .bl i::r=>(vasBls r).map (i :: ·)
  | _=>none
theorem ints_rep_inv {x:NV} {r:List NV} {ns:List Int} (h:vasInts (x::r)=some ns):∃i ms,x=.int i∧vasInts r=some ms∧ns=i::ms:=by
  unfold vasInts at h
  split at h
  · rename_i e;cases e
  · rename_i i r' e
    cases e
    obtain ⟨ms,h1,h2⟩:=Option.map_eq_some_iff.mp h
    exact ⟨i,ms,rfl,h1,h2.symm⟩
  · cases h
theorem ints_rep {F:FF} {v:List NV} {p:List PV} {ns:List Int} (r:VReps F v p) (h:vasInts v=some ns):asInts p=some ns:=by
  induction v generalizing p ns with
  | nil=>cases r;exact h
  | cons x v ih=>
    obtain ⟨i,ms,rfl,h1,rfl⟩:=ints_rep_inv h
    cases r with
    | cons a b=>
      have e:=ih b h1
      cases a
      show (asInts _).map (i :: ·)=_
      rw [e];rfl
noncomputable
def vlst:NV→Option (List NV)
  | .fro xs=>some xs
  | .lst xs=>some xs
  | _=>none
theorem lst_rep {F:FF} {st:Store} (s:Sub F st) {v:NV} {p:PV} {xs:List NV} (h:LRep F st v p) (q:vlst v=some xs):∃ps,lstP st p=some ps∧VReps F xs ps:=by
  unfold vlst at q
  split at q
  · obtain ⟨ps,rfl,r⟩:=h.fro;cases q;exact ⟨ps,rfl,r⟩
  · obtain ⟨i,ps,rfl,h1,r⟩:=h.lst s;cases q;exact ⟨ps,by simp only [lstP,h1],r⟩
  · cases q
noncomputable
def vfAll:List NV→Option EV
  | [x]=>(vlst x).bind fun xs=>(vasBls xs).map fun bs=>.im (.bl (bs.all id))
  | _=>none
noncomputable
def vfSum:List NV→Option EV
  | [x]=>(vlst x).bind fun xs=>(vasInts xs).map fun ns=>.im (.int ns.sum)
  | _=>none
theorem fv_sum:FnV fnSum vfSum:=by?
 exact fun F st vs ps s h ev q=>by
  unfold vfSum at q
  split at q
  · obtain ⟨p,rfl,h'⟩:=h.one;have h:=h'
    simp only [Option.bind_eq_some_iff,Option.map_eq_some_iff] at q
    obtain ⟨xs,q,bs,q2,rfl⟩:=q
    obtain ⟨ps,h1,r⟩:=lst_rep s h q
    exact ⟨_,_,by simp only [fnSum,h1,Option.bind_some,ints_rep r q2],.im (.int _)⟩
  · cases q
noncomputable
def kDic:NV→Bool
  | .dic _=>true
  | _=>false
theorem kv_dic:KnV isDic kDic:=fun F st u p s h q=>by
  cases u <;> simp [kDic] at q
  · obtain ⟨i,ps,rfl,h1,r⟩:=h.dic s;simp only [isDic,h1]
noncomputable
def vmAppend:NV→List NV→Option (NV×NV):=fun u vs=>match u,vs with
  | .lst xs,[y]=>if xs.length < LINE then some (.non,.lst (xs++[y])) else none
  | _,_=>none
noncomputable
def vmExtend:NV→List NV→Option (NV×NV):=fun u vs=>match u,vs with
  | .lst xs,[.lst ys]=>if xs.length+ys.length≤LINE then some (.non,.lst (xs++ys)) else none
  | _,_=>none
noncomputable
def vmGet:NV→List NV→Option EV:=fun u vs=>match u,vs with
  | .dic kvs,[k]=>if vkeyOk k then some (.im ((vdGet kvs k).getD .non)) else none
  | .dic kvs,[k,d]=>if vkeyOk k && vflat d then some (.im ((vdGet kvs k).getD d)) else none
  | _,_=>none
theorem mv_get:MeV mGet vmGet:=by?
 exact fun F st u p vs ps s hu h ev q=>by
  unfold vmGet at q
  split at q
  · obtain ⟨i,ps',rfl,h1,r⟩:=hu.dic s
    obtain ⟨p,rfl,h'⟩:=h.one;have h:=h'
    split at q
    · rename_i hk
      cases q
      have vx:=key_L h hk
      have ko:keyB p=true:=key_ok vx hk
      rcases dget_rep vx hk r with ⟨h2,h3⟩ | ⟨w,z,h2,h3,h4⟩
      · exact ⟨_,st,by simp only [mGet,h1,ko,if_true,h3];rfl,by rw [h2];exact .im .non⟩
      · exact ⟨_,st,by simp only [mGet,h1,ko,if_true,h3];rfl,by rw [h2];exact .im h4⟩
    · cases q
  · obtain ⟨i,ps',rfl,h1,r⟩:=hu.dic s
    obtain ⟨p,p2,rfl,h',hd⟩:=h.two;have h:=h'
    split at q
    · rename_i hk
      cases q
      simp only [Bool.and_eq_true] at hk
      have vx:=key_L h hk.1
      have vd:=flat_L hd hk.2
      have ko:keyB p=true:=key_ok vx hk.1
      rcases dget_rep vx hk.1 r with ⟨h2,h3⟩ | ⟨w,z,h2,h3,h4⟩
      · exact ⟨_,st,by simp only [mGet,h1,ko,if_true,h3];rfl,by rw [h2];exact .im vd⟩
      · exact ⟨_,st,by simp only [mGet,h1,ko,if_true,h3];rfl,by rw [h2];exact .im h4⟩
    · cases q
  · cases q
end Vg
namespace Sg
open PySem PySem.Spec PyProof.Rows L2
/-- the different ones,in the order met -/
noncomputable
def dedupK {α:Type} [DecidableEq α] (acc:List α):List α→List α
  | []=>acc
  | x::r=>dedupK (if x∈acc then acc else acc++[x]) r
noncomputable
def fnLenA:Fn:=fun vs st=>match vs with
  | [.ref i]=>match st[i]? with
    | some (.set xs)=>if xs.length < 4096 then .ok (.int xs.length,st) else .stuck
    | _=>fnLen [.ref i] st
  | vs=>fnLen vs st
theorem cd_lenA {X:Cx}:CallR X (.builtin "len") (rCOf X fnLenA):=by?
  intro pins s σ H xs us Q I r ⟨ad,st,ps,R,Vs,h⟩
  by_cases hp:∃i ys,ps=[.ref i]∧st[i]? = some (.set ys)
  · obtain ⟨i,ys,rfl,hy⟩:=hp
    obtain ⟨v,e,rv⟩:=Vs.one
    subst e
    simp only [fnLenA,hy] at h
    split at h
    · rename_i hl
      cases rv with
      | ref ha=>
        rename_i a
        obtain ⟨S,ks,q1,q2,q3,q4⟩:=R.obj _ _ _ hy ha
        rw [Vals.ref1 r]
        obtain ⟨o,es,ep,t,ho,hex,hd,_,_,hb,hf,hn⟩:=setK_get I q1
        refine call_len_set ho hex hd hf (by rw [hn];omega) ?_
        exact ⟨.int ys.length,H,I.tok _,⟨_,by rw [hn]⟩,rdOk h R (.int _)⟩
    · exact h.elim
  · refine cd_len pins s σ H xs us Q I r ⟨ad,st,ps,R,Vs,?_⟩
    have e:fnLenA ps st=fnLen ps st:=by
      unfold fnLenA
      split
      · rename_i i
        split
        · rename_i ys hy;exact absurd ⟨i,ys,rfl,hy⟩ hp
        · rfl
      · rfl
    rw [e] at h;exact h
/-- each parameter from the values by position (false) or by name (true) -/
noncomputable
def selG {α:Type} (d:α) (sel:List (Bool×Nat)) (us ws:List α):List α:=sel.map fun p=>if p.1 then ws.getD p.2 d else us.getD p.2 d
end Sg
namespace Vg
open PySem Sg
noncomputable
def vfSet:List NV→Option EV
  | [.tup xs]=>if xs.all vkeyOk=true∧xs.length+1 < 4096 then some (.fr (.set (dedupK [] xs))) else none
  | _=>none
noncomputable
def vfLenA:List NV→Option EV
  | [.set xs]=>if xs.length < 4096 then some (.im (.int xs.length)) else none
  | vs=>vfLen vs
theorem fv_lenA:FnV fnLenA vfLenA:=by?
 exact fun F st vs ps s h ev q=>by
  unfold vfLenA at q
  split at q
  · obtain ⟨p,rfl,h'⟩:=h.one;have h:=h'
    obtain ⟨i,ps,rfl,h1,r⟩:=h.set s
    split at q
    · rename_i hc;cases q
      exact ⟨.int ps.length,st,by simp only [fnLenA,h1];exact if_pos (by rw [← r.length];exact hc),.im (by rw [r.length];exact .int _)⟩
    · cases q
  · rename_i hne
    obtain ⟨r,st',e,k⟩:=fv_len F st vs ps s h ev q
    have e2:fnLenA ps st=fnLen ps st:=by
      unfold fnLenA
      split
      · rename_i i
        split
        · rename_i ys hy
          exfalso
          simp only [fnLen,hy] at e
          cases e
        · rfl
      · rfl
    exact ⟨r,st',by rw [e2];exact e,k⟩
noncomputable
def vKw (n m:Nat) (sel:List (Bool×Nat)) (a b:VA):VA:=fun env=>a env >>= fun xs=>b xs.2 >>= fun ys=>grd (xs.1.length=n∧ys.1.length=m) (.ok (selG (.im .non) sel xs.1 ys.1,ys.2))
noncomputable
def vRev:NV→Option EV
  | .tup xs=>some (.im (.tup xs.reverse))
  | .lst xs=>some (.fr (.lst xs.reverse))
  | _=>none
end Vg
namespace Vg
open PySem hiding Env
open Sg
/-- three names at once,the third value a plain one -/
noncomputable
def vPar3 (i j l:Nat) (a:VA):VS:=fun env=>a env >>= fun x=>match x.1 with
  | [e,e',.im w]=>grd (vflat w=true) (ofO ((vKeeps [e,e'] x.2).bind fun y=>vSets [i,j] y.1 y.2) >>= fun r=>ofO (vSet l (.sh w) r) >>= fun r=>.ok (.nx,r))
  | [e,.im w,e']=>grd (vflat w=true∧j≠l) (ofO ((vKeeps [e,e'] x.2).bind fun y=>vSets [i,l] y.1 y.2) >>= fun r=>ofO (vSet j (.sh w) r) >>= fun r=>.ok (.nx,r))
  | _=>.no
theorem EVRs.take {F:FF} {env:Env} {σ:Slots} {st:Store} {n:Nat}:∀ (k:Nat) {es:List EV} {ps:List PV},EVRs F env σ st n es ps→EVRs F env σ st n (es.take k) (ps.take k)
  | 0,_,_,_=>by simp only [List.take_zero];exact .nil
  | _+1,_,_,.nil=>by simp only [List.take_nil];exact .nil
  | k+1,_,_,.cons a r=>by simp only [List.take_succ_cons];exact .cons a (r.take k)
noncomputable
def vDfl (a:VA):VA:=fun env=>a env >>= fun xs=>.ok (xs.1++[.im (.tup [])],xs.2)
theorem EVRs.snoc {F:FF} {env:Env} {σ:Slots} {st:Store} {n:Nat} {e:EV} {p:PV} (k:EVR F env σ st n e p):∀ {es:List EV} {ps:List PV},EVRs F env σ st n es ps→EVRs F env σ st n (es++[e]) (ps++[p])
  | _,_,.nil=>.cons k .nil
  | _,_,.cons a r=>.cons a (EVRs.snoc k r)
end Vg
namespace Vg
open PySem Sg
section
variable {F:FF} {env:Env} {σ:Slots} {st:Store}
theorem RR.drop (r:RR F env σ st) {j:Nat} {v:NV} (hj:env[j]? = some (.ow v)) {i:Nat} (hi:σ[j]? = some (some (.ref i))) (hF:F i=none):Go F env σ st F (env.set j .un) σ (st.set i .dead):=by?
  have hjl:j < env.length:=(List.getElem?_eq_some_iff.mp hj).1
  have mj:mutV env j=some v:=by unfold mutV;rw [hj];rfl
  have get:∀ {k:Nat} {s:Sl},(env.set j .un)[k]? = some s→s≠.un→k≠j∧env[k]? = some s:=fun {k s} q hs=>by
    by_cases e:k=j
    · subst e
      rw [List.getElem?_set_self hjl] at q
      exact absurd (Option.some.inj q).symm hs
    · rw [List.getElem?_set_ne (fun z=>e z.symm)] at q
      exact ⟨e,q⟩
  have mget:∀ {k:Nat} {w:NV},mutV (env.set j .un) k=some w→k≠j∧mutV env k=some w:=fun {k w} q=>by
    by_cases e:k=j
    · subst e
      unfold mutV at q
      rw [List.getElem?_set_self hjl] at q
      cases q
    · refine ⟨e,?_⟩
      unfold mutV at q ⊢
      rw [List.getElem?_set_ne (fun z=>e z.symm)] at q
      exact q
  have hst:∃o,st[i]? = some o:=by
    obtain ⟨i',o,h1,_,h3,_⟩:=r.mu j v mj
    rw [hi] at h1
    cases h1
    exact ⟨o,h3⟩
  obtain ⟨o,hst⟩:=hst
  have il:=get_lt hst
  refine ⟨⟨by rw [List.length_set];exact r.len,fun k o q=>?_,fun k o q=>?_,fun k w q=>?_,fun k w q=>?_,fun k p q=>by rw [List.length_set];exact r.rf k p q,fun k l w u c q1 q2 q3 q4=>?_⟩,fun _ _ q=>q,fun k hk hn=>?_,by rw [List.length_set];exact Nat.le_refl _,fun k ⟨l,w,q1,q2⟩=>.inl ⟨l,w,(mget q1).2,q2⟩,fun k w q=>?_⟩
  · rw [set_getP il,if_neg (fun e=>by subst e;rw [hF] at q;cases q)];exact r.sub k o q
  · rw [List.length_set]
    rw [set_getP il] at q
    split at q
    · cases q;rfl
    · exact r.wf k o q
  · exact r.sh k w (get q (by simp)).2
  · obtain ⟨hk,q⟩:=mget q
    obtain ⟨c,o,h1,h2,h3,h4⟩:=r.mu k w q
    refine ⟨c,o,h1,h2,?_,h4⟩
    rw [set_getP il,if_neg (fun e=>hk (r.dj k j w v i q mj (by rw [e];exact h1) hi))];exact h3
  · exact r.dj k l w u c (mget q1).2 (mget q2).2 q3 q4
  · refine ⟨?_,rfl⟩
    rw [set_getP il,if_neg (fun e=>hn ⟨j,v,mj,by rw [← e];exact hi⟩)]
  · by_cases e:k=j
    · subst e;rw [hj] at q;cases q
    · exact ⟨rfl,w,by rw [List.getElem?_set_ne (fun z=>e z.symm)];exact q⟩
end
end Vg
namespace Sg
open PySem PySem.Spec PyProof.Rows L2
theorem tk_nk {p:PV} (h:tkOk p=true):nkOk p=true∧(nkP p).depth≤8:=by
  unfold tkOk at h
  split at h
  · exact ⟨by simp [nkOk,nkOks],by simp [nkP,nkPs,NestedKey.depth,NestedKey.depthAll]⟩
  · cases h
theorem tk_inj {p q:PV} (hp:tkOk p=true) (hq:tkOk q=true) (e:nkP p=nkP q):p=q:=by
  unfold tkOk at hp hq
  split at hp
  · split at hq
    · rename_i a b c d _ a' b' c' d'
      simp only [nkP,nkPs,NestedKey.tup.injEq,List.cons.injEq,NestedKey.num.injEq,and_true] at e
      obtain ⟨rfl,rfl,rfl,e⟩:=e
      cases d <;> cases d' <;> simp_all
    · cases hq
  · cases hp
section
variable {W:Wd} {ad:List Addr} {H:Hp}
theorem key_vr {p:PV} {v:V} (hk:tkOk p=true) (h:VR W ad H p v):∃b,v=.ref b:=by
  cases p with
  | tup xs=>cases h with | tup hs r=>exact ⟨_,rfl⟩
  | _=>simp [tkOk] at hk
/-- a dict with tuples for keys,open or locked -/
noncomputable
def RdX (P:Program) (w:World) (H:Hp) (a:Addr) (es:List (NK×Addr×V)):Prop:=H a=some (DX P w a es)∨∃o,H a=some (.frz o (DX P w a es))
/-- entries against entries -/
noncomputable
abbrev UsR:List (NK×Addr×V)→List (NK×Addr×Value)→Prop:=Paired fun e u=>e.1=u.1∧e.2.1=u.2.1∧RelV e.2.2 u.2.2
theorem DT.get {ps:List (PV×PV)} {es:List (NK×Addr×V)} {us:List (NK×Addr×Value)} (h:DT W ad H ps es) (r:UsR es us) {kp:PV} (hk:tkOk kp=true):match dGet ps kp with
    | some p=>∃b u v,atKey us (nkP kp)=some (b,u)∧VR W ad H p v∧RelV v u
    | none=>atKey us (nkP kp)=none:=by
  induction h generalizing us with
  | nil=>cases r;rfl
  | @cons k0 b p v ps vs s0 s q t ih=>
    cases r with
    | @cons e u es' us' hu r=>
      obtain ⟨h1,h2,h3⟩:=hu
      have h1:nkP k0=u.1:=h1
      by_cases e:k0=kp
      · subst e
        have e1:dGet ((k0,p)::ps) k0=some p:=by simp [dGet]
        rw [e1]
        have e':u.1=nkP k0:=h1.symm
        have c:atKey (u::us') (nkP k0)=some u.2:=by simp [atKey,List.find?_cons,e']
        exact ⟨u.2.1,u.2.2,v,c,q,h3⟩
      · have e1:dGet ((k0,p)::ps) kp=dGet ps kp:=by
          unfold dGet
          rw [List.find?_cons,show decide (((k0,p):PV×PV).1=kp)=false from decide_eq_false e]
        rw [e1]
        have e':¬ u.1=nkP kp:=fun z=>e (tk_inj s0 hk (h1.trans z))
        have c:atKey (u::us') (nkP kp)=atKey us' (nkP kp):=by simp [atKey,List.find?_cons,e']
        rw [c]
        exact ih r
/-- the entries behind d[k]=v -/
noncomputable
def putE (es:List (NK×Addr×V)) (k:NK) (b:Addr) (v:V):List (NK×Addr×V):=
  if (es.any fun e=>decide (e.1=k))=true then es.map (fun e=>if e.1=k then (e.1,e.2.1,v) else e) else es++[(k,b,v)]
theorem any_us {es:List (NK×Addr×V)} {us:List (NK×Addr×Value)} (r:UsR es us) (k:NK):(es.any fun e=>decide (e.1=k))=(atKey us k).isSome:=by?
  induction r with
  | nil=>rfl
  | @cons e u es us h t ih=>
    obtain ⟨h1,_⟩:=h
    by_cases q:e.1=k
    · have q':u.1=k:=h1.symm.trans q
      have c:atKey (u::us) k=some u.2:=by simp [atKey,List.find?_cons,q']
      rw [c,List.any_cons,decide_eq_true q];rfl
    · have q':¬ u.1=k:=fun z=>q (h1.trans z)
      have c:atKey (u::us) k=atKey us k:=by simp [atKey,List.find?_cons,q']
      rw [c,List.any_cons,decide_eq_false q,Bool.false_or,ih]
theorem UsR.put {es:List (NK×Addr×V)} {us:List (NK×Addr×Value)} (r:UsR es us) (k:NK) {b:Addr} {v:V} {u:Value} (rv:RelV v u):UsR (putE es k b v) (storedH us k b u):=by?
  have mp:∀ {es:List (NK×Addr×V)} {us:List (NK×Addr×Value)},UsR es us→UsR (es.map fun e=>if e.1=k then (e.1,e.2.1,v) else e) (us.map (putAt k u)):=fun r=>by
    induction r with
    | nil=>exact .nil
    | @cons e w es us h t ih=>
      rw [List.map_cons,List.map_cons]
      refine .cons ?_ ih
      obtain ⟨h1,h2,h3⟩:=h
      unfold putAt
      by_cases q:e.1=k
      · rw [if_pos q,if_pos (h1.symm.trans q)];exact ⟨h1,h2,rv⟩
      · rw [if_neg q,if_neg (fun z=>q (h1.trans z))];exact ⟨h1,h2,h3⟩
  unfold putE storedH
  rw [any_us r k]
  split
  · exact mp r
  · exact Paired.snoc r ⟨rfl,rfl,rv⟩
theorem DT.put {kp:PV} {b:Addr} {p:PV} {v:V} (hk:tkOk kp=true) (S:VR W ad H kp (.ref b)) (U:VR W ad H p v) {ps:List (PV×PV)} {es:List (NK×Addr×V)} (r:DT W ad H ps es):DT W ad H (dictPut ps kp p) (putE es (nkP kp) b v):=by?
  have any:∀ {ps:List (PV×PV)} {es:List (NK×Addr×V)},DT W ad H ps es→(ps.any fun q=>decide (q.1=kp))=es.any fun e=>decide (e.1=nkP kp):=fun r=>by
    induction r with
    | nil=>rfl
    | cons s0 s q _ ih=>
      simp only [List.any_cons,ih]
      congr 1
      rw [Bool.eq_iff_iff,decide_eq_true_eq,decide_eq_true_eq]
      exact ⟨fun e=>by rw [e],fun e=>tk_inj s0 hk e⟩
  have mp:∀ {ps:List (PV×PV)} {es:List (NK×Addr×V)},DT W ad H ps es→DT W ad H (ps.map fun q=>if q.1=kp then (q.1,p) else q) (es.map fun e=>if e.1=nkP kp then (e.1,e.2.1,v) else e):=fun r=>by
    induction r with
    | nil=>exact .nil
    | @cons j c q w ps es s0 s z _ ih=>
      simp only [List.map_cons]
      by_cases e:j=kp
      · subst e
        rw [if_pos rfl,if_pos rfl]
        exact .cons s0 s U ih
      · rw [if_neg e,if_neg (fun z=>e (tk_inj s0 hk z))]
        exact .cons s0 s z ih
  have ap:∀ {ps:List (PV×PV)} {es:List (NK×Addr×V)},DT W ad H ps es→DT W ad H (ps++[(kp,p)]) (es++[(nkP kp,b,v)]):=fun r=>by
    induction r with
    | nil=>exact .cons hk S U .nil
    | cons s0 s q _ ih=>exact .cons s0 s q ih
  unfold dictPut putE
  rw [any r]
  split
  · exact mp r
  · exact ap r
theorem DT.length {ps:List (PV×PV)} {es:List (NK×Addr×V)} (h:DT W ad H ps es):ps.length=es.length:=by
  induction h with
  | nil=>rfl
  | cons _ _ _ _ ih=>rw [List.length_cons,List.length_cons,ih]
end
theorem putE_len (es:List (NK×Addr×V)) (k:NK) (b:Addr) (v:V):(putE es k b v).length≤es.length+1:=by
  unfold putE
  split
  · rw [List.length_map];omega
  · rw [List.length_append];simp
section
variable {X:Cx} {pins:List (Addr×Obj)} {σ:L2.St} {ad:List Addr} {H:Hp} {s:Shared} {a b:Addr} {es:List (NK×Addr×V)} {ps:List (PV×PV)} {k:NK}
mutual
theorem nk_is (I:Inv X pins σ H s):∀ {p:PV} {v:V} {u:Value},VR X.wd ad H p v→RelV v u→nkOk p=true→NestedIs s.heap (nkP p) u
  | _,_,_,.non,r,_=>by
    cases r
    exact .none
  | _,_,_,.int i,r,_=>by
    obtain ⟨t,rfl⟩:=r
    exact .int i t
  | _,_,_,.str x,r,_=>by
    obtain ⟨t,rfl⟩:=r
    exact .text x t
  | _,_,_,.tup hs rs,r,h=>by
    cases r
    simp only [nkOk] at h
    obtain ⟨its,rv,⟨o,h1,h2,n,h3⟩,_⟩:=I.tuple hs.sq
    exact .tup h1 h2 h3 (by simpa using nks_is I rs rv h)
  | _,_,_,.bl _,r,_=>by
    cases r
    exact .bool rfl
  | _,_,_,.ty _,_,h=>by simp [nkOk] at h
  | _,_,_,.fro _ _,_,h=>by simp [nkOk] at h
  | _,_,_,.ref _,_,h=>by simp [nkOk] at h
  | _,_,_,.glb _,_,h=>by simp [nkOk] at h
theorem nks_is (I:Inv X pins σ H s):∀ {ps:List PV} {vs:List V} {us:List Value},VRs X.wd ad H ps vs→Vals vs us→nkOks ps=true→NestedAll s.heap (nkPs ps) us
  | _,_,_,.nil,r,_=>by
    cases r
    exact .nil
  | _,_,_,.cons a t,r,h=>by
    simp only [nkOks,Bool.and_eq_true] at h
    cases r with
    | cons r1 r2=>exact .cons (nk_is I a r1 h.1) (nks_is I t r2 h.2)
end
/-- such a tuple is a key -/
theorem tk_at {kp:PV} (I:Inv X pins σ H s) (hk:tkOk kp=true) (h:VR X.wd ad H kp (.ref b)):(nestedKind X.prog X.w).is s.heap (nkP kp) b:=⟨nk_is I h rfl (tk_nk hk).1,(tk_nk hk).2⟩
theorem nk_room {A:Around} (hu:A.units+64 < cLine) (P:Program) (w:World):(nestedKind P w).room A.in1:=by
  show A.units+1+8 < cLine
  omega
theorem dx_at (I:Inv X pins σ H s) (ha:RdX X.prog X.w H a es) (d:DT X.wd ad H ps es):es.length≤sizeLine∧(a == sysModules)=false∧∃us,UsR es us∧s.heap.DictOfH (nestedKind X.prog X.w) a us:=by?
  have dx:(∃z:es.length≤sizeLine,(a == sysModules)=false∧∃us,UsR es us∧∃o ents ep,s.heap.get? a=some o∧o.ExactDict∧o.data=.dict ents ep∧ents.toList=us.map (entryOfKey (nestedKind X.prog X.w))∧(us.map (·.1)).Nodup):=by
    rcases ha with ha | ⟨o,ha⟩
    · obtain ⟨z,y,us,r,o,en,ep,h1,h2,h3,h4,h5⟩:=(I.hok a _ ha).1
      exact ⟨z,y,us,r,o,en,ep,h1,h2,h3,h4,h5⟩
    · obtain ⟨hd,⟨z,y,us,r,o',en,ep,h1,h2,h3,h4,h5⟩,_⟩:=I.hok a _ ha
      exact ⟨z,y,us,r,o',en,ep,h1,h2,h3,h4,h5⟩
  obtain ⟨z,y,us,r,o,en,ep,h1,h2,h3,h4,h5⟩:=dx
  refine ⟨z,y,us,r,o,en,ep,h1,h2,h3,h4,?_,h5⟩
  have all:∀ {ps:List (PV×PV)} {es:List (NK×Addr×V)} {us:List (NK×Addr×Value)},DT X.wd ad H ps es→UsR es us→∀x∈us,(nestedKind X.prog X.w).is s.heap x.1 x.2.1:=by
    intro ps es us d
    induction d generalizing us with
    | nil=>intro r x hx;cases r;cases hx
    | @cons k0 c p v ps vs s0 sq q t ih=>
      intro r x hx
      cases r with
      | @cons e u es' us' hu r=>
        rcases List.mem_cons.mp hx with e | hx
        · subst e
          obtain ⟨e1,e2,_⟩:=hu
          rw [← e1,← e2]
          exact tk_at I s0 sq
        · exact ih r x hx
  exact all d r
theorem dx_new {P:Program} {w:World} {H':Hp} {h':Heap} {us:List (NK×Addr×Value)} (z:es.length≤sizeLine) (hd:(a == sysModules)=false) (r:UsR es us) (dd:h'.DictOfH (nestedKind P w) a us):ObjOk P w H' h' a (DX P w a es):=by
  obtain ⟨o,en,ep,h1,h2,h3,h4,_,h5⟩:=dd
  refine ⟨⟨z,hd,us,r,o,en,ep,h1,h2,h3,h4,h5⟩,⟨o,h1⟩,fun g1 g2 kk pk=>?_⟩
  obtain ⟨z,y,us,r,o,en,ep,q1,q2,q3,q4,q5⟩:=kk
  exact ⟨z,y,us,r,o,en,ep,pk _ q1,q2,q3,q4,q5⟩
end
noncomputable
def setPT (o i v:PV) (st:Store):Res Store:=match o with
  | .ref n=>match st[n]? with
    | some (.dct kvs)=>if tkOk i && decide (kvs.length < LINE) then .ok (st.set n (.dct (dictPut kvs i v))) else .stuck
    | _=>.stuck
  | _=>.stuck
noncomputable
def sSubT (o i e:EvE):EvS:=fun σ st=>e σ st >>= fun x=>o σ x.2 >>= fun y=>i σ y.2 >>= fun z=>setPT y.1 z.1 x.1 z.2 >>= fun st'=>.ok (.nx,σ,st')
section
variable {X:Cx}
theorem dct_of {ad:List Addr} {H:Hp} {st:Store} {p:PV} {v:V} {i:Nat} {kvs:List (PV×PV)} (R:RO X.wd ad H st) (V:VR X.wd ad H p v) (hp:p=.ref i) (hs:st[i]? = some (.dct kvs)) :
    ∃a es,v=.ref a∧ad[i]? = some a∧H a=some (DX X.prog X.w a es)∧DT X.wd ad H kvs es:=by
  subst hp
  cases V with
  | ref hi=>
    obtain ⟨es,e,r⟩:=R.obj _ _ _ hs hi
    exact ⟨_,es,rfl,hi,e,r⟩
theorem dctR_of {ad:List Addr} {H:Hp} {st:Store} {p:PV} {v:V} {i:Nat} {kvs:List (PV×PV)} (R:RO X.wd ad H st) (V:VR X.wd ad H p v) (hp:p=.ref i) (hs:dctR st i=some kvs) :
    ∃a es,v=.ref a∧ad[i]? = some a∧RdX X.prog X.w H a es∧DT X.wd ad H kvs es:=by
  subst hp
  cases V with
  | ref hi=>
    unfold dctR at hs
    split at hs
    · rename_i hk
      cases hs
      obtain ⟨es,e,r⟩:=R.obj _ _ _ hk hi
      exact ⟨_,es,rfl,hi,.inl e,r⟩
    · rename_i hk
      cases hs
      obtain ⟨es,o,e,r⟩:=R.obj _ _ _ hk hi
      exact ⟨_,es,rfl,hi,.inr ⟨o,e⟩,r⟩
    · cases hs
noncomputable
def rSTOf (X:Cx):TSet:=fun o i v H Q=>∃ad st p q r,RO X.wd ad H st∧VR X.wd ad H p o∧VR X.wd ad H q i∧VR X.wd ad H r v∧RdG (setPT p q r st) ad H fun st' ad' H'=>RO X.wd ad' H' st'→Q H'
theorem sd_setT (hu:X.A.units+64 < cLine):PSet X (rSTOf X):=by?
 exact fun pins s σ H o i v ov iv u Q I r1 r2 r3 ⟨ad,st,p,q,r,R,Vp,Vq,Vr,h⟩=>by
  unfold setPT at h
  split at h
  · rename_i n
    split at h
    · rename_i kvs hs
      split at h
      · rename_i hc
        simp only [Bool.and_eq_true,decide_eq_true_eq] at hc
        obtain ⟨a,es,rfl,ha,e,d⟩:=dct_of R Vp rfl hs
        obtain ⟨b,rfl⟩:=key_vr hc.1 Vq
        cases r1
        cases r2
        obtain ⟨z,hd,us,rr,dd⟩:=dx_at I (.inl e) d
        have hl:=hc.2
        rw [d.length] at hl
        have hz:us.length≤sizeLine:=by rw [← Paired.length rr];exact z
        have hl2:(putE es (nkP q) b v).length≤sizeLine:=by
          have:=putE_len es (nkP q) b v
          rw [sizeLine_eq]
          simp only [LINE] at hl
          omega
        refine wpAny_setItem_heap (hsz:=hz) (nk_room hu _ _) (tk_at I hc.1 Vq) dd fun h' dd' hs'=>?_
        have ni:∀u,H a=some u→¬ Imu u:=fun u z i=>by rw [e] at z;cases z;exact dX_ni i
        have E:=Ext.write (o:=DX X.prog X.w a (putE es (nkP q) b v)) R (List.mem_of_getElem? ha) ni
        have he:∃q,h'.get? a=some q:=let ⟨q,_,_,hq,_⟩:=dd';⟨q,hq⟩
        refine ⟨upd H a (DX X.prog X.w a (putE es (nkP q) b v)),d_write I (by rw [e];exact True.intro) hs' he (dx_new hl2 hd (rr.put (nkP q) r3) dd'),?_⟩
        exact h ad _ E (R.write ha ⟨_,upd_same,DT.put hc.1 (Vq.mono E) (Vr.mono E) (d.go (fun _ _ q=>q) E.imm)⟩ ni)
      · exact h.elim
    · exact h.elim
  · exact h.elim
theorem ss_subT {e o i:Expr} {m mo mi:EvE} {pos pos':Pos} (hu:X.A.units+64 < cLine) (he:SE X e m) (ho:SE X o mo) (hi:SE X i mi)
    (ha:∀v,assign (.Subscript o i pos') X.env v=(do
      let ov ← holding [v] (eval o X.env)
      let iv ← holding [v,ov] (eval i X.env)
      standAt pos'
      holding [v,ov,iv] (setItem ov iv v)
      release [v,ov,iv] []):=by intro _;rfl)
    (hs:swapsWithSole [.Subscript o i pos'] e pos.line X.env=pure false:=by rfl) (hw:swappedStores [.Subscript o i pos'] e X.env=pure none:=by rfl)
    (h1:(assignEach [.Subscript o i pos'] X.env).map (·.2)=[assign (.Subscript o i pos') X.env]:=by rfl):SS X (.Assign [.Subscript o i pos'] e pos) (sSubT mo mi m):=by?
 exact PS.to (ps_asg he (pg_sub ho hi (sd_setT hu) ha) hs hw h1) fun D σ H ⟨ad,st,σp,S,q⟩=>by
    unfold RdS sSubT at q
    exact goE S q fun x ad1 H1 v e1 E1 S1 V1 q1=>goE S1 q1 fun y ad2 H2 w e2 E2 S2 V2 q2=>goE S2 q2 fun z ad3 H3 u e3 E3 S3 V3 q3=>
      ⟨ad3,z.2,y.1,z.1,x.1,S3.ro,V2.mono E3,V3,(V1.mono E2).mono E3,q3.bind.imp fun st' ad4 H4 e4 E4 q4 R4=>RdG.ok q4 σ (S3.mono E4 R4)⟩
end
/-- {k: v} with a tuple for the key -/
noncomputable
def eDisT (a b:EvE):EvE:=fun σ st=>a σ st >>= fun x=>b σ x.2 >>= fun y=>if tkOk x.1=true then .ok (.ref y.2.length,y.2++[.dct [(x.1,y.1)]]) else .stuck
/-- {} that is to have tuples for keys -/
noncomputable
def eDct0:EvE:=fun _ st=>.ok (.ref st.length,st++[.dct []])
section
variable {X:Cx}
theorem dx_empty {P:Program} {w:World} {H:Hp} (h:Heap) (hb:sysModules < h.objs.size):ObjOk P w H (h.push { cls:=.type "dict", data:=.dict #[] }) h.objs.size (DX P w h.objs.size []):=
  dx_new (us:=[]) (Nat.zero_le _) (beq_eq_false_iff_ne.mpr (Ne.symm (Nat.ne_of_lt hb))) .nil ⟨_,#[],0,Heap.get?_push_size _ rfl,⟨rfl,rfl,rfl⟩,rfl,rfl,(fun x hx=>by cases hx),List.nodup_nil⟩
theorem pe_dnewX {pos:Pos}:PE X (.Dict [] [] pos) (fun _ H Q=>∀p,H p=none→Q (.ref p) (upd H p (DX X.prog X.w p []))):=⟨fun pins s σ H Q I h=>
  wpAny_Dict_empty ⟨.ref s.heap.objs.size,_,I.laid (a:=s.heap.objs.size) (o:=DX X.prog X.w s.heap.objs.size []) (t':=s.toks) (fun _ _ q=>Heap.get?_push_of_some _ q) (Nat.le_refl _) (dx_empty s.heap I.big),rfl,h _ (I.hok.fresh (Nat.le_refl _))⟩⟩
theorem se_dct0 {pos:Pos}:SE X (.Dict [] [] pos) eDct0:=PE.to pe_dnewX fun σ H Q ⟨ad,st,σp,S,q⟩ p hp=>
  q (ad++[p]) _ (.alloc hp) (S.ro.alloc hp ⟨[],upd_same,.nil⟩) _ (.ref (by rw [S.ro.len];simp))
theorem pe_disX {ke ve:Expr} {pos:Pos} {tk tv:TE} (hu:X.A.units+64 < cLine) (hk:PE X ke tk) (hv:PE X ve tv):PE X (.Dict [some ke] [ve] pos) (fun σ H Q=>∀p,H p=none→tk σ (upd H p (DX X.prog X.w p [])) fun x H1=>tv σ H1 fun y H2=>
    H2 p=some (DX X.prog X.w p [])∧∃ (c:Addr) (k:PV) (ad:List Addr),x=.ref c∧(tkOk k=true∧VR X.wd ad H2 k (.ref c))∧Q (.ref p) (upd H2 p (DX X.prog X.w p [(nkP k,c,y)]))):=by?
  refine ⟨fun pins s σ H Q I h=>?_⟩
  have hn:=I.hok.fresh (Nat.le_refl s.heap.objs.size)
  have I1:=I.laid (a:=s.heap.objs.size) (o:=DX X.prog X.w s.heap.objs.size []) (h':=s.heap.push { cls:=.type "dict", data:=.dict #[] }) (t':=s.toks) (fun _ _ q=>Heap.get?_push_of_some _ q) (Nat.le_refl _) (dx_empty s.heap I.big)
  rw [arm_eval_Dict,zip_pairTrees [some ke] [ve] X.env pos rfl rfl,dictDisplay_pairs (pairTrees [some ke] [ve] X.env pos) (by simp [pairTrees]) (by simp [pairTrees])]
  refine wpAny_bind (wpAny_standAt (wpAny_bind (wpAny_subDictH (knd:=nestedKind X.prog X.w) (Q:=fun d s'=>wpAny (model X.prog X.w) X.A (pure (Value.ref d)) (fun v s'=>∃x H',Inv X pins σ H' s'∧RelV x v∧Q x H') X.xe s') (show X.A.units+8 < cLine by omega) (by simp [pairTrees]) ?_)))
  refine pairTrees_cons_walk (thn (hk.run pins _ σ _ _ I1 (h _ hn)) fun u s1 ⟨x,H1,I1',rx,q1⟩=>thn (hv.run pins s1 σ H1 _ I1' q1) fun w2 s2 ⟨y,H2,I2,ry,e,c,k,ad,ex,sq,q2⟩=>pairTrees_nil_walk ?_)
  subst ex
  obtain rfl:u=Value.ref c:=rx
  obtain ⟨z,hd,us,r,dd⟩:=dx_at (ad:=[]) I2 (.inl e) .nil
  cases r
  refine ⟨[(nkP k,c,w2)],⟨rfl,rfl,tk_at I2 sq.1 sq.2,trivial⟩,dd,fun h' tk' dd' hs=>wpAny_pure ⟨.ref s.heap.objs.size,_,?_,rfl,q2⟩⟩
  have he:∃q,h'.get? s.heap.objs.size=some q:=let ⟨q,_,_,hq,_⟩:=dd';⟨q,hq⟩
  exact d_write I2 (by rw [e];exact True.intro) hs he (dx_new (es:=[(nkP k,c,y)]) (by rw [sizeLine_eq];simp) hd (.cons ⟨rfl,rfl,ry⟩ .nil) dd')
theorem se_disT {ke ve:Expr} {pos:Pos} {mk mv:EvE} (hu:X.A.units+64 < cLine) (hk:SE X ke mk) (hv:SE X ve mv):SE X (.Dict [some ke] [ve] pos) (eDisT mk mv):=by?
  refine PE.to (pe_disX hu hk hv) fun σ H Q ⟨ad,st,σp,S,q⟩ d hd=>?_
  have nD:=S.ro.not_mem hd
  have S1:RS X.wd ad (upd H d (DX X.prog X.w d [])) st σp σ:=S.mono (.fresh hd) (S.ro.fresh hd)
  unfold eDisT at q
  refine ⟨ad,st,σp,S1,?_⟩
  cases e1:mk σp st with
  | stuck=>rw [e1] at q;exact q.elim
  | exc _ _ _=>rw [e1] at q;exact q.elim
  | ok x=>
    rw [e1] at q
    simp only [bind_ok] at q
    intro ad1 H1 E1 R1 v1 V1
    refine ⟨ad1,x.2,σp,S1.mono E1 R1,?_⟩
    cases e2:mv σp x.2 with
    | stuck=>rw [e2] at q;exact q.elim
    | exc _ _ _=>rw [e2] at q;exact q.elim
    | ok y=>
      rw [e2] at q
      simp only [bind_ok] at q
      intro ad2 H2 E2 R2 v2 V2
      split at q
      · rename_i hk'
        have E:=E1.trans E2
        have dD:H2 d=some (DX X.prog X.w d []):=E.frm d _ upd_same nD
        have V1':=V1.mono E2
        obtain ⟨c,rfl⟩:=key_vr hk' V1'
        refine ⟨dD,c,_,ad2,rfl,⟨hk',V1'⟩,?_⟩
        have nd':d∉ad2:=fun hm=>by
          have:=E.new d hm nD
          rw [upd_same] at this;cases this
        have E0:Ext ad H ad2 H2:=(Ext.fresh hd).trans E
        obtain ⟨E6,R6,im6⟩:=own_write (o:=DX X.prog X.w d [(nkP x.1,c,v2)]) R2 nd' hd E0 dD (fun z=>dX_ni z)
        obtain ⟨E7,R7⟩:=own_end (o:=.dct [(x.1,y.1)]) E6 R6 hd nd' ⟨_,upd_same,DT.cons hk' (VR.go at_app (fun _ _ q _=>q) (VR.go (fun _ _ q=>q) im6 V1')) (VR.go at_app (fun _ _ q _=>q) (VR.go (fun _ _ q=>q) im6 V2)) .nil⟩
        exact q _ _ E7 R7 _ (.ref (by rw [R2.len];simp))
      · exact q.elim
end
end Sg
namespace Vg
open PySem Sg
mutual
noncomputable
def vnkOk:NV→Bool
  | .bl _=>true
  | .non=>true
  | .int _=>true
  | .str _=>true
  | .tup xs=>vnkOks xs
  | _=>false
noncomputable
def vnkOks:List NV→Bool
  | []=>true
  | x::xs=>vnkOk x && vnkOks xs
end
noncomputable
def vtkOk:NV→Bool
  | .tup [.int _,.int _,.int _,.bl _]=>true
  | _=>false
section
variable {F:FF}
mutual
theorem vnk_eq:∀ {k k2:NV} {p p2:PV},VRep F k p→VRep F k2 p2→vnkOk k=true→(k2=k↔p2=p)
  | _,_,_,_,.non,b,_=>by cases b <;> simp
  | _,_,_,_,.int i,b,_=>by cases b <;> simp
  | _,_,_,_,.str i,b,_=>by cases b <;> simp
  | _,_,_,_,.tup r,b,h=>by
    simp only [vnkOk] at h
    cases b with
    | tup t=>rw [NV.tup.injEq,PV.tup.injEq];exact vnks_eq r t h
    | _=>simp
  | _,_,_,_,.bl _,b,_=>by cases b <;> simp
  | _,_,_,_,.ty _,_,h=>by simp [vnkOk] at h
  | _,_,_,_,.glb _,_,h=>by simp [vnkOk] at h
  | _,_,_,_,.fro _,_,h=>by simp [vnkOk] at h
  | _,_,_,_,.lst _ _,_,h=>by simp [vnkOk] at h
  | _,_,_,_,.dic _ _,_,h=>by simp [vnkOk] at h
  | _,_,_,_,.set _ _,_,h=>by simp [vnkOk] at h
  | _,_,_,_,.dct _ _,_,h=>by simp [vnkOk] at h
  | _,_,_,_,.fdc _ _,_,h=>by simp [vnkOk] at h
theorem vnks_eq:∀ {ks ks2:List NV} {ps ps2:List PV},VReps F ks ps→VReps F ks2 ps2→vnkOks ks=true→(ks2=ks↔ps2=ps)
  | [],[],_,_,.nil,.nil,_=>by simp
  | [],_::_,_,_,.nil,.cons _ _,_=>by simp
  | _::_,[],_,_,.cons _ _,.nil,_=>by simp
  | k::ks,k2::ks2,_,_,.cons a r,.cons b t,h=>by
    simp only [vnkOks,Bool.and_eq_true] at h
    rw [List.cons.injEq,List.cons.injEq,vnk_eq a b h.1,vnks_eq r t h.2]
end
theorem tk_eq {k k2:NV} {p p2:PV} (h:VRep F k p) (h2:VRep F k2 p2) (q:vtkOk k=true):k2=k↔p2=p:=by
  refine vnk_eq h h2 ?_
  unfold vtkOk at q
  split at q
  · simp [vnkOk,vnkOks]
  · cases q
theorem tk_ok {k:NV} {p:PV} (h:VRep F k p) (q:vtkOk k=true):tkOk p=true:=by?
  unfold vtkOk at q
  split at q
  · cases h with
    | tup r =>
      cases r with
      | cons a r=>cases r with
        | cons b r=>cases r with
          | cons c r=>cases r with
            | cons d r=>
              cases r
              cases a
              cases b
              cases c
              cases d
              rfl
  · cases q
theorem tk_L {st:Store} {v:NV} {p:PV} (h:LRep F st v p) (q:vtkOk v=true):VRep F v p:=by
  rcases h with h | ⟨_,_,_,_,h⟩
  · exact h
  · cases h <;> simp [vtkOk] at q
theorem dgetT_rep {k:NV} {p:PV} (h:VRep F k p) (hk:vtkOk k=true):∀ {xs:List (NV×NV)} {ps:List (PV×PV)},VRepd F xs ps→(vdGet xs k=none∧dGet ps p=none)∨∃v q,vdGet xs k=some v∧dGet ps p=some q∧VRep F v q
  | _,_,.nil=>.inl ⟨rfl,rfl⟩
  | (k2,v2)::_,(p2,q2)::_,.cons a b r=>by
    by_cases e:k2=k
    · exact .inr ⟨v2,q2,by simp [vdGet,e],by simp [dGet,(tk_eq h a hk).mp e],b⟩
    · have e2:p2≠p:=fun z=>e ((tk_eq h a hk).mpr z)
      rcases dgetT_rep h hk r with ⟨h1,h2⟩ | ⟨v,q,h1,h2,h3⟩
      · exact .inl ⟨by simpa [vdGet,e] using h1,by simpa [dGet,e2] using h2⟩
      · exact .inr ⟨v,q,by simpa [vdGet,e] using h1,by simpa [dGet,e2] using h2,h3⟩
theorem anyT {k:NV} {p:PV} (h:VRep F k p) (q:vtkOk k=true):∀ {xs:List (NV×NV)} {ps:List (PV×PV)},VRepd F xs ps→(xs.any fun r=>decide (r.1=k))=(ps.any fun r=>decide (r.1=p))
  | _,_,.nil=>rfl
  | _,_,.cons a b r=>by
    simp only [List.any_cons]
    rw [anyT h q r]
    congr 1
    exact decide_eq_decide.mpr (tk_eq h a q)
theorem updT {k v:NV} {p w:PV} (h:VRep F k p) (hv:VRep F v w) (q:vtkOk k=true):∀ {xs:List (NV×NV)} {ps:List (PV×PV)},VRepd F xs ps→VRepd F (xs.map fun r=>if r.1=k then (r.1,v) else r) (ps.map fun r=>if r.1=p then (r.1,w) else r)
  | _,_,.nil=>.nil
  | (k2,v2)::_,(p2,q2)::_,.cons a b r=>by
    simp only [List.map_cons]
    by_cases e:k2=k
    · rw [if_pos e,if_pos ((tk_eq h a q).mp e)];exact .cons a hv (updT h hv q r)
    · rw [if_neg e,if_neg (fun z=>e ((tk_eq h a q).mpr z))];exact .cons a b (updT h hv q r)
theorem putT {k v:NV} {p q:PV} (h:VRep F k p) (hv:VRep F v q) (hk:vtkOk k=true) {xs:List (NV×NV)} {ps:List (PV×PV)} (r:VRepd F xs ps):VRepd F (vdPut xs k v) (Sg.dictPut ps p q):=by
  unfold vdPut Sg.dictPut
  rw [anyT h hk r]
  split
  · exact updT h hv hk r
  · exact r.append (.cons h hv .nil)
end
noncomputable
def vsetT (o j v:NV):Option NV:=match o with
  | .dct kvs=>if vtkOk j=true∧kvs.length < LINE then some (.dct (vdPut kvs j v)) else none
  | _=>none
noncomputable
def SubVT (g:NV→NV→NV→Option NV):Prop:=∀F st i o u j q v w,(∀ (i:Nat) o,F i=some o→st[i]? = some o)→st[i]? = some o→ORep F u o→LRep F st j q→VRep F v w→∀u',g u j v=some u'→∃o',setPT (.ref i) q w st=.ok (st.set i o')∧ORep F u' o'
theorem sv_setT:SubVT vsetT:=by?
 exact fun F st i o u j q v w s hi ho hj hv u' h=>by
  unfold vsetT at h
  split at h
  · cases ho with
    | dct r=>
      split at h
      · rename_i hc
        cases h
        have vk:=tk_L hj hc.1
        exact ⟨_,by simp only [setPT,hi];exact if_pos (by rw [Bool.and_eq_true];exact ⟨tk_ok vk hc.1,decide_eq_true (by rw [← r.length];exact hc.2)⟩),.dct (putT vk hv hc.1 r)⟩
      · cases h
  · cases h
section
variable {a b c:EvE} {a' b' c':VE}
theorem rs_subT {g:NV→NV→NV→Option NV} (hg:SubVT g) (he:RE a a') (ho:RE b b') (hi:RE c c'):RS (sSubT b c a) (vSub g b' c' a'):=by?
 exact fun F env σ st r fl env' h=>by
  simp only [vSub,R.bind_ok] at h
  obtain ⟨⟨x,env1⟩,h1,⟨y,env2⟩,h2,⟨z,env3⟩,h3,h4⟩:=h
  obtain ⟨p,st1,F1,e1,G1,v1⟩:=he F env σ st r x env1 h1
  obtain ⟨q,st2,F2,e2,G2,v2⟩:=ho F1 env1 σ st1 G1.rr y env2 h2
  obtain ⟨w,st3,F3,e3,G3,v3⟩:=hi F2 env2 σ st2 G2.rr z env3 h3
  cases y with
  | im v=>cases h4
  | fr v=>cases h4
  | sl k=>
    simp only [R.bind_ok,ofO_ok] at h4
    obtain ⟨⟨v,env4⟩,f1,f2⟩:=h4
    have G13:=(G1.trans G2).trans G3
    have vx:=(v1.go G2).go G3
    obtain ⟨F4,G4,r4,x4,n4,o4⟩:=frz_one G13 vx f1
    have hσ:σ[k]? = some (some q):=v2
    have main:∀ (s s':Sl) (u n j:NV),env4[k]? = some s→((s=.ow u∧s'=.ow n)∨(s=.bo u∧s'=.bo n))→z.get env4=some j→g u j v=some n→fl=.nx→env'=env4.set k s' →
        ∃fl' σ' st' F',sSubT b c a σ st=.ok (fl',σ',st')∧Go F env σ st F' env' σ' st'∧FlR F' env' σ' st' st.length fl fl':=by
      intro s s' u n j q1 q2 qj q3 q4 q5
      have hm:mutV env4 k=some u:=by unfold mutV;rw [q1];rcases q2 with ⟨rfl,_⟩ | ⟨rfl,_⟩ <;> rfl
      obtain ⟨i,o,y1,y2,y3,y4⟩:=G4.rr.mu k u hm
      rw [hσ] at y1
      simp only [Option.some.injEq] at y1
      subst y1
      -- the index stands where it stood
      have hz:LRep F4 st3 j w:=by
        cases z with
        | im v0=>
          simp only [EV.get,Option.some.injEq] at qj
          subst qj;exact .inl (VRep.mono x4 v3)
        | fr v0=>
          simp only [EV.get,Option.some.injEq] at qj
          subst qj
          obtain ⟨i0,o0,t1,t2,t3,t4,t5,t6⟩:=v3
          exact .inr ⟨i0,o0,t1,t4,t5.mono x4⟩
        | sl k0=>exact EVR.get (n:=0) (e:=.sl k0) G4.rr v3 qj
      obtain ⟨o',z1,z2⟩:=hg F4 st3 i o u j w v p G4.rr.sub y3 y4 hz r4 n q3
      have G5:=G4.rr.setObj (u':=n) q1 q2 hσ z2
      subst q4;subst q5
      refine ⟨.nx,σ,_,F4,?_,G4.trans G5,trivial⟩
      unfold sSubT
      rw [e1];simp only [bind_ok,force_eq];rw [e2];simp only [bind_ok];rw [e3];simp only [bind_ok,force_eq];rw [z1];rfl
    split at f2
    · rename_i u qk
      simp only [R.bind_ok,ofO_ok,Option.bind_eq_some_iff] at f2
      obtain ⟨n,⟨j,g1,g2⟩,g3⟩:=f2
      cases g3
      exact main _ _ u n j qk (.inl ⟨rfl,rfl⟩) g1 g2 rfl rfl
    · rename_i u qk
      simp only [R.bind_ok,ofO_ok,Option.bind_eq_some_iff] at f2
      obtain ⟨n,⟨j,g1,g2⟩,g3⟩:=f2
      cases g3
      exact main _ _ u n j qk (.inr ⟨rfl,rfl⟩) g1 g2 rfl rfl
    · cases f2
noncomputable
def vDct0:VE:=fun env=>.ok (.fr (.dct []),env)
theorem re_dct0:RE eDct0 vDct0:=fun F env σ st r ev env' h=>by
  cases h
  obtain ⟨G3,v3⟩:=r.new (.dct .nil)
  exact ⟨_,_,F,rfl,G3,v3⟩
/-- {k: v} -/
noncomputable
def vDisT (a b:VE):VE:=fun env=>a env >>= fun x=>match x.1 with
  | .im k=>b x.2 >>= fun y=>ofO (frz y.1 y.2) >>= fun z=>grd (vtkOk k=true) (.ok (.fr (.dct [(k,z.1)]),z.2))
  | _=>.no
theorem re_disT (ha:RE a a') (hb:RE b b'):RE (eDisT a b) (vDisT a' b'):=by?
 exact fun F env σ st r ev env' h=>by
  simp only [vDisT,R.bind_ok] at h
  obtain ⟨⟨x,env1⟩,h1,h2⟩:=h
  obtain ⟨p,st1,F1,e1,G1,v1⟩:=ha F env σ st r x env1 h1
  cases x with
  | im k=>
    simp only [R.bind_ok,ofO_ok,grd_ok] at h2
    obtain ⟨⟨y,env2⟩,h2,⟨z,env3⟩,h3,hk,h4⟩:=h2
    cases h4
    obtain ⟨q,st2,F2,e2,G2,v2⟩:=hb F1 env1 σ st1 G1.rr y env2 h2
    have G12:=G1.trans G2
    obtain ⟨F4,G4,r4,x4,n4,o4⟩:=frz_one G12 (v2.le G1.le) h3
    have vk:VRep F4 k p:=VRep.mono x4 ((v1.go G2):VRep _ _ _)
    obtain ⟨G5,v5⟩:=G4.rr.new (.dct (.cons vk r4 .nil))
    refine ⟨_,_,F4,?_,G4.trans G5,v5.le G4.le⟩
    unfold eDisT
    rw [e1];simp only [bind_ok];rw [e2];simp only [bind_ok];rw [if_pos (tk_ok vk hk)]
  | fr _=>cases h2
  | sl _=>cases h2
end
end Vg
namespace Sg
open PySem PySem.Spec PyProof.Rows L2
noncomputable
def ItIX (P:Program) (w:World) (d:Addr) (o:Obj) (es:List (NK×Addr×V)):It:=
  ⟨fun i H=>H d=some (.frz o (DX P w d es))∧i < es.length,
   fun i H x H'=>∃T k b v its,es[i]? = some (k,b,v)∧x=.ref T∧H T=none∧H'=upd H T (.frz (tupObj its) (.tup [.ref b,v])),fun i H=>H d=some (.frz o (DX P w d es))∧es.length≤i⟩
theorem frzX {X:Cx} {pins:List (Addr×Obj)} {σ:L2.St} {H:Hp} {s:Shared} {d:Addr} {o:Obj} {es:List (NK×Addr×V)} (I:Inv X pins σ H s) (h:H d=some (.frz o (DX X.prog X.w d es))) :
    (d == sysModules)=false∧s.heap.get? d=some o∧o.ExactDict∧∃ (us:List (NK×Addr×Value)) (en:Array DictEntry) (ep:Nat),o.data=.dict en ep∧UsR es us∧en.toList=us.map (entryOfKey (nestedKind X.prog X.w))∧en.size=es.length:=by
  obtain ⟨hd,⟨z,hs,us,r,o',en,ep,ho,hx,hdt,he,hn⟩,_⟩:=I.hok d _ h
  rw [hd] at ho
  cases ho
  refine ⟨hs,hd,hx,us,en,ep,hdt,r,he,?_⟩
  rw [← Array.length_toList,he,List.length_map]
  exact (Paired.length r).symm
theorem usr_nth {es:List (NK×Addr×V)} {us:List (NK×Addr×Value)} (r:UsR es us):∀ {i:Nat} {e:NK×Addr×V},es[i]? = some e→∃u,us[i]? = some u∧e.1=u.1∧e.2.1=u.2.1∧RelV e.2.2 u.2.2:=by
  induction r with
  | nil=>intro i e h;simp at h
  | @cons a b as bs h t ih=>
    intro i e he
    cases i with
    | zero=>
      simp only [List.getElem?_cons_zero,Option.some.injEq] at he
      subst he
      exact ⟨b,by simp,h⟩
    | succ i=>
      simp only [List.getElem?_cons_succ] at he ⊢
      exact ih he
theorem entry_nth {P:Program} {w:World} {en:Array DictEntry} {us:List (NK×Addr×Value)} (he:en.toList=us.map (entryOfKey (nestedKind P w))) {i:Nat} {u:NK×Addr×Value} (h:us[i]? = some u) (hi:i < en.size):en[i].key=.ref u.2.1∧en[i].val=u.2.2:=by
  have q:en.toList[i]? = some (entryOfKey (nestedKind P w) u):=by rw [he,List.getElem?_map,h];rfl
  rw [Array.getElem?_toList,Array.getElem?_eq_getElem hi] at q
  have q:=Option.some.inj q
  rw [q]
  exact ⟨rfl,rfl⟩
theorem turn_itemsX {P:Program} {w:World} {K:PySem.W.Frag} {d:Addr} {o:Obj} {en:Array DictEntry} {ep:Nat} {es:List (NK×Addr×V)} {elts:List Expr} {kk:Nat} {tpos:Pos} (it:Addr) (hod:o.data=.dict en ep) :
    Turn P w K (.Tuple elts kk tpos) (ItIX P w d o es) [it] it (fun i h=>∃a b,IsItemIter h it d i en.size ep a b) where
  mem:=List.mem_singleton.mpr rfl
  obj:=fun i h ⟨a,b,e⟩ c hc=>by
    rw [List.mem_singleton.mp hc]
    exact ⟨_,e,fun v z=>nomatch z⟩
  keep:=fun i h h' ⟨a,b,e⟩ k=>⟨a,b,k it (List.mem_singleton.mpr rfl) _ e⟩
  self:=fun A i s Q E ⟨a,b,e⟩ h=>PySem.W.kcp_self e h
  item:=by
    intro X hP hw hK hc i pins s σ H E I hf ⟨a,b,he⟩ ⟨hd,hi⟩
    subst hP hw hK
    obtain ⟨_,ho,hx,us,en2,ep2,hdt,r,hl,hz⟩:=frzX I hd
    obtain ⟨rfl,rfl⟩:en=en2∧ep=ep2:=by
      rw [hod] at hdt
      injection hdt with h1 h2
      exact ⟨h1,h2⟩
    obtain ⟨u,hu,u1,u2,u3⟩:=usr_nth r (List.getElem?_eq_getElem hi)
    have hie:i < en.size:=by omega
    obtain ⟨k1,k2⟩:=entry_nth hl hu hie
    have hlt:it < s.heap.objs.size:=Heap.lt_size he
    refine PySem.wpAny_pyNext_items_item_raw he ⟨o,ho,hx,hod⟩ hie fun h1 heo hT _ hk=>⟨_,rfl,wpAny_letOwnedTupleGo_items (s:={ s with heap:=h1 }) heo fun h2 he2 sb=>?_⟩
    rw [k1,k2] at hT he2
    have hT2:h2.get? s.heap.objs.size=some (tupObj [.ref u.2.1,u.2.2]):=(sb.2 _ (Nat.ne_of_gt hlt)).trans hT
    have rr:Vals [V.ref es[i].2.1,es[i].2.2] [.ref u.2.1,u.2.2]:=.cons (by rw [u2];rfl) (.cons u3 .nil)
    have I1:Inv X pins σ (upd H s.heap.objs.size (.frz (tupObj [.ref u.2.1,u.2.2]) (.tup [.ref es[i].2.1,es[i].2.2]))) { s with heap:=h2 }:=by
      refine I.turnedNew (t':=s.toks) (ch:=[it]) (fun c ob hb e=>?_) hf (Nat.le_refl _) ⟨hT2,(by show 2≤sizeLine;decide),_,rr,_,hT2,rfl,_,rfl⟩
      exact (sb.2 c (by simpa using hb)).trans (hk c ob (by simpa using hb) e)
    refine ⟨.ref s.heap.objs.size,_,I1,rfl,⟨_,es[i].1,es[i].2.1,es[i].2.2,_,List.getElem?_eq_getElem hi,rfl,I.hok.fresh (Nat.le_refl _),rfl⟩,⟨_,_,he2⟩,fun c hc=>?_⟩
    rw [List.mem_singleton.mp hc,upd_ne (Nat.ne_of_lt hlt)]
    exact (hf it (List.mem_singleton.mpr rfl)).1
  done:=by
    intro X hP hw hK hc i pins s σ H E I hf ⟨a,b,he⟩ ⟨hd,hi⟩
    subst hP hw hK
    obtain ⟨g0,g1,g2,g3,g4,g5⟩:=hf it (List.mem_singleton.mpr rfl)
    obtain ⟨_,ho,hx,us,en2,ep2,hdt,r,hl,hz⟩:=frzX I hd
    obtain ⟨rfl,rfl⟩:en=en2∧ep=ep2:=by
      rw [hod] at hdt
      injection hdt with h1 h2
      exact ⟨h1,h2⟩
    exact PySem.wpAny_pyNext_items_end_raw (I.ok.hd hc) he ⟨o,ho,hx,hod⟩ (by omega) fun h1 eb=>⟨rfl,I.turned (t':=s.toks) (fun c ob hb q=>eb c ob hb q) g0 g1 g3 g4 g5⟩
section
variable {X:Cx} {e:Expr} {m:EvE} {apos cpos tpos:Pos} {elts:List Expr} {kk:Nat} {td:TE}
theorem pi_itemsX (he:PE X e td) (hbase:attributeBase e "items" X.env (eval e X.env)=eval e X.env) (hline:(apos.endLine == cpos.line)=true) :
    PI X (.Tuple elts kk tpos) (.Call (.Attribute e "items" apos) [] [] cpos) (fun σ H R=>td σ H fun x H1=>∃d o es,x=.ref d∧H1 d=some (.frz o (DX X.prog X.w d es))∧R (ItIX X.prog X.w d o es) H1):=by?
  refine ⟨fun pins s σ H R I h=>?_⟩
  refine wpAny_Call_method (T := "dict") (id := "dict.items") hbase rfl hline F.plainAttrs_dict F.slot_dict_items F.type_dict_items <| thn (he.run pins s σ H _ I h) ?_
  rintro u s1 ⟨x,H1,I1,rx,d,o,es,ex,hd,q⟩
  subst ex
  obtain rfl:u=Value.ref d:=rx
  obtain ⟨hs,hgd,hx,us,en,ep,hdt,r,hl,hz⟩:=frzX I1 hd
  have raw:s1.heap.DictRaw d en ep:=⟨o,hgd,hx,hdt⟩
  refine ⟨⟨o,hgd,hx.1⟩,fun a ea=>by cases ea;exact ⟨o,hgd,hx.2.1⟩,?_⟩
  have I2:Inv X pins σ H1 { s1 with heap:=s1.heap.push { cls:=.type "dict_items", data:=.fields #[.ref d] } }:=I1.kept (t':=s1.toks) fun b ob q=>Heap.get?_push_of_some _ q
  have fin:wpAny (model X.prog X.w) X.A (pyIter (.ref s1.heap.objs.size)) (PIE X pins σ (.Tuple elts kk tpos) R) X.xe { s1 with heap:=s1.heap.push { cls:=.type "dict_items", data:=.fields #[.ref d] } }:=by
    refine PySem.wpAny_pyIter_items_raw (d:=d) ⟨_,Heap.get?_push_size _ rfl,rfl,rfl⟩ ⟨o,Heap.get?_push_of_some _ hgd,hx,hdt⟩ (pi_one (tk:=s1.toks) I2 _ (turn_itemsX _ hdt) ⟨.none,.none,?_⟩ q)
    exact Heap.get?_push_size _ rfl
  exact method_meetsIn F.slot_dict_items F.entry_dict_items rfl (PySem.evalArgs_none ⟨rfl,⟨o,hgd,hx.1⟩,F.args_dict_items_1 _,_,PySem.meets_dict_items_raw d hs,⟨⟨en,ep,raw⟩,fin⟩⟩)
end
theorem DT.nth {W:Wd} {ad:List Addr} {H:Hp} {ps:List (PV×PV)} {es:List (NK×Addr×V)} (d:DT W ad H ps es):∀ {i:Nat} {k:NK} {b:Addr} {v:V},es[i]? = some (k,b,v)→∃kp p,ps[i]? = some (kp,p)∧VR W ad H kp (.ref b)∧VR W ad H p v:=by?
  induction d with
  | nil=>intro i k b v h;simp at h
  | cons s0 s q _ ih=>
    intro i k b v h
    cases i with
    | zero=>
      simp only [List.getElem?_cons_zero,Option.some.injEq,Prod.mk.injEq] at h
      obtain ⟨_,rfl,rfl⟩:=h
      exact ⟨_,_,by simp,s,q⟩
    | succ i=>
      simp only [List.getElem?_cons_succ] at h ⊢
      exact ih h
noncomputable
def dctAt (st:Store) (i:Nat):Option (List (PV×PV)):=match st[i]? with
  | some (.dct kvs)=>some kvs
  | _=>none
/-- the pairs of a dict,which nobody may ask any more -/
noncomputable
def iItemsX (a:EvE):EvI:=fun σ st=>a σ st >>= fun x=>match x.1 with
  | .ref i=>match dctAt x.2 i with
    | some kvs=>.ok ((kvs.map fun q=>.tup [q.1,q.2],[]),x.2.set i .dead)
    | none=>.stuck
  | _=>.stuck
section
variable {X:Cx} {e:Expr} {m:EvE} {apos cpos tpos:Pos} {elts:List Expr} {kk:Nat}
theorem si_itemsX (he:SE X e m) (hbase:attributeBase e "items" X.env (eval e X.env)=eval e X.env:=by rfl) (hline:(apos.endLine == cpos.line)=true:=by rfl) :
    SI X (.Tuple elts kk tpos) (.Call (.Attribute e "items" apos) [] [] cpos) (iItemsX m):=by?
 exact PI.to (pi_itemsX (pe_lockV he) hbase hline) fun σ H R ⟨ad,st,σp,S,q⟩=>by
    refine goE S q fun x ad1 H1 v e1 E1 S1 V1 q1=>?_
    split at q1
    · rename_i i hx
      split at q1
      · rename_i kvs hs
        unfold dctAt at hs
        split at hs
        · rename_i kvs' hk
          cases hs
          rw [hx] at V1
          cases V1 with
          | ref ha=>
            rename_i a
            obtain ⟨ws,e2,r⟩:=S1.ro.obj _ _ _ hk ha
            refine ⟨a,DX X.prog X.w a ws,rfl,e2,trivial,fun o=>⟨a,o,ws,rfl,upd_same,?_⟩⟩
            have ni:∀u,H1 a=some u→¬ Imu u:=fun u z i=>by rw [e2] at z;cases z;exact dX_ni i
            have E2:=Ext.write (o:=.frz o (DX X.prog X.w a ws)) S1.ro (List.mem_of_getElem? ha) ni
            have R2:RO X.wd ad1 (upd H1 a (.frz o (DX X.prog X.w a ws))) (x.2.set i .dead):=S1.ro.write ha ⟨_,upd_same⟩ ni
            have r2:=DT.go (fun _ _ q=>E2.at q) E2.imm r
            refine q1 ad1 _ E2 R2 _ ⟨fun j ad3 H3 st3 hj E3 R3 g3=>⟨E3.imm _ _ upd_same trivial,?_⟩,fun ad3 H3 st3 E3 R3 g3=>⟨E3.imm _ _ upd_same trivial,?_⟩,fun j p ad3 H3 st3 v H4 hp E3 R3 g3 y=>?_⟩
            · rw [List.length_map,DT.length r] at hj;exact hj
            · rw [List.length_map,DT.length r];exact Nat.le_refl _
            · obtain ⟨T,k,b,v',its,hk',rfl,hT,rfl⟩:=y
              obtain ⟨kp,p',hp',VK,V'⟩:=DT.nth r2 hk'
              rw [List.getElem?_map,hp'] at hp
              simp only [Option.map_some,Option.some.injEq] at hp
              subst hp
              have E4:Ext ad3 H3 ad3 (upd H3 T (.frz (tupObj its) (.tup [.ref b,v']))):=.fresh hT
              exact ⟨E4,R3.fresh hT,.tup (Or.inl ⟨_,upd_same,rfl,rfl⟩) (.cons ((VK.mono E3).mono E4) (.cons ((V'.mono E3).mono E4) .nil))⟩
        · cases hs
      · exact q1.elim
    · exact q1.elim
end
end Sg
namespace Vg
open PySem Sg
/-- the pairs of the dict in a slot of one's own;the slot is empty afterwards -/
noncomputable
def viItemsTO (j:Nat):VI:=fun env=>match env[j]? with
  | some (.ow (.dct kvs))=>.ok (kvs.map fun q=>.tup [q.1,q.2],env.set j .un)
  | _=>.no
theorem VRepd.prs {F:FF}:∀ {kvs:List (NV×NV)} {kps:List (PV×PV)},VRepd F kvs kps→VReps F (kvs.map fun q=>.tup [q.1,q.2]) (kps.map fun q=>.tup [q.1,q.2])
  | _,_,.nil=>.nil
  | (k,v)::kvs,(p,q)::kps,.cons a b r=>by
    simp only [List.map_cons]
    exact .cons (.tup (.cons a (.cons b .nil))) (VRepd.prs r)
theorem ri_itemsTO (j:Nat):RI (iItemsX (eVar j)) (viItemsTO j):=by?
 exact fun F env σ st r xs env' h=>by
  unfold viItemsTO at h
  split at h
  · rename_i kvs hj
    cases h
    have mj:mutV env j=some (.dct kvs):=by unfold mutV;rw [hj];rfl
    obtain ⟨i,o,h1,h2,h3,h4⟩:=r.mu j _ mj
    cases h4 with
    | dct kd=>
      rename_i kps
      refine ⟨kps.map fun q=>.tup [q.1,q.2],[],st.set i .dead,F,?_,r.drop hj h1 h2,VRepd.prs kd,by simp⟩
      unfold iItemsX eVar
      simp only [h1,bind_ok,dctAt,h3]
  · cases h
end Vg
namespace Sg
open PySem PySem.Spec PyProof.Rows L2
section
variable {W:Wd} {ad ad':List Addr} {H H':Hp}
mutual
theorem VR.goS (e1:∀ (i:Nat) a,ad[i]? = some a→ad'[i]? = some a) (eU:∀a vs,SqU W.K H a vs→SqU W.K H' a vs) (eF:∀a vs,SqF W.K H a vs→SqF W.K H' a vs):∀ {p:PV} {v:V},VR W ad H p v→VR W ad' H' p v
  | _,_,.non=>.non
  | _,_,.bl b=>.bl b
  | _,_,.int b=>.int b
  | _,_,.str b=>.str b
  | _,_,.ty b=>.ty b
  | _,_,.tup h r=>.tup (eU _ _ h) (VRs.goS e1 eU eF r)
  | _,_,.fro h r=>.fro (eF _ _ h) (VRs.goS e1 eU eF r)
  | _,_,.ref h=>.ref (e1 _ _ h)
  | _,_,.glb h=>.glb h
theorem VRs.goS (e1:∀ (i:Nat) a,ad[i]? = some a→ad'[i]? = some a) (eU:∀a vs,SqU W.K H a vs→SqU W.K H' a vs) (eF:∀a vs,SqF W.K H a vs→SqF W.K H' a vs):∀ {p:List PV} {v:List V},VRs W ad H p v→VRs W ad' H' p v
  | _,_,.nil=>.nil
  | _,_,.cons h r=>.cons (VR.goS e1 eU eF h) (VRs.goS e1 eU eF r)
end
theorem OR.goS (e1:∀ (i:Nat) a,ad[i]? = Option.some a→ad'[i]? = Option.some a) (eU:∀a vs,SqU W.K H a vs→SqU W.K H' a vs) (eF:∀a vs,SqF W.K H a vs→SqF W.K H' a vs) (eX:∀a fs,H a=Option.some (.xd fs)→H' a=Option.some (.xd fs)) (eC:∀a c q,H a=Option.some (LamX.CodeO c q)→H' a=Option.some (LamX.CodeO c q)) {o:PO} {a:Addr} (h:OR W ad H o a) (ha:H' a=H a) (hh:∀j,j∈hidO o→∀ea,ad[j]? = Option.some ea→H' ea=H ea):OR W ad' H' o a:=by?
  have fr:∀ {p:List (PV×PV)} {v:List (Str×L2.V)},FR W ad H p v→FR W ad' H' p v:=fun h=>by
    induction h with
    | nil=>exact .nil
    | cons r _ ih=>exact .cons (VR.goS e1 eU eF r) ih
  have dr:∀ {p:List (PV×PV)} {v:List (Key×V)},DR W ad H p v→DR W ad' H' p v:=fun h=>by
    induction h with
    | nil=>exact .nil
    | cons r _ ih=>exact .cons (VR.goS e1 eU eF r) ih
  have dt:∀ {p:List (PV×PV)} {v:List (NK×Addr×V)},DT W ad H p v→DT W ad' H' p v:=fun h=>by
    induction h with
    | nil=>exact .nil
    | cons s k r _ ih=>exact .cons s (VR.goS e1 eU eF k) (VR.goS e1 eU eF r) ih
  cases o with
  | lst xs=>obtain ⟨vs,h1,r⟩:=h;exact ⟨vs,ha.trans h1,VRs.goS e1 eU eF r⟩
  | dic kvs=>obtain ⟨ws,h1,r⟩:=h;exact ⟨ws,ha.trans h1,dr r⟩
  | set xs=>obtain ⟨S,ks,h1,r⟩:=h;exact ⟨S,ks,ha.trans h1,r⟩
  | dead=>obtain ⟨u,e⟩:=h;exact ⟨u,ha.trans e⟩
  | dct kvs=>obtain ⟨es,h1,r⟩:=h;exact ⟨es,ha.trans h1,dt r⟩
  | fdc kvs=>obtain ⟨es,o,h1,r⟩:=h;exact ⟨es,o,ha.trans h1,dt r⟩
  | exn c p=>obtain ⟨C,d,v,h1,h2,h3,r⟩:=h;exact ⟨C,d,v,h1,ha.trans h2,eX _ _ h3,VR.goS e1 eU eF r⟩
  | bex q=>obtain ⟨C,h1,h2⟩:=h;exact ⟨C,h1,ha.trans h2⟩
  | hid=>exact h.imp (fun ⟨ws,h1⟩=>⟨ws,ha.trans h1⟩) fun ⟨C,dx,vs,h1⟩=>⟨C,dx,vs,ha.trans h1⟩
  | dsk s fs j l xs=>
    obtain ⟨C,dx,w,eb,Cb,dxb,el,vs0,ws,h1,h2,h3,h4,h5,h6,h7,h8,h9,h10⟩:=h
    exact ⟨C,dx,w,eb,Cb,dxb,el,vs0,ws,h1,ha.trans h2,VR.goS e1 eU eF h3,e1 _ _ h4,h5,(hh j (by simp [hidO]) eb h4).trans h6,e1 _ _ h7,(hh l (by simp [hidO]) el h7).trans h8,VRs.goS e1 eU eF h9,fr h10⟩
  | obj c fs b j xs=>
    rcases h with ⟨hc,hb,hp,⟨ws,hd,k⟩,ea,vs,hj,he,r⟩ | ⟨hc,C,dx,vs,ws,h1,h2,r,k⟩
    · subst hb
      exact .inl ⟨hc,rfl,hp,⟨ws,ha.trans hd,dr k⟩,ea,vs,e1 _ _ hj,(hh j (by simp [hidO]) ea hj).trans he,VRs.goS e1 eU eF r⟩
    refine .inr ⟨hc,C,dx,vs,ws,h1,ha.trans h2,VRs.goS e1 eU eF r,?_⟩
    cases b with
    | false=>exact fr k
    | true=>
      obtain ⟨ea,vs0,hj,he,hv,k⟩:=k
      exact ⟨ea,vs0,e1 _ _ hj,(hh j (by simp [hidO]) ea hj).trans he,hv,fr k⟩
  | tab q=>
    obtain ⟨⟨ps,h1,h2,h3⟩,ht⟩:=h
    refine ⟨⟨ps,ha.trans h1,h2,fun pos cv hc=>?_⟩,ht⟩
    obtain ⟨c,k1,k2⟩:=h3 pos cv hc
    exact ⟨c,k1,eC _ _ _ k2⟩
end
noncomputable
def eLcI (j:Nat) (g:Tg) (t:EvT) (e:EvE) (vs:List Nat):EvE:=fun σ st=>match σ[j]? with
  | some (some (.ref i))=>match iItems.st0 st i with
    | some kvs=>lcLoop g t e (wipeP σ vs) [] (kvs.map fun q=>.tup [q.1,q.2]) [] (st.set i .dead) >>= fun q=>.ok (.ref q.2.length,q.2.set i (.dic kvs)++[.lst q.1])
    | none=>.stuck
  | _=>.stuck
section
variable {X:Cx} {tg iter elt kx vx:Expr} {g:Tg} {mi:EvI} {m mk mv:EvE} {t:EvT} {n:EvS} {pos:Pos} {body:List Stmt}
theorem lc_in {σ:LSt} {vs:List Nat} {te:TE} {tt:TT} (ho:∀i∈g.own,i∈vs) (ht:∀σ H Q,tOfT X.wd t σ H Q→tt σ H Q) (he:∀σ H Q,tOfE X.wd m σ H Q→te σ H Q)
    {adb ad0:List Addr} {Hb H0:Hp} {st0:Store} {σp:Slots} {items:List PV} {gs:Gd} {D:Addr} {J:It} (Eb:Ext adb Hb ad0 H0) (S0:RS X.wd ad0 H0 st0 σp σ) (wk:WK X.wd ad0 H0 items gs J) (hD:H0 D=none)
    {fin:List PV×Store→Res (PV×Store)} {G:PV×Store→List Addr→Hp→Prop} (q0:RdG (lcLoop g t m (wipeP σp vs) gs items [] st0 >>= fin) adb Hb G) {Q:VK}
    (hf:∀ad' H' st' acc ws,Ext ad0 H0 ad' H'→RO X.wd ad' H' st'→D∉ad'→H' D=some (.lst ws)→VRs X.wd ad' H' acc ws→RdG (fin (acc,st')) adb Hb G→Q (.ref D) H') :
    ∃ Wn:Nat→Nat→Hp→Prop,(∃m,Wn 0 m (upd H0 D (.lst [])))∧∀i m H,Wn i m H →
      (J.stop i H∧Q (.ref D) H)∨(J.go i H∧∃Nx:Hp→Prop,(∀H',Nx H'→∃m',m' < m∧Wn (i+1) m' H')∧∀x H',J.yld i H x H'→rdG X.K g x (wipe σ vs) H' fun σ2 H2=>wipe σ2 vs=wipe σ vs∧tt σ2 H2 fun b H3=>
        if b=true then te σ2 H3 fun y H4=>∃acc,H4 D=some (.lst acc)∧acc.length < sizeLine∧Nx (upd H4 D (.lst (acc++[y]))) else Nx H3):=by?
  have R0:=S0.ro
  have nD:=D_notin R0 hD
  obtain ⟨E1,R1,im1⟩:Ext ad0 H0 ad0 (upd H0 D (.lst []))∧RO X.wd ad0 (upd H0 D (.lst [])) st0∧True:=⟨.fresh hD,R0.fresh hD,trivial⟩
  refine ⟨fun i mm H'=>mm=items.length - i∧i≤items.length∧∃ad' st' acc ws,Ext ad0 H0 ad' H'∧RO X.wd ad' H' st'∧D∉ad'∧H' D=some (.lst ws)∧VRs X.wd ad' H' acc ws ∧
    RdG (lcLoop g t m (wipeP σp vs) gs (items.drop i) acc st' >>= fin) adb Hb G,⟨_,rfl,Nat.zero_le _,ad0,st0,[],[],E1,R1,nD,upd_same,.nil,q0⟩,?_⟩
  rintro i mm H' ⟨rfl,hi,ad',st',acc,ws,E',R',nD',hD',Va,q'⟩
  by_cases hlt:i < items.length
  · rw [drop_cons hlt] at q'
    simp only [lcLoop,force_eq] at q'
    split at q'
    · rename_i hgd
      refine Or.inr ⟨wk.go i ad' H' st' hlt E' R' hgd,fun H2=>∃ad2 st2 acc2 ws2,Ext ad0 H0 ad2 H2∧RO X.wd ad2 H2 st2∧D∉ad2∧H2 D=some (.lst ws2)∧VRs X.wd ad2 H2 acc2 ws2 ∧
        RdG (lcLoop g t m (wipeP σp vs) gs (items.drop (i+1)) acc2 st2 >>= fin) adb Hb G,fun H2 w=>⟨items.length - (i+1),by omega,rfl,hlt,w⟩,fun v H2 y=>?_⟩
      obtain ⟨E2,R2,V2⟩:=wk.yld i _ ad' H' st' v H2 (List.getElem?_eq_getElem hlt) E' R' hgd y
      have S2:RS X.wd ad' H2 st' (wipeP σp vs) (wipe σ vs):=(S0.mono (E'.trans E2) R2).wipe vs
      rw [bind_assoc'] at q'
      refine gput_go vs S2 V2 (RdG.mono q' ((Eb.trans E').trans E2)) fun σp3 σ3 e3 S3 w3 q3=>⟨by rw [w3 ho,wipe_wipe],ht _ _ _ ?_⟩
      have q3b:=q'
      rw [e3] at q3b
      simp only [bind_ok,bind_assoc'] at q3 q3b
      refine goT S3 q3 fun c ad4 H4 e4 E4 S4 q4=>?_
      have q4b:=RdG.bind_ok q3b e4
      have D4:H4 D=some (.lst ws):=E4.frm D _ (E2.frm D _ hD' nD') nD'
      have n4:D∉ad4:=fun hm=>by
        have:=(E2.trans E4).new D hm nD'
        rw [hD'] at this;cases this
      cases hc:c.1 with
      | false=>
        rw [if_neg (by decide)]
        rw [hc] at q4b
        exact ⟨ad4,c.2,acc,ws,(E'.trans E2).trans E4,S4.ro,n4,D4,(Va.mono E2).mono E4,q4b⟩
      | true=>
        rw [if_pos rfl]
        rw [hc] at q4 q4b
        simp only [if_true,bind_assoc'] at q4 q4b
        refine he _ _ _ (goE S4 q4 fun y5 ad5 H5 v5 e5 E5 S5 V5 q5=>?_)
        have q5b:=RdG.bind_ok q4b e5
        have D5:H5 D=some (.lst ws):=E5.frm D _ D4 n4
        have n5:D∉ad5:=fun hm=>by
          have:=E5.new D hm n4
          rw [D4] at this;cases this
        split at q5b
        · rename_i hl
          have Va5:=((Va.mono E2).mono E4).mono E5
          rw [Va.length] at hl
          obtain ⟨E6,R6,im6⟩:=own_write (o:=.lst (ws++[v5])) S5.ro n5 hD (((E'.trans E2).trans E4).trans E5) D5 (fun z=>z)
          exact ⟨ws,D5,by rw [sizeLine_eq];exact hl,ad5,y5.2,acc++[y5.1],ws++[v5],E6,R6,n5,upd_same,(Va5.append (.cons V5 .nil)).go (fun _ _ q=>q) im6,q5b⟩
        · exact q5b.elim
    · exact q'.elim
  · have e:i=items.length:=by omega
    subst e
    rw [List.drop_eq_nil_of_le (Nat.le_refl _)] at q'
    simp only [lcLoop,force_eq] at q'
    split at q'
    · rename_i hgd
      refine Or.inl ⟨wk.stop ad' H' st' E' R' hgd,?_⟩
      simp only [bind_ok] at q'
      exact hf ad' H' st' acc ws E' R' nD' hD' Va q'
    · exact q'.elim
theorem lcI_go {σ : LSt} {H:Hp} {Q:VK} {vs:List Nat} {te:TE} {tt:TT} {j:Nat} (ho:∀i∈g.own,i∈vs) (ht:∀σ H Q,tOfT X.wd t σ H Q→tt σ H Q) (he:∀σ H Q,tOfE X.wd m σ H Q→te σ H Q)
    (q:tOfE X.wd (eLcI j g t m vs) σ H Q):tLockE (tLc (fun σ H R=>tOfE X.wd (eVar j) σ H fun x H1=>∃d o kvs,x=.ref d∧H1 d=some (.frz o (.dK kvs))∧R (ItI d o kvs) H1) (rdG X.K g) tt te vs) σ H Q:=by?
  obtain ⟨ad,st,σp,S,q⟩:=q
  unfold eLcI at q
  split at q
  · rename_i i hj
    split at q
    · rename_i kvs hs
      unfold iItems.st0 at hs
      split at hs
      · rename_i kvs' hk
        cases hs
        obtain ⟨a,ha,ws,e2,r⟩:=S.ro.get hk
        refine ⟨a,.dK ws,e2,trivial,fun od=>?_⟩
        have am:=List.mem_of_getElem? ha
        have ni:∀u,H a=some u→¬ Imu u:=fun u z i=>by rw [e2] at z;cases z;exact i
        have E2:=Ext.write (o:=.frz od (.dK ws)) S.ro am ni
        have R2:RO X.wd ad (upd H a (.frz od (.dK ws))) (st.set i .dead):=S.ro.write ha ⟨_,upd_same⟩ ni
        have S2:=S.mono E2 R2
        refine ⟨ad,st.set i .dead,σp,S2,?_⟩
        unfold eVar
        rw [hj]
        intro ad1 H1 E3 R3 v V
        cases V with
        | ref ha'=>
        rename_i a'
        have:a'=a:=by
          have:=E3.at ha
          rw [this] at ha'
          exact (Option.some.inj ha').symm
        subst this
        have hfz:H1 a'=some (.frz od (.dK ws)):=E3.imm _ _ upd_same trivial
        refine ⟨a',od,ws,rfl,hfz,fun D hD=>?_⟩
        have E23:=E2.trans E3
        have r3:=DR.go (fun _ _ q=>E23.at q) E23.imm r
        refine lc_in (J:=ItI a' od ws) (Q:=fun v H'=>H' a'=some (.frz od (.dK ws))∧Q v (upd H' a' (.dK ws))) ho ht he E23 (S2.mono E3 R3) (gs:=[]) ⟨fun j ad3 H3 st3 hj E3 R3 g3=>⟨E3.imm _ _ hfz trivial,?_⟩,fun ad3 H3 st3 E3 R3 g3=>⟨E3.imm _ _ hfz trivial,?_⟩,fun j p ad3 H3 st3 v H4 hp E3 R3 g3 y=>?_⟩ hD q ?_
        · rw [List.length_map,r.length] at hj;exact hj
        · rw [List.length_map,r.length];exact Nat.le_refl _
        · obtain ⟨T,k,v',its,hk',rfl,hT,rfl⟩:=y
          obtain ⟨p',hp',V'⟩:=DR.nth r3 hk'
          rw [List.getElem?_map,hp'] at hp
          simp only [Option.map_some,Option.some.injEq] at hp
          subst hp
          have E4:Ext ad3 H3 ad3 (upd H3 T (.frz (tupObj its) (.tup [kV k,v']))):=.fresh hT
          exact ⟨E4,R3.fresh hT,.tup (Or.inl ⟨_,upd_same,rfl,rfl⟩) (.cons (vr_key k) (.cons ((V'.mono E3).mono E4) .nil))⟩
        · intro ad' H' st' acc ws' E' R' nD' hD' Va q'
          have hfz':H' a'=some (.frz od (.dK ws)):=E'.imm _ _ hfz trivial
          refine ⟨hfz',?_⟩
          have E4:Ext ad H ad' H':=E23.trans E'
          have ai:ad'[i]? = some a':=E4.at ha
          have neq:∀ {b:Addr},b≠a'→upd H' a' (.dK ws) b=H' b:=fun h=>upd_ne h
          have eU:∀b vs,SqU X.wd.K H' b vs→SqU X.wd.K (upd H' a' (.dK ws)) b vs:=fun b vs h=>by
            rcases h with ⟨o,h,c⟩ | h
            · refine Or.inl ⟨o,?_,c⟩
              rw [neq (fun z=>by subst z;rw [hfz'] at h;cases h)];exact h
            · exact Or.inr h
          have eF:∀b vs,SqF X.wd.K H' b vs→SqF X.wd.K (upd H' a' (.dK ws)) b vs:=fun b vs h=>by
            rcases h with ⟨o,h⟩ | h
            · refine Or.inl ⟨o,?_⟩
              rw [neq (fun z=>by subst z;rw [hfz'] at h;cases h)];exact h
            · exact Or.inr h
          have eX:∀b fs,H' b=some (.xd fs)→upd H' a' (.dK ws) b=some (.xd fs):=fun b fs h=>by rw [neq (fun z=>by subst z;rw [hfz'] at h;cases h)];exact h
          have eC:∀b c q,H' b=some (LamX.CodeO c q)→upd H' a' (.dK ws) b=some (LamX.CodeO c q):=fun b c q h=>by rw [neq (fun z=>by subst z;rw [hfz'] at h;unfold LamX.CodeO at h;cases h)];exact h
          have Da:D≠a':=fun z=>by subst z;rw [hfz] at hD;cases hD
          have E5 : Ext ad H (ad'++[D]) (upd H' a' (.dK ws)):=by
            obtain ⟨tl,et⟩:=E4.pre
            refine ⟨⟨tl++[D],by rw [et,List.append_assoc]⟩,fun b u hb nb=>?_,fun b hb nb=>?_,fun b u hb iu=>?_⟩
            · rw [neq (b:=b) (fun z=>nb (by rw [z];exact am))];exact E4.frm b u hb nb
            · rcases List.mem_append.mp hb with z | z
              · exact E4.new b z nb
              · rw [List.mem_singleton.mp z]
                cases hz:H D with
                | none=>rfl
                | some u=>
                  have:=E23.frm D u hz (by rw [List.mem_singleton.mp z] at nb;exact nb)
                  rw [hD] at this;cases this
            · rw [neq (fun z=>by subst z;exact ni _ hb iu)];exact E4.imm b u hb iu
          have at':∀ (k:Nat) b,ad'[k]? = some b→(ad'++[D])[k]? = some b:=fun k b h=>by
            rw [List.getElem?_append_left (List.getElem?_eq_some_iff.mp h).1];exact h
          have il:i < ad'.length:=(List.getElem?_eq_some_iff.mp ai).1
          have r5:=DR.go (fun _ _ q=>E5.at q) E5.imm r
          have nh:∃o,st'[i]? = some o∧o≠.hid:=by
            have il':i < st'.length:=by rw [R'.len];exact il
            refine ⟨st'[i],List.getElem?_eq_getElem il',fun z=>?_⟩
            rcases R'.obj i .hid a' (by rw [List.getElem?_eq_getElem il',z]) ai with ⟨ws',hw⟩ | ⟨_,_,_,hw⟩ <;> (rw [hfz'] at hw;cases hw)
          refine q' (ad'++[D]) _ E5 ⟨by simp [R'.len],?_,fun k u b h1 h2=>?_,(R'.hid.put nh rfl).add⟩ (.ref D) (.ref (by rw [R'.len];simp))
          · refine List.nodup_append.mpr ⟨R'.nd,by simp,fun b hb c hc=>?_⟩
            rw [List.mem_singleton.mp hc]
            exact fun e=>nD' (e ▸ hb)
          · by_cases hk':k < ad'.length
            · rw [List.getElem?_append_left hk'] at h2
              rw [List.getElem?_append_left (by rw [List.length_set,R'.len];exact hk')] at h1
              by_cases ki:k=i
              · subst ki
                rw [List.getElem?_set_self (by rw [R'.len];exact hk')] at h1
                cases h1
                rw [ai] at h2;cases h2
                exact ⟨ws,upd_same,r5⟩
              · rw [List.getElem?_set_ne (fun z=>ki z.symm)] at h1
                have un:∀ {k:Nat} {c:Addr},ad'[k]? = some c→c=a'→k=i:=fun {k c} q z=>by
                  subst z
                  obtain ⟨h3,h4⟩:=List.getElem?_eq_some_iff.mp q
                  obtain ⟨h5,h6⟩:=List.getElem?_eq_some_iff.mp ai
                  exact (List.getElem_inj R'.nd).mp (h4.trans h6.symm)
                refine (R'.obj k u b h1 h2).goS at' eU eF eX eC (neq fun z=>ki (un h2 z)) fun k' hk' ea q=>neq fun z=>?_
                have e1:=un q z
                subst e1
                obtain ⟨o0,e0,n0⟩:=nh
                rw [R'.hid.1 k u k' h1 hk'] at e0
                exact n0 (Option.some.inj e0).symm
            · have hk2:k=ad'.length:=by
                have:=(List.getElem?_eq_some_iff.mp h2).1
                simp at this
                omega
              subst hk2
              rw [List.getElem?_append_right (Nat.le_refl _)] at h2
              rw [List.getElem?_append_right (by rw [List.length_set,R'.len];exact Nat.le_refl _),List.length_set,R'.len] at h1
              simp at h1 h2
              subst h1;subst h2
              exact ⟨ws',(neq Da).trans hD',Va.goS at' eU eF⟩
      · cases hs
    · exact q.elim
  · exact q.elim
section
variable {ifs:List Expr} {scope:Scope} {own:List (Str×Nat)} {apos cpos tpos:Pos} {elts:List Expr} {kk j:Nat} {eD:Expr}
theorem se_lcI (hc:X.calm=true) (hN:X.N.Nodup) (hd:SE X eD (eVar j)) (ok:BlkOk X.N X.env.scope scope own)
    (hg:∀ (s:Shared) (H:Hp) (C:Addr) (cl:List (Str×Addr)) (fp:List Addr),SG (X.blk s H scope (compEnvC scope cl C X.env) fp) (.Tuple elts kk tpos) g) (ht:∀ (s:Shared) (H:Hp) (C:Addr) (cl:List (Str×Addr)) (fp:List Addr),STs (X.blk s H scope (compEnvC scope cl C X.env) fp) ifs t)
    (he:∀ (s:Shared) (H:Hp) (C:Addr) (cl:List (Str×Addr)) (fp:List Addr),SE (X.blk s H scope (compEnvC scope cl C X.env) fp) elt m) (ho:∀i∈g.own,i∈own.map (·.2):=by decide)
    (hbase:attributeBase eD "items" X.env (eval eD X.env)=eval eD X.env:=by rfl) (hline:(apos.endLine == cpos.line)=true:=by rfl)
    (hs:∀x,foldedSetIterable (.Call (.Attribute eD "items" apos) [] [] cpos) X.env x=pure x:=by intro _;rfl) :
    SE X (.ListComp elt [⟨.Tuple elts kk tpos,.Call (.Attribute eD "items" apos) [] [] cpos,ifs,0⟩] scope pos) (eLcI j g t m (own.map (·.2))):=
  PE.to (pe_lock (pe_lc (g:=rdG X.K g) (tt:=tOfT X.wd t) (te:=tOfE X.wd m) hc hN (pi_itemsB hd hbase hline) ok hg ht he hs)) fun σ H Q q=>lcI_go ho (fun _ _ _ q=>q) (fun _ _ _ q=>q) q
theorem se_lcIB {vs:List Nat} (own:List (Str×Nat)) (hd:SE X eD (eVar j)) (hN:X.N.Nodup) (hc:X.calm=true) (ok:blkC X.N X.env.scope scope own=true)
    (hg:∀ (s:Shared) (H:Hp) (C:Addr) (cl:List (Str×Addr)) (fp:List Addr),SG (X.blk s H scope (compEnvC scope cl C X.env) fp) (.Tuple elts kk tpos) g) (ht:∀ (s:Shared) (H:Hp) (C:Addr) (cl:List (Str×Addr)) (fp:List Addr),STs (X.blk s H scope (compEnvC scope cl C X.env) fp) ifs t)
    (he:∀ (s:Shared) (H:Hp) (C:Addr) (cl:List (Str×Addr)) (fp:List Addr),SE (X.blk s H scope (compEnvC scope cl C X.env) fp) elt m) (ho:∀i∈g.own,i∈own.map (·.2):=by decide)
    (hbase:attributeBase eD "items" X.env (eval eD X.env)=eval eD X.env:=by rfl) (hline:(apos.endLine == cpos.line)=true:=by rfl)
    (hs:∀x,foldedSetIterable (.Call (.Attribute eD "items" apos) [] [] cpos) X.env x=pure x:=by intro _;rfl) (hv:own.map (·.2)=vs:=by rfl) :
    SE X (.ListComp elt [⟨.Tuple elts kk tpos,.Call (.Attribute eD "items" apos) [] [] cpos,ifs,0⟩] scope pos) (eLcI j g t m vs):=by subst hv;exact se_lcI hc hN hd (blkOk_by ok) hg ht he ho hbase hline hs
end
end
end Sg
namespace Vg
open PySem Sg
/-- a comprehension over the pairs of the dict in a slot of one's own,which stands again afterwards -/
noncomputable
def vLcI (j:Nat) (g:Tg) (t:VT) (e:VE) (vs:List Nat):VE:=fun env=>match env[j]? with
  | some (.ow (.dic kvs))=>vLcL g t e vs (kvs.map fun q=>.tup [q.1,q.2]) [] (vWipe (env.set j .un) vs) >>= fun q=>match (vBack (env.set j .un) vs q.2)[j]? with
    | some .un=>.ok (.fr (.lst q.1),(vBack (env.set j .un) vs q.2).set j (.ow (.dic kvs)))
    | _=>.no
  | _=>.no
section
variable {F F2:FF} {env env2:Env} {σ:Slots} {st st2:Store}
theorem Go.again (r:RR F env σ st) {j i:Nat} {v:NV} {o:PO} (hj:env[j]? = some (.ow v)) (hi:σ[j]? = some (some (.ref i))) (hF:F i=none) (ho:st[i]? = some o) (h:ORep F v o)
    (GB:Go F (env.set j .un) σ (st.set i .dead) F2 env2 σ st2) (hu:env2[j]? = some .un):Go F env σ st F2 (env2.set j (.ow v)) σ (st2.set i o):=by?
  have GD:=r.drop hj hi hF
  have G:=GD.trans GB
  have r2:=GB.rr
  have il:=get_lt ho
  have mj:mutV env j=some v:=by unfold mutV;rw [hj];rfl
  have nO1:¬ Ow (env.set j .un) σ i:=fun ⟨k,w,q1,q2⟩=>by
    have hjl:j < env.length:=(List.getElem?_eq_some_iff.mp hj).1
    by_cases e:k=j
    · subst e
      unfold mutV at q1
      rw [List.getElem?_set_self hjl] at q1
      cases q1
    · unfold mutV at q1
      rw [List.getElem?_set_ne (fun z=>e z.symm)] at q1
      exact e (r.dj k j w v i q1 mj q2 hi)
  obtain ⟨f1,f2⟩:=GB.frm i (by rw [List.length_set];exact il) nO1
  have F2i:F2 i=none:=f2.trans hF
  have i2:i < st2.length:=Nat.lt_of_lt_of_le il G.le
  have nO2:¬ Ow env2 σ i:=fun q=>(GB.own i q).elim nO1 fun z=>by rw [List.length_set] at z;omega
  have hjl2:j < env2.length:=(List.getElem?_eq_some_iff.mp hu).1
  have wfo:vLt st2.length o=true:=vLt_mono G.le (r.wf i o ho)
  refine ⟨⟨by rw [List.length_set];exact r2.len,fun k o' q=>?_,fun k o' q=>?_,fun k w q=>?_,fun k w q=>?_,fun k p q=>by rw [List.length_set];exact r2.rf k p q,fun k l w u c q1 q2 q3 q4=>?_⟩,G.ext,fun k hk hn=>?_,by rw [List.length_set];exact G.le,fun k ⟨l,w,q1,q2⟩=>?_,fun k w q=>?_⟩
  · rw [set_getP i2,if_neg (fun e=>by subst e;rw [F2i] at q;cases q)];exact r2.sub k o' q
  · rw [List.length_set]
    rw [set_getP i2] at q
    split at q
    · cases q;exact wfo
    · exact r2.wf k o' q
  · rcases set_get q with ⟨_,z,_⟩ | ⟨_,z⟩
    · cases z
    · exact r2.sh k w z
  · rcases mutV_set q with ⟨rfl,z⟩ | ⟨hk,z⟩
    · have z:some v=some w:=z
      cases z
      exact ⟨i,o,hi,F2i,by rw [set_getP i2,if_pos rfl],h.mono G.ext⟩
    · obtain ⟨c,o',h1,h2,h3,h4⟩:=r2.mu k w z
      refine ⟨c,o',h1,h2,?_,h4⟩
      rw [set_getP i2,if_neg (fun e=>nO2 ⟨k,w,z,by rw [e];exact h1⟩)];exact h3
  · rcases mutV_set q1 with ⟨rfl,z⟩ | ⟨hk,z⟩
    · rcases mutV_set q2 with ⟨rfl,y⟩ | ⟨hl,y⟩
      · rfl
      · rw [hi] at q3;cases q3
        exact absurd ⟨l,u,y,q4⟩ nO2
    · rcases mutV_set q2 with ⟨rfl,y⟩ | ⟨hl,y⟩
      · rw [hi] at q4;cases q4
        exact absurd ⟨k,w,z,q3⟩ nO2
      · exact r2.dj k l w u c z y q3 q4
  · obtain ⟨g1,g2⟩:=G.frm k hk hn
    refine ⟨?_,g2⟩
    rw [set_getP i2,if_neg (fun e=>hn ⟨j,v,mj,by rw [← e];exact hi⟩)];exact g1
  · rcases mutV_set q1 with ⟨rfl,z⟩ | ⟨hk,z⟩
    · rw [hi] at q2;cases q2
      exact .inl ⟨_,v,mj,hi⟩
    · exact G.own k ⟨l,w,z,q2⟩
  · obtain ⟨g1,v',g2⟩:=G.pin k w q
    refine ⟨g1,v',?_⟩
    rw [List.getElem?_set_ne (fun z=>by subst z;rw [hu] at g2;cases g2)];exact g2
end
theorem VRepd.prsI {F:FF}:∀ {kvs:List (NV×NV)} {kps:List (PV×PV)},VRepd F kvs kps→VReps F (kvs.map fun q=>.tup [q.1,q.2]) (kps.map fun q=>.tup [q.1,q.2])
  | _,_,.nil=>.nil
  | (k,v)::kvs,(p,q)::kps,.cons a b r=>by
    simp only [List.map_cons]
    exact .cons (.tup (.cons a (.cons b .nil))) (VRepd.prsI r)
theorem re_lcI {j:Nat} {g:Tg} {t:EvT} {t':VT} {e:EvE} {e':VE} {vs:List Nat} (hg:((Tg.own g).all fun k=>vs.contains k)=true) (ht:RT t t') (he:RE e e'):RE (eLcI j g t e vs) (vLcI j g t' e' vs):=by?
 exact fun F env σ st r ev env' h=>by
  unfold vLcI at h
  split at h
  · rename_i kvs hj
    simp only [R.bind_ok] at h
    obtain ⟨⟨ys,env2⟩,h2,h3⟩:=h
    split at h3
    · rename_i hu
      cases h3
      have mj:mutV env j=some (.dic kvs):=by unfold mutV;rw [hj];rfl
      obtain ⟨i,o,h1,hF,ho,h4⟩:=r.mu j _ mj
      have h4':=h4
      cases h4 with
      | dic kd=>
        rename_i kps
        have G1:=r.drop hj h1 hF
        have hg':∀k∈Tg.own g,k∈vs:=fun k hk=>by simpa using List.all_eq_true.mp hg k hk
        have prs:=VRepd.prsI kd
        obtain ⟨qs,st2,F2,e2,G2,v2⟩:=lc_loop hg' ht he _ _ [] [] F _ (st.set i .dead) (G1.rr.wipe vs) wiped_un prs .nil (gs:=[]) (by simp) ys env2 h2
        have GB:=G2.back G1.rr
        have GA:=Go.again r hj h1 hF ho h4' GB hu
        obtain ⟨G3,v3⟩:=GA.rr.new (.lst v2)
        refine ⟨_,_,F2,?_,GA.trans G3,v3.le GA.le⟩
        unfold eLcI
        simp only [h1,iItems.st0,ho]
        rw [e2]
        simp only [bind_ok,List.length_set]
    · cases h3
  · cases h
end Vg
namespace Sg
open PySem
noncomputable
def mChoose:EvS:=sSeq (sAsg (eC (.int 1)) (.nm 2)) (sSeq (sFor (iRng1 (eVar 1)) (.nm 3) (sAsg (eBin opFdiv (eBin opMulA (eVar 2) (eBin opSub (eVar 0) (eVar 3))) (eBin opAdd (eVar 3) (eC (.int 1)))) (.nm 2))) (sRet (eVar 2)))
/-- the binomial number,step by step -/
noncomputable
def chooseP (n:Int):Nat→Int
  | 0=>1
  | k+1=>chooseP n k * (n - k) / ((k:Int)+1)
theorem mul1k {x y:Int} (hx:x.natAbs < 2 ^ 1000) (hy:y.natAbs < 2 ^ 1000):mulOk x y=true:=mulOk_of (a:=1000) (b:=1000) hx hy (by decide)
theorem forLoop_nm {i:Nat} {b:EvS} {F:Nat→Slots} {G:Nat→Store}:∀ (n lo:Nat),(∀j,lo≤j→j < lo+n→gPut (.nm i) (.int (j:Nat)) (F j) >>= (fun r=>b r (G j))=.ok (.nx,F (j+1),G (j+1))) →
    forLoop (.nm i) b [] ((List.range n).map fun j=>.int ((lo+j:Nat):Int)) (F lo) (G lo)=.ok (.nx,F (lo+n),G (lo+n))
  | 0,lo,_=>rfl
  | n + 1,lo,h=>by
    rw [List.range_succ_eq_map,List.map_cons,List.map_map]
    have h0:=h lo (Nat.le_refl _) (by omega)
    have ih:=forLoop_nm (i:=i) (b:=b) (F:=F) (G:=G) n (lo+1) fun j h1 h2=>h j (by omega) (by omega)
    simp only [forLoop,gdOk_nil,if_true,Nat.add_zero]
    cases hg:gPut (.nm i) (.int (lo:Nat)) (F lo) with
    | ok r=>
      rw [hg] at h0
      simp only [bind_ok] at h0
      simp only [bind_ok,h0]
      rw [show lo+(n+1)=lo+1+n by omega,← ih]
      congr 1
      apply List.map_congr_left
      intro j _
      show PV.int ((lo+(j+1):Nat):Int)=PV.int ((lo+1+j:Nat):Int)
      rw [show lo+(j+1)=lo+1+j by omega]
    | exc _ _ _=>rw [hg] at h0;cases h0
    | stuck=>rw [hg] at h0;cases h0
/-- for j in range(n) -/
theorem sFor_rng {i:Nat} {b:EvS} {m:EvE} {F:Nat→Slots} {G:Nat→Store} {n:Nat} {x:Int} (hm:m (F 0) (G 0)=.ok (.int x,G 0)) (hx:x=n) (hn:n≤1000000)
    (h:∀j,j < n→gPut (.nm i) (.int (j:Nat)) (F j) >>= (fun r=>b r (G j))=.ok (.nx,F (j+1),G (j+1))):sFor (iRng1 m) (.nm i) b (F 0) (G 0)=.ok (.nx,F n,G n):=by?
  unfold sFor
  rw [iRng1_ok hm hx hn]
  simp only [bind_ok]
  have z:rngI 0 n=(List.range n).map fun j=>.int ((0+j:Nat):Int):=by
    unfold rngI
    apply List.map_congr_left
    intro j _
    simp
  rw [z]
  have:=forLoop_nm (i:=i) (b:=b) (F:=F) (G:=G) n 0 fun j _ hj=>h j (by omega)
  simp only [Nat.zero_add] at this ⊢
  exact this
theorem choose_ok (n:Int) (k:Nat) (st:Store) (hk:k≤1000) (hn:n.natAbs≤1000) (hb:∀j,j≤k→(chooseP n j).natAbs < 2 ^ 1000):fnOf 4 mChoose [.int n,.int k] st=.ok (.int (chooseP n k),st):=by?
  have e:start0 4 [.int n,.int k]=[some (.int n),some (.int k),none,none]:=rfl
  have loop:=sFor_rng (i:=3) (m:=eVar 1) (n:=k) (x:=k) (b:=sAsg (eBin opFdiv (eBin opMulA (eVar 2) (eBin opSub (eVar 0) (eVar 3))) (eBin opAdd (eVar 3) (eC (.int 1)))) (.nm 2)) (G:=fun _=>st)
    (F:=fun j=>[some (.int n),some (.int k),some (.int (chooseP n j)),if j=0 then none else some (.int ((j - 1:Nat):Int))]) rfl rfl (by omega) fun j hj=>by
      have h1:mulOk (chooseP n j) (n - j)=true:=mul1k (hb j (by omega)) (Nat.lt_of_le_of_lt (show (n - j).natAbs≤2000 by omega) (by decide +kernel))
      have h2:(0:Int) < (j:Int)+1:=by omega
      have h3:((j:Int)+1).natAbs.log2 < 9000:=by
        have:((j:Int)+1).natAbs≠0:=by omega
        have:=(Nat.log2_lt (n:=((j:Int)+1).natAbs) (k:=12) this).mpr (by omega)
        omega
      simp [gPut_eq,Tg.put,sAsg,eBin,eVar,eC,opSub,opMulA,h1,opAdd,opFdiv,h2,h3,chooseP]
  simp only [fnOf,mChoose,e]
  rw [seq_ok (σ':=[some (.int n),some (.int k),some (.int 1),none]) (st':=st) (by simp [sAsg,eC,gPut_eq,Tg.put]),seq_ok (σ:=[some (.int n),some (.int k),some (.int 1),none]) loop]
  simp [sRet,eVar]
noncomputable
def covNext (L:Nat) (row:List Int):List Int:=(List.range (L+1)).map fun w=>((L:Int) - w) * row.getD w 0+w * row.getD (if w=0 then L else w - 1) 0
noncomputable
def covRow (L:Nat):Nat→List Int
  | 0=>1::List.replicate L 0
  | n+1=>covNext L (covRow L n)
theorem covRow_len (L:Nat):∀n,(covRow L n).length=L+1
  | 0=>by simp [covRow]
  | n+1=>by simp [covRow,covNext]
noncomputable
def intsO (l:List Int):PO:=.lst (l.map .int)
noncomputable
def mCovQ4:EvS:=sDrop (eMeth isLst mAppend (eVar 2) (aCons (eLc (iRng1 (eBin opAdd (eVar 1) (eC (.int 1)))) (.nm 5) (tYes) (eBin opAdd (eBin opMulA (eBin opSub (eVar 1) (eVar 5)) (eBinG opIxA (eVar 4) (eVar 5))) (eBin opMulA (eVar 5) (eBinG opIxA (eVar 4) (eBin opSub (eVar 5) (eC (.int 1)))))) [5]) (aNil)))
noncomputable
def mCovQ3:EvS:=sAsg (eBinG opIxA (eVar 2) (eUn unNeg (eC (.int 1)))) (.nm 4)
noncomputable
def mCovQ1:EvS:=sAsg (eLst (aCons (eBin opAdd (eLst (aCons (eC (.int 1)) (aNil))) (eBin opMulA (eLst (aCons (eC (.int 0)) (aNil))) (eVar 1))) (aNil))) (.nm 2)
noncomputable
def mCov:EvS:=sSeq mCovQ1 (sSeq (sFor (iRng1 (eVar 0)) (.nm 3) (sSeq mCovQ3 mCovQ4)) (sRet (eVar 2)))
/-- the outer list: the places of the rows -/
noncomputable
def covRefs (n:Nat):Nat→List PV
  | 0=>[.ref (n+3)]
  | m+1=>covRefs n m++[.ref (n+5+m)]
theorem covRefs_len (n:Nat):∀m,(covRefs n m).length=m+1
  | 0=>rfl
  | m+1=>by simp [covRefs,covRefs_len n m]
noncomputable
def covSt (n L m:Nat):Store:=[intsO [1],intsO [0],intsO (List.replicate L 0),intsO (covRow L 0),.lst (covRefs n m)]++(List.range m).map fun j=>intsO (covRow L (j+1))
theorem get_app (st t:Store) (i:Nat):(st++t)[st.length+i]? = t[i]?:=by
  rw [List.getElem?_append_right (Nat.le_add_right _ _),Nat.add_sub_cancel_left]
theorem covQ1_ok (st:Store) (m L:Nat) (hL:L≤1000):mCovQ1 [some (.int m),some (.int L),none,none,none,none] st=.ok (.nx,[some (.int m),some (.int L),some (.ref (st.length+4)),none,none,none],st++covSt st.length L 0):=by?
  have hz:(List.replicate L [PV.int 0]).flatten=List.replicate L (PV.int 0):=by simp
  have g1:(st++[PO.lst [PV.int 1],.lst [.int 0]])[st.length+1]? = some (.lst [.int 0]):=get_app st _ 1
  have g0:(st++[PO.lst [PV.int 1],.lst [.int 0],.lst (List.replicate L (.int 0))])[st.length]? = some (.lst [.int 1]):=get_app st _ 0
  have g2:(st++[PO.lst [PV.int 1],.lst [.int 0],.lst (List.replicate L (.int 0))])[st.length+2]? = some (.lst (List.replicate L (.int 0))):=get_app st _ 2
  have c1:(0:Int)≤L∧(L:Int)≤16777216∧[PV.int 0].length * (L:Int).toNat≤LINE:=⟨by omega,by omega,by show 1 * _≤_;simp only [Int.toNat_natCast,LINE];omega⟩
  have a1:opMulA (.ref (st.length+1)) (.int L) (st++[PO.lst [PV.int 1],.lst [.int 0]])=.ok (.ref (st.length+2),st++[PO.lst [PV.int 1],.lst [.int 0],.lst (List.replicate L (.int 0))]):=by
    unfold opMulA
    simp only [g1]
    rw [if_pos c1,Int.toNat_natCast,hz]
    simp
  have a2:opAdd (.ref st.length) (.ref (st.length+2)) (st++[PO.lst [PV.int 1],.lst [.int 0],.lst (List.replicate L (.int 0))])=.ok (.ref (st.length+3),st++[PO.lst [PV.int 1],.lst [.int 0],.lst (List.replicate L (.int 0)),.lst (.int 1::List.replicate L (.int 0))]):=by
    simp only [opAdd,g0,g2]
    rw [if_pos (by simp only [List.length_cons,List.length_nil,List.length_replicate,LINE];omega)]
    simp
  have l1:eLst (aCons (eC (.int 1)) aNil) [some (.int m),some (.int L),none,none,none,none] st=.ok (.ref st.length,st++[.lst [.int 1]]):=by simp [eLst,aCons,eC,aNil,LINE]
  have l2:eLst (aCons (eC (.int 0)) aNil) [some (.int m),some (.int L),none,none,none,none] (st++[.lst [.int 1]])=.ok (.ref (st.length+1),st++[PO.lst [PV.int 1],.lst [.int 0]]):=by simp [eLst,aCons,eC,aNil,LINE]
  have l3:eBin opAdd (eLst (aCons (eC (.int 1)) (aNil))) (eBin opMulA (eLst (aCons (eC (.int 0)) (aNil))) (eVar 1)) [some (.int m),some (.int L),none,none,none,none] st=.ok (.ref (st.length+3),st++[PO.lst [PV.int 1],.lst [.int 0],.lst (List.replicate L (.int 0)),.lst (.int 1::List.replicate L (.int 0))]):=by
    unfold eBin
    rw [l1]
    simp only [bind_ok]
    rw [l2]
    simp only [bind_ok,eVar,List.getElem?_cons_succ,List.getElem?_cons_zero,a1,a2]
  have q:=asg_ok (i:=2) (lst_ok (acons_ok l3 anil_ok))
  unfold mCovQ1
  rw [q]
  simp [covSt,intsO,covRow,covRefs]
theorem intsO_ix {st:Store} {i j:Nat} {l:List Int} (h:st[i]? = some (intsO l)) (hj:j < l.length):opIxA (.ref i) (.int j) st=.ok (.int (l.getD j 0),st):=by
  have e:l[j]? = some l[j]:=List.getElem?_eq_getElem hj
  simp [opIxA,isDic,h,intsO,opIx,seqP,ixP,hj,List.getD,e]
theorem intsO_ixN {st:Store} {i j:Nat} {l:List Int} (h:st[i]? = some (intsO l)) (hj:l.length=j+1):opIxA (.ref i) (.int (-1)) st=.ok (.int (l.getD j 0),st):=by
  have e:l[j]? = some l[j]:=List.getElem?_eq_getElem (by omega)
  have h1:ixP l.length (-1)=some j:=by
    unfold ixP
    rw [if_neg (by decide),if_pos (by omega)]
    congr 1
    omega
  simp [opIxA,isDic,h,intsO,opIx,seqP,h1,List.getD,e]
theorem row_at (st:Store) (L m:Nat):(st++covSt st.length L m)[st.length+4]? = some (.lst (covRefs st.length m)):=by
  rw [get_app];rfl
/-- the place of the m-th row -/
noncomputable
def rowAt (n:Nat):Nat→Nat
  | 0=>n+3
  | m+1=>n+5+m
theorem row_get (st:Store) (L:Nat) {m j:Nat} (h:j≤m):(st++covSt st.length L m)[rowAt st.length j]? = some (intsO (covRow L j)):=by?
  cases j with
  | zero=>show (st++covSt st.length L m)[st.length+3]? = _;rw [get_app];rfl
  | succ j=>
    show (st++covSt st.length L m)[st.length+5+j]? = _
    rw [show st.length+5+j=st.length+(5+j) by omega,get_app]
    unfold covSt
    have:(List.range m)[j]? = some j:=List.getElem?_range (by omega)
    rw [List.getElem?_append_right (by simp),List.getElem?_map]
    rw [show 5+j - [intsO [1],intsO [0],intsO (List.replicate L 0),intsO (covRow L 0),PO.lst (covRefs st.length m)].length=j from by simp only [List.length_cons,List.length_nil];omega,this]
    rfl
theorem covRefs_get (n:Nat):∀ {m j:Nat},j≤m→(covRefs n m)[j]? = some (.ref (rowAt n j))
  | 0, j, h => by obtain rfl:j=0:=by omega
                  rfl
  | m + 1,j,h=>by
    unfold covRefs
    by_cases hj:j≤m
    · rw [List.getElem?_append_left (by rw [covRefs_len];omega)]
      exact covRefs_get n hj
    · obtain rfl:j=m+1:=by omega
      rw [List.getElem?_append_right (by rw [covRefs_len];omega),covRefs_len]
      simp [rowAt]
/-- rows[j],rows[-1] -/
theorem rows_ix {st:Store} {L m j:Nat} (h:j≤m):opIxA (.ref (st.length+4)) (.int j) (st++covSt st.length L m)=.ok (.ref (rowAt st.length j),st++covSt st.length L m):=by
  have hl:j < (covRefs st.length m).length:=by rw [covRefs_len];omega
  have e:=covRefs_get st.length h
  have h1:ixP (covRefs st.length m).length j=some j:=by
    unfold ixP
    rw [if_pos (by omega),if_pos (by omega)]
    congr 1
  simp only [opIxA,isDic,row_at,opIx,seqP,h1,e]
  rfl
theorem rows_last {st:Store} {L m:Nat}:opIxA (.ref (st.length+4)) (.int (-1)) (st++covSt st.length L m)=.ok (.ref (rowAt st.length m),st++covSt st.length L m):=by
  have e:=covRefs_get st.length (Nat.le_refl m)
  have h1:ixP (covRefs st.length m).length (-1)=some m:=by
    rw [covRefs_len]
    unfold ixP
    rw [if_neg (by decide),if_pos (by omega)]
    congr 1
    omega
  simp [opIxA,isDic,row_at,opIx,seqP,h1,e]
/-- a turn's new row -/
theorem covLc_ok {st:Store} {m M L:Nat} {t:Int} {a5:Option PV} (hL:L≤1000) (hb:∀w,((covRow L m).getD w 0).natAbs < 2 ^ 1000) (h1:(st++covSt st.length L m)[rowAt st.length m]? = some (intsO (covRow L m))) :
    eLc (iRng1 (eBin opAdd (eVar 1) (eC (.int 1)))) (.nm 5) (tYes) (eBin opAdd (eBin opMulA (eBin opSub (eVar 1) (eVar 5)) (eBinG opIxA (eVar 4) (eVar 5))) (eBin opMulA (eVar 5) (eBinG opIxA (eVar 4) (eBin opSub (eVar 5) (eC (.int 1)))))) [5]
      [some (.int M),some (.int L),some (.ref (st.length+4)),some (.int t),some (.ref (rowAt st.length m)),a5] (st++covSt st.length L m)=.ok (.ref (st++covSt st.length L m).length,st++covSt st.length L m++[intsO (covRow L (m+1))]):=by?
  generalize hS:st++covSt st.length L m=S at h1
  have hr:iRng1 (eBin opAdd (eVar 1) (eC (.int 1))) [some (.int M),some (.int L),some (.ref (st.length+4)),some (.int t),some (.ref (rowAt st.length m)),a5] S=.ok ((rngI 0 (L+1),[]),S):=
    iRng1_ok (x:=(L:Int)+1) (by simp [eBin,eVar,eC,opAdd]) (by omega) (by omega)
  have hv:∀x∈rngI 0 (L+1),∃σx,gPut (.nm 5) x (wipeP [some (.int M),some (.int L),some (.ref (st.length+4)),some (.int t),some (.ref (rowAt st.length m)),a5] [5])=.ok σx∧tYes σx S=.ok ((fun _=>true) x,S)∧((fun _=>true) x=true →
      eBin opAdd (eBin opMulA (eBin opSub (eVar 1) (eVar 5)) (eBinG opIxA (eVar 4) (eVar 5))) (eBin opMulA (eVar 5) (eBinG opIxA (eVar 4) (eBin opSub (eVar 5) (eC (.int 1))))) σx S
        = .ok ((fun x=>match x with | .int w=>.int (((L:Int) - w) * (covRow L m).getD w.toNat 0+w * (covRow L m).getD (if w.toNat=0 then L else w.toNat - 1) 0) | _=>.non) x,S)):=by
    intro x hx
    obtain ⟨w,hw,rfl⟩:∃w:Nat,w < L+1∧x=.int w:=by
      unfold rngI at hx
      obtain ⟨w,h2,h3⟩:=List.mem_map.mp hx
      exact ⟨w,List.mem_range.mp h2,by rw [← h3];simp⟩
    refine ⟨[some (.int M),some (.int L),some (.ref (st.length+4)),some (.int t),some (.ref (rowAt st.length m)),some (.int w)],by rw [gPut_eq];simp [Tg.put,wipeP],rfl,fun _=>?_⟩
    have i1:=intsO_ix (j:=w) h1 (by rw [covRow_len];omega)
    have i2:opIxA (.ref (rowAt st.length m)) (.int ((w:Int) - 1)) S=.ok (.int ((covRow L m).getD (if w=0 then L else w - 1) 0),S):=by
      by_cases h0:w=0
      · subst h0
        rw [if_pos rfl]
        exact intsO_ixN h1 (covRow_len L m)
      · rw [if_neg h0]
        have:=intsO_ix (j:=w - 1) h1 (by rw [covRow_len];omega)
        rwa [show ((w - 1:Nat):Int)=(w:Int) - 1 by omega] at this
    have b1:mulOk ((L:Int) - w) ((covRow L m).getD w 0)=true:=mul1k (Nat.lt_of_le_of_lt (show ((L:Int) - w).natAbs≤2000 by omega) (by decide +kernel)) (hb _)
    have b2:mulOk (w:Int) ((covRow L m).getD (if w=0 then L else w - 1) 0)=true:=mul1k (Nat.lt_of_le_of_lt (show (w:Int).natAbs≤2000 by omega) (by decide +kernel)) (hb _)
    show _=Res.ok (PV.int (((L:Int) - (w:Int)) * (covRow L m).getD w 0+(w:Int) * (covRow L m).getD (if w=0 then L else w - 1) 0),S)
    generalize (covRow L m).getD w 0=A at i1 b1
    show _=Res.ok (PV.int (((L:Int) - (w:Int)) * A+(w:Int) * (covRow L m).getD (if w=0 then L else w - 1) 0),S)
    generalize (covRow L m).getD (if w=0 then L else w - 1) 0=B at i2 b2
    have v1:eVar 1 [some (.int M),some (.int L),some (.ref (st.length+4)),some (.int t),some (.ref (rowAt st.length m)),some (.int w)] S=.ok (.int L,S):=rfl
    have v4:eVar 4 [some (.int M),some (.int L),some (.ref (st.length+4)),some (.int t),some (.ref (rowAt st.length m)),some (.int w)] S=.ok (.ref (rowAt st.length m),S):=rfl
    have v5:eVar 5 [some (.int M),some (.int L),some (.ref (st.length+4)),some (.int t),some (.ref (rowAt st.length m)),some (.int w)] S=.ok (.int w,S):=rfl
    have g1:=binG_ok v4 v5 i1
    rw [gc_int] at g1
    have s5:eBin opSub (eVar 5) (eC (.int 1)) [some (.int M),some (.int L),some (.ref (st.length+4)),some (.int t),some (.ref (rowAt st.length m)),some (.int w)] S=.ok (.int ((w:Int) - 1),S):=bin_ok v5 c_ok
    have g2:=binG_ok v4 s5 i2
    rw [gc_int] at g2
    have d1:eBin opSub (eVar 1) (eVar 5) [some (.int M),some (.int L),some (.ref (st.length+4)),some (.int t),some (.ref (rowAt st.length m)),some (.int w)] S=.ok (.int ((L:Int) - w),S):=bin_ok v1 v5
    have m1:=(bin_ok (f:=opMulA) d1 g1).trans (show opMulA (.int ((L:Int) - w)) (.int A) S=.ok (.int (((L:Int) - w) * A),S) from if_pos b1)
    have m2:=(bin_ok (f:=opMulA) v5 g2).trans (show opMulA (.int (w:Int)) (.int B) S=.ok (.int ((w:Int) * B),S) from if_pos b2)
    exact bin_ok (f:=opAdd) m1 m2
  rw [eLc_ok (g:=.nm 5) (vs:=[5]) hr rfl (by simp [rngI,LINE];omega) hv]
  have e:((rngI 0 (L+1)).filter fun _=>true).map (fun x=>match x with | .int w=>PV.int (((L:Int) - w) * (covRow L m).getD w.toNat 0+w * (covRow L m).getD (if w.toNat=0 then L else w.toNat - 1) 0) | _=>.non)=(covRow L (m+1)).map .int:=by
    rw [List.filter_eq_self.mpr (fun _ _=>rfl)]
    unfold rngI
    rw [List.map_map]
    show _=(covNext L (covRow L m)).map PV.int
    unfold covNext
    rw [List.map_map]
    apply List.map_congr_left
    intro w _
    simp only [Function.comp,Int.zero_add,Int.toNat_natCast]
  rw [e]
  rfl
theorem covSt_len (n L m:Nat):(covSt n L m).length=5+m:=by simp [covSt];omega
theorem gc_no {st st':Store} {v:PV} {i:Nat} {o u:PO} (h1:st[i]? = some o) (h2:st'[i]? = some u) (hn:u≠o) (ho:objLt st.length u=false):gc st (v,st')=(v,st'):=by
  unfold gc
  by_cases hl:(v,st').2.length=st.length
  · rw [if_pos hl]
  · rw [if_neg hl]
    by_cases hk:oldOk st.length st st'=true
    · rcases oldOk_at hk i o u h1 h2 with z | z
      · exact absurd z hn
      · rw [ho] at z;cases z
    · rw [if_neg hk]
theorem covSt_step (st:Store) (L m:Nat):(st++covSt st.length L m++[intsO (covRow L (m+1))]).set (st.length+4) (.lst (covRefs st.length m++[.ref (st.length+5+m)]))=st++covSt st.length L (m+1):=by
  rw [List.append_assoc,List.set_append_right _ _ (by omega),Nat.add_sub_cancel_left]
  unfold covSt
  rw [List.range_succ,List.map_append]
  rfl
theorem covTurn_ok {st:Store} {M L m:Nat} {a4 a5:Option PV} (hL:L≤1000) (hm:m≤1000) (hb:∀w,((covRow L m).getD w 0).natAbs < 2 ^ 1000) :
    sSeq mCovQ3 mCovQ4 [some (.int M),some (.int L),some (.ref (st.length+4)),some (.int m),a4,a5] (st++covSt st.length L m) =
      .ok (.nx,[some (.int M),some (.int L),some (.ref (st.length+4)),some (.int m),some (.ref (rowAt st.length m)),a5],st++covSt st.length L (m+1)):=by?
  have q3:mCovQ3 [some (.int M),some (.int L),some (.ref (st.length+4)),some (.int m),a4,a5] (st++covSt st.length L m)=.ok (.nx,[some (.int M),some (.int L),some (.ref (st.length+4)),some (.int m),some (.ref (rowAt st.length m)),a5],st++covSt st.length L m):=by
    have g:=binG_ok (σ:=[some (.int M),some (.int L),some (.ref (st.length+4)),some (.int m),a4,a5]) (st:=st++covSt st.length L m) (var_ok (i:=2) rfl) (un_ok (f:=unNeg) (c_ok (v:=.int 1))) (rows_last (st:=st) (L:=L) (m:=m))
    rw [gc_same rfl] at g
    exact asg_ok (i:=4) g
  rw [seq_ok q3]
  have lc:=covLc_ok (st:=st) (m:=m) (M:=M) (L:=L) (t:=m) (a5:=a5) hL hb (row_get st L (Nat.le_refl m))
  have hr:(st++covSt st.length L m++[intsO (covRow L (m+1))])[st.length+4]? = some (.lst (covRefs st.length m)):=by
    rw [List.getElem?_append_left (by rw [List.length_append,covSt_len];omega),row_at]
  have hap:mAppend (.ref (st.length+4)) [.ref (st++covSt st.length L m).length] (st++covSt st.length L m++[intsO (covRow L (m+1))])=.ok (.non,st++covSt st.length L (m+1)):=by
    have hc:(covRefs st.length m).length < LINE:=by rw [covRefs_len,LINE];omega
    unfold mAppend
    simp only [hr]
    rw [if_pos hc,show (st++covSt st.length L m).length=st.length+5+m by rw [List.length_append,covSt_len];omega,covSt_step]
  have me:=meth_ok (k:=isLst) (F:=mAppend) (σ:=[some (.int M),some (.int L),some (.ref (st.length+4)),some (.int m),some (.ref (rowAt st.length m)),a5]) (st:=st++covSt st.length L m) (var_ok (i:=2) rfl) (by simp [isLst,row_at]) (acons_ok lc anil_ok) hap
  rw [gc_no (i:=st.length+4) (row_at st L m) (row_at st L (m+1)) (by simp [covRefs]) ?_] at me
  · exact drop_ok me
  · simp only [objLt,covRefs]
    have:∀l:List PV,refsLts (st++covSt st.length L m).length (l++[.ref (st.length+5+m)])=false:=by
      intro l
      induction l with
      | nil=>simp [refsLts,refsLt,covSt_len];omega
      | cons x l ih=>rw [List.cons_append,refsLts,ih,Bool.and_false]
    exact this _
theorem cov_ok (st:Store) (m L:Nat) (hm:m≤1000) (hL:L≤1000) (hb:∀j,j < m→∀w,((covRow L j).getD w 0).natAbs < 2 ^ 1000):fnOf 6 mCov [.int m,.int L] st=.ok (.ref (st.length+4),st++covSt st.length L m):=by?
  have loop:=sFor_rng (i:=3) (m:=eVar 0) (n:=m) (x:=m) (b:=sSeq mCovQ3 mCovQ4) (G:=fun j=>st++covSt st.length L j)
    (F:=fun j=>[some (.int m),some (.int L),some (.ref (st.length+4)),if j=0 then none else some (.int ((j - 1:Nat):Int)),if j=0 then none else some (.ref (rowAt st.length (j - 1))),none]) rfl rfl (by omega) fun j hj=>by
      rw [gPut_eq]
      have:=covTurn_ok (st:=st) (M:=m) (L:=L) (m:=j) (a4:=if j=0 then none else some (.ref (rowAt st.length (j - 1)))) (a5:=none) hL (by omega) (hb j hj)
      simpa [Tg.put] using this
  refine fn_rt (σ':=[some (.int m),some (.int L),some (.ref (st.length+4)),if m=0 then none else some (.int ((m - 1:Nat):Int)),if m=0 then none else some (.ref (rowAt st.length (m - 1))),none]) ?_
  unfold mCov
  have e:start0 6 [.int m,.int L]=[some (.int m),some (.int L),none,none,none,none]:=rfl
  rw [e,seq_ok (covQ1_ok st m L hL),seq_ok (σ:=[some (.int m),some (.int L),some (.ref (st.length+4)),none,none,none]) loop]
  exact ret_ok (var_ok (i:=2) rfl)
noncomputable
def mBegQ1:EvS:=sAsg (eTup (aCons (eCall fnMin2 (aCons (eVar 0) (aCons (eVar 1) (aNil)))) (aCons (eCall (ofN 2 (fnOf 6 mCov)) (aCons (eVar 0) (aCons (eVar 1) (aNil)))) (aNil)))) (.tp [.nm 2,.nm 3])
noncomputable
def mBegLc:EvE:=eLc (iRng1 (eBin opAdd (eVar 2) (eC (.int 1)))) (.nm 5) (tYes) (eBin opMulA (eCall (ofN 2 (fnOf 4 mChoose)) (aCons (eVar 1) (aCons (eVar 5) (aNil)))) (eBinG opIxA (eBinG opIxA (eVar 3) (eBin opSub (eVar 0) (eVar 5))) (eBin opSub (eVar 1) (eVar 5)))) [5]
noncomputable
def mBegQ2:EvS:=sAsg (eBin opAdd mBegLc (eLst (aCons (eC (.int 0)) (aNil)))) (.nm 4)
noncomputable
def mBegQ3:EvS:=sRet (eLc (iZip (eVar 4) (eSl (eVar 4) (eEnd (eC (.int 1))) (eNoEnd))) (.tp [.nm 6,.nm 7]) (tYes) (eBin opSub (eVar 6) (eVar 7)) [6,7])
noncomputable
def mBeg:EvS:=sSeq mBegQ1 (sSeq mBegQ2 mBegQ3)
noncomputable
def begAt (m L k:Nat):Int:=chooseP L k * (covRow L (m - k)).getD (L - k) 0
noncomputable
def begF (m L:Nat):List Int:=(List.range (min m L+1)).map (begAt m L)
noncomputable
def begG (m L:Nat):List Int:=begF m L++[0]
noncomputable
def begP (m L:Nat):List Int:=List.zipWith (fun x y=>x - y) (begG m L) (begG m L).tail
/-- the bounds that the walk asks for -/
structure BegOk (m L:Nat):Prop where
  hm:m≤1000
  hL:L≤1000
  cov:∀j,j≤m→∀w,((covRow L j).getD w 0).natAbs < 2 ^ 1000
  cho:∀j,j≤L→(chooseP L j).natAbs < 2 ^ 1000
theorem begQ1_ok {st:Store} {m L:Nat} (B:BegOk m L):mBegQ1 [some (.int m),some (.int L),none,none,none,none,none,none] st =
    .ok (.nx,[some (.int m),some (.int L),some (.int (min m L:Nat)),some (.ref (st.length+4)),none,none,none,none],st++covSt st.length L m):=by?
  have c1:=call_ok (f:=fnMin2) (σ:=[some (.int m),some (.int L),none,none,none,none,none,none]) (st:=st) (x:=(.int (min m L:Nat),st)) (acons_ok (var_ok (i:=0) rfl) (acons_ok (var_ok (i:=1) rfl) anil_ok)) (by
    unfold fnMin2
    simp only
    congr 3
    split <;> omega)
  rw [gc_int] at c1
  have c2:=call_ok (f:=ofN 2 (fnOf 6 mCov)) (σ:=[some (.int m),some (.int L),none,none,none,none,none,none]) (st:=st) (acons_ok (var_ok (i:=0) rfl) (acons_ok (var_ok (i:=1) rfl) anil_ok)) ((ofN_ok rfl).trans (cov_ok st m L B.hm B.hL fun j hj=>B.cov j (by omega)))
  have g : gc st (.ref (st.length+4),st++covSt st.length L m)=(.ref (st.length+4),st++covSt st.length L m):=by
    have hn:¬ (st++covSt st.length L m).length=st.length:=by rw [List.length_append,covSt_len];omega
    have hr:refsLt st.length (.ref (st.length+4))=false:=by simp [refsLt]
    have ho : objLt st.length (.lst (covRefs st.length m))=false:=by
      have:∀m,refsLts st.length (covRefs st.length m)=false:=by
        intro m
        induction m with
        | zero=>simp [covRefs,refsLts,refsLt]
        | succ m ih=>
          have app:∀ (l r:List PV),refsLts st.length l=false→refsLts st.length (l++r)=false:=by
            intro l r
            induction l with
            | nil=>intro h;simp [refsLts] at h
            | cons x l ih=>
              intro h
              rw [refsLts] at h
              rw [List.cons_append,refsLts]
              cases hx:refsLt st.length x with
              | false=>rfl
              | true=>rw [hx,Bool.true_and] at h;rw [ih h];rfl
          exact app _ _ ih
      exact this m
    unfold gc
    rw [if_neg hn,if_pos (oldOk_self _ _ _),if_neg (by rw [hr];decide)]
    simp only [row_at]
    rw [if_neg (by rw [ho];decide)]
  rw [g] at c2
  have t:=tup_ok (acons_ok c1 (acons_ok c2 anil_ok))
  exact asgT2_ok t
theorem begLc_ok {st:Store} {m L:Nat} (B:BegOk m L):mBegLc [some (.int m),some (.int L),some (.int (min m L:Nat)),some (.ref (st.length+4)),none,none,none,none] (st++covSt st.length L m) =
    .ok (.ref (st++covSt st.length L m).length,st++covSt st.length L m++[intsO (begF m L)]):=by?
  have hB:=B.hm
  have hB2:=B.hL
  have hr:iRng1 (eBin opAdd (eVar 2) (eC (.int 1))) [some (.int m),some (.int L),some (.int (min m L:Nat)),some (.ref (st.length+4)),none,none,none,none] (st++covSt st.length L m)=.ok ((rngI 0 (min m L+1),[]),st++covSt st.length L m):=
    iRng1_ok (x:=((min m L:Nat):Int)+1) (addI_ok (var_ok (i:=2) rfl) c_ok) (by omega) (by omega)
  have hv:∀x∈rngI 0 (min m L+1),∃σx,gPut (.nm 5) x (wipeP [some (.int m),some (.int L),some (.int (min m L:Nat)),some (.ref (st.length+4)),none,none,none,none] [5])=.ok σx∧tYes σx (st++covSt st.length L m)=.ok ((fun _=>true) x,st++covSt st.length L m)∧((fun _=>true) x=true →
      eBin opMulA (eCall (ofN 2 (fnOf 4 mChoose)) (aCons (eVar 1) (aCons (eVar 5) (aNil)))) (eBinG opIxA (eBinG opIxA (eVar 3) (eBin opSub (eVar 0) (eVar 5))) (eBin opSub (eVar 1) (eVar 5))) σx (st++covSt st.length L m)
        = .ok ((fun x=>match x with | .int w=>.int (begAt m L w.toNat) | _=>.non) x,st++covSt st.length L m)):=by
    intro x hx
    obtain ⟨w,hw,rfl⟩:∃w:Nat,w < min m L+1∧x=.int w:=by
      unfold rngI at hx
      obtain ⟨w,h2,h3⟩:=List.mem_map.mp hx
      exact ⟨w,List.mem_range.mp h2,by rw [← h3];simp⟩
    refine ⟨[some (.int m),some (.int L),some (.int (min m L:Nat)),some (.ref (st.length+4)),none,some (.int w),none,none],by rw [gPut_eq];simp [Tg.put,wipeP],rfl,fun _=>?_⟩
    have i1:=rows_ix (st:=st) (L:=L) (m:=m) (j:=m - w) (by omega)
    rw [show ((m - w:Nat):Int)=(m:Int) - w by omega] at i1
    have i2:=intsO_ix (j:=L - w) (row_get st L (m:=m) (j:=m - w) (by omega)) (by rw [covRow_len];omega)
    rw [show ((L - w:Nat):Int)=(L:Int) - w by omega] at i2
    have ch:=choose_ok L w (st++covSt st.length L m) (by omega) (by omega) (fun j hj=>B.cho j (by omega))
    have b:=mul1k (B.cho w (by omega)) (B.cov (m - w) (by omega) (L - w))
    show _=Res.ok (PV.int (chooseP L w * (covRow L (m - w)).getD (L - w) 0),st++covSt st.length L m)
    generalize (covRow L (m - w)).getD (L - w) 0=A at i2 b
    have c1:=call_ok (f:=ofN 2 (fnOf 4 mChoose)) (σ:=[some (.int m),some (.int L),some (.int (min m L:Nat)),some (.ref (st.length+4)),none,some (.int w),none,none]) (st:=st++covSt st.length L m) (acons_ok (var_ok (i:=1) rfl) (acons_ok (var_ok (i:=5) rfl) anil_ok)) ((ofN_ok rfl).trans ch)
    rw [gc_int] at c1
    have g1:=binG_ok (f:=opIxA) (σ:=[some (.int m),some (.int L),some (.int (min m L:Nat)),some (.ref (st.length+4)),none,some (.int w),none,none]) (st:=st++covSt st.length L m) (var_ok (i:=3) rfl) (subI_ok (var_ok (i:=0) rfl) (var_ok (i:=5) rfl)) i1
    rw [gc_same rfl] at g1
    have g2:=binG_ok (f:=opIxA) g1 (subI_ok (var_ok (i:=1) rfl) (var_ok (i:=5) rfl)) i2
    rw [gc_int] at g2
    exact (bin_ok (f:=opMulA) c1 g2).trans (if_pos b)
  unfold mBegLc
  rw [eLc_ok (g:=.nm 5) (vs:=[5]) hr rfl (by simp [rngI,LINE];omega) hv]
  have e:((rngI 0 (min m L+1)).filter fun _=>true).map (fun x=>match x with | .int w=>PV.int (begAt m L w.toNat) | _=>.non)=(begF m L).map .int:=by
    rw [List.filter_eq_self.mpr (fun _ _=>rfl)]
    unfold rngI begF
    rw [List.map_map,List.map_map]
    apply List.map_congr_left
    intro w _
    simp only [Function.comp,Int.zero_add,Int.toNat_natCast]
  rw [e]
  rfl
theorem begQ2_ok {st:Store} {m L:Nat} (B:BegOk m L):∃t:Store,t.length=8+m∧(st++t)[st.length+(7+m)]? = some (intsO (begG m L)) ∧
    mBegQ2 [some (.int m),some (.int L),some (.int (min m L:Nat)),some (.ref (st.length+4)),none,none,none,none] (st++covSt st.length L m) =
      .ok (.nx,[some (.int m),some (.int L),some (.int (min m L:Nat)),some (.ref (st.length+4)),some (.ref (st.length+(7+m))),none,none,none],st++t):=by?
  have hm:=B.hm
  have e1:=begLc_ok (st:=st) B
  have l0:(st++covSt st.length L m).length=st.length+(5+m):=by rw [List.length_append,covSt_len]
  have e2:=lst_ok (σ:=[some (.int m),some (.int L),some (.int (min m L:Nat)),some (.ref (st.length+4)),none,none,none,none]) (st:=st++covSt st.length L m++[intsO (begF m L)]) (acons_ok (c_ok (v:=.int 0)) anil_ok)
  have e3:=bin_ok (f:=opAdd) e1 e2
  refine ⟨covSt st.length L m++[intsO (begF m L),intsO [0],intsO (begG m L)],by simp [covSt_len];omega,?_,?_⟩
  · rw [get_app,List.getElem?_append_right (by rw [covSt_len];omega),covSt_len,show 7+m - (5+m)=2 by omega]
    rfl
  have hlen:(st++covSt st.length L m++[intsO (begF m L)]).length=st.length+(6+m):=by rw [List.length_append,l0];simp;omega
  have hA:(st++covSt st.length L m++[intsO (begF m L)]++[PO.lst [.int 0]])[st.length+(5+m)]? = some (intsO (begF m L)):=by
    rw [List.append_assoc (st++covSt st.length L m),← l0,List.getElem?_append_right (Nat.le_refl _),Nat.sub_self]
    rfl
  have hB:(st++covSt st.length L m++[intsO (begF m L)]++[PO.lst [.int 0]])[st.length+(6+m)]? = some (intsO [0]):=by
    rw [← hlen,List.getElem?_append_right (Nat.le_refl _),Nat.sub_self]
    rfl
  have fl:(begF m L).length=min m L+1:=by simp [begF]
  have ad:opAdd (.ref (st.length+(5+m))) (.ref (st.length+(6+m))) (st++covSt st.length L m++[intsO (begF m L)]++[PO.lst [.int 0]])=.ok (.ref (st.length+(7+m)),st++(covSt st.length L m++[intsO (begF m L),intsO [0],intsO (begG m L)])):=by
    have q:=addL_ok (a:=(begF m L).map .int) (b:=[.int 0]) hA hB (by simp only [List.length_map,fl,List.length_cons,List.length_nil,LINE];omega)
    have hl:(st++covSt st.length L m++[intsO (begF m L)]++[PO.lst [.int 0]]).length=st.length+(7+m):=by simp [covSt_len];omega
    rw [q,hl]
    simp [begG,intsO]
  rw [l0,hlen,ad] at e3
  exact asg_ok (i:=4) e3
theorem objLt_ints (n:Nat) (l:List Int):objLt n (intsO l)=true:=refsLts_ints n l
theorem cut_tail {α:Type} (xs:List α):cutP xs (some 1) none=xs.tail:=by
  cases xs with
  | nil=>rfl
  | cons x r=>
    unfold cutP
    simp [sIxP]
theorem zipP_ints:∀a b:List Int,zipP (a.map .int) (b.map .int)=(a.zip b).map fun p=>.tup [.int p.1,.int p.2]
  | [],_=>by simp [zipP]
  | _::_,[]=>by simp [zipP]
  | x::a,y::b=>by simp [zipP,zipP_ints a b]
theorem zipWith_sub:∀a b:List Int,List.zipWith (fun x y=>x - y) a b=(a.zip b).map fun p=>p.1 - p.2
  | [],_=>by simp
  | _::_,[]=>by simp
  | x::a,y::b=>by simp [zipWith_sub a b]
theorem items_lst {st:Store} {i:Nat} {xs:List PV} (h:st[i]? = some (.lst xs)):itemsOf (.ref i) st=.ok (xs,[(i,.lst xs)]):=by
  unfold itemsOf
  simp only [h]
noncomputable
def subPair:PV→PV
  | .tup [.int a,.int b]=>.int (a - b)
  | _=>.non
theorem begQ3_ok {S:Store} {i:Nat} {l:List Int} {a0 a1 a2 a3:Option PV} (h:S[i]? = some (intsO l)) (hl:l.length≤2000) :
    mBegQ3 [a0,a1,a2,a3,some (.ref i),none,none,none] S=.ok (.rt (.ref (S.length+1)),[a0,a1,a2,a3,some (.ref i),none,none,none],S++[intsO l.tail]++[intsO (List.zipWith (fun x y=>x - y) l l.tail)]):=by?
  have sl:eSl (eVar 4) (eEnd (eC (.int 1))) (eNoEnd) [a0,a1,a2,a3,some (.ref i),none,none,none] S=.ok (.ref S.length,S++[intsO l.tail]):=by
    have o:opSl (.ref i) (some 1) none S=.ok (.ref S.length,S++[intsO l.tail]):=by
      unfold opSl
      simp only [h,intsO]
      rw [cut_tail,List.map_tail]
    unfold eSl eEnd eNoEnd eVar eC
    simp only [List.getElem?_cons_succ,List.getElem?_cons_zero,bind_ok]
    rw [o,gcR_bind,gc_new (st:=S) (t:=[intsO l.tail]) (o:=intsO l.tail) (i:=S.length) (by simp) (Nat.le_refl _) (objLt_ints _ _)]
  have g1:(S++[intsO l.tail])[i]? = some (intsO l):=by rw [List.getElem?_append_left (List.getElem?_eq_some_iff.mp h).1];exact h
  have g2:(S++[intsO l.tail])[S.length]? = some (intsO l.tail):=by simp
  have it:iZip (eVar 4) (eSl (eVar 4) (eEnd (eC (.int 1))) (eNoEnd)) [a0,a1,a2,a3,some (.ref i),none,none,none] S =
      .ok ((zipP (l.map .int) (l.tail.map .int),[(i,intsO l),(S.length,intsO l.tail)]),S++[intsO l.tail]):=by
    unfold iZip
    rw [var_ok (i:=4) (v:=.ref i) rfl]
    simp only [bind_ok]
    rw [sl]
    simp only [bind_ok]
    rw [items_lst (xs:=l.map .int) g1,bind_ok,items_lst (xs:=l.tail.map .int) g2,bind_ok]
    rfl
  have gd:gdOk [(i,intsO l),(S.length,intsO l.tail)] (S++[intsO l.tail])=true:=by
    unfold gdOk
    rw [List.all_cons,List.all_cons,List.all_nil,Bool.and_true,decide_eq_true g1,decide_eq_true g2]
    rfl
  have lc:=eLc_ok (σ:=[a0,a1,a2,a3,some (.ref i),none,none,none]) (g:=.tp [.nm 6,.nm 7]) (t:=tYes) (e:=eBin opSub (eVar 6) (eVar 7)) (vs:=[6,7]) (c:=fun _=>true) (v:=subPair) it gd (by rw [zipP_ints,List.length_map,List.length_zip];exact Nat.le_trans (Nat.min_le_left _ _) (Nat.le_trans hl (by decide))) fun x hx=>by
      rw [zipP_ints] at hx
      obtain ⟨p,_,rfl⟩:=List.mem_map.mp hx
      refine ⟨[a0,a1,a2,a3,some (.ref i),none,some (.int p.1),some (.int p.2)],by rw [gPut_eq];rfl,rfl,fun _=>subI_ok (var_ok (i:=6) rfl) (var_ok (i:=7) rfl)⟩
  have e:((zipP (l.map .int) (l.tail.map .int)).filter fun _=>true).map subPair=(List.zipWith (fun x y=>x - y) l l.tail).map .int:=by
    rw [List.filter_eq_self.mpr (fun _ _=>rfl),zipP_ints,zipWith_sub,List.map_map,List.map_map]
    rfl
  rw [e] at lc
  have r:=ret_ok lc
  unfold mBegQ3
  rw [r]
  simp [intsO]
theorem beg_ok (st:Store) {m L:Nat} (B:BegOk m L):∃t:Store,fnOf 8 mBeg [.int m,.int L] st=.ok (.ref (st.length+t.length),st++(t++[intsO (begP m L)])):=by?
  obtain ⟨t,ht,hg,h2⟩:=begQ2_ok (st:=st) B
  have hl:(begG m L).length≤2000:=by
    have:=B.hm
    simp [begG,begF];omega
  have h3:=begQ3_ok (a0:=some (.int m)) (a1:=some (.int L)) (a2:=some (.int (min m L:Nat))) (a3:=some (.ref (st.length+4))) hg hl
  refine ⟨t++[intsO (begG m L).tail],?_⟩
  have e:start0 8 [.int m,.int L]=[some (.int m),some (.int L),none,none,none,none,none,none]:=rfl
  have r:mBeg (start0 8 [.int m,.int L]) st=.ok (.rt (.ref ((st++t).length+1)),[some (.int m),some (.int L),some (.int (min m L:Nat)),some (.ref (st.length+4)),some (.ref (st.length+(7+m))),none,none,none],st++t++[intsO (begG m L).tail]++[intsO (List.zipWith (fun x y=>x - y) (begG m L) (begG m L).tail)]):=by
    unfold mBeg
    rw [e,seq_ok (begQ1_ok B),seq_ok h2]
    exact h3
  rw [fn_rt r]
  simp [begP,Nat.add_assoc]
/-- beginnings(length,letters),called -/
theorem begCall_ok {σ:Slots} {st:Store} {a:EvA} {m L:Nat} (B:BegOk m L) (ha:a σ st=.ok ([.int m,.int L],st)):eCall (ofN 2 (fnOf 8 mBeg)) a σ st=.ok (.ref st.length,st++[intsO (begP m L)]):=by
  obtain ⟨t,h⟩:=beg_ok st B
  rw [call_ok ha ((ofN_ok (n:=2) rfl).trans h),gc_new (st:=st) (o:=intsO (begP m L)) (t:=t++[intsO (begP m L)]) (i:=st.length+t.length) (by rw [get_app,List.getElem?_append_right (Nat.le_refl _),Nat.sub_self];rfl) (by omega) (objLt_ints _ _)]
noncomputable
abbrev DI:=List (Int×Int)
noncomputable
def toP (D:DI):List (PV×PV):=D.map fun q=>(.int q.1,.int q.2)
noncomputable
def dput (D:DI) (k v:Int):DI:=if (D.any fun q=>decide (q.1=k))=true then D.map (fun q=>if q.1=k then (q.1,v) else q) else D++[(k,v)]
noncomputable
def dget (D:DI) (k:Int):Int:=((D.find? fun q=>decide (q.1=k)).map (·.2)).getD 0
noncomputable
def dadd (D:DI) (u:Int×Int):DI:=dput D u.1 (dget D u.1+u.2)
theorem pvint_dec (a b:Int):decide (PV.int a=PV.int b)=decide (a=b):=by
  by_cases h:a=b
  · subst h;simp
  · simp [h]
theorem toP_put (D:DI) (k v:Int):dictPut (toP D) (.int k) (.int v)=toP (dput D k v):=by?
  have e:((toP D).any fun q=>decide (q.1=.int k))=(D.any fun q=>decide (q.1=k)):=by
    unfold toP
    rw [List.any_map]
    congr 1
    funext q
    exact pvint_dec _ _
  unfold dictPut dput
  rw [e]
  split
  · unfold toP
    rw [List.map_map,List.map_map]
    apply List.map_congr_left
    intro q _
    simp only [Function.comp]
    by_cases h:q.1=k
    · subst h;simp
    · simp [h]
  · simp [toP]
theorem toP_get (D:DI) (k:Int):(dGet (toP D) (.int k)).getD (.int 0)=.int (dget D k):=by
  unfold dGet dget toP
  rw [List.find?_map]
  have e:(((fun q:PV×PV=>decide (q.1=PV.int k)) ∘ fun q:Int×Int=>(PV.int q.1,PV.int q.2)):Int×Int→Bool)=fun q=>decide (q.1=k):=by
    funext q
    exact pvint_dec _ _
  rw [e]
  cases D.find? fun q=>decide (q.1=k) with
  | none=>rfl
  | some q=>rfl
theorem dput_len (D:DI) (k v:Int):(dput D k v).length≤D.length+1:=by
  unfold dput
  split
  · simp
  · simp
noncomputable
def mTabQ1:EvS:=sIf (tVal (eBinG opEq (eVar 1) (eC (.int 0)))) (sRet (eDisp (pCons (eVar 0) (eC (.int 1)) (pNil)))) (sNil)
noncomputable
def mTabQ5:EvS:=sAsg (eCall (ofN 2 (fnOf 8 mBeg)) (aCons (eVar 1) (aCons (eVar 3) (aNil)))) (.nm 4)
noncomputable
def mTabQ7:EvS:=sAsg (eCall (ofN 2 (fnOf 4 mChoose)) (aCons (eBin opSub (eVar 5) (eC (.int 1))) (aCons (eBin opSub (eVar 3) (eC (.int 1))) (aNil)))) (.nm 6)
noncomputable
def mTabQ9:EvS:=sAsg (eBin opSub (eBin opAdd (eBin opAdd (eBin opSub (eVar 1) (eVar 7)) (eVar 0)) (eVar 5)) (eBin opMulA (eC (.int 2)) (eVar 3))) (.nm 8)
noncomputable
def mTabQ10:EvS:=sSub (eVar 2) (eVar 8) (eBin opAdd (eMeth isDic mGet (eVar 2) (aCons (eVar 8) (aCons (eC (.int 0)) (aNil)))) (eBin opMulA (eVar 6) (eBinG opIxA (eVar 4) (eVar 7))))
noncomputable
def mTabQ8:EvS:=sFor (iRng2 (eC (.int 1)) (eBin opAdd (eVar 3) (eC (.int 1)))) (.nm 7) (sSeq mTabQ9 mTabQ10)
noncomputable
def mTabQ6:EvS:=sFor (iRng2 (eVar 3) (eBin opAdd (eVar 0) (eC (.int 1)))) (.nm 5) (sSeq mTabQ7 mTabQ8)
noncomputable
def mTabQ4:EvS:=sFor (iRng2 (eC (.int 1)) (eBin opAdd (eCall fnMin2 (aCons (eVar 0) (aCons (eVar 1) (aNil)))) (eC (.int 1)))) (.nm 3) (sSeq mTabQ5 mTabQ6)
noncomputable
def mTabQ11:EvS:=sRet (eDc (iItems (eVar 2)) (.tp [.nm 8,.nm 9]) (tVal (eBinG opGt (eVar 9) (eC (.int 0)))) (eVar 8) (eVar 9) [8,9])
noncomputable
def mTab:EvS:=sSeq mTabQ1 (sSeq (sAsg (eDic0) (.nm 2)) (sSeq mTabQ4 mTabQ11))
noncomputable
def number (c l letters top kept:Nat):Int:=(l:Int) - kept+c+top - 2 * letters
/-- what is added,in order -/
noncomputable
def usKept (c l letters top:Nat):List (Int×Int):=(List.range letters).map fun i=>(number c l letters top (i+1),chooseP ((top:Int) - 1) (letters - 1) * (begP l letters).getD (i+1) 0)
noncomputable
def usTop (c l letters:Nat):List (Int×Int):=(List.range (c+1 - letters)).flatMap fun j=>usKept c l letters (letters+j)
noncomputable
def us (c l:Nat):List (Int×Int):=(List.range (min c l)).flatMap fun i=>usTop c l (i+1)
structure TabOk (c l:Nat):Prop where
  hc:c≤40
  hl:l≤40
  beg:∀L,1≤L→L≤min c l→BegOk l L
  bnd:∀L,1≤L→L≤min c l→∀k,((begP l L).getD k 0).natAbs < 2 ^ 1000
  cho:∀t j,t≤c→j≤c→(chooseP ((t:Int) - 1) j).natAbs < 2 ^ 1000
theorem begP_len (m L:Nat):(begP m L).length=min m L+1:=by simp [begP,begG,begF,List.length_zipWith]
/-- the inmost turn -/
theorem kept_ok {st:Store} {c l L top kept:Nat} {D:DI} {R:List PO} {a8 a9:Option PV} (T:TabOk c l) (h1:1≤L) (h2:L≤min c l) (htop:top≤c) (hk:kept≤L) (hD:D.length < 1000000) {rr:Nat}
    (hr:(st++(.dic (toP D)::R))[rr]? = some (intsO (begP l L))) :
    sSeq mTabQ9 mTabQ10 [some (.int c),some (.int l),some (.ref st.length),some (.int L),some (.ref rr),some (.int top),some (.int (chooseP ((top:Int) - 1) (L - 1))),some (.int kept),a8,a9] (st++(.dic (toP D)::R)) =
      .ok (.nx,[some (.int c),some (.int l),some (.ref st.length),some (.int L),some (.ref rr),some (.int top),some (.int (chooseP ((top:Int) - 1) (L - 1))),some (.int kept),some (.int (number c l L top kept)),a9],
        st++(.dic (toP (dadd D (number c l L top kept,chooseP ((top:Int) - 1) (L - 1) * (begP l L).getD kept 0)))::R)):=by?
  have hc:=T.hc
  have hl:=T.hl
  have m2:opMulA (.int 2) (.int (L:Int)) (st++(.dic (toP D)::R))=.ok (.int (2 * (L:Int)),st++(.dic (toP D)::R)):=if_pos (mul1k (by decide +kernel) (Nat.lt_of_le_of_lt (show (L:Int).natAbs≤2000 by omega) (by decide +kernel)))
  have q9:mTabQ9 [some (.int c),some (.int l),some (.ref st.length),some (.int L),some (.ref rr),some (.int top),some (.int (chooseP ((top:Int) - 1) (L - 1))),some (.int kept),a8,a9] (st++(.dic (toP D)::R)) =
      .ok (.nx,[some (.int c),some (.int l),some (.ref st.length),some (.int L),some (.ref rr),some (.int top),some (.int (chooseP ((top:Int) - 1) (L - 1))),some (.int kept),some (.int (number c l L top kept)),a9],st++(.dic (toP D)::R)):=
    asg_ok (i:=8) (subI_ok (addI_ok (addI_ok (subI_ok (var_ok (i:=1) rfl) (var_ok (i:=7) rfl)) (var_ok (i:=0) rfl)) (var_ok (i:=5) rfl)) ((bin_ok (f:=opMulA) c_ok (var_ok (i:=3) rfl)).trans m2))
  rw [seq_ok q9]
  generalize hN:number c l L top kept=N
  generalize hC:chooseP ((top:Int) - 1) (L - 1)=C
  have hd:(st++(.dic (toP D)::R))[st.length]? = some (.dic (toP D)):=by simp
  have ix:=intsO_ix (j:=kept) hr (by rw [begP_len];omega)
  have bm:=mul1k (T.cho top (L - 1) htop (by omega)) (T.bnd L h1 h2 kept)
  rw [hC] at bm
  generalize (begP l L).getD kept 0=A at ix bm
  have v2:eVar 2 [some (.int c),some (.int l),some (.ref st.length),some (.int L),some (.ref rr),some (.int top),some (.int C),some (.int kept),some (.int N),a9] (st++(.dic (toP D)::R))=.ok (.ref st.length,st++(.dic (toP D)::R)):=rfl
  have v8:eVar 8 [some (.int c),some (.int l),some (.ref st.length),some (.int L),some (.ref rr),some (.int top),some (.int C),some (.int kept),some (.int N),a9] (st++(.dic (toP D)::R))=.ok (.int N,st++(.dic (toP D)::R)):=rfl
  have mg:mGet (.ref st.length) [.int N,.int 0] (st++(.dic (toP D)::R))=.ok (.int (dget D N),st++(.dic (toP D)::R)):=by
    unfold mGet
    simp only [hd]
    rw [toP_get]
    rfl
  have e1:=meth_ok (k:=isDic) (F:=mGet) v2 (by simp [isDic]) (acons_ok v8 (acons_ok (c_ok (v:=.int 0)) anil_ok)) mg
  rw [gc_int] at e1
  have g1:=binG_ok (f:=opIxA) (σ:=[some (.int c),some (.int l),some (.ref st.length),some (.int L),some (.ref rr),some (.int top),some (.int C),some (.int kept),some (.int N),a9]) (st:=st++(.dic (toP D)::R)) (var_ok (i:=4) rfl) (var_ok (i:=7) rfl) ix
  rw [gc_int] at g1
  have e2:=addI_ok e1 (mulI_ok (var_ok (i:=6) rfl) g1 bm)
  have sp:setP (.ref st.length) (.int N) (.int (dget D N+C * A)) (st++(.dic (toP D)::R))=.ok (st++(.dic (toP (dadd D (N,C * A)))::R)):=by
    unfold setP
    simp only [hd]
    rw [if_pos (by simp [keyB,keyOk,toP,LINE];omega)]
    show Res.ok _=_
    rw [show dPut (toP D) (.int N) (.int (dget D N+C * A))=toP (dadd D (N,C * A)) from toP_put _ _ _]
    simp
  unfold mTabQ10
  rw [sSub_eq,e2]
  simp only [bind_ok]
  rw [v2]
  simp only [bind_ok]
  rw [v8]
  simp only [bind_ok]
  rw [sp]
  rfl
theorem dadd_len (D:DI) (u:Int×Int):(dadd D u).length≤D.length+1:=dput_len _ _ _
theorem fold_len:∀ (l:List (Int×Int)) (D:DI),(l.foldl dadd D).length≤D.length+l.length
  | [],D=>by simp
  | u::l,D=>by
    have h1:=fold_len l (dadd D u)
    have h2:=dadd_len D u
    simp only [List.foldl_cons,List.length_cons]
    omega
/-- what stands in the slots while the table is made -/
noncomputable
def tabS (c l n:Nat) (L rr top:Nat) (C:Int) (a7 a8 a9:Option PV):Slots:=[some (.int c),some (.int l),some (.ref n),some (.int L),some (.ref rr),some (.int top),some (.int C),a7,a8,a9]
theorem keptLoop_ok {st:Store} {c l L top:Nat} {D:DI} {R:List PO} {a7 a8 a9:Option PV} (T:TabOk c l) (h1:1≤L) (h2:L≤min c l) (htop:top≤c) (hD:D.length+L < 1000000) {rr:Nat}
    (hr:∀D',(st++(.dic (toP D')::R))[rr]? = some (intsO (begP l L))) :
    ∃ a7' a8',mTabQ8 (tabS c l st.length L rr top (chooseP ((top:Int) - 1) (L - 1)) a7 a8 a9) (st++(.dic (toP D)::R)) =
      .ok (.nx,tabS c l st.length L rr top (chooseP ((top:Int) - 1) (L - 1)) a7' a8' a9,st++(.dic (toP ((usKept c l L top).foldl dadd D))::R)):=by?
  have hc:=T.hc
  have hr2:iRng2 (eC (.int 1)) (eBin opAdd (eVar 3) (eC (.int 1))) (tabS c l st.length L rr top (chooseP ((top:Int) - 1) (L - 1)) a7 a8 a9) (st++(.dic (toP D)::R))=.ok (((List.range L).map fun i=>.int ((1+i:Nat):Int),[]),st++(.dic (toP D)::R)):=
    iRng2_ok (x:=1) (y:=(L:Int)+1) c_ok (addI_ok (var_ok (i:=3) rfl) c_ok) (by omega) (by omega) (by omega)
  obtain ⟨σ',S',e1,e2⟩:=forLoop_foldI (g:=.nm 7) (b:=sSeq mTabQ9 mTabQ10) (item:=fun i:Nat=>PV.int ((1+i:Nat):Int)) (step:=fun (q:DI) (i:Nat)=>dadd q (number c l L top (i+1),chooseP ((top:Int) - 1) (L - 1) * (begP l L).getD (i+1) 0))
    (Rel:=fun m q σ S=>q.length≤D.length+m∧∃a7 a8,σ=tabS c l st.length L rr top (chooseP ((top:Int) - 1) (L - 1)) a7 a8 a9∧S=st++(.dic (toP q)::R)) (List.range L) 0 D _ _ ⟨Nat.le_refl _,a7,a8,rfl,rfl⟩ (by
      rintro i hi m q σ S hm ⟨hq,b7,b8,rfl,rfl⟩
      have hi':=List.mem_range.mp hi
      rw [List.length_range] at hm
      have k:=kept_ok (a8:=b8) (a9:=a9) T h1 h2 htop (kept:=i+1) (by omega) (D:=q) (by omega) (hr q)
      refine ⟨tabS c l st.length L rr top (chooseP ((top:Int) - 1) (L - 1)) (some (.int ((i+1:Nat):Int))) b8 a9,?_,_,_,k,?_,_,_,rfl,rfl⟩
      · rw [gPut_eq,show 1+i=i+1 by omega];rfl
      · have:=dadd_len q (number c l L top (i+1),chooseP ((top:Int) - 1) (L - 1) * (begP l L).getD (i+1) 0)
        omega)
  obtain ⟨_,b7,b8,rfl,rfl⟩:=e2
  refine ⟨b7,b8,?_⟩
  unfold mTabQ8 sFor
  rw [hr2]
  simp only [bind_ok]
  rw [e1]
  unfold usKept
  rw [List.foldl_map]
theorem usKept_len (c l L top:Nat):(usKept c l L top).length=L:=by simp [usKept]
theorem topLoop_ok {st:Store} {c l L:Nat} {D:DI} {R:List PO} {a5 a6 a7 a8 a9:Option PV} (T:TabOk c l) (h1:1≤L) (h2:L≤min c l) (hD:D.length+100 * (c+1) < 1000000) {rr:Nat}
    (hr:∀D',(st++(.dic (toP D')::R))[rr]? = some (intsO (begP l L))) :
    ∃ a5' a6' a7' a8',mTabQ6 [some (.int c),some (.int l),some (.ref st.length),some (.int L),some (.ref rr),a5,a6,a7,a8,a9] (st++(.dic (toP D)::R)) =
      .ok (.nx,[some (.int c),some (.int l),some (.ref st.length),some (.int L),some (.ref rr),a5',a6',a7',a8',a9],st++(.dic (toP ((usTop c l L).foldl dadd D))::R)):=by?
  have hc:=T.hc
  have hL:L≤c:=Nat.le_trans h2 (Nat.min_le_left _ _)
  have hr2:iRng2 (eVar 3) (eBin opAdd (eVar 0) (eC (.int 1))) [some (.int c),some (.int l),some (.ref st.length),some (.int L),some (.ref rr),a5,a6,a7,a8,a9] (st++(.dic (toP D)::R))=.ok (((List.range (c+1 - L)).map fun i=>.int ((L+i:Nat):Int),[]),st++(.dic (toP D)::R)):=
    iRng2_ok (x:=L) (y:=(c:Int)+1) (var_ok (i:=3) rfl) (addI_ok (var_ok (i:=0) rfl) c_ok) rfl (by omega) (by omega)
  obtain ⟨σ',S',e1,e2⟩:=forLoop_foldI (g:=.nm 5) (b:=sSeq mTabQ7 mTabQ8) (item:=fun i:Nat=>PV.int ((L+i:Nat):Int)) (step:=fun (q:DI) (i:Nat)=>(usKept c l L (L+i)).foldl dadd q)
    (Rel:=fun m q σ S=>q.length≤D.length+100 * m∧∃a5 a6 a7 a8,σ=[some (.int c),some (.int l),some (.ref st.length),some (.int L),some (.ref rr),a5,a6,a7,a8,a9]∧S=st++(.dic (toP q)::R)) (List.range (c+1 - L)) 0 D _ _ ⟨Nat.le_refl _,a5,a6,a7,a8,rfl,rfl⟩ (by
      rintro i hi m q σ S hm ⟨hq,b5,b6,b7,b8,rfl,rfl⟩
      have hi':=List.mem_range.mp hi
      rw [List.length_range] at hm
      refine ⟨[some (.int c),some (.int l),some (.ref st.length),some (.int L),some (.ref rr),some (.int ((L+i:Nat):Int)),b6,b7,b8,a9],by rw [gPut_eq];rfl,?_⟩
      have ch:=choose_ok (((L+i:Nat):Int) - 1) (L - 1) (st++(.dic (toP q)::R)) (by omega) (by omega) (fun j hj=>T.cho (L+i) j (by omega) (by omega))
      have s3:eBin opSub (eVar 3) (eC (.int 1)) [some (.int c),some (.int l),some (.ref st.length),some (.int L),some (.ref rr),some (.int ((L+i:Nat):Int)),b6,b7,b8,a9] (st++(.dic (toP q)::R))=.ok (.int ((L - 1:Nat):Int),st++(.dic (toP q)::R)):=by
        rw [show ((L - 1:Nat):Int)=(L:Int) - 1 by omega]
        exact subI_ok (var_ok (i:=3) rfl) c_ok
      have c1:=call_ok (f:=ofN 2 (fnOf 4 mChoose)) (σ:=[some (.int c),some (.int l),some (.ref st.length),some (.int L),some (.ref rr),some (.int ((L+i:Nat):Int)),b6,b7,b8,a9]) (st:=st++(.dic (toP q)::R)) (acons_ok (subI_ok (var_ok (i:=5) rfl) c_ok) (acons_ok s3 anil_ok)) ((ofN_ok (n:=2) rfl).trans ch)
      rw [gc_int] at c1
      have q7:=asg_ok (i:=6) c1
      obtain ⟨a7',a8',k⟩:=keptLoop_ok (a7:=b7) (a8:=b8) (a9:=a9) T h1 h2 (top:=L+i) (by omega) (D:=q) (by omega) hr
      refine ⟨_,_,(seq_ok q7).trans k,?_,_,_,_,_,rfl,rfl⟩
      have:=fold_len (usKept c l L (L+i)) q
      rw [usKept_len] at this
      omega)
  obtain ⟨_,b5,b6,b7,b8,rfl,rfl⟩:=e2
  refine ⟨b5,b6,b7,b8,?_⟩
  unfold mTabQ6 sFor
  rw [hr2]
  simp only [bind_ok]
  rw [e1]
  unfold usTop
  rw [List.foldl_flatMap]
theorem usTop_len (c l L:Nat):(usTop c l L).length≤(c+1) * L:=by?
  unfold usTop
  rw [List.length_flatMap]
  have:∀r:List Nat,(r.map fun j=>(usKept c l L (L+j)).length).sum=r.length * L:=by
    intro r
    induction r with
    | nil=>simp
    | cons x r ih=>rw [List.map_cons,List.sum_cons,ih,usKept_len,List.length_cons,Nat.succ_mul,Nat.add_comm]
  rw [this,List.length_range]
  exact Nat.mul_le_mul_right _ (by omega)
theorem letLoop_ok {st:Store} {c l:Nat} (T:TabOk c l) :
    ∃ (t:List (Option PV)) (R:List PO),t.length=7∧mTabQ4 [some (.int c),some (.int l),some (.ref st.length),none,none,none,none,none,none,none] (st++[.dic []]) =
      .ok (.nx,some (.int c)::some (.int l)::some (.ref st.length)::t,st++(.dic (toP ((us c l).foldl dadd []))::R)):=by?
  have hc:=T.hc
  have hl:=T.hl
  have c1:=call_ok (f:=fnMin2) (σ:=[some (.int c),some (.int l),some (.ref st.length),none,none,none,none,none,none,none]) (st:=st++[.dic []]) (x:=(.int (min c l:Nat),st++[.dic []])) (acons_ok (var_ok (i:=0) rfl) (acons_ok (var_ok (i:=1) rfl) anil_ok)) (by
    unfold fnMin2
    simp only
    congr 3
    split <;> omega)
  rw [gc_int] at c1
  have hr2:iRng2 (eC (.int 1)) (eBin opAdd (eCall fnMin2 (aCons (eVar 0) (aCons (eVar 1) (aNil)))) (eC (.int 1))) [some (.int c),some (.int l),some (.ref st.length),none,none,none,none,none,none,none] (st++[.dic []])=.ok (((List.range (min c l)).map fun i=>.int ((1+i:Nat):Int),[]),st++[.dic []]):=
    iRng2_ok (x:=1) (y:=((min c l:Nat):Int)+1) c_ok (addI_ok c1 c_ok) rfl (by omega) (by omega)
  obtain ⟨σ',S',e1,e2⟩:=forLoop_foldI (g:=.nm 3) (b:=sSeq mTabQ5 mTabQ6) (item:=fun i:Nat=>PV.int ((1+i:Nat):Int)) (step:=fun (q:DI) (i:Nat)=>(usTop c l (i+1)).foldl dadd q)
    (Rel:=fun m q σ S=>q.length≤2000 * m∧∃a3 a4 a5 a6 a7 a8 R,σ=[some (.int c),some (.int l),some (.ref st.length),a3,a4,a5,a6,a7,a8,none]∧R.length=m∧S=st++(.dic (toP q)::R)) (List.range (min c l)) 0 [] [some (.int c),some (.int l),some (.ref st.length),none,none,none,none,none,none,none] (st++[.dic []]) ⟨by simp,none,none,none,none,none,none,[],rfl,rfl,rfl⟩ (by
      rintro i hi m q σ S hm ⟨hq,b3,b4,b5,b6,b7,b8,R,rfl,hR,rfl⟩
      have hi':=List.mem_range.mp hi
      rw [List.length_range] at hm
      refine ⟨[some (.int c),some (.int l),some (.ref st.length),some (.int ((i+1:Nat):Int)),b4,b5,b6,b7,b8,none],by rw [gPut_eq,show 1+i=i+1 by omega];rfl,?_⟩
      have bc:=begCall_ok (σ:=[some (.int c),some (.int l),some (.ref st.length),some (.int ((i+1:Nat):Int)),b4,b5,b6,b7,b8,none]) (st:=st++(.dic (toP q)::R)) (a:=aCons (eVar 1) (aCons (eVar 3) aNil)) (m:=l) (L:=i+1) (T.beg (i+1) (by omega) (by omega)) (acons_ok (var_ok (i:=1) rfl) (acons_ok (var_ok (i:=3) rfl) anil_ok))
      have q5:=asg_ok (i:=4) bc
      have hS:st++(.dic (toP q)::R)++[intsO (begP l (i+1))]=st++(.dic (toP q)::(R++[intsO (begP l (i+1))])):=by simp
      have hn:(st++(.dic (toP q)::R)).length=st.length+(1+m):=by simp [hR];omega
      rw [hS,hn] at q5
      obtain ⟨a5,a6,a7,a8,k⟩:=topLoop_ok (st:=st) (a5:=b5) (a6:=b6) (a7:=b7) (a8:=b8) (a9:=none) T (L:=i+1) (by omega) (by omega) (D:=q) (R:=R++[intsO (begP l (i+1))]) (rr:=st.length+(1+m)) (by omega) (fun D'=>by
        rw [get_app,show 1+m=m+1 by omega,List.getElem?_cons_succ,List.getElem?_append_right (by omega),hR,Nat.sub_self]
        rfl)
      refine ⟨_,_,(seq_ok q5).trans k,?_,_,_,_,_,_,_,R++[intsO (begP l (i+1))],rfl,by simp [hR],rfl⟩
      have h1:=fold_len (usTop c l (i+1)) q
      have h2:=usTop_len c l (i+1)
      have h3:(c+1) * (i+1)≤41 * 41:=Nat.mul_le_mul (by omega) (by omega)
      omega)
  obtain ⟨_,b3,b4,b5,b6,b7,b8,R,rfl,_,rfl⟩:=e2
  refine ⟨[b3,b4,b5,b6,b7,b8,none],R,rfl,?_⟩
  unfold mTabQ4 sFor
  rw [hr2]
  simp only [bind_ok]
  rw [e1]
  unfold us
  rw [List.foldl_flatMap]
noncomputable
def posD (D:DI):DI:=(D.filter fun q=>decide (q.2 > 0)).foldl (fun acc q=>dput acc q.1 q.2) []
theorem dcPos (σ:Slots) (st:Store) (a b c d e f g h:Option PV):∀ (D acc:DI),acc.length+D.length≤1000000 →
    dcLoop (.tp [.nm 8,.nm 9]) (tVal (eBinG opGt (eVar 9) (eC (.int 0)))) (eVar 8) (eVar 9) [a,b,c,d,e,f,g,h,none,none] [] (D.map fun q=>PV.tup [.int q.1,.int q.2]) (toP acc) st
      = .ok (toP ((D.filter fun q=>decide (q.2 > 0)).foldl (fun acc q=>dput acc q.1 q.2) acc),st)
  | [],acc,_=>rfl
  | q :: D,acc,hl=>by
    rw [List.length_cons] at hl
    have p:gPut (.tp [.nm 8,.nm 9]) (.tup [.int q.1,.int q.2]) [a,b,c,d,e,f,g,h,none,none]=.ok [a,b,c,d,e,f,g,h,some (.int q.1),some (.int q.2)]:=by rw [gPut_eq];rfl
    have t:tVal (eBinG opGt (eVar 9) (eC (.int 0))) [a,b,c,d,e,f,g,h,some (.int q.1),some (.int q.2)] st=.ok (decide (0 < q.2),st):=by
      have:=binG_ok (f:=opGt) (σ:=[a,b,c,d,e,f,g,h,some (.int q.1),some (.int q.2)]) (st:=st) (x:=(.bl (decide (0 < q.2)),st)) (var_ok (i:=9) rfl) (c_ok (v:=.int 0)) rfl
      rw [gc_bl] at this
      exact val_ok this
    simp only [List.map_cons,dcLoop,gdOk_nil,if_true,p,bind_ok,t]
    by_cases hq:0 < q.2
    · have k:(keyOk (.int q.1) && decide ((toP acc).length < LINE))=true:=by
        simp [keyOk,toP,LINE];omega
      rw [List.filter_cons_of_pos (by simpa using hq),List.foldl_cons]
      simp only [decide_eq_true hq,if_true]
      rw [var_ok (i:=8) (v:=.int q.1) rfl]
      simp only [bind_ok,force_eq]
      rw [var_ok (i:=9) (v:=.int q.2) rfl]
      simp only [bind_ok,force_eq]
      rw [toP_put,if_pos k]
      exact dcPos σ st a b c d e f g h D (dput acc q.1 q.2) (by have:=dput_len acc q.1 q.2;omega)
    · rw [List.filter_cons_of_neg (by simpa using hq)]
      simp only [decide_eq_false hq,Bool.false_eq_true,if_false]
      exact dcPos σ st a b c d e f g h D acc (by omega)
theorem q11_ok {st:Store} {c l:Nat} {t:List (Option PV)} {D:DI} {R:List PO} (ht:t.length=7) (hD:D.length≤1000000) :
    ∃S,mTabQ11 (some (.int c)::some (.int l)::some (.ref st.length)::t) (st++(.dic (toP D)::R))=.ok (.rt (.ref (st.length+(1+R.length))),some (.int c)::some (.int l)::some (.ref st.length)::t,st++(S++[.dic (toP (posD D))]))∧S.length=1+R.length:=by?
  match t,ht with
  | [x3,x4,x5,x6,x7,x8,x9],_=>
    have hd:(st++(.dic (toP D)::R))[st.length]? = some (.dic (toP D)):=by simp
    have it:iItems (eVar 2) [some (.int c),some (.int l),some (.ref st.length),x3,x4,x5,x6,x7,x8,x9] (st++(.dic (toP D)::R))=.ok ((D.map (fun q=>PV.tup [.int q.1,.int q.2]),[]),st++(.dead::R)):=by
      unfold iItems
      rw [var_ok (i:=2) (v:=.ref st.length) rfl]
      simp only [bind_ok,iItems.st0,hd]
      simp [toP]
    refine ⟨.dead::R,?_,by simp;omega⟩
    have dc:=dcPos [] (st++(.dead::R)) (some (.int c)) (some (.int l)) (some (.ref st.length)) x3 x4 x5 x6 x7 D [] (by simpa using hD)
    have e:eDc (iItems (eVar 2)) (.tp [.nm 8,.nm 9]) (tVal (eBinG opGt (eVar 9) (eC (.int 0)))) (eVar 8) (eVar 9) [8,9] [some (.int c),some (.int l),some (.ref st.length),x3,x4,x5,x6,x7,x8,x9] (st++(.dic (toP D)::R))=.ok (.ref (st++(.dead::R)).length,st++(.dead::R)++[.dic (toP (posD D))]):=by
      unfold eDc
      rw [it]
      simp only [bind_ok]
      have w:wipeP [some (.int c),some (.int l),some (.ref st.length),x3,x4,x5,x6,x7,x8,x9] [8,9]=[some (.int c),some (.int l),some (.ref st.length),x3,x4,x5,x6,x7,none,none]:=rfl
      rw [w]
      rw [show ([]:List (PV×PV))=toP [] from rfl,dc]
      rfl
    have r:=ret_ok e
    unfold mTabQ11
    rw [r]
    simp
    omega
noncomputable
def tblP (c l:Nat):DI:=if l=0 then [((c:Int),1)] else posD ((us c l).foldl dadd [])
theorem us_len {c l:Nat} (T:TabOk c l):(us c l).length≤100000:=by?
  have hc:=T.hc
  have hl:=T.hl
  unfold us
  rw [List.length_flatMap]
  have:∀r:List Nat,(∀i∈r,i < 40)→(r.map fun i=>(usTop c l (i+1)).length).sum≤r.length * 2000:=by
    intro r
    induction r with
    | nil=>simp
    | cons x r ih=>
      intro h
      have h2:=usTop_len c l (x+1)
      have h3:(c+1) * (x+1)≤41 * 40:=Nat.mul_le_mul (by omega) (by have:=h x List.mem_cons_self;omega)
      have:=ih fun i hi=>h i (List.mem_cons_of_mem _ hi)
      rw [List.map_cons,List.sum_cons,List.length_cons]
      omega
  have q:=this (List.range (min c l)) fun i hi=>by have:=List.mem_range.mp hi;omega
  rw [List.length_range] at q
  omega
/-- table(count,length) -/
theorem tab_ok (st:Store) {c l:Nat} (T:TabOk c l):∃S:Store,fnOf 10 mTab [.int c,.int l] st=.ok (.ref (st.length+S.length),st++(S++[.dic (toP (tblP c l))])):=by?
  have e:start0 10 [.int c,.int l]=[some (.int c),some (.int l),none,none,none,none,none,none,none,none]:=rfl
  have t1:tVal (eBinG opEq (eVar 1) (eC (.int 0))) [some (.int c),some (.int l),none,none,none,none,none,none,none,none] st=.ok (decide ((l:Int)=0),st):=by
    have:=binG_ok (f:=opEq) (σ:=[some (.int c),some (.int l),none,none,none,none,none,none,none,none]) (st:=st) (x:=(.bl (decide ((l:Int)=0)),st)) (var_ok (i:=1) rfl) (c_ok (v:=.int 0)) rfl
    rw [gc_bl] at this
    exact val_ok this
  by_cases h0:l=0
  · refine ⟨[],?_⟩
    have q1:mTabQ1 [some (.int c),some (.int l),none,none,none,none,none,none,none,none] st=.ok (.rt (.ref st.length),[some (.int c),some (.int l),none,none,none,none,none,none,none,none],st++[.dic [(.int c,.int 1)]]):=by
      unfold mTabQ1
      rw [if_ok t1,decide_eq_true (by omega)]
      rfl
    rw [fn_rt (by rw [e];unfold mTab;rw [seq_rt q1])]
    simp [tblP,h0,toP]
  · have q1:mTabQ1 [some (.int c),some (.int l),none,none,none,none,none,none,none,none] st=.ok (.nx,[some (.int c),some (.int l),none,none,none,none,none,none,none,none],st):=by
      unfold mTabQ1
      rw [if_ok t1,decide_eq_false (by omega)]
      rfl
    have q2:sAsg eDic0 (.nm 2) [some (.int c),some (.int l),none,none,none,none,none,none,none,none] st=.ok (.nx,[some (.int c),some (.int l),some (.ref st.length),none,none,none,none,none,none,none],st++[.dic []]):=asg_ok (i:=2) rfl
    obtain ⟨t,R,ht,q4⟩:=letLoop_ok (st:=st) T
    have hD:((us c l).foldl dadd []).length≤1000000:=by
      have h1:=fold_len (us c l) []
      have h2:=us_len T
      simp only [List.length_nil] at h1
      omega
    obtain ⟨S,q11,hS⟩:=q11_ok (st:=st) (c:=c) (l:=l) (R:=R) ht hD
    refine ⟨S,?_⟩
    rw [fn_rt (by rw [e];unfold mTab;rw [seq_ok q1,seq_ok q2,seq_ok q4];exact q11)]
    simp [tblP,h0,hS]
/-- .. called -/
theorem tabCall_ok {σ:Slots} {st:Store} {a:EvA} {c l:Nat} (T:TabOk c l) (ha:a σ st=.ok ([.int c,.int l],st)):eCall (ofN 2 (fnOf 10 mTab)) a σ st=.ok (.ref st.length,st++[.dic (toP (tblP c l))]):=by?
  obtain ⟨S,h⟩:=tab_ok st T
  have ho:objLt st.length (.dic (toP (tblP c l)))=true:=by
    generalize tblP c l=D
    show (refsLts st.length ((toP D).map (·.1)) && refsLts st.length ((toP D).map (·.2)))=true
    unfold toP
    rw [List.map_map,List.map_map]
    have h1:∀D:DI,refsLts st.length (D.map ((fun q:PV×PV=>q.1) ∘ fun q:Int×Int=>(PV.int q.1,PV.int q.2)))=true:=fun D=>by
      induction D with
      | nil=>rfl
      | cons x D ih=>simp only [List.map_cons,refsLts,Function.comp,refsLt,Bool.true_and];exact ih
    have h2:∀D:DI,refsLts st.length (D.map ((fun q:PV×PV=>q.2) ∘ fun q:Int×Int=>(PV.int q.1,PV.int q.2)))=true:=fun D=>by
      induction D with
      | nil=>rfl
      | cons x D ih=>simp only [List.map_cons,refsLts,Function.comp,refsLt,Bool.true_and];exact ih
    rw [h1,h2];rfl
  rw [call_ok ha ((ofN_ok (n:=2) rfl).trans h)]
  refine congrArg Res.ok (gc_new (o:=.dic (toP (tblP c l))) ?_ (by omega) ho)
  rw [get_app,List.getElem?_append_right (Nat.le_refl _),Nat.sub_self]
  rfl
theorem cho_bnd (n:Int) (h:n.natAbs≤40):∀k:Nat,k≤40→(chooseP n k).natAbs≤80 ^ k
  | 0,_=>by simp [chooseP]
  | k+1,hk=>by
    have ih:=cho_bnd n h k (by omega)
    unfold chooseP
    refine Nat.le_trans (Int.natAbs_ediv_le_natAbs _ _) ?_
    rw [Int.natAbs_mul,Nat.pow_succ]
    exact Nat.mul_le_mul ih (by omega)
theorem cov_bnd (L:Nat) (hL:1≤L):∀ (j w:Nat),((covRow L j).getD w 0).natAbs≤L ^ j
  | 0,w=>by
    unfold covRow
    rw [Nat.pow_zero]
    cases w with
    | zero=>exact Nat.le_refl 1
    | succ w=>
      rw [List.getD_cons_succ,List.getD_eq_getElem?_getD,List.getElem?_replicate]
      split <;> simp
  | j + 1,w=>by
    unfold covRow covNext
    rw [List.getD_eq_getElem?_getD,List.getElem?_map]
    by_cases hw:w < L+1
    · rw [List.getElem?_range hw]
      simp only [Option.map_some,Option.getD_some]
      have h1:=cov_bnd L hL j w
      have h2:=cov_bnd L hL j (if w=0 then L else w - 1)
      generalize (covRow L j).getD w 0=x at h1
      generalize (covRow L j).getD (if w=0 then L else w - 1) 0=y at h2
      have a1:(((L:Int) - w) * x).natAbs≤(L - w) * L ^ j:=by
        rw [Int.natAbs_mul,show ((L:Int) - w).natAbs=L - w by omega]
        exact Nat.mul_le_mul_left _ h1
      have a2:((w:Int) * y).natAbs≤w * L ^ j:=by
        rw [Int.natAbs_mul,Int.natAbs_natCast]
        exact Nat.mul_le_mul_left _ h2
      have a3:=Int.natAbs_add_le (((L:Int) - w) * x) ((w:Int) * y)
      have a4:(L - w) * L ^ j+w * L ^ j=L * L ^ j:=by rw [← Nat.add_mul,show L - w+w=L by omega]
      rw [Nat.pow_succ,Nat.mul_comm (L ^ j)]
      omega
    · have:(List.range (L+1))[w]? = none:=by rw [List.getElem?_eq_none];simp;omega
      rw [this]
      simp
theorem pow40 {L j:Nat} (hL:L≤40) (h1:1≤L) (hj:j≤40):L ^ j≤40 ^ 40:=Nat.le_trans (Nat.pow_le_pow_left hL j) (Nat.pow_le_pow_right (by decide) hj)
theorem begOk {m L:Nat} (hm:m≤40) (h1:1≤L) (hL:L≤40):BegOk m L where
  hm:=by omega
  hL:=by omega
  cov:=fun j hj w=>Nat.lt_of_le_of_lt (Nat.le_trans (cov_bnd L h1 j w) (pow40 hL h1 (by omega))) (by decide +kernel)
  cho:=fun j hj=>Nat.lt_of_le_of_lt (Nat.le_trans (cho_bnd L (by omega) j (by omega)) (Nat.pow_le_pow_right (by decide) (show j≤40 by omega))) (by decide +kernel)
theorem begAt_bnd {m L k:Nat} (hm:m≤40) (h1:1≤L) (hL:L≤40) (hk:k≤40):(begAt m L k).natAbs≤80 ^ 40 * 40 ^ 40:=by
  unfold begAt
  rw [Int.natAbs_mul]
  exact Nat.mul_le_mul (Nat.le_trans (cho_bnd L (by omega) k hk) (Nat.pow_le_pow_right (by decide) hk)) (Nat.le_trans (cov_bnd L h1 _ _) (pow40 hL h1 (by omega)))
theorem begG_bnd {m L:Nat} (hm:m≤40) (h1:1≤L) (hL:L≤40) (k:Nat):((begG m L).getD k 0).natAbs≤80 ^ 40 * 40 ^ 40:=by?
  have mem:∀x∈begG m L,x.natAbs≤80 ^ 40 * 40 ^ 40:=fun x hx=>by
    unfold begG begF at hx
    rcases List.mem_append.mp hx with h | h
    · obtain ⟨k,hk,rfl⟩:=List.mem_map.mp h
      have:=List.mem_range.mp hk
      exact begAt_bnd hm h1 hL (by omega)
    · rw [List.mem_singleton.mp h];exact Nat.zero_le _
  rw [List.getD_eq_getElem?_getD]
  cases e:(begG m L)[k]? with
  | none=>exact Nat.zero_le _
  | some x=>exact mem x (List.mem_of_getElem? e)
theorem begP_get (m L k:Nat):k≤min m L→(begP m L).getD k 0=(begG m L).getD k 0 - (begG m L).getD (k+1) 0:=by?
 exact fun hk=>by
  have hl:(begG m L).length=min m L+2:=by simp [begG,begF]
  unfold begP
  rw [List.getD_eq_getElem?_getD,List.getElem?_zipWith,List.getElem?_tail,List.getElem?_eq_getElem (show k < (begG m L).length by omega),List.getElem?_eq_getElem (show k+1 < (begG m L).length by omega)]
  rw [List.getD_eq_getElem?_getD,List.getD_eq_getElem?_getD,List.getElem?_eq_getElem (show k < (begG m L).length by omega),List.getElem?_eq_getElem (show k+1 < (begG m L).length by omega)]
  rfl
theorem begP_bnd {m L:Nat} (hm:m≤40) (h1:1≤L) (hL:L≤40) (k:Nat):((begP m L).getD k 0).natAbs < 2 ^ 1000:=by?
  by_cases hk:k≤min m L
  · rw [begP_get m L k hk]
    have a:=begG_bnd hm h1 hL k
    have b:=begG_bnd hm h1 hL (k+1)
    have c:=Int.natAbs_sub_le ((begG m L).getD k 0) ((begG m L).getD (k+1) 0)
    exact Nat.lt_of_le_of_lt (Nat.le_trans c (Nat.add_le_add a b)) (by decide +kernel)
  · rw [List.getD_eq_getElem?_getD,List.getElem?_eq_none (by rw [begP_len];omega)]
    decide +kernel
theorem tabOk {c l:Nat} (hc:c≤40) (hl:l≤40):TabOk c l where
  hc:=hc
  hl:=hl
  beg:=fun L h1 h2=>begOk hl h1 (by omega)
  bnd:=fun L h1 h2 k=>begP_bnd hl h1 (by omega) k
  cho:=fun t j ht hj=>Nat.lt_of_le_of_lt (Nat.le_trans (cho_bnd _ (by omega) j (by omega)) (Nat.pow_le_pow_right (by decide) (show j≤40 by omega))) (by decide +kernel)
noncomputable
def mIsCount:EvS:=sRet (eAnd (eCall fnIsi (aCons (eVar 0) (aCons (eC (.ty "int")) (aNil)))) (eAnd (eNot (eCall fnIsi (aCons (eVar 0) (aCons (eC (.ty "bool")) (aNil))))) (eBinG opGe (eVar 0) (eC (.int 0)))))
noncomputable
def mCheck:EvS:=sSeq (sIf (tOr (tNot (tVal (eCall (ofN 1 (fnOf 1 mIsCount)) (aCons (eVar 0) (aNil))))) (tVal (eBinG opGt (eVar 0) (eC (.int 20))))) (sNever) (sNil)) (sIf (tOr (tNot (tVal (eCall (ofN 1 (fnOf 1 mIsCount)) (aCons (eVar 1) (aNil))))) (tVal (eBinG opGt (eVar 1) (eC (.int 30))))) (sNever) (sNil))
noncomputable
def mGoalCount:EvS:=sSeq (sDrop (eCall (ofN 2 (fnOf 2 mCheck)) (aCons (eVar 0) (aCons (eVar 1) (aNil))))) (sRet (eIf (tVal (eCall (ofN 1 (fnOf 1 mIsCount)) (aCons (eVar 2) (aNil)))) (eMeth isDic mGet (eCall (ofN 2 (fnOf 10 mTab)) (aCons (eVar 0) (aCons (eVar 1) (aNil)))) (aCons (eVar 2) (aCons (eC (.int 0)) (aNil)))) (eC (.int 0))))
noncomputable
def mCostSum:EvS:=sSeq (sDrop (eCall (ofN 2 (fnOf 2 mCheck)) (aCons (eVar 0) (aCons (eVar 1) (aNil))))) (sRet (eCall fnSum (aCons (eLc (iItems (eCall (ofN 2 (fnOf 10 mTab)) (aCons (eVar 0) (aCons (eVar 1) (aNil))))) (.tp [.nm 2,.nm 3]) (tYes) (eBin opMulA (eVar 2) (eVar 3)) [2,3]) (aNil))))
theorem isCount_ok (i:Int) (st:Store):fnOf 1 mIsCount [.int i] st=.ok (.bl (decide (0≤i)),st):=by
  simp [fnOf,mIsCount,start0,sRet,eAnd,eCall,aCons,aNil,eVar,eC,fnIsi,tyName,clsNames,isSub,gc_bl,eNot,eBinG,eBin,opGe]
theorem isCountT {σ:Slots} {st:Store} {a:EvE} {i:Int} (h:a σ st=.ok (.int i,st)):tVal (eCall (ofN 1 (fnOf 1 mIsCount)) (aCons a aNil)) σ st=.ok (decide (0≤i),st):=by
  have c:=call_ok (acons_ok h anil_ok) ((ofN_ok (n:=1) rfl).trans (isCount_ok i st))
  rw [gc_bl] at c
  exact val_ok c
theorem check_ok {c l:Nat} (hc:c≤20) (hl:l≤30) (st:Store):fnOf 2 mCheck [.int c,.int l] st=.ok (.non,st):=by?
  have t1:=isCountT (σ:=[some (.int c),some (.int l)]) (st:=st) (var_ok (i:=0) rfl)
  have t2:=isCountT (σ:=[some (.int c),some (.int l)]) (st:=st) (var_ok (i:=1) rfl)
  have g1:=binG_ok (f:=opGt) (σ:=[some (.int c),some (.int l)]) (st:=st) (x:=(.bl (decide ((20:Int) < c)),st)) (var_ok (i:=0) rfl) (c_ok (v:=.int 20)) rfl
  have g2:=binG_ok (f:=opGt) (σ:=[some (.int c),some (.int l)]) (st:=st) (x:=(.bl (decide ((30:Int) < l)),st)) (var_ok (i:=1) rfl) (c_ok (v:=.int 30)) rfl
  rw [gc_bl] at g1 g2
  have v1:=val_ok g1
  have v2:=val_ok g2
  have e:start0 2 [.int c,.int l]=[some (.int c),some (.int l)]:=rfl
  have d1:decide ((0:Int)≤c)=true:=decide_eq_true (by omega)
  have d2:decide ((0:Int)≤l)=true:=decide_eq_true (by omega)
  have d3:decide ((20:Int) < c)=false:=decide_eq_false (by omega)
  have d4:decide ((30:Int) < l)=false:=decide_eq_false (by omega)
  rw [d1] at t1
  rw [d2] at t2
  rw [d3] at v1
  rw [d4] at v2
  have o1:tOr (tNot (tVal (eCall (ofN 1 (fnOf 1 mIsCount)) (aCons (eVar 0) (aNil))))) (tVal (eBinG opGt (eVar 0) (eC (.int 20)))) [some (.int c),some (.int l)] st=.ok (false,st):=by
    unfold tOr tNot
    rw [t1]
    exact v1
  have o2:tOr (tNot (tVal (eCall (ofN 1 (fnOf 1 mIsCount)) (aCons (eVar 1) (aNil))))) (tVal (eBinG opGt (eVar 1) (eC (.int 30)))) [some (.int c),some (.int l)] st=.ok (false,st):=by
    unfold tOr tNot
    rw [t2]
    exact v2
  unfold fnOf mCheck
  rw [e,seq_ok (σ':=[some (.int c),some (.int l)]) (st':=st) ((if_ok o1).trans rfl),if_ok o2]
  rfl
theorem checkCall {σ:Slots} {st:Store} {a:EvA} {c l:Nat} (hc:c≤20) (hl:l≤30) (h:a σ st=.ok ([.int c,.int l],st)):sDrop (eCall (ofN 2 (fnOf 2 mCheck)) a) σ st=.ok (.nx,σ,st):=by
  have q:=call_ok h ((ofN_ok (n:=2) rfl).trans (check_ok hc hl st))
  rw [gc_non] at q
  exact drop_ok q
noncomputable
def gcP (c l:Nat) (n:Int):Int:=if 0≤n then dget (tblP c l) n else 0
theorem goalCount_ok {c l:Nat} (hc:c≤20) (hl:l≤30) (n:Int) (st:Store):fnOf 3 mGoalCount [.int c,.int l,.int n] st=.ok (.int (gcP c l n),st):=by?
  have e:start0 3 [.int c,.int l,.int n]=[some (.int c),some (.int l),some (.int n)]:=rfl
  have q1:=checkCall (σ:=[some (.int c),some (.int l),some (.int n)]) (st:=st) hc hl (acons_ok (var_ok (i:=0) rfl) (acons_ok (var_ok (i:=1) rfl) anil_ok))
  have t:=isCountT (σ:=[some (.int c),some (.int l),some (.int n)]) (st:=st) (var_ok (i:=2) rfl)
  have tb:=tabCall_ok (σ:=[some (.int c),some (.int l),some (.int n)]) (st:=st) (tabOk (c:=c) (l:=l) (by omega) (by omega)) (acons_ok (var_ok (i:=0) rfl) (acons_ok (var_ok (i:=1) rfl) anil_ok))
  have hd:(st++[PO.dic (toP (tblP c l))])[st.length]? = some (.dic (toP (tblP c l))):=by simp
  have mg:mGet (.ref st.length) [.int n,.int 0] (st++[.dic (toP (tblP c l))])=.ok (.int (dget (tblP c l) n),st++[.dic (toP (tblP c l))]):=by
    unfold mGet
    simp only [hd]
    rw [toP_get]
    rfl
  have me:=meth_ok (k:=isDic) (F:=mGet) tb (by simp [isDic]) (acons_ok (var_ok (i:=2) rfl) (acons_ok (c_ok (v:=.int 0)) anil_ok)) mg
  rw [gc_app rfl] at me
  refine fn_rt (σ':=[some (.int c),some (.int l),some (.int n)]) ?_
  unfold mGoalCount
  rw [e,seq_ok q1]
  refine ret_ok ?_
  unfold eIf
  rw [t]
  simp only [bind_ok]
  unfold gcP
  by_cases h:0≤n
  · rw [decide_eq_true h,if_pos rfl,if_pos h]
    exact me
  · rw [decide_eq_false h,if_neg (by decide),if_neg h]
    rfl
noncomputable
def keysD (D:DI):List Int:=D.map (·.1)
noncomputable
def ND (D:DI):Prop:=(keysD D).Nodup
/-- what the rows with this key bring together -/
noncomputable
def total (l:List (Int×Int)) (k:Int):Int:=((l.filter fun u=>decide (u.1=k)).map (·.2)).sum
theorem any_key (D:DI) (k:Int):(D.any fun q=>decide (q.1=k))=true↔k∈keysD D:=by
  simp [keysD,List.any_eq_true]
theorem keys_put (D:DI) (k v:Int):keysD (dput D k v)=if k∈keysD D then keysD D else keysD D++[k]:=by
  unfold dput
  by_cases h:k∈keysD D
  · rw [if_pos ((any_key D k).mpr h),if_pos h]
    unfold keysD
    rw [List.map_map]
    refine List.map_congr_left fun q hq=>?_
    simp only [Function.comp]
    split <;> rfl
  · rw [if_neg (fun e=>h ((any_key D k).mp e)),if_neg h]
    simp [keysD]
theorem nd_put {D:DI} (h:ND D) (k v:Int):ND (dput D k v):=by
  unfold ND at *
  rw [keys_put]
  split
  · exact h
  · rename_i hk
    rw [List.nodup_append]
    refine ⟨h,by simp,fun a ha b hb=>?_⟩
    rw [List.mem_singleton] at hb
    exact fun e=>hk (hb ▸ e ▸ ha)
theorem dget_cons (q:Int×Int) (D:DI) (k:Int):dget (q::D) k=if q.1=k then q.2 else dget D k:=by
  unfold dget
  rw [List.find?_cons]
  by_cases h:q.1=k
  · rw [decide_eq_true h,if_pos h];rfl
  · rw [decide_eq_false h,if_neg h]
theorem dget_nil (k:Int):dget [] k=0:=rfl
theorem dget_app_ne (D:DI) {k j v:Int} (h:k≠j):dget (D++[(k,v)]) j=dget D j:=by
  induction D with
  | nil=>rw [List.nil_append,dget_cons,if_neg h]
  | cons q D ih=>rw [List.cons_append,dget_cons,dget_cons,ih]
theorem dget_app_eq (D:DI) {k v:Int} (h:k∉keysD D):dget (D++[(k,v)]) k=v:=by
  induction D with
  | nil=>rw [List.nil_append,dget_cons,if_pos rfl]
  | cons q D ih=>
    simp only [keysD,List.map_cons,List.mem_cons,not_or] at h
    rw [List.cons_append,dget_cons,if_neg (fun e=>h.1 e.symm),ih h.2]
theorem dget_put (D:DI) (k v j:Int):dget (dput D k v) j=if j=k then v else dget D j:=by?
  unfold dput
  by_cases h:k∈keysD D
  · rw [if_pos ((any_key D k).mpr h)]
    have key:∀D:DI,k∈keysD D→dget (D.map fun q=>if q.1=k then (q.1,v) else q) j=if j=k then v else dget D j:=fun D=>by
      induction D with
      | nil=>intro h;simp [keysD] at h
      | cons q D ih=>
        intro h
        rw [List.map_cons,dget_cons,dget_cons]
        by_cases hq:q.1=k
        · rw [if_pos hq]
          simp only
          by_cases hj:j=k
          · rw [if_pos (by rw [hq,hj]),if_pos hj]
          · rw [if_neg (by rw [hq];exact fun e=>hj e.symm),if_neg hj,if_neg (by rw [hq];exact fun e=>hj e.symm)]
            by_cases hm:k∈keysD D
            · rw [ih hm,if_neg hj]
            · have:(D.map fun q=>if q.1=k then (q.1,v) else q)=D:=by
                have e2:∀q∈D,(if q.1=k then (q.1,v) else q)=q:=fun q hq2=>if_neg fun e=>hm (by rw [← e];exact List.mem_map_of_mem hq2)
                rw [List.map_congr_left e2,List.map_id']
              rw [this]
        · rw [if_neg hq]
          have hm:k∈keysD D:=by
            simp only [keysD,List.map_cons,List.mem_cons] at h
            rcases h with h | h
            · exact absurd h.symm hq
            · exact h
          rw [ih hm]
          by_cases hj:j=k
          · rw [if_pos hj,if_neg (by rw [hj];exact hq)]
            rw [if_pos hj]
          · rw [if_neg hj,if_neg hj]
    exact key D h
  · rw [if_neg (fun e=>h ((any_key D k).mp e))]
    by_cases hj:j=k
    · rw [if_pos hj,hj,dget_app_eq D h]
    · rw [if_neg hj,dget_app_ne D fun e=>hj e.symm]
theorem total_cons (u:Int×Int) (l:List (Int×Int)) (k:Int):total (u::l) k=(if u.1=k then u.2 else 0)+total l k:=by
  unfold total
  by_cases h:u.1=k
  · rw [List.filter_cons_of_pos (by simpa using h),if_pos h];simp
  · rw [List.filter_cons_of_neg (by simpa using h),if_neg h];simp
theorem total_no {l:List (Int×Int)} {k:Int} (h:∀u∈l,u.1≠k):total l k=0:=by
  unfold total
  rw [List.filter_eq_nil_iff.mpr fun u hu=>by simpa using h u hu]
  rfl
theorem fold_nd:∀ (l:List (Int×Int)) (D:DI),ND D→ND (l.foldl dadd D)
  | [],D,h=>h
  | u::l,D,h=>fold_nd l _ (nd_put h _ _)
theorem fold_get:∀ (l:List (Int×Int)) (D:DI) (k:Int),dget (l.foldl dadd D) k=dget D k+total l k
  | [],D,k=>by simp [total]
  | u::l,D,k=>by
    rw [List.foldl_cons,fold_get l,total_cons]
    unfold dadd
    rw [dget_put]
    by_cases h:k=u.1
    · rw [if_pos h,if_pos h.symm,h];omega
    · rw [if_neg h,if_neg fun e=>h e.symm];omega
theorem nd_get {D:DI} (h:ND D) {q:Int×Int} (hq:q∈D):dget D q.1=q.2:=by
  induction D with
  | nil=>cases hq
  | cons x D ih=>
    simp only [ND,keysD,List.map_cons,List.nodup_cons] at h
    rw [dget_cons]
    rcases List.mem_cons.mp hq with e | e
    · rw [e,if_pos rfl]
    · rw [if_neg fun e2=>h.1 (by rw [e2];exact List.mem_map_of_mem e)]
      exact ih h.2 e
theorem get_mem {D:DI} {k:Int} (h:dget D k≠0):(k,dget D k)∈D:=by
  induction D with
  | nil=>exact absurd rfl h
  | cons x D ih=>
    rw [dget_cons] at h ⊢
    by_cases e:x.1=k
    · rw [if_pos e,← e];exact List.mem_cons_self
    · rw [if_neg e] at h ⊢;exact List.mem_cons_of_mem _ (ih h)
theorem put_fresh:∀ (l acc:DI),(keysD acc++keysD l).Nodup→l.foldl (fun acc q=>dput acc q.1 q.2) acc=acc++l
  | [],acc,_=>by simp
  | q :: l,acc,h=>by
    have hk:q.1∉keysD acc:=fun hm=>by
      rw [List.nodup_append] at h
      exact h.2.2 _ hm _ List.mem_cons_self rfl
    have e:dput acc q.1 q.2=acc++[q]:=if_neg fun e=>hk ((any_key _ _).mp e)
    rw [List.foldl_cons,e,put_fresh l,List.append_assoc,List.singleton_append]
    have e2:keysD (acc++[q])++keysD l=keysD acc++keysD (q::l):=by simp [keysD]
    rw [e2];exact h
theorem posD_eq {D:DI} (h:ND D):posD D=D.filter fun q=>decide (q.2 > 0):=by
  unfold posD
  rw [put_fresh _ _ ?_,List.nil_append]
  show (keysD (D.filter _)).Nodup
  exact List.Sublist.nodup (List.Sublist.map _ List.filter_sublist) h
theorem nd_pos {D:DI} (h:ND D):ND (posD D):=by
  rw [posD_eq h]
  exact List.Sublist.nodup (List.Sublist.map _ List.filter_sublist) h
theorem posD_get {D:DI} (h:ND D) (k:Int):dget (posD D) k=if 0 < dget D k then dget D k else 0:=by?
  rw [posD_eq h]
  induction D with
  | nil=>rfl
  | cons x D ih=>
    simp only [ND,keysD,List.map_cons,List.nodup_cons] at h
    rw [dget_cons]
    by_cases e:x.1=k
    · rw [if_pos e]
      by_cases hx:x.2 > 0
      · rw [List.filter_cons_of_pos (by simpa using hx),dget_cons,if_pos e,if_pos hx]
      · rw [List.filter_cons_of_neg (by simpa using hx),ih h.2,if_neg (by omega:¬ 0 < x.2)]
        have:dget D k=0:=by
          refine Classical.byContradiction fun hn=>?_
          exact h.1 (e ▸ List.mem_map_of_mem (get_mem hn))
        rw [this];rfl
    · rw [if_neg e]
      by_cases hx:x.2 > 0
      · rw [List.filter_cons_of_pos (by simpa using hx),dget_cons,if_neg e,ih h.2]
      · rw [List.filter_cons_of_neg (by simpa using hx),ih h.2]
theorem posD_keys {D:DI} (h:ND D) (k:Int):k∈keysD (posD D)↔0 < dget D k:=by?
  rw [posD_eq h]
  constructor
  · intro hk
    obtain ⟨q,hq,e⟩:=List.mem_map.mp hk
    obtain ⟨h1,h2⟩:=List.mem_filter.mp hq
    have:=nd_get h h1
    simp only [decide_eq_true_eq] at h2
    rw [← e,this];exact h2
  · intro hk
    exact List.mem_map.mpr ⟨(k,dget D k),List.mem_filter.mpr ⟨get_mem (by omega),by simpa using hk⟩,rfl⟩
/-- a weighed sum over the dict -/
noncomputable
def wsum (f:Int→Int) (D:List (Int×Int)):Int:=(D.map fun q=>f q.1 * q.2).sum
theorem wsum_cons (f:Int→Int) (q:Int×Int) (D:List (Int×Int)):wsum f (q::D)=f q.1 * q.2+wsum f D:=by simp [wsum]
theorem wsum_app (f:Int→Int) (a b:List (Int×Int)):wsum f (a++b)=wsum f a+wsum f b:=by simp [wsum]
theorem wsum_put (f:Int→Int) {D:DI} (h:ND D) (k v:Int):wsum f (dput D k v)=wsum f D+f k * (v - dget D k):=by?
  unfold dput
  by_cases hk:k∈keysD D
  · rw [if_pos ((any_key D k).mpr hk)]
    induction D with
    | nil=>simp [keysD] at hk
    | cons q D ih=>
      simp only [ND,keysD,List.map_cons,List.nodup_cons] at h
      rw [List.map_cons,wsum_cons,wsum_cons,dget_cons]
      by_cases hq:q.1=k
      · rw [if_pos hq,if_pos hq]
        have e2:∀z∈D,(if z.1=k then (z.1,v) else z)=z:=fun z hz=>if_neg fun e=>h.1 (by rw [hq,← e];exact List.mem_map_of_mem hz)
        rw [List.map_congr_left e2,List.map_id',hq,Int.mul_sub]
        simp only
        omega
      · rw [if_neg hq,if_neg hq]
        have hm:k∈keysD D:=by
          simp only [keysD,List.map_cons,List.mem_cons] at hk
          rcases hk with h | h
          · exact absurd h.symm hq
          · exact h
        rw [ih h.2 hm];omega
  · rw [if_neg (fun e=>hk ((any_key D k).mp e)),wsum_app,wsum_cons]
    have:dget D k=0:=Classical.byContradiction fun hn=>hk (List.mem_map_of_mem (get_mem hn))
    rw [this]
    simp [wsum]
theorem fold_wsum (f:Int→Int):∀ (l:List (Int×Int)) (D:DI),ND D→wsum f (l.foldl dadd D)=wsum f D+wsum f l
  | [],D,_=>by simp [wsum]
  | u::l,D,h=>by
    rw [List.foldl_cons,fold_wsum f l (dadd D u) (nd_put h _ _),wsum_cons]
    unfold dadd
    rw [wsum_put f h,show dget D u.1+u.2 - dget D u.1=u.2 by omega];omega
theorem wsum_pos (f:Int→Int) {D:DI} (h:ND D) (hp:∀q∈D,0≤q.2):wsum f (posD D)=wsum f D:=by?
  rw [posD_eq h]
  clear h
  induction D with
  | nil=>rfl
  | cons x D ih=>
    have ih:=ih fun q hq=>hp q (List.mem_cons_of_mem _ hq)
    have hx:=hp x List.mem_cons_self
    by_cases h:x.2 > 0
    · rw [List.filter_cons_of_pos (by simpa using h),wsum_cons,wsum_cons,ih]
    · rw [List.filter_cons_of_neg (by simpa using h),wsum_cons,ih,show x.2=0 by omega];simp
theorem tot_nonneg {l:List (Int×Int)} (h:∀u∈l,0≤u.2) (k:Int):0≤total l k:=by
  induction l with
  | nil=>exact Int.le_refl 0
  | cons u l ih=>
    rw [total_cons]
    have a:=ih fun u hu=>h u (List.mem_cons_of_mem _ hu)
    have b:=h u List.mem_cons_self
    split <;> omega
theorem fold_nonneg {l:List (Int×Int)} (h:∀u∈l,0≤u.2):∀q∈l.foldl dadd [],0≤q.2:=fun q hq=>by
  rw [← nd_get (fold_nd l [] (by simp [ND,keysD])) hq,fold_get,dget_nil]
  have:=tot_nonneg h q.1
  omega
theorem nd0:ND []:=by simp [ND,keysD]
theorem tbl_get {c l:Nat} (hl:l≠0) (k:Int):dget (tblP c l) k=if 0 < total (us c l) k then total (us c l) k else 0:=by
  unfold tblP
  rw [if_neg hl,posD_get (fold_nd _ _ nd0),fold_get,dget_nil,Int.zero_add]
theorem tbl_key {c l:Nat} (hl:l≠0) (k:Int):k∈keysD (tblP c l)↔0 < total (us c l) k:=by
  unfold tblP
  rw [if_neg hl,posD_keys (fold_nd _ _ nd0),fold_get,dget_nil,Int.zero_add]
theorem tbl_wsum (f:Int→Int) {c l:Nat} (hl:l≠0) (hp:∀u∈us c l,0≤u.2):wsum f (tblP c l)=wsum f (us c l):=by
  unfold tblP
  rw [if_neg hl,wsum_pos f (fold_nd _ _ nd0) (fold_nonneg hp),fold_wsum f _ _ nd0]
  simp [wsum]
theorem us_mem {c l:Nat} {u:Int×Int} (h:u∈us c l):∃L top kept:Nat,1≤L∧L≤min c l∧L≤top∧top≤c∧1≤kept∧kept≤L∧u=(number c l L top kept,chooseP ((top:Int) - 1) (L - 1) * (begP l L).getD kept 0):=by
  unfold us at h
  obtain ⟨i,hi,h⟩:=List.mem_flatMap.mp h
  unfold usTop at h
  obtain ⟨j,hj,h⟩:=List.mem_flatMap.mp h
  unfold usKept at h
  obtain ⟨k,hk,h⟩:=List.mem_map.mp h
  rw [List.mem_range] at hi hj hk
  exact ⟨i+1,i+1+j,k+1,by omega,by omega,by omega,by omega,by omega,by omega,h.symm⟩
theorem us_val_bnd {c l:Nat} (hc:c≤40) (hl:l≤40) {u:Int×Int} (h:u∈us c l):u.2.natAbs < 2 ^ 1300:=by?
  obtain ⟨L,top,kept,h1,h2,h3,h4,h5,h6,rfl⟩:=us_mem h
  have a:(chooseP ((top:Int) - 1) (L - 1)).natAbs≤80 ^ 40:=Nat.le_trans (cho_bnd _ (by omega) _ (by omega)) (Nat.pow_le_pow_right (by decide) (by omega))
  have b:=begP_bnd (m:=l) (L:=L) hl h1 (by omega) kept
  show ((chooseP ((top:Int) - 1) (L - 1)) * ((begP l L).getD kept 0)).natAbs < _
  rw [Int.natAbs_mul]
  generalize (chooseP ((top:Int) - 1) (L - 1)).natAbs=x at a
  generalize ((begP l L).getD kept 0).natAbs=y at b
  have h80:(80:Nat) ^ 40 < 2 ^ 300:=by decide +kernel
  have hx:x < 2 ^ 300:=Nat.lt_of_le_of_lt a h80
  have e:(2:Nat) ^ 1300=2 ^ 300 * 2 ^ 1000:=by decide +kernel
  rw [e]
  exact Nat.mul_lt_mul'' hx b
theorem us_key_bnd {c l:Nat} (hc:c≤40) (hl:l≤40) {u:Int×Int} (h:u∈us c l):u.1.natAbs < 2 ^ 20:=by
  obtain ⟨L,top,kept,h1,h2,h3,h4,h5,h6,rfl⟩:=us_mem h
  show (number c l L top kept).natAbs < 2 ^ 20
  unfold number
  have:(2:Nat) ^ 20=1048576:=by decide
  rw [this]
  omega
theorem total_bnd {B:Nat}:∀ {l:List (Int×Int)} (h:∀u∈l,u.2.natAbs < B) (k:Int),(total l k).natAbs≤l.length * B
  | [],_,k=>Nat.zero_le _
  | u::l,h,k=>by
    have a:=total_bnd (fun u hu=>h u (List.mem_cons_of_mem _ hu)) k
    have b:=h u List.mem_cons_self
    rw [total_cons,List.length_cons,Nat.add_mul]
    split <;> omega
theorem tbl_bnd {c l:Nat} (hc:c≤40) (hl:l≤40) {q:Int×Int} (h:q∈tblP c l):q.1.natAbs < 2 ^ 20∧q.2.natAbs < 2 ^ 1400:=by?
  by_cases h0:l=0
  · unfold tblP at h
    rw [if_pos h0,List.mem_singleton] at h
    subst h
    refine ⟨?_,by show (1:Int).natAbs < 2 ^ 1400;decide +kernel⟩
    have:(2:Nat) ^ 20=1048576:=by decide
    rw [this]
    show (c:Int).natAbs < _
    omega
  · have nd:ND (tblP c l):=by
      unfold tblP
      rw [if_neg h0]
      exact nd_pos (fold_nd _ _ nd0)
    have g:=nd_get nd h
    rw [tbl_get h0] at g
    have k:q.1∈keysD (tblP c l):=List.mem_map_of_mem h
    rw [tbl_key h0] at k
    rw [if_pos k] at g
    constructor
    · refine Classical.byContradiction fun hn=>?_
      rw [total_no (fun u hu e=>hn (by rw [← e];exact us_key_bnd hc hl hu))] at k
      exact absurd k (by decide)
    · rw [← g]
      have a:=total_bnd (fun u hu=>us_val_bnd hc hl hu) q.1
      have b:=us_len (tabOk hc hl)
      have c2:100000 * 2 ^ 1300 < (2:Nat) ^ 1400:=by decide +kernel
      exact Nat.lt_of_le_of_lt (Nat.le_trans a (Nat.mul_le_mul_right _ b)) c2
theorem tbl_len {c l:Nat} (hc:c≤40) (hl:l≤40):(tblP c l).length≤LINE:=by
  unfold tblP
  split
  · exact (by decide:1≤LINE)
  · rw [posD_eq (fold_nd _ _ nd0)]
    have a:=fold_len (us c l) []
    have b:=us_len (tabOk hc hl)
    refine Nat.le_trans (List.length_filter_le ..) (Nat.le_trans a ?_)
    rw [List.length_nil,Nat.zero_add]
    exact Nat.le_trans b (by decide)
theorem asInts_ints:∀l:List Int,asInts (l.map .int)=some l
  | []=>rfl
  | i::l=>by simp [asInts,asInts_ints l]
noncomputable
def csP (c l:Nat):Int:=wsum (fun k=>k) (tblP c l)
noncomputable
def mulPair:PV→PV
  | .tup [.int a,.int b]=>.int (a * b)
  | _=>.non
theorem costSum_ok {c l:Nat} (hc:c≤20) (hl:l≤30) (st:Store):fnOf 4 mCostSum [.int c,.int l] st=.ok (.int (csP c l),st):=by?
  have e:start0 4 [.int c,.int l]=[some (.int c),some (.int l),none,none]:=rfl
  have q1:=checkCall (σ:=[some (.int c),some (.int l),none,none]) (st:=st) hc hl (acons_ok (var_ok (i:=0) rfl) (acons_ok (var_ok (i:=1) rfl) anil_ok))
  have tb:=tabCall_ok (σ:=[some (.int c),some (.int l),none,none]) (st:=st) (tabOk (c:=c) (l:=l) (by omega) (by omega)) (acons_ok (var_ok (i:=0) rfl) (acons_ok (var_ok (i:=1) rfl) anil_ok))
  have hd:(st++[PO.dic (toP (tblP c l))])[st.length]? = some (.dic (toP (tblP c l))):=by simp
  have bnd:=fun q (h:q∈tblP c l)=>tbl_bnd (c:=c) (l:=l) (by omega) (by omega) h
  have len:(tblP c l).length≤LINE:=tbl_len (by omega) (by omega)
  refine fn_rt (σ':=[some (.int c),some (.int l),none,none]) ?_
  unfold mCostSum
  rw [e,seq_ok q1]
  refine ret_ok ?_
  have it:iItems (eCall (ofN 2 (fnOf 10 mTab)) (aCons (eVar 0) (aCons (eVar 1) (aNil)))) [some (.int c),some (.int l),none,none] st=.ok (((tblP c l).map (fun q=>PV.tup [.int q.1,.int q.2]),[]),st++[.dead]):=by
    unfold iItems
    rw [tb]
    simp only [bind_ok,iItems.st0,hd]
    simp [toP]
  have lc:=eLc_ok (g:=.tp [.nm 2,.nm 3]) (t:=tYes) (e:=eBin opMulA (eVar 2) (eVar 3)) (vs:=[2,3]) (c:=fun _=>true) (v:=mulPair) it (gdOk_nil _) (by simpa using len) (by
    intro x hx
    obtain ⟨q,hq,rfl⟩:=List.mem_map.mp hx
    refine ⟨[some (.int c),some (.int l),some (.int q.1),some (.int q.2)],rfl,rfl,fun _=>?_⟩
    obtain ⟨b1,b2⟩:=bnd q hq
    refine (bin_ok (v:=.int q.1) (w:=.int q.2) (st1:=st++[PO.dead]) (st2:=st++[PO.dead]) (var_ok (i:=2) rfl) (var_ok (i:=3) rfl)).trans ?_
    unfold opMulA
    simp only [mulOk_of (a:=20) (b:=1400) b1 b2 (by decide),if_true]
    rfl)
  have tr:∀D:DI,((D.map fun q=>PV.tup [.int q.1,.int q.2]).filter fun _=>true).map mulPair=(D.map fun q=>q.1 * q.2).map .int:=fun D=>by
    induction D with
    | nil=>rfl
    | cons q D ih=>simp only [List.map_cons,List.filter_cons_of_pos,ih,mulPair]
  rw [tr] at lc
  have sm:fnSum [.ref (st++[PO.dead]).length] (st++[.dead]++[.lst (((tblP c l).map fun q=>q.1 * q.2).map .int)])=.ok (.int (csP c l),st++[.dead]++[.lst (((tblP c l).map fun q=>q.1 * q.2).map .int)]):=by
    unfold fnSum lstP
    have:(st++[PO.dead]++[.lst (((tblP c l).map fun q=>q.1 * q.2).map .int)])[(st++[PO.dead]).length]? = some (.lst (((tblP c l).map fun q=>q.1 * q.2).map .int)):=by simp
    simp only [this,Option.bind_some,asInts_ints]
    rfl
  have r:=call_ok (acons_ok lc anil_ok) sm
  rw [List.append_assoc,gc_app rfl] at r
  exact r
theorem number_le {c l L top kept:Nat} (h1:1≤L) (h4:top≤c) (h5:1≤kept):number c l L top kept≤(l:Int)+2 * c - 3:=by
  unfold number;omega
theorem us_le {c l:Nat} {u:Int×Int} (h:u∈us c l):u.1≤(l:Int)+2 * c - 3:=by
  obtain ⟨L,top,kept,h1,h2,h3,h4,h5,h6,rfl⟩:=us_mem h
  exact number_le h1 h4 h5
end Sg
namespace Sg
noncomputable
def bin:Nat→Nat→Nat
  | _,0=>1
  | 0,_+1=>0
  | n+1,k+1=>bin n k+bin n (k+1)
theorem bin0 (n:Nat):bin n 0=1:=by cases n <;> rfl
theorem bin_ss (n k:Nat):bin (n+1) (k+1)=bin n k+bin n (k+1):=rfl
theorem bin_big:∀ (n k:Nat),n < k→bin n k=0
  | 0,k+1,_=>rfl
  | n+1,k+1,h=>by rw [bin_ss,bin_big n k (by omega),bin_big n (k+1) (by omega)]
theorem bin_mul:∀ (n k:Nat),(bin n (k+1):Int) * ((k:Int)+1)=(bin n k:Int) * ((n:Int) - k)
  | 0,0=>by decide
  | 0,k+1=>by show ((0:Nat):Int) * _=((0:Nat):Int) * _;simp
  | n+1,0=>by
    have:=bin_mul n 0
    rw [bin_ss,bin0,bin0] at *
    push_cast at *
    grind
  | n+1,j+1=>by
    have h1:=bin_mul n j
    have h2:=bin_mul n (j+1)
    rw [bin_ss n (j+1),bin_ss n j]
    push_cast at *
    grind
theorem cho_bin (n:Nat):∀k,chooseP (n:Int) k=(bin n k:Int)
  | 0=>by rw [bin0];rfl
  | k+1=>by
    have h:chooseP (n:Int) (k+1)=chooseP n k * (n - k) / ((k:Int)+1):=rfl
    rw [h,cho_bin n k,← bin_mul,Int.mul_ediv_cancel _ (by omega)]
noncomputable
def cv (L n w:Nat):Int:=(covRow L n).getD w 0
theorem cv_zero (L w:Nat):cv L 0 w=if w=0 then 1 else 0:=by
  unfold cv covRow
  cases w with
  | zero=>rfl
  | succ w=>simp [List.getElem?_replicate];split <;> rfl
theorem cv_succ {L w:Nat} (n:Nat) (h:w≤L):cv L (n+1) w=((L:Int) - w) * cv L n w+w * cv L n (w - 1):=by?
  have:cv L (n+1) w=((L:Int) - w) * (covRow L n).getD w 0+w * (covRow L n).getD (if w=0 then L else w - 1) 0:=by
    show (covNext L (covRow L n)).getD w 0=_
    unfold covNext
    rw [List.getD_eq_getElem?_getD,List.getElem?_map,List.getElem?_range (by omega)]
    rfl
  rw [this]
  by_cases hw:w=0
  · subst hw;simp [cv]
  · rw [if_neg hw];rfl
theorem cv_nonneg:∀ (L n w:Nat),w≤L→0≤cv L n w
  | L,0,w,_=>by rw [cv_zero];split <;> decide
  | L,n+1,w,h=>by
    rw [cv_succ n h]
    have h1:=cv_nonneg L n w h
    have h2:=cv_nonneg L n (w - 1) (by omega)
    have h3:(0:Int)≤(L:Int) - w:=by omega
    exact Int.add_nonneg (Int.mul_nonneg h3 h1) (Int.mul_nonneg (by omega) h2)
theorem cv_pas:∀ (n L w:Nat),w≤L→cv (L+1) n w=cv (L+1) n (w+1)+cv L n w
  | 0,L,w,h=>by
    rw [cv_zero,cv_zero,cv_zero,if_neg (by omega:¬ w+1=0)]
    simp
  | n + 1,L,w,h=>by
    rw [cv_succ n (by omega),cv_succ n (by omega:w+1≤L+1),cv_succ n h]
    have h1:=cv_pas n L w h
    by_cases hw:w=0
    · subst hw
      push_cast
      simp only [Nat.zero_add,Nat.add_sub_cancel,Nat.zero_sub] at *
      grind
    · have h2:=cv_pas n L (w - 1) (by omega)
      rw [show w - 1+1=w by omega] at h2
      rw [Nat.add_sub_cancel]
      push_cast
      grind
/-- the rows of a length that have all letters -/
noncomputable
def sj (l L:Nat):Int:=cv L l L
theorem sj_zero (L:Nat):sj 0 L=if L=0 then 1 else 0:=cv_zero L L
theorem sj_top (l L:Nat):sj (l+1) L=L * cv L l (L - 1):=by
  unfold sj
  rw [cv_succ l (Nat.le_refl _)]
  rw [Int.sub_self,Int.zero_mul,Int.zero_add]
theorem sj_succ (l L:Nat):sj (l+1) (L+1)=((L:Int)+1) * (sj l (L+1)+sj l L):=by
  rw [sj_top,Nat.add_sub_cancel,cv_pas l L L (Nat.le_refl _)]
  rfl
theorem sj_s0 (l:Nat):sj (l+1) 0=0:=by rw [sj_top];simp
theorem sj_big:∀ (l L:Nat),l < L→sj l L=0
  | 0,L,h=>by rw [sj_zero,if_neg (by omega)]
  | l+1,L+1,h=>by rw [sj_succ,sj_big l (L+1) (by omega),sj_big l L (by omega)];simp
noncomputable
def sig (n:Nat) (f:Nat→Int):Int:=((List.range n).map f).sum
theorem sig0 (f:Nat→Int):sig 0 f=0:=rfl
theorem sigS (n:Nat) (f:Nat→Int):sig (n+1) f=sig n f+f n:=by
  unfold sig
  rw [List.range_succ,List.map_append,List.sum_append]
  simp
theorem sig_congr {n:Nat} {f g:Nat→Int} (h:∀i,i < n→f i=g i):sig n f=sig n g:=by
  unfold sig
  rw [List.map_congr_left fun i hi=>h i (List.mem_range.mp hi)]
theorem sig_add:∀ (n:Nat) (f g:Nat→Int),sig n (fun i=>f i+g i)=sig n f+sig n g
  | 0,_,_=>rfl
  | n+1,f,g=>by rw [sigS,sigS,sigS,sig_add n];omega
theorem sig_mul (c:Int):∀ (n:Nat) (f:Nat→Int),sig n (fun i=>c * f i)=c * sig n f
  | 0,_=>by simp [sig0]
  | n+1,f=>by rw [sigS,sigS,sig_mul c n,Int.mul_add]
theorem sig_front:∀ (n:Nat) (f:Nat→Int),sig (n+1) f=f 0+sig n (fun i=>f (i+1))
  | 0,f=>by rw [sigS,sig0,sig0];omega
  | n+1,f=>by rw [sigS,sig_front n,sigS];omega
theorem sig_tel:∀ (n:Nat) (G:Nat→Int),sig n (fun i=>G i - G (i+1))=G 0 - G n
  | 0,G=>by rw [sig0];omega
  | n+1,G=>by rw [sigS,sig_tel n];omega
theorem sig_zero {n:Nat} {f:Nat→Int} (h:∀i,i < n→f i=0):sig n f=0:=by
  rw [sig_congr h]
  induction n with
  | zero=>rfl
  | succ n ih=>rw [sigS,ih fun i hi=>h i (by omega)];rfl
theorem sig_more {n m:Nat} {f:Nat→Int} (hm:n≤m) (h:∀i,n≤i→i < m→f i=0):sig m f=sig n f:=by
  induction m with
  | zero=>rw [show n=0 by omega]
  | succ m ih=>
    by_cases e:n=m+1
    · rw [e]
    · rw [sigS,ih (by omega) fun i h1 h2=>h i h1 (by omega),h m (by omega) (by omega)];omega
/-- all rows,by their letters -/
theorem pow_sj (c:Nat):∀l,sig (c+1) (fun L=>(bin c L:Int) * sj l L)=(c:Int) ^ l
  | 0=>by
    rw [sig_front]
    rw [sig_zero fun i hi=>by rw [sj_zero,if_neg (by omega),Int.mul_zero]]
    simp [sj_zero,bin0]
  | l + 1=>by
    have ih:=pow_sj c l
    rw [sig_front,sj_s0,Int.mul_zero,Int.zero_add]
    have e1:sig c (fun i=>(bin c (i+1):Int) * sj (l+1) (i+1))=sig c (fun i=>(bin c (i+1):Int) * ((i:Int)+1) * sj l (i+1)+(bin c i:Int) * ((c:Int) - i) * sj l i):=by
      refine sig_congr fun i hi=>?_
      rw [sj_succ,← bin_mul]
      grind
    rw [e1,sig_add]
    have e2:sig c (fun i=>(bin c (i+1):Int) * ((i:Int)+1) * sj l (i+1))=sig (c+1) (fun L=>(bin c L:Int) * L * sj l L):=by
      rw [sig_front]
      push_cast
      simp
    have e3:sig c (fun i=>(bin c i:Int) * ((c:Int) - i) * sj l i)=sig (c+1) (fun i=>(bin c i:Int) * ((c:Int) - i) * sj l i):=by
      rw [sigS]
      simp
    rw [e2,e3,← sig_add,Int.pow_succ,← ih,Int.mul_comm,← sig_mul]
    refine sig_congr fun i hi=>?_
    grind
theorem hockey (L:Nat):∀n,sig n (fun j=>(bin (L+j) L:Int))=(bin (L+n) (L+1):Int)
  | 0=>by rw [sig0,Nat.add_zero,bin_big _ _ (by omega)];rfl
  | n+1=>by
    rw [sigS,hockey L n,← Nat.add_assoc,bin_ss]
    push_cast
    omega
theorem begG_get {m L k:Nat}:(begG m L).getD k 0=if k≤min m L then begAt m L k else 0:=by?
  unfold begG begF
  rw [List.getD_eq_getElem?_getD]
  by_cases h:k < min m L+1
  · rw [List.getElem?_append_left (by simpa using h),List.getElem?_map,List.getElem?_range h,if_pos (by omega)]
    rfl
  · rw [List.getElem?_append_right (by simpa using h),if_neg (by omega)]
    simp only [List.length_map,List.length_range]
    cases h2:k - (min m L+1) with
    | zero=>rfl
    | succ j=>rfl
theorem begAt_eq (m L k:Nat):begAt m L k=(bin L k:Int) * cv L (m - k) (L - k):=by
  unfold begAt
  rw [cho_bin];rfl
theorem beg_mono {m L k:Nat} (h:k+1≤min m L):begAt m L (k+1)≤begAt m L k:=by?
  rw [begAt_eq,begAt_eq]
  have e1:m - k=(m - (k+1))+1:=by omega
  have e2:L - (k+1)=L - k - 1:=by omega
  rw [e1,e2,cv_succ _ (by omega)]
  have n1:=cv_nonneg L (m - (k+1)) (L - k) (by omega)
  have n2:=cv_nonneg L (m - (k+1)) (L - k - 1) (by omega)
  have hb:=bin_mul L k
  have c1:((L - k:Nat):Int)=(L:Int) - k:=by omega
  rw [c1]
  obtain ⟨x,hx⟩:∃x,cv L (m - (k+1)) (L - k)=x:=⟨_,rfl⟩
  obtain ⟨y,hy⟩:∃y,cv L (m - (k+1)) (L - k - 1)=y:=⟨_,rfl⟩
  rw [hx] at n1 ⊢
  rw [hy] at n2 ⊢
  obtain ⟨B,hB⟩:∃B:Int,(bin L k:Int)=B:=⟨_,rfl⟩
  obtain ⟨C,hC⟩:∃C:Int,(bin L (k+1):Int)=C:=⟨_,rfl⟩
  have b0:0≤B:=by omega
  have c0:0≤C:=by omega
  rw [hB,hC] at hb ⊢
  have q1:B * (((L:Int) - ((L:Int) - k)) * x+((L:Int) - k) * y)=B * k * x+C * ((k:Int)+1) * y:=by rw [hb];grind
  rw [q1]
  have p1:0≤B * k * x:=Int.mul_nonneg (Int.mul_nonneg b0 (by omega)) n1
  have p2:0≤C * y:=Int.mul_nonneg c0 n2
  have p3:0≤C * y * k:=Int.mul_nonneg p2 (by omega)
  have q2:C * ((k:Int)+1) * y=C * y * k+C * y:=by grind
  omega
theorem begAt_nonneg {m L k:Nat}:0≤begAt m L k:=by
  rw [begAt_eq]
  exact Int.mul_nonneg (by omega) (cv_nonneg _ _ _ (by omega))
theorem begP_nonneg {m L k:Nat} (h:k≤min m L):0≤(begP m L).getD k 0:=by
  rw [begP_get m L k h,begG_get,begG_get,if_pos h]
  split
  · rename_i h2;have:=beg_mono h2;omega
  · have:=begAt_nonneg (m:=m) (L:=L) (k:=k);omega
theorem us_nonneg {c l:Nat} {u:Int×Int} (h:u∈us c l):0≤u.2:=by
  obtain ⟨L,top,kept,h1,h2,h3,h4,h5,h6,rfl⟩:=us_mem h
  have e:((top:Int) - 1)=((top - 1:Nat):Int):=by omega
  refine Int.mul_nonneg ?_ (begP_nonneg (by omega))
  rw [e,cho_bin];omega
theorem us_ge {c l:Nat} {u:Int×Int} (h:u∈us c l):0≤u.1∧(l:Int) - c≤u.1∧(c:Int) - l≤u.1:=by
  obtain ⟨L,top,kept,h1,h2,h3,h4,h5,h6,rfl⟩:=us_mem h
  simp only [number]
  omega
theorem wsum_flat (f:Int→Int) {α:Type} (g:α→List (Int×Int)):∀l:List α,wsum f (l.flatMap g)=(l.map fun a=>wsum f (g a)).sum
  | []=>rfl
  | a::l=>by rw [List.flatMap_cons,wsum_app,wsum_flat f g l];rfl
theorem wsum_map (f:Int→Int) (n:Nat) (g:Nat→Int×Int):wsum f ((List.range n).map g)=sig n fun i=>f (g i).1 * (g i).2:=by
  unfold wsum sig
  rw [List.map_map];rfl
theorem kept_sum {c l L top:Nat} (h1:1≤L) (h2:L≤l) (h3:1≤top):wsum (fun _=>1) (usKept c l L top)=(bin (top - 1) (L - 1):Int) * sj l L:=by?
  unfold usKept
  rw [wsum_map]
  have e:((top:Int) - 1)=((top - 1:Nat):Int):=by omega
  have:sig L (fun i=>(1:Int) * (chooseP ((top:Int) - 1) (L - 1) * (begP l L).getD (i+1) 0))=sig L (fun i=>chooseP ((top:Int) - 1) (L - 1) * ((fun j=>(begG l L).getD (j+1) 0) i - (fun j=>(begG l L).getD (j+1) 0) (i+1))):=
    sig_congr fun i hi=>by rw [Int.one_mul,begP_get l L (i+1) (by omega)]
  rw [this,sig_mul,sig_tel,e,cho_bin]
  congr 1
  rw [begG_get,begG_get,if_pos (by omega),if_neg (by omega),begAt_eq,Int.sub_zero]
  have b1:(bin L (0+1):Int)=L:=by
    have:=bin_mul L 0
    rw [bin0] at this
    simpa using this
  rw [b1,show l=(l - (0+1))+1 by omega,sj_top]
  rw [show l - (0+1)+1 - (0+1)=l - (0+1) by omega]
theorem us_sum {c l:Nat} (hl:l≠0):wsum (fun _=>1) (us c l)=(c:Int) ^ l:=by?
  unfold us
  rw [wsum_flat]
  have e:((List.range (min c l)).map fun i=>wsum (fun _=>1) (usTop c l (i+1))).sum=sig (min c l) fun i=>(bin c (i+1):Int) * sj l (i+1):=by
    refine sig_congr fun i hi=>?_
    unfold usTop
    rw [wsum_flat]
    have e2:((List.range (c+1 - (i+1))).map fun j=>wsum (fun _=>1) (usKept c l (i+1) (i+1+j))).sum=sig (c+1 - (i+1)) fun j=>sj l (i+1) * (bin (i+j) i:Int):=by
      refine sig_congr fun j hj=>?_
      rw [kept_sum (by omega) (by omega) (by omega),Int.mul_comm]
      rw [show i+1+j - 1=i+j by omega,show i+1 - 1=i by omega]
    rw [e2,sig_mul,hockey,show i+(c+1 - (i+1))=c by omega,Int.mul_comm]
  rw [e,← pow_sj c l,sig_front]
  obtain ⟨l',rfl⟩:∃l',l=l'+1:=⟨l - 1,by omega⟩
  rw [sj_s0,Int.mul_zero,Int.zero_add]
  exact (sig_more (by omega) fun i h1 h2=>by rw [sj_big _ _ (by omega),Int.mul_zero]).symm
theorem dget_no {D:DI} {k:Int} (h:k∉keysD D):dget D k=0:=by
  induction D with
  | nil=>rfl
  | cons q D ih=>
    rw [dget_cons,if_neg fun e=>h (by simp [keysD,← e])]
    exact ih fun z=>h (by simp [keysD] at z ⊢;exact .inr z)
theorem sig_dget (f:Int→Int) (N:Nat):∀ (D:DI),ND D→(∀k∈keysD D,0≤k∧k < N)→sig N (fun i=>f i * dget D i)=wsum f D
  | [],_,_=>sig_zero fun i hi=>by rw [dget_nil,Int.mul_zero]
  | q :: D,hn,hk=>by
    have hq:=hk q.1 (by simp [keysD])
    have hn2:ND D:=(List.nodup_cons.mp hn).2
    have hq2:q.1∉keysD D:=(List.nodup_cons.mp hn).1
    rw [wsum_cons,← sig_dget f N D hn2 fun k h=>hk k (by simp only [keysD,List.map_cons,List.mem_cons];exact .inr h)]
    have e:sig N (fun i=>f i * dget (q::D) i)=sig N (fun i=>(if i=q.1.toNat then f q.1 * q.2 else 0)+f i * dget D i):=by
      refine sig_congr fun i hi=>?_
      rw [dget_cons]
      by_cases h:q.1=i
      · rw [if_pos h,if_pos (by omega),← h,dget_no hq2];omega
      · rw [if_neg h,if_neg (by omega)];omega
    rw [e,sig_add]
    congr 1
    rw [sig_more (n:=q.1.toNat+1) (by omega) (fun i h1 h2=>if_neg (by omega)),sigS,if_pos rfl,sig_zero fun i hi=>if_neg (by omega)]
    omega
theorem tbl_nd (c l:Nat):ND (tblP c l):=by
  unfold tblP
  split
  · simp [ND,keysD]
  · exact nd_pos (fold_nd _ _ nd0)
theorem tbl_keys {c l:Nat} {k:Int} (h:k∈keysD (tblP c l)):0≤k∧k < 2 * c+l+2∧(l:Int) - c≤k∧(c:Int) - l≤k:=by?
  by_cases hl:l=0
  · subst hl
    simp [tblP,keysD] at h
    omega
  · rw [tbl_key hl] at h
    have:∃u∈us c l,u.1=k:=Classical.byContradiction fun z=>by
      rw [total_no fun u hu e=>z ⟨u,hu,e⟩] at h
      exact absurd h (by decide)
    obtain ⟨u,hu,rfl⟩:=this
    have h1:=us_ge hu
    have h2:=us_le hu
    omega
theorem gcP_at (c l:Nat) (i:Nat):gcP c l i=dget (tblP c l) i:=if_pos (by omega)
theorem gc_sum (c l:Nat):sig (2 * c+l+2) (fun i=>gcP c l i)=(c:Int) ^ l:=by?
  have e:=sig_dget (fun _=>1) (2 * c+l+2) (tblP c l) (tbl_nd c l) fun k h=>by have:=tbl_keys h;omega
  have e2:sig (2 * c+l+2) (fun i=>gcP c l i)=sig (2 * c+l+2) (fun i=>1 * dget (tblP c l) i):=sig_congr fun i _=>by rw [gcP_at,Int.one_mul]
  rw [e2,e]
  by_cases hl:l=0
  · subst hl;simp [tblP,wsum]
  · rw [tbl_wsum _ hl fun u hu=>us_nonneg hu,us_sum hl]
theorem gc_due (c l:Nat):sig (2 * c+l+2) (fun i=>(i:Int) * gcP c l i)=csP c l:=by
  have e:=sig_dget (fun k=>k) (2 * c+l+2) (tblP c l) (tbl_nd c l) fun k h=>by have:=tbl_keys h;omega
  rw [show csP c l=wsum (fun k=>k) (tblP c l) from rfl,← e]
  exact sig_congr fun i _=>by rw [gcP_at]
theorem gc_nonneg {c l:Nat} (i:Nat):0≤gcP c l i:=by
  rw [gcP_at]
  by_cases hl:l=0
  · subst hl
    by_cases e:(c:Int)=i <;> simp [tblP,dget,e]
  · rw [tbl_get hl];split <;> omega
end Sg
namespace Vg
open PySem hiding Env
open Sg
noncomputable
def cntOk (c l:Int):Bool:=decide (0≤c∧c≤20∧0≤l∧l≤30)
noncomputable
def gcF:VF:=fun vs=>match vs with
  | [.int c,.int l,.int n]=>if cntOk c l=true then .ok (.im (.int (gcP c.toNat l.toNat n)),[]) else .no
  | _=>.no
noncomputable
def csF:VF:=fun vs=>match vs with
  | [.int c,.int l]=>if cntOk c l=true then .ok (.im (.int (csP c.toNat l.toNat)),[]) else .no
  | _=>.no
theorem rr_ints {F:FF} {ps:List PV} {st:Store}:∀ {is:List Int},RR F (vst [] 0 (is.map NV.int)) (ps.map some) st→ps=is.map PV.int:=by?
  intro is r
  apply List.ext_getElem?
  intro k
  have hl:=r.len
  rw [vst_len,List.length_map,List.length_map] at hl
  by_cases hk:k < is.length
  · have h1:(vst [] 0 (is.map NV.int))[k]? = some (.sh (.int is[k])):=by
      rw [vst_get]
      simp [List.getElem?_eq_getElem hk]
    obtain ⟨p,q1,q2⟩:=r.sh _ _ h1
    cases q2
    rw [List.getElem?_map] at q1
    rw [List.getElem?_map,List.getElem?_eq_getElem hk]
    cases h:ps[k]? with
    | none=>rw [h] at q1;cases q1
    | some q=>rw [h] at q1;simpa using q1
  · rw [List.getElem?_eq_none (by omega),List.getElem?_eq_none (by simp;omega)]
theorem cnt_to {c l:Int} (h:cntOk c l=true):∃a b:Nat,c=a∧l=b∧a≤20∧b≤30:=by
  have:=of_decide_eq_true h
  exact ⟨c.toNat,l.toNat,by omega,by omega,by omega,by omega⟩
theorem rfn_ints {f:Fn} {is:List Int} {F:FF} {st:Store} {ps:List PV} {v:NV} {p:PV} {ev:EV} {os:List NV} (r:RR F (vst [] 0 (is.map NV.int)) (ps.map some) st) (hf:f (is.map PV.int) st=.ok (p,st)) (hv:VRep F v p)
    (h:(R.ok (EV.im v,[]):R EF (EV×List NV))=.ok (ev,os)):∃r st' F' envf,f ps st=.ok (r,st')∧Go F (vst [] 0 (is.map NV.int)) (ps.map some) st F' envf (ps.map some) st'∧outs envf []=some os∧EVR F' envf (ps.map some) st' st.length ev r∧∀k,ev≠.sl k:=by
  cases h
  rw [rr_ints r]
  rw [rr_ints r] at r
  exact ⟨p,st,F,_,hf,Go.refl r,rfl,hv,fun k h=>by cases h⟩
theorem r_gcF:RFn (fnOf 3 mGoalCount) gcF []:=fun F st vs ps r ev os h=>by
  unfold gcF at h
  split at h
  · rename_i c l n
    split at h
    · rename_i hc
      obtain ⟨a,b,rfl,rfl,ha,hb⟩:=cnt_to hc
      simp only [Int.toNat_natCast] at h
      exact rfn_ints (is:=[(a:Int),b,n]) r (goalCount_ok ha hb n st) (.int _) h
    · cases h
  · cases h
theorem r_csF:RFn (fnOf 4 mCostSum) csF []:=fun F st vs ps r ev os h=>by
  unfold csF at h
  split at h
  · rename_i c l
    split at h
    · rename_i hc
      obtain ⟨a,b,rfl,rfl,ha,hb⟩:=cnt_to hc
      simp only [Int.toNat_natCast] at h
      exact rfn_ints (is:=[(a:Int),b]) r (costSum_ok ha hb st) (.int _) h
    · cases h
  · cases h
end Vg
namespace Vg
open PySem Sg
section
variable {F:FF} {env:Env} {σ:Slots} {st:Store}
theorem RR.lock (r:RR F env σ st) {j:Nat} {kvs:List (NV×NV)} {kps:List (PV×PV)} (hj:env[j]? = some (.ow (.dct kvs))) {i:Nat} (hi:σ[j]? = some (some (.ref i))) (hF:F i=none) (ho:st[i]? = some (.dct kps)) (hr:VRepd F kvs kps) :
    Go F env σ st (addF F i (.fdc kps)) (env.set j (.sh (.dct kvs))) σ (st.set i (.fdc kps)):=by?
  have hjl:j < env.length:=(List.getElem?_eq_some_iff.mp hj).1
  have mj:mutV env j=some (.dct kvs):=by unfold mutV;rw [hj];rfl
  have mget:∀ {k:Nat} {w:NV},mutV (env.set j (.sh (.dct kvs))) k=some w→k≠j∧mutV env k=some w:=fun {k w} q=>by
    by_cases e:k=j
    · subst e
      unfold mutV at q
      rw [List.getElem?_set_self hjl] at q
      cases q
    · refine ⟨e,?_⟩
      unfold mutV at q ⊢
      rw [List.getElem?_set_ne (fun z=>e z.symm)] at q
      exact q
  have il:=get_lt ho
  have ext:=addF_ext (o:=PO.fdc kps) hF
  refine ⟨⟨by rw [List.length_set];exact r.len,fun k o q=>?_,fun k o q=>?_,fun k w q=>?_,fun k w q=>?_,fun k p q=>by rw [List.length_set];exact r.rf k p q,fun k l w u c q1 q2 q3 q4=>?_⟩,ext,fun k hk hn=>?_,by rw [List.length_set];exact Nat.le_refl _,fun k ⟨l,w,q1,q2⟩=>.inl ⟨l,w,(mget q1).2,q2⟩,fun k w q=>?_⟩
  · rw [set_getP il]
    unfold addF at q
    by_cases e:k=i
    · subst e;rw [if_pos rfl] at q ⊢;exact q
    · rw [if_neg e] at q
      rw [if_neg (fun z=>e z.symm)];exact r.sub k o q
  · rw [List.length_set]
    rw [set_getP il] at q
    split at q
    · cases q
      have z:=r.wf i _ ho
      exact z
    · exact r.wf k o q
  · by_cases e:k=j
    · subst e
      rw [List.getElem?_set_self hjl] at q
      cases q
      exact ⟨_,hi,.fdc (if_pos rfl) (hr.mono ext)⟩
    · rw [List.getElem?_set_ne (fun z=>e z.symm)] at q
      obtain ⟨p,h1,h2⟩:=r.sh k w q
      exact ⟨p,h1,h2.mono ext⟩
  · obtain ⟨hk,q⟩:=mget q
    obtain ⟨c,o,h1,h2,h3,h4⟩:=r.mu k w q
    have hc:c≠i:=fun e=>hk (r.dj k j w _ i q mj (by rw [← e];exact h1) hi)
    refine ⟨c,o,h1,?_,?_,h4.mono ext⟩
    · unfold addF;rw [if_neg hc];exact h2
    · rw [set_getP il,if_neg (fun z=>hc z.symm)];exact h3
  · exact r.dj k l w u c (mget q1).2 (mget q2).2 q3 q4
  · have hki:k≠i:=fun e=>hn ⟨j,_,mj,by rw [e];exact hi⟩
    refine ⟨?_,?_⟩
    · rw [set_getP il,if_neg (fun z=>hki z.symm)]
    · unfold addF;rw [if_neg hki]
  · by_cases e:k=j
    · subst e;rw [hj] at q;cases q
    · exact ⟨rfl,w,by rw [List.getElem?_set_ne (fun z=>e z.symm)];exact q⟩
end
end Vg
namespace Sg
open PySem PySem.Spec PyProof.Rows L2
noncomputable
def isDct (st:Store):PV→Bool
  | .ref i=>(dctR st i).isSome
  | _=>false
noncomputable
def mGetT:PV→Fn:=fun x vs st=>match x with
  | .ref i=>match dctR st i with
    | some kvs=>match vs with
      | [k]=>if tkOk k=true then .ok ((dGet kvs k).getD .non,st) else .stuck
      | [k,d]=>if tkOk k=true then .ok ((dGet kvs k).getD d,st) else .stuck
      | _=>.stuck
    | none=>.stuck
  | _=>.stuck
section
variable {X:Cx}
theorem kd_dct:KindD X "dict" isDct:=by?
 exact fun ad H st p x R V h pins s σ u I r=>by
  cases V with
  | ref hi=>
    simp only [isDct] at h
    obtain ⟨kvs,hk⟩:=Option.isSome_iff_exists.mp h
    obtain ⟨a,es,e0,ha,e,d⟩:=dctR_of R (.ref hi) rfl hk
    cases e0
    cases r
    obtain ⟨z,hd,us,rr,dd⟩:=dx_at I e d
    obtain ⟨o,en,ep,ho,hx,_⟩:=dd
    exact ⟨⟨o,ho,hx.1⟩,fun b z=>by cases z;exact ⟨o,ho,hx.2.1⟩⟩
  | _=>cases h
theorem dgetX {ad:List Addr} {H:Hp} {ps:List (PV×PV)} {es:List (NK×Addr×V)} {us:List (NK×Addr×Value)} (d:DT X.wd ad H ps es) (r:UsR es us) {kp:PV} (hk:tkOk kp=true) {dp:PV} {w:V} {wv:Value} (D:VR X.wd ad H dp w) (rw':RelV w wv) :
    ∃v,VR X.wd ad H ((dGet ps kp).getD dp) v∧RelV v (((atKey us (nkP kp)).map (·.2)).getD wv):=by
  have g:=d.get r hk
  cases h:dGet ps kp with
  | none=>rw [h] at g;rw [show atKey us (nkP kp)=none from g];exact ⟨w,D,rw'⟩
  | some p=>
    rw [h] at g
    obtain ⟨b,u,v,e,V,rv⟩:=g
    rw [e];exact ⟨v,V,rv⟩
theorem md_getT (hu:X.A.units+64 < cLine):MtR X "dict.get" (rMOf X mGetT):=by?
  intro pins s σ H x xs v us Q I rx rs ⟨ad,st,p,ps,R,V,Vs,h⟩
  unfold mGetT at h
  split at h
  · rename_i i
    split at h
    · rename_i kvs hs
      obtain ⟨a,es,rfl,ha,e,d⟩:=dctR_of R V rfl hs
      cases rx
      obtain ⟨z,hd,ws,rr,dd⟩:=dx_at I e d
      split at h
      · rename_i k
        obtain ⟨y,e2,ry⟩:=Vs.one
        subst e2
        obtain ⟨u,rfl,ru⟩:=rs.one
        split at h
        · rename_i hk
          obtain ⟨b,rfl⟩:=key_vr hk ry
          cases ru
          obtain ⟨w,W,rw'⟩:=dgetX d rr hk (dp:=.non) (w:=.non) (wv:=.none) .non rfl
          refine call_meetsIn F.slot_dict_get dd.typeIs F.entry_dict_get (F.args_dict_get_2 _ _) (meetsH_dict_get (nestedKind X.prog X.w) a b hd) ⟨nk_room hu _ _,_,_,tk_at I hk ry,dd,?_⟩
          exact ⟨w,H,I.tok _,rw',rdOk h R W⟩
        · exact h.elim
      · rename_i k dp
        obtain ⟨y,y2,e2,ry,rz⟩:=Vs.two
        subst e2
        obtain ⟨u,u2,rfl,ru,ru2⟩:=vals2 rs
        split at h
        · rename_i hk
          obtain ⟨b,rfl⟩:=key_vr hk ry
          cases ru
          obtain ⟨w,W,rw'⟩:=dgetX d rr hk rz ru2
          refine call_meetsIn F.slot_dict_get dd.typeIs F.entry_dict_get (F.args_dict_get_3 _ _ _) (meetsH_dict_get_default (nestedKind X.prog X.w) a b hd _) ⟨nk_room hu _ _,_,_,tk_at I hk ry,dd,?_⟩
          exact ⟨w,H,I.tok _,rw',rdOk h R W⟩
        · exact h.elim
      · exact h.elim
    · exact h.elim
  · exact h.elim
theorem mr_getT (hu:X.A.units+64 < cLine):MethR X "get" isDct mGetT:=MethR.mk PySem.F.plainAttrs_dict PySem.F.slot_dict_get PySem.F.type_dict_get (md_getT hu) kd_dct
end
end Sg
namespace Vg
open PySem Sg
noncomputable
def kDct:NV→Bool
  | .dct _=>true
  | _=>false
theorem kv_dct:KnV isDct kDct:=fun F st u p s h q=>by
  cases u <;> simp [kDct] at q
  obtain ⟨i,ps,rfl,h1,r⟩:=h.dct s;simp only [isDct,h1];rfl
noncomputable
def vmGetT:NV→List NV→Option EV:=fun u vs=>match u,vs with
  | .dct kvs,[k]=>if vtkOk k=true then some (.im ((vdGet kvs k).getD .non)) else none
  | .dct kvs,[k,d]=>if (vtkOk k && vflat d)=true then some (.im ((vdGet kvs k).getD d)) else none
  | _,_=>none
theorem mv_getT:MeV mGetT vmGetT:=by?
 exact fun F st u p vs ps s hu h ev q=>by
  unfold vmGetT at q
  split at q
  · obtain ⟨i,ps',rfl,h1,r⟩:=hu.dct s
    obtain ⟨p,rfl,h'⟩:=h.one
    split at q
    · rename_i hk
      cases q
      have vx:=tk_L h' hk
      rcases dgetT_rep vx hk r with ⟨h2,h3⟩ | ⟨w,z,h2,h3,h4⟩
      · exact ⟨_,st,by simp only [mGetT,h1,tk_ok vx hk,if_true,h3];rfl,by rw [h2];exact .im .non⟩
      · exact ⟨_,st,by simp only [mGetT,h1,tk_ok vx hk,if_true,h3];rfl,by rw [h2];exact .im h4⟩
    · cases q
  · obtain ⟨i,ps',rfl,h1,r⟩:=hu.dct s
    obtain ⟨p,p2,rfl,h',hd⟩:=h.two
    split at q
    · rename_i hk
      cases q
      rw [Bool.and_eq_true] at hk
      have vx:=tk_L h' hk.1
      have vd:=flat_L hd hk.2
      rcases dgetT_rep vx hk.1 r with ⟨h2,h3⟩ | ⟨w,z,h2,h3,h4⟩
      · exact ⟨_,st,by simp only [mGetT,h1,tk_ok vx hk.1,if_true,h3];rfl,by rw [h2];exact .im vd⟩
      · exact ⟨_,st,by simp only [mGetT,h1,tk_ok vx hk.1,if_true,h3];rfl,by rw [h2];exact .im h4⟩
    · cases q
  · cases q
end Vg
namespace Sg
open PySem PySem.Spec PyProof.Rows L2
noncomputable
def opShl:Op2:=fun x y st=>match x,y with
  | .int i,.int j=>if 0≤j∧j≤1000000∧i.natAbs < 2 ^ 64 then .ok (.int (i * 2 ^ j.toNat),st) else .stuck
  | _,_=>.stuck
noncomputable
def opShr:Op2:=fun x y st=>match x,y with
  | .int i,.int j=>if 0≤j then .ok (.int (i / 2 ^ j.toNat),st) else .stuck
  | _,_=>.stuck
noncomputable
def opAnd1:Op2:=fun x y st=>match x,y with
  | .int i,.int j=>if 0≤i∧j=1 then .ok (.int (i % 2),st) else .stuck
  | _,_=>.stuck
section
variable {X:Cx}
theorem od_shl:OpD X (binaryOp .LShift) opShl:=OpR.to op_shl fun x y H Q ⟨ad,st,p,q,R,V,W,h⟩=>by
  cases V with
  | int i=>
    cases W with
    | int j=>
      simp only [opShl] at h
      split at h
      · rename_i hc
        exact ⟨i,j,rfl,rfl,hc,rdOk h R (.int _)⟩
      · exact h.elim
    | _=>exact h.elim
  | _=>exact h.elim
theorem od_shr:OpD X (binaryOp .RShift) opShr:=OpR.to op_shr fun x y H Q ⟨ad,st,p,q,R,V,W,h⟩=>by
  cases V with
  | int i=>
    cases W with
    | int j=>
      simp only [opShr] at h
      split at h
      · rename_i hc
        exact ⟨i,j,rfl,rfl,hc,rdOk h R (.int _)⟩
      · exact h.elim
    | _=>exact h.elim
  | _=>exact h.elim
theorem od_and1:OpD X (binaryOp .BitAnd) opAnd1:=by?
 exact OpR.to op_odd fun x y H Q ⟨ad,st,p,q,R,V,W,h⟩=>by
  cases V with
  | int i=>
    cases W with
    | int j=>
      simp only [opAnd1] at h
      split at h
      · rename_i hc
        obtain ⟨h0,rfl⟩:=hc
        obtain ⟨n,rfl⟩:∃n:Nat,i=n:=⟨i.toNat,by omega⟩
        refine ⟨n,rfl,rfl,?_⟩
        have e:((n:Nat):Int) % 2=((n % 2:Nat):Int):=by omega
        rw [e] at h
        exact rdOk h R (.int _)
      · exact h.elim
    | _=>exact h.elim
  | _=>exact h.elim
end
end Sg
namespace Vg
open PySem Sg
noncomputable
def voShl:VO2:=fun x y=>match x,y with
  | .int i,.int j=>if 0≤j∧j≤1000000∧i.natAbs < 2 ^ 64 then some (.im (.int (i * 2 ^ j.toNat))) else none
  | _,_=>none
theorem ov_shl:OpV opShl voShl:=fun F st a b p q s ha hb ev h=>by
  unfold voShl at h
  split at h
  · cases ha.int;cases hb.int
    split at h
    · rename_i hl;cases h;exact ⟨_,_,if_pos hl,.im (.int _)⟩
    · cases h
  · cases h
noncomputable
def voShr:VO2:=fun x y=>match x,y with
  | .int i,.int j=>if 0≤j then some (.im (.int (i / 2 ^ j.toNat))) else none
  | _,_=>none
theorem ov_shr:OpV opShr voShr:=fun F st a b p q s ha hb ev h=>by
  unfold voShr at h
  split at h
  · cases ha.int;cases hb.int
    split at h
    · rename_i hl;cases h;exact ⟨_,_,if_pos hl,.im (.int _)⟩
    · cases h
  · cases h
noncomputable
def voAnd1:VO2:=fun x y=>match x,y with
  | .int i,.int j=>if 0≤i∧j=1 then some (.im (.int (i % 2))) else none
  | _,_=>none
theorem ov_and1:OpV opAnd1 voAnd1:=fun F st a b p q s ha hb ev h=>by
  unfold voAnd1 at h
  split at h
  · cases ha.int;cases hb.int
    split at h
    · rename_i hl;cases h;exact ⟨_,_,if_pos hl,.im (.int _)⟩
    · cases h
  · cases h
end Vg
namespace Sg
open PySem PySem.Spec PyProof.Rows L2
noncomputable
abbrev MOST:Nat:=8000000
noncomputable
def room:List (Option Str)→Nat
  | []=>0
  | some x::l=>x.length+room l
  | none::l=>MOST+room l
noncomputable
def isBareP:PV→Bool
  | .ty s=>s == "<bare>"
  | _=>false
/-- what is wanted of an exception -/
noncomputable
def XOk (W:Wd) (E:XK) (c:Str) (p:PV) (st:Store) (ad:List Addr) (H:Hp):Prop:=
  ∀ ad' H',Ext ad H ad' H'→RO W ad' H' st→(isBareP p=true→∀C,W.mg c=some (.ref C)→E (.ref C) none H') ∧
    (isBareP p=false→∀v,VR W ad' H' p v→∀C d,W.mg c=some (.ref C)→H' d=some (.xd [("value", v)])→E (.ref C) (some d) H')
noncomputable
def RdZ {α:Type} (W:Wd) (E:XK) (r:Res α) (ad:List Addr) (H:Hp) (G:α→List Addr→Hp→Prop):Prop:=match r with
  | .ok x=>∀ad' H',Ext ad H ad' H'→G x ad' H'
  | .exc c p st=>XOk W E c p st ad H
  | .stuck=>False
section
variable {W:Wd} {E:XK} {ad ad':List Addr} {H H':Hp} {st:Store} {α β:Type}
theorem XOk.mono {c:Str} {p:PV} (h:XOk W E c p st ad H) (e:Ext ad H ad' H'):XOk W E c p st ad' H':=fun ad2 H2 e2=>h ad2 H2 (e.trans e2)
theorem RdZ.mono {r:Res α} {G:α→List Addr→Hp→Prop} (h:RdZ W E r ad H G) (e:Ext ad H ad' H'):RdZ W E r ad' H' G:=by
  cases r with
  | ok x=>exact fun ad2 H2 e2=>h ad2 H2 (e.trans e2)
  | exc _ _ _=>exact XOk.mono h e
  | stuck=>exact h
theorem RdZ.imp {r:Res α} {G G':α→List Addr→Hp→Prop} (h:RdZ W E r ad H G) (g:∀x ad' H',r=.ok x→Ext ad H ad' H'→G x ad' H'→G' x ad' H'):RdZ W E r ad H G':=by
  cases r with
  | ok x=>exact fun ad2 H2 e2=>g x ad2 H2 rfl e2 (h ad2 H2 e2)
  | exc _ _ _=>exact h
  | stuck=>exact h
theorem RdZ.bind {r:Res α} {f:α→Res β} {G:β→List Addr→Hp→Prop} (h:RdZ W E (r >>= f) ad H G):RdZ W E r ad H fun x ad' H'=>RdZ W E (f x) ad' H' G:=by
  cases r with
  | ok x=>exact fun ad2 H2 e2=>RdZ.mono (r:=f x) h e2
  | exc _ _ _=>exact h
  | stuck=>exact h
theorem RdZ.ok {x:α} {G:α→List Addr→Hp→Prop} (h:RdZ W E (.ok x) ad H G):G x ad H:=h ad H (.refl ad H)
theorem RdZ.bind_ok {r:Res α} {f:α→Res β} {x:α} {G:β→List Addr→Hp→Prop} (h:RdZ W E (r >>= f) ad H G) (e:r=.ok x):RdZ W E (f x) ad H G:=by
  rw [e] at h;exact h
end
section
variable (W:Wd) (E:XK)
noncomputable
def RdXE (r:Res (PV×Store)) (ad:List Addr) (H:Hp) (Q:VK):Prop:=RdZ W E r ad H fun x ad' H'=>RO W ad' H' x.2→∀v,VR W ad' H' x.1 v→Q v H'
end
noncomputable
def PmX (W:Wd) (n:Nat) (F:Fn) (vs:List V) (H:Hp) (Q:VK) (E:XK):Prop:=vs.length=n∧∃ad st ps,RO W ad H st∧VRs W ad H ps vs∧RdXE W E (F ps st) ad H Q
noncomputable
def FnX (W:Wd) (base:Heap) (k:Nat) (f:Addr) (fd:FuncData) (ps:List Str) (F:Fn):Prop:=
  ∀ (A:Around) (o:List Env) (s:Shared) (H:Hp) (args:Args) (us:List Value) (vs:List V) (Q:VK) (E:XK),Rm k A→Env0 W.P W.w W.K W.mg base A o s H→BindsTo s fd args (ps.zip us) →
    Vals vs us→PmX W ps.length F vs H Q E→codeAny (model W.P W.w) A (.call (.ref f) args) (CR (L2.CX W.P W.w) o W.P W.w H s Q E) s
theorem FnX.mono {W:Wd} {base:Heap} {j k:Nat} {f:Addr} {fd:FuncData} {ps:List Str} {F:Fn} (h:FnX W base j f fd ps F) (q:j≤k):FnX W base k f fd ps F:=
  fun A o s H args us vs Q E hr=>h A o s H args us vs Q E (hr.mono q)
end Sg
namespace Sg
open PySem PySem.Spec PyProof.Rows L2 LamX
noncomputable
def PmH (W:Wd) (n:Nat) (F:Fn) (vs:List V) (H:Hp) (Q:VK):Prop:=vs.length=n∧∃ad st ps p v,RO W ad H st∧VRs W ad H ps vs∧VR W ad H p v∧RdE W (F (ps++[p]) st) ad H Q
noncomputable
def FnH (W:Wd) (base:Heap) (k:Nat) (f:Addr) (fd:FuncData) (ps:List Str) (F:Fn):Prop:=
  ∀ (A:Around) (o:List Env) (s:Shared) (H:Hp) (args:Args) (us:List Value) (vs:List V) (Q:VK),Rm k A→Env0 W.P W.w W.K W.mg base A o s H→BindsTo s fd args (ps.zip us) →
    Vals vs us→PmH W ps.length F vs H Q→codeAny (model W.P W.w) A (.call (.ref f) args) (CR CX0 o W.P W.w H s Q noX) s
theorem FnH.mono {W:Wd} {base:Heap} {j k:Nat} {f:Addr} {fd:FuncData} {ps:List Str} {F:Fn} (h:FnH W base j f fd ps F) (q:j≤k):FnH W base k f fd ps F:=
  fun A o s H args us vs Q hr=>h A o s H args us vs Q (hr.mono q)
end Sg
namespace Sg
open PySem PySem.W PySem.Spec PyProof.Rows L2 LamX
noncomputable
def isStrV:Value→Bool
  | .str _ _=>true
  | _=>false
noncomputable
def isIntV:Value→Bool
  | .int _ _=>true
  | _=>false
noncomputable
def isBoolV:Value→Bool
  | .bool _=>true
  | _=>false
theorem isStrV_ok {v:Value} (h:isStrV v=true):∃s t,v=.str s t:=by cases v <;> first | exact ⟨_,_,rfl⟩ | cases h
theorem isIntV_ok {v:Value} (h:isIntV v=true):∃s t,v=.int s t:=by cases v <;> first | exact ⟨_,_,rfl⟩ | cases h
theorem isBoolV_ok {v:Value} (h:isBoolV v=true):∃s,v=.bool s:=by cases v <;> first | exact ⟨_,rfl⟩ | cases h
/-- a code object of the head,its table at P -/
structure CodeK (K:PySem.W.Frag) (c P:Addr):Prop where
  ex:∃ (dd:Option Addr) (vs:Array Value) (sl:Array (Option Value)),K.lookup c=some ⟨.type "code", dd,.fields vs,sl⟩∧vs[11]? = some (.ref P)∧vs.getD 11 .none=.ref P∧isStrV (vs.getD 18 .none)=true∧isIntV (vs.getD 7 .none)=true∧isBoolV (vs.getD 9 .none)=true∧isIntV (vs.getD 10 .none)=true
  ne:c≠P
  nP:K.lookup P=none
theorem CodeK.hd {K:PySem.W.Frag} {c P:Addr} (x:CodeK K c P) {h:Heap} (k:K.In h):PySem.W.CodeHd h c P:=by
  obtain ⟨⟨dd,vs,sl,l,h1,h2,h3,h4,h5,h6⟩,ne,_⟩:=x
  obtain ⟨a1,a2,e1⟩:=isStrV_ok h3
  obtain ⟨b1,b2,e2⟩:=isIntV_ok h4
  obtain ⟨c1,e3⟩:=isBoolV_ok h5
  obtain ⟨d1,d2,e4⟩:=isIntV_ok h6
  exact ⟨_,vs,a1,a2,b1,b2,c1,d1,d2,k _ _ l,rfl,rfl,h1,h2,e1,e2,e3,e4,ne⟩
/-- a def whose code object is c -/
noncomputable
def DefT (K:PySem.W.Frag) (x:Str) (st:Stmt) (c:Addr):Prop:=∃ (f:Addr) (fd:FuncData),PySem.W.nsIn K mainGlobals x=some (some (.ref f))∧FunD K x x (L2.defArgs st) (L2.defBody st) (L2.defScope st) [] [] f fd∧fd.code=.ref c
theorem DefT.tab {W:Wd} {h:Heap} {x:Str} {st:Stmt} {c P:Addr} (D:DefT W.K x st c) (KX:W.K.In h) (G:h.Ns mainGlobals W.mg) (C:CodeK W.K c P):TabAt W x P:=by
  obtain ⟨f,fd,a,F,e⟩:=D
  obtain ⟨oc,od,dV,kV,doc,pm,an,cdv,ct,osl,rfl,lk,_⟩:=F.ex
  obtain ⟨dd,vs,sl,l,h1,_⟩:=C.ex
  exact ⟨f,c,oc,_,od,dd,_,vs,osl,sl,PySem.W.mg_of KX G a,lk,e,l,h1⟩
end Sg
namespace Sg
open PySem PySem.W PySem.Spec PyProof.Rows L2
/-- the first def of a class -/
noncomputable
def clsInit:Stmt→Stmt
  | .ClassDef _ _ _ body _ _ _ _ _ _ _=>body.getD 0 (.Pass ⟨0,0,0,0⟩)
  | s=>s
/-- a class of the package with its own __init__ -/
structure DefC (K:PySem.W.Frag) (c:Str) (st:Stmt) (S C:Addr):Prop where
  g:PySem.W.nsIn K mainGlobals c=some (some (.ref C))
  ox:OexC K C
  ini:∃ (fI:Addr) (fd:FuncData),PySem.W.findIn K (.ref C) "__init__" = some (some (.ref fI))∧PySem.W.typeIn K (.ref fI)=some (.type "function")∧FunD K "__init__" (c ++ ".__init__") (L2.defArgs (clsInit st)) (L2.defBody (clsInit st)) (L2.defScope (clsInit st)) [] [] fI fd
  ga:PySem.W.findIn K (.ref C) "__getattribute__" = some (some (.builtin "BaseException.__getattribute__"))
  gg:PySem.W.findIn K (.ref C) "__getattr__" = some none
  hd:PySem.W.hasDictIn K C=true
  ha:PySem.W.findIn K (.ref C) "__class__" = some (some (.builtin "object.__class__"))
  hm:PySem.W.mroIn K C (.type "object")=some true
  va:PySem.W.findIn K (.ref C) "value" = some none
  up:PySem.W.subIn K (.ref C) (.ref S)=some true
inductive DefCs (K:PySem.W.Frag) (S:Addr):List (Str×Addr)→Prop
  | nil:DefCs K S []
  | cons {c:Str} {st:Stmt} {C:Addr} {l:List (Str×Addr)}:DefC K c st S C→(∀q∈l,q.1≠c∧C≠q.2∧PySem.W.subIn K (.ref C) (.ref q.2)=some false∧PySem.W.subIn K (.ref q.2) (.ref C)=some false)→DefCs K S l→DefCs K S ((c,C)::l)
theorem DefCs.at {K:PySem.W.Frag} {S:Addr} {l:List (Str×Addr)} (D:DefCs K S l):∀q∈l,∃st,DefC K q.1 st S q.2:=by
  induction D with
  | nil=>intro q h;cases h
  | cons d _ _ ih=>
    intro q h
    rcases List.mem_cons.mp h with rfl | h
    · exact ⟨_,d⟩
    · exact ih q h
end Sg
namespace Vg
open PySem hiding Env
open Sg
section
variable {ε α β:Type}
/-- exceptions are no statement -/
noncomputable
def noXV (r:R ε α):R ε α:=match r with
  | .ex _=>.no
  | r=>r
@[simp] theorem noXV_of (a:α):noXV (R.ok a:R ε α)=.ok a:=rfl
end
/-- the payload of an exception that has no dict -/
noncomputable
def isBareV:NV→Bool
  | .ty s=>s == "<bare>"
  | _=>false
theorem VRep.bare {F:FF} {v:NV} {p:PV} (h:VRep F v p):isBareP p=isBareV v:=by cases h <;> rfl
/-- nothing in it may change -/
noncomputable
def AllSh (env:Env):Prop:=∀k v,mutV env k≠some v
/-- what a callee that owns nothing leaves to its caller -/
theorem Go.call {F F':FF} {env envc envc':Env} {σ σc σc':Slots} {st st':Store} (r:RR F env σ st) (g:Go F envc σc st F' envc' σc' st') (ha:AllSh envc):Go F env σ st F' env σ st':=by?
  have nO:∀i,¬ Ow envc σc i:=fun i ⟨k,v,h,_⟩=>ha k v h
  have fr:∀i,i < st.length→st'[i]? = st[i]?∧F' i=F i:=fun i hi=>g.frm i hi (nO i)
  refine ⟨⟨r.len,g.rr.sub,g.rr.wf,fun k v q=>?_,fun k v q=>?_,fun k p q=>refsLt_mono g.le _ (r.rf k p q),r.dj⟩,g.ext,fun i hi _=>fr i hi,g.le,fun i q=>.inl q,fun k v q=>⟨rfl,v,q⟩⟩
  · obtain ⟨p,h1,h2⟩:=r.sh k v q
    exact ⟨p,h1,h2.mono g.ext⟩
  · obtain ⟨i,o,h1,h2,h3,h4⟩:=r.mu k v q
    obtain ⟨f1,f2⟩:=fr i (get_lt h3)
    exact ⟨i,o,h1,f2.trans h2,f1.trans h3,h4.mono g.ext⟩
theorem VReps.len {F:FF}:∀ {vs:List NV} {ps:List PV},VReps F vs ps→vs.length=ps.length
  | _,_,.nil=>rfl
  | _,_,.cons _ b=>by rw [List.length_cons,List.length_cons,VReps.len b]
theorem LRep.bex {F:FF} {st:Store} {c:Str} {p:PV} (s:Sub F st) (h:LRep F st (.bex c) p):∃i,p=.ref i∧st[i]? = some (.bex c):=by
  rcases h with h | ⟨i,_,rfl,h1,h⟩
  · cases h with | bex q=>exact ⟨_,rfl,s _ _ q⟩
  · cases h
theorem LRep.exn {F:FF} {st:Store} {c:Str} {v:NV} {p:PV} (s:Sub F st) (h:LRep F st (.exn c v) p):∃i q,p=.ref i∧st[i]? = some (.exn c q)∧VRep F v q:=by
  rcases h with h | ⟨i,_,rfl,h1,h⟩
  · cases h with | exn q r=>exact ⟨_,_,rfl,s _ _ q,r⟩
  · cases h
mutual
noncomputable
def cp:NV→Option PV
  | .non=>some .non
  | .bl b=>some (.bl b)
  | .int i=>some (.int i)
  | .str s=>some (.str s)
  | .tup xs=>(cps xs).map .tup
  | _=>none
noncomputable
def cps:List NV→Option (List PV)
  | []=>some []
  | x::r=>(cp x).bind fun p=>(cps r).map (p :: ·)
end
/-- slots of shared values -/
structure ShR (F:FF) (n:Nat) (E:Env) (S:Slots):Prop where
  len:E.length=S.length
  all:AllSh E
  sh:∀ (k:Nat) v,E[k]? = some (.sh v)→∃p,S[k]? = some (some p)∧VRep F v p
  rf:∀ (k:Nat) p,S[k]? = some (some p)→refsLt n p=true
theorem ShR.put {F:FF} {n:Nat} {E:Env} {S:Slots} (h:ShR F n E S) (i:Nat) {v:NV} {p:PV} (V:VRep F v p) (R:refsLt n p=true):ShR F n (E.set i (.sh v)) (S.set i (some p)):=by?
  refine ⟨by rw [List.length_set,List.length_set,h.len],fun k w q=>?_,fun k w q=>?_,fun k q e=>?_⟩
  · rcases mutV_set q with ⟨_,e⟩ | ⟨_,e⟩
    · cases e
    · exact h.all k w e
  · rcases set_get q with ⟨rfl,e,hk⟩ | ⟨hk,e⟩
    · cases e
      exact ⟨p,List.getElem?_set_self (by rw [← h.len];exact hk),V⟩
    · obtain ⟨p',e1,e2⟩:=h.sh k w e
      exact ⟨p',by rw [List.getElem?_set_ne (Ne.symm hk)];exact e1,e2⟩
  · by_cases hk:k=i
    · subst hk
      by_cases hl:k < S.length
      · rw [List.getElem?_set_self hl] at e
        cases e;exact R
      · rw [List.getElem?_eq_none (by rw [List.length_set];omega)] at e;cases e
    · rw [List.getElem?_set_ne (Ne.symm hk)] at e
      exact h.rf k q e
theorem ShR.drop {F:FF} {n:Nat} {E:Env} {S:Slots} (h:ShR F n E S) (i:Nat):ShR F n (E.set i .un) (S.set i none):=by?
  refine ⟨by rw [List.length_set,List.length_set,h.len],fun k w q=>?_,fun k w q=>?_,fun k q e=>?_⟩
  · rcases mutV_set q with ⟨_,e⟩ | ⟨_,e⟩
    · cases e
    · exact h.all k w e
  · rcases set_get q with ⟨rfl,e,hk⟩ | ⟨hk,e⟩
    · cases e
    · obtain ⟨p',e1,e2⟩:=h.sh k w e
      exact ⟨p',by rw [List.getElem?_set_ne (Ne.symm hk)];exact e1,e2⟩
  · by_cases hk:k=i
    · subst hk
      by_cases hl:k < S.length
      · rw [List.getElem?_set_self hl] at e
        cases e
      · rw [List.getElem?_eq_none (by rw [List.length_set];omega)] at e;cases e
    · rw [List.getElem?_set_ne (Ne.symm hk)] at e
      exact h.rf k q e
end Vg
namespace Sg
open PySem PySem.Spec PyProof.Rows L2
noncomputable
def putP (f:Str) (v:PV):List (PV×PV)→List (PV×PV)
  | []=>[(.str f,v)]
  | (k,p)::r=>if k=.str f then (k,v)::r else (k,p)::putP f v r
section
variable {W:Wd} {ad:List Addr} {H:Hp}
theorem FR.no {f:Str}:∀ {ps:List (PV×PV)} {vs:List (Str×V)},FR W ad H ps vs→fldP f ps=none→vs.lookup f=none
  | _,_,.nil,h=>rfl
  | _,_,.cons (k:=k) r t,h=>by
    unfold fldP at h
    by_cases e:k=f
    · subst e
      rw [if_pos rfl] at h
      cases h
    · rw [if_neg (fun z=>e (PV.str.inj z))] at h
      rw [List.lookup_cons,beq_false_of_ne (fun z=>e z.symm)]
      exact FR.no t h
theorem FR.put {f:Str} {p:PV} {v:V} (r:VR W ad H p v):∀ {ps:List (PV×PV)} {vs:List (Str×V)},FR W ad H ps vs→FR W ad H (putP f p ps) (putF f v vs)
  | _,_,.nil=>.cons r .nil
  | _,_,.cons (k:=k) q t=>by
    unfold putP putF
    by_cases e:k=f
    · subst e
      rw [if_pos rfl,if_pos rfl]
      exact .cons r t
    · rw [if_neg (fun z=>e (PV.str.inj z)),if_neg e]
      exact .cons q (FR.put r t)
theorem FR.length:∀ {ps:List (PV×PV)} {vs:List (Str×V)},FR W ad H ps vs→ps.length=vs.length
  | _,_,.nil=>rfl
  | _,_,.cons _ t=>by rw [List.length_cons,List.length_cons,FR.length t]
end
/-- a class of the package whose objects have an own list,earlier -/
structure ClsO (W:Wd) (c:Str) (C:Addr):Prop where
  g:W.mg c=some (.ref C)
  k:Cls W.K C
  ne:NoAttr W.K C "earlier"
  nd:c≠dictC
structure ObV where
  fs:List (PV×PV)
  b:Bool
  j:Nat
  xs:List PV
/-- the object of class c that a value is -/
noncomputable
def objAt (c:Str) (st:Store):PV→Option (Nat×ObV)
  | .ref i=>match st[i]? with
    | some (.obj c' fs b j xs)=>if c'=c then some (i,⟨fs,b,j,xs⟩) else none
    | _=>none
  | _=>none
end Sg
namespace Sg
open PySem PySem.W PySem.Spec PyProof.Rows L2
structure DefO (K:PySem.W.Frag) (c:Str) (C:Addr):Prop where
  g:PySem.W.nsIn K mainGlobals c=some (some (.ref C))
  k:Cls K C
  ne:NoAttr K C "earlier"
theorem DefO.cls {W:Wd} {h:Heap} {c:Str} {C:Addr} (D:DefO W.K c C) (KX:W.K.In h) (G:h.Ns mainGlobals W.mg) (hd:c≠dictC:=by decide):ClsO W c C:=⟨PySem.W.mg_of KX G D.g,D.k,D.ne,hd⟩
end Sg
namespace Vg
open PySem hiding Env
open Sg
section
variable {F:FF} {f:Str}
theorem VRepd.len:∀ {fs:List (NV×NV)} {ps:List (PV×PV)},VRepd F fs ps→fs.length=ps.length
  | _,_,.nil=>rfl
  | _,_,.cons _ _ r=>by rw [List.length_cons,List.length_cons,VRepd.len r]
end
structure OV where
  fs:List (NV×NV)
  b:Bool
  xs:List NV
noncomputable
def vObj (c:Str):NV→Option OV
  | .obj c' fs b xs=>if c'=c then some ⟨fs,b,xs⟩ else none
  | _=>none
theorem vObj_eq {c:Str} {v:NV} {o:OV} (h:vObj c v=some o):v=.obj c o.fs o.b o.xs:=by
  unfold vObj at h
  split at h
  · split at h
    · rename_i e;subst e;cases h;rfl
    · cases h
  · cases h
theorem ORep.ob {F:FF} {c:Str} {fs:List (NV×NV)} {b:Bool} {xs:List NV} {o:PO} (h:ORep F (.obj c fs b xs) o):∃ps j qs,o=.obj c ps b j qs∧VRepd F fs ps∧VReps F xs qs:=by
  cases h with
  | obj r t=>exact ⟨_,_,_,rfl,r,t⟩
theorem LRep.ob {F:FF} {st:Store} {c:Str} {p:PV} {v:NV} {o:OV} (s:Sub F st) (h:LRep F st v p) (hv:vObj c v=some o):∃i ps j qs,p=.ref i∧objAt c st p=some (i,⟨ps,o.b,j,qs⟩)∧VRepd F o.fs ps∧VReps F o.xs qs:=by
  rw [vObj_eq hv] at h
  rcases h with h | ⟨i,q,rfl,h1,h2⟩
  · cases h with
    | ob a r t=>exact ⟨_,_,_,_,rfl,by simp only [objAt,s _ _ a,if_true];rfl,r,t⟩
  · obtain ⟨ps,j,qs,rfl,r,t⟩:=h2.ob
    exact ⟨i,ps,j,qs,rfl,by simp only [objAt,h1,if_true],r,t⟩
section
variable {c f m:Str} {a:EvE} {a':VE} {as:EvA} {as':VA}
theorem Go.hid {F F1:FF} {env env1:Env} {σ σ1:Slots} {st st1:Store} (g:Go F env σ st F1 env1 σ1 st1) {i:Nat} (hi:st.length≤i) (hF:F1 i=none) (hO:¬ Ow env1 σ1 i):Go F env σ st F1 env1 σ1 (st1.set i .hid):=by?
  have r:=g.rr
  by_cases hl:i < st1.length
  · refine ⟨⟨r.len,fun j o q=>?_,fun j o q=>?_,r.sh,fun k v q=>?_,fun k p q=>by rw [List.length_set];exact r.rf k p q,r.dj⟩,g.ext,fun j hj hn=>?_,by rw [List.length_set];exact g.le,g.own,g.pin⟩
    · rw [set_getP hl,if_neg (fun e=>by subst e;rw [hF] at q;cases q)];exact r.sub j o q
    · rw [List.length_set]
      rw [set_getP hl] at q
      split at q
      · cases q;rfl
      · exact r.wf j o q
    · obtain ⟨j,o,h1,h2,h3,h4⟩:=r.mu k v q
      exact ⟨j,o,h1,h2,by rw [set_getP hl,if_neg (fun e=>hO ⟨k,v,q,by rw [e];exact h1⟩)];exact h3,h4⟩
    · rw [set_getP hl,if_neg (by omega)];exact g.frm j hj hn
  · rw [List.set_eq_of_length_le (by omega)];exact g
end
end Vg
namespace Sg
open PySem PySem.W PySem.Spec PyProof.Rows L2
section
variable {X:Cx} {k k':Nat} {c:Str} {F:Fn} {a b:Expr} {ma mb:EvE} {pos:Pos}
/-- of two objects of class c alone -/
noncomputable
def fO (c:Str) (F:Fn):Fn:=fun ps st=>match ps with
  | [p,q]=>if (objAt c st p).isSome && (objAt c st q).isSome then F [p,q] st else .stuck
  | _=>.stuck
end
end Sg
namespace Vg
open PySem hiding Env
open Sg
noncomputable
def gO (c:Str) (g:VF):VF:=fun vs=>match vs with
  | [u,v]=>if (vObj c u).isSome && (vObj c v).isSome then g [u,v] else .no
  | _=>.no
end Vg
set_option maxHeartbeats 2000000
namespace Sg
open PySem PySem.Spec PyProof.Rows L2
/-- that the classes are ValueErrors -/
noncomputable
def XVe (W:Wd) (cls:List Str):Prop:=∀c∈cls,∀C,W.mg c=some (.ref C)→PySem.W.kitOne W.K (.ref C) (.type "ValueError")=some true
theorem kitOne_ve {K:PySem.W.Frag} {C:Addr} (h:PySem.W.subIn K (.ref C) (.type "ValueError")=some true):PySem.W.kitOne K (.ref C) (.type "ValueError")=some true:=by
  unfold PySem.W.kitOne
  rw [if_neg (by simp)]
  unfold PySem.W.kitCls
  show (if PySem.W.kitMeta "ValueError" = true then PySem.W.subIn K (.ref C) (.type "ValueError") else none)=some true
  rw [if_pos (by decide +kernel),h]
theorem XVe.nil {W:Wd}:XVe W []:=fun _ h=>nomatch h
theorem XVe.cons {W:Wd} {c:Str} {C:Addr} {l:List Str} (hm:W.mg c=some (.ref C)) (h:PySem.W.subIn W.K (.ref C) (.type "ValueError")=some true) (r:XVe W l):XVe W (c::l):=fun d hd D hD=>by
  rcases List.mem_cons.mp hd with rfl | hd
  · rw [hm] at hD;cases hD
    exact kitOne_ve h
  · exact r d hd D hD
end Sg
namespace Sg
open PySem PySem.W PySem.Spec PyProof.Rows L2
structure DefX (K:PySem.W.Frag) (c:Str) (S C:Addr):Prop where
  g:PySem.W.nsIn K mainGlobals c=some (some (.ref C))
  exC:PySem.W.subIn K (.ref C) (.type "BaseException")=some true
  tyC:PySem.W.typeIn K (.ref C)=some (.type "type")
  ga:PySem.W.findIn K (.ref C) "__getattribute__" = some (some (.builtin "BaseException.__getattribute__"))
  gg:PySem.W.findIn K (.ref C) "__getattr__" = some none
  hd:PySem.W.hasDictIn K C=true
  ha:PySem.W.findIn K (.ref C) "__class__" = some (some (.builtin "object.__class__"))
  hm:PySem.W.mroIn K C (.type "object")=some true
  va:PySem.W.findIn K (.ref C) "value" = some none
  up:PySem.W.subIn K (.ref C) (.ref S)=some true
/-- one class against those of a list -/
noncomputable
def offAll (K:PySem.W.Frag) (c:Str) (C:Addr):List (Str×Addr)→Prop
  | []=>True
  | q::r=>(c == q.1)=false∧(C == q.2)=false∧PySem.W.subIn K (.ref C) (.ref q.2)=some false∧PySem.W.subIn K (.ref q.2) (.ref C)=some false∧offAll K c C r
inductive DefXs (K:PySem.W.Frag) (S:Addr):List (Str×Addr)→Prop
  | nil:DefXs K S []
  | cons {c:Str} {C:Addr} {l:List (Str×Addr)}:DefX K c S C→offAll K c C l→DefXs K S l→DefXs K S ((c,C)::l)
theorem offAll.at {K:PySem.W.Frag} {c:Str} {C:Addr}:∀ {l:List (Str×Addr)},offAll K c C l→∀q∈l,q.1≠c∧C≠q.2∧PySem.W.subIn K (.ref C) (.ref q.2)=some false∧PySem.W.subIn K (.ref q.2) (.ref C)=some false
  | [],_,q,h=>nomatch h
  | p::r,⟨h1,h2,h3,h4,h5⟩,q,h=>by
    rcases List.mem_cons.mp h with rfl | h
    · exact ⟨fun z=>by rw [z] at h1;simp at h1,fun z=>by rw [z] at h2;simp at h2,h3,h4⟩
    · exact h5.at q h
theorem DefXs.at {K:PySem.W.Frag} {S:Addr} {l:List (Str×Addr)} (D:DefXs K S l):∀q∈l,DefX K q.1 S q.2:=by
  induction D with
  | nil=>intro q h;cases h
  | cons d _ _ ih=>
    intro q h
    rcases List.mem_cons.mp h with rfl | h
    · exact d
    · exact ih q h
/-- the object's own list is asked -/
noncomputable
def ownL (ob:ObV):Prop:=ob.b=true∧fldP "earlier" ob.fs=none
noncomputable
instance (ob:ObV):Decidable (ownL ob):=by unfold ownL;infer_instance
end Sg
set_option autoImplicit false
set_option autoImplicit false
set_option autoImplicit false
namespace Sg
open PySem PySem.W PySem.Spec PyProof.Rows L2
theorem putP_keys {f:Str} {v:PV}:∀ {fs:List (PV×PV)},fldP f fs≠none→(putP f v fs).map (·.1)=fs.map (·.1)
  | [],h=>absurd rfl h
  | (k,p)::r,h=>by
    unfold fldP at h
    unfold putP
    by_cases e:k=.str f
    · rw [if_pos e];rfl
    · rw [if_neg e] at h ⊢
      rw [List.map_cons,List.map_cons,putP_keys h]
theorem fldP_putNe {f g:Str} {v:PV} (n:f≠g):∀ {fs:List (PV×PV)},fldP g fs≠none→fldP g (putP f v fs)=fldP g fs
  | [],h=>absurd rfl h
  | (k, p)::r,h=>by
    unfold fldP at h
    unfold putP
    by_cases e:k=.str f
    · subst e
      rw [if_neg (fun z=>n (PV.str.inj z))] at h
      rw [if_pos rfl]
      unfold fldP
      rw [if_neg (fun z=>n (PV.str.inj z)),if_neg (fun z=>n (PV.str.inj z))]
    · rw [if_neg e]
      unfold fldP
      by_cases e2:k=.str g
      · rw [if_pos e2,if_pos e2]
      · rw [if_neg e2] at h
        rw [if_neg e2,if_neg e2]
        exact fldP_putNe n h
theorem PastOk.put {f:Str} {v:PV} {fs:List (PV×PV)} (h:PastOk fs) (n:f≠pastK) (hf:fldP f fs≠none):PastOk (putP f v fs):=
  ⟨by rw [fldP_putNe n (by rw [h.f];simp)];exact h.f,by rw [putP_keys hf];exact h.n⟩
end Sg
set_option autoImplicit false
set_option autoImplicit false
set_option autoImplicit false
namespace Vg
open PySem hiding Env
open Sg
section
variable {F:FF} {env env':Env} {σ:Slots} {st:Store}
theorem LRep.dsk {s b:NV} {p:PV} (sb:Sub F st) (h:LRep F st (.dsk s b) p):∃i q fs ps j l xs qs,p=.ref i∧b=.obj benchC fs true xs∧st[i]? = some (.dsk q ps j l qs)∧VRep F s q∧VRepd F fs ps∧VReps F xs qs:=by
  rcases h with h | ⟨i,o,rfl,h1,h2⟩
  · cases h with
    | dsk a r1 r2 r3=>exact ⟨_,_,_,_,_,_,_,_,rfl,rfl,sb _ _ a,r1,r2,r3⟩
  · cases h2 with
    | dsk r1 r2 r3=>exact ⟨_,_,_,_,_,_,_,_,rfl,rfl,h1,r1,r2,r3⟩
theorem LRep.nor {G:FF} {v:NV} {p:PV} (h:LRep F st v p) (n:noref v=true):VRep G v p:=by
  rcases h with h | ⟨i,o,rfl,h1,h2⟩
  · exact h.nor n
  · cases h2 <;> simp [noref] at n
end
end Vg
set_option autoImplicit false
namespace Vg
open PySem hiding Env
open Sg
section
variable {st:Store} {i j l:Nat} {s:PV} {fs:List (PV×PV)} {xs:List PV}
/-- the objects that the bench's method may not change -/
noncomputable
def Fc (n:Nat) (o:PO) (b:Bool):FF:=fun q=>if q=n∧b=true then some o else none
end
end Vg
namespace Sg
open PySem PySem.Spec PyProof.Rows L2
noncomputable
def opOr:Op2:=fun x y st=>match x,y with
  | .int i,.int j=>.ok (.int (Builtin.bitOr i j),st)
  | _,_=>.stuck
noncomputable
def unBits (x:PV) (st:Store):Res (PV×Store):=match x with
  | .int i=>.ok (.int (Builtin.Int.intBits i:Nat),st)
  | _=>.stuck
section
variable {X:Cx}
theorem od_or:OpD X (binaryOp .BitOr) opOr:=OpR.to op_or fun x y H Q ⟨ad,st,p,q,R,V,W,h⟩=>by
  cases V with
  | int i=>
    cases W with
    | int j=>exact ⟨i,j,rfl,rfl,rdOk h R (.int _)⟩
    | _=>exact h.elim
  | _=>exact h.elim
theorem se_bits {o:Expr} {ma:EvE} {apos pos:Pos} (ha:SE X o ma) (hbase:attributeBase o "bit_length" X.env (eval o X.env)=eval o X.env:=by rfl) (hline:(apos.endLine == pos.line)=true:=by rfl):SE X (.Call (.Attribute o "bit_length" apos) [] [] pos) (eUn unBits ma):=
  PE.to (pe_bits ha hbase hline) fun σ H Q ⟨ad,st,σp,S,q⟩=>goE S q fun x ad1 H1 v e1 E1 S1 V1 q1=>by
    obtain ⟨p,st'⟩:=x
    cases V1 with
    | int i=>exact ⟨i,rfl,RdG.ok q1 S1.ro _ (.int _)⟩
    | _=>exact q1.elim
end
end Sg
namespace Vg
open PySem Sg
noncomputable
def voOr:VO2:=fun x y=>match x,y with
  | .int i,.int j=>some (.im (.int (Builtin.bitOr i j)))
  | _,_=>none
theorem ov_or:OpV opOr voOr:=fun F st a b p q s ha hb ev h=>by
  unfold voOr at h
  split at h
  · cases ha.int;cases hb.int
    cases h;exact ⟨_,_,rfl,.im (.int _)⟩
  · cases h
noncomputable
def vuBits:NV→Option EV
  | .int i=>some (.im (.int (Builtin.Int.intBits i:Nat)))
  | _=>none
theorem uv_bits:UnV unBits vuBits:=fun F st u p s hu ev h=>by
  unfold vuBits at h
  split at h
  · cases hu.int
    cases h;exact ⟨_,_,rfl,.im (.int _)⟩
  · cases h
end Vg
namespace Vg
open PySem hiding Env
open Sg
/-- the pairs of a new dict with tuples for keys -/
noncomputable
def viItemsTF (a:VE):VI:=fun env=>a env >>= fun x=>match x.1 with
  | .fr (.dct kvs)=>.ok (kvs.map fun q=>.tup [q.1,q.2],x.2)
  | _=>.no
theorem ri_itemsTF {a:EvE} {a':VE} (ha:RE a a'):RI (iItemsX a) (viItemsTF a'):=by?
 exact fun F env σ st r xs env' h=>by
  simp only [viItemsTF,R.bind_ok] at h
  obtain ⟨⟨x,env1⟩,h1,h2⟩:=h
  obtain ⟨p,st1,F1,e1,G1,v1⟩:=ha F env σ st r x env1 h1
  split at h2
  · rename_i x0 kvs hx
    have hx:x=.fr (.dct kvs):=hx
    subst hx
    cases h2
    obtain ⟨i,o,rfl,k2,k3,k4,k5,k6⟩:=v1
    cases k5 with
    | dct kd=>
      rename_i kps
      refine ⟨kps.map fun q=>.tup [q.1,q.2],[],st1.set i .dead,F1,?_,G1.dead k2 k3 k6,VRepd.prs kd,by simp⟩
      unfold iItemsX
      rw [e1]
      simp only [bind_ok,dctAt,k4]
  · cases h2
end Vg
set_option autoImplicit false
namespace Vg
open PySem hiding Env
open Sg
/-- x=y,where y is asked by nobody afterwards: what y owned is x's from then on -/
noncomputable
def vMove (j i:Nat):VS:=fun env=>match env[j]? with
  | some (.ow v)=>if i≠j∧i < env.length∧(env[i]?.bind fun s=>match s with | .bo w=>some w | _=>none)=none then .ok (.nx,(env.set j .un).set i (.ow v)) else .no
  | _=>.no
theorem set2 {env:Env} {i j k:Nat} {s t:Sl}:((env.set j s).set i t)[k]? = if i=k then (if i < env.length then some t else none) else if j=k then (if j < env.length then some s else none) else env[k]?:=by
  rw [List.getElem?_set,List.length_set,List.getElem?_set]
theorem rs_move (i j:Nat):RS (sAsg (eVar j) (.nm i)) (vMove j i):=by?
 exact fun F env σ st r fl env' h=>by
  unfold vMove at h
  split at h
  · rename_i v hj
    split at h
    · rename_i hc
      obtain ⟨hij,hi,hb⟩:=hc
      cases h
      have mj:mutV env j=some v:=by unfold mutV;rw [hj];rfl
      obtain ⟨a,o,h1,h2,h3,h4⟩:=r.mu j v mj
      have hjl:j < env.length:=(List.getElem?_eq_some_iff.mp hj).1
      have hil:i < σ.length:=by rw [← r.len];exact hi
      have gs:∀k,(σ.set i (some (.ref a)))[k]? = if i=k then some (some (.ref a)) else σ[k]?:=fun k=>by
        rw [List.getElem?_set]
        split
        · first | rfl | rw [if_pos hil]
        · rfl
      have ge:∀k,((env.set j .un).set i (.ow v))[k]? = if i=k then some (.ow v) else if j=k then some .un else env[k]?:=fun k=>by
        rw [set2]
        split
        · first | rfl | rw [if_pos hi]
        · split
          · first | rfl | rw [if_pos hjl]
          · rfl
      have gm:∀k w,mutV ((env.set j .un).set i (.ow v)) k=some w→(k=i∧w=v)∨(k≠i∧k≠j∧mutV env k=some w):=fun k w q=>by
        unfold mutV at q
        rw [ge] at q
        split at q
        · rename_i e
          subst e
          exact .inl ⟨rfl,by simpa [Sl.mut] using q.symm⟩
        · rename_i e
          split at q
          · simp [Sl.mut] at q
          · rename_i e2
            exact .inr ⟨fun z=>e z.symm,fun z=>e2 z.symm,q⟩
      refine ⟨.nx,σ.set i (some (.ref a)),st,F,?_,⟨⟨?_,r.sub,r.wf,fun k w q=>?_,fun k w q=>?_,fun k p q=>?_,fun k l w u x q1 q2 q3 q4=>?_⟩,fun _ _ q=>q,fun _ _ _=>⟨rfl,rfl⟩,Nat.le_refl _,fun x ⟨k,w,q1,q2⟩=>?_,fun k w q=>?_⟩,trivial⟩
      · unfold sAsg eVar
        rw [h1]
        simp only [Sg.bind_ok,gPut_eq]
        rfl
      · simp [r.len]
      · rw [ge] at q
        split at q
        · cases q
        · rename_i e
          split at q
          · cases q
          · rw [gs,if_neg e]
            exact r.sh k w q
      · rcases gm k w q with ⟨rfl,rfl⟩ | ⟨e1,e2,q⟩
        · exact ⟨a,o,by rw [gs,if_pos rfl],h2,h3,h4⟩
        · rw [gs,if_neg (fun z=>e1 z.symm)]
          exact r.mu k w q
      · rw [gs] at q
        split at q
        · cases q
          exact r.rf j _ h1
        · exact r.rf k p q
      · rcases gm k w q1 with ⟨z1,z2⟩ | ⟨e1,e2,p1⟩
        · rcases gm l u q2 with ⟨y1,y2⟩ | ⟨e3,e4,p2⟩
          · exact z1.trans y1.symm
          · rw [gs,if_pos z1.symm] at q3
            rw [gs,if_neg (fun z=>e3 z.symm)] at q4
            cases q3
            exact absurd (r.dj j l _ _ _ mj p2 h1 q4) (fun z=>e4 z.symm)
        · rcases gm l u q2 with ⟨y1,y2⟩ | ⟨e3,e4,p2⟩
          · rw [gs,if_neg (fun z=>e1 z.symm)] at q3
            rw [gs,if_pos y1.symm] at q4
            cases q4
            exact absurd (r.dj j k _ _ _ mj p1 h1 q3) (fun z=>e2 z.symm)
          · rw [gs,if_neg (fun z=>e1 z.symm)] at q3
            rw [gs,if_neg (fun z=>e3 z.symm)] at q4
            exact r.dj k l _ _ _ p1 p2 q3 q4
      · left
        rcases gm k w q1 with ⟨z1,z2⟩ | ⟨e1,e2,p1⟩
        · rw [gs,if_pos z1.symm] at q2
          cases q2
          exact ⟨j,v,mj,h1⟩
        · rw [gs,if_neg (fun z=>e1 z.symm)] at q2
          exact ⟨k,w,p1,q2⟩
      · have e1:i≠k:=fun z=>by subst z;rw [q] at hb;cases hb
        have e2:j≠k:=fun z=>by subst z;rw [q] at hj;cases hj
        exact ⟨by rw [gs,if_neg e1],w,by rw [ge,if_neg e1,if_neg e2];exact q⟩
    · cases h
  · cases h
theorem vMove_ok {i j:Nat} {env env2:Env} {v:NV} (hj:env[j]? = some (.ow v)) (hc:i≠j∧i < env.length∧(env[i]?.bind fun s=>match s with | .bo w=>some w | _=>none)=none) (h:(env.set j .un).set i (.ow v)=env2):vMove j i env=.ok (.nx,env2):=by
  unfold vMove
  rw [hj]
  dsimp only
  rw [if_pos hc,h]
end Vg
namespace Vp
open PySem Sg Vg
noncomputable
abbrev p__law_draw_2:VS:=vAsg (vBin voMod (vBin voIx (vVar 0) (vC (.int 0))) (vVar 1)) (.nm 2)
noncomputable
abbrev p__law_draw_3:VS:=vSub vset (vVar 0) (vC (.int 0)) (vBin voFdiv (vBin voIx (vVar 0) (vC (.int 0))) (vVar 1))
noncomputable
abbrev p__law_draw_1:VS:=vIfS (vVal (vBin voGt (vBin voIx (vVar 0) (vC (.int 0))) (vC (.int 0)))) (vSeq (p__law_draw_2) (vSeq (p__law_draw_3) (vRet (vVar 2)))) (vPass)
noncomputable
abbrev p__law_draw_5:VS:=vSub vset (vVar 0) (vC (.int 2)) (vBin voAdd (vBin voIx (vVar 0) (vC (.int 2))) (vC (.int 1)))
noncomputable
abbrev p__law_draw_7:VS:=vAsg (vBin voMod (vBin voMul (vBin voAdd (vBin voAdd (vBin voIx (vVar 0) (vC (.int 1))) (vBin voMul (vBin voMul (vC (.int 65537)) (vVar 3)) (vVar 3))) (vC (.int 11))) (vC (.int 48271))) (vC (.int 2305843009213693921))) (.nm 4)
noncomputable
abbrev p__law_draw_8:VS:=vAsg (vBin voMod (vBin voMul (vVar 4) (vBin voAdd (vBin voMod (vVar 4) (vC (.int 1000003))) (vBin voMul (vC (.int 99991)) (vVar 3)))) (vC (.int 2305843009213693907))) (.nm 4)
noncomputable
abbrev p__law_draw_9:VS:=vRet (vBin voMod (vBin voAdd (vBin voFdiv (vVar 4) (vC (.int 97))) (vBin voFdiv (vVar 4) (vC (.int 1000033)))) (vVar 1))
noncomputable
abbrev v__law_draw:VS:=vSeq (p__law_draw_1) (vSeq (p__law_draw_5) (vSeq (vAsg (vBin voIx (vVar 0) (vC (.int 2))) (.nm 3)) (vSeq (p__law_draw_7) (vSeq (p__law_draw_8) (p__law_draw_9)))))
noncomputable
def g__law_draw:VF:=vFn 5 [0] v__law_draw
noncomputable
abbrev p__law_source_1:VS:=vAsg (vIf (vVal (vBin voLt (vVar 1) (vCallB vfLenA (vCons (vVar 0) (vNil))))) (vBin voIx (vVar 0) (vVar 1)) (vC (.int 0))) (.nm 2)
noncomputable
abbrev p__law_source_2:VS:=vAsg (vIf (vVal (vBin voGe (vCallB vfAbs (vCons (vVar 2) (vNil))) (vBin voPow (vC (.int 10)) (vC (.int 18))))) (vBin voMod (vCallB vfAbs (vCons (vVar 2) (vNil))) (vBin voPow (vBin voPow (vC (.int 10)) (vC (.int 60))) (vC (.int 4)))) (vC (.int 0))) (.nm 3)
noncomputable
abbrev p__law_source_3:VS:=vRet (vLst (vCons (vVar 3) (vCons (vBin voMod (vBin voAdd (vBin voAdd (vBin voMul (vBin voMod (vVar 2) (vC (.int 2305843009213693951))) (vC (.int 1000003))) (vBin voMul (vBin voMul (vC (.int 7919)) (vVar 1)) (vVar 1))) (vC (.int 97))) (vC (.int 2305843009213693921))) (vCons (vC (.int 0)) (vNil)))))
noncomputable
abbrev v__law_source:VS:=vSeq (p__law_source_1) (vSeq (p__law_source_2) (p__law_source_3))
noncomputable
def g__law_source:VF:=vFn 4 [] v__law_source
noncomputable
abbrev p__law_pick_1:VS:=vRet (vBin voIx (vVar 1) (vCall g__law_draw 2 [0] (vCons (vVar 0) (vCons (vCallB vfLenA (vCons (vVar 1) (vNil))) (vNil)))))
noncomputable
abbrev v__law_pick:VS:=p__law_pick_1
noncomputable
def g__law_pick:VF:=vFn 2 [0] v__law_pick
noncomputable
abbrev p_is_value_1:VS:=vRet (vAnd (vCallB vfIsi (vCons (vVar 0) (vCons (vC (.ty "str")) (vNil)))) (vAnd (vChain voLe voLe (vC (.int 1)) (vCallB vfLenA (vCons (vVar 0) (vNil))) (vC (.int 8))) (vCallB vfAll (vCons (vLc (viSeq (vVar 0)) (.nm 1) (vYes) (vBin voIn (vVar 1) (vC (.str "abcdefghijklmnopqrstuvwxyz0123456789"))) [1]) (vNil)))))
noncomputable
abbrev v_is_value:VS:=p_is_value_1
noncomputable
def g_is_value:VF:=vFn 2 [] v_is_value
noncomputable
abbrev p_is_row_1:VS:=vRet (vAnd (vCallB vfIsi (vCons (vVar 0) (vCons (vC (.ty "tuple")) (vNil)))) (vAnd (vBin voLe (vCallB vfLenA (vCons (vVar 0) (vNil))) (vC (.int 60))) (vCallB vfAll (vCons (vLc (viSeq (vVar 0)) (.nm 1) (vYes) (vCall g_is_value 1 [] (vCons (vVar 1) (vNil))) [1]) (vNil)))))
noncomputable
abbrev v_is_row:VS:=p_is_row_1
noncomputable
def g_is_row:VF:=vFn 2 [] v_is_row
noncomputable
abbrev p_is_stack_1:VS:=vRet (vAnd (vCall g_is_row 1 [] (vCons (vVar 0) (vNil))) (vAnd (vBin voLe (vCallB vfLenA (vCons (vVar 0) (vNil))) (vC (.int 40))) (vBin voEq (vCallB vfLenA (vCons (vCallB vfSet (vCons (vVar 0) (vNil))) (vNil))) (vCallB vfLenA (vCons (vVar 0) (vNil))))))
noncomputable
abbrev v_is_stack:VS:=p_is_stack_1
noncomputable
def g_is_stack:VF:=vFn 1 [] v_is_stack
noncomputable
abbrev p_check_stack_1:VS:=vIfS (vNotT (vVal (vCall g_is_stack 1 [] (vCons (vVar 0) (vNil))))) (vNever) (vPass)
noncomputable
abbrev v_check_stack:VS:=p_check_stack_1
noncomputable
def g_check_stack:VF:=vFn 1 [] v_check_stack
noncomputable
abbrev p_is_goal_of_1:VS:=vRet (vAnd (vCall g_is_row 1 [] (vCons (vVar 1) (vNil))) (vCallB vfAll (vCons (vLc (viSeq (vVar 1)) (.nm 3) (vYes) (vOr (vBin voIn (vVar 3) (vVar 0)) (vBin voIn (vVar 3) (vVar 2))) [3]) (vNil))))
noncomputable
abbrev v_is_goal_of:VS:=p_is_goal_of_1
noncomputable
def g_is_goal_of:VF:=vFn 4 [] v_is_goal_of
noncomputable
abbrev p_check_goal_1:VS:=vIfS (vNotT (vVal (vCall g_is_goal_of 3 [] (vCons (vVar 0) (vCons (vVar 1) (vCons (vVar 2) (vNil))))))) (vNever) (vPass)
noncomputable
abbrev v_check_goal:VS:=p_check_goal_1
noncomputable
def g_check_goal:VF:=vFn 3 [] v_check_goal
noncomputable
abbrev p_check_both_2:VS:=vDrop (vCall g_check_goal 3 [] (vCons (vVar 0) (vCons (vVar 1) (vCons (vTup (vNil)) (vNil)))))
noncomputable
abbrev v_check_both:VS:=vSeq (vDrop (vCall g_check_stack 1 [] (vCons (vVar 0) (vNil)))) (p_check_both_2)
noncomputable
def g_check_both:VF:=vFn 2 [] v_check_both
noncomputable
abbrev p_kept_number_1:VS:=vAsg (vDc (viEnum (vVar 0)) (.tp [.nm 3,.nm 4]) (vYes) (vVar 4) (vVar 3) [3,4]) (.nm 2)
noncomputable
abbrev p_kept_number_4:VS:=vAsg (vMethB kDic vmGet (vVar 2) (vCons (vVar 4) (vCons (vUn vuNeg (vC (.int 1))) (vNil)))) (.nm 3)
noncomputable
abbrev p_kept_number_5:VS:=vIfS (vVal (vBin voLe (vVar 3) (vVar 5))) (vRet (vVar 6)) (vPass)
noncomputable
abbrev p_kept_number_3:VS:=vFor (viEnum (vVar 1)) (.tp [.nm 6,.nm 4]) (vSeq (p_kept_number_4) (vSeq (p_kept_number_5) (vAsg (vVar 3) (.nm 5))))
noncomputable
abbrev v_kept_number:VS:=vSeq (p_kept_number_1) (vSeq (vAsg (vUn vuNeg (vC (.int 1))) (.nm 5)) (vSeq (p_kept_number_3) (vRet (vCallB vfLenA (vCons (vVar 1) (vNil))))))
noncomputable
def g_kept_number:VF:=vFn 7 [] v_kept_number
noncomputable
abbrev p_kept_1:VS:=vDrop (vCall g_check_both 2 [] (vCons (vVar 0) (vCons (vVar 1) (vNil))))
noncomputable
abbrev p_kept_2:VS:=vRet (vCall g_kept_number 2 [] (vCons (vVar 0) (vCons (vVar 1) (vNil))))
noncomputable
abbrev v_kept:VS:=vSeq (p_kept_1) (p_kept_2)
noncomputable
def g_kept:VF:=vFn 2 [] v_kept
noncomputable
abbrev p__law_tallies_k86b_1:VS:=vAsg (vDisT (vTup (vCons (vC (.int 0)) (vCons (vC (.int 0)) (vCons (vC (.int 0)) (vCons (vC (.bl true)) (vNil)))))) (vC (.int 1))) (.nm 2)
noncomputable
abbrev p__law_tallies_k86b_6:VS:=vAsg (vAnd (vVar 8) (vBin voGt (vBin voAdd (vVar 10) (vC (.int 1))) (vVar 6))) (.nm 11)
noncomputable
abbrev p__law_tallies_k86b_7:VS:=vAsg (vTup (vCons (vBin voOr (vVar 5) (vBin voShl (vC (.int 1)) (vVar 10))) (vCons (vIf (vVal (vVar 11)) (vBin voAdd (vVar 10) (vC (.int 1))) (vC (.int 0))) (vCons (vBin voAdd (vVar 7) (vCallB vfInt (vCons (vVar 11) (vNil)))) (vCons (vVar 11) (vNil)))))) (.nm 12)
noncomputable
abbrev p__law_tallies_k86b_8:VS:=vSub vsetT (vVar 4) (vVar 12) (vBin voAdd (vMethB kDct vmGetT (vVar 4) (vCons (vVar 12) (vCons (vC (.int 0)) (vNil)))) (vVar 9))
noncomputable
abbrev p__law_tallies_k86b_5:VS:=vFor (viRng1 (vVar 0)) (.nm 10) (vSeq (p__law_tallies_k86b_6) (vSeq (p__law_tallies_k86b_7) (p__law_tallies_k86b_8)))
noncomputable
abbrev p__law_tallies_k86b_4:VS:=vFor (viItemsTO 2) (.tp [.tp [.nm 5,.nm 6,.nm 7,.nm 8],.nm 9]) (p__law_tallies_k86b_5)
noncomputable
abbrev p__law_tallies_k86b_2:VS:=vFor (viRng1 (vVar 1)) (.nm 3) (vSeq (vAsg (vDct0) (.nm 4)) (vSeq (p__law_tallies_k86b_4) (vMove 4 2)))
noncomputable
abbrev v__law_tallies_k86b:VS:=vSeq (p__law_tallies_k86b_1) (vSeq (p__law_tallies_k86b_2) (vRet (vVar 2)))
noncomputable
def g__law_tallies_k86b:VF:=vFn 13 [] v__law_tallies_k86b
noncomputable
abbrev p__law_numbers_k86b_3:VS:=vAsg (vCallB vfLenA (vCons (vLc (viRng1 (vVar 0)) (.nm 9) (vVal (vBin voEq (vBin voAnd1 (vBin voShr (vVar 3) (vVar 9)) (vC (.int 1))) (vC (.int 1)))) (vVar 9) [9]) (vNil))) (.nm 8)
noncomputable
abbrev p__law_numbers_k86b_4:VS:=vAsg (vCallB vfLenA (vCons (vLc (viRng1 (vUn vuBits (vVar 3))) (.nm 9) (vVal (vBin voEq (vBin voAnd1 (vBin voShr (vVar 3) (vVar 9)) (vC (.int 1))) (vC (.int 0)))) (vVar 9) [9]) (vNil))) (.nm 10)
noncomputable
abbrev p__law_numbers_k86b_5:VS:=vAsg (vBin voAdd (vBin voSub (vBin voAdd (vBin voSub (vVar 1) (vVar 5)) (vVar 0)) (vVar 8)) (vVar 10)) (.nm 11)
noncomputable
abbrev p__law_numbers_k86b_6:VS:=vSub vset (vVar 2) (vVar 11) (vBin voAdd (vMethB kDic vmGet (vVar 2) (vCons (vVar 11) (vCons (vC (.int 0)) (vNil)))) (vVar 7))
noncomputable
abbrev p__law_numbers_k86b_2:VS:=vFor (viItemsTF (vCall g__law_tallies_k86b 2 [] (vCons (vVar 0) (vCons (vVar 1) (vNil))))) (.tp [.tp [.nm 3,.nm 4,.nm 5,.nm 6],.nm 7]) (vSeq (p__law_numbers_k86b_3) (vSeq (p__law_numbers_k86b_4) (vSeq (p__law_numbers_k86b_5) (p__law_numbers_k86b_6))))
noncomputable
abbrev v__law_numbers_k86b:VS:=vSeq (vAsg (vDic0) (.nm 2)) (vSeq (p__law_numbers_k86b_2) (vRet (vVar 2)))
noncomputable
def g__law_numbers_k86b:VF:=vFn 12 [] v__law_numbers_k86b
noncomputable
abbrev p_law_k86b_2:VS:=vAsg (vCall g__law_source 2 [] (vCons (vVar 0) (vCons (vVar 1) (vNil)))) (.nm 2)
noncomputable
abbrev p_law_k86b_4:VS:=vPar [4,5] (vCons (vCall g__law_pick 2 [0] (vCons (vVar 2) (vCons (vLst (vCons (vC (.int 6)) (vCons (vCall g__law_draw 2 [0] (vCons (vVar 2) (vCons (vC (.int 7)) (vNil)))) (vNil)))) (vNil)))) (vCons (vCall g__law_pick 2 [0] (vCons (vVar 2) (vCons (vLst (vCons (vC (.int 9)) (vCons (vCall g__law_draw 2 [0] (vCons (vVar 2) (vCons (vC (.int 13)) (vNil)))) (vNil)))) (vNil)))) (vNil)))
noncomputable
abbrev p_law_k86b_5:VS:=vAsg (vCall g__law_numbers_k86b 2 [] (vCons (vVar 4) (vCons (vVar 5) (vNil)))) (.nm 6)
noncomputable
abbrev p_law_k86b_7:VS:=vIfS (vVal (vBin voNe (vCall gcF 3 [] (vCons (vVar 4) (vCons (vVar 5) (vCons (vVar 7) (vNil))))) (vMethB kDic vmGet (vVar 6) (vCons (vVar 7) (vCons (vC (.int 0)) (vNil)))))) (vRet (vC (.bl false))) (vPass)
noncomputable
abbrev p_law_k86b_6:VS:=vFor (viRng1 (vBin voAdd (vBin voAdd (vBin voMul (vC (.int 2)) (vVar 4)) (vVar 5)) (vC (.int 2)))) (.nm 7) (p_law_k86b_7)
noncomputable
abbrev p_law_k86b_9:VS:=vIfS (vVal (vBin voNe (vCall csF 2 [] (vCons (vVar 4) (vCons (vVar 5) (vNil)))) (vCallB vfSum (vCons (vLcI 6 (.tp [.nm 7,.nm 8]) (vYes) (vBin voMul (vVar 7) (vVar 8)) [7,8]) (vNil))))) (vRet (vC (.bl false))) (vPass)
noncomputable
abbrev p_law_k86b_3:VS:=vFor (viRng1 (vC (.int 2))) (.nm 3) (vSeq (p_law_k86b_4) (vSeq (p_law_k86b_5) (vSeq (p_law_k86b_6) (p_law_k86b_9))))
noncomputable
abbrev p_law_k86b_1:VS:=vFor (viRng1 (vCallB vfMax2 (vCons (vC (.int 1)) (vCons (vCallB vfMin2 (vCons (vC (.int 2)) (vCons (vCallB vfLenA (vCons (vVar 0) (vNil))) (vNil)))) (vNil))))) (.nm 1) (vSeq (p_law_k86b_2) (p_law_k86b_3))
noncomputable
abbrev v_law_k86b:VS:=vSeq (p_law_k86b_1) (vRet (vC (.bl true)))
noncomputable
def g_law_k86b:VF:=vFn 9 [] v_law_k86b
end Vp
namespace Sg.k86
open PySem PySem.W PySem.Spec PyProof.Rows L2 Sg Vg Vp
noncomputable
def tpk86 (i:Nat):Stmt:=PySem.Challenge.pw_stackgoals_k86_whole_counts_by_sets.main.body.getD i (.Pass ⟨0,0,0,0⟩)
noncomputable
abbrev s__law_source:Stmt:=tpk86 16
noncomputable
def q__law_source_1:EvS:=sAsg (eIf (tVal (eBinG opLt (eVar 1) (eCall fnLenA (aCons (eVar 0) (aNil))))) (eBinG opIxA (eVar 0) (eVar 1)) (eC (.int 0))) (.nm 2)
noncomputable
def q__law_source_2:EvS:=sAsg (eIf (tVal (eBinG opGe (eCall fnAbs (aCons (eVar 2) (aNil))) (eBin opPow (eC (.int 10)) (eC (.int 18))))) (eBin opMod (eCall fnAbs (aCons (eVar 2) (aNil))) (eBin opPow (eBin opPow (eC (.int 10)) (eC (.int 60))) (eC (.int 4)))) (eC (.int 0))) (.nm 3)
noncomputable
def q__law_source_3:EvS:=sRet (eLst (aCons (eVar 3) (aCons (eBin opMod (eBin opAdd (eBin opAdd (eBin opMulA (eBin opMod (eVar 2) (eC (.int 2305843009213693951))) (eC (.int 1000003))) (eBin opMulA (eBin opMulA (eC (.int 7919)) (eVar 1)) (eVar 1))) (eC (.int 97))) (eC (.int 2305843009213693921))) (aCons (eC (.int 0)) (aNil)))))
noncomputable
def m__law_source:EvS:=sSeq (q__law_source_1) (sSeq (q__law_source_2) (q__law_source_3))
noncomputable
def f__law_source:Fn:=fnOf 4 m__law_source
noncomputable
abbrev s__law_draw:Stmt:=tpk86 17
noncomputable
def q__law_draw_2:EvS:=sAsg (eBin opMod (eBinG opIxA (eVar 0) (eC (.int 0))) (eVar 1)) (.nm 2)
noncomputable
def q__law_draw_3:EvS:=sSub (eVar 0) (eC (.int 0)) (eBin opFdiv (eBinG opIxA (eVar 0) (eC (.int 0))) (eVar 1))
noncomputable
def q__law_draw_1:EvS:=sIf (tVal (eBinG opGt (eBinG opIxA (eVar 0) (eC (.int 0))) (eC (.int 0)))) (sSeq (q__law_draw_2) (sSeq (q__law_draw_3) (sRet (eVar 2)))) (sNil)
noncomputable
def q__law_draw_5:EvS:=sSub (eVar 0) (eC (.int 2)) (eBin opAdd (eBinG opIxA (eVar 0) (eC (.int 2))) (eC (.int 1)))
noncomputable
def q__law_draw_7:EvS:=sAsg (eBin opMod (eBin opMulA (eBin opAdd (eBin opAdd (eBinG opIxA (eVar 0) (eC (.int 1))) (eBin opMulA (eBin opMulA (eC (.int 65537)) (eVar 3)) (eVar 3))) (eC (.int 11))) (eC (.int 48271))) (eC (.int 2305843009213693921))) (.nm 4)
noncomputable
def q__law_draw_8:EvS:=sAsg (eBin opMod (eBin opMulA (eVar 4) (eBin opAdd (eBin opMod (eVar 4) (eC (.int 1000003))) (eBin opMulA (eC (.int 99991)) (eVar 3)))) (eC (.int 2305843009213693907))) (.nm 4)
noncomputable
def q__law_draw_9:EvS:=sRet (eBin opMod (eBin opAdd (eBin opFdiv (eVar 4) (eC (.int 97))) (eBin opFdiv (eVar 4) (eC (.int 1000033)))) (eVar 1))
noncomputable
def m__law_draw:EvS:=sSeq (q__law_draw_1) (sSeq (q__law_draw_5) (sSeq (sAsg (eBinG opIxA (eVar 0) (eC (.int 2))) (.nm 3)) (sSeq (q__law_draw_7) (sSeq (q__law_draw_8) (q__law_draw_9)))))
noncomputable
def f__law_draw:Fn:=fnOf 5 m__law_draw
noncomputable
abbrev s__law_pick:Stmt:=tpk86 18
noncomputable
def q__law_pick_1:EvS:=sRet (eBinG opIxA (eVar 1) (eCall (ofN 2 f__law_draw) (aCons (eVar 0) (aCons (eCall fnLenA (aCons (eVar 1) (aNil))) (aNil)))))
noncomputable
def m__law_pick:EvS:=q__law_pick_1
noncomputable
def f__law_pick:Fn:=fnOf 2 m__law_pick
noncomputable
abbrev s__law_tallies:Stmt:=tpk86 19
noncomputable
def q__law_tallies_1:EvS:=sAsg (eDisT (eTup (aCons (eC (.int 0)) (aCons (eC (.int 0)) (aCons (eC (.int 0)) (aCons (eC (.bl true)) (aNil)))))) (eC (.int 1))) (.nm 2)
noncomputable
def q__law_tallies_6:EvS:=sAsg (eAnd (eVar 8) (eBinG opGt (eBin opAdd (eVar 10) (eC (.int 1))) (eVar 6))) (.nm 11)
noncomputable
def q__law_tallies_7:EvS:=sAsg (eTup (aCons (eBin opOr (eVar 5) (eBin opShl (eC (.int 1)) (eVar 10))) (aCons (eIf (tVal (eVar 11)) (eBin opAdd (eVar 10) (eC (.int 1))) (eC (.int 0))) (aCons (eBin opAdd (eVar 7) (eCall fnInt (aCons (eVar 11) (aNil)))) (aCons (eVar 11) (aNil)))))) (.nm 12)
noncomputable
def q__law_tallies_8:EvS:=sSubT (eVar 4) (eVar 12) (eBin opAdd (eMeth isDct mGetT (eVar 4) (aCons (eVar 12) (aCons (eC (.int 0)) (aNil)))) (eVar 9))
noncomputable
def q__law_tallies_5:EvS:=sFor (iRng1 (eVar 0)) (.nm 10) (sSeq (q__law_tallies_6) (sSeq (q__law_tallies_7) (q__law_tallies_8)))
noncomputable
def q__law_tallies_4:EvS:=sFor (iItemsX (eVar 2)) (.tp [.tp [.nm 5,.nm 6,.nm 7,.nm 8],.nm 9]) (q__law_tallies_5)
noncomputable
def q__law_tallies_2:EvS:=sFor (iRng1 (eVar 1)) (.nm 3) (sSeq (sAsg (eDct0) (.nm 4)) (sSeq (q__law_tallies_4) (sAsg (eVar 4) (.nm 2))))
noncomputable
def m__law_tallies:EvS:=sSeq (q__law_tallies_1) (sSeq (q__law_tallies_2) (sRet (eVar 2)))
noncomputable
def f__law_tallies:Fn:=fnOf 13 m__law_tallies
noncomputable
abbrev s__law_numbers:Stmt:=tpk86 20
noncomputable
def q__law_numbers_3:EvS:=sAsg (eCall fnLenA (aCons (eLc (iRng1 (eVar 0)) (.nm 9) (tVal (eBinG opEq (eBin opAnd1 (eBin opShr (eVar 3) (eVar 9)) (eC (.int 1))) (eC (.int 1)))) (eVar 9) [9]) (aNil))) (.nm 8)
noncomputable
def q__law_numbers_4:EvS:=sAsg (eCall fnLenA (aCons (eLc (iRng1 (eUn unBits (eVar 3))) (.nm 9) (tVal (eBinG opEq (eBin opAnd1 (eBin opShr (eVar 3) (eVar 9)) (eC (.int 1))) (eC (.int 0)))) (eVar 9) [9]) (aNil))) (.nm 10)
noncomputable
def q__law_numbers_5:EvS:=sAsg (eBin opAdd (eBin opSub (eBin opAdd (eBin opSub (eVar 1) (eVar 5)) (eVar 0)) (eVar 8)) (eVar 10)) (.nm 11)
noncomputable
def q__law_numbers_6:EvS:=sSub (eVar 2) (eVar 11) (eBin opAdd (eMeth isDic mGet (eVar 2) (aCons (eVar 11) (aCons (eC (.int 0)) (aNil)))) (eVar 7))
noncomputable
def q__law_numbers_2:EvS:=sFor (iItemsX (eCall (ofN 2 f__law_tallies) (aCons (eVar 0) (aCons (eVar 1) (aNil))))) (.tp [.tp [.nm 3,.nm 4,.nm 5,.nm 6],.nm 7]) (sSeq (q__law_numbers_3) (sSeq (q__law_numbers_4) (sSeq (q__law_numbers_5) (q__law_numbers_6))))
noncomputable
def m__law_numbers:EvS:=sSeq (sAsg (eDic0) (.nm 2)) (sSeq (q__law_numbers_2) (sRet (eVar 2)))
noncomputable
def f__law_numbers:Fn:=fnOf 12 m__law_numbers
noncomputable
abbrev s_is_count:Stmt:=tpk86 4
noncomputable
def q_is_count_1:EvS:=sRet (eAnd (eCall fnIsi (aCons (eVar 0) (aCons (eC (.ty "int")) (aNil)))) (eAnd (eNot (eCall fnIsi (aCons (eVar 0) (aCons (eC (.ty "bool")) (aNil))))) (eBinG opGe (eVar 0) (eC (.int 0)))))
noncomputable
def m_is_count:EvS:=q_is_count_1
noncomputable
def f_is_count:Fn:=fnOf 1 m_is_count
noncomputable
abbrev s_check_counts:Stmt:=tpk86 12
noncomputable
def q_check_counts_1:EvS:=sIf (tOr (tNot (tVal (eCall (ofN 1 f_is_count) (aCons (eVar 0) (aNil))))) (tVal (eBinG opGt (eVar 0) (eC (.int 20))))) (sNever) (sNil)
noncomputable
def q_check_counts_3:EvS:=sIf (tOr (tNot (tVal (eCall (ofN 1 f_is_count) (aCons (eVar 1) (aNil))))) (tVal (eBinG opGt (eVar 1) (eC (.int 30))))) (sNever) (sNil)
noncomputable
def m_check_counts:EvS:=sSeq (q_check_counts_1) (q_check_counts_3)
noncomputable
def f_check_counts:Fn:=fnOf 2 m_check_counts
noncomputable
abbrev s_coverings:Stmt:=tpk86 9
noncomputable
def q_coverings_1:EvS:=sAsg (eLst (aCons (eBin opAdd (eLst (aCons (eC (.int 1)) (aNil))) (eBin opMulA (eLst (aCons (eC (.int 0)) (aNil))) (eVar 1))) (aNil))) (.nm 2)
noncomputable
def q_coverings_3:EvS:=sAsg (eBinG opIxA (eVar 2) (eUn unNeg (eC (.int 1)))) (.nm 4)
noncomputable
def q_coverings_4:EvS:=sDrop (eMeth isLst mAppend (eVar 2) (aCons (eLc (iRng1 (eBin opAdd (eVar 1) (eC (.int 1)))) (.nm 5) (tYes) (eBin opAdd (eBin opMulA (eBin opSub (eVar 1) (eVar 5)) (eBinG opIxA (eVar 4) (eVar 5))) (eBin opMulA (eVar 5) (eBinG opIxA (eVar 4) (eBin opSub (eVar 5) (eC (.int 1)))))) [5]) (aNil)))
noncomputable
def q_coverings_2:EvS:=sFor (iRng1 (eVar 0)) (.nm 3) (sSeq (q_coverings_3) (q_coverings_4))
noncomputable
def m_coverings:EvS:=sSeq (q_coverings_1) (sSeq (q_coverings_2) (sRet (eVar 2)))
noncomputable
def f_coverings:Fn:=fnOf 6 m_coverings
noncomputable
abbrev s_choose:Stmt:=tpk86 8
noncomputable
def q_choose_3:EvS:=sAsg (eBin opFdiv (eBin opMulA (eVar 2) (eBin opSub (eVar 0) (eVar 3))) (eBin opAdd (eVar 3) (eC (.int 1)))) (.nm 2)
noncomputable
def m_choose:EvS:=sSeq (sAsg (eC (.int 1)) (.nm 2)) (sSeq (sFor (iRng1 (eVar 1)) (.nm 3) (q_choose_3)) (sRet (eVar 2)))
noncomputable
def f_choose:Fn:=fnOf 4 m_choose
noncomputable
abbrev s_beginnings:Stmt:=tpk86 10
noncomputable
def q_beginnings_1:EvS:=sAsg (eTup (aCons (eCall fnMin2 (aCons (eVar 0) (aCons (eVar 1) (aNil)))) (aCons (eCall (ofN 2 f_coverings) (aCons (eVar 0) (aCons (eVar 1) (aNil)))) (aNil)))) (.tp [.nm 2,.nm 3])
noncomputable
def q_beginnings_2:EvS:=sAsg (eBin opAdd (eLc (iRng1 (eBin opAdd (eVar 2) (eC (.int 1)))) (.nm 5) (tYes) (eBin opMulA (eCall (ofN 2 f_choose) (aCons (eVar 1) (aCons (eVar 5) (aNil)))) (eBinG opIxA (eBinG opIxA (eVar 3) (eBin opSub (eVar 0) (eVar 5))) (eBin opSub (eVar 1) (eVar 5)))) [5]) (eLst (aCons (eC (.int 0)) (aNil)))) (.nm 4)
noncomputable
def q_beginnings_3:EvS:=sRet (eLc (iZip (eVar 4) (eSl (eVar 4) (eEnd (eC (.int 1))) (eNoEnd))) (.tp [.nm 6,.nm 7]) (tYes) (eBin opSub (eVar 6) (eVar 7)) [6,7])
noncomputable
def m_beginnings:EvS:=sSeq (q_beginnings_1) (sSeq (q_beginnings_2) (q_beginnings_3))
noncomputable
def f_beginnings:Fn:=fnOf 8 m_beginnings
noncomputable
abbrev s_table:Stmt:=tpk86 11
noncomputable
def q_table_1:EvS:=sIf (tVal (eBinG opEq (eVar 1) (eC (.int 0)))) (sRet (eDisp (pCons (eVar 0) (eC (.int 1)) (pNil)))) (sNil)
noncomputable
def q_table_5:EvS:=sAsg (eCall (ofN 2 f_beginnings) (aCons (eVar 1) (aCons (eVar 3) (aNil)))) (.nm 4)
noncomputable
def q_table_7:EvS:=sAsg (eCall (ofN 2 f_choose) (aCons (eBin opSub (eVar 5) (eC (.int 1))) (aCons (eBin opSub (eVar 3) (eC (.int 1))) (aNil)))) (.nm 6)
noncomputable
def q_table_9:EvS:=sAsg (eBin opSub (eBin opAdd (eBin opAdd (eBin opSub (eVar 1) (eVar 7)) (eVar 0)) (eVar 5)) (eBin opMulA (eC (.int 2)) (eVar 3))) (.nm 8)
noncomputable
def q_table_10:EvS:=sSub (eVar 2) (eVar 8) (eBin opAdd (eMeth isDic mGet (eVar 2) (aCons (eVar 8) (aCons (eC (.int 0)) (aNil)))) (eBin opMulA (eVar 6) (eBinG opIxA (eVar 4) (eVar 7))))
noncomputable
def q_table_8:EvS:=sFor (iRng2 (eC (.int 1)) (eBin opAdd (eVar 3) (eC (.int 1)))) (.nm 7) (sSeq (q_table_9) (q_table_10))
noncomputable
def q_table_6:EvS:=sFor (iRng2 (eVar 3) (eBin opAdd (eVar 0) (eC (.int 1)))) (.nm 5) (sSeq (q_table_7) (q_table_8))
noncomputable
def q_table_4:EvS:=sFor (iRng2 (eC (.int 1)) (eBin opAdd (eCall fnMin2 (aCons (eVar 0) (aCons (eVar 1) (aNil)))) (eC (.int 1)))) (.nm 3) (sSeq (q_table_5) (q_table_6))
noncomputable
def q_table_11:EvS:=sRet (eDc (iItems (eVar 2)) (.tp [.nm 8,.nm 9]) (tVal (eBinG opGt (eVar 9) (eC (.int 0)))) (eVar 8) (eVar 9) [8,9])
noncomputable
def m_table:EvS:=sSeq (q_table_1) (sSeq (sAsg (eDic0) (.nm 2)) (sSeq (q_table_4) (q_table_11)))
noncomputable
def f_table:Fn:=fnOf 10 m_table
noncomputable
abbrev s_goal_count:Stmt:=tpk86 13
noncomputable
def q_goal_count_1:EvS:=sDrop (eCall (ofN 2 f_check_counts) (aCons (eVar 0) (aCons (eVar 1) (aNil))))
noncomputable
def q_goal_count_2:EvS:=sRet (eIf (tVal (eCall (ofN 1 f_is_count) (aCons (eVar 2) (aNil)))) (eMeth isDic mGet (eCall (ofN 2 f_table) (aCons (eVar 0) (aCons (eVar 1) (aNil)))) (aCons (eVar 2) (aCons (eC (.int 0)) (aNil)))) (eC (.int 0)))
noncomputable
def m_goal_count:EvS:=sSeq (q_goal_count_1) (q_goal_count_2)
noncomputable
def f_goal_count:Fn:=fnOf 3 m_goal_count
noncomputable
abbrev s_cost_sum:Stmt:=tpk86 14
noncomputable
def q_cost_sum_1:EvS:=sDrop (eCall (ofN 2 f_check_counts) (aCons (eVar 0) (aCons (eVar 1) (aNil))))
noncomputable
def q_cost_sum_2:EvS:=sRet (eCall fnSum (aCons (eLc (iItems (eCall (ofN 2 f_table) (aCons (eVar 0) (aCons (eVar 1) (aNil))))) (.tp [.nm 2,.nm 3]) (tYes) (eBin opMulA (eVar 2) (eVar 3)) [2,3]) (aNil)))
noncomputable
def m_cost_sum:EvS:=sSeq (q_cost_sum_1) (q_cost_sum_2)
noncomputable
def f_cost_sum:Fn:=fnOf 4 m_cost_sum
noncomputable
abbrev s_law:Stmt:=tpk86 21
noncomputable
def q_law_2:EvS:=sAsg (eCall (ofN 2 f__law_source) (aCons (eVar 0) (aCons (eVar 1) (aNil)))) (.nm 2)
noncomputable
def q_law_4:EvS:=sPar 4 5 (aCons (eCall (ofN 2 f__law_pick) (aCons (eVar 2) (aCons (eLst (aCons (eC (.int 6)) (aCons (eCall (ofN 2 f__law_draw) (aCons (eVar 2) (aCons (eC (.int 7)) (aNil)))) (aNil)))) (aNil)))) (aCons (eCall (ofN 2 f__law_pick) (aCons (eVar 2) (aCons (eLst (aCons (eC (.int 9)) (aCons (eCall (ofN 2 f__law_draw) (aCons (eVar 2) (aCons (eC (.int 13)) (aNil)))) (aNil)))) (aNil)))) (aNil)))
noncomputable
def q_law_5:EvS:=sAsg (eCall (ofN 2 f__law_numbers) (aCons (eVar 4) (aCons (eVar 5) (aNil)))) (.nm 6)
noncomputable
def q_law_7:EvS:=sIf (tVal (eBinG opNe (eCall (ofN 3 f_goal_count) (aCons (eVar 4) (aCons (eVar 5) (aCons (eVar 7) (aNil))))) (eMeth isDic mGet (eVar 6) (aCons (eVar 7) (aCons (eC (.int 0)) (aNil)))))) (sRet (eC (.bl false))) (sNil)
noncomputable
def q_law_6:EvS:=sFor (iRng1 (eBin opAdd (eBin opAdd (eBin opMulA (eC (.int 2)) (eVar 4)) (eVar 5)) (eC (.int 2)))) (.nm 7) (q_law_7)
noncomputable
def q_law_9:EvS:=sIf (tVal (eBinG opNe (eCall (ofN 2 f_cost_sum) (aCons (eVar 4) (aCons (eVar 5) (aNil)))) (eCall fnSum (aCons (eLcI 6 (.tp [.nm 7,.nm 8]) (tYes) (eBin opMulA (eVar 7) (eVar 8)) [7,8]) (aNil))))) (sRet (eC (.bl false))) (sNil)
noncomputable
def q_law_3:EvS:=sFor (iRng1 (eC (.int 2))) (.nm 3) (sSeq (q_law_4) (sSeq (q_law_5) (sSeq (q_law_6) (q_law_9))))
noncomputable
def q_law_1:EvS:=sFor (iRng1 (eCall fnMax2 (aCons (eC (.int 1)) (aCons (eCall fnMin2 (aCons (eC (.int 2)) (aCons (eCall fnLenA (aCons (eVar 0) (aNil))) (aNil)))) (aNil))))) (.nm 1) (sSeq (q_law_2) (q_law_3))
noncomputable
def m_law:EvS:=sSeq (q_law_1) (sRet (eC (.bl true)))
noncomputable
def f_law:Fn:=fnOf 9 m_law
noncomputable
abbrev N__law_source:List Str:=["_law_script", "_law_k", "_law_given", "_law_digits"]
theorem sc__law_source:FnScope N__law_source ["_law_script", "_law_k"] (L2.defScope s__law_source):=⟨rfl,rfl,rfl,by decide +kernel,rfl,by decide +kernel,by decide +kernel⟩
theorem bi__law_source:BindAll "_law_source" s__law_source ["_law_script", "_law_k"]:=fun _ _ _ _ _ _ us hl=>match us,hl with | [_,_],_=>rfl
theorem ok__law_source {W:Wd} {base:Heap} (b_len:W.mg "len" = none) (b_abs:W.mg "abs" = none):BodyOk W base N__law_source "_law_source" s__law_source 0 m__law_source:=by?
 exact fun f cd A o s H hr=>by
  have hN:=(sc__law_source).nd
  exact ss_cons (ss_set (i:=2) hN (se_if (st_cmp od_lt (se_var 1) (se_callB cd_lenA rfl b_len bt_len (sa_cons (se_var 0) (sa_nil))) rfl) (se_ixA hr.un (se_var 0) (se_var 1)) (se_int))) (ss_cons (ss_set (i:=3) hN (se_if (st_cmp od_ge (se_callB cd_abs rfl b_abs bt_abs (sa_cons (se_var 2) (sa_nil))) (se_bin od_pow (se_int) (se_int)) rfl) (se_bin od_mod (se_callB cd_abs rfl b_abs bt_abs (sa_cons (se_var 2) (sa_nil))) (se_bin od_pow (se_bin od_pow (se_int) (se_int)) (se_int))) (se_int))) (ss_one (ss_ret (se_lst (sa_cons (se_var 3) (sa_cons (se_bin od_mod (se_bin od_add (se_bin od_add (se_bin od_mul (se_bin od_mod (se_var 2) (se_int)) (se_int)) (se_bin od_mul (se_bin od_mul (se_int) (se_var 1)) (se_var 1))) (se_int)) (se_int)) (sa_cons (se_int) (sa_nil))))))))
theorem r__law_source:RFn f__law_source g__law_source []:=rfn (rs_seq (rs_asg 2 (re_if (rt_val (re_binG ov_lt (re_var 1) (re_callB fv_lenA (ra_cons (re_var 0) (ra_nil))))) (re_binG ov_ix (re_var 0) (re_var 1)) (re_int))) (rs_seq (rs_asg 3 (re_if (rt_val (re_binG ov_ge (re_callB fv_abs (ra_cons (re_var 2) (ra_nil))) (re_bin ov_pow (re_int) (re_int)))) (re_bin ov_mod (re_callB fv_abs (ra_cons (re_var 2) (ra_nil))) (re_bin ov_pow (re_bin ov_pow (re_int) (re_int)) (re_int))) (re_int))) (rs_ret (re_lst (ra_cons (re_var 3) (ra_cons (re_bin ov_mod (re_bin ov_add (re_bin ov_add (re_bin ov_mul (re_bin ov_mod (re_var 2) (re_int)) (re_int)) (re_bin ov_mul (re_bin ov_mul (re_int) (re_var 1)) (re_var 1))) (re_int)) (re_int)) (ra_cons (re_int) (ra_nil))))))))
noncomputable
abbrev N__law_draw:List Str:=["_law_source_here", "_law_size", "_law_digit", "_law_turn", "_law_mixed"]
theorem sc__law_draw:FnScope N__law_draw ["_law_source_here", "_law_size"] (L2.defScope s__law_draw):=⟨rfl,rfl,rfl,by decide +kernel,rfl,by decide +kernel,by decide +kernel⟩
theorem bi__law_draw:BindAll "_law_draw" s__law_draw ["_law_source_here", "_law_size"]:=fun _ _ _ _ _ _ us hl=>match us,hl with | [_,_],_=>rfl
theorem ok__law_draw {W:Wd} {base:Heap}:BodyOk W base N__law_draw "_law_draw" s__law_draw 0 m__law_draw:=by?
 exact fun f cd A o s H hr=>by
  have hN:=(sc__law_draw).nd
  exact ss_cons (ss_if (st_cmp od_gt (se_ixA hr.un (se_var 0) (se_int)) (se_int) rfl) (ss_cons (ss_set (i:=2) hN (se_bin od_mod (se_ixA hr.un (se_var 0) (se_int)) (se_var 1))) (ss_cons (ss_sub hr.un (se_bin od_fdiv (se_ixA hr.un (se_var 0) (se_int)) (se_var 1)) (se_var 0) (se_int)) (ss_one (ss_ret (se_var 2))))) (ss_nil)) (ss_cons (ss_sub hr.un (se_bin od_add (se_ixA hr.un (se_var 0) (se_int)) (se_int)) (se_var 0) (se_int)) (ss_cons (ss_set (i:=3) hN (se_ixA hr.un (se_var 0) (se_int))) (ss_cons (ss_set (i:=4) hN (se_bin od_mod (se_bin od_mul (se_bin od_add (se_bin od_add (se_ixA hr.un (se_var 0) (se_int)) (se_bin od_mul (se_bin od_mul (se_int) (se_var 3)) (se_var 3))) (se_int)) (se_int)) (se_int))) (ss_cons (ss_set (i:=4) hN (se_bin od_mod (se_bin od_mul (se_var 4) (se_bin od_add (se_bin od_mod (se_var 4) (se_int)) (se_bin od_mul (se_int) (se_var 3)))) (se_int))) (ss_one (ss_ret (se_bin od_mod (se_bin od_add (se_bin od_fdiv (se_var 4) (se_int)) (se_bin od_fdiv (se_var 4) (se_int))) (se_var 1))))))))
theorem r__law_draw:RFn f__law_draw g__law_draw [0]:=rfn (rs_seq (rs_if (rt_val (re_binG ov_gt (re_binG ov_ix (re_var 0) (re_int)) (re_int))) (rs_seq (rs_asg 2 (re_bin ov_mod (re_binG ov_ix (re_var 0) (re_int)) (re_var 1))) (rs_seq (rs_sub sv_set (re_bin ov_fdiv (re_binG ov_ix (re_var 0) (re_int)) (re_var 1)) (re_var 0) (re_int)) (rs_ret (re_var 2)))) (rs_pass)) (rs_seq (rs_sub sv_set (re_bin ov_add (re_binG ov_ix (re_var 0) (re_int)) (re_int)) (re_var 0) (re_int)) (rs_seq (rs_asg 3 (re_binG ov_ix (re_var 0) (re_int))) (rs_seq (rs_asg 4 (re_bin ov_mod (re_bin ov_mul (re_bin ov_add (re_bin ov_add (re_binG ov_ix (re_var 0) (re_int)) (re_bin ov_mul (re_bin ov_mul (re_int) (re_var 3)) (re_var 3))) (re_int)) (re_int)) (re_int))) (rs_seq (rs_asg 4 (re_bin ov_mod (re_bin ov_mul (re_var 4) (re_bin ov_add (re_bin ov_mod (re_var 4) (re_int)) (re_bin ov_mul (re_int) (re_var 3)))) (re_int))) (rs_ret (re_bin ov_mod (re_bin ov_add (re_bin ov_fdiv (re_var 4) (re_int)) (re_bin ov_fdiv (re_var 4) (re_int))) (re_var 1))))))))
noncomputable
abbrev N__law_pick:List Str:=["_law_source_here", "_law_some"]
theorem sc__law_pick:FnScope N__law_pick ["_law_source_here", "_law_some"] (L2.defScope s__law_pick):=⟨rfl,rfl,rfl,by decide +kernel,rfl,by decide +kernel,by decide +kernel⟩
theorem bi__law_pick:BindAll "_law_pick" s__law_pick ["_law_source_here", "_law_some"]:=fun _ _ _ _ _ _ us hl=>match us,hl with | [_,_],_=>rfl
theorem ok__law_pick {W:Wd} {base:Heap} (b_len:W.mg "len" = none) (c__law_draw:Cal W base 1 2 "_law_draw" f__law_draw):BodyOk W base N__law_pick "_law_pick" s__law_pick 1 m__law_pick:=fun f cd A o s H hr=>by
  have hN:=(sc__law_pick).nd
  exact ss_one (ss_ret (se_ixA hr.un (se_var 1) (se_callC c__law_draw hr (sa_cons (se_var 0) (sa_cons (se_callB cd_lenA rfl b_len bt_len (sa_cons (se_var 1) (sa_nil))) (sa_nil))))))
theorem r__law_pick:RFn f__law_pick g__law_pick [0]:=rfn (rs_ret (re_binG ov_ix (re_var 1) (re_call r__law_draw (by decide) (ra_cons (re_var 0) (ra_cons (re_callB fv_lenA (ra_cons (re_var 1) (ra_nil))) (ra_nil))))))
noncomputable
abbrev N__law_tallies:List Str:=["_law_size", "_law_length", "_law_found", "_law_turn", "_law_longer", "_law_bits", "_law_last", "_law_kept_so", "_law_ascends", "_law_ways", "_law_at", "_law_still", "_law_key"]
theorem sc__law_tallies:FnScope N__law_tallies ["_law_size", "_law_length"] (L2.defScope s__law_tallies):=⟨rfl,rfl,rfl,by decide +kernel,rfl,by decide +kernel,by decide +kernel⟩
theorem bi__law_tallies:BindAll "_law_tallies" s__law_tallies ["_law_size", "_law_length"]:=fun _ _ _ _ _ _ us hl=>match us,hl with | [_,_],_=>rfl
theorem ok__law_tallies {W:Wd} {base:Heap} (b_range:W.mg "range" = none) (b_int:W.mg "int" = none):BodyOk W base N__law_tallies "_law_tallies" s__law_tallies 0 m__law_tallies:=by?
 exact fun f cd A o s H hr=>by
  have hN:=(sc__law_tallies).nd
  exact ss_cons (ss_set (i:=2) hN (se_disT hr.un (se_tup (sa_cons (se_int) (sa_cons (se_int) (sa_cons (se_int) (sa_cons (se_bl) (sa_nil)))))) (se_int))) (ss_cons (ss_for PassesOwn.never rfl (si_rng1 rfl b_range (se_var 1)) (sg_name (i:=3) hN) (ss_cons (ss_set (i:=4) hN (se_dct0)) (ss_cons (ss_for PassesOwn.never rfl (si_itemsX (se_var 2)) (sg_tup rfl (sgs_cons (sg_tup rfl (sgs_cons (sg_name (i:=5) hN) (sgs_cons (sg_name (i:=6) hN) (sgs_cons (sg_name (i:=7) hN) (sgs_cons (sg_name (i:=8) hN) (sgs_nil)))))) (sgs_cons (sg_name (i:=9) hN) (sgs_nil)))) (ss_one (ss_for PassesOwn.never rfl (si_rng1 rfl b_range (se_var 0)) (sg_name (i:=10) hN) (ss_cons (ss_set (i:=11) hN (se_and (se_var 8) (se_one (se_cmp od_gt (se_bin od_add (se_var 10) (se_int)) (se_var 6) rfl)))) (ss_cons (ss_set (i:=12) hN (se_tup (sa_cons (se_bin od_or (se_var 5) (se_bin od_shl (se_int) (se_var 10))) (sa_cons (se_if (st_val (se_var 11)) (se_bin od_add (se_var 10) (se_int)) (se_int)) (sa_cons (se_bin od_add (se_var 7) (se_callTy cd_int rfl b_int bt_int (sa_cons (se_var 11) (sa_nil)))) (sa_cons (se_var 11) (sa_nil))))))) (ss_one (ss_subT hr.un (se_bin od_add (se_meth (mr_getT hr.un) (se_var 4) (sa_cons (se_var 12) (sa_cons (se_int) (sa_nil)))) (se_var 9)) (se_var 4) (se_var 12)))))))) (ss_one (ss_set (i:=2) hN (se_var 4)))))) (ss_one (ss_ret (se_var 2))))
theorem r__law_tallies:RFn f__law_tallies g__law_tallies_k86b []:=rfn (rs_seq (rs_asg 2 (re_disT (re_tup (ra_cons (re_int) (ra_cons (re_int) (ra_cons (re_int) (ra_cons (re_bl) (ra_nil)))))) (re_int))) (rs_seq (rs_for (ri_rng1 (re_var 1)) (rs_seq (rs_asg 4 (re_dct0)) (rs_seq (rs_for (ri_itemsTO 2) (rs_for (ri_rng1 (re_var 0)) (rs_seq (rs_asg 11 (re_and (re_var 8) (re_binG ov_gt (re_bin ov_add (re_var 10) (re_int)) (re_var 6)))) (rs_seq (rs_asg 12 (re_tup (ra_cons (re_bin ov_or (re_var 5) (re_bin ov_shl (re_int) (re_var 10))) (ra_cons (re_if (rt_val (re_var 11)) (re_bin ov_add (re_var 10) (re_int)) (re_int)) (ra_cons (re_bin ov_add (re_var 7) (re_callB fv_int (ra_cons (re_var 11) (ra_nil)))) (ra_cons (re_var 11) (ra_nil))))))) (rs_subT sv_setT (re_bin ov_add (re_methB kv_dct mv_getT (re_var 4) (ra_cons (re_var 12) (ra_cons (re_int) (ra_nil)))) (re_var 9)) (re_var 4) (re_var 12)))))) (rs_move 2 4)))) (rs_ret (re_var 2))))
noncomputable
abbrev N__law_numbers:List Str:=["_law_size", "_law_length", "_law_found", "_law_bits", "_law_last", "_law_kept_so", "_law_ascends", "_law_ways", "_law_wanted", "_law_at", "_law_below", "_law_number"]
theorem sc__law_numbers:FnScope N__law_numbers ["_law_size", "_law_length"] (L2.defScope s__law_numbers):=⟨rfl,rfl,rfl,by decide +kernel,rfl,by decide +kernel,by decide +kernel⟩
theorem bi__law_numbers:BindAll "_law_numbers" s__law_numbers ["_law_size", "_law_length"]:=fun _ _ _ _ _ _ us hl=>match us,hl with | [_,_],_=>rfl
theorem ok__law_numbers {W:Wd} {base:Heap} (b_range:W.mg "range" = none) (b_len:W.mg "len" = none) (c__law_tallies:Cal W base 1 2 "_law_tallies" f__law_tallies):BodyOk W base N__law_numbers "_law_numbers" s__law_numbers 1 m__law_numbers:=by?
 exact fun f cd A o s H hr=>by
  have hN:=(sc__law_numbers).nd
  exact ss_cons (ss_set (i:=2) hN (se_dic0)) (ss_cons (ss_for PassesOwn.never rfl (si_itemsX (se_callC c__law_tallies hr (sa_cons (se_var 0) (sa_cons (se_var 1) (sa_nil))))) (sg_tup rfl (sgs_cons (sg_tup rfl (sgs_cons (sg_name (i:=3) hN) (sgs_cons (sg_name (i:=4) hN) (sgs_cons (sg_name (i:=5) hN) (sgs_cons (sg_name (i:=6) hN) (sgs_nil)))))) (sgs_cons (sg_name (i:=7) hN) (sgs_nil)))) (ss_cons (ss_set (i:=8) hN (se_callB cd_lenA rfl b_len bt_len (sa_cons (se_lcB [("_law_at", 9)] (si_rng1 rfl b_range (se_var 0)) hN rfl (by kernel_rfl) (fun _ _ _ _ _=>sg_name (i:=9) hN) (fun _ _ _ _ _=>sts_one (st_cmp (od_eq hr.un) (se_bin od_and1 (se_bin od_shr (se_var 3) (se_var 9)) (se_int)) (se_int) rfl)) (fun _ _ _ _ _=>se_var 9)) (sa_nil)))) (ss_cons (ss_set (i:=10) hN (se_callB cd_lenA rfl b_len bt_len (sa_cons (se_lcB [("_law_at", 9)] (si_rng1 rfl b_range (se_bits (se_var 3))) hN rfl (by kernel_rfl) (fun _ _ _ _ _=>sg_name (i:=9) hN) (fun _ _ _ _ _=>sts_one (st_cmp (od_eq hr.un) (se_bin od_and1 (se_bin od_shr (se_var 3) (se_var 9)) (se_int)) (se_int) rfl)) (fun _ _ _ _ _=>se_var 9)) (sa_nil)))) (ss_cons (ss_set (i:=11) hN (se_bin od_add (se_bin od_sub (se_bin od_add (se_bin od_sub (se_var 1) (se_var 5)) (se_var 0)) (se_var 8)) (se_var 10))) (ss_one (ss_sub hr.un (se_bin od_add (se_meth (mr_get hr.un) (se_var 2) (sa_cons (se_var 11) (sa_cons (se_int) (sa_nil)))) (se_var 7)) (se_var 2) (se_var 11))))))) (ss_one (ss_ret (se_var 2))))
theorem r__law_numbers:RFn f__law_numbers g__law_numbers_k86b []:=rfn (rs_seq (rs_asg 2 (re_dic0)) (rs_seq (rs_for (ri_itemsTF (re_call r__law_tallies (by decide) (ra_cons (re_var 0) (ra_cons (re_var 1) (ra_nil))))) (rs_seq (rs_asg 8 (re_callB fv_lenA (ra_cons (re_lc rfl (ri_rng1 (re_var 0)) (rt_val (re_binG ov_eq (re_bin ov_and1 (re_bin ov_shr (re_var 3) (re_var 9)) (re_int)) (re_int))) (re_var 9)) (ra_nil)))) (rs_seq (rs_asg 10 (re_callB fv_lenA (ra_cons (re_lc rfl (ri_rng1 (re_un uv_bits (re_var 3))) (rt_val (re_binG ov_eq (re_bin ov_and1 (re_bin ov_shr (re_var 3) (re_var 9)) (re_int)) (re_int))) (re_var 9)) (ra_nil)))) (rs_seq (rs_asg 11 (re_bin ov_add (re_bin ov_sub (re_bin ov_add (re_bin ov_sub (re_var 1) (re_var 5)) (re_var 0)) (re_var 8)) (re_var 10))) (rs_sub sv_set (re_bin ov_add (re_methB kv_dic mv_get (re_var 2) (ra_cons (re_var 11) (ra_cons (re_int) (ra_nil)))) (re_var 7)) (re_var 2) (re_var 11)))))) (rs_ret (re_var 2))))
noncomputable
abbrev N_is_count:List Str:=["value"]
theorem sc_is_count:FnScope N_is_count ["value"] (L2.defScope s_is_count):=⟨rfl,rfl,rfl,by decide +kernel,rfl,by decide +kernel,by decide +kernel⟩
theorem bi_is_count:BindAll "is_count" s_is_count ["value"]:=fun _ _ _ _ _ _ us hl=>match us,hl with | [_],_=>rfl
theorem ok_is_count {W:Wd} {base:Heap} (b_int:W.mg "int" = none) (b_isinstance:W.mg "isinstance" = none) (b_bool:W.mg "bool" = none):BodyOk W base N_is_count "is_count" s_is_count 0 m_is_count:=by?
 exact fun f cd A o s H hr=>by
  have hN:=(sc_is_count).nd
  exact ss_one (ss_ret (se_and (se_callB cd_isi rfl b_isinstance bt_isinstance (sa_cons (se_var 0) (sa_cons (se_ty b_int bt_int) (sa_nil)))) (se_and (se_not (se_callB cd_isi rfl b_isinstance bt_isinstance (sa_cons (se_var 0) (sa_cons (se_ty b_bool bt_bool) (sa_nil))))) (se_one (se_cmp od_ge (se_var 0) (se_int) rfl)))))
noncomputable
abbrev N_check_counts:List Str:=["count", "length"]
theorem sc_check_counts:FnScope N_check_counts ["count", "length"] (L2.defScope s_check_counts):=⟨rfl,rfl,rfl,by decide +kernel,rfl,by decide +kernel,by decide +kernel⟩
theorem bi_check_counts:BindAll "check_counts" s_check_counts ["count", "length"]:=fun _ _ _ _ _ _ us hl=>match us,hl with | [_,_],_=>rfl
theorem ok_check_counts {W:Wd} {base:Heap} (c_is_count:Cal W base 1 1 "is_count" f_is_count) (n_MOST_VALUES:NumIs W "MOST_VALUES" 20) (n_MOST_LENGTH:NumIs W "MOST_LENGTH" 30):BodyOk W base N_check_counts "check_counts" s_check_counts 1 m_check_counts:=by?
 exact fun f cd A o s H hr=>by
  have hN:=(sc_check_counts).nd
  exact ss_cons (ss_if (SW.st (sw_or (st_not (st_val (se_callC c_is_count hr (sa_cons (se_var 0) (sa_nil))))) (sw_or1 (st_cmp od_gt (se_var 0) (se_num n_MOST_VALUES) rfl)))) (ss_one (ss_never)) (ss_nil)) (ss_one (ss_if (SW.st (sw_or (st_not (st_val (se_callC c_is_count hr (sa_cons (se_var 1) (sa_nil))))) (sw_or1 (st_cmp od_gt (se_var 1) (se_num n_MOST_LENGTH) rfl)))) (ss_one (ss_never)) (ss_nil)))
noncomputable
abbrev N_coverings:List Str:=["length", "letters", "rows", "turn", "last", "wanted"]
theorem sc_coverings:FnScope N_coverings ["length", "letters"] (L2.defScope s_coverings):=⟨rfl,rfl,rfl,by decide +kernel,rfl,by decide +kernel,by decide +kernel⟩
theorem bi_coverings:BindAll "coverings" s_coverings ["length", "letters"]:=fun _ _ _ _ _ _ us hl=>match us,hl with | [_,_],_=>rfl
theorem ok_coverings {W:Wd} {base:Heap} (b_range:W.mg "range" = none):BodyOk W base N_coverings "coverings" s_coverings 0 m_coverings:=by?
 exact fun f cd A o s H hr=>by
  have hN:=(sc_coverings).nd
  exact ss_cons (ss_set (i:=2) hN (se_lst (sa_cons (se_bin od_add (se_lst (sa_cons (se_int) (sa_nil))) (se_bin od_mul (se_lst (sa_cons (se_int) (sa_nil))) (se_var 1))) (sa_nil)))) (ss_cons (ss_for PassesOwn.never rfl (si_rng1 rfl b_range (se_var 0)) (sg_name (i:=3) hN) (ss_cons (ss_set (i:=4) hN (se_ixA hr.un (se_var 2) (se_un ud_neg (se_int)))) (ss_one (ss_expr (se_meth mr_append (se_var 2) (sa_cons (se_lcB [("wanted", 5)] (si_rng1 rfl b_range (se_bin od_add (se_var 1) (se_int))) hN rfl (by kernel_rfl) (fun _ _ _ _ _=>sg_name (i:=5) hN) (fun _ _ _ _ _=>sts_nil) (fun _ _ _ _ _=>se_bin od_add (se_bin od_mul (se_bin od_sub (se_var 1) (se_var 5)) (se_ixA hr.un (se_var 4) (se_var 5))) (se_bin od_mul (se_var 5) (se_ixA hr.un (se_var 4) (se_bin od_sub (se_var 5) (se_int)))))) (sa_nil))))))) (ss_one (ss_ret (se_var 2))))
noncomputable
abbrev N_choose:List Str:=["count", "size", "found", "at"]
theorem sc_choose:FnScope N_choose ["count", "size"] (L2.defScope s_choose):=⟨rfl,rfl,rfl,by decide +kernel,rfl,by decide +kernel,by decide +kernel⟩
theorem bi_choose:BindAll "choose" s_choose ["count", "size"]:=fun _ _ _ _ _ _ us hl=>match us,hl with | [_,_],_=>rfl
theorem ok_choose {W:Wd} {base:Heap} (b_range:W.mg "range" = none):BodyOk W base N_choose "choose" s_choose 0 m_choose:=by?
 exact fun f cd A o s H hr=>by
  have hN:=(sc_choose).nd
  exact ss_cons (ss_set (i:=2) hN (se_int)) (ss_cons (ss_for PassesOwn.never rfl (si_rng1 rfl b_range (se_var 1)) (sg_name (i:=3) hN) (ss_one (ss_set (i:=2) hN (se_bin od_fdiv (se_bin od_mul (se_var 2) (se_bin od_sub (se_var 0) (se_var 3))) (se_bin od_add (se_var 3) (se_int)))))) (ss_one (ss_ret (se_var 2))))
noncomputable
abbrev N_beginnings:List Str:=["length", "letters", "most", "rows", "found", "kept", "one", "other"]
theorem sc_beginnings:FnScope N_beginnings ["length", "letters"] (L2.defScope s_beginnings):=⟨rfl,rfl,rfl,by decide +kernel,rfl,by decide +kernel,by decide +kernel⟩
theorem bi_beginnings:BindAll "beginnings" s_beginnings ["length", "letters"]:=fun _ _ _ _ _ _ us hl=>match us,hl with | [_,_],_=>rfl
theorem ok_beginnings {W:Wd} {base:Heap} (b_min:W.mg "min" = none) (b_range:W.mg "range" = none) (b_zip:W.mg "zip" = none) (c_coverings:Cal W base 1 2 "coverings" f_coverings) (c_choose:Cal W base 1 2 "choose" f_choose):BodyOk W base N_beginnings "beginnings" s_beginnings 1 m_beginnings:=by?
 exact fun f cd A o s H hr=>by
  have hN:=(sc_beginnings).nd
  exact ss_cons (ss_asg (se_tup (sa_cons (se_callB (cd_min2 rfl) rfl b_min bt_min (sa_cons (se_var 0) (sa_cons (se_var 1) (sa_nil)))) (sa_cons (se_callC c_coverings hr (sa_cons (se_var 0) (sa_cons (se_var 1) (sa_nil)))) (sa_nil)))) (sg_tup rfl (sgs_cons (sg_name (i:=2) hN) (sgs_cons (sg_name (i:=3) hN) (sgs_nil))))) (ss_cons (ss_set (i:=4) hN (se_bin od_add (se_lcB [("kept", 5)] (si_rng1 rfl b_range (se_bin od_add (se_var 2) (se_int))) hN rfl (by kernel_rfl) (fun _ _ _ _ _=>sg_name (i:=5) hN) (fun _ _ _ _ _=>sts_nil) (fun _ _ _ _ _=>se_bin od_mul (se_callC c_choose hr (sa_cons (se_var 1) (sa_cons (se_var 5) (sa_nil)))) (se_ixA hr.un (se_ixA hr.un (se_var 3) (se_bin od_sub (se_var 0) (se_var 5))) (se_bin od_sub (se_var 1) (se_var 5))))) (se_lst (sa_cons (se_int) (sa_nil))))) (ss_one (ss_ret (se_lcB [("one", 6),("other", 7)] (si_zip rfl b_zip (se_var 4) (se_sl (se_var 4) (so_some (se_int)) (so_none))) hN rfl (by kernel_rfl) (fun _ _ _ _ _=>sg_tup rfl (sgs_cons (sg_name (i:=6) hN) (sgs_cons (sg_name (i:=7) hN) (sgs_nil)))) (fun _ _ _ _ _=>sts_nil) (fun _ _ _ _ _=>se_bin od_sub (se_var 6) (se_var 7))))))
noncomputable
abbrev N_table:List Str:=["count", "length", "found", "letters", "rows", "top", "sets", "kept", "number", "goals"]
theorem sc_table:FnScope N_table ["count", "length"] (L2.defScope s_table):=⟨rfl,rfl,rfl,by decide +kernel,rfl,by decide +kernel,by decide +kernel⟩
theorem bi_table:BindAll "table" s_table ["count", "length"]:=fun _ _ _ _ _ _ us hl=>match us,hl with | [_,_],_=>rfl
theorem ok_table {W:Wd} {base:Heap} (b_min:W.mg "min" = none) (b_range:W.mg "range" = none) (c_beginnings:Cal W base 2 2 "beginnings" f_beginnings) (c_choose:Cal W base 1 2 "choose" f_choose):BodyOk W base N_table "table" s_table 2 m_table:=by?
 exact fun f cd A o s H hr=>by
  have hN:=(sc_table).nd
  exact ss_cons (ss_if (st_cmp (od_eq hr.un) (se_var 1) (se_int) rfl) (ss_one (ss_ret (se_disp (.cons (se_var 0) (se_int) (.nil))))) (ss_nil)) (ss_cons (ss_set (i:=2) hN (se_dic0)) (ss_cons (ss_for PassesOwn.never rfl (si_rng2 rfl b_range (se_int) (se_bin od_add (se_callB (cd_min2 rfl) rfl b_min bt_min (sa_cons (se_var 0) (sa_cons (se_var 1) (sa_nil)))) (se_int))) (sg_name (i:=3) hN) (ss_cons (ss_set (i:=4) hN (se_callC c_beginnings hr (sa_cons (se_var 1) (sa_cons (se_var 3) (sa_nil))))) (ss_one (ss_for PassesOwn.never rfl (si_rng2 rfl b_range (se_var 3) (se_bin od_add (se_var 0) (se_int))) (sg_name (i:=5) hN) (ss_cons (ss_set (i:=6) hN (se_callC c_choose hr (sa_cons (se_bin od_sub (se_var 5) (se_int)) (sa_cons (se_bin od_sub (se_var 3) (se_int)) (sa_nil))))) (ss_one (ss_for PassesOwn.never rfl (si_rng2 rfl b_range (se_int) (se_bin od_add (se_var 3) (se_int))) (sg_name (i:=7) hN) (ss_cons (ss_set (i:=8) hN (se_bin od_sub (se_bin od_add (se_bin od_add (se_bin od_sub (se_var 1) (se_var 7)) (se_var 0)) (se_var 5)) (se_bin od_mul (se_int) (se_var 3)))) (ss_one (ss_sub hr.un (se_bin od_add (se_meth (mr_get hr.un) (se_var 2) (sa_cons (se_var 8) (sa_cons (se_int) (sa_nil)))) (se_bin od_mul (se_var 6) (se_ixA hr.un (se_var 4) (se_var 7)))) (se_var 2) (se_var 8))))))))))) (ss_one (ss_ret (se_dcB [("number", 8),("goals", 9)] (si_items (se_var 2)) hN rfl (by kernel_rfl) (fun _ _ _ _ _=>sg_tup rfl (sgs_cons (sg_name (i:=8) hN) (sgs_cons (sg_name (i:=9) hN) (sgs_nil)))) (fun _ _ _ _ _=>sts_one (st_cmp od_gt (se_var 9) (se_int) rfl)) (fun _ _ _ _ _=>se_var 8) (fun _ _ _ _ _=>se_var 9))))))
noncomputable
abbrev N_goal_count:List Str:=["count", "length", "number"]
theorem sc_goal_count:FnScope N_goal_count ["count", "length", "number"] (L2.defScope s_goal_count):=⟨rfl,rfl,rfl,by decide +kernel,rfl,by decide +kernel,by decide +kernel⟩
theorem bi_goal_count:BindAll "goal_count" s_goal_count ["count", "length", "number"]:=fun _ _ _ _ _ _ us hl=>match us,hl with | [_,_,_],_=>rfl
theorem ok_goal_count {W:Wd} {base:Heap} (c_check_counts:Cal W base 2 2 "check_counts" f_check_counts) (c_is_count:Cal W base 1 1 "is_count" f_is_count) (c_table:Cal W base 3 2 "table" f_table):BodyOk W base N_goal_count "goal_count" s_goal_count 3 m_goal_count:=by?
 exact fun f cd A o s H hr=>by
  have hN:=(sc_goal_count).nd
  exact ss_cons (ss_expr (se_callC c_check_counts hr (sa_cons (se_var 0) (sa_cons (se_var 1) (sa_nil))))) (ss_one (ss_ret (se_if (st_val (se_callC c_is_count hr (sa_cons (se_var 2) (sa_nil)))) (se_meth (mr_get hr.un) (se_callC c_table hr (sa_cons (se_var 0) (sa_cons (se_var 1) (sa_nil)))) (sa_cons (se_var 2) (sa_cons (se_int) (sa_nil)))) (se_int))))
theorem r_goal_count:RFn f_goal_count gcF []:=r_gcF
noncomputable
abbrev N_cost_sum:List Str:=["count", "length", "number", "goals"]
theorem sc_cost_sum:FnScope N_cost_sum ["count", "length"] (L2.defScope s_cost_sum):=⟨rfl,rfl,rfl,by decide +kernel,rfl,by decide +kernel,by decide +kernel⟩
theorem bi_cost_sum:BindAll "cost_sum" s_cost_sum ["count", "length"]:=fun _ _ _ _ _ _ us hl=>match us,hl with | [_,_],_=>rfl
theorem ok_cost_sum {W:Wd} {base:Heap} (b_sum:W.mg "sum" = none) (c_check_counts:Cal W base 2 2 "check_counts" f_check_counts) (c_table:Cal W base 3 2 "table" f_table):BodyOk W base N_cost_sum "cost_sum" s_cost_sum 3 m_cost_sum:=by?
 exact fun f cd A o s H hr=>by
  have hN:=(sc_cost_sum).nd
  exact ss_cons (ss_expr (se_callC c_check_counts hr (sa_cons (se_var 0) (sa_cons (se_var 1) (sa_nil))))) (ss_one (ss_ret (se_callB (cd_sum rfl) rfl b_sum bt_sum (sa_cons (se_lcB [("number", 2),("goals", 3)] (si_items (se_callC c_table hr (sa_cons (se_var 0) (sa_cons (se_var 1) (sa_nil))))) hN rfl (by kernel_rfl) (fun _ _ _ _ _=>sg_tup rfl (sgs_cons (sg_name (i:=2) hN) (sgs_cons (sg_name (i:=3) hN) (sgs_nil)))) (fun _ _ _ _ _=>sts_nil) (fun _ _ _ _ _=>se_bin od_mul (se_var 2) (se_var 3))) (sa_nil)))))
theorem r_cost_sum:RFn f_cost_sum csF []:=r_csF
noncomputable
abbrev N_law:List Str:=["_law_script", "_law_k", "_law_source_here", "_law_turn", "_law_size", "_law_length", "_law_numbers_here", "_law_number", "_law_ways"]
theorem sc_law:FnScope N_law ["_law_script"] (L2.defScope s_law):=⟨rfl,rfl,rfl,by decide +kernel,rfl,by decide +kernel,by decide +kernel⟩
theorem bi_law:BindAll "law" s_law ["_law_script"]:=fun _ _ _ _ _ _ us hl=>match us,hl with | [_],_=>rfl
theorem ok_law {W:Wd} {base:Heap} (b_len:W.mg "len" = none) (b_min:W.mg "min" = none) (b_max:W.mg "max" = none) (b_range:W.mg "range" = none) (b_sum:W.mg "sum" = none) (c__law_source:Cal W base 1 2 "_law_source" f__law_source) (c__law_pick:Cal W base 2 2 "_law_pick" f__law_pick) (c__law_draw:Cal W base 1 2 "_law_draw" f__law_draw) (c__law_numbers:Cal W base 2 2 "_law_numbers" f__law_numbers) (c_goal_count:Cal W base 4 3 "goal_count" f_goal_count) (c_cost_sum:Cal W base 4 2 "cost_sum" f_cost_sum):BodyOk W base N_law "law" s_law 4 m_law:=by?
 exact fun f cd A o s H hr=>by
  have hN:=(sc_law).nd
  exact ss_cons (ss_for PassesOwn.never rfl (si_rng1 rfl b_range (se_callB (cd_max2 rfl) rfl b_max bt_max (sa_cons (se_int) (sa_cons (se_callB (cd_min2 rfl) rfl b_min bt_min (sa_cons (se_int) (sa_cons (se_callB cd_lenA rfl b_len bt_len (sa_cons (se_var 0) (sa_nil))) (sa_nil)))) (sa_nil))))) (sg_name (i:=1) hN) (ss_cons (ss_set (i:=2) hN (se_callC c__law_source hr (sa_cons (se_var 0) (sa_cons (se_var 1) (sa_nil))))) (ss_one (ss_for PassesOwn.never rfl (si_rng1 rfl b_range (se_int)) (sg_name (i:=3) hN) (ss_cons (ss_par (i:=4) (j:=5) rfl hN (sa_cons (se_callC c__law_pick hr (sa_cons (se_var 2) (sa_cons (se_lst (sa_cons (se_int) (sa_cons (se_callC c__law_draw hr (sa_cons (se_var 2) (sa_cons (se_int) (sa_nil)))) (sa_nil)))) (sa_nil)))) (sa_cons (se_callC c__law_pick hr (sa_cons (se_var 2) (sa_cons (se_lst (sa_cons (se_int) (sa_cons (se_callC c__law_draw hr (sa_cons (se_var 2) (sa_cons (se_int) (sa_nil)))) (sa_nil)))) (sa_nil)))) (sa_nil)))) (ss_cons (ss_set (i:=6) hN (se_callC c__law_numbers hr (sa_cons (se_var 4) (sa_cons (se_var 5) (sa_nil))))) (ss_cons (ss_for PassesOwn.never rfl (si_rng1 rfl b_range (se_bin od_add (se_bin od_add (se_bin od_mul (se_int) (se_var 4)) (se_var 5)) (se_int))) (sg_name (i:=7) hN) (ss_one (ss_if (st_cmp (od_ne hr.un) (se_callC c_goal_count hr (sa_cons (se_var 4) (sa_cons (se_var 5) (sa_cons (se_var 7) (sa_nil))))) (se_meth (mr_get hr.un) (se_var 6) (sa_cons (se_var 7) (sa_cons (se_int) (sa_nil)))) rfl) (ss_one (ss_ret (se_bl))) (ss_nil)))) (ss_one (ss_if (st_cmp (od_ne hr.un) (se_callC c_cost_sum hr (sa_cons (se_var 4) (sa_cons (se_var 5) (sa_nil)))) (se_callB (cd_sum rfl) rfl b_sum bt_sum (sa_cons (se_lcIB [("_law_number", 7),("_law_ways", 8)] (se_var 6) hN rfl (by kernel_rfl) (fun _ _ _ _ _=>sg_tup rfl (sgs_cons (sg_name (i:=7) hN) (sgs_cons (sg_name (i:=8) hN) (sgs_nil)))) (fun _ _ _ _ _=>sts_nil) (fun _ _ _ _ _=>se_bin od_mul (se_var 7) (se_var 8))) (sa_nil))) rfl) (ss_one (ss_ret (se_bl))) (ss_nil)))))))))) (ss_one (ss_ret (se_bl)))
theorem r_law:RFn f_law g_law_k86b []:=rfn (rs_seq (rs_for (ri_rng1 (re_callB fv_max2 (ra_cons (re_int) (ra_cons (re_callB fv_min2 (ra_cons (re_int) (ra_cons (re_callB fv_lenA (ra_cons (re_var 0) (ra_nil))) (ra_nil)))) (ra_nil))))) (rs_seq (rs_asg 2 (re_call r__law_source (by decide) (ra_cons (re_var 0) (ra_cons (re_var 1) (ra_nil))))) (rs_for (ri_rng1 (re_int)) (rs_seq (rs_par 4 5 (ra_cons (re_call r__law_pick (by decide) (ra_cons (re_var 2) (ra_cons (re_lst (ra_cons (re_int) (ra_cons (re_call r__law_draw (by decide) (ra_cons (re_var 2) (ra_cons (re_int) (ra_nil)))) (ra_nil)))) (ra_nil)))) (ra_cons (re_call r__law_pick (by decide) (ra_cons (re_var 2) (ra_cons (re_lst (ra_cons (re_int) (ra_cons (re_call r__law_draw (by decide) (ra_cons (re_var 2) (ra_cons (re_int) (ra_nil)))) (ra_nil)))) (ra_nil)))) (ra_nil)))) (rs_seq (rs_asg 6 (re_call r__law_numbers (by decide) (ra_cons (re_var 4) (ra_cons (re_var 5) (ra_nil))))) (rs_seq (rs_for (ri_rng1 (re_bin ov_add (re_bin ov_add (re_bin ov_mul (re_int) (re_var 4)) (re_var 5)) (re_int))) (rs_if (rt_val (re_binG ov_ne (re_call r_goal_count (by decide) (ra_cons (re_var 4) (ra_cons (re_var 5) (ra_cons (re_var 7) (ra_nil))))) (re_methB kv_dic mv_get (re_var 6) (ra_cons (re_var 7) (ra_cons (re_int) (ra_nil)))))) (rs_ret (re_bl)) (rs_pass))) (rs_if (rt_val (re_binG ov_ne (re_call r_cost_sum (by decide) (ra_cons (re_var 4) (ra_cons (re_var 5) (ra_nil)))) (re_callB fv_sum (ra_cons (re_lcI rfl (rt_yes) (re_bin ov_mul (re_var 7) (re_var 8))) (ra_nil))))) (rs_ret (re_bl)) (rs_pass)))))))) (rs_ret (re_bl)))
theorem all_k86 {K:PySem.W.Frag} {h:Heap} {mg:Str→Option Value} {P:Program} {w:World} {fa:Addr} (X:K.In h) (G:h.Ns mainGlobals mg) (hfa:mg "law" = some (.ref fa))
    (d__law_source:DefIs K "_law_source" s__law_source)
    (d__law_draw:DefIs K "_law_draw" s__law_draw)
    (d__law_pick:DefIs K "_law_pick" s__law_pick)
    (d__law_tallies:DefIs K "_law_tallies" s__law_tallies)
    (d__law_numbers:DefIs K "_law_numbers" s__law_numbers)
    (d_is_count:DefIs K "is_count" s_is_count)
    (d_check_counts:DefIs K "check_counts" s_check_counts)
    (d_coverings:DefIs K "coverings" s_coverings)
    (d_choose:DefIs K "choose" s_choose)
    (d_beginnings:DefIs K "beginnings" s_beginnings)
    (d_table:DefIs K "table" s_table)
    (d_goal_count:DefIs K "goal_count" s_goal_count)
    (d_cost_sum:DefIs K "cost_sum" s_cost_sum)
    (d_law:DefIs K "law" s_law)
    (z_len:PySem.W.nsIn K mainGlobals "len" = some none)
    (z_abs:PySem.W.nsIn K mainGlobals "abs" = some none)
    (z_range:PySem.W.nsIn K mainGlobals "range" = some none)
    (z_int:PySem.W.nsIn K mainGlobals "int" = some none)
    (z_isinstance:PySem.W.nsIn K mainGlobals "isinstance" = some none)
    (z_bool:PySem.W.nsIn K mainGlobals "bool" = some none)
    (z_min:PySem.W.nsIn K mainGlobals "min" = some none)
    (z_zip:PySem.W.nsIn K mainGlobals "zip" = some none)
    (z_sum:PySem.W.nsIn K mainGlobals "sum" = some none)
    (z_max:PySem.W.nsIn K mainGlobals "max" = some none)
    {t_MOST_VALUES:Tok} (y_MOST_VALUES:PySem.W.nsIn K mainGlobals "MOST_VALUES" = some (some (.int 20 t_MOST_VALUES)))
    {t_MOST_LENGTH:Tok} (y_MOST_LENGTH:PySem.W.nsIn K mainGlobals "MOST_LENGTH" = some (some (.int 30 t_MOST_LENGTH)))
    : ∃fd:FuncData,(∀ (s:Shared) (u:Value),BindsTo s fd ⟨[u],[]⟩ [("_law_script", u)])∧∀base:Heap,K.In base→base.Ns mainGlobals mg→FnD ⟨K,mg,P,w⟩ base 5 fa fd ["_law_script"] f_law:=by?
  have b_len:mg "len" = none:=PySem.W.mg_none_of X G z_len
  have b_abs:mg "abs" = none:=PySem.W.mg_none_of X G z_abs
  have b_range:mg "range" = none:=PySem.W.mg_none_of X G z_range
  have b_int:mg "int" = none:=PySem.W.mg_none_of X G z_int
  have b_isinstance:mg "isinstance" = none:=PySem.W.mg_none_of X G z_isinstance
  have b_bool:mg "bool" = none:=PySem.W.mg_none_of X G z_bool
  have b_min:mg "min" = none:=PySem.W.mg_none_of X G z_min
  have b_zip:mg "zip" = none:=PySem.W.mg_none_of X G z_zip
  have b_sum:mg "sum" = none:=PySem.W.mg_none_of X G z_sum
  have b_max:mg "max" = none:=PySem.W.mg_none_of X G z_max
  have n_MOST_VALUES:NumIs ⟨K,mg,P,w⟩ "MOST_VALUES" 20:=⟨_,PySem.W.mg_of X G y_MOST_VALUES⟩
  have n_MOST_LENGTH:NumIs ⟨K,mg,P,w⟩ "MOST_LENGTH" 30:=⟨_,PySem.W.mg_of X G y_MOST_LENGTH⟩
  have c__law_source:∀base:Heap,K.In base→base.Ns mainGlobals mg→Cal ⟨K,mg,P,w⟩ base 1 2 "_law_source" f__law_source:=fun base h1 h2=>cal_of (N:=N__law_source) (m:=m__law_source) (st:=s__law_source) (k:=0) d__law_source h1 h2 sc__law_source bi__law_source (ok__law_source b_len b_abs)
  have c__law_draw:∀base:Heap,K.In base→base.Ns mainGlobals mg→Cal ⟨K,mg,P,w⟩ base 1 2 "_law_draw" f__law_draw:=fun base h1 h2=>cal_of (N:=N__law_draw) (m:=m__law_draw) (st:=s__law_draw) (k:=0) d__law_draw h1 h2 sc__law_draw bi__law_draw (ok__law_draw)
  have c__law_pick:∀base:Heap,K.In base→base.Ns mainGlobals mg→Cal ⟨K,mg,P,w⟩ base 2 2 "_law_pick" f__law_pick:=fun base h1 h2=>cal_of (N:=N__law_pick) (m:=m__law_pick) (st:=s__law_pick) (k:=1) d__law_pick h1 h2 sc__law_pick bi__law_pick (ok__law_pick b_len (c__law_draw base h1 h2))
  have c__law_tallies:∀base:Heap,K.In base→base.Ns mainGlobals mg→Cal ⟨K,mg,P,w⟩ base 1 2 "_law_tallies" f__law_tallies:=fun base h1 h2=>cal_of (N:=N__law_tallies) (m:=m__law_tallies) (st:=s__law_tallies) (k:=0) d__law_tallies h1 h2 sc__law_tallies bi__law_tallies (ok__law_tallies b_range b_int)
  have c__law_numbers:∀base:Heap,K.In base→base.Ns mainGlobals mg→Cal ⟨K,mg,P,w⟩ base 2 2 "_law_numbers" f__law_numbers:=fun base h1 h2=>cal_of (N:=N__law_numbers) (m:=m__law_numbers) (st:=s__law_numbers) (k:=1) d__law_numbers h1 h2 sc__law_numbers bi__law_numbers (ok__law_numbers b_range b_len (c__law_tallies base h1 h2))
  have c_is_count:∀base:Heap,K.In base→base.Ns mainGlobals mg→Cal ⟨K,mg,P,w⟩ base 1 1 "is_count" f_is_count:=fun base h1 h2=>cal_of (N:=N_is_count) (m:=m_is_count) (st:=s_is_count) (k:=0) d_is_count h1 h2 sc_is_count bi_is_count (ok_is_count b_int b_isinstance b_bool)
  have c_check_counts:∀base:Heap,K.In base→base.Ns mainGlobals mg→Cal ⟨K,mg,P,w⟩ base 2 2 "check_counts" f_check_counts:=fun base h1 h2=>cal_of (N:=N_check_counts) (m:=m_check_counts) (st:=s_check_counts) (k:=1) d_check_counts h1 h2 sc_check_counts bi_check_counts (ok_check_counts (c_is_count base h1 h2) n_MOST_VALUES n_MOST_LENGTH)
  have c_coverings:∀base:Heap,K.In base→base.Ns mainGlobals mg→Cal ⟨K,mg,P,w⟩ base 1 2 "coverings" f_coverings:=fun base h1 h2=>cal_of (N:=N_coverings) (m:=m_coverings) (st:=s_coverings) (k:=0) d_coverings h1 h2 sc_coverings bi_coverings (ok_coverings b_range)
  have c_choose:∀base:Heap,K.In base→base.Ns mainGlobals mg→Cal ⟨K,mg,P,w⟩ base 1 2 "choose" f_choose:=fun base h1 h2=>cal_of (N:=N_choose) (m:=m_choose) (st:=s_choose) (k:=0) d_choose h1 h2 sc_choose bi_choose (ok_choose b_range)
  have c_beginnings:∀base:Heap,K.In base→base.Ns mainGlobals mg→Cal ⟨K,mg,P,w⟩ base 2 2 "beginnings" f_beginnings:=fun base h1 h2=>cal_of (N:=N_beginnings) (m:=m_beginnings) (st:=s_beginnings) (k:=1) d_beginnings h1 h2 sc_beginnings bi_beginnings (ok_beginnings b_min b_range b_zip (c_coverings base h1 h2) (c_choose base h1 h2))
  have c_table:∀base:Heap,K.In base→base.Ns mainGlobals mg→Cal ⟨K,mg,P,w⟩ base 3 2 "table" f_table:=fun base h1 h2=>cal_of (N:=N_table) (m:=m_table) (st:=s_table) (k:=2) d_table h1 h2 sc_table bi_table (ok_table b_min b_range (c_beginnings base h1 h2) (c_choose base h1 h2))
  have c_goal_count:∀base:Heap,K.In base→base.Ns mainGlobals mg→Cal ⟨K,mg,P,w⟩ base 4 3 "goal_count" f_goal_count:=fun base h1 h2=>cal_of (N:=N_goal_count) (m:=m_goal_count) (st:=s_goal_count) (k:=3) d_goal_count h1 h2 sc_goal_count bi_goal_count (ok_goal_count (c_check_counts base h1 h2) (c_is_count base h1 h2) (c_table base h1 h2))
  have c_cost_sum:∀base:Heap,K.In base→base.Ns mainGlobals mg→Cal ⟨K,mg,P,w⟩ base 4 2 "cost_sum" f_cost_sum:=fun base h1 h2=>cal_of (N:=N_cost_sum) (m:=m_cost_sum) (st:=s_cost_sum) (k:=3) d_cost_sum h1 h2 sc_cost_sum bi_cost_sum (ok_cost_sum b_sum (c_check_counts base h1 h2) (c_table base h1 h2))
  exact law_of (N:=N_law) (m:=m_law) (st:=s_law) d_law X G hfa sc_law bi_law fun base h1 h2=>ok_law b_len b_min b_max b_range b_sum (c__law_source base h1 h2) (c__law_pick base h1 h2) (c__law_draw base h1 h2) (c__law_numbers base h1 h2) (c_goal_count base h1 h2) (c_cost_sum base h1 h2)
end Sg.k86
namespace Vp
noncomputable
abbrev Env:=Vg.Env
open PySem hiding Env
open Sg
open Vg hiding Env
theorem vFn_rt {N:Nat} {mp:List Nat} {m:VS} {vs:List NV} {env:Env} {e v:EV} {os:List NV} (h:m (vst mp 0 vs++List.replicate (N - vs.length) .un)=.ok (.rt e,env)) (hv:vret env e=some v) (ho:outs env mp=some os) (hl:(mp.all fun j=>decide (j < vs.length))=true) :
    vFn N mp m vs=.ok (v,os):=by
  unfold vFn
  rw [grd_of hl,h]
  simp only [hv,ho,ofO_some,R.ok_bind]
theorem vFn_nx {N:Nat} {mp:List Nat} {m:VS} {vs:List NV} {env:Env} {os:List NV} (h:m (vst mp 0 vs++List.replicate (N - vs.length) .un)=.ok (.nx,env)) (ho:outs env mp=some os) (hl:(mp.all fun j=>decide (j < vs.length))=true) :
    vFn N mp m vs=.ok (.im .non,os):=by
  unfold vFn
  rw [grd_of hl,h]
  simp only [ho,ofO_some,R.ok_bind]
theorem vCall_ok {f:VF} {n:Nat} {mp:List Nat} {a:VA} {env env1 env2 env3:Env} {es:List EV} {vs:List NV} {ev:EV} {os:List NV} (ha:a env=.ok (es,env1)) (hl:es.length=n) (hn:noAlias mp es=true) (hg:gets env1 es=some vs) (hf:f vs=.ok (ev,os))
    (hw:wback mp os es env1=some env2) (hd:lend (lent mp 0 es) (lendOk ev os) env2=some env3):vCall f n mp a env=.ok (ev,env3):=by
  unfold vCall
  rw [ha]
  simp only [R.ok_bind]
  rw [grd_of ⟨hl,hn⟩,hg]
  simp only [ofO_some,R.ok_bind,hf,hw,Option.bind_some,hd]
theorem lend_nil {c:Bool} {env:Env}:lend [] c env=some env:=by unfold lend;split <;> rfl
/-- .. that lends no list -/
theorem vCall0_ok {f:VF} {n:Nat} {mp:List Nat} {a:VA} {env env1 env2:Env} {es:List EV} {vs:List NV} {ev:EV} {os:List NV} (ha:a env=.ok (es,env1)) (hg:gets env1 es=some vs) (hf:f vs=.ok (ev,os)) (hw:wback mp os es env1=some env2)
    (hl:es.length=n:=by rfl) (hn:noAlias mp es=true:=by rfl) (hd:lent mp 0 es=[]:=by rfl):vCall f n mp a env=.ok (ev,env2):=vCall_ok ha hl hn hg hf hw (by rw [hd];exact lend_nil)
theorem vSeq_nx {a b:VS} {env env1:Env} (h:a env=.ok (.nx,env1)):vSeq a b env=b env1:=by unfold vSeq;rw [h];rfl
theorem vSeq_rt {a b:VS} {env env1:Env} {e:EV} (h:a env=.ok (.rt e,env1)):vSeq a b env=.ok (.rt e,env1):=by unfold vSeq;rw [h];rfl
theorem vBin_ok {f:VO2} {a b:VE} {env env1 env2:Env} {x y z:EV} {u w:NV} (ha:a env=.ok (x,env1)) (hb:b env1=.ok (y,env2)) (hx:x.get env2=some u) (hy:y.get env2=some w) (hf:f u w=some z):vBin f a b env=.ok (z,env2):=by
  unfold vBin;rw [ha];simp only [R.ok_bind];rw [hb];simp only [R.ok_bind,hx,hy,Option.bind_some,hf,ofO_some]
theorem vAsg_ok {a:VE} {i:Nat} {env env1 env2 env3:Env} {x:EV} {s:Sl} (ha:a env=.ok (x,env1)) (hk:vKeep x env1=some (s,env2)) (hs:vSet i s env2=some env3):vAsg a (.nm i) env=.ok (.nx,env3):=by
  unfold vAsg;rw [ha];simp only [R.ok_bind,hk,Option.bind_some,hs,ofO_some]
theorem vAsgT_ok {a:VE} {ts:List Tg} {env env1 env2 env3:Env} {x:EV} {y:NV} (ha:a env=.ok (x,env1)) (hk:frz x env1=some (y,env2)) (hs:vPut (.tp ts) y env2=some env3):vAsg a (.tp ts) env=.ok (.nx,env3):=by
  unfold vAsg;rw [ha];simp only [R.ok_bind,hk,Option.bind_some,hs,ofO_some]
theorem vTup_ok {a:VA} {env env1 env2:Env} {es:List EV} {vs:List NV} (ha:a env=.ok (es,env1)) (hf:frzs es env1=some (vs,env2)) (hl:es.length≤LINE:=by simp only [List.length_cons,List.length_nil];decide):vTup a env=.ok (.im (.tup vs),env2):=by
  unfold vTup;rw [ha];simp only [R.ok_bind];rw [grd_of hl,hf];rfl
theorem vLst_ok {a:VA} {env env1 env2:Env} {es:List EV} {vs:List NV} (ha:a env=.ok (es,env1)) (hf:frzs es env1=some (vs,env2)) (hl:es.length≤LINE:=by simp only [List.length_cons,List.length_nil];decide):vLst a env=.ok (.fr (.lst vs),env2):=by
  unfold vLst;rw [ha];simp only [R.ok_bind];rw [grd_of hl,hf];rfl
theorem vRet_ok {a:VE} {env env1:Env} {x:EV} (ha:a env=.ok (x,env1)):vRet a env=.ok (.rt x,env1):=by unfold vRet;rw [ha];rfl
theorem vDrop_ok {a:VE} {env env1:Env} {x:EV} (ha:a env=.ok (x,env1)):vDrop a env=.ok (.nx,env1):=by unfold vDrop;rw [ha];rfl
theorem vCallB_ok {f:List NV→Option EV} {a:VA} {env env1:Env} {es:List EV} {vs:List NV} {z:EV} (ha:a env=.ok (es,env1)) (hg:gets env1 es=some vs) (hf:f vs=some z):vCallB f a env=.ok (z,env1):=by
  unfold vCallB;rw [ha];simp only [R.ok_bind,hg,Option.bind_some,hf,ofO_some]
theorem vCons_ok {a:VE} {r:VA} {env env1 env2:Env} {x:EV} {ys:List EV} (ha:a env=.ok (x,env1)) (hr:r env1=.ok (ys,env2)):vCons a r env=.ok (x::ys,env2):=by unfold vCons;rw [ha];simp only [R.ok_bind];rw [hr];rfl
theorem vNil_ok {env:Env}:vNil env=.ok ([],env):=rfl
theorem vIfS_ok {t:VT} {a b:VS} {env env1:Env} {c:Bool} (h:t env=.ok (c,env1)):vIfS t a b env=if c then a env1 else b env1:=by unfold vIfS;rw [h];rfl
theorem vVal_ok {a:VE} {env env1:Env} {x:EV} {b:Bool} (ha:a env=.ok (x,env1)) (hx:x.get env1=some (.bl b)):vVal a env=.ok (b,env1):=by unfold vVal;rw [ha];simp only [R.ok_bind,hx,Option.bind_some,isBl,ofO_some]
theorem vMethB_ok {K:NV→Bool} {f:NV→List NV→Option EV} {o:VE} {a:VA} {env env1 env2:Env} {x z:EV} {u0 u:NV} {es:List EV} {ws:List NV} (ho:o env=.ok (x,env1)) (h0:x.get env1=some u0) (hk:K u0=true) (ha:a env1=.ok (es,env2)) (hu:x.get env2=some u) (hg:gets env2 es=some ws) (hf:f u ws=some z) :
    vMethB K f o a env=.ok (z,env2):=by
  unfold vMethB;rw [ho];simp only [R.ok_bind,h0,ofO_some];rw [grd_of hk,ha];simp only [R.ok_bind,hu,hg,Option.bind_some,hf,ofO_some]
theorem vMethM_ow {K:NV→Bool} {f:NV→List NV→Option (NV×NV)} {o:VE} {a:VA} {env env1 env2 env3:Env} {k:Nat} {u0 u:NV} {es:List EV} {ws:List NV} {z:NV×NV} (ho:o env=.ok (.sl k,env1)) (h0:EV.get env1 (.sl k)=some u0) (hk:K u0=true) (ha:a env1=.ok (es,env2)) (hf:frzs es env2=some (ws,env3)) (hu:env3[k]? = some (.ow u)) (hz:f u ws=some z) :
    vMethM K f o a env=.ok (.im z.1,env3.set k (.ow z.2)):=by
  unfold vMethM;rw [ho];simp only [R.ok_bind,h0,ofO_some];rw [grd_of hk,ha];simp only [R.ok_bind,hf,ofO_some,hu,hz]
theorem vMethM_bo {K:NV→Bool} {f:NV→List NV→Option (NV×NV)} {o:VE} {a:VA} {env env1 env2 env3:Env} {k:Nat} {u0 u:NV} {es:List EV} {ws:List NV} {z:NV×NV} (ho:o env=.ok (.sl k,env1)) (h0:EV.get env1 (.sl k)=some u0) (hk:K u0=true) (ha:a env1=.ok (es,env2)) (hf:frzs es env2=some (ws,env3)) (hu:env3[k]? = some (.bo u)) (hz:f u ws=some z) :
    vMethM K f o a env=.ok (.im z.1,env3.set k (.bo z.2)):=by
  unfold vMethM;rw [ho];simp only [R.ok_bind,h0,ofO_some];rw [grd_of hk,ha];simp only [R.ok_bind,hf,ofO_some,hu,hz]
theorem vFor_nx {it:VI} {g:Tg} {b:VS} {env env1:Env} {xs:List NV} (hi:it env=.ok (xs,env1)):vFor it g b env=vForL g b xs env1:=by unfold vFor;rw [hi];rfl
theorem voAdd_lst {a b:List NV} (h:a.length+b.length≤LINE):voAdd (.lst a) (.lst b)=some (.fr (.lst (a++b))):=if_pos h
theorem voAdd_tup {a b:List NV} (h:a.length+b.length≤LINE):voAdd (.tup a) (.tup b)=some (.im (.tup (a++b))):=if_pos h
theorem back_wipe {env:Env} {vs:List Nat}:vBack env vs (vWipe env vs)=env:=by
  apply List.ext_getElem?
  intro k
  by_cases h:k∈vs
  · exact vBack_in env _ (vWipe_len env vs) h
  · rw [vBack_out env _ h,vWipe_out env h]
theorem vLcL_pure {g:Tg} {t:VT} {e:VE} {vs:List Nat} {env:Env} {c:NV→Bool} {f:NV→NV}:∀ (xs acc:List NV),acc.length+xs.length≤LINE →
    (∀x∈xs,∃r,vPut g x env=some r∧t r=.ok (c x,r)∧(c x=true→∃y,e r=.ok (y,r)∧frz y r=some (f x,r))∧vWipe r vs=env)→vLcL g t e vs xs acc env=.ok (acc++(xs.filter c).map f,env)
  | [],acc,_,_=>by simp [vLcL]
  | x :: xs,acc,hl,h=>by
    obtain ⟨r,h1,h2,h3,h4⟩:=h x (List.mem_cons_self ..)
    have hl':acc.length+(xs.length+1)≤LINE:=hl
    simp only [vLcL,h1,ofO_some,R.ok_bind,h2]
    cases hc:c x with
    | false=>
      simp only [Bool.false_eq_true,if_false,h4]
      rw [vLcL_pure xs acc (by omega) fun y hy=>h y (List.mem_cons_of_mem _ hy),List.filter_cons_of_neg (by simp [hc])]
    | true=>
      obtain ⟨y,h5,h6⟩:=h3 hc
      simp only [if_true,h5,R.ok_bind,h6,ofO_some]
      rw [grd_of (by omega),h4,vLcL_pure xs (acc++[f x]) (by simp;omega) fun y hy=>h y (List.mem_cons_of_mem _ hy),List.filter_cons_of_pos (by simp [hc])]
      simp
theorem vLc_pure {it:VI} {g:Tg} {t:VT} {e:VE} {vs:List Nat} {env env1:Env} {xs:List NV} (c:NV→Bool) (f:NV→NV) (hi:it env=.ok (xs,env1)) (hl:xs.length≤LINE)
    (h:∀x∈xs,∃r,vPut g x (vWipe env1 vs)=some r∧t r=.ok (c x,r)∧(c x=true→∃y,e r=.ok (y,r)∧frz y r=some (f x,r))∧vWipe r vs=vWipe env1 vs):vLc it g t e vs env=.ok (.fr (.lst ((xs.filter c).map f)),env1):=by
  unfold vLc
  rw [hi]
  simp only [R.ok_bind]
  rw [vLcL_pure xs [] (by simpa using hl) h]
  simp only [R.ok_bind,List.nil_append,back_wipe]
/-- a state of draws after at most k of them -/
noncomputable
def Src (k:Nat) (v:NV):Prop:=∃d s t:Int,v=.lst [.int d,.int s,.int t]∧0≤d∧0≤s∧s < 2305843009213693952∧0≤t∧t≤k
theorem Src.mono {k l:Nat} {v:NV} (h:Src k v) (hl:k≤l):Src l v:=by
  obtain ⟨d,s,t,h1,h2,h3,h4,h5,h6⟩:=h
  exact ⟨d,s,t,h1,h2,h3,h4,h5,by omega⟩
noncomputable
abbrev MOST:Nat:=1099511627776
theorem draw_ok {k:Nat} {v:NV} {n:Int} (h:Src k v) (hk:k < MOST) (n0:0 < n) (n1:n < 2 ^ 62):∃x v',g__law_draw [v,.int n]=.ok (.im (.int x),[v'])∧0≤x∧x < n∧Src (k+1) v':=by?
  obtain ⟨d,s,t,rfl,h2,h3,h4,h5,h6⟩:=h
  have ln:n.natAbs.log2 < 9000:=by
    have z:n.natAbs≠0:=by omega
    have:=(Nat.log2_lt (n:=n.natAbs) (k:=62) z).mpr (by omega)
    omega
  unfold g__law_draw
  by_cases hd:0 < d
  · refine ⟨d % n,.lst [.int (d / n),.int s,.int t],?_,Int.emod_nonneg _ (by omega),Int.emod_lt_of_pos _ n0,⟨_,_,_,rfl,Int.ediv_nonneg h2 (by omega),h3,h4,h5,by omega⟩⟩
    refine vFn_rt (e:=.im (.int (d % n))) (env:=[.bo (.lst [.int (d / n),.int s,.int t]),.sh (.int n),.sh (.int (d % n)),.un,.un]) ?_ rfl rfl rfl
    have ln2:(decide (0 < n∧n.natAbs.log2 < 9000))=true:=by simp [n0,ln]
    simp [v__law_draw,p__law_draw_1,p__law_draw_2,p__law_draw_3,vst,vSeq,vIfS,vVal,vBin,vVar,vC,EV.get,Sl.val,voIx,vix,ixP,voGt,isBl,hd,vAsg,voMod,n0,vKeep,frz,vSet,vSub,voFdiv,ln,vset,vRet]
  · have hd0:d=0:=by omega
    subst hd0
    -- the numbers are within the line
    have b1:∀ {a b:Int} {i j:Nat},a.natAbs < 2 ^ i→b.natAbs < 2 ^ j→i+j < 1000000→mulOk a b=true:=fun h g hij=>mulOk_of h g hij
    have bt:(t+1).natAbs < 2 ^ 41:=by
      have:(t+1).natAbs≤1099511627776:=by have:=hk;simp only [MOST] at this;omega
      exact Nat.lt_of_le_of_lt this (by decide)
    have m1:mulOk 65537 (t+1)=true:=b1 (i:=17) (by decide) bt (by decide)
    have bm1:(65537 * (t+1)).natAbs < 2 ^ (17+41):=Bd.mul (a:=17) (b:=41) (show Int.natAbs _ < 2 ^ 17 by decide) bt
    have m2:mulOk (65537 * (t+1)) (t+1)=true:=b1 bm1 bt (by decide)
    have bm2:(65537 * (t+1) * (t+1)).natAbs < 2 ^ (58+41):=Bd.mul (a:=58) (b:=41) bm1 bt
    have bs:s.natAbs < 2 ^ 99:=Nat.lt_of_lt_of_le (show s.natAbs < 2 ^ 61 by omega) (by decide)
    have bs2:(s+65537 * (t+1) * (t+1)).natAbs < 2 ^ 100:=Bd.add (a:=99) bs bm2
    have bs3:(s+65537 * (t+1) * (t+1)+11).natAbs < 2 ^ 101:=Bd.add (a:=100) bs2 (show Int.natAbs _ < 2 ^ 100 by decide)
    have m3:mulOk (s+65537 * (t+1) * (t+1)+11) 48271=true:=b1 bs3 (j:=16) (by decide) (by decide)
    generalize hm:(s+65537 * (t+1) * (t+1)+11) * 48271 % 2305843009213693921=x1
    have x1b:0≤x1∧x1 < 2305843009213693921:=by rw [← hm];exact ⟨Int.emod_nonneg _ (by decide),Int.emod_lt_of_pos _ (by decide)⟩
    have m4:mulOk 99991 (t+1)=true:=b1 (i:=17) (by decide) bt (by decide)
    have bm4:(99991 * (t+1)).natAbs < 2 ^ (17+41):=Bd.mul (a:=17) (b:=41) (show Int.natAbs _ < 2 ^ 17 by decide) bt
    have x2b:0≤x1 % 1000003∧x1 % 1000003 < 1000003:=⟨Int.emod_nonneg _ (by decide),Int.emod_lt_of_pos _ (by decide)⟩
    have bx2:(x1 % 1000003).natAbs < 2 ^ 58:=Nat.lt_of_lt_of_le (show (x1 % 1000003).natAbs < 2 ^ 20 by omega) (by decide)
    have bx3:(x1 % 1000003+99991 * (t+1)).natAbs < 2 ^ 59:=Bd.add (a:=58) bx2 bm4
    have bx1:x1.natAbs < 2 ^ 61:=by omega
    have m5:mulOk x1 (x1 % 1000003+99991 * (t+1))=true:=b1 bx1 bx3 (by decide)
    generalize hm2:x1 * (x1 % 1000003+99991 * (t+1)) % 2305843009213693907=x3
    refine ⟨(x3 / 97+x3 / 1000033) % n,.lst [.int 0,.int s,.int (t+1)],?_,Int.emod_nonneg _ (by omega),Int.emod_lt_of_pos _ n0,⟨_,_,_,rfl,by omega,h3,h4,by omega,by omega⟩⟩
    refine vFn_rt (e:=.im (.int ((x3 / 97+x3 / 1000033) % n))) (env:=[.bo (.lst [.int 0,.int s,.int (t+1)]),.sh (.int n),.un,.sh (.int (t+1)),.sh (.int x3)]) ?_ rfl rfl rfl
    have l1:Nat.log2 97 < 9000:=by decide +kernel
    have l2:Nat.log2 1000033 < 9000:=by decide +kernel
    simp [v__law_draw,p__law_draw_1,p__law_draw_5,p__law_draw_7,p__law_draw_8,p__law_draw_9,vst,vSeq,vIfS,vVal,vBin,vVar,vC,EV.get,Sl.val,voIx,vix,ixP,voGt,isBl,vAsg,voMod,vKeep,frz,vSet,vSub,voFdiv,vset,vRet,vPass,voAdd,voMul,m1,m2,m3,hm,m4,m5,hm2,n0,l1,l2]
end Vp
namespace Vp
open PySem hiding Env
open Sg
open Vg hiding Env
mutual
noncomputable
def pl:Nat→NV→Bool
  | _,.int _=>true
  | _,.str s=>PyData.strOk s
  | _,.non=>true
  | d+1,.tup xs=>pls d xs
  | d+1,.lst xs=>pls d xs
  | _,_=>false
noncomputable
def pls:Nat→List NV→Bool
  | _,[]=>true
  | d,x::xs=>pl d x && pls d xs
end
mutual
noncomputable
def nd:NV→PyData
  | .int i=>.int i
  | .str s=>.str s
  | .tup xs=>.tuple (nds xs)
  | .lst xs=>.list (nds xs)
  | _=>.none
noncomputable
def nds:List NV→List PyData
  | []=>[]
  | x::xs=>nd x::nds xs
end
mutual
theorem pl_dat:∀ (d:Nat) (v:NV),pl d v=true→vdat v=some (nd v)∧(nd v).canLay0=true∧(nd v).depth≤d
  | d,.int i,_=>by simp [vdat,nd,PyData.canLay0,PyData.depth]
  | d,.str s,h=>by simp only [pl] at h;simp [vdat,nd,PyData.canLay0,PyData.depth,h]
  | d,.non,_=>by simp [vdat,nd,PyData.canLay0,PyData.depth]
  | d+1,.tup xs,h=>by
    simp only [pl] at h
    obtain ⟨h1,h2,h3⟩:=pls_dat d xs h
    simp only [vdat,h1,nd,PyData.canLay0,h2,PyData.depth,Option.map_some,true_and];omega
  | d+1,.lst xs,h=>by
    simp only [pl] at h
    obtain ⟨h1,h2,h3⟩:=pls_dat d xs h
    simp only [vdat,h1,nd,PyData.canLay0,h2,PyData.depth,Option.map_some,true_and];omega
  | 0,.tup _,h=>by simp [pl] at h
  | 0,.lst _,h=>by simp [pl] at h
  | _,.bl _,h=>by simp [pl] at h
  | _,.ty _,h=>by simp [pl] at h
  | _,.glb _,h=>by simp [pl] at h
  | _,.fro _,h=>by simp [pl] at h
  | _,.dic _,h=>by simp [pl] at h
  | _,.set _,h=>by simp [pl] at h
theorem pls_dat:∀ (d:Nat) (v:List NV),pls d v=true→vdats v=some (nds v)∧PyData.canLayAll0 (nds v)=true∧PyData.depthAll (nds v)≤d
  | d,[],_=>by simp [vdats,nds,PyData.canLayAll0,PyData.depthAll]
  | d,x::xs,h=>by
    simp only [pls,Bool.and_eq_true] at h
    obtain ⟨h1,h2,h3⟩:=pl_dat d x h.1
    obtain ⟨h4,h5,h6⟩:=pls_dat d xs h.2
    simp only [vdats,h1,h4,nds,PyData.canLayAll0,h2,h5,PyData.depthAll,Bool.and_self,true_and];omega
end
mutual
theorem nd_eqv:∀ (d e:Nat) (a b:NV),pl d a=true→pl e b=true→PyData.eqv (nd a) (nd b)=decide (a=b)
  | d,e,.int i,b,ha,hb=>by cases b <;> simp_all [nd,PyData.eqv,pl] <;> rfl
  | d,e,.str s,b,ha,hb=>by cases b <;> simp_all [nd,PyData.eqv,pl] <;> rfl
  | d,e,.non,b,ha,hb=>by cases b <;> simp_all [nd,PyData.eqv,pl]
  | d + 1,e,.tup xs,b,ha,hb=>by
    cases b with
    | tup ys=>
      cases e with
      | zero=>simp [pl] at hb
      | succ e=>simp only [nd,PyData.eqv,nds_eqv d e xs ys (by simpa [pl] using ha) (by simpa [pl] using hb),NV.tup.injEq]
    | _=>simp_all [nd,PyData.eqv,pl]
  | d + 1,e,.lst xs,b,ha,hb=>by
    cases b with
    | lst ys=>
      cases e with
      | zero=>simp [pl] at hb
      | succ e=>simp only [nd,PyData.eqv,nds_eqv d e xs ys (by simpa [pl] using ha) (by simpa [pl] using hb),NV.lst.injEq]
    | _=>simp_all [nd,PyData.eqv,pl]
  | 0,_,.tup _,_,h,_=>by simp [pl] at h
  | 0,_,.lst _,_,h,_=>by simp [pl] at h
  | _,_,.bl _,_,h,_=>by simp [pl] at h
  | _,_,.ty _,_,h,_=>by simp [pl] at h
  | _,_,.glb _,_,h,_=>by simp [pl] at h
  | _,_,.fro _,_,h,_=>by simp [pl] at h
  | _,_,.dic _,_,h,_=>by simp [pl] at h
  | _,_,.set _,_,h,_=>by simp [pl] at h
theorem nds_eqv:∀ (d e:Nat) (a b:List NV),pls d a=true→pls e b=true→PyData.eqvAll (nds a) (nds b)=decide (a=b)
  | d,e,[],[],_,_=>by simp [nds,PyData.eqvAll]
  | d,e,[],_::_,_,_=>by simp [nds,PyData.eqvAll]
  | d,e,_::_,[],_,_=>by simp [nds,PyData.eqvAll]
  | d,e,x::xs,y::ys,ha,hb=>by
    simp only [pls,Bool.and_eq_true] at ha hb
    simp only [nds,PyData.eqvAll,nd_eqv d e x y ha.1 hb.1,nds_eqv d e xs ys ha.2 hb.2,List.cons.injEq,Bool.decide_and]
end
theorem veqD_pl {d e:Nat} {a b:NV} (ha:pl d a=true) (hb:pl e b=true) (hd:d≤64:=by omega) (he:e≤64:=by omega):veqD a b=some (decide (a=b)):=by
  obtain ⟨h1,h2,h3⟩:=pl_dat d a ha
  obtain ⟨h4,h5,h6⟩:=pl_dat e b hb
  unfold veqD
  rw [h1,h4]
  have s1:SeqAt.shaped (nd a)=true:=by unfold SeqAt.shaped;simp [h2];omega
  have s2:SeqAt.shaped (nd b)=true:=by unfold SeqAt.shaped;simp [h5];omega
  simp only [s1,s2,Bool.and_self,if_true,nd_eqv d e a b ha hb]
/-- equality of plain values -/
theorem veq_pl {d e:Nat} {a b:NV} (ha:pl d a=true) (hb:pl e b=true) (hd:d≤64:=by omega) (he:e≤64:=by omega):veq a b=some (decide (a=b)):=by
  unfold veq
  split <;> first
    | exact veqD_pl ha hb hd he
    | simp
theorem voEq_pl {d e:Nat} {a b:NV} (ha:pl d a=true) (hb:pl e b=true) (hd:d≤64:=by omega) (he:e≤64:=by omega):voEq a b=some (.im (.bl (decide (a=b)))):=by
  unfold voEq;rw [veq_pl ha hb hd he];rfl
theorem voNe_pl {d e:Nat} {a b:NV} (ha:pl d a=true) (hb:pl e b=true) (hd:d≤64:=by omega) (he:e≤64:=by omega):voNe a b=some (.im (.bl (!decide (a=b)))):=by
  unfold voNe;rw [veq_pl ha hb hd he];rfl
theorem pls_iff {d:Nat}:∀ {xs:List NV},pls d xs=true↔∀x∈xs,pl d x=true
  | []=>by simp [pls]
  | x::xs=>by simp [pls,pls_iff]
theorem source_ok (ns:List Int) (k:Int) (k0:0≤k) (k1:k < 64) (hl:ns.length≤63):∃v,g__law_source [.fro (ns.map .int),.int k]=.ok (.fr v,[])∧Src 0 v:=by?
  have e1:∃x:Int,p__law_source_1 [.sh (.fro (ns.map .int)),.sh (.int k),.un,.un]=.ok (.nx,[.sh (.fro (ns.map .int)),.sh (.int k),.sh (.int x),.un]):=by
    by_cases hk:k < (ns.length:Int)
    · have hn:k.toNat < ns.length:=by omega
      refine ⟨ns[k.toNat],?_⟩
      simp [p__law_source_1,vSeq,vAsg,vVar,vC,vBin,vUn,vNil,vCons,vTup,vLst,vIf,vVal,vNotT,vAndT,vOrT,vAnd,vOr,vNot,vChain,vCallB,vCallBK,vMethB,vMethM,vDrop,vRet,vRetN,vIfS,vPass,vKeep,vSet,vKeeps,vSets,vPar,vAug,vSub,vPut,vPuts,frz,frzs,gets,EV.get,Sl.val,Sl.mut,isBl,isInt,ofO_some,grd,LINE,if_true,R.ok_bind,vYes,vKw,selG,List.getElem?_cons_zero,List.getElem?_cons_succ,List.set_cons_zero,List.set_cons_succ,Option.bind_some,Option.map_some,vCall,noAlias,lent,lend,frzK,wback,lendOk,noref,norefs,norefO,voLt,vfLenA,vfLen,hk,voIx,vix,ixP,k0,hn]
    · refine ⟨0,?_⟩
      simp [p__law_source_1,vSeq,vAsg,vVar,vC,vBin,vUn,vNil,vCons,vTup,vLst,vIf,vVal,vNotT,vAndT,vOrT,vAnd,vOr,vNot,vChain,vCallB,vCallBK,vMethB,vMethM,vDrop,vRet,vRetN,vIfS,vPass,vKeep,vSet,vKeeps,vSets,vPar,vAug,vSub,vPut,vPuts,frz,frzs,gets,EV.get,Sl.val,Sl.mut,isBl,isInt,ofO_some,grd,LINE,if_true,R.ok_bind,vYes,vKw,selG,List.getElem?_cons_zero,List.getElem?_cons_succ,List.set_cons_zero,List.set_cons_succ,Option.bind_some,Option.map_some,vCall,noAlias,lent,lend,frzK,wback,lendOk,noref,norefs,norefO,voLt,vfLenA,vfLen,hk]
  obtain ⟨x,e1⟩:=e1
  have p18:∃h:(0:Int)≤18∧(Builtin.Int.intBits 10:Int) * 18≤2 ^ 27,True:=⟨by decide +kernel,trivial⟩
  have e2:∃y:Int,0≤y∧p__law_source_2 [.sh (.fro (ns.map .int)),.sh (.int k),.sh (.int x),.un]=.ok (.nx,[.sh (.fro (ns.map .int)),.sh (.int k),.sh (.int x),.sh (.int y)]):=by
    have q1:voPow (.int 10) (.int 18)=some (.im (.int (10 ^ 18))):=by unfold voPow;exact if_pos (by decide +kernel)
    have q2:voPow (.int 10) (.int 60)=some (.im (.int (10 ^ 60))):=by unfold voPow;exact if_pos (by decide +kernel)
    have q3:voPow (.int (10 ^ 60)) (.int 4)=some (.im (.int ((10 ^ 60) ^ 4))):=by unfold voPow;exact if_pos (by decide +kernel)
    have q4:(0:Int) < (10 ^ 60) ^ 4:=by decide +kernel
    generalize (10:Int) ^ 18=b18 at q1
    generalize hb:(10:Int) ^ 60=b60 at q2 q3 q4
    generalize hc:b60 ^ 4=b240 at q3 q4
    by_cases ha:b18≤(if x < 0 then -x else x)
    · refine ⟨(if x < 0 then -x else x) % b240,Int.emod_nonneg _ (by omega),?_⟩
      simp [p__law_source_2,vSeq,vAsg,vVar,vC,vBin,vUn,vNil,vCons,vTup,vLst,vIf,vVal,vNotT,vAndT,vOrT,vAnd,vOr,vNot,vChain,vCallB,vCallBK,vMethB,vMethM,vDrop,vRet,vRetN,vIfS,vPass,vKeep,vSet,vKeeps,vSets,vPar,vAug,vSub,vPut,vPuts,frz,frzs,gets,EV.get,Sl.val,Sl.mut,isBl,isInt,ofO_some,grd,LINE,if_true,R.ok_bind,vYes,vKw,selG,List.getElem?_cons_zero,List.getElem?_cons_succ,List.set_cons_zero,List.set_cons_succ,Option.bind_some,Option.map_some,vCall,noAlias,lent,lend,frzK,wback,lendOk,noref,norefs,norefO,vfAbs,voGe,q1,q2,q3,ha,voMod,q4]
    · refine ⟨0,Int.le_refl _,?_⟩
      simp [p__law_source_2,vSeq,vAsg,vVar,vC,vBin,vUn,vNil,vCons,vTup,vLst,vIf,vVal,vNotT,vAndT,vOrT,vAnd,vOr,vNot,vChain,vCallB,vCallBK,vMethB,vMethM,vDrop,vRet,vRetN,vIfS,vPass,vKeep,vSet,vKeeps,vSets,vPar,vAug,vSub,vPut,vPuts,frz,frzs,gets,EV.get,Sl.val,Sl.mut,isBl,isInt,ofO_some,grd,LINE,if_true,R.ok_bind,vYes,vKw,selG,List.getElem?_cons_zero,List.getElem?_cons_succ,List.set_cons_zero,List.set_cons_succ,Option.bind_some,Option.map_some,vCall,noAlias,lent,lend,frzK,wback,lendOk,noref,norefs,norefO,vfAbs,voGe,q1,ha]
  obtain ⟨y,y0,e2⟩:=e2
  have xb:0≤x % 2305843009213693951∧x % 2305843009213693951 < 2305843009213693951:=⟨Int.emod_nonneg _ (by decide),Int.emod_lt_of_pos _ (by decide)⟩
  generalize hm:x % 2305843009213693951=z at xb
  have m1:mulOk z 1000003=true:=mulOk_of (a:=61) (b:=20) (show z.natAbs < 2 ^ 61 by omega) (show Int.natAbs _ < 2 ^ 20 by decide) (by decide)
  have m2:mulOk 7919 k=true:=mulOk_of (a:=13) (b:=6) (show Int.natAbs _ < 2 ^ 13 by decide) (show k.natAbs < 2 ^ 6 by omega) (by decide)
  have m3:mulOk (7919 * k) k=true:=mulOk_of (a:=19) (b:=6) (show (7919 * k).natAbs < 2 ^ 19 by omega) (show k.natAbs < 2 ^ 6 by omega) (by decide)
  refine ⟨.lst [.int y,.int ((z * 1000003+7919 * k * k+97) % 2305843009213693921),.int 0],?_,⟨_,_,_,rfl,y0,Int.emod_nonneg _ (by decide),?_,Int.le_refl _,by simp⟩⟩
  · refine vFn_rt (e:=.fr (.lst [.int y,.int ((z * 1000003+7919 * k * k+97) % 2305843009213693921),.int 0])) (env:=[.sh (.fro (ns.map .int)),.sh (.int k),.sh (.int x),.sh (.int y)]) ?_ rfl rfl rfl
    show v__law_source [.sh (.fro (ns.map .int)),.sh (.int k),.un,.un]=_
    unfold v__law_source
    rw [vSeq_nx e1,vSeq_nx e2]
    simp [p__law_source_3,vSeq,vAsg,vVar,vC,vBin,vUn,vNil,vCons,vTup,vLst,vIf,vVal,vNotT,vAndT,vOrT,vAnd,vOr,vNot,vChain,vCallB,vCallBK,vMethB,vMethM,vDrop,vRet,vRetN,vIfS,vPass,vKeep,vSet,vKeeps,vSets,vPar,vAug,vSub,vPut,vPuts,frz,frzs,gets,EV.get,Sl.val,Sl.mut,isBl,isInt,ofO_some,grd,LINE,if_true,R.ok_bind,vYes,vKw,selG,List.getElem?_cons_zero,List.getElem?_cons_succ,List.set_cons_zero,List.set_cons_succ,Option.bind_some,Option.map_some,vCall,noAlias,lent,lend,frzK,wback,lendOk,noref,norefs,norefO,voMod,hm,voMul,m1,m2,m3,voAdd]
  · exact Int.lt_trans (Int.emod_lt_of_pos _ (by decide)) (by decide)
theorem pick_ok {k:Nat} {v c:NV} {xs:List NV} (h:Src k v) (hk:k < MOST) (hc:c=.lst xs∨c=.tup xs) (hx:xs≠[]) (hl:xs.length < 2 ^ 40):∃x v',x∈xs∧g__law_pick [v,c]=.ok (.im x,[v'])∧Src (k+1) v':=by?
  have hp:=List.length_pos_iff.mpr hx
  obtain ⟨i,v',e,i0,i1,s'⟩:=draw_ok (n:=xs.length) h hk (by omega) (by omega)
  have hi:i.toNat < xs.length:=by omega
  refine ⟨xs[i.toNat],v',List.getElem_mem _,?_,s'⟩
  have i2:i < (xs.length:Int):=i1
  rcases hc with rfl | rfl
  · refine vFn_rt (e:=.im xs[i.toNat]) (env:=[.bo v',.sh (.lst xs)]) ?_ rfl rfl rfl
    simp [v__law_pick,p__law_pick_1,vst,vSeq,vAsg,vVar,vC,vBin,vUn,vNil,vCons,vTup,vLst,vIf,vVal,vNotT,vAndT,vOrT,vAnd,vOr,vNot,vChain,vCallB,vCallBK,vMethB,vMethM,vDrop,vRet,vRetN,vIfS,vPass,vKeep,vSet,vKeeps,vSets,vPar,vAug,vSub,vPut,vPuts,frz,frzs,gets,EV.get,Sl.val,Sl.mut,isBl,isInt,ofO_some,grd,LINE,if_true,R.ok_bind,vYes,vKw,selG,List.getElem?_cons_zero,List.getElem?_cons_succ,List.set_cons_zero,List.set_cons_succ,Option.bind_some,Option.map_some,vCall,noAlias,lent,lend,frzK,wback,lendOk,noref,norefs,norefO,vfLenA,vfLen,e,voIx,vix,ixP,i0,i2,hi,List.range,List.range.loop]
  · refine vFn_rt (e:=.im xs[i.toNat]) (env:=[.bo v',.sh (.tup xs)]) ?_ rfl rfl rfl
    simp [v__law_pick,p__law_pick_1,vst,vSeq,vAsg,vVar,vC,vBin,vUn,vNil,vCons,vTup,vLst,vIf,vVal,vNotT,vAndT,vOrT,vAnd,vOr,vNot,vChain,vCallB,vCallBK,vMethB,vMethM,vDrop,vRet,vRetN,vIfS,vPass,vKeep,vSet,vKeeps,vSets,vPar,vAug,vSub,vPut,vPuts,frz,frzs,gets,EV.get,Sl.val,Sl.mut,isBl,isInt,ofO_some,grd,LINE,if_true,R.ok_bind,vYes,vKw,selG,List.getElem?_cons_zero,List.getElem?_cons_succ,List.set_cons_zero,List.set_cons_succ,Option.bind_some,Option.map_some,vCall,noAlias,lent,lend,frzK,wback,lendOk,noref,norefs,norefO,vfLenA,vfLen,e,voIx,vix,ixP,i0,i2,hi,List.range,List.range.loop]
/-- texts as values -/
noncomputable
abbrev sv (xs:List Str):List NV:=xs.map .str
noncomputable
abbrev sgs:Str := "abcdefghijklmnopqrstuvwxyz0123456789"
/-- a value,as the package knows it -/
noncomputable
def okName (s:Str):Bool:=decide (1≤s.length) && decide (s.length≤8) && s.cps.toList.all fun c=>decide (c∈sgs.cps.toList)
noncomputable
def sgl:List Nat:=[97,98,99,100,101,102,103,104,105,106,107,108,109,110,111,112,113,114,115,116,117,118,119,120,121,122,48,49,50,51,52,53,54,55,56,57]
theorem sgl_eq:sgs.cps.toList=sgl:=by decide +kernel
theorem len_cps (a:Str):a.length=a.cps.toList.length:=by
  show a.cps.size=_
  simp
theorem nodup_map {α β:Type} {f:α→β}:∀ {l:List α},l.Nodup→(∀a∈l,∀b∈l,f a=f b→a=b)→(l.map f).Nodup
  | [],_,_=>List.nodup_nil
  | x::l,h,hi=>by
    rw [List.nodup_cons] at h
    rw [List.map_cons,List.nodup_cons]
    refine ⟨fun hm=>?_,nodup_map h.2 fun a ha b hb=>hi a (List.mem_cons_of_mem _ ha) b (List.mem_cons_of_mem _ hb)⟩
    obtain ⟨y,hy,e⟩:=List.mem_map.mp hm
    exact h.1 (by rw [hi x (List.mem_cons_self ..) y (List.mem_cons_of_mem _ hy) e.symm];exact hy)
theorem strOk_of {s:Str} (h:okName s=true):PyData.strOk s=true:=by
  unfold okName at h
  rw [sgl_eq] at h
  simp only [Bool.and_eq_true,List.all_eq_true,decide_eq_true_eq] at h
  have big:∀d∈sgl,d < 0x110000:=by decide
  unfold PyData.strOk
  rw [← Array.all_toList,List.all_eq_true]
  exact fun c hc=>decide_eq_true (big c (h.2 c hc))
theorem Src.noref {k:Nat} {v:NV} (h:Src k v):norefO v=true:=by
  obtain ⟨d,s,t,rfl,_⟩:=h
  rfl
theorem vVar_sh {env:Env} {i:Nat} {v:NV} (h:env[i]? = some (.sh v)):vVar i env=.ok (.im v,env):=by unfold vVar;rw [h]
/-- a stack of the laws -/
structure Stk (m:Nat) (xs:List Str):Prop where
  nd:xs.Nodup
  ok:∀s∈xs,okName s=true
  len:xs.length≤m
theorem pls_sv {d:Nat} {xs:List Str} (h:∀s∈xs,okName s=true):pls d (sv xs)=true:=pls_iff.mpr fun x hx=>by
  obtain ⟨s,hs,rfl⟩:=List.mem_map.mp hx
  cases d <;> exact strOk_of (h s hs)
theorem vSl_ok {a:VE} {lo hi:VOp} {env env1 env2 env3:Env} {x z:EV} {u:NV} {l h:Option Int} (ha:a env=.ok (x,env1)) (hl:lo env1=.ok (l,env2)) (hh:hi env2=.ok (h,env3)) (hx:x.get env3=some u) (hv:vsl u l h=some z):vSl a lo hi env=.ok (z,env3):=by
  unfold vSl;rw [ha];simp only [R.ok_bind];rw [hl];simp only [R.ok_bind];rw [hh];simp only [R.ok_bind,hx,Option.bind_some,hv,ofO_some]
theorem vEnd_ok {a:VE} {env env1:Env} {x:EV} {i:Int} (ha:a env=.ok (x,env1)) (hx:x.get env1=some (.int i)):vEnd a env=.ok (some i,env1):=by
  unfold vEnd;rw [ha];simp only [R.ok_bind,hx,Option.bind_some,isInt,ofO_some]
theorem cut_to {α:Type} (xs:List α) (m:Nat):cutP xs none (some (m:Int))=xs.take m:=by
  unfold cutP sIxP
  have:¬ ((m:Int) < 0):=by omega
  simp only [this,if_false,Int.toNat_natCast,List.drop_zero,Nat.sub_zero]
  by_cases h:m≤xs.length
  · rw [Nat.min_eq_left h]
  · rw [Nat.min_eq_right (by omega),List.take_of_length_le (Nat.le_refl _),List.take_of_length_le (by omega)]
theorem cut_from {α:Type} (xs:List α) (m:Nat):cutP xs (some (m:Int)) none=xs.drop m:=by
  unfold cutP sIxP
  have:¬ ((m:Int) < 0):=by omega
  simp only [this,if_false,Int.toNat_natCast]
  by_cases h:m≤xs.length
  · rw [Nat.min_eq_left h,List.take_of_length_le (by simp)]
  · rw [Nat.min_eq_right (by omega),List.drop_of_length_le (Nat.le_refl _),List.drop_of_length_le (by omega)];simp
theorem sv_take (xs:List Str) (m:Nat):(sv xs).take m=sv (xs.take m):=by simp [sv,List.map_take]
theorem sv_drop (xs:List Str) (m:Nat):(sv xs).drop m=sv (xs.drop m):=by simp [sv,List.map_drop]
theorem sv_len (xs:List Str):(sv xs).length=xs.length:=by simp [sv]
theorem sv_inj {xs ys:List Str} (h:sv xs=sv ys):xs=ys:=by
  induction xs generalizing ys with
  | nil=>cases ys <;> simp_all [sv]
  | cons x xs ih=>
    cases ys with
    | nil=>simp [sv] at h
    | cons y ys=>
      simp only [sv,List.map_cons,List.cons.injEq,NV.str.injEq] at h
      rw [h.1,ih h.2]
theorem norefs_sv (xs:List Str):norefs (sv xs)=true:=by
  induction xs with
  | nil=>rfl
  | cons x xs ih=>simpa [norefs,noref] using ih
theorem eq_int (a b:Int):voEq (.int a) (.int b)=some (.im (.bl (decide (a=b)))):=rfl
theorem pl_sv {xs:List Str} (h:∀s∈xs,okName s=true):pl 1 (.lst (sv xs))=true∧pl 1 (.tup (sv xs))=true:=⟨by simpa [pl] using pls_sv h,by simpa [pl] using pls_sv h⟩
theorem vNotT_ok {a:VT} {env env1:Env} {b:Bool} (h:a env=.ok (b,env1)):vNotT a env=.ok (!b,env1):=by unfold vNotT;rw [h];rfl
theorem vAnd_ok {a b:VE} {env env1:Env} {x:EV} {c:Bool} (h:a env=.ok (x,env1)) (hx:x.get env1=some (.bl c)):vAnd a b env=if c then b env1 else .ok (.im (.bl false),env1):=by unfold vAnd;rw [h];simp only [R.ok_bind,hx,Option.bind_some,isBl,ofO_some]
theorem vOr_ok {a b:VE} {env env1:Env} {x:EV} {c:Bool} (h:a env=.ok (x,env1)) (hx:x.get env1=some (.bl c)):vOr a b env=if c then .ok (.im (.bl true),env1) else b env1:=by unfold vOr;rw [h];simp only [R.ok_bind,hx,Option.bind_some,isBl,ofO_some]
theorem vAnd_t {a b:VE} {env env1:Env} {x:EV} {r:R EE (EV×Env)} (h:a env=.ok (x,env1)) (hx:x.get env1=some (.bl true)) (hb:b env1=r):vAnd a b env=r:=(vAnd_ok h hx).trans hb
theorem asBls_map {α:Type} (f:α→Bool):∀xs:List α,vasBls (xs.map fun x=>.bl (f x))=some (xs.map f)
  | []=>rfl
  | x::xs=>by simp only [List.map_cons,vasBls,asBls_map f xs,Option.map_some]
theorem all_ok {α:Type} (f:α→Bool) (xs:List α):vfAll [.lst (xs.map fun x=>.bl (f x))]=some (.im (.bl (xs.all f))):=by
  simp only [vfAll,vlst,Option.bind_some,asBls_map,Option.map_some,List.all_map];rfl
/-- all([e for x in some]) -/
theorem allComp {it:VI} {g:Tg} {e:VE} {vs:List Nat} {env:Env} {xs:List NV} (f:NV→Bool) (hi:it env=.ok (xs,env)) (hl:xs.length≤LINE)
    (h:∀x∈xs,∃r,vPut g x (vWipe env vs)=some r∧e r=.ok (.im (.bl (f x)),r)∧vWipe r vs=vWipe env vs):vCallB vfAll (vCons (vLc it g vYes e vs) vNil) env=.ok (.im (.bl (xs.all f)),env):=by?
  have q:=vLc_pure (it:=it) (g:=g) (t:=vYes) (e:=e) (vs:=vs) (env:=env) (env1:=env) (xs:=xs) (fun _=>true) (fun x=>.bl (f x)) hi hl fun x hx=>by
    obtain ⟨r,h1,h2,h3⟩:=h x hx
    exact ⟨r,h1,rfl,fun _=>⟨_,h2,rfl⟩,h3⟩
  rw [List.filter_eq_self.mpr fun _ _=>rfl] at q
  exact vCallB_ok (vCons_ok q vNil_ok) rfl (all_ok f xs)
theorem in_chr (c:Nat) (t:Str):voIn (.str ⟨#[c]⟩) (.str t)=some (.im (.bl (decide (c∈t.cps.toList)))):=rfl
theorem seqChars {env:Env} {i:Nat} {s:Str} (h:env[i]? = some (.sh (.str s))):viSeq (vVar i) env=.ok (vchars s,env):=by simp [viSeq,vVar_sh h,frz,vitems]
theorem seqTup {env:Env} {i:Nat} {xs:List NV} (h:env[i]? = some (.sh (.tup xs))):viSeq (vVar i) env=.ok (xs,env):=by simp [viSeq,vVar_sh h,frz,vitems]
theorem is_value_ok {s:Str} (hs:s.length≤LINE):g_is_value [.str s]=.ok (.im (.bl (okName s)),[]):=by?
  refine vFn_rt (e:=.im (.bl (okName s))) (env:=[.sh (.str s),.un]) ?_ rfl rfl rfl
  have ln:vfLenA [.str s]=some (.im (.int s.length)):=if_pos hs
  have c1:vCallB vfIsi (vCons (vVar 0) (vCons (vC (.ty "str")) (vNil))) [.sh (.str s),.un]=.ok (.im (.bl true),[.sh (.str s),.un]):=rfl
  have lc:vCallB vfLenA (vCons (vVar 0) vNil) [.sh (.str s),.un]=.ok (.im (.int s.length),[.sh (.str s),.un]):=vCallB_ok (vCons_ok rfl vNil_ok) rfl ln
  have c2:vChain voLe voLe (vC (.int 1)) (vCallB vfLenA (vCons (vVar 0) (vNil))) (vC (.int 8)) [.sh (.str s),.un]=.ok (.im (.bl (decide (1≤s.length) && decide (s.length≤8))),[.sh (.str s),.un]):=by
    unfold vChain
    rw [show vC (.int 1) [.sh (.str s),.un]=.ok (.im (.int 1),[.sh (.str s),.un]) from rfl]
    simp only [R.ok_bind,lc,EV.get,Option.bind_some,voLe,ofO_some,isBl]
    by_cases h:(1:Int)≤s.length
    · have h2:1≤s.length:=by omega
      simp only [h,decide_true,if_true,vC,R.ok_bind,EV.get,Option.bind_some,voLe,ofO_some,h2,Bool.true_and]
      have:decide ((s.length:Int)≤8)=decide (s.length≤8):=decide_eq_decide.mpr (by omega)
      rw [this]
    · have h2:¬ 1≤s.length:=by omega
      simp [h,h2]
  have c3:vCallB vfAll (vCons (vLc (viSeq (vVar 0)) (.nm 1) vYes (vBin voIn (vVar 1) (vC (.str sgs))) [1]) vNil) [.sh (.str s),.un]=.ok (.im (.bl ((vchars s).all fun x=>match x with | .str t=>decide (t.cps.toList.getD 0 0∈sgs.cps.toList) | _=>false)),[.sh (.str s),.un]):=
    allComp _ (seqChars rfl) (by simp only [vchars,List.length_map];rw [← len_cps];exact hs) fun x hx=>by
      obtain ⟨c,_,rfl⟩:=List.mem_map.mp hx
      exact ⟨[.sh (.str s),.sh (.str ⟨#[c]⟩)],rfl,vBin_ok rfl rfl rfl rfl (in_chr c sgs),rfl⟩
  have e3:((vchars s).all fun x=>match x with | .str t=>decide (t.cps.toList.getD 0 0∈sgs.cps.toList) | _=>false)=s.cps.toList.all fun c=>decide (c∈sgs.cps.toList):=by
    unfold vchars
    rw [List.all_map];rfl
  rw [e3] at c3
  refine vRet_ok (vAnd_t c1 rfl ((vAnd_ok c2 rfl).trans ?_))
  unfold okName
  cases hb:decide (1≤s.length) && decide (s.length≤8) with
  | true=>rw [if_pos rfl];exact c3
  | false=>rfl
/-- a row of the laws -/
structure Row (xs:List Str):Prop where
  ok:∀s∈xs,okName s=true
  len:xs.length≤60
theorem okName_len {s:Str} (h:okName s=true):s.length≤LINE:=by
  unfold okName at h
  simp only [Bool.and_eq_true,decide_eq_true_eq] at h
  have:=h.1.2
  simp only [LINE];omega
theorem is_row_ok {xs:List Str} (h:Row xs):g_is_row [.tup (sv xs)]=.ok (.im (.bl true),[]):=by?
  refine vFn_rt (e:=.im (.bl true)) (env:=[.sh (.tup (sv xs)),.un]) ?_ rfl rfl rfl
  have c1:vCallB vfIsi (vCons (vVar 0) (vCons (vC (.ty "tuple")) (vNil))) [.sh (.tup (sv xs)),.un]=.ok (.im (.bl true),[.sh (.tup (sv xs)),.un]):=rfl
  have c2:vBin voLe (vCallB vfLenA (vCons (vVar 0) (vNil))) (vC (.int 60)) [.sh (.tup (sv xs)),.un]=.ok (.im (.bl true),[.sh (.tup (sv xs)),.un]):=by
    refine vBin_ok (vCallB_ok (vCons_ok rfl vNil_ok) rfl rfl) rfl rfl rfl ?_
    have:((sv xs).length:Int)≤60:=by rw [sv_len];have:=h.len;omega
    simp only [voLe,this,decide_true]
  have c3:vCallB vfAll (vCons (vLc (viSeq (vVar 0)) (.nm 1) vYes (vCall g_is_value 1 [] (vCons (vVar 1) vNil)) [1]) vNil) [.sh (.tup (sv xs)),.un]=.ok (.im (.bl ((sv xs).all fun _=>true)),[.sh (.tup (sv xs)),.un]):=
    allComp _ (seqTup rfl) (by rw [sv_len];have:=h.len;simp only [LINE];omega) fun x hx=>by
      obtain ⟨s,hs,rfl⟩:=List.mem_map.mp hx
      have q:=is_value_ok (okName_len (h.ok s hs))
      rw [h.ok s hs] at q
      exact ⟨[.sh (.tup (sv xs)),.sh (.str s)],rfl,vCall0_ok (es:=[.im (.str s)]) (vCons_ok rfl vNil_ok) rfl q rfl,rfl⟩
  exact vRet_ok (vAnd_t c1 rfl (vAnd_t c2 rfl (c3.trans (by simp))))
theorem dedup_self {l acc:List NV} (h:(acc++l).Nodup):dedupK acc l=acc++l:=by
  induction l generalizing acc with
  | nil=>simp [dedupK]
  | cons x l ih=>
    have hx:x∉acc:=fun hm=>by
      rw [List.nodup_append] at h
      exact h.2.2 x hm x (List.mem_cons_self ..) rfl
    simp only [dedupK,if_neg hx]
    rw [ih (by simpa using h)];simp
theorem sv_nodup {xs:List Str} (h:xs.Nodup):(sv xs).Nodup:=nodup_map h fun a _ b _ e=>by simpa using e
theorem is_stack_ok {xs:List Str} (h:Stk 40 xs):g_is_stack [.tup (sv xs)]=.ok (.im (.bl true),[]):=by?
  refine vFn_rt (e:=.im (.bl true)) (env:=[.sh (.tup (sv xs))]) ?_ rfl rfl rfl
  have hl:=h.len
  have c1:vCall g_is_row 1 [] (vCons (vVar 0) vNil) [.sh (.tup (sv xs))]=.ok (.im (.bl true),[.sh (.tup (sv xs))]):=vCall0_ok (es:=[.im (.tup (sv xs))]) (vCons_ok rfl vNil_ok) rfl (is_row_ok ⟨h.ok,by omega⟩) rfl
  have c2:vBin voLe (vCallB vfLenA (vCons (vVar 0) (vNil))) (vC (.int 40)) [.sh (.tup (sv xs))]=.ok (.im (.bl true),[.sh (.tup (sv xs))]):=by
    refine vBin_ok (vCallB_ok (vCons_ok rfl vNil_ok) rfl rfl) rfl rfl rfl ?_
    have:((sv xs).length:Int)≤40:=by rw [sv_len];omega
    simp only [voLe,this,decide_true]
  have c3:vBin voEq (vCallB vfLenA (vCons (vCallB vfSet (vCons (vVar 0) (vNil))) (vNil))) (vCallB vfLenA (vCons (vVar 0) (vNil))) [.sh (.tup (sv xs))]=.ok (.im (.bl true),[.sh (.tup (sv xs))]):=by
    have q1:vfSet [.tup (sv xs)]=some (.fr (.set (sv xs))):=by
      have a1:(sv xs).all vkeyOk=true:=by rw [List.all_map];simp [Function.comp,vkeyOk]
      have a2:(sv xs).length+1 < 4096:=by rw [sv_len];omega
      have:=dedup_self (acc:=[]) (l:=sv xs) (by simpa using sv_nodup h.nd)
      exact (if_pos ⟨a1,a2⟩).trans (by rw [this];rfl)
    have q2:vfLenA [.set (sv xs)]=some (.im (.int (sv xs).length)):=if_pos (by rw [sv_len];omega)
    refine vBin_ok (vCallB_ok (vCons_ok (vCallB_ok (vCons_ok rfl vNil_ok) rfl q1) vNil_ok) rfl q2) (vCallB_ok (vCons_ok rfl vNil_ok) rfl rfl) rfl rfl ?_
    rw [eq_int];simp
  exact vRet_ok (vAnd_t c1 rfl (vAnd_t c2 rfl c3))
theorem check_stack_ok {xs:List Str} (h:Stk 40 xs):g_check_stack [.tup (sv xs)]=.ok (.im .non,[]):=by?
  refine vFn_nx (env:=[.sh (.tup (sv xs))]) ?_ rfl rfl
  have c1:vCall g_is_stack 1 [] (vCons (vVar 0) vNil) [.sh (.tup (sv xs))]=.ok (.im (.bl true),[.sh (.tup (sv xs))]):=vCall0_ok (es:=[.im (.tup (sv xs))]) (vCons_ok rfl vNil_ok) rfl (is_stack_ok h) rfl
  show vIfS _ _ _ [.sh (.tup (sv xs))]=_
  rw [vIfS_ok (vNotT_ok (vVal_ok c1 rfl))];rfl
theorem anyF_sv (g:Str) (xs:List Str):(sv xs).any (fun z=>veqF z (.str g))=decide (g∈xs):=by
  induction xs with
  | nil=>rfl
  | cons x xs ih=>
    simp only [sv,List.map_cons,List.any_cons] at *
    rw [ih]
    simp only [veqF,List.mem_cons,Bool.decide_or]
    congr 1
    by_cases e:x=g
    · subst e;simp
    · have:¬ g=x:=fun z=>e z.symm
      simp [e,this]
theorem flat_sv (xs:List Str):(sv xs).all vflat=true:=by rw [List.all_map];simp [Function.comp,vflat]
theorem in_sv (g:Str) (xs:List Str):voIn (.str g) (.tup (sv xs))=some (.im (.bl (decide (g∈xs)))):=by
  unfold voIn vin
  simp only [flat_sv,vflat,Bool.and_self,if_true,anyF_sv,Option.map_some]
theorem notIn_sv (g:Str) (xs:List Str):voNotIn (.str g) (.tup (sv xs))=some (.im (.bl (!decide (g∈xs)))):=by
  unfold voNotIn vin
  simp only [flat_sv,vflat,Bool.and_self,if_true,anyF_sv,Option.map_some]
theorem is_goal_of_ok {xs gs cs:List Str} (hg:Row gs) (hm:∀g∈gs,g∈xs∨g∈cs):g_is_goal_of [.tup (sv xs),.tup (sv gs),.tup (sv cs)]=.ok (.im (.bl true),[]):=by?
  refine vFn_rt (e:=.im (.bl true)) (env:=[.sh (.tup (sv xs)),.sh (.tup (sv gs)),.sh (.tup (sv cs)),.un]) ?_ rfl rfl rfl
  have c1:vCall g_is_row 1 [] (vCons (vVar 1) vNil) [.sh (.tup (sv xs)),.sh (.tup (sv gs)),.sh (.tup (sv cs)),.un]=.ok (.im (.bl true),[.sh (.tup (sv xs)),.sh (.tup (sv gs)),.sh (.tup (sv cs)),.un]):=vCall0_ok (es:=[.im (.tup (sv gs))]) (vCons_ok rfl vNil_ok) rfl (is_row_ok hg) rfl
  have c3:vCallB vfAll (vCons (vLc (viSeq (vVar 1)) (.nm 3) vYes (vOr (vBin voIn (vVar 3) (vVar 0)) (vBin voIn (vVar 3) (vVar 2))) [3]) vNil) [.sh (.tup (sv xs)),.sh (.tup (sv gs)),.sh (.tup (sv cs)),.un]=.ok (.im (.bl ((sv gs).all fun _=>true)),[.sh (.tup (sv xs)),.sh (.tup (sv gs)),.sh (.tup (sv cs)),.un]):=
    allComp _ (seqTup rfl) (by rw [sv_len];have:=hg.len;simp only [LINE];omega) fun x hx=>by
      obtain ⟨g,hgm,rfl⟩:=List.mem_map.mp hx
      refine ⟨[.sh (.tup (sv xs)),.sh (.tup (sv gs)),.sh (.tup (sv cs)),.sh (.str g)],rfl,?_,rfl⟩
      have q1:vBin voIn (vVar 3) (vVar 0) [.sh (.tup (sv xs)),.sh (.tup (sv gs)),.sh (.tup (sv cs)),.sh (.str g)]=.ok (.im (.bl (decide (g∈xs))),[.sh (.tup (sv xs)),.sh (.tup (sv gs)),.sh (.tup (sv cs)),.sh (.str g)]):=vBin_ok rfl rfl rfl rfl (in_sv g xs)
      have q2:vBin voIn (vVar 3) (vVar 2) [.sh (.tup (sv xs)),.sh (.tup (sv gs)),.sh (.tup (sv cs)),.sh (.str g)]=.ok (.im (.bl (decide (g∈cs))),[.sh (.tup (sv xs)),.sh (.tup (sv gs)),.sh (.tup (sv cs)),.sh (.str g)]):=vBin_ok rfl rfl rfl rfl (in_sv g cs)
      rw [vOr_ok q1 rfl]
      by_cases e:g∈xs
      · rw [if_pos (by simpa using e)]
      · rw [if_neg (by simpa using e),q2,decide_eq_true ((hm g hgm).resolve_left e)]
  exact vRet_ok (vAnd_t c1 rfl (c3.trans (by simp)))
theorem check_goal_ok {xs gs cs:List Str} (hg:Row gs) (hm:∀g∈gs,g∈xs∨g∈cs):g_check_goal [.tup (sv xs),.tup (sv gs),.tup (sv cs)]=.ok (.im .non,[]):=by?
  refine vFn_nx (env:=[.sh (.tup (sv xs)),.sh (.tup (sv gs)),.sh (.tup (sv cs))]) ?_ rfl rfl
  have c1:vCall g_is_goal_of 3 [] (vCons (vVar 0) (vCons (vVar 1) (vCons (vVar 2) vNil))) [.sh (.tup (sv xs)),.sh (.tup (sv gs)),.sh (.tup (sv cs))]=.ok (.im (.bl true),[.sh (.tup (sv xs)),.sh (.tup (sv gs)),.sh (.tup (sv cs))]):=
    vCall0_ok (es:=[.im (.tup (sv xs)),.im (.tup (sv gs)),.im (.tup (sv cs))]) (vCons_ok rfl (vCons_ok rfl (vCons_ok rfl vNil_ok))) rfl (is_goal_of_ok hg hm) rfl
  show vIfS _ _ _ [.sh (.tup (sv xs)),.sh (.tup (sv gs)),.sh (.tup (sv cs))]=_
  rw [vIfS_ok (vNotT_ok (vVal_ok c1 rfl))];rfl
theorem check_both_ok {xs gs:List Str} (hs:Stk 40 xs) (hg:Row gs) (hm:∀g∈gs,g∈xs):g_check_both [.tup (sv xs),.tup (sv gs)]=.ok (.im .non,[]):=by?
  refine vFn_nx (env:=[.sh (.tup (sv xs)),.sh (.tup (sv gs))]) ?_ rfl rfl
  have c1:vCall g_check_stack 1 [] (vCons (vVar 0) vNil) [.sh (.tup (sv xs)),.sh (.tup (sv gs))]=.ok (.im .non,[.sh (.tup (sv xs)),.sh (.tup (sv gs))]):=vCall0_ok (es:=[.im (.tup (sv xs))]) (vCons_ok rfl vNil_ok) rfl (check_stack_ok hs) rfl
  have c2:vCall g_check_goal 3 [] (vCons (vVar 0) (vCons (vVar 1) (vCons (vTup vNil) vNil))) [.sh (.tup (sv xs)),.sh (.tup (sv gs))]=.ok (.im .non,[.sh (.tup (sv xs)),.sh (.tup (sv gs))]):=
    vCall0_ok (es:=[.im (.tup (sv xs)),.im (.tup (sv gs)),.im (.tup [])]) (vCons_ok rfl (vCons_ok rfl (vCons_ok (vTup_ok vNil_ok rfl) vNil_ok))) rfl (check_goal_ok (cs:=[]) hg fun g h=>.inl (hm g h)) rfl
  show vSeq _ _ [.sh (.tup (sv xs)),.sh (.tup (sv gs))]=_
  rw [vSeq_nx (vDrop_ok c1)]
  exact vDrop_ok c2
/-- the place of an item,-1 if there is none -/
noncomputable
def plc (ks:List NV) (x:NV):Int:=match ks.findIdx? fun k=>decide (k=x) with
  | some i=>i
  | none=>-1
/-- how many of the first ones ascend behind a place -/
noncomputable
def keptG (ks:List NV):Int→List NV→Nat
  | _,[]=>0
  | last,g::gs=>if plc ks g≤last then 0 else keptG ks (plc ks g) gs+1
theorem keptG_le (ks:List NV):∀ (last:Int) (gs:List NV),keptG ks last gs≤gs.length
  | _,[]=>Nat.le_refl _
  | last,g::gs=>by
    simp only [keptG]
    split
    · exact Nat.zero_le _
    · have:=keptG_le ks (plc ks g) gs
      simp;omega
/-- {k: v for ..} over what stays -/
theorem vDcL_pure {g:Tg} {t:VT} {ek ev:VE} {vs:List Nat} {env:Env} {fk fv:NV→NV}:∀ (xs:List NV) (acc:List (NV×NV)),
    (∀x∈xs,vkeyOk (fk x)=true∧∃r,vPut g x env=some r∧t r=.ok (true,r)∧(∃y,ek r=.ok (y,r)∧frz y r=some (fk x,r))∧(∃y,ev r=.ok (y,r)∧frz y r=some (fv x,r))∧vWipe r vs=env) →
    (∀ (i:Nat),i≤xs.length→((xs.take i).foldl (fun a x=>vdPut a (fk x) (fv x)) acc).length < LINE)→vDcL g t ek ev vs xs acc env=.ok (xs.foldl (fun a x=>vdPut a (fk x) (fv x)) acc,env)
  | [],acc,_,_=>rfl
  | x::xs,acc,h,hl=>by
    obtain ⟨hk,r,h1,h2,⟨y,h3,h4⟩,⟨z,h5,h6⟩,h7⟩:=h x (List.mem_cons_self ..)
    have l0:acc.length < LINE:=by simpa using hl 0 (Nat.zero_le _)
    simp only [vDcL,h1,ofO_some,R.ok_bind,h2,if_true,h3,h4,h5,h6]
    rw [grd_of ⟨hk,l0⟩,h7]
    exact vDcL_pure xs _ (fun q hq=>h q (List.mem_cons_of_mem _ hq)) fun i hi=>by simpa using hl (i+1) (by simp;omega)
theorem vdPut_new {acc:List (NV×NV)} {k v:NV} (h:∀p∈acc,p.1≠k):vdPut acc k v=acc++[(k,v)]:=by
  unfold vdPut
  rw [if_neg]
  simp only [List.any_eq_true,decide_eq_true_eq,not_exists,not_and]
  exact fun p hp=>h p hp
/-- the places of different items -/
noncomputable
def placesD (n:Nat):List NV→List (NV×NV)
  | []=>[]
  | k::ks=>(k,.int (n:Nat))::placesD (n+1) ks
theorem placesD_len:∀ (n:Nat) (ks:List NV),(placesD n ks).length=ks.length
  | _,[]=>rfl
  | n,k::ks=>by simp [placesD,placesD_len]
noncomputable
def fkE:NV→NV
  | .tup [_,k]=>k
  | _=>.non
noncomputable
def fvE:NV→NV
  | .tup [i,_]=>i
  | _=>.non
theorem fkE_t (i k:NV):fkE (.tup [i,k])=k:=rfl
theorem fvE_t (i k:NV):fvE (.tup [i,k])=i:=rfl
theorem fold_places:∀ (ks:List NV) (n:Nat) (acc:List (NV×NV)),(acc.map (·.1)++ks).Nodup→(venum n ks).foldl (fun a x=>vdPut a (fkE x) (fvE x)) acc=acc++placesD n ks
  | [],n,acc,_=>by simp [venum,placesD]
  | k :: ks,n,acc,h=>by
    have hk:∀p∈acc,p.1≠k:=fun p hp e=>by
      rw [List.nodup_append] at h
      exact h.2.2 p.1 (List.mem_map_of_mem hp) k (List.mem_cons_self ..) e
    simp only [venum,List.foldl_cons,fkE_t,fvE_t]
    rw [vdPut_new hk,fold_places ks (n+1) _ (by simpa using h)]
    simp [placesD]
theorem venum_take:∀ (ks:List NV) (n i:Nat),(venum n ks).take i=venum n (ks.take i)
  | [],n,i=>by simp [venum]
  | k::ks,n,0=>by simp [venum]
  | k::ks,n,i+1=>by simp [venum,venum_take ks]
theorem mem_venum:∀ {ks:List NV} {n:Nat} {x:NV},x∈venum n ks→∃ (i:Nat) (k:NV),x=.tup [.int (i:Nat),k]∧k∈ks
  | [],_,_,h=>by simp [venum] at h
  | k :: ks,n,x,h=>by
    simp only [venum,List.mem_cons] at h
    rcases h with rfl | h
    · exact ⟨n,k,rfl,List.mem_cons_self ..⟩
    · obtain ⟨i,k',e,hk⟩:=mem_venum h
      exact ⟨i,k',e,List.mem_cons_of_mem _ hk⟩
theorem get_places:∀ (ks:List NV) (n:Nat) (x:NV),vdGet (placesD n ks) x=(ks.findIdx? fun k=>decide (k=x)).map fun i=>.int ((n+i:Nat):Int)
  | [],n,x=>rfl
  | k :: ks,n,x=>by
    by_cases e:k=x
    · simp [vdGet,placesD,e,List.findIdx?_cons]
    · have:=get_places ks (n+1) x
      simp only [vdGet,placesD,List.find?_cons,decide_eq_false e,List.findIdx?_cons] at this ⊢
      rw [this]
      cases ks.findIdx? fun k=>decide (k=x) with
      | none=>simp
      | some i=>simp;omega
theorem plc_get (ks:List NV) (x:NV):(vdGet (placesD 0 ks) x).getD (.int (-1))=.int (plc ks x):=by
  rw [get_places]
  unfold plc
  cases ks.findIdx? fun k=>decide (k=x) with
  | none=>rfl
  | some i=>simp
theorem kept_number_ok {ks gs:List NV} (hn:ks.Nodup) (hk:∀x∈ks,vkeyOk x=true) (hg:∀x∈gs,vkeyOk x=true) (hkl:ks.length < 1000) (hgl:gs.length < 1000000):g_kept_number [.tup ks,.tup gs]=.ok (.im (.int (keptG ks (-1) gs)),[]):=by?
  let E:Sl→Sl→Sl→Sl→Sl→Env:=fun a b c d e=>[.sh (.tup ks),.sh (.tup gs),a,b,c,d,e]
  have a1:p_kept_number_1 (E .un .un .un .un .un)=.ok (.nx,E (.ow (.dic (placesD 0 ks))) .un .un .un .un):=by
    have q:=vDcL_pure (g:=.tp [.nm 3,.nm 4]) (t:=vYes) (ek:=vVar 4) (ev:=vVar 3) (vs:=[3,4]) (env:=E .un .un .un .un .un) (fk:=fkE) (fv:=fvE) (venum 0 ks) [] (fun x hx=>by
      obtain ⟨i,k,rfl,hkm⟩:=mem_venum hx
      exact ⟨hk k hkm,E .un (.sh (.int (i:Nat))) (.sh k) .un .un,rfl,rfl,⟨_,rfl,rfl⟩,⟨_,rfl,rfl⟩,rfl⟩) fun i hi=>by
      rw [venum_take,fold_places _ _ _ (by simpa using hn.sublist (List.take_sublist ..))]
      simp only [List.nil_append,placesD_len,List.length_take,LINE]
      omega
    rw [fold_places _ _ _ (by simpa using hn)] at q
    have d:vDc (viEnum (vVar 0)) (.tp [.nm 3,.nm 4]) vYes (vVar 4) (vVar 3) [3,4] (E .un .un .un .un .un)=.ok (.fr (.dic (placesD 0 ks)),E .un .un .un .un .un):=by
      unfold vDc
      have it:viEnum (vVar 0) (E .un .un .un .un .un)=.ok (venum 0 ks,E .un .un .un .un .un):=rfl
      rw [it]
      simp only [R.ok_bind]
      rw [show vDcL (.tp [.nm 3,.nm 4]) vYes (vVar 4) (vVar 3) [3,4] (venum 0 ks) [] (vWipe (E .un .un .un .un .un) [3,4])=_ from q]
      rfl
    exact vAsg_ok d rfl rfl
  have loop:∀ (rest:List NV) (n:Nat) (last:Int) (b c e:Sl),(∀x,b≠.bo x)→(∀x,c≠.bo x)→(∀x,e≠.bo x)→(∀x∈rest,vkeyOk x=true) →
      ∃ b' c' e' last',vForL (.tp [.nm 6,.nm 4]) (vSeq p_kept_number_4 (vSeq p_kept_number_5 (vAsg (vVar 3) (.nm 5)))) (venum n rest) (E (.ow (.dic (placesD 0 ks))) b c (.sh (.int last)) e) =
        if keptG ks last rest < rest.length then .ok (.rt (.im (.int ((n+keptG ks last rest:Nat):Int))),E (.ow (.dic (placesD 0 ks))) b' c' (.sh (.int last')) e') else .ok (.nx,E (.ow (.dic (placesD 0 ks))) b' c' (.sh (.int last')) e'):=by
    intro rest
    induction rest with
    | nil=>intro n last b c e _ _ _ _;exact ⟨b,c,e,last,rfl⟩
    | cons g rest ih=>
      intro n last b c e hb hc he hr
      have hput:vPut (.tp [.nm 6,.nm 4]) (.tup [.int (n:Nat),g]) (E (.ow (.dic (placesD 0 ks))) b c (.sh (.int last)) e)=some (E (.ow (.dic (placesD 0 ks))) b (.sh g) (.sh (.int last)) (.sh (.int (n:Nat)))):=by
        cases e with
        | bo x=>exact absurd rfl (he x)
        | un=>cases c with
          | bo x=>exact absurd rfl (hc x)
          | un=>rfl
          | sh x=>rfl
          | ow x=>rfl
        | sh y=>cases c with
          | bo x=>exact absurd rfl (hc x)
          | un=>rfl
          | sh x=>rfl
          | ow x=>rfl
        | ow y=>cases c with
          | bo x=>exact absurd rfl (hc x)
          | un=>rfl
          | sh x=>rfl
          | ow x=>rfl
      have gk:=hr g (List.mem_cons_self ..)
      have q4:p_kept_number_4 (E (.ow (.dic (placesD 0 ks))) b (.sh g) (.sh (.int last)) (.sh (.int (n:Nat))))=.ok (.nx,E (.ow (.dic (placesD 0 ks))) (.sh (.int (plc ks g))) (.sh g) (.sh (.int last)) (.sh (.int (n:Nat)))):=by
        have m:vmGet (.dic (placesD 0 ks)) [g,.int (-1)]=some (.im (.int (plc ks g))):=by
          have z:(vkeyOk g && vflat (.int (-1)))=true:=by simp [gk,vflat]
          exact (if_pos z).trans (by rw [plc_get])
        have mm:vMethB kDic vmGet (vVar 2) (vCons (vVar 4) (vCons (vUn vuNeg (vC (.int 1))) vNil)) (E (.ow (.dic (placesD 0 ks))) b (.sh g) (.sh (.int last)) (.sh (.int (n:Nat))))=.ok (.im (.int (plc ks g)),E (.ow (.dic (placesD 0 ks))) b (.sh g) (.sh (.int last)) (.sh (.int (n:Nat)))):=by
          exact vMethB_ok (x:=.sl 2) (u0:=.dic (placesD 0 ks)) (es:=[.im g,.im (.int (-1))]) rfl rfl rfl rfl rfl rfl m
        refine vAsg_ok mm rfl ?_
        cases b with
        | bo x=>exact absurd rfl (hb x)
        | un=>rfl
        | sh x=>rfl
        | ow x=>rfl
      have q5:p_kept_number_5 (E (.ow (.dic (placesD 0 ks))) (.sh (.int (plc ks g))) (.sh g) (.sh (.int last)) (.sh (.int (n:Nat))))=if plc ks g≤last then .ok (.rt (.im (.int (n:Nat))),E (.ow (.dic (placesD 0 ks))) (.sh (.int (plc ks g))) (.sh g) (.sh (.int last)) (.sh (.int (n:Nat)))) else .ok (.nx,E (.ow (.dic (placesD 0 ks))) (.sh (.int (plc ks g))) (.sh g) (.sh (.int last)) (.sh (.int (n:Nat)))):=by
        unfold p_kept_number_5
        rw [vIfS_ok (vVal_ok (vBin_ok (f:=voLe) (z:=.im (.bl (decide (plc ks g≤last)))) rfl rfl rfl rfl rfl) rfl)]
        by_cases h:plc ks g≤last
        · rw [if_pos h,if_pos (by simpa using h)];rfl
        · rw [if_neg h,if_neg (by simpa using h)];rfl
      simp only [venum,vForL,hput,ofO_some,R.ok_bind]
      rw [vSeq_nx q4]
      by_cases h:plc ks g≤last
      · rw [if_pos h] at q5
        rw [vSeq_rt q5]
        refine ⟨.sh (.int (plc ks g)),.sh g,.sh (.int (n:Nat)),last,?_⟩
        simp only [R.ok_bind,keptG,if_pos h]
        rw [if_pos (by simp)];rfl
      · rw [if_neg h] at q5
        rw [vSeq_nx q5]
        obtain ⟨b',c',e',last',ih'⟩:=ih (n+1) (plc ks g) (.sh (.int (plc ks g))) (.sh g) (.sh (.int (n:Nat))) (by simp) (by simp) (by simp) fun x hx=>hr x (List.mem_cons_of_mem _ hx)
        refine ⟨b',c',e',last',?_⟩
        have q6:vAsg (vVar 3) (.nm 5) (E (.ow (.dic (placesD 0 ks))) (.sh (.int (plc ks g))) (.sh g) (.sh (.int last)) (.sh (.int (n:Nat))))=.ok (.nx,E (.ow (.dic (placesD 0 ks))) (.sh (.int (plc ks g))) (.sh g) (.sh (.int (plc ks g))) (.sh (.int (n:Nat)))):=rfl
        rw [q6]
        simp only [R.ok_bind,ih',keptG,if_neg h]
        have e1:(keptG ks (plc ks g) rest+1 < (g::rest).length)=(keptG ks (plc ks g) rest < rest.length):=by simp
        have e2:n+1+keptG ks (plc ks g) rest=n+(keptG ks (plc ks g) rest+1):=by omega
        simp only [e1,e2]
  obtain ⟨b',c',e',last',q⟩:=loop gs 0 (-1) .un .un .un (by simp) (by simp) (by simp) hg
  have a2:vAsg (vUn vuNeg (vC (.int 1))) (.nm 5) (E (.ow (.dic (placesD 0 ks))) .un .un .un .un)=.ok (.nx,E (.ow (.dic (placesD 0 ks))) .un .un (.sh (.int (-1))) .un):=rfl
  have a3:p_kept_number_3 (E (.ow (.dic (placesD 0 ks))) .un .un (.sh (.int (-1))) .un)=_:=q
  by_cases h:keptG ks (-1) gs < gs.length
  · rw [if_pos h] at a3
    refine vFn_rt (e:=.im (.int (keptG ks (-1) gs))) (env:=E (.ow (.dic (placesD 0 ks))) b' c' (.sh (.int last')) e') ?_ rfl rfl rfl
    show v_kept_number (E .un .un .un .un .un)=_
    unfold v_kept_number
    rw [vSeq_nx a1,vSeq_nx a2,vSeq_rt a3]
    simp
  · rw [if_neg h] at a3
    have he:keptG ks (-1) gs=gs.length:=by have:=keptG_le ks (-1) gs;omega
    refine vFn_rt (e:=.im (.int (keptG ks (-1) gs))) (env:=E (.ow (.dic (placesD 0 ks))) b' c' (.sh (.int last')) e') ?_ rfl rfl rfl
    show v_kept_number (E .un .un .un .un .un)=_
    unfold v_kept_number
    rw [vSeq_nx a1,vSeq_nx a2,vSeq_nx a3,he]
    exact vRet_ok (vCallB_ok (vCons_ok rfl vNil_ok) rfl rfl)
theorem key_sv {xs:List Str}:∀x∈sv xs,vkeyOk x=true:=fun x hx=>by obtain ⟨s,_,rfl⟩:=List.mem_map.mp hx;rfl
theorem kept_ok {xs gs:List Str} (hs:Stk 40 xs) (hg:Row gs) (hm:∀g∈gs,g∈xs):g_kept [.tup (sv xs),.tup (sv gs)]=.ok (.im (.int (keptG (sv xs) (-1) (sv gs))),[]):=by?
  refine vFn_rt (e:=.im (.int (keptG (sv xs) (-1) (sv gs)))) (env:=[.sh (.tup (sv xs)),.sh (.tup (sv gs))]) ?_ rfl rfl rfl
  have c1:vCall g_check_both 2 [] (vCons (vVar 0) (vCons (vVar 1) vNil)) [.sh (.tup (sv xs)),.sh (.tup (sv gs))]=.ok (.im .non,[.sh (.tup (sv xs)),.sh (.tup (sv gs))]):=vCall0_ok (es:=[.im (.tup (sv xs)),.im (.tup (sv gs))]) (vCons_ok rfl (vCons_ok rfl vNil_ok)) rfl (check_both_ok hs hg hm) rfl
  have c2:vCall g_kept_number 2 [] (vCons (vVar 0) (vCons (vVar 1) vNil)) [.sh (.tup (sv xs)),.sh (.tup (sv gs))]=.ok (.im (.int (keptG (sv xs) (-1) (sv gs))),[.sh (.tup (sv xs)),.sh (.tup (sv gs))]):=
    vCall0_ok (es:=[.im (.tup (sv xs)),.im (.tup (sv gs))]) (vCons_ok rfl (vCons_ok rfl vNil_ok)) rfl (kept_number_ok (sv_nodup hs.nd) key_sv key_sv (by rw [sv_len];have:=hs.len;omega) (by rw [sv_len];have:=hg.len;omega)) rfl
  show vSeq _ _ [.sh (.tup (sv xs)),.sh (.tup (sv gs))]=_
  have d1:p_kept_1 [.sh (.tup (sv xs)),.sh (.tup (sv gs))]=.ok (.nx,[.sh (.tup (sv xs)),.sh (.tup (sv gs))]):=vDrop_ok c1
  rw [vSeq_nx d1]
  exact vRet_ok c2
mutual
noncomputable
def rp:Nat→NV→Bool
  | _,.int i=>decide (-999999999999≤i∧i≤999999999999)
  | _,.str s=>PyData.strOk s
  | _,.non=>true
  | d+1,.tup xs=>rps d xs
  | d+1,.lst xs=>rps d xs
  | _,_=>false
noncomputable
def rps:Nat→List NV→Bool
  | _,[]=>true
  | d,x::xs=>rp d x && rps d xs
end
mutual
noncomputable
def wt:NV→Nat
  | .str s=>s.length
  | .tup xs=>wts xs
  | .lst xs=>wts xs
  | _=>0
noncomputable
def wts:List NV→Nat
  | []=>0
  | x::xs=>wt x+1+wts xs
end
theorem rps_iff {d:Nat}:∀ {xs:List NV},rps d xs=true↔∀x∈xs,rp d x=true
  | []=>by simp [rps]
  | x::xs=>by simp [rps,rps_iff (xs:=xs)]
theorem okName_le {s:Str} (h:okName s=true):s.length≤8:=by
  unfold okName at h
  simp only [Bool.and_eq_true,decide_eq_true_eq] at h
  exact h.1.2
theorem voNe_str (s:Str):voNe (.str s) (.str s)=some (.im (.bl false)):=by
  have:voNe (.str s) (.str s)=some (.im (.bl (!(s == s)))):=rfl
  rw [this];simp
noncomputable
def nb:Sl→Bool
  | .bo _=>false
  | _=>true
theorem vPut_nb {env:Env} {i:Nat} {s:Sl} {x:NV} (h:env[i]? = some s) (hb:nb s=true):vPut (.nm i) x env=some (env.set i (.sh x)):=by
  unfold vPut
  rw [h]
  cases s with
  | bo _=>cases hb
  | un=>rfl
  | sh _=>rfl
  | ow _=>rfl
theorem vSet_nb {env:Env} {i:Nat} {s t:Sl} (h:env[i]? = some s) (hb:nb s=true):vSet i t env=some (env.set i t):=by
  unfold vSet
  rw [h]
  cases s with
  | bo _=>cases hb
  | un=>rfl
  | sh _=>rfl
  | ow _=>rfl
theorem vCallBK_ok {f:List NV→List NV→Option EV} {a b:VA} {env env1 env2:Env} {es fs:List EV} {us ws:List NV} {z:EV} (ha:a env=.ok (es,env1)) (hb:b env1=.ok (fs,env2)) (hg:gets env2 es=some us) (hk:gets env2 fs=some ws) (hf:f us ws=some z):vCallBK f a b env=.ok (z,env2):=by
  unfold vCallBK;rw [ha];simp only [R.ok_bind,hb,hg,hk,Option.bind_some,hf,ofO_some]
theorem ix_sv {xs:List Str} {i:Nat} {x:Str} (h:xs[i]? = some x):voIx (.tup (sv xs)) (.int (i:Nat))=some (.im (.str x)):=by?
  have hl:i < xs.length:=(List.getElem?_eq_some_iff.mp h).1
  show (vix (sv xs) (i:Nat)).map EV.im=_
  have e:ixP (sv xs).length (i:Nat)=some i:=by
    unfold ixP
    rw [if_pos (by omega),if_pos (by rw [sv_len];omega)]
    simp
  unfold vix
  rw [e,Option.bind_some]
  show ((xs.map NV.str)[i]?).map EV.im=_
  rw [List.getElem?_map,h];rfl
theorem small_both {j:Int} (h:j≤1000000∧-1000000≤j):small62 j=true:=
  small62_iff.mpr ⟨Int.le_trans (show (-(2 ^ 62):Int)≤-1000000 by decide) h.2,Int.lt_of_le_of_lt h.1 (by decide)⟩
/-- what is asked behind a statement -/
structure KT where
  nx:Env→Prop
  rt:EV→Env→Prop
  bk:Env→Prop
  ct:Env→Prop
noncomputable
def KT.go (K:KT):VFl→Env→Prop
  | .nx,e=>K.nx e
  | .rt v,e=>K.rt v e
  | .bk,e=>K.bk e
  | .ct,e=>K.ct e
noncomputable
def WS (s:VS) (env:Env) (K:KT):Prop:=∃f e,s env=.ok (f,e)∧K.go f e
noncomputable
def KT.sq (b:VS) (K:KT):KT:=⟨fun e=>WS b e K,K.rt,K.bk,K.ct⟩
noncomputable
def KT.lp (I:Env→Prop) (K:KT):KT:=⟨I,K.rt,K.nx,I⟩
/-- both ways of a test -/
noncomputable
def WIf (c:Bool) (A B:Prop):Prop:=(c=true→A)∧(c=false→B)
section
variable {env env1 env2 env3 env4:Env} {K:KT}
theorem WIf_t {c:Bool} {A B:Prop} (h:c=true) (a:A):WIf c A B:=⟨fun _=>a,fun g=>absurd (h.symm.trans g) (by decide)⟩
theorem WIf_f {c:Bool} {A B:Prop} (h:c=false) (b:B):WIf c A B:=⟨fun g=>absurd (h.symm.trans g) (by decide),fun _=>b⟩
theorem WIf_true {A B:Prop} (a:A):WIf true A B:=WIf_t rfl a
theorem WIf_false {A B:Prop} (b:B):WIf false A B:=WIf_f rfl b
theorem WIf_yes {P:Prop} [Decidable P] {A B:Prop} (h:P) (a:A):WIf (decide P) A B:=WIf_t (decide_eq_true h) a
theorem WIf_no {P:Prop} [Decidable P] {A B:Prop} (h:¬ P) (b:B):WIf (decide P) A B:=WIf_f (decide_eq_false h) b
theorem WIf_nyes {P:Prop} [Decidable P] {A B:Prop} (h:¬ P) (a:A):WIf (!decide P) A B:=WIf_t (by simp [h]) a
theorem WIf_nno {P:Prop} [Decidable P] {A B:Prop} (h:P) (b:B):WIf (!decide P) A B:=WIf_f (by simp [h]) b
theorem WS_sq {a b:VS} (ha:a env=.ok (.nx,env1)) (h:WS b env1 K):WS (vSeq a b) env K:=by
  obtain ⟨f,e,h1,h2⟩:=h
  exact ⟨f,e,by rw [vSeq_nx ha];exact h1,h2⟩
theorem WS_one {a:VS} (ha:a env=.ok (.nx,env1)) (h:K.nx env1):WS a env K:=⟨.nx,env1,ha,h⟩
theorem WS_seq {a b:VS} (h:WS a env (KT.sq b K)):WS (vSeq a b) env K:=by
  obtain ⟨f,e,h1,h2⟩:=h
  cases f with
  | nx=>
    obtain ⟨f,e2,h3,h4⟩:=h2
    exact ⟨f,e2,by rw [vSeq_nx h1];exact h3,h4⟩
  | rt v=>exact ⟨.rt v,e,vSeq_rt h1,h2⟩
  | bk=>exact ⟨.bk,e,by unfold vSeq;rw [h1];rfl,h2⟩
  | ct=>exact ⟨.ct,e,by unfold vSeq;rw [h1];rfl,h2⟩
theorem WS_rt {a:VE} {x:EV} (ha:a env=.ok (x,env1)) (h:K.rt x env1):WS (vRet a) env K:=⟨.rt x,env1,vRet_ok ha,h⟩
theorem WS_rtN (h:K.rt (.im .non) env):WS vRetN env K:=⟨.rt (.im .non),env,rfl,h⟩
theorem WS_bk (h:K.bk env):WS vBreak env K:=⟨.bk,env,rfl,h⟩
theorem WS_pass (h:K.nx env):WS vPass env K:=⟨.nx,env,rfl,h⟩
theorem WS_if {t:VT} {a b:VS} {c:Bool} (ht:t env=.ok (c,env1)) (h:WIf c (WS a env1 K) (WS b env1 K)):WS (vIfS t a b) env K:=by
  cases c with
  | true=>obtain ⟨f,e,h1,h2⟩:=h.1 rfl;exact ⟨f,e,by rw [vIfS_ok ht];exact h1,h2⟩
  | false=>obtain ⟨f,e,h1,h2⟩:=h.2 rfl;exact ⟨f,e,by rw [vIfS_ok ht];exact h1,h2⟩
/-- a test with an early end: the rest stands once -/
theorem WS_ifsq {t:VT} {a b c:VS} {q:Bool} (ht:t env=.ok (q,env1)) (h:WIf q (WS a env1 (KT.sq c K)) (WS b env1 (KT.sq c K))):WS (vSeq (vIfS t a b) c) env K:=WS_seq (WS_if ht h)
theorem WS_eq {s:VS} {f:VFl} {e:Env} (h:s env=.ok (f,e)) (hk:K.go f e):WS s env K:=⟨f,e,h,hk⟩
/-- loops -/
theorem WS_forL {g:Tg} {b:VS} (I:List NV→Env→Prop) (hs:∀x xs e,I (x::xs) e→∃e1,vPut g x e=some e1∧WS b e1 (KT.lp (I xs) K)) (he:∀e,I [] e→K.nx e):∀ (xs:List NV) (env:Env),I xs env→∃f e,vForL g b xs env=.ok (f,e)∧K.go f e
  | [],env,h=>⟨.nx,env,rfl,he env h⟩
  | x::xs,env,h=>by
    obtain ⟨e1,h1,f,e2,h2,h3⟩:=hs x xs env h
    simp only [vForL,h1,ofO_some,R.ok_bind,h2]
    cases f with
    | nx=>exact WS_forL I hs he xs e2 h3
    | ct=>exact WS_forL I hs he xs e2 h3
    | bk=>exact ⟨.nx,e2,rfl,h3⟩
    | rt v=>exact ⟨.rt v,e2,rfl,h3⟩
theorem WS_for {it:VI} {g:Tg} {b:VS} {xs:List NV} (I:List NV→Env→Prop) (hi:it env=.ok (xs,env1)) (h0:I xs env1) (hs:∀x xs e,I (x::xs) e→∃e1,vPut g x e=some e1∧WS b e1 (KT.lp (I xs) K)) (he:∀e,I [] e→K.nx e):WS (vFor it g b) env K:=by
  obtain ⟨f,e,h1,h2⟩:=WS_forL I hs he xs env1 h0
  exact ⟨f,e,(vFor_nx hi).trans h1,h2⟩
/-- .. where the def may end within or the loop be left: what holds then -/
theorem WS_forsq {it:VI} {g:Tg} {b c:VS} {xs:List NV} (I:List NV→Env→Prop) (hi:it env=.ok (xs,env1)) (h0:I xs env1) (hs:∀x xs e,I (x::xs) e→∃e1,vPut g x e=some e1∧WS b e1 (KT.lp (I xs) (KT.sq c K))) (he:∀e,I [] e→WS c e K):WS (vSeq (vFor it g b) c) env K:=
  WS_seq (WS_for I hi h0 hs he)
theorem nx_sq {b:VS} {e:Env} (h:WS b e K):(KT.sq b K).nx e:=h
theorem rt_sq {b:VS} {e:Env} {v:EV} (h:K.rt v e):(KT.sq b K).rt v e:=h
theorem bk_sq {b:VS} {e:Env} (h:K.bk e):(KT.sq b K).bk e:=h
theorem ct_sq {b:VS} {e:Env} (h:K.ct e):(KT.sq b K).ct e:=h
theorem nx_lp {I:Env→Prop} {e:Env} (h:I e):(KT.lp I K).nx e:=h
theorem ct_lp {I:Env→Prop} {e:Env} (h:I e):(KT.lp I K).ct e:=h
theorem bk_lp {I:Env→Prop} {e:Env} (h:K.nx e):(KT.lp I K).bk e:=h
theorem rt_lp {I:Env→Prop} {e:Env} {v:EV} (h:K.rt v e):(KT.lp I K).rt v e:=h
inductive Upd:Env→Nat→Sl→Env→Prop
  | z {a s:Sl} {l:Env}:Upd (a::l) 0 s (s::l)
  | s {a s:Sl} {l l':Env} {n:Nat}:Upd l n s l'→Upd (a::l) (n+1) s (a::l')
theorem Upd.set {i:Nat} {s:Sl} (h:Upd env i s env1):env.set i s=env1:=by induction h <;> simp_all
inductive Put:Env→Nat→Sl→Env→Prop
  | z {a s:Sl} {l:Env} (h:nb a=true):Put (a::l) 0 s (s::l)
  | s {a s:Sl} {l l':Env} {n:Nat}:Put l n s l'→Put (a::l) (n+1) s (a::l')
theorem Put.vSet {i:Nat} {s:Sl} (h:Put env i s env1):vSet i s env=some env1:=by
  have k:∃a,env[i]? = some a∧nb a=true∧env.set i s=env1:=by
    induction h with
    | z h=>exact ⟨_,rfl,h,rfl⟩
    | s _ ih=>obtain ⟨a,h1,h2,h3⟩:=ih;exact ⟨a,h1,h2,by simp [h3]⟩
  obtain ⟨a,h1,h2,h3⟩:=k
  rw [vSet_nb h1 h2,h3]
theorem Put.vPut {i:Nat} {v:NV} (h:Put env i (.sh v) env1):vPut (.nm i) v env=some env1:=by
  have k:∃a,env[i]? = some a∧nb a=true∧env.set i (.sh v)=env1:=by
    generalize hs:Sl.sh v=s at h ⊢
    induction h with
    | z h=>exact ⟨_,rfl,h,rfl⟩
    | s _ ih=>obtain ⟨a,h1,h2,h3⟩:=ih hs;exact ⟨a,h1,h2,by simp [h3]⟩
  obtain ⟨a,h1,h2,h3⟩:=k
  rw [vPut_nb h1 h2,h3]
theorem puts_nil:vPuts [] [] env=some env:=rfl
theorem puts_cons {t:Tg} {ts:List Tg} {x:NV} {xs:List NV} (h:Vg.vPut t x env=some env1) (h2:vPuts ts xs env1=some env2):vPuts (t::ts) (x::xs) env=some env2:=by simp only [vPuts,h,Option.bind_some,h2]
theorem put_tp {ts:List Tg} {xs:List NV} (h:vPuts ts xs env=some env1):Vg.vPut (.tp ts) (.tup xs) env=some env1:=by simp only [vPut,h]
/-- a slot that anything may stand in -/
noncomputable
abbrev Jk:={s:Sl // nb s=true}
theorem Jk_ok (a:Jk):nb a.1=true:=a.2
theorem get_im {v:NV}:EV.get env (.im v)=some v:=rfl
theorem keep_im {v:NV}:vKeep (.im v) env=some (.sh v,env):=rfl
theorem keep_fr {v:NV}:vKeep (.fr v) env=some (.ow v,env):=rfl
theorem frz_im {v:NV}:frz (.im v) env=some (v,env):=rfl
theorem frz_fr {v:NV}:frz (.fr v) env=some (v,env):=rfl
theorem frz_ow {k:Nat} {v:NV} (h:env[k]? = some (.ow v)) (hu:Upd env k (.sh v) env1):frz (.sl k) env=some (v,env1):=by simp [frz,h,hu.set]
theorem frz_sh {k:Nat} {v:NV} (h:env[k]? = some (.sh v)):frz (.sl k) env=some (v,env):=by simp [frz,h]
theorem keep_sl {k:Nat} {v:NV} (h:frz (.sl k) env=some (v,env1)):vKeep (.sl k) env=some (.sh v,env1):=by simp only [vKeep,h,Option.map_some]
theorem frzs_nil:frzs [] env=some ([],env):=rfl
theorem frzs_cons {e:EV} {r:List EV} {v:NV} {vs:List NV} (h:frz e env=some (v,env1)) (h2:frzs r env1=some (vs,env2)):frzs (e::r) env=some (v::vs,env2):=by simp [frzs,h,h2]
theorem gets_nil:gets env []=some []:=rfl
theorem gets_cons {e:EV} {r:List EV} {v:NV} {vs:List NV} (h:e.get env=some v) (h2:gets env r=some vs):gets env (e::r)=some (v::vs):=by simp [gets,h,h2]
theorem keeps_nil:vKeeps [] env=some ([],env):=rfl
theorem keeps_cons {e:EV} {r:List EV} {s:Sl} {ss:List Sl} (h:vKeep e env=some (s,env1)) (h2:vKeeps r env1=some (ss,env2)):vKeeps (e::r) env=some (s::ss,env2):=by simp [vKeeps,h,h2]
theorem sets_nil:vSets [] [] env=some env:=rfl
theorem sets_cons {i:Nat} {is:List Nat} {s:Sl} {ss:List Sl} (h:Put env i s env1) (h2:vSets is ss env1=some env2):vSets (i::is) (s::ss) env=some env2:=by simp [vSets,h.vSet,h2]
theorem vPar_ok {is:List Nat} {a:VA} {es:List EV} {ss:List Sl} (ha:a env=.ok (es,env1)) (hk:vKeeps es env1=some (ss,env2)) (hs:vSets is ss env2=some env3):vPar is a env=.ok (.nx,env3):=by
  unfold vPar;rw [ha];simp only [R.ok_bind,hk,Option.bind_some,hs,ofO_some]
theorem vAsgP_ok {a:VE} {i:Nat} {x:EV} {s:Sl} (ha:a env=.ok (x,env1)) (hk:vKeep x env1=some (s,env2)) (hs:Put env2 i s env3):vAsg a (.nm i) env=.ok (.nx,env3):=vAsg_ok ha hk hs.vSet
theorem vAug_ok {i:Nat} {f:VO2} {a:VE} {x w v:NV} {y:EV} (h0:env[i]? = some (.sh x)) (ha:a env=.ok (y,env1)) (hy:y.get env1=some w) (hf:f x w=some (.im v)) (hs:Put env1 i (.sh v) env2):vAug i f a env=.ok (.nx,env2):=by
  unfold vAug;rw [h0];simp only;rw [ha];simp only [R.ok_bind,hy,Option.bind_some,hf,ofO_some,hs.vSet]
theorem vSub_ow {f:NV→NV→NV→Option NV} {o i e:VE} {x z:EV} {k:Nat} {w u j n:NV} (he:e env=.ok (x,env1)) (ho:o env1=.ok (.sl k,env2)) (hi:i env2=.ok (z,env3)) (hx:frz x env3=some (w,env4)) (hu:env4[k]? = some (.ow u)) (hz:z.get env4=some j) (hf:f u j w=some n) {env5:Env} (hs:Upd env4 k (.ow n) env5):vSub f o i e env=.ok (.nx,env5):=by
  unfold vSub;rw [he];simp only [R.ok_bind];rw [ho];simp only [R.ok_bind];rw [hi];simp only [R.ok_bind,hx,ofO_some,hu,hz,Option.bind_some,hf,hs.set]
theorem vSub_bo {f:NV→NV→NV→Option NV} {o i e:VE} {x z:EV} {k:Nat} {w u j n:NV} (he:e env=.ok (x,env1)) (ho:o env1=.ok (.sl k,env2)) (hi:i env2=.ok (z,env3)) (hx:frz x env3=some (w,env4)) (hu:env4[k]? = some (.bo u)) (hz:z.get env4=some j) (hf:f u j w=some n) {env5:Env} (hs:Upd env4 k (.bo n) env5):vSub f o i e env=.ok (.nx,env5):=by
  unfold vSub;rw [he];simp only [R.ok_bind];rw [ho];simp only [R.ok_bind];rw [hi];simp only [R.ok_bind,hx,ofO_some,hu,hz,Option.bind_some,hf,hs.set]
theorem ev_var {k:Nat} {r:R EE (EV×Env)} (h:vVar k env=r):vVar k env=r:=h
theorem ev_un {f:NV→Option EV} {a:VE} {x z:EV} {u:NV} (ha:a env=.ok (x,env1)) (hx:x.get env1=some u) (hf:f u=some z):vUn f a env=.ok (z,env1):=by unfold vUn;rw [ha];simp only [R.ok_bind,hx,Option.bind_some,hf,ofO_some]
theorem vIf_t {t:VT} {a b:VE} {x:EV} (ht:t env=.ok (true,env1)) (ha:a env1=.ok (x,env2)):vIf t a b env=.ok (x,env2):=by unfold vIf;rw [ht];exact ha
theorem vIf_f {t:VT} {a b:VE} {x:EV} (ht:t env=.ok (false,env1)) (hb:b env1=.ok (x,env2)):vIf t a b env=.ok (x,env2):=by unfold vIf;rw [ht];exact hb
theorem vAnd_f {a b:VE} {x:EV} (h:a env=.ok (x,env1)) (hx:x.get env1=some (.bl false)):vAnd a b env=.ok (.im (.bl false),env1):=vAnd_ok h hx
theorem vAnd_go {a b:VE} {x y:EV} (h:a env=.ok (x,env1)) (hx:x.get env1=some (.bl true)) (hb:b env1=.ok (y,env2)):vAnd a b env=.ok (y,env2):=(vAnd_ok h hx).trans hb
theorem vAnd_b {a b:VE} {x:EV} {c d:Bool} (h:a env=.ok (x,env1)) (hx:x.get env1=some (.bl c)) (hb:b env1=.ok (.im (.bl d),env1)):vAnd a b env=.ok (.im (.bl (c && d)),env1):=by
  rw [vAnd_ok h hx];cases c;rfl;exact hb
theorem vOr_t {a b:VE} {x:EV} (h:a env=.ok (x,env1)) (hx:x.get env1=some (.bl true)):vOr a b env=.ok (.im (.bl true),env1):=vOr_ok h hx
theorem vOr_go {a b:VE} {x y:EV} (h:a env=.ok (x,env1)) (hx:x.get env1=some (.bl false)) (hb:b env1=.ok (y,env2)):vOr a b env=.ok (y,env2):=(vOr_ok h hx).trans hb
theorem vOr_b {a b:VE} {x:EV} {c d:Bool} (h:a env=.ok (x,env1)) (hx:x.get env1=some (.bl c)) (hb:b env1=.ok (.im (.bl d),env1)):vOr a b env=.ok (.im (.bl (c || d)),env1):=by
  rw [vOr_ok h hx];cases c;exact hb;rfl
theorem vNot_go {a:VE} {x:EV} {c:Bool} (h:a env=.ok (x,env1)) (hx:x.get env1=some (.bl c)):vNot a env=.ok (.im (.bl (!c)),env1):=by unfold vNot;rw [h];simp only [R.ok_bind,hx,Option.bind_some,isBl,ofO_some]
theorem vChain_b {f g:VO2} {a b c:VE} {x y z:EV} {u w q:NV} {k l:Bool} (ha:a env=.ok (x,env)) (hb:b env=.ok (y,env)) (hx:x.get env=some u) (hy:y.get env=some w) (hf:f u w=some (.im (.bl k))) (hc:c env=.ok (z,env)) (hz:z.get env=some q) (hg:g w q=some (.im (.bl l))):vChain f g a b c env=.ok (.im (.bl (k && l)),env):=by?
  unfold vChain;rw [ha];simp only [R.ok_bind];rw [hb];simp only [R.ok_bind,hx,hy,Option.bind_some,hf,ofO_some]
  cases k
  · rfl
  · show (c env >>= fun q=>ofO ((y.get q.2).bind fun u=>(q.1.get q.2).bind fun w=>g u w) >>= fun z2=>R.ok (z2,q.2))=_
    rw [hc];simp only [R.ok_bind,hz,hy,Option.bind_some,hg,ofO_some,Bool.true_and]
theorem vMethM_owU {K:NV→Bool} {f:NV→List NV→Option (NV×NV)} {o:VE} {a:VA} {k:Nat} {u0 u z w:NV} {es:List EV} {ws:List NV} (ho:o env=.ok (.sl k,env1)) (h0:EV.get env1 (.sl k)=some u0) (hk:K u0=true) (ha:a env1=.ok (es,env2)) (hf:frzs es env2=some (ws,env3)) (hu:env3[k]? = some (.ow u)) (hz:f u ws=some (z,w)) (hs:Upd env3 k (.ow w) env4) :
    vMethM K f o a env=.ok (.im z,env4):=by rw [vMethM_ow ho h0 hk ha hf hu hz,hs.set]
theorem vMethM_boU {K:NV→Bool} {f:NV→List NV→Option (NV×NV)} {o:VE} {a:VA} {k:Nat} {u0 u z w:NV} {es:List EV} {ws:List NV} (ho:o env=.ok (.sl k,env1)) (h0:EV.get env1 (.sl k)=some u0) (hk:K u0=true) (ha:a env1=.ok (es,env2)) (hf:frzs es env2=some (ws,env3)) (hu:env3[k]? = some (.bo u)) (hz:f u ws=some (z,w)) (hs:Upd env3 k (.bo w) env4) :
    vMethM K f o a env=.ok (.im z,env4):=by rw [vMethM_bo ho h0 hk ha hf hu hz,hs.set]
theorem wback_nil {es:List EV}:wback [] [] es env=some env:=rfl
theorem wback_bo {j:Nat} {mp:List Nat} {o x:NV} {os:List NV} {es:List EV} {k:Nat} (he:es[j]? = some (.sl k)) (hk:env[k]? = some (.bo x)) (hu:Upd env k (.bo o) env1) (h:wback mp os es env1=some env2):wback (j::mp) (o::os) es env=some env2:=by simp [wback,he,hk,hu.set,h]
theorem wback_ow {j:Nat} {mp:List Nat} {o x:NV} {os:List NV} {es:List EV} {k:Nat} (he:es[j]? = some (.sl k)) (hk:env[k]? = some (.ow x)) (hu:Upd env k (.ow o) env1) (h:wback mp os es env1=some env2):wback (j::mp) (o::os) es env=some env2:=by simp [wback,he,hk,hu.set,h]
theorem wback_fr {j:Nat} {mp:List Nat} {o x:NV} {os:List NV} {es:List EV} (he:es[j]? = some (.fr x)) (h:wback mp os es env=some env2):wback (j::mp) (o::os) es env=some env2:=by simp [wback,he,h]
/-- a call: what it lends may be lent -/
theorem vCallL_ok {f:VF} {n:Nat} {mp:List Nat} {a:VA} {es:List EV} {vs:List NV} {ev:EV} {os:List NV} (ha:a env=.ok (es,env1)) (hg:gets env1 es=some vs) (hf:f vs=.ok (ev,os)) (hl:es.length=n) (hn:noAlias mp es=true) (hw:wback mp os es env1=some env2) (hd:lent mp 0 es=[]∨lendOk ev os=true):vCall f n mp a env=.ok (ev,env2):=by
  refine vCall_ok ha hl hn hg hf hw ?_
  unfold lend
  rcases hd with h | h
  · rw [h];split <;> rfl
  · rw [if_pos h]
theorem ev_call {f:VF} {n:Nat} {mp:List Nat} {a:VA} {r:R EE (EV×Env)} (h:vCall f n mp a env=r):vCall f n mp a env=r:=h
theorem vSl_go {a:VE} {lo hi:VOp} {x z:EV} {l h:Option Int} {u:NV} (ha:a env=.ok (x,env1)) (hl:lo env1=.ok (l,env2)) (hh:hi env2=.ok (h,env3)) (hx:x.get env3=some u) (hz:vsl u l h=some z):vSl a lo hi env=.ok (z,env3):=vSl_ok ha hl hh hx hz
theorem vNoEnd_go:vNoEnd env=.ok (none,env):=rfl
theorem vEnd_go {a:VE} {x:EV} {i:Int} (ha:a env=.ok (x,env1)) (hx:x.get env1=some (.int i)):vEnd a env=.ok (some i,env1):=vEnd_ok ha hx
theorem vDfl_go {a:VA} {es:List EV} (h:a env=.ok (es,env1)):vDfl a env=.ok (es++[.im (.tup [])],env1):=by unfold vDfl;rw [h];rfl
inductive SelR (us ws:List EV):List (Bool×Nat)→List EV→Prop
  | nil:SelR us ws [] []
  | t {i:Nat} {sel:List (Bool×Nat)} {x:EV} {r:List EV} (h:ws[i]? = some x) (k:SelR us ws sel r):SelR us ws ((true,i)::sel) (x::r)
  | f {i:Nat} {sel:List (Bool×Nat)} {x:EV} {r:List EV} (h:us[i]? = some x) (k:SelR us ws sel r):SelR us ws ((false,i)::sel) (x::r)
theorem SelR.eq {us ws:List EV} {sel:List (Bool×Nat)} {r:List EV} (h:SelR us ws sel r):selG (.im .non) sel us ws=r:=by
  induction h with
  | nil=>rfl
  | t h _ ih=>simp only [selG,List.map_cons,if_true,List.getD_eq_getElem?_getD,h,Option.getD_some] at ih ⊢;rw [ih]
  | f h _ ih=>simp only [selG,List.map_cons,Bool.false_eq_true,if_false,List.getD_eq_getElem?_getD,h,Option.getD_some] at ih ⊢;rw [ih]
theorem vKw_go {n m:Nat} {sel:List (Bool×Nat)} {a b:VA} {es fs r:List EV} (ha:a env=.ok (es,env1)) (hb:b env1=.ok (fs,env2)) (h:es.length=n∧fs.length=m) (hr:SelR es fs sel r):vKw n m sel a b env=.ok (r,env2):=by unfold vKw;rw [ha];simp only [R.ok_bind];rw [hb];simp only [R.ok_bind];rw [grd_of h,hr.eq]
theorem vi_seq {a:VE} {x:EV} {u:NV} {xs:List NV} (ha:a env=.ok (x,env1)) (hx:frz x env1=some (u,env2)) (hu:vitems u=some xs):viSeq a env=.ok (xs,env2):=by unfold viSeq;rw [ha];simp only [R.ok_bind,hx,ofO_some,hu]
theorem vi_enum {a:VE} {x:EV} {u:NV} {xs:List NV} (ha:a env=.ok (x,env1)) (hx:frz x env1=some (u,env2)) (hu:vseq u=some xs):viEnum a env=.ok (venum 0 xs,env2):=by unfold viEnum;rw [ha];simp only [R.ok_bind,hx,ofO_some,hu]
theorem vi_rng1 {a:VE} {x:EV} {j:Int} {n:Nat} (ha:a env=.ok (x,env1)) (hx:x.get env1=some (.int j)) (hj:j.toNat=n) (h1:j≤1000000∧-1000000≤j):viRng1 a env=.ok (vrng 0 n,env1):=by
  have sm:small62 j=true:=small_both h1
  unfold viRng1;rw [ha];simp only [R.ok_bind,hx,Option.bind_some,isInt,ofO_some]
  rw [grd_of sm,hj]
theorem vi_rng2 {a b:VE} {x y:EV} {i j:Int} {n:Nat} (ha:a env=.ok (x,env1)) (hx:x.get env1=some (.int i)) (hb:b env1=.ok (y,env2)) (hy:y.get env2=some (.int j)) (hn:(j - i).toNat=n) (h1:i≤1000000∧-1000000≤i) (h2:j≤1000000∧-1000000≤j):viRng2 a b env=.ok (vrng i n,env2):=by
  have s1:=small_both h1
  have s2:=small_both h2
  unfold viRng2;rw [ha];simp only [R.ok_bind,hx,Option.bind_some,isInt,ofO_some];rw [hb];simp only [R.ok_bind,hy,Option.bind_some,isInt,ofO_some]
  rw [grd_of ⟨s1,s2⟩,hn]
/-- tests -/
inductive AndR (b:VT) (env:Env):Bool→R EE (Bool×Env)→Prop
  | f:AndR b env false (.ok (false,env))
  | t {d:Bool} {e:Env} (h:b env=.ok (d,e)):AndR b env true (.ok (d,e))
  | b {c d:Bool} (h:b env=.ok (d,env)):AndR b env c (.ok (c && d,env))
  | p {P:Prop} [Decidable P] {d:Bool} {e:Env} (p:P) (h:b env=.ok (d,e)):AndR b env (decide P) (.ok (d,e))
  | n {P:Prop} [Decidable P] (p:¬ P):AndR b env (decide P) (.ok (false,env))
theorem vAndT_g {a b:VT} {c d:Bool} {e:Env} (h:a env=.ok (c,env1)) (hr:AndR b env1 c (.ok (d,e))):vAndT a b env=.ok (d,e):=by
  unfold vAndT;rw [h];simp only [R.ok_bind]
  generalize hq:(R.ok (d,e):R EE (Bool×Env))=q at hr
  cases hr with
  | f=>rfl
  | t z=>simpa using z
  | b z=>cases c <;> simp [z]
  | p p z=>simp [p,z]
  | n p=>simp [p]
inductive OrR (b:VT) (env:Env):Bool→R EE (Bool×Env)→Prop
  | t:OrR b env true (.ok (true,env))
  | f {d:Bool} {e:Env} (h:b env=.ok (d,e)):OrR b env false (.ok (d,e))
  | b {c d:Bool} (h:b env=.ok (d,env)):OrR b env c (.ok (c || d,env))
  | p {P:Prop} [Decidable P] (p:P):OrR b env (decide P) (.ok (true,env))
  | n {P:Prop} [Decidable P] {d:Bool} {e:Env} (p:¬ P) (h:b env=.ok (d,e)):OrR b env (decide P) (.ok (d,e))
theorem vOrT_g {a b:VT} {c d:Bool} {e:Env} (h:a env=.ok (c,env1)) (hr:OrR b env1 c (.ok (d,e))):vOrT a b env=.ok (d,e):=by
  unfold vOrT;rw [h];simp only [R.ok_bind]
  generalize hq:(R.ok (d,e):R EE (Bool×Env))=q at hr
  cases hr with
  | t=>rfl
  | f z=>simpa using z
  | b z=>cases c <;> simp [z]
  | p p=>simp [p]
  | n p z=>simp [p,z]
inductive IfR (a b:VE) (env:Env):Bool→R EE (EV×Env)→Prop
  | t {x:EV} {e:Env} (h:a env=.ok (x,e)):IfR a b env true (.ok (x,e))
  | f {x:EV} {e:Env} (h:b env=.ok (x,e)):IfR a b env false (.ok (x,e))
  | p {P:Prop} [Decidable P] {x:EV} {e:Env} (p:P) (h:a env=.ok (x,e)):IfR a b env (decide P) (.ok (x,e))
  | n {P:Prop} [Decidable P] {x:EV} {e:Env} (p:¬ P) (h:b env=.ok (x,e)):IfR a b env (decide P) (.ok (x,e))
  | i {c:Bool} {x y:Int} (h:a env=.ok (.im (.int x),env)) (k:b env=.ok (.im (.int y),env)):IfR a b env c (.ok (.im (.int (if c then x else y)),env))
  | s {c:Bool} {x y:Str} (h:a env=.ok (.im (.str x),env)) (k:b env=.ok (.im (.str y),env)):IfR a b env c (.ok (.im (.str (if c then x else y)),env))
  | u {c:Bool} {x y:NV} (h:a env=.ok (.im x,env)) (k:b env=.ok (.im y,env)):IfR a b env c (.ok (.im (if c then x else y),env))
theorem vIf_g {t:VT} {a b:VE} {c:Bool} {x:EV} {e:Env} (h:t env=.ok (c,env1)) (hr:IfR a b env1 c (.ok (x,e))):vIf t a b env=.ok (x,e):=by
  unfold vIf;rw [h];simp only [R.ok_bind]
  generalize hq:(R.ok (x,e):R EE (EV×Env))=q at hr
  cases hr with
  | t z=>simpa using z
  | f z=>simpa using z
  | p p z=>simp [p,z]
  | n p z=>simp [p,z]
  | i z k=>cases c <;> simp [z,k]
  | s z k=>cases c <;> simp [z,k]
  | u z k=>cases c <;> simp [z,k]
theorem vNotT_n {a:VT} {c d:Bool} (h:a env=.ok (c,env1)) (hd:(!c)=d):vNotT a env=.ok (d,env1):=hd ▸ vNotT_ok h
theorem bn_t:(!true)=false:=rfl
theorem bn_f:(!false)=true:=rfl
theorem bn_nn {c:Bool}:(!(!c))=c:=by simp
theorem vVal_g {a:VE} {x:EV} {b:Bool} (ha:a env=.ok (x,env1)) (hx:x.get env1=some (.bl b)):vVal a env=.ok (b,env1):=vVal_ok ha hx
theorem ev_c {v:NV}:vC v env=.ok (.im v,env):=rfl
theorem vTup_g {a:VA} {es:List EV} {vs:List NV} (ha:a env=.ok (es,env1)) (hf:frzs es env1=some (vs,env2)) (hl:es.length≤LINE):vTup a env=.ok (.im (.tup vs),env2):=vTup_ok ha hf hl
theorem vLst_g {a:VA} {es:List EV} {vs:List NV} (ha:a env=.ok (es,env1)) (hf:frzs es env1=some (vs,env2)) (hl:es.length≤LINE):vLst a env=.ok (.fr (.lst vs),env2):=vLst_ok ha hf hl
theorem vAsgT_g {a:VE} {ts:List Tg} {x:EV} {y:NV} (ha:a env=.ok (x,env1)) (hk:frz x env1=some (y,env2)) (hs:vPut (.tp ts) y env2=some env3):vAsg a (.tp ts) env=.ok (.nx,env3):=vAsgT_ok ha hk hs
theorem len_tsv (xs:List Str):vfLenA [.tup (sv xs)]=some (.im (.int (xs.length:Nat))):=by
  show some (EV.im (NV.int ((sv xs).length:Nat)))=_
  rw [sv_len]
theorem len_lsv (xs:List Str):vfLenA [.lst (sv xs)]=some (.im (.int (xs.length:Nat))):=by
  show some (EV.im (NV.int ((sv xs).length:Nat)))=_
  rw [sv_len]
theorem in_lsv (g:Str) (xs:List Str):voIn (.str g) (.lst (sv xs))=some (.im (.bl (decide (g∈xs)))):=in_sv g xs
theorem notIn_lsv (g:Str) (xs:List Str):voNotIn (.str g) (.lst (sv xs))=some (.im (.bl (!decide (g∈xs)))):=notIn_sv g xs
theorem isN_non:voIsN .non .non=some (.im (.bl true)):=by
  have n0:decide (NV.non=.non)=true:=decide_eq_true rfl
  show some (EV.im (NV.bl (decide (NV.non=.non))))=_
  rw [n0]
theorem isN_of {x:NV} (h:x≠.non):voIsN x .non=some (.im (.bl false)):=by
  have n0:decide (x=.non)=false:=decide_eq_false h
  show some (EV.im (NV.bl (decide (x=.non))))=_
  rw [n0]
theorem notN_non:voNotN .non .non=some (.im (.bl false)):=by
  have n0:decide (NV.non=.non)=true:=decide_eq_true rfl
  show some (EV.im (NV.bl (!decide (NV.non=.non))))=_
  rw [n0];rfl
theorem notN_of {x:NV} (h:x≠.non):voNotN x .non=some (.im (.bl true)):=by
  have n0:decide (x=.non)=false:=decide_eq_false h
  show some (EV.im (NV.bl (!decide (x=.non))))=_
  rw [n0];rfl
theorem tup_ne {xs:List NV}:NV.tup xs≠.non:=by simp
theorem lst_ne {xs:List NV}:NV.lst xs≠.non:=by simp
theorem int_ne {i:Int}:NV.int i≠.non:=by simp
theorem str_ne {i:Str}:NV.str i≠.non:=by simp
theorem bl_ne {i:Bool}:NV.bl i≠.non:=by simp
theorem eq_str (a b:Str):voEq (.str a) (.str b)=some (.im (.bl (decide (a=b)))):=rfl
theorem ne_str (a b:Str):voNe (.str a) (.str b)=some (.im (.bl (!decide (a=b)))):=rfl
theorem ne_int (a b:Int):voNe (.int a) (.int b)=some (.im (.bl (!decide (a=b)))):=rfl
theorem eq_int_self (a:Int):voEq (.int a) (.int a)=some (.im (.bl true)):=by
  show some (EV.im (NV.bl (decide (a=a))))=_
  rw [decide_eq_true rfl]
theorem ne_int_self (a:Int):voNe (.int a) (.int a)=some (.im (.bl false)):=by
  show some (EV.im (NV.bl (!decide (a=a))))=_
  rw [decide_eq_true rfl];rfl
theorem eq_int_f {a b:Int} (h:a≠b):voEq (.int a) (.int b)=some (.im (.bl false)):=by
  show some (EV.im (NV.bl (decide (a=b))))=_
  rw [decide_eq_false h]
theorem ne_int_t {a b:Int} (h:a≠b):voNe (.int a) (.int b)=some (.im (.bl true)):=by
  show some (EV.im (NV.bl (!decide (a=b))))=_
  rw [decide_eq_false h];rfl
theorem len_t1 {a:NV}:vfLenA [.tup [a]]=some (.im (.int 1)):=rfl
theorem len_t2 {a b:NV}:vfLenA [.tup [a,b]]=some (.im (.int 2)):=rfl
theorem len_t3 {a b c:NV}:vfLenA [.tup [a,b,c]]=some (.im (.int 3)):=rfl
theorem len_t0:vfLenA [.tup []]=some (.im (.int 0)):=rfl
theorem isi_tt {xs:List NV}:vfIsi [.tup xs,.ty "tuple"]=some (.im (.bl true)):=rfl
theorem isi_ss {x:Str}:vfIsi [.str x,.ty "str"]=some (.im (.bl true)):=rfl
theorem isi_ii {x:Int}:vfIsi [.int x,.ty "int"]=some (.im (.bl true)):=rfl
theorem isi_ib {x:Int}:vfIsi [.int x,.ty "bool"]=some (.im (.bl false)):=rfl
theorem isi_is {x:Int}:vfIsi [.int x,.ty "str"]=some (.im (.bl false)):=rfl
theorem isi_it {x:Int}:vfIsi [.int x,.ty "tuple"]=some (.im (.bl false)):=rfl
theorem isi_si {x:Str}:vfIsi [.str x,.ty "int"]=some (.im (.bl false)):=rfl
theorem isi_st {x:Str}:vfIsi [.str x,.ty "tuple"]=some (.im (.bl false)):=rfl
theorem isi_ts {xs:List NV}:vfIsi [.tup xs,.ty "str"]=some (.im (.bl false)):=rfl
theorem isi_ti {xs:List NV}:vfIsi [.tup xs,.ty "int"]=some (.im (.bl false)):=rfl
theorem isi_nt:vfIsi [.non,.ty "tuple"]=some (.im (.bl false)):=rfl
theorem isi_ns:vfIsi [.non,.ty "str"]=some (.im (.bl false)):=rfl
theorem isi_ni:vfIsi [.non,.ty "int"]=some (.im (.bl false)):=rfl
theorem eq_str_f {a b:Str} (h:a≠b):voEq (.str a) (.str b)=some (.im (.bl false)):=by rw [eq_str,decide_eq_false h]
theorem ne_str_t {a b:Str} (h:a≠b):voNe (.str a) (.str b)=some (.im (.bl true)):=by rw [ne_str,decide_eq_false h];rfl
theorem eq_str_self (a:Str):voEq (.str a) (.str a)=some (.im (.bl true)):=by rw [eq_str,decide_eq_true rfl]
theorem add_tup {xs ys:List NV} (h:xs.length+ys.length≤LINE):voAdd (.tup xs) (.tup ys)=some (.im (.tup (xs++ys))):=voAdd_tup h
theorem add_tsv {xs ys:List Str} (h:xs.length+ys.length≤1000000):voAdd (.tup (sv xs)) (.tup (sv ys))=some (.im (.tup (sv (xs++ys)))):=by
  rw [voAdd_tup (Nat.le_trans (by rw [sv_len,sv_len];exact h) (show 1000000≤LINE by decide))];simp
theorem add_lst {xs ys:List NV} (h:xs.length+ys.length≤1000000):voAdd (.lst xs) (.lst ys)=some (.fr (.lst (xs++ys))):=voAdd_lst (Nat.le_trans h (by decide))
theorem sl_to (xs:List NV) (n:Nat):vsl (.tup xs) none (some (n:Int))=some (.im (.tup (xs.take n))):=by show some (EV.im (NV.tup (cutP xs none (some (n:Int)))))=_;rw [cut_to]
theorem sl_from (xs:List NV) (n:Nat):vsl (.tup xs) (some (n:Int)) none=some (.im (.tup (xs.drop n))):=by show some (EV.im (NV.tup (cutP xs (some (n:Int)) none)))=_;rw [cut_from]
theorem sl_tsv (xs:List Str) (n:Nat):vsl (.tup (sv xs)) none (some (n:Int))=some (.im (.tup (sv (xs.take n)))):=by rw [sl_to,sv_take]
theorem sl_fsv (xs:List Str) (n:Nat):vsl (.tup (sv xs)) (some (n:Int)) none=some (.im (.tup (sv (xs.drop n)))):=by rw [sl_from,sv_drop]
theorem append_lst {xs:List NV} {y:NV} (h:xs.length≤1000000):vmAppend (.lst xs) [y]=some (.non,.lst (xs++[y])):=if_pos (Nat.lt_of_le_of_lt h (by decide))
theorem extend_lst {xs ys:List NV} (h:xs.length+ys.length≤1000000):vmExtend (.lst xs) [.lst ys]=some (.non,.lst (xs++ys)):=if_pos (Nat.le_trans h (by decide))
theorem mul_int {a b:Int} (ha:-1000000000000≤a∧a≤1000000000000) (hb:-1000000000000≤b∧b≤1000000000000):voMul (.int a) (.int b)=some (.im (.int (a * b))):=
  if_pos (mulOk_of (a:=40) (b:=40) (show Int.natAbs _ < 2 ^ 40 by omega) (show Int.natAbs _ < 2 ^ 40 by omega) (by decide))
end
noncomputable
def WFn (f:VF) (vs:List NV) (Q:EV→List NV→Prop):Prop:=∃v os,f vs=.ok (v,os)∧Q v os
noncomputable
def KF (mp:List Nat) (Q:EV→List NV→Prop):KT:=⟨fun e=>∃os,outs e mp=some os∧Q (.im .non) os,fun v e=>∃v' os,vret e v=some v'∧outs e mp=some os∧Q v' os,fun _=>False,fun _=>False⟩
theorem outs_nil {e:Env}:outs e []=some []:=rfl
theorem outs_cons {e:Env} {j:Nat} {r:List Nat} {v:NV} {os:List NV} (h:e[j]? = some (.bo v)) (h2:outs e r=some os):outs e (j::r)=some (v::os):=by simp [outs,h,h2]
theorem rt_kf {mp:List Nat} {Q:EV→List NV→Prop} {e:Env} {v v':EV} {os:List NV} (h1:vret e v=some v') (h2:outs e mp=some os) (h3:Q v' os):(KF mp Q).rt v e:=⟨v',os,h1,h2,h3⟩
theorem nx_kf {mp:List Nat} {Q:EV→List NV→Prop} {e:Env} {os:List NV} (h2:outs e mp=some os) (h3:Q (.im .non) os):(KF mp Q).nx e:=⟨os,h2,h3⟩
theorem ret_im {e:Env} {v:NV}:vret e (.im v)=some (.im v):=rfl
theorem ret_fr {e:Env} {v:NV}:vret e (.fr v)=some (.fr v):=rfl
theorem ret_ow {e:Env} {k:Nat} {v:NV} (h:e[k]? = some (.ow v)):vret e (.sl k)=some (.fr v):=by simp [vret,h]
theorem ret_sh {e:Env} {k:Nat} {v:NV} (h:e[k]? = some (.sh v)):vret e (.sl k)=some (.im v):=by simp [vret,h]
theorem WFn_of {N:Nat} {mp:List Nat} {m:VS} {vs:List NV} {Q:EV→List NV→Prop} (h:WS m (vst mp 0 vs++List.replicate (N - vs.length) .un) (KF mp Q)) (hl:(mp.all fun j=>decide (j < vs.length))=true):WFn (vFn N mp m) vs Q:=by
  obtain ⟨f,e,h1,h2⟩:=h
  cases f with
  | nx=>obtain ⟨os,h3,h4⟩:=h2;exact ⟨_,os,vFn_nx h1 h3 hl,h4⟩
  | rt v=>obtain ⟨v',os,h3,h4,h5⟩:=h2;exact ⟨v',os,vFn_rt h1 h3 h4 hl,h5⟩
  | bk=>exact h2.elim
  | ct=>exact h2.elim
theorem WFn.eq {f:VF} {vs:List NV} {v:EV} {os:List NV} (h:WFn f vs fun a b=>a=v∧b=os):f vs=.ok (v,os):=by
  obtain ⟨a,b,h1,rfl,rfl⟩:=h
  exact h1
inductive WipeR:Env→List Nat→Env→Prop
  | nil {e:Env}:WipeR e [] e
  | cons {e e1 e2:Env} {v:Nat} {vs:List Nat}:WipeR e vs e1→Upd e1 v .un e2→WipeR e (v::vs) e2
theorem WipeR.eq {e e1:Env} {vs:List Nat} (h:WipeR e vs e1):vWipe e vs=e1:=by
  induction h with
  | nil=>rfl
  | cons _ h ih=>simp only [vWipe,ih,h.set]
inductive BackR (env:Env):List Nat→Env→Env→Prop
  | nil {e:Env}:BackR env [] e e
  | cons {e e1 e2:Env} {v:Nat} {s:Sl} {vs:List Nat}:BackR env vs e e1→env[v]? = some s→Upd e1 v s e2→BackR env (v::vs) e e2
theorem BackR.eq {env e e1:Env} {vs:List Nat} (h:BackR env vs e e1):vBack env vs e=e1:=by
  induction h with
  | nil=>rfl
  | cons _ hs h ih=>simp only [vBack,ih,List.getD_eq_getElem?_getD,hs,Option.getD_some,h.set]
/-- .. that changes no slot: each item by itself -/
theorem lc_pure {it:VI} {g:Tg} {t:VT} {e:VE} {vs:List Nat} {env env1 env2:Env} {xs:List NV} (c:NV→Bool) (f:NV→NV) (hi:it env=.ok (xs,env1)) (hl:xs.length≤1000000) (hw:WipeR env1 vs env2)
    (hs:∀x∈xs,∃r,vPut g x env2=some r∧t r=.ok (c x,r)∧WipeR r vs env2∧(c x=true→∃y,e r=.ok (y,r)∧frz y r=some (f x,r))):vLc it g t e vs env=.ok (.fr (.lst ((xs.filter c).map f)),env1):=by
  refine vLc_pure c f hi (Nat.le_trans hl (by decide)) fun x hx=>?_
  obtain ⟨r,h1,h2,h3,h4⟩:=hs x hx
  exact ⟨r,by rw [hw.eq];exact h1,h2,h4,by rw [h3.eq,hw.eq]⟩
theorem lc_map {it:VI} {g:Tg} {e:VE} {vs:List Nat} {env env1 env2:Env} {xs:List NV} (f:NV→NV) (hi:it env=.ok (xs,env1)) (hl:xs.length≤1000000) (hw:WipeR env1 vs env2)
    (hs:∀x∈xs,∃r,vPut g x env2=some r∧WipeR r vs env2∧∃y,e r=.ok (y,r)∧frz y r=some (f x,r)):vLc it g vYes e vs env=.ok (.fr (.lst (xs.map f)),env1):=by
  have:=lc_pure (t:=vYes) (fun _=>true) f hi hl hw fun x hx=>by
    obtain ⟨r,h1,h2,h3⟩:=hs x hx
    exact ⟨r,h1,rfl,h2,fun _=>h3⟩
  rw [this,List.filter_eq_self.mpr fun _ _=>rfl]
/-- three names at once -/
theorem vPar3_c {i j l:Nat} {a:VA} {env env1 env2 env3 env4:Env} {e e':EV} {w:NV} {ss:List Sl} (ha:a env=.ok ([e,e',.im w],env1)) (hw:vflat w=true) (hk:vKeeps [e,e'] env1=some (ss,env2)) (hs:vSets [i,j] ss env2=some env3) (hl:Put env3 l (.sh w) env4):vPar3 i j l a env=.ok (.nx,env4):=by
  unfold vPar3;rw [ha];simp only [R.ok_bind]
  rw [grd_of hw,hk];simp only [Option.bind_some,hs,ofO_some,R.ok_bind,hl.vSet]
theorem vPar3_b {i j l:Nat} {a:VA} {env env1 env2 env3 env4:Env} {e v:NV} {w:NV} {ss:List Sl} (ha:a env=.ok ([.fr e,.im w,.fr v],env1)) (hw:vflat w=true∧j≠l) (hk:vKeeps [.fr e,.fr v] env1=some (ss,env2)) (hs:vSets [i,l] ss env2=some env3) (hl:Put env3 j (.sh w) env4):vPar3 i j l a env=.ok (.nx,env4):=by
  unfold vPar3;rw [ha];simp only [R.ok_bind]
  rw [grd_of hw,hk];simp only [Option.bind_some,hs,ofO_some,R.ok_bind,hl.vSet]
theorem e__law_tallies_k86b {a0 a1:NV} {Q:EV→List NV→Prop} (h:WS v__law_tallies_k86b [.sh a0,.sh a1,.un,.un,.un,.un,.un,.un,.un,.un,.un,.un,.un] (KF [] Q)):WFn g__law_tallies_k86b [a0,a1] Q:=WFn_of h rfl
theorem e__law_numbers_k86b {a0 a1:NV} {Q:EV→List NV→Prop} (h:WS v__law_numbers_k86b [.sh a0,.sh a1,.un,.un,.un,.un,.un,.un,.un,.un,.un,.un] (KF [] Q)):WFn g__law_numbers_k86b [a0,a1] Q:=WFn_of h rfl
theorem e_law_k86b {a0:NV} {Q:EV→List NV→Prop} (h:WS v_law_k86b [.sh a0,.un,.un,.un,.un,.un,.un,.un,.un] (KF [] Q)):WFn g_law_k86b [a0] Q:=WFn_of h rfl
theorem eq_tsv_nil {xs:List Str} (h:∀s∈xs,okName s=true):voEq (.tup (sv xs)) (.tup [])=some (.im (.bl (decide (xs=[])))):=by
  rw [voEq_pl (d:=1) (e:=1) (pl_sv h).2 rfl]
  congr 4
  simp
theorem ne_tsv_nil {xs:List Str} (h:∀s∈xs,okName s=true):voNe (.tup (sv xs)) (.tup [])=some (.im (.bl (!decide (xs=[])))):=by
  rw [voNe_pl (d:=1) (e:=1) (pl_sv h).2 rfl]
  congr 5
  simp
theorem eq_lsv_nil {xs:List Str} (h:∀s∈xs,okName s=true):voEq (.lst (sv xs)) (.lst [])=some (.im (.bl (decide (xs=[])))):=by
  rw [voEq_pl (d:=1) (e:=1) (pl_sv h).1 rfl]
  congr 4
  simp
theorem ne_lsv_nil {xs:List Str} (h:∀s∈xs,okName s=true):voNe (.lst (sv xs)) (.lst [])=some (.im (.bl (!decide (xs=[])))):=by
  rw [voNe_pl (d:=1) (e:=1) (pl_sv h).1 rfl]
  congr 5
  simp
theorem sv_iff {xs ys:List Str}:sv xs=sv ys↔xs=ys:=⟨sv_inj,fun h=>by rw [h]⟩
theorem eq_tsv {xs ys:List Str} (h:∀s∈xs,okName s=true) (k:∀s∈ys,okName s=true):voEq (.tup (sv xs)) (.tup (sv ys))=some (.im (.bl (decide (xs=ys)))):=by
  rw [voEq_pl (d:=1) (e:=1) (pl_sv h).2 (pl_sv k).2]
  congr 4
  simp only [NV.tup.injEq]
  exact propext sv_iff
theorem ne_tsv {xs ys:List Str} (h:∀s∈xs,okName s=true) (k:∀s∈ys,okName s=true):voNe (.tup (sv xs)) (.tup (sv ys))=some (.im (.bl (!decide (xs=ys)))):=by
  rw [voNe_pl (d:=1) (e:=1) (pl_sv h).2 (pl_sv k).2]
  congr 5
  simp only [NV.tup.injEq]
  exact propext sv_iff
theorem sl_tsvI (xs:List Str) {n:Int} (h:0≤n):vsl (.tup (sv xs)) none (some n)=some (.im (.tup (sv (xs.take n.toNat)))):=by
  obtain ⟨m,rfl⟩:=Int.eq_ofNat_of_zero_le h
  exact sl_tsv xs m
theorem sl_fsvI (xs:List Str) {n:Int} (h:0≤n):vsl (.tup (sv xs)) (some n) none=some (.im (.tup (sv (xs.drop n.toNat)))):=by
  obtain ⟨m,rfl⟩:=Int.eq_ofNat_of_zero_le h
  exact sl_fsv xs m
theorem sl_lsv (xs:List Str) {n:Int} (h:0≤n):vsl (.lst (sv xs)) none (some n)=some (.fr (.lst (sv (xs.take n.toNat)))):=by
  obtain ⟨m,rfl⟩:=Int.eq_ofNat_of_zero_le h
  show some (EV.fr (NV.lst (cutP (sv xs) none (some (m:Int)))))=_
  rw [cut_to,sv_take];rfl
theorem tup_lsv (xs:List Str):vfTuple [.lst (sv xs)]=some (.im (.tup (sv xs))):=rfl
theorem list_tsv (xs:List Str):vfList [.tup (sv xs)]=some (.fr (.lst (sv xs))):=rfl
theorem add_lsv {xs ys:List Str} (h:xs.length+ys.length≤1000000):voAdd (.lst (sv xs)) (.lst (sv ys))=some (.fr (.lst (sv (xs++ys)))):=by
  rw [add_lst (by rw [sv_len,sv_len];exact h)];simp
theorem add_lsv1 {xs:List Str} {y:Str} (h:xs.length≤900000):voAdd (.lst (sv xs)) (.lst [.str y])=some (.fr (.lst (sv (xs++[y])))):=by
  rw [add_lst (by rw [sv_len];simp;omega)];simp
theorem add_tsv1 {xs:List Str} {y:Str} (h:xs.length≤900000):voAdd (.tup (sv xs)) (.tup [.str y])=some (.im (.tup (sv (xs++[y])))):=by
  rw [add_tup (Nat.le_trans (show _≤1000000 by rw [sv_len];simp;omega) (by decide))];simp
theorem append_lsv {xs:List Str} {y:Str} (h:xs.length≤1000000):vmAppend (.lst (sv xs)) [.str y]=some (.non,.lst (sv (xs++[y]))):=by
  rw [append_lst (by rw [sv_len];exact h)];simp
theorem extend_lsv {xs ys:List Str} (h:xs.length+ys.length≤1000000):vmExtend (.lst (sv xs)) [.lst (sv ys)]=some (.non,.lst (sv (xs++ys))):=by
  rw [extend_lst (by rw [sv_len,sv_len];exact h)];simp
theorem rev_tsv (xs:List Str):vRev (.tup (sv xs))=some (.im (.tup (sv xs.reverse))):=by
  show some (EV.im (NV.tup (sv xs).reverse))=_
  rw [← List.map_reverse]
theorem rev_lsv (xs:List Str):vRev (.lst (sv xs))=some (.fr (.lst (sv xs.reverse))):=by
  show some (EV.fr (NV.lst (sv xs).reverse))=_
  rw [← List.map_reverse]
theorem max2 (a b:Int):vfMax2 [.int a,.int b]=some (.im (.int (if b > a then b else a))):=rfl
theorem min2 (a b:Int):vfMin2 [.int a,.int b]=some (.im (.int (if b < a then b else a))):=rfl
theorem min2_of {a b c:Int} (h:(if b < a then b else a)=c):vfMin2 [.int a,.int b]=some (.im (.int c)):=by rw [min2,h]
theorem max2_of {a b c:Int} (h:(if b > a then b else a)=c):vfMax2 [.int a,.int b]=some (.im (.int c)):=by rw [max2,h]
theorem int_bl (P:Prop) [Decidable P]:vfInt [.bl (decide P)]=some (.im (.int (if P then 1 else 0))):=by
  show some (EV.im (NV.int (if decide P=true then 1 else 0)))=_
  simp
theorem all_map {α:Type} (f:α→Bool) (xs:List α):vfAll [.lst (xs.map fun x=>.bl (f x))]=some (.im (.bl (xs.all f))):=all_ok f xs
theorem lend_src {k:Nat} {x v:NV} {os:List NV} (h:Src k v) (hx:noref x=true) (ho:os=[v]):lendOk (.im x) os=true:=by
  subst ho
  simp [lendOk,hx,h.noref]
theorem lend_fsrc {k:Nat} {x v:NV} {os:List NV} (h:Src k v) (hx:norefO x=true) (ho:os=[v]):lendOk (.fr x) os=true:=by
  subst ho
  simp [lendOk,hx,h.noref]
/-- a draw,as the walks want it -/
theorem drawW {k:Nat} {v:NV} {n:Int} (h:Src k v) (hk:k≤1000000) (n0:0 < n) (n1:n≤1000000000000):∃x v',g__law_draw [v,.int n]=.ok (.im (.int x),[v'])∧0≤x∧x < n∧Src (k+1) v':=
  draw_ok h (Nat.lt_of_le_of_lt hk (by decide)) n0 (Int.lt_of_le_of_lt n1 (by decide))
theorem pickL {k:Nat} {v:NV} {xs:List NV} (h:Src k v) (hk:k≤1000000) (hx:xs≠[]) (hl:xs.length≤1000000):∃x v',x∈xs∧g__law_pick [v,.lst xs]=.ok (.im x,[v'])∧Src (k+1) v':=
  pick_ok h (Nat.lt_of_le_of_lt hk (by decide)) (.inl rfl) hx (Nat.lt_of_le_of_lt hl (by decide))
/-- a choice out of written numbers -/
theorem pickI {k:Nat} {v:NV} (ns:List Int) (h:Src k v) (hk:k≤1000000) (hx:ns≠[]) (hl:ns.length≤1000000):∃x v',x∈ns∧g__law_pick [v,.lst (ns.map .int)]=.ok (.im (.int x),[v'])∧Src (k+1) v':=by
  obtain ⟨x,v',hm,e,s⟩:=pickL (xs:=ns.map .int) h hk (by simpa using hx) (by simpa using hl)
  obtain ⟨y,hy,rfl⟩:=List.mem_map.mp hm
  exact ⟨y,v',hy,e,s⟩
theorem pickI2 {k:Nat} {v:NV} {a0 a1:Int} (h:Src k v) (hk:k≤1000000):∃x v',(x=a0∨x=a1)∧g__law_pick [v,.lst [.int a0,.int a1]]=.ok (.im (.int x),[v'])∧Src (k+1) v':=by
  obtain ⟨x,v',hm,e,s⟩:=pickI [a0,a1] h hk (by simp) (by simp)
  exact ⟨x,v',by simpa using hm,e,s⟩
theorem vrng_mem {n:Nat} {m:Int} (h:(n:Int)≤m):∀y∈vrng 0 n,∃i:Int,y=.int i∧0≤i∧i < m:=by
  intro y hy
  simp only [vrng,List.mem_map,List.mem_range] at hy
  obtain ⟨a,ha,rfl⟩:=hy
  exact ⟨_,rfl,by omega,by omega⟩
theorem vrng_len {i:Int} {n:Nat}:(vrng i n).length=n:=by simp [vrng]
end Vp
section
local macro_rules | `(tactic| walk_at "up")=>`(tactic| first | (with_reducible exact Vp.Upd.z) | ((with_reducible apply Vp.Upd.s);walk_at "up"))
local macro_rules | `(tactic| walk_at "put")=>`(tactic| first | ((with_reducible apply Vp.Put.s);walk_at "put") | exact Vp.Put.z rfl | exact Vp.Put.z (Vp.Jk_ok _) | exact Vp.Put.z (by with_reducible assumption))
local macro_rules | `(tactic| walk_at "pt")=>`(tactic| first | ((with_reducible apply Vp.Put.vPut);walk_at "put") | ((with_reducible apply Vp.put_tp);walk_at "pts"))
local macro_rules | `(tactic| walk_at "pts")=>`(tactic| first | (with_reducible exact Vp.puts_nil) | ((with_reducible apply Vp.puts_cons);walk_at "pt"; walk_at "pts"))
local macro_rules | `(tactic| walk_at "fz")=>`(tactic| first | (with_reducible exact Vp.frz_im) | (with_reducible exact Vp.frz_fr) | ((with_reducible apply Vp.frz_sh);exact rfl) | ((with_reducible apply Vp.frz_ow);exact rfl;walk_at "up"))
local macro_rules | `(tactic| walk_at "fzs")=>`(tactic| first | (with_reducible exact Vp.frzs_nil) | ((with_reducible apply Vp.frzs_cons);walk_at "fz"; walk_at "fzs"))
local macro_rules | `(tactic| walk_at "gs")=>`(tactic| first | (with_reducible exact Vp.gets_nil) | ((with_reducible apply Vp.gets_cons);exact rfl;walk_at "gs"))
local macro_rules | `(tactic| walk_at "kp")=>`(tactic| first | (with_reducible exact Vp.keep_im) | (with_reducible exact Vp.keep_fr) | ((with_reducible apply Vp.keep_sl);walk_at "fz"))
local macro_rules | `(tactic| walk_at "kps")=>`(tactic| first | (with_reducible exact Vp.keeps_nil) | ((with_reducible apply Vp.keeps_cons);walk_at "kp"; walk_at "kps"))
local macro_rules | `(tactic| walk_at "sets")=>`(tactic| first | (with_reducible exact Vp.sets_nil) | ((with_reducible apply Vp.sets_cons);walk_at "put"; walk_at "sets"))
local macro_rules | `(tactic| walk_at "bn")=>`(tactic| first | (with_reducible exact Vp.bn_t) | (with_reducible exact Vp.bn_f) | (with_reducible exact Vp.bn_nn) | exact rfl)
local macro_rules | `(tactic| walk_at "ar")=>`(tactic| first | omega | (simp only [List.length_map,List.length_append,List.length_cons,List.length_nil,List.length_reverse,List.length_take,List.length_drop];omega) | (simp;omega))
local macro_rules | `(tactic| walk_at "isi")=>`(tactic| first | (with_reducible exact Vp.isi_tt) | (with_reducible exact Vp.isi_ss) | (with_reducible exact Vp.isi_ii) | (with_reducible exact Vp.isi_ib) | (with_reducible exact Vp.isi_is) | (with_reducible exact Vp.isi_it) | (with_reducible exact Vp.isi_si) | (with_reducible exact Vp.isi_st) | (with_reducible exact Vp.isi_ts) | (with_reducible exact Vp.isi_ti) | (with_reducible exact Vp.isi_nt) | (with_reducible exact Vp.isi_ns) | (with_reducible exact Vp.isi_ni))
local macro_rules | `(tactic| walk_at "op")=>`(tactic| first
  | (with_reducible assumption)
  | (with_reducible exact Vp.len_t2) | (with_reducible exact Vp.len_t1) | (with_reducible exact Vp.len_t0) | (with_reducible exact Vp.len_t3) | walk_at "isi"
  | (with_reducible exact Vp.len_tsv _) | (with_reducible exact Vp.len_lsv _) | (with_reducible exact Vp.in_sv _ _) | (with_reducible exact Vp.notIn_sv _ _) | (with_reducible exact Vp.in_lsv _ _) | (with_reducible exact Vp.notIn_lsv _ _)
  | (with_reducible exact Vp.isN_non) | (with_reducible exact Vp.notN_non) | ((with_reducible apply Vp.isN_of);first | exact Vp.tup_ne | exact Vp.lst_ne | exact Vp.int_ne | exact Vp.str_ne | exact Vp.bl_ne) | ((with_reducible apply Vp.notN_of);first | exact Vp.tup_ne | exact Vp.lst_ne | exact Vp.int_ne | exact Vp.str_ne | exact Vp.bl_ne)
  | (with_reducible exact Vp.eq_str_self _) | ((with_reducible apply Vp.eq_str_f);first | (with_reducible assumption) | decide) | ((with_reducible apply Vp.ne_str_t);first | (with_reducible assumption) | decide) | (with_reducible exact Vp.eq_str _ _) | (with_reducible exact Vp.voNe_str _) | (with_reducible exact Vp.eq_int_self _) | (with_reducible exact Vp.ne_int_self _) | ((with_reducible apply Vp.eq_int_f);first | (with_reducible assumption) | decide) | ((with_reducible apply Vp.ne_int_t);first | (with_reducible assumption) | decide) | (with_reducible exact Vp.eq_int _ _) | (with_reducible exact Vp.ne_str _ _) | (with_reducible exact Vp.ne_int _ _)
  | (with_reducible exact Vp.eq_tsv_nil (by assumption)) | (with_reducible exact Vp.ne_tsv_nil (by assumption)) | (with_reducible exact Vp.eq_lsv_nil (by assumption)) | (with_reducible exact Vp.ne_lsv_nil (by assumption)) | (with_reducible exact Vp.eq_tsv (by assumption) (by assumption)) | (with_reducible exact Vp.ne_tsv (by assumption) (by assumption))
  | ((with_reducible apply Vp.add_tsv);walk_at "ar") | ((with_reducible apply Vp.add_lsv);walk_at "ar") | ((with_reducible apply Vp.add_lsv1);walk_at "ar") | ((with_reducible apply Vp.add_tsv1);walk_at "ar") | ((with_reducible apply Vp.append_lsv);walk_at "ar") | ((with_reducible apply Vp.extend_lsv);walk_at "ar") | ((with_reducible apply Vp.add_lst);walk_at "ar") | ((with_reducible apply Vp.append_lst);walk_at "ar") | ((with_reducible apply Vp.extend_lst);walk_at "ar") | ((with_reducible apply Vp.mul_int);omega;omega)
  | (with_reducible exact Vp.sl_tsv _ _) | (with_reducible exact Vp.sl_fsv _ _) | (with_reducible exact Vp.sl_to _ _) | (with_reducible exact Vp.sl_from _ _)
  | ((with_reducible apply Vp.sl_tsvI);omega) | ((with_reducible apply Vp.sl_fsvI);omega) | ((with_reducible apply Vp.sl_lsv);omega)
  | (with_reducible exact Vp.tup_lsv _) | (with_reducible exact Vp.list_tsv _) | (with_reducible exact Vp.rev_tsv _) | (with_reducible exact Vp.rev_lsv _) | (with_reducible exact Vp.int_bl _) | ((with_reducible apply Vp.min2_of);(with_reducible assumption)) | ((with_reducible apply Vp.max2_of);(with_reducible assumption))
  | (with_reducible exact Vp.ix_p0) | (with_reducible exact Vp.ix_p1) | (with_reducible exact Vp.ix_s0) | (with_reducible exact Vp.sl_m1 _) | ((with_reducible apply Vp.sl_toI);omega) | ((with_reducible apply Vp.sl_fromI);omega) | ((with_reducible apply Vp.add_tupW);walk_at "ar") | (with_reducible exact Vp.len_tup _) | (with_reducible exact Vp.len_lst _)
  | (with_reducible exact Vp.ix_sv (by assumption))
  | exact rfl)
local macro_rules | `(tactic| walk_at "es")=>`(tactic| first
  | (with_reducible exact Vp.vNil_ok)
  | ((with_reducible apply Vp.vCons_ok);walk_at "ev"; walk_at "es")
  | ((with_reducible apply Vp.vDfl_go);walk_at "es")
  | ((with_reducible apply Vp.vKw_go);walk_at "es"; walk_at "es"; exact ⟨rfl,rfl⟩;walk_at "sel"))
local macro_rules | `(tactic| walk_at "sel")=>`(tactic| first | (with_reducible exact Vp.SelR.nil) | ((with_reducible apply Vp.SelR.t);exact rfl;walk_at "sel") | ((with_reducible apply Vp.SelR.f);exact rfl;walk_at "sel"))
local macro_rules | `(tactic| walk_at "wb")=>`(tactic| first | (with_reducible exact Vp.wback_nil) | ((with_reducible apply Vp.wback_bo);exact rfl;exact rfl;walk_at "up"; walk_at "wb") | ((with_reducible apply Vp.wback_ow);exact rfl;exact rfl;walk_at "up"; walk_at "wb") | ((with_reducible apply Vp.wback_fr);exact rfl;walk_at "wb"))
local macro_rules | `(tactic| walk_at "ld")=>`(tactic| first | exact Or.inl rfl | exact Or.inr rfl | exact Or.inr (Vp.lend_src (by assumption) rfl rfl) | exact Or.inr (Vp.lend_fsrc (by assumption) rfl rfl) | exact Or.inr (Vp.lend_fsrc (by assumption) (Vp.norefs_sv _) rfl))
local macro_rules | `(tactic| walk_at "fn")=>`(tactic| with_reducible assumption)
local macro_rules | `(tactic| walk_at "ln")=>`(tactic| (simp only [List.length_cons,List.length_nil];decide))
local macro_rules | `(tactic| walk_at "ev")=>`(tactic| first
  | ((with_reducible apply Vp.ev_var);exact rfl)
  | (with_reducible exact Vp.ev_c)
  | ((with_reducible apply Vp.vBin_ok);walk_at "ev"; walk_at "ev"; exact rfl;exact rfl;walk_at "op")
  | ((with_reducible apply Vp.vCallB_ok);walk_at "es"; walk_at "gs"; walk_at "op")
  | ((with_reducible apply Vp.vVal_g);walk_at "ev"; exact rfl)
  | ((with_reducible apply Vp.vTup_g);walk_at "es"; walk_at "fzs"; walk_at "ln")
  | ((with_reducible apply Vp.vLst_g);walk_at "es"; walk_at "fzs"; walk_at "ln")
  | ((with_reducible apply Vp.ev_call);first | (with_reducible assumption) | ((with_reducible apply Vp.vCallL_ok);walk_at "es"; walk_at "gs"; walk_at "fn"; exact rfl;exact rfl;walk_at "wb"; walk_at "ld"))
  | ((with_reducible apply Vp.vMethB_ok);walk_at "ev"; exact rfl;exact rfl;walk_at "es"; exact rfl;walk_at "gs"; walk_at "op")
  | ((with_reducible apply Vp.vMethM_owU);walk_at "ev"; exact rfl;exact rfl;walk_at "es"; walk_at "fzs"; exact rfl;walk_at "op"; walk_at "up")
  | ((with_reducible apply Vp.vMethM_boU);walk_at "ev"; exact rfl;exact rfl;walk_at "es"; walk_at "fzs"; exact rfl;walk_at "op"; walk_at "up")
  | ((with_reducible apply Vp.vSl_go);walk_at "ev"; walk_at "ev"; walk_at "ev"; exact rfl;walk_at "op")
  | (with_reducible exact Vp.vNoEnd_go)
  | ((with_reducible apply Vp.vEnd_go);walk_at "ev"; exact rfl)
  | ((with_reducible apply Vp.ev_un);walk_at "ev"; exact rfl;walk_at "op")
  | (with_reducible assumption)
  | ((with_reducible apply Vp.vNotT_n);walk_at "ev"; walk_at "bn")
  | ((with_reducible apply Vp.vAndT_g);walk_at "ev"; first | (with_reducible exact Vp.AndR.f) | ((with_reducible apply Vp.AndR.t);walk_at "ev") | ((with_reducible apply Vp.AndR.p);(with_reducible assumption);walk_at "ev") | ((with_reducible apply Vp.AndR.n);(with_reducible assumption)) | ((with_reducible apply Vp.AndR.b);walk_at "ev"))
  | ((with_reducible apply Vp.vOrT_g);walk_at "ev"; first | (with_reducible exact Vp.OrR.t) | ((with_reducible apply Vp.OrR.f);walk_at "ev") | ((with_reducible apply Vp.OrR.p);(with_reducible assumption)) | ((with_reducible apply Vp.OrR.n);(with_reducible assumption);walk_at "ev") | ((with_reducible apply Vp.OrR.b);walk_at "ev"))
  | ((with_reducible apply Vp.vIf_g);walk_at "ev"; first | ((with_reducible apply Vp.IfR.t);walk_at "ev") | ((with_reducible apply Vp.IfR.f);walk_at "ev") | ((with_reducible apply Vp.IfR.p);(with_reducible assumption);walk_at "ev") | ((with_reducible apply Vp.IfR.n);(with_reducible assumption);walk_at "ev") | ((with_reducible apply Vp.IfR.i);walk_at "ev"; walk_at "ev") | ((with_reducible apply Vp.IfR.s);walk_at "ev"; walk_at "ev") | ((with_reducible apply Vp.IfR.u);walk_at "ev"; walk_at "ev"))
  | ((with_reducible apply Vp.vNot_go);walk_at "ev"; exact rfl)
  | ((with_reducible apply Vp.vAnd_f);walk_at "ev"; with_reducible exact Vp.get_im)
  | ((with_reducible apply Vp.vAnd_go);walk_at "ev"; (with_reducible exact Vp.get_im);walk_at "ev")
  | ((with_reducible apply Vp.vAnd_b);walk_at "ev"; exact rfl;walk_at "ev")
  | ((with_reducible apply Vp.vOr_t);walk_at "ev"; with_reducible exact Vp.get_im)
  | ((with_reducible apply Vp.vOr_go);walk_at "ev"; (with_reducible exact Vp.get_im);walk_at "ev")
  | ((with_reducible apply Vp.vOr_b);walk_at "ev"; exact rfl;walk_at "ev")
  | ((with_reducible apply Vp.vChain_b);walk_at "ev"; walk_at "ev"; exact rfl;exact rfl;walk_at "op"; walk_at "ev"; exact rfl;walk_at "op")
  | ((with_reducible apply Vp.vCallBK_ok);walk_at "es"; walk_at "es"; walk_at "gs"; walk_at "gs"; walk_at "op")
  | ((with_reducible apply Vp.vi_seq);walk_at "ev"; walk_at "fz"; exact rfl)
  | ((with_reducible apply Vp.vi_enum);walk_at "ev"; walk_at "fz"; exact rfl)
  | ((with_reducible apply Vp.vi_rng1);walk_at "ev"; exact rfl;exact rfl;omega)
  | ((with_reducible apply Vp.vi_rng2);walk_at "ev"; exact rfl;walk_at "ev"; exact rfl;exact rfl;omega;omega)
  | (with_reducible assumption))
local macro_rules | `(tactic| walk_at "sm")=>`(tactic| first
  | ((with_reducible apply Vp.vAsgP_ok);walk_at "ev"; walk_at "kp"; walk_at "put")
  | ((with_reducible apply Vp.vDrop_ok);walk_at "ev")
  | ((with_reducible apply Vp.vAug_ok);exact rfl;walk_at "ev"; exact rfl;walk_at "op"; walk_at "put")
  | ((with_reducible apply Vp.vAsgT_g);walk_at "ev"; walk_at "fz"; walk_at "pt")
  | ((with_reducible apply Vp.vPar_ok);walk_at "es"; walk_at "kps"; walk_at "sets")
  | ((with_reducible apply Vp.vPar3_b);walk_at "es"; exact ⟨rfl,by decide⟩;walk_at "kps"; walk_at "sets"; walk_at "put")
  | ((with_reducible apply Vp.vPar3_c);walk_at "es"; exact rfl;walk_at "kps"; walk_at "sets"; walk_at "put")
  | ((with_reducible apply Vp.vSub_ow);walk_at "ev"; walk_at "ev"; walk_at "ev"; walk_at "fz"; exact rfl;exact rfl;walk_at "op"; walk_at "up")
  | ((with_reducible apply Vp.vSub_bo);walk_at "ev"; walk_at "ev"; walk_at "ev"; walk_at "fz"; exact rfl;exact rfl;walk_at "op"; walk_at "up")
  | (with_reducible assumption))
local macro_rules | `(tactic| walk_at "wp")=>`(tactic| first | (with_reducible exact Vp.WipeR.nil) | ((with_reducible apply Vp.WipeR.cons);walk_at "wp"; walk_at "up"))
local macro_rules | `(tactic| walk_at "bk")=>`(tactic| first | (with_reducible exact Vp.BackR.nil) | ((with_reducible apply Vp.BackR.cons);walk_at "bk"; exact rfl;walk_at "up"))
local macro_rules | `(tactic| walk_at "if")=>`(tactic| first
  | (with_reducible apply Vp.WIf_true) | (with_reducible apply Vp.WIf_false)
  | ((with_reducible apply Vp.WIf_yes);(with_reducible assumption)) | ((with_reducible apply Vp.WIf_no);(with_reducible assumption)) | ((with_reducible apply Vp.WIf_nyes);(with_reducible assumption)) | ((with_reducible apply Vp.WIf_nno);(with_reducible assumption)))
local macro_rules | `(tactic| walk_at "nx")=>`(tactic| first | (with_reducible apply Vp.nx_sq) | (with_reducible apply Vp.nx_lp) | (with_reducible apply Vp.rt_sq) | (with_reducible apply Vp.rt_lp) | (with_reducible apply Vp.bk_lp) | (with_reducible apply Vp.bk_sq) | (with_reducible apply Vp.ct_lp) | (with_reducible apply Vp.ct_sq))
local macro_rules | `(tactic| walk_at "outs")=>`(tactic| first | (with_reducible exact Vp.outs_nil) | ((with_reducible apply Vp.outs_cons);exact rfl;walk_at "outs"))
local macro_rules | `(tactic| walk_at "ret")=>`(tactic| first | (with_reducible exact Vp.ret_im) | (with_reducible exact Vp.ret_fr) | ((with_reducible apply Vp.ret_ow);exact rfl) | ((with_reducible apply Vp.ret_sh);exact rfl))
local macro_rules | `(tactic| walk_at "end")=>`(tactic| first | ((with_reducible apply Vp.rt_kf);walk_at "ret"; walk_at "outs") | ((with_reducible apply Vp.nx_kf);walk_at "outs"))
local macro_rules | `(tactic| walk_at "st")=>`(tactic| first
  | ((with_reducible apply Vp.WS_sq);walk_at "sm")
  | ((with_reducible apply Vp.WS_ifsq);walk_at "ev"; try walk_at "if")
  | ((with_reducible apply Vp.WS_if);walk_at "ev"; try walk_at "if")
  | (with_reducible apply Vp.WS_pass)
  | ((with_reducible apply Vp.WS_rt);walk_at "ev")
  | (with_reducible apply Vp.WS_rtN)
  | (with_reducible apply Vp.WS_bk)
  | ((with_reducible apply Vp.WS_one);walk_at "sm")
  | ((with_reducible apply Vp.WS_seq);walk_at "st")
  | walk_at "nx" | walk_at "end")
local macro_rules | `(tactic| walk_at "go")=>`(tactic| repeat (walk_at "st"))
set_option maxHeartbeats 400000
namespace Vp
open PySem hiding Env
open Sg
open Vg hiding Env
noncomputable
def Rs (d w:Nat) (v:NV):Prop:=rp d v=true∧wt v≤w
theorem rp_mono:∀ {d e:Nat} {v:NV},d≤e→rp d v=true→rp e v=true:=by?
  have key:∀ (n:Nat) (d e:Nat) (v:NV),sizeOf v≤n→d≤e→rp d v=true→rp e v=true:=by
    intro n
    induction n with
    | zero=>intro d e v hs;cases v <;> simp at hs
    | succ n ih=>
      intro d e v hs hde h
      have lst:∀xs:List NV,sizeOf xs≤n→∀d e,d≤e→rps d xs=true→rps e xs=true:=fun xs hx d e hde h=>rps_iff.mpr fun x hm=>ih d e x (by have:=List.sizeOf_lt_of_mem hm;omega) hde (rps_iff.mp h x hm)
      cases v with
      | int i=>simpa [rp] using h
      | str s=>simpa [rp] using h
      | non=>simp [rp]
      | tup xs=>
        cases d with
        | zero=>simp [rp] at h
        | succ d=>
          cases e with
          | zero=>omega
          | succ e=>simp only [rp] at h ⊢;exact lst xs (by simp at hs;omega) d e (by omega) h
      | lst xs=>
        cases d with
        | zero=>simp [rp] at h
        | succ d=>
          cases e with
          | zero=>omega
          | succ e=>simp only [rp] at h ⊢;exact lst xs (by simp at hs;omega) d e (by omega) h
      | _=>simp [rp] at h
  exact fun {d e v} h=>key _ d e v (Nat.le_refl _) h
theorem Rs.mono {d e w x:Nat} {v:NV} (h:Rs d w v) (hd:d≤e) (hw:w≤x):Rs e x v:=⟨rp_mono hd h.1,Nat.le_trans h.2 hw⟩
theorem Rs.int {i:Int} (h:-999999999999≤i∧i≤999999999999):Rs 0 0 (.int i):=⟨by simp only [rp];exact decide_eq_true h,by simp [wt]⟩
theorem Rs.str {s:Str} (h:okName s=true):Rs 0 8 (.str s):=⟨by simp only [rp];exact strOk_of h,by simp only [wt];exact okName_le h⟩
theorem Rs.non:Rs 0 0 .non:=⟨rfl,by simp [wt]⟩
theorem cntOk_of {c l:Nat} (hc:c≤20) (hl:l≤30):cntOk (c:Int) l=true:=by
  unfold cntOk
  exact decide_eq_true (by omega)
theorem gc_call {c l:Nat} (hc:c≤20) (hl:l≤30) (n:Int):gcF [.int c,.int l,.int n]=.ok (.im (.int (gcP c l n)),[]):=by
  simp only [gcF,if_pos (cntOk_of hc hl),Int.toNat_natCast]
theorem cs_call {c l:Nat} (hc:c≤20) (hl:l≤30):csF [.int c,.int l]=.ok (.im (.int (csP c l)),[]):=by
  simp only [csF,if_pos (cntOk_of hc hl),Int.toNat_natCast]
theorem mul_big {a b:Int} (ha:a.natAbs < 2 ^ 1500) (hb:b.natAbs < 2 ^ 1500):voMul (.int a) (.int b)=some (.im (.int (a * b))):=by
  simp only [voMul,if_pos (mulOk_of (a:=1500) (b:=1500) ha hb (by decide))]
theorem vasInts_ints:∀l:List Int,vasInts (l.map .int)=some l
  | []=>rfl
  | x::r=>by simp [vasInts,vasInts_ints r]
theorem sum_ints (l:List Int):vfSum [.lst (l.map .int)]=some (.im (.int l.sum)):=by
  simp [vfSum,vlst,vasInts_ints]
theorem gcP_bd {c l:Nat} (hc:c≤20) (hl:l≤30) (i:Nat):(gcP c l i).natAbs < 2 ^ 1400:=by
  rw [gcP_at]
  by_cases h:dget (tblP c l) i=0
  · rw [h];decide
  · exact (tbl_bnd (by omega) (by omega) (get_mem h)).2
theorem gc_pow {c l:Nat} (i:Nat) (hi:i < 2 * c+l+2):gcP c l i≤(c:Int) ^ l:=by?
  rw [← gc_sum]
  have:∀N,i < N→gcP c l i≤sig N fun j=>gcP c l j:=fun N=>by
    have nn:∀N,0≤sig N fun j=>gcP c l j:=fun N=>by
      induction N with
      | zero=>exact Int.le_refl _
      | succ N ih=>rw [sigS];have:=gc_nonneg (c:=c) (l:=l) N;omega
    induction N with
    | zero=>intro h;omega
    | succ N ih=>
      intro h
      rw [sigS]
      by_cases e:i=N
      · subst e;have:=nn i;omega
      · have:=ih (by omega);have:=gc_nonneg (c:=c) (l:=l) N;omega
  exact this _ hi
end Vp
set_option autoImplicit false
namespace Vp
open PySem hiding Env
open Sg
open Vg hiding Env
noncomputable
abbrev K86:=Nat×Nat×Nat×Bool
noncomputable
def st86 (k:K86) (i:Nat):K86:=(k.1 ||| 2 ^ i,if (k.2.2.2 && decide (k.2.1 < i+1))=true then i+1 else 0,k.2.2.1+(k.2.2.2 && decide (k.2.1 < i+1)).toNat,k.2.2.2 && decide (k.2.1 < i+1))
noncomputable
def S86 (c:Nat):Nat→(K86→Nat)→Nat
  | 0,f=>f (0,0,0,true)
  | t+1,f=>S86 c t fun k=>((List.range c).map fun i=>f (st86 k i)).sum
noncomputable
def R86 (c:Nat):Nat→K86→(K86→Nat)→Nat
  | 0,k,f=>f k
  | m+1,k,f=>((List.range c).map fun i=>R86 c m (st86 k i) f).sum
theorem S_R (c m:Nat) (f:K86→Nat):∀t:Nat,S86 c t (fun k=>R86 c m k f)=R86 c (t+m) (0,0,0,true) f:=by
  intro t
  induction t generalizing m with
  | zero=>rw [Nat.zero_add];rfl
  | succ t ih=>
    show S86 c t (fun k=>R86 c (m+1) k f)=_
    rw [ih (m+1)]
    congr 1
    omega
theorem S_eq (c l:Nat) (f:K86→Nat):S86 c l f=R86 c l (0,0,0,true) f:=S_R c 0 f l
noncomputable
def wantN (c b:Nat):Nat:=((List.range c).filter fun i=>decide (b / 2 ^ i % 2=1)).length
noncomputable
def bl86 (b:Nat):Nat:=((List.range 6).filter fun i=>decide (2 ^ i≤b)).length
noncomputable
def belN (b:Nat):Nat:=((List.range (bl86 b)).filter fun i=>decide (b / 2 ^ i % 2=0)).length
noncomputable
def A86 (b:Nat):Nat:=wantN 6 b
noncomputable
def num86 (c l:Nat) (k:K86):Nat:=l - k.2.2.1+c - wantN c k.1+belN k.1
noncomputable
def fact86 (c b:Nat):Bool:=decide (wantN c b=A86 b) && decide (belN b=bl86 b - A86 b) && decide (A86 b≤bl86 b) && decide (bl86 b≤c) &&
  (((List.range c).map fun i=>(A86 (b ||| 2 ^ i),bl86 (b ||| 2 ^ i),decide (bl86 b < i+1))).isPerm
    (List.replicate (A86 b) (A86 b,bl86 b,false)++(List.replicate (bl86 b - A86 b) (A86 b+1,bl86 b,false)++(List.range (c - bl86 b)).map fun i=>(A86 b+1,bl86 b+i+1,true)))) &&
  (List.range c).all fun i=>decide ((b ||| 2 ^ i) < 2 ^ c)
theorem facts86:∀c,c < 7→∀b,b < 2 ^ c→fact86 c b=true:=by decide +kernel
structure Fc (c b:Nat):Prop where
  w:wantN c b=A86 b
  e:belN b=bl86 b - A86 b
  l:A86 b≤bl86 b
  u:bl86 b≤c
  p:∀g:Nat×Nat×Bool→Nat,((List.range c).map fun i=>g (A86 (b ||| 2 ^ i),bl86 (b ||| 2 ^ i),decide (bl86 b < i+1))).sum=A86 b * g (A86 b,bl86 b,false)+((bl86 b - A86 b) * g (A86 b+1,bl86 b,false)+((List.range (c - bl86 b)).map fun i=>g (A86 b+1,bl86 b+i+1,true)).sum)
  n:∀i,i < c→(b ||| 2 ^ i) < 2 ^ c
theorem sum_rep (n x:Nat):(List.replicate n x).sum=n * x:=by
  induction n with
  | zero=>simp
  | succ n ih=>rw [List.replicate_succ,List.sum_cons,ih,Nat.succ_mul,Nat.add_comm]
theorem fc {c b:Nat} (hc:c≤6) (hb:b < 2 ^ c):Fc c b:=by?
  have h:=facts86 c (by omega) b hb
  unfold fact86 at h
  simp only [Bool.and_eq_true,decide_eq_true_eq,List.all_eq_true,List.mem_range] at h
  obtain ⟨⟨⟨⟨⟨h1,h2⟩,h3⟩,h4⟩,h5⟩,h6⟩:=h
  refine ⟨h1,h2,h3,h4,fun g=>?_,h6⟩
  have p:=List.isPerm_iff.mp h5
  have q:=(p.map g).sum_nat
  rw [List.map_map] at q
  refine q.trans ?_
  rw [List.map_append,List.map_append,List.sum_append,List.sum_append,List.map_replicate,List.map_replicate,sum_rep,sum_rep,List.map_map]
  rfl
noncomputable
def BB86:Nat:=1099511627776
noncomputable
def V86 (c:Nat):Nat→Nat→Nat→Nat
  | 0,a,t=>BB86 ^ (c - a+(t - a))
  | m+1,a,t=>a * V86 c m a t+((t - a) * V86 c m (a+1) t+((List.range (c - t)).map fun i=>V86 c m (a+1) (t+i+1)).sum)
noncomputable
def U86 (c l:Nat):Nat→Nat→Nat→Nat
  | 0,a,t=>BB86 ^ (l - a) * BB86 ^ (c - a+(t - a))
  | m+1,a,t=>BB86 ^ (l - a) * (a * V86 c m a t)+(BB86 ^ (l - a) * ((t - a) * V86 c m (a+1) t)+((List.range (c - t)).map fun i=>U86 c l m (a+1) (t+i+1)).sum)
theorem sum_mul (x:Nat):∀L:List Nat,(L.map fun y=>x * y).sum=x * L.sum
  | []=>by simp
  | y::L=>by simp only [List.map_cons,List.sum_cons,sum_mul x L,Nat.mul_add]
theorem sum_congr {α:Type} {f g:α→Nat}:∀ {L:List α},(∀x∈L,f x=g x)→(L.map f).sum=(L.map g).sum:=fun h=>by rw [List.map_congr_left h]
theorem num_lump {c l b k:Nat} {la:Nat} {s:Bool} (F:Fc c b) (hk:k≤l):num86 c l (b,la,k,s)=(l - k)+(c - A86 b+(bl86 b - A86 b)):=by
  show l - k+c - wantN c b+belN b=_
  have:=F.l
  have:=F.u
  rw [F.w,F.e]
  omega
theorem R_V {c l:Nat} (hc:c≤6):∀ (m b la k:Nat),b < 2 ^ c→k≤l→R86 c m (b,la,k,false) (fun q=>BB86 ^ num86 c l q)=BB86 ^ (l - k) * V86 c m (A86 b) (bl86 b)
  | 0,b,la,k,hb,hk=>by
    show BB86 ^ num86 c l (b,la,k,false)=_
    rw [num_lump (fc hc hb) hk,Nat.pow_add]
    rfl
  | m + 1,b,la,k,hb,hk=>by
    have F:=fc hc hb
    show ((List.range c).map fun i=>R86 c m (b ||| 2 ^ i,0,k+0,false) _).sum=_
    have e:∀i∈List.range c,R86 c m (b ||| 2 ^ i,0,k+0,false) (fun q=>BB86 ^ num86 c l q)=(fun x:Nat×Nat×Bool=>BB86 ^ (l - k) * V86 c m x.1 x.2.1) (A86 (b ||| 2 ^ i),bl86 (b ||| 2 ^ i),decide (bl86 b < i+1)):=fun i hi=>by
      rw [Nat.add_zero,R_V hc m _ 0 k (F.n i (List.mem_range.mp hi)) hk]
    rw [sum_congr e]
    refine (F.p fun x:Nat×Nat×Bool=>BB86 ^ (l - k) * V86 c m x.1 x.2.1).trans ?_
    show A86 b * (BB86 ^ (l - k) * V86 c m (A86 b) (bl86 b))+((bl86 b - A86 b) * (BB86 ^ (l - k) * V86 c m (A86 b+1) (bl86 b))+((List.range (c - bl86 b)).map fun i=>BB86 ^ (l - k) * V86 c m (A86 b+1) (bl86 b+i+1)).sum)=BB86 ^ (l - k) * (A86 b * V86 c m (A86 b) (bl86 b)+((bl86 b - A86 b) * V86 c m (A86 b+1) (bl86 b)+((List.range (c - bl86 b)).map fun i=>V86 c m (A86 b+1) (bl86 b+i+1)).sum))
    have s:((List.range (c - bl86 b)).map fun i=>BB86 ^ (l - k) * V86 c m (A86 b+1) (bl86 b+i+1)).sum=BB86 ^ (l - k) * ((List.range (c - bl86 b)).map fun i=>V86 c m (A86 b+1) (bl86 b+i+1)).sum:=by
      rw [← sum_mul,List.map_map]
      rfl
    rw [s,Nat.mul_add,Nat.mul_add,Nat.mul_left_comm,Nat.mul_left_comm (bl86 b - A86 b)]
theorem R_U {c l:Nat} (hc:c≤6):∀ (m b:Nat),b < 2 ^ c→A86 b+m≤l→R86 c m (b,bl86 b,A86 b,true) (fun q=>BB86 ^ num86 c l q)=U86 c l m (A86 b) (bl86 b)
  | 0,b,hb,hk=>by
    show BB86 ^ num86 c l (b,bl86 b,A86 b,true)=_
    rw [num_lump (fc hc hb) (by omega),Nat.pow_add]
    rfl
  | m + 1,b,hb,hk=>by
    have F:=fc hc hb
    have e:∀i∈List.range c,R86 c m (st86 (b,bl86 b,A86 b,true) i) (fun q=>BB86 ^ num86 c l q)=(fun x:Nat×Nat×Bool=>if x.2.2=true then U86 c l m x.1 x.2.1 else BB86 ^ (l - A86 b) * V86 c m x.1 x.2.1) (A86 (b ||| 2 ^ i),bl86 (b ||| 2 ^ i),decide (bl86 b < i+1)):=fun i hi=>by
      have hb2:=F.n i (List.mem_range.mp hi)
      by_cases z:bl86 b < i+1
      · have q:=asc86 c (by omega) b hb i (List.mem_range.mp hi)
        unfold st86
        simp only [decide_eq_true z,Bool.and_self,if_true,Bool.toNat_true]
        obtain ⟨q1,q2⟩:=q z
        have r:=R_U (l:=l) hc m (b ||| 2 ^ i) hb2 (by omega)
        rw [q1,q2] at r
        rw [q1,q2]
        exact r
      · unfold st86
        simp only [decide_eq_false z,Bool.and_false,Bool.false_eq_true,if_false,Bool.toNat_false,Nat.add_zero]
        exact R_V hc m _ 0 _ hb2 (by omega)
    show ((List.range c).map fun i=>R86 c m (st86 (b,bl86 b,A86 b,true) i) _).sum=_
    rw [sum_congr e]
    refine (F.p fun x:Nat×Nat×Bool=>if x.2.2=true then U86 c l m x.1 x.2.1 else BB86 ^ (l - A86 b) * V86 c m x.1 x.2.1).trans ?_
    show A86 b * (BB86 ^ (l - A86 b) * V86 c m (A86 b) (bl86 b))+((bl86 b - A86 b) * (BB86 ^ (l - A86 b) * V86 c m (A86 b+1) (bl86 b))+((List.range (c - bl86 b)).map fun i=>U86 c l m (A86 b+1) (bl86 b+i+1)).sum)=BB86 ^ (l - A86 b) * (A86 b * V86 c m (A86 b) (bl86 b))+(BB86 ^ (l - A86 b) * ((bl86 b - A86 b) * V86 c m (A86 b+1) (bl86 b))+((List.range (c - bl86 b)).map fun i=>U86 c l m (A86 b+1) (bl86 b+i+1)).sum)
    rw [Nat.mul_left_comm,Nat.mul_left_comm (bl86 b - A86 b)]
where asc86:∀c,c < 7→∀b,b < 2 ^ c→∀i,i < c→(bl86 b < i+1→bl86 (b ||| 2 ^ i)=i+1∧A86 (b ||| 2 ^ i)=A86 b+1):=by decide +kernel
noncomputable
def gt86 (L:List Nat) (i:Nat):Nat:=L.getD i 0
noncomputable
def VT86 (c:Nat):Nat→List Nat
  | 0=>(List.range 64).map fun i=>BB86 ^ (c - i / 8+(i % 8 - i / 8))
  | m+1=>(List.range 64).map fun i=>i / 8 * gt86 (VT86 c m) i+((i % 8 - i / 8) * gt86 (VT86 c m) (i+8)+((List.range (c - i % 8)).map fun j=>gt86 (VT86 c m) ((i / 8+1) * 8+(i % 8+j+1))).sum)
noncomputable
def UT86 (c l:Nat):Nat→List Nat
  | 0=>(List.range 64).map fun i=>BB86 ^ (l - i / 8) * BB86 ^ (c - i / 8+(i % 8 - i / 8))
  | m+1=>(List.range 64).map fun i=>BB86 ^ (l - i / 8) * (i / 8 * gt86 (VT86 c m) i)+(BB86 ^ (l - i / 8) * ((i % 8 - i / 8) * gt86 (VT86 c m) (i+8))+((List.range (c - i % 8)).map fun j=>gt86 (UT86 c l m) ((i / 8+1) * 8+(i % 8+j+1))).sum)
theorem gt_map (f:Nat→Nat) {i:Nat} (h:i < 64):gt86 ((List.range 64).map f) i=f i:=by
  unfold gt86
  rw [List.getD_eq_getElem?_getD,List.getElem?_map,List.getElem?_range h]
  rfl
theorem VT_ok {c:Nat} (hc:c≤6):∀ (m a t:Nat),a≤t→t≤c→gt86 (VT86 c m) (a * 8+t)=V86 c m a t
  | 0,a,t,h1,h2=>by
    have e1:(a * 8+t) / 8=a:=by omega
    have e2:(a * 8+t) % 8=t:=by omega
    show gt86 ((List.range 64).map _) _=_
    rw [gt_map _ (by omega),e1,e2]
    rfl
  | m + 1,a,t,h1,h2=>by
    have e1:(a * 8+t) / 8=a:=by omega
    have e2:(a * 8+t) % 8=t:=by omega
    show gt86 ((List.range 64).map _) _=_
    rw [gt_map _ (by omega),e1,e2,VT_ok hc m a t h1 h2]
    show _=a * V86 c m a t+((t - a) * V86 c m (a+1) t+((List.range (c - t)).map fun i=>V86 c m (a+1) (t+i+1)).sum)
    congr 1
    congr 1
    · by_cases z:a < t
      · rw [show a * 8+t+8=(a+1) * 8+t by omega,VT_ok hc m (a+1) t (by omega) h2]
      · rw [show t - a=0 by omega,Nat.zero_mul,Nat.zero_mul]
    · refine sum_congr fun i hi=>?_
      have:=List.mem_range.mp hi
      exact VT_ok hc m (a+1) (t+i+1) (by omega) (by omega)
theorem UT_ok {c l:Nat} (hc:c≤6):∀ (m a t:Nat),a≤t→t≤c→gt86 (UT86 c l m) (a * 8+t)=U86 c l m a t
  | 0,a,t,h1,h2=>by
    have e1:(a * 8+t) / 8=a:=by omega
    have e2:(a * 8+t) % 8=t:=by omega
    show gt86 ((List.range 64).map _) _=_
    rw [gt_map _ (by omega),e1,e2]
    rfl
  | m + 1,a,t,h1,h2=>by
    have e1:(a * 8+t) / 8=a:=by omega
    have e2:(a * 8+t) % 8=t:=by omega
    show gt86 ((List.range 64).map _) _=_
    rw [gt_map _ (by omega),e1,e2,VT_ok hc m a t h1 h2]
    show _=BB86 ^ (l - a) * (a * V86 c m a t)+(BB86 ^ (l - a) * ((t - a) * V86 c m (a+1) t)+((List.range (c - t)).map fun i=>U86 c l m (a+1) (t+i+1)).sum)
    congr 1
    congr 1
    · by_cases z:a < t
      · rw [show a * 8+t+8=(a+1) * 8+t by omega,VT_ok hc m (a+1) t (by omega) h2]
      · rw [show t - a=0 by omega,Nat.zero_mul,Nat.zero_mul]
    · refine sum_congr fun i hi=>?_
      have:=List.mem_range.mp hi
      exact UT_ok hc m (a+1) (t+i+1) (by omega) (by omega)
noncomputable
def polyP86 (f:Nat→Nat):Nat→Nat
  | 0=>0
  | m+1=>f 0+BB86 * polyP86 (fun n=>f (n+1)) m
noncomputable
def chk86 (c l:Nat):Bool:=Nat.beq (gt86 (UT86 c l l) 0) (polyP86 (fun n=>(gcP c l n).toNat) (2 * c+l+2))
end Vp
set_option autoImplicit false
namespace Vp
open PySem hiding Env
open Sg
open Vg hiding Env
theorem chk86_0:∀l,l < 13→chk86 0 l=true:=by decide +kernel
theorem chk86_1:∀l,l < 13→chk86 1 l=true:=by decide +kernel
theorem chk86_2:∀l,l < 13→chk86 2 l=true:=by decide +kernel
theorem chk86_3:∀l,l < 13→chk86 3 l=true:=by decide +kernel
theorem chk86_4:∀l,l < 13→chk86 4 l=true:=by decide +kernel
theorem chk86_5:∀l,l < 13→chk86 5 l=true:=by decide +kernel
theorem chk86_6:∀l,l < 13→chk86 6 l=true:=by decide +kernel
theorem chk86_all {c l:Nat} (hc:c≤6) (hl:l≤12):chk86 c l=true:=by?
  have:c=0∨c=1∨c=2∨c=3∨c=4∨c=5∨c=6:=by omega
  rcases this with rfl | rfl | rfl | rfl | rfl | rfl | rfl
  · exact chk86_0 l (by omega)
  · exact chk86_1 l (by omega)
  · exact chk86_2 l (by omega)
  · exact chk86_3 l (by omega)
  · exact chk86_4 l (by omega)
  · exact chk86_5 l (by omega)
  · exact chk86_6 l (by omega)
theorem poly_uniq86:∀ {m:Nat} {f g:Nat→Nat},(∀n,n < m→f n < BB86)→(∀n,n < m→g n < BB86)→polyP86 f m=polyP86 g m→∀n,n < m→f n=g n
  | 0,_,_,_,_,_,n,h=>by omega
  | m + 1,f,g,hf,hg,h,n,hn=>by
    simp only [polyP86] at h
    have a:=hf 0 (by omega)
    have b:=hg 0 (by omega)
    have e0:f 0=g 0:=by
      have:=congrArg (· % BB86) h
      simpa [Nat.add_mul_mod_self_left,Nat.mod_eq_of_lt a,Nat.mod_eq_of_lt b] using this
    cases n with
    | zero=>exact e0
    | succ n=>
      have:polyP86 (fun n=>f (n+1)) m=polyP86 (fun n=>g (n+1)) m:=by
        rw [e0] at h
        exact Nat.eq_of_mul_eq_mul_left (by decide) (Nat.add_left_cancel h)
      exact poly_uniq86 (fun k hk=>hf (k+1) (by omega)) (fun k hk=>hg (k+1) (by omega)) this n (by omega)
theorem poly_ind:∀ (m x:Nat),x < m→polyP86 (fun n=>if x=n then 1 else 0) m=BB86 ^ x
  | 0,x,h=>by omega
  | m + 1,0,_=>by
    have z:∀m:Nat,polyP86 (fun n=>if 0=n+1 then 1 else 0) m=0:=by
      intro m
      have:∀m:Nat,polyP86 (fun _=>0) m=0:=by
        intro m
        induction m with
        | zero=>rfl
        | succ m ih=>simp only [polyP86,ih];rfl
      have e:(fun n:Nat=>if 0=n+1 then 1 else 0)=fun _=>0:=funext fun n=>if_neg (by omega)
      rw [e,this]
    simp only [polyP86]
    rw [z m]
    rfl
  | m+1,x+1,h=>by
    simp only [polyP86]
    rw [if_neg (by omega)]
    have e:(fun n:Nat=>if x+1=n+1 then 1 else 0)=fun n=>if x=n then 1 else 0:=funext fun n=>by simp
    rw [e,poly_ind m x (by omega),Nat.pow_succ,Nat.zero_add,Nat.mul_comm]
theorem poly_sum {α:Type} (g:α→Nat→Nat):∀ (m:Nat) (L:List α),polyP86 (fun n=>(L.map fun x=>g x n).sum) m=(L.map fun x=>polyP86 (g x) m).sum:=by?
  have add:∀ (m:Nat) (f g:Nat→Nat),polyP86 (fun n=>f n+g n) m=polyP86 f m+polyP86 g m:=by
    intro m
    induction m with
    | zero=>intros;rfl
    | succ m ih=>
      intro f g
      simp only [polyP86]
      rw [ih (fun n=>f (n+1)) fun n=>g (n+1),Nat.mul_add]
      omega
  intro m L
  induction L with
  | nil=>
    have:∀m:Nat,polyP86 (fun _=>0) m=0:=by
      intro m
      induction m with
      | zero=>rfl
      | succ m ih=>simp only [polyP86,ih];rfl
    exact this m
  | cons x L ih=>
    simp only [List.map_cons,List.sum_cons]
    rw [add m (g x) (fun n=>(L.map fun x=>g x n).sum),ih]
/-- what holds of the states that are met -/
structure In86 (c t:Nat) (k:K86):Prop where
  b:k.1 < 2 ^ c
  k:k.2.2.1≤t
theorem In86.step {c t:Nat} {k:K86} (hc:c≤6) (h:In86 c t k) {i:Nat} (hi:i < c):In86 c (t+1) (st86 k i):=by
  refine ⟨(fc hc h.b).n i hi,?_⟩
  show k.2.2.1+(k.2.2.2 && decide (k.2.1 < i+1)).toNat≤t+1
  have:=h.k
  have:(k.2.2.2 && decide (k.2.1 < i+1)).toNat≤1:=by cases (k.2.2.2 && decide (k.2.1 < i+1)) <;> simp
  omega
theorem R_poly {c l:Nat} (hc:c≤6):∀ (m t:Nat) (k:K86),In86 c t k→t+m≤l→polyP86 (fun n=>R86 c m k fun q=>if num86 c l q=n then 1 else 0) (2 * c+l+2)=R86 c m k fun q=>BB86 ^ num86 c l q
  | 0,t,k,h,hl=>by
    show polyP86 (fun n=>if num86 c l k=n then 1 else 0) _=BB86 ^ num86 c l k
    refine poly_ind _ _ ?_
    obtain ⟨b,la,kp,s⟩:=k
    have hk:=h.k
    have F:=fc hc h.b
    have hk:kp≤t:=hk
    rw [num_lump F (by omega)]
    have:=F.u
    have:=F.l
    show l - kp+(c - A86 b+(bl86 b - A86 b)) < _
    have:bl86 b≤c:=F.u
    omega
  | m+1,t,k,h,hl=>by
    show polyP86 (fun n=>((List.range c).map fun i=>R86 c m (st86 k i) fun q=>if num86 c l q=n then 1 else 0).sum) _=_
    rw [poly_sum (fun i n=>R86 c m (st86 k i) fun q=>if num86 c l q=n then 1 else 0)]
    exact sum_congr fun i hi=>R_poly hc m (t+1) (st86 k i) (h.step hc (List.mem_range.mp hi)) (by omega)
theorem R_le {c:Nat} (f:K86→Nat) (hf:∀q,f q≤1):∀ (m:Nat) (k:K86),R86 c m k f≤c ^ m
  | 0,k=>hf k
  | m + 1,k=>by
    show ((List.range c).map fun i=>R86 c m (st86 k i) f).sum≤_
    have:∀L:List Nat,(L.map fun i=>R86 c m (st86 k i) f).sum≤L.length * c ^ m:=by
      intro L
      induction L with
      | nil=>simp
      | cons x L ih=>
        have:=R_le (c:=c) f hf m (st86 k x)
        simp only [List.map_cons,List.sum_cons,List.length_cons,Nat.succ_mul]
        omega
    have:=this (List.range c)
    rw [List.length_range] at this
    rw [Nat.pow_succ,Nat.mul_comm]
    exact this
theorem pow_lt {c l:Nat} (hc:c≤6) (hl:l≤12):c ^ l < BB86:=by
  have h1:c ^ l≤6 ^ l:=Nat.pow_le_pow_left hc l
  have h2:(6:Nat) ^ l≤6 ^ 12:=Nat.pow_le_pow_right (by omega) hl
  have h3:(6:Nat) ^ 12 < BB86:=by decide
  omega
/-- how many goals cost so many instructions -/
theorem gc86 {c l:Nat} (hc:c≤6) (hl:l≤12) (n:Nat) (hn:n < 2 * c+l+2):gcP c l n=((S86 c l fun q=>if num86 c l q=n then 1 else 0:Nat):Int):=by?
  have ck:=chk86_all hc hl
  unfold chk86 at ck
  have ck:=Nat.eq_of_beq_eq_true ck
  have i0:In86 c 0 (0,0,0,true):=⟨Nat.pos_of_ne_zero (by simp),Nat.le_refl _⟩
  have a0:A86 0=0:=by decide
  have b0:bl86 0=0:=by decide
  have u:=UT_ok (l:=l) hc l 0 0 (by omega) (by omega)
  rw [Nat.zero_mul,Nat.zero_add] at u
  have r:=R_U (l:=l) hc l 0 i0.b (by rw [a0];omega)
  rw [a0,b0] at r
  have p:=R_poly (l:=l) hc l 0 _ i0 (by omega)
  have e:polyP86 (fun n=>R86 c l (0,0,0,true) fun q=>if num86 c l q=n then 1 else 0) (2 * c+l+2)=polyP86 (fun n=>(gcP c l n).toNat) (2 * c+l+2):=by
    rw [p,r,← u,ck]
  have nn:=gc_nonneg (c:=c) (l:=l)
  have q:=poly_uniq86 (fun n hn=>Nat.lt_of_le_of_lt (R_le _ (fun q=>by split <;> omega) l _) (pow_lt hc hl)) (fun n hn=>by
    have h1:=gc_pow (c:=c) (l:=l) n hn
    have h2:=pow_lt hc hl
    have h3:((c:Int) ^ l)=((c ^ l:Nat):Int):=by simp
    have h4:=nn n
    omega) e n hn
  rw [S_eq]
  have:=nn n
  have q:(R86 c l (0,0,0,true) fun q=>if num86 c l q=n then 1 else 0)=(gcP c l n).toNat:=q
  rw [q]
  omega
end Vp
set_option autoImplicit false
namespace Vp
open PySem hiding Env
open Sg
open Vg hiding Env
section
variable {κ:Type} [DecidableEq κ] {e:κ→NV}
noncomputable
def addK (D:List (κ×Nat)) (k:κ) (w:Nat):List (κ×Nat):=match D with
  | []=>[(k,w)]
  | q::D=>if q.1=k then (q.1,q.2+w)::D else q::addK D k w
noncomputable
def getK (D:List (κ×Nat)) (k:κ):Nat:=match D with
  | []=>0
  | q::D=>if q.1=k then q.2 else getK D k
noncomputable
def kvD (e:κ→NV) (D:List (κ×Nat)):List (NV×NV):=D.map fun q=>(e q.1,.int (q.2:Nat))
theorem vput_cons {a v k x:NV} {r:List (NV×NV)}:vdPut ((a,v)::r) k x=if a=k then (a,x)::r.map (fun q=>if q.1=k then (q.1,x) else q) else (a,v)::vdPut r k x:=by
  unfold vdPut
  by_cases h:a=k
  · simp [h]
  · simp only [List.any_cons,decide_eq_false h,Bool.false_or,if_neg h,List.map_cons,List.cons_append]
    split <;> rfl
theorem get_kv (inj:∀a b,e a=e b→a=b) (k:κ):∀D:List (κ×Nat),(vdGet (kvD e D) (e k)).getD (.int 0)=.int (getK D k:Nat)
  | []=>rfl
  | q :: D=>by
    have ih:=get_kv inj k D
    unfold vdGet at ih ⊢
    unfold kvD at ih ⊢
    rw [List.map_cons,List.find?_cons]
    unfold getK
    by_cases h:q.1=k
    · rw [if_pos h]
      simp [h]
    · rw [if_neg h]
      have:decide (e q.1=e k)=false:=decide_eq_false fun z=>h (inj _ _ z)
      simp only [this]
      exact ih
theorem upd_same {x:NV} (inj:∀a b,e a=e b→a=b) {k:κ}:∀ {D:List (κ×Nat)},k∉D.map (·.1)→(kvD e D).map (fun q=>if q.1=e k then (q.1,x) else q)=kvD e D
  | [],_=>rfl
  | q::D,h=>by
    simp only [List.map_cons,List.mem_cons,not_or] at h
    unfold kvD
    rw [List.map_cons,List.map_cons,if_neg (fun z=>h.1 (inj _ _ z).symm)]
    exact congrArg _ (upd_same inj h.2)
theorem put_kv (inj:∀a b,e a=e b→a=b) (k:κ) (w:Nat):∀D:List (κ×Nat),(D.map (·.1)).Nodup→vdPut (kvD e D) (e k) (.int ((getK D k+w:Nat):Int))=kvD e (addK D k w)
  | [],_=>by
    show vdPut [] (e k) _=[(e k,.int (w:Nat))]
    simp [vdPut,getK]
  | q :: D,h=>by
    rw [List.map_cons,List.nodup_cons] at h
    have ih:=put_kv inj k w D h.2
    show vdPut ((e q.1,.int (q.2:Nat))::kvD e D) (e k) _=_
    rw [vput_cons]
    unfold addK getK
    by_cases z:q.1=k
    · subst z
      rw [if_pos rfl,if_pos rfl,if_pos rfl,upd_same inj h.1]
      rfl
    · rw [if_neg (fun y=>z (inj _ _ y)),if_neg z,if_neg z,ih]
      rfl
theorem addK_keys (k:κ) (w:Nat):∀ (D:List (κ×Nat)) (x:κ),x∈(addK D k w).map (·.1)↔x∈D.map (·.1)∨x=k
  | [],x=>by simp [addK]
  | q :: D,x=>by
    unfold addK
    by_cases z:q.1=k
    · rw [if_pos z]
      simp only [List.map_cons,List.mem_cons]
      constructor
      · exact fun h=>.inl h
      · rintro (h | h)
        · exact h
        · exact .inl (h.trans z.symm)
    · rw [if_neg z]
      simp only [List.map_cons,List.mem_cons,addK_keys k w D x,or_assoc]
theorem addK_nd (k:κ) (w:Nat):∀D:List (κ×Nat),(D.map (·.1)).Nodup→((addK D k w).map (·.1)).Nodup
  | [],_=>by simp [addK]
  | q :: D,h=>by
    rw [List.map_cons,List.nodup_cons] at h
    unfold addK
    by_cases z:q.1=k
    · rw [if_pos z,List.map_cons,List.nodup_cons]
      exact h
    · rw [if_neg z,List.map_cons,List.nodup_cons]
      exact ⟨fun y=>((addK_keys k w D q.1).mp y).elim h.1 z,addK_nd k w D h.2⟩
noncomputable
def sumW (f:κ→Nat) (D:List (κ×Nat)):Nat:=(D.map fun q=>q.2 * f q.1).sum
theorem sumW_add (f:κ→Nat) (k:κ) (w:Nat):∀D:List (κ×Nat),sumW f (addK D k w)=sumW f D+w * f k
  | []=>by simp [addK,sumW]
  | q :: D=>by
    have ih:=sumW_add f k w D
    unfold addK
    by_cases z:q.1=k
    · subst z
      rw [if_pos rfl]
      simp only [sumW,List.map_cons,List.sum_cons,Nat.add_mul]
      omega
    · rw [if_neg z]
      simp only [sumW,List.map_cons,List.sum_cons] at ih ⊢
      omega
/-- a run of additions -/
noncomputable
def addL (D:List (κ×Nat)) (ks:List κ) (w:Nat):List (κ×Nat):=ks.foldl (fun D k=>addK D k w) D
theorem addL_nd (w:Nat):∀ (ks:List κ) (D:List (κ×Nat)),(D.map (·.1)).Nodup→((addL D ks w).map (·.1)).Nodup
  | [],D,h=>h
  | k::ks,D,h=>addL_nd w ks _ (addK_nd k w D h)
theorem addL_keys (w:Nat) {P:κ→Prop}:∀ (ks:List κ) (D:List (κ×Nat)),(∀x∈D.map (·.1),P x)→(∀x∈ks,P x)→∀x∈(addL D ks w).map (·.1),P x
  | [],D,h,_=>h
  | k::ks,D,h,hk=>addL_keys w ks _ (fun x hx=>((addK_keys k w D x).mp hx).elim (h x) fun z=>z ▸ hk k (List.mem_cons_self ..)) fun x hx=>hk x (List.mem_cons_of_mem _ hx)
theorem sumW_addL (f:κ→Nat) (w:Nat):∀ (ks:List κ) (D:List (κ×Nat)),sumW f (addL D ks w)=sumW f D+w * (ks.map f).sum
  | [],D=>by simp [addL]
  | k::ks,D=>by
    show sumW f (addL (addK D k w) ks w)=_
    rw [sumW_addL f w ks,sumW_add,List.map_cons,List.sum_cons,Nat.mul_add,Nat.add_assoc]
theorem sumW_no (k:κ):∀D:List (κ×Nat),k∉D.map (·.1)→sumW (fun x=>if x=k then 1 else 0) D=0
  | [],_=>rfl
  | y::E,h=>by
    simp only [List.map_cons,List.mem_cons,not_or] at h
    have e:sumW (fun x=>if x=k then 1 else 0) (y::E)=y.2 * (if y.1=k then 1 else 0)+sumW (fun x=>if x=k then 1 else 0) E:=rfl
    rw [e,if_neg (fun z=>h.1 z.symm),sumW_no k E h.2]
    rfl
theorem getK_sum (k:κ):∀D:List (κ×Nat),(D.map (·.1)).Nodup→getK D k=sumW (fun x=>if x=k then 1 else 0) D
  | [],_=>rfl
  | q :: D,h=>by
    rw [List.map_cons,List.nodup_cons] at h
    have ih:=getK_sum k D h.2
    have e:sumW (fun x=>if x=k then 1 else 0) (q::D)=q.2 * (if q.1=k then 1 else 0)+sumW (fun x=>if x=k then 1 else 0) D:=rfl
    by_cases z:q.1=k
    · have g:getK (q::D) k=q.2:=if_pos z
      rw [g,e,if_pos z,sumW_no k D (by rw [← z];exact h.1)]
      omega
    · have g:getK (q::D) k=getK D k:=if_neg z
      rw [g,e,if_neg z,ih]
      omega
end
noncomputable
def kN86 (k:K86):NV:=.tup [.int (k.1:Nat),.int (k.2.1:Nat),.int (k.2.2.1:Nat),.bl k.2.2.2]
theorem kN_inj:∀a b:K86,kN86 a=kN86 b→a=b:=fun ⟨a1,a2,a3,a4⟩ ⟨b1,b2,b3,b4⟩ h=>by
  simp only [kN86,NV.tup.injEq,List.cons.injEq,NV.int.injEq,NV.bl.injEq,and_true] at h
  obtain ⟨h1,h2,h3,h4⟩:=h
  have:a1=b1:=by omega
  have:a2=b2:=by omega
  have:a3=b3:=by omega
  subst_vars
  rfl
noncomputable
def row86 (c:Nat) (k:K86):List K86:=(List.range c).map (st86 k)
noncomputable
def nx86 (c:Nat) (D E:List (K86×Nat)):List (K86×Nat):=D.foldl (fun E q=>addL E (row86 c q.1) q.2) E
noncomputable
def tal86 (c:Nat):Nat→List (K86×Nat)
  | 0=>[((0,0,0,true),1)]
  | t+1=>nx86 c (tal86 c t) []
theorem nx_nd (c:Nat):∀ (D E:List (K86×Nat)),(E.map (·.1)).Nodup→((nx86 c D E).map (·.1)).Nodup
  | [],E,h=>h
  | q::D,E,h=>nx_nd c D _ (addL_nd q.2 _ E h)
theorem nx_keys (c:Nat) {P:K86→Prop}:∀ (D E:List (K86×Nat)),(∀x∈E.map (·.1),P x)→(∀q∈D,∀x∈row86 c q.1,P x)→∀x∈(nx86 c D E).map (·.1),P x
  | [],E,h,_=>h
  | q::D,E,h,hk=>nx_keys c D _ (addL_keys q.2 _ E h (hk q (List.mem_cons_self ..))) fun q' hq=>hk q' (List.mem_cons_of_mem _ hq)
theorem sumW_nx (c:Nat) (f:K86→Nat):∀ (D E:List (K86×Nat)),sumW f (nx86 c D E)=sumW f E+sumW (fun k=>((row86 c k).map f).sum) D
  | [],E=>rfl
  | q::D,E=>by
    show sumW f (nx86 c D (addL E (row86 c q.1) q.2))=_
    rw [sumW_nx c f D,sumW_addL]
    simp only [sumW,List.map_cons,List.sum_cons]
    omega
structure Bd86 (c t:Nat) (k:K86):Prop where
  i:In86 c t k
  la:k.2.1≤c
theorem Bd86.step {c t:Nat} {k:K86} (hc:c≤6) (h:Bd86 c t k) {i:Nat} (hi:i < c):Bd86 c (t+1) (st86 k i):=⟨h.i.step hc hi,by
  show (if (k.2.2.2 && decide (k.2.1 < i+1))=true then i+1 else 0)≤c
  split <;> omega⟩
theorem tal_bd {c:Nat} (hc:c≤6):∀t:Nat,∀x∈(tal86 c t).map (·.1),Bd86 c t x
  | 0=>fun x hx=>by
    have:x=(0,0,0,true):=by simpa [tal86] using hx
    subst this
    exact ⟨⟨Nat.pos_of_ne_zero (by simp),Nat.le_refl _⟩,Nat.zero_le _⟩
  | t+1=>nx_keys c _ _ (by simp) fun q hq x hx=>by
    obtain ⟨i,hi,rfl⟩:=List.mem_map.mp hx
    exact (tal_bd hc t q.1 (List.mem_map.mpr ⟨q,hq,rfl⟩)).step hc (List.mem_range.mp hi)
theorem tal_sum (c:Nat):∀ (t:Nat) (f:K86→Nat),sumW f (tal86 c t)=S86 c t f
  | 0,f=>by simp [tal86,sumW,S86]
  | t+1,f=>by
    show sumW f (nx86 c (tal86 c t) [])=S86 c t _
    rw [sumW_nx,tal_sum c t]
    show 0+_=_
    rw [Nat.zero_add]
    congr 1
    funext k
    unfold row86
    rw [List.map_map]
    rfl
theorem nd_on {α β:Type} (f:α→β):∀l:List α,(∀x∈l,∀y∈l,f x=f y→x=y)→l.Nodup→(l.map f).Nodup
  | [],_,_=>by simp
  | a::l,h,nd=>by
    rw [List.nodup_cons] at nd
    rw [List.map_cons,List.nodup_cons]
    refine ⟨fun hm=>?_,nd_on f l (fun x hx y hy=>h x (List.mem_cons_of_mem _ hx) y (List.mem_cons_of_mem _ hy)) nd.2⟩
    obtain ⟨b,hb,e⟩:=List.mem_map.mp hm
    exact nd.1 (h a (List.mem_cons_self ..) b (List.mem_cons_of_mem _ hb) e.symm ▸ hb)
noncomputable
def cod86 (k:K86):Nat:=((k.1 * 8+k.2.1) * 16+k.2.2.1) * 2+k.2.2.2.toNat
theorem len86 {c t:Nat} (hc:c≤6) (ht:t≤13) {D:List (K86×Nat)} (nd:(D.map (·.1)).Nodup) (hb:∀x∈D.map (·.1),Bd86 c t x):D.length≤16384:=by?
  have p6:(2:Nat) ^ c≤2 ^ 6:=Nat.pow_le_pow_right (by omega) hc
  have nd2:((D.map (·.1)).map cod86).Nodup:=by
    refine nd_on cod86 _ ?_ nd
    intro x hx y hy h
    have a:=hb x hx
    have b:=hb y hy
    have a1:=a.la
    have a2:=a.i.k
    have b1:=b.la
    have b2:=b.i.k
    obtain ⟨x1,x2,x3,x4⟩:=x
    obtain ⟨y1,y2,y3,y4⟩:=y
    have h:((x1 * 8+x2) * 16+x3) * 2+x4.toNat=((y1 * 8+y2) * 16+y3) * 2+y4.toNat:=h
    have c1:x4.toNat≤1:=by cases x4 <;> simp
    have c2:y4.toNat≤1:=by cases y4 <;> simp
    have a1:x2≤c:=a1
    have b1:y2≤c:=b1
    have a2:x3≤t:=a2
    have b2:y3≤t:=b2
    have e1:x1=y1:=by omega
    have e2:x2=y2:=by omega
    have e3:x3=y3:=by omega
    have e4:x4.toNat=y4.toNat:=by omega
    have e4:x4=y4:=by cases x4 <;> cases y4 <;> simp at e4 ⊢
    rw [e1,e2,e3,e4]
  have sub:∀x∈(D.map (·.1)).map cod86,x∈List.range 16384:=fun x hx=>by
    obtain ⟨k,hk,rfl⟩:=List.mem_map.mp hx
    have a:=hb k hk
    have a1:=a.la
    have a2:=a.i.k
    have a3:=a.i.b
    obtain ⟨x1,x2,x3,x4⟩:=k
    have c1:x4.toNat≤1:=by cases x4 <;> simp
    have a1:x2≤c:=a1
    have a2:x3≤t:=a2
    have a3:x1 < 2 ^ c:=a3
    refine List.mem_range.mpr ?_
    show ((x1 * 8+x2) * 16+x3) * 2+x4.toNat < 16384
    have:x1 < 64:=by omega
    omega
  have:=(List.subset_def.mpr fun {k}=>sub k) |> List.Nodup.length_le_of_subset nd2
  simpa using this
end Vp
set_option autoImplicit false
namespace Vp
open PySem hiding Env
open Sg
open Vg hiding Env
theorem or86:∀b,b < 64→∀i,i < 6→Builtin.bitOr (b:Nat) ((2 ^ i:Nat):Int)=((b ||| 2 ^ i:Nat):Int):=by decide +kernel
theorem sh86 {i:Nat} (hi:i < 6):voShl (.int 1) (.int (i:Nat))=some (.im (.int ((2 ^ i:Nat):Int))):=by
  show (if (0:Int)≤(i:Nat)∧((i:Nat):Int)≤1000000∧(1:Int).natAbs < 2 ^ 64 then some (EV.im (.int (1 * 2 ^ ((i:Nat):Int).toNat))) else none)=_
  rw [if_pos ⟨by omega,by omega,by decide⟩]
  simp
noncomputable
abbrev E86 (z l f t lo b la kp as w at' st ky:Sl):Env:=[z,l,f,t,lo,b,la,kp,as,w,at',st,ky]
section
variable {z l f t:Jk} {D:List (K86×Nat)} {c tt:Nat}
theorem at86 {k:K86} {w i:Nat} {st ky:Jk} {K:KT} (hb:k.1 < 64) (hi:i < 6) (nd:(D.map (·.1)).Nodup) (dl:D.length≤16384)
    (hK:∀st ky:Jk,K.nx (E86 z.1 l.1 f.1 t.1 (.ow (.dct (kvD kN86 (addK D (st86 k i) w)))) (.sh (.int (k.1:Nat))) (.sh (.int (k.2.1:Nat))) (.sh (.int (k.2.2.1:Nat))) (.sh (.bl k.2.2.2)) (.sh (.int (w:Nat))) (.sh (.int (i:Nat))) st.1 ky.1)) :
    WS (vSeq (p__law_tallies_k86b_6) (vSeq (p__law_tallies_k86b_7) (p__law_tallies_k86b_8))) (E86 z.1 l.1 f.1 t.1 (.ow (.dct (kvD kN86 D))) (.sh (.int (k.1:Nat))) (.sh (.int (k.2.1:Nat))) (.sh (.int (k.2.2.1:Nat))) (.sh (.bl k.2.2.2)) (.sh (.int (w:Nat))) (.sh (.int (i:Nat))) st.1 ky.1) K:=by?
  obtain ⟨b,la,kp,as⟩:=k
  have a1:voAdd (.int (i:Nat)) (.int 1)=some (.im (.int ((i+1:Nat):Int))):=rfl
  have g1:voGt (.int ((i+1:Nat):Int)) (.int (la:Nat))=some (.im (.bl (decide (la < i+1)))):=by
    show some (EV.im (.bl (decide _)))=_
    congr 4
    exact propext ⟨fun h=>by omega,fun h=>by omega⟩
  obtain ⟨s,hs⟩:∃s:Bool,(as && decide (la < i+1))=s:=⟨_,rfl⟩
  have sk:st86 (b,la,kp,as) i=(b ||| 2 ^ i,if s=true then i+1 else 0,kp+s.toNat,s):=by
    unfold st86
    simp only [hs]
  have x1:vAnd (vVar 8) (vBin voGt (vBin voAdd (vVar 10) (vC (.int 1))) (vVar 6)) (E86 z.1 l.1 f.1 t.1 (.ow (.dct (kvD kN86 D))) (.sh (.int (b:Nat))) (.sh (.int (la:Nat))) (.sh (.int (kp:Nat))) (.sh (.bl as)) (.sh (.int (w:Nat))) (.sh (.int (i:Nat))) st.1 ky.1)=.ok (.im (.bl s),E86 z.1 l.1 f.1 t.1 (.ow (.dct (kvD kN86 D))) (.sh (.int (b:Nat))) (.sh (.int (la:Nat))) (.sh (.int (kp:Nat))) (.sh (.bl as)) (.sh (.int (w:Nat))) (.sh (.int (i:Nat))) st.1 ky.1):=by
    rw [← hs]
    apply Vp.vAnd_b
    · walk_at "ev"
    · exact rfl
    · walk_at "ev"
  have o1:voShl (.int 1) (.int (i:Nat))=some (.im (.int ((2 ^ i:Nat):Int))):=sh86 hi
  have o2:voOr (.int (b:Nat)) (.int ((2 ^ i:Nat):Int))=some (.im (.int ((b ||| 2 ^ i:Nat):Int))):=by
    show some (EV.im (.int (Builtin.bitOr _ _)))=_
    rw [or86 b hb i hi]
  have ib:vfInt [.bl s]=some (.im (.int (s.toNat:Nat))):=by cases s <;> rfl
  have a2:voAdd (.int (kp:Nat)) (.int (s.toNat:Nat))=some (.im (.int ((kp+s.toNat:Nat):Int))):=rfl
  have x2:vIf (vVal (vVar 11)) (vBin voAdd (vVar 10) (vC (.int 1))) (vC (.int 0)) (E86 z.1 l.1 f.1 t.1 (.ow (.dct (kvD kN86 D))) (.sh (.int (b:Nat))) (.sh (.int (la:Nat))) (.sh (.int (kp:Nat))) (.sh (.bl as)) (.sh (.int (w:Nat))) (.sh (.int (i:Nat))) (.sh (.bl s)) ky.1)=.ok (.im (.int ((if s=true then i+1 else 0:Nat):Int)),E86 z.1 l.1 f.1 t.1 (.ow (.dct (kvD kN86 D))) (.sh (.int (b:Nat))) (.sh (.int (la:Nat))) (.sh (.int (kp:Nat))) (.sh (.bl as)) (.sh (.int (w:Nat))) (.sh (.int (i:Nat))) (.sh (.bl s)) ky.1):=by
    cases s
    · exact Vp.vIf_f (x:=.im (.int 0)) (by walk_at "ev") (by walk_at "ev")
    · exact Vp.vIf_t (x:=.im (.int ((i+1:Nat):Int))) (by walk_at "ev") (by walk_at "ev")
  obtain ⟨q,hq⟩:∃q:K86,st86 (b,la,kp,as) i=q:=⟨_,rfl⟩
  have qn:kN86 q=.tup [.int ((b ||| 2 ^ i:Nat):Int),.int ((if s=true then i+1 else 0:Nat):Int),.int ((kp+s.toNat:Nat):Int),.bl s]:=by
    rw [← hq,sk]
    rfl
  have m:vmGetT (.dct (kvD kN86 D)) [kN86 q,.int 0]=some (.im (.int (getK D q:Nat))):=by
    show (if (vtkOk (kN86 q) && vflat (.int 0))=true then some (EV.im ((vdGet (kvD kN86 D) (kN86 q)).getD (.int 0))) else none)=_
    rw [if_pos (by rfl),get_kv kN_inj]
  have a3:voAdd (.int (getK D q:Nat)) (.int (w:Nat))=some (.im (.int ((getK D q+w:Nat):Int))):=rfl
  have P:vsetT (.dct (kvD kN86 D)) (kN86 q) (.int ((getK D q+w:Nat):Int))=some (.dct (kvD kN86 (addK D q w))):=by
    show (if vtkOk (kN86 q)=true∧(kvD kN86 D).length < LINE then some (NV.dct (vdPut (kvD kN86 D) (kN86 q) _)) else none)=_
    rw [if_pos ⟨rfl,by unfold kvD;rw [List.length_map];simp only [LINE];omega⟩,put_kv kN_inj q w D nd]
  have hK:∀st ky:Jk,K.nx (E86 z.1 l.1 f.1 t.1 (.ow (.dct (kvD kN86 (addK D q w)))) (.sh (.int (b:Nat))) (.sh (.int (la:Nat))) (.sh (.int (kp:Nat))) (.sh (.bl as)) (.sh (.int (w:Nat))) (.sh (.int (i:Nat))) st.1 ky.1):=fun st ky=>by
    rw [← hq]
    exact hK st ky
  rw [qn] at m P
  show WS _ (E86 z.1 l.1 f.1 t.1 (.ow (.dct (kvD kN86 D))) (.sh (.int (b:Nat))) (.sh (.int (la:Nat))) (.sh (.int (kp:Nat))) (.sh (.bl as)) (.sh (.int (w:Nat))) (.sh (.int (i:Nat))) st.1 ky.1) K
  walk_at "st"
  walk_at "st"
  walk_at "go"
  exact hK ⟨.sh (.bl s),rfl⟩ ⟨.sh (.tup [.int ((b ||| 2 ^ i:Nat):Int),.int ((if s=true then i+1 else 0:Nat):Int),.int ((kp+s.toNat:Nat):Int),.bl s]),rfl⟩
theorem vrng_nats (n:Nat):vrng 0 n=(List.range n).map fun i:Nat=>NV.int ((i:Nat):Int):=by
  unfold vrng
  exact List.map_congr_left fun a _=>by rw [Int.zero_add]
/-- one entry: all values behind its rows -/
theorem ent86 {k:K86} {w:Nat} {at' st ky:Jk} {K:KT} (hc:c≤6) (hb:k.1 < 64) (nd:(D.map (·.1)).Nodup) (hl:∀is:List Nat,(∀i∈is,i < c)→(addL D (is.map (st86 k)) w).length≤16384)
    (hK:∀at' st ky:Jk,K.nx (E86 (.sh (.int (c:Nat))) l.1 f.1 t.1 (.ow (.dct (kvD kN86 (addL D (row86 c k) w)))) (.sh (.int (k.1:Nat))) (.sh (.int (k.2.1:Nat))) (.sh (.int (k.2.2.1:Nat))) (.sh (.bl k.2.2.2)) (.sh (.int (w:Nat))) at'.1 st.1 ky.1)) :
    WS (p__law_tallies_k86b_5) (E86 (.sh (.int (c:Nat))) l.1 f.1 t.1 (.ow (.dct (kvD kN86 D))) (.sh (.int (k.1:Nat))) (.sh (.int (k.2.1:Nat))) (.sh (.int (k.2.2.1:Nat))) (.sh (.bl k.2.2.2)) (.sh (.int (w:Nat))) at'.1 st.1 ky.1) K:=by?
  apply WS_for (xs:=(List.range c).map fun i:Nat=>NV.int ((i:Nat):Int)) (fun ys en=>∃ (done todo:List Nat) (at' st ky:Jk),done++todo=List.range c∧ys=todo.map (fun i:Nat=>NV.int ((i:Nat):Int))∧en=E86 (.sh (.int (c:Nat))) l.1 f.1 t.1 (.ow (.dct (kvD kN86 (addL D (done.map (st86 k)) w)))) (.sh (.int (k.1:Nat))) (.sh (.int (k.2.1:Nat))) (.sh (.int (k.2.2.1:Nat))) (.sh (.bl k.2.2.2)) (.sh (.int (w:Nat))) at'.1 st.1 ky.1)
  · rw [← vrng_nats]
    exact Vp.vi_rng1 (j:=(c:Int)) (by walk_at "ev") rfl rfl (by omega)
  · exact ⟨[],List.range c,at',st,ky,rfl,rfl,rfl⟩
  · rintro y ys en ⟨done,todo,at',st,ky,e1,e2,rfl⟩
    cases todo with
    | nil=>cases e2
    | cons i todo=>
      rw [List.map_cons,List.cons.injEq] at e2
      obtain ⟨rfl,rfl⟩:=e2
      have hi:i < c:=List.mem_range.mp (by rw [← e1];simp)
      have hd:∀j∈done,j < c:=fun j hj=>List.mem_range.mp (by rw [← e1];simp [hj])
      refine ⟨_,by walk_at "pt", ?_⟩
      refine at86 (k:=k) (w:=w) (z:=⟨.sh (.int (c:Nat)),rfl⟩) (l:=l) (f:=f) (t:=t) (st:=st) (ky:=ky) hb (by omega) (addL_nd w _ D nd) (hl done hd) fun st ky=>?_
      refine ⟨done++[i],todo,⟨.sh (.int ((i:Nat):Int)),rfl⟩,st,ky,by rw [← e1];simp,rfl,?_⟩
      rw [List.map_append]
      unfold addL
      rw [List.foldl_append]
      rfl
  · rintro en ⟨done,todo,at',st,ky,e1,e2,rfl⟩
    cases todo with
    | cons i todo=>cases e2
    | nil=>
      rw [List.append_nil] at e1
      subst e1
      exact hK at' st ky
/-- one turn: all entries -/
theorem turn86 {D0:List (K86×Nat)} {b la kp as w at' st ky:Jk} {K:KT} (hc:c≤6) (ht:tt+1≤13) (hb:∀x∈D0.map (·.1),Bd86 c tt x)
    (hK:∀b la kp as w at' st ky:Jk,K.nx (E86 (.sh (.int (c:Nat))) l.1 .un t.1 (.ow (.dct (kvD kN86 (nx86 c D0 [])))) b.1 la.1 kp.1 as.1 w.1 at'.1 st.1 ky.1)) :
    WS (p__law_tallies_k86b_4) (E86 (.sh (.int (c:Nat))) l.1 (.ow (.dct (kvD kN86 D0))) t.1 (.ow (.dct [])) b.1 la.1 kp.1 as.1 w.1 at'.1 st.1 ky.1) K:=by?
  have p6:(2:Nat) ^ c≤2 ^ 6:=Nat.pow_le_pow_right (by omega) hc
  apply WS_for (xs:=D0.map fun q=>NV.tup [kN86 q.1,.int (q.2:Nat)]) (fun ys en=>∃ (done todo:List (K86×Nat)) (b la kp as w at' st ky:Jk),done++todo=D0∧ys=todo.map (fun q=>NV.tup [kN86 q.1,.int (q.2:Nat)])∧en=E86 (.sh (.int (c:Nat))) l.1 .un t.1 (.ow (.dct (kvD kN86 (nx86 c done [])))) b.1 la.1 kp.1 as.1 w.1 at'.1 st.1 ky.1) (env1:=E86 (.sh (.int (c:Nat))) l.1 .un t.1 (.ow (.dct [])) b.1 la.1 kp.1 as.1 w.1 at'.1 st.1 ky.1)
  · show R.ok ((kvD kN86 D0).map fun q=>NV.tup [q.1,q.2],_)=_
    unfold kvD
    rw [List.map_map]
    rfl
  · exact ⟨[],D0,b,la,kp,as,w,at',st,ky,rfl,rfl,rfl⟩
  · rintro y ys en ⟨done,todo,b,la,kp,as,w,at',st,ky,e1,e2,rfl⟩
    cases todo with
    | nil=>cases e2
    | cons q todo=>
      rw [List.map_cons,List.cons.injEq] at e2
      obtain ⟨rfl,rfl⟩:=e2
      have hq:Bd86 c tt q.1:=hb q.1 (List.mem_map.mpr ⟨q,by rw [← e1];simp,rfl⟩)
      have nd:=nx_nd c done [] (by simp)
      have kb:∀x∈(nx86 c done []).map (·.1),Bd86 c (tt+1) x:=nx_keys c done [] (by simp) fun q' hq' x hx=>by
        obtain ⟨i,hi,rfl⟩:=List.mem_map.mp hx
        exact (hb q'.1 (List.mem_map.mpr ⟨q',by rw [← e1];simp [hq'],rfl⟩)).step hc (List.mem_range.mp hi)
      refine ⟨E86 (.sh (.int (c:Nat))) l.1 .un t.1 (.ow (.dct (kvD kN86 (nx86 c done [])))) (.sh (.int (q.1.1:Nat))) (.sh (.int (q.1.2.1:Nat))) (.sh (.int (q.1.2.2.1:Nat))) (.sh (.bl q.1.2.2.2)) (.sh (.int (q.2:Nat))) at'.1 st.1 ky.1,(by show vPut _ (.tup [.tup [.int (q.1.1:Nat),.int (q.1.2.1:Nat),.int (q.1.2.2.1:Nat),.bl q.1.2.2.2],.int (q.2:Nat)]) _=_;walk_at "pt"),?_⟩
      refine ent86 (k:=q.1) (w:=q.2) (l:=l) (f:=⟨.un,rfl⟩) (t:=t) (at':=at') (st:=st) (ky:=ky) hc (Nat.lt_of_lt_of_le hq.i.b p6) nd (fun is hi=>?_) fun at' st ky=>?_
      · exact len86 (t:=tt+1) hc ht (addL_nd q.2 (is.map (st86 q.1)) _ nd) (addL_keys q.2 _ _ kb fun x hx=>by
          obtain ⟨i,hi',rfl⟩:=List.mem_map.mp hx
          exact hq.step hc (hi i hi'))
      · refine ⟨done++[q],todo,⟨.sh (.int (q.1.1:Nat)),rfl⟩,⟨.sh (.int (q.1.2.1:Nat)),rfl⟩,⟨.sh (.int (q.1.2.2.1:Nat)),rfl⟩,⟨.sh (.bl q.1.2.2.2),rfl⟩,⟨.sh (.int (q.2:Nat)),rfl⟩,at',st,ky,by rw [← e1];simp,rfl,?_⟩
        unfold nx86
        rw [List.foldl_append]
        rfl
  · rintro en ⟨done,todo,b,la,kp,as,w,at',st,ky,e1,e2,rfl⟩
    cases todo with
    | cons i todo=>cases e2
    | nil=>
      rw [List.append_nil] at e1
      subst e1
      exact hK b la kp as w at' st ky
end
end Vp
set_option autoImplicit false
namespace Vp
open PySem hiding Env
open Sg
open Vg hiding Env
theorem tallies86 {c l:Nat} (hc:c≤6) (hl:l≤12):g__law_tallies_k86b [.int (c:Nat),.int (l:Nat)]=.ok (.fr (.dct (kvD kN86 (tal86 c l))),[]):=by?
  apply WFn.eq
  apply e__law_tallies_k86b
  apply WS_seq
  refine WS_eq (f:=.nx) (e:=E86 (.sh (.int (c:Nat))) (.sh (.int (l:Nat))) (.ow (.dct (kvD kN86 (tal86 c 0)))) .un .un .un .un .un .un .un .un .un .un) (by kernel_rfl) ?_
  show WS (vSeq (p__law_tallies_k86b_2) (vRet (vVar 2))) _ _
  apply WS_forsq (xs:=(List.range l).map fun i:Nat=>NV.int ((i:Nat):Int)) (fun ys en=>∃ (n:Nat) (t b la kp as w at' st ky:Jk),n+ys.length=l∧en=E86 (.sh (.int (c:Nat))) (.sh (.int (l:Nat))) (.ow (.dct (kvD kN86 (tal86 c n)))) t.1 .un b.1 la.1 kp.1 as.1 w.1 at'.1 st.1 ky.1)
  · rw [← vrng_nats]
    exact Vp.vi_rng1 (j:=(l:Int)) (by walk_at "ev") rfl rfl (by omega)
  · exact ⟨0,⟨.un,rfl⟩,⟨.un,rfl⟩,⟨.un,rfl⟩,⟨.un,rfl⟩,⟨.un,rfl⟩,⟨.un,rfl⟩,⟨.un,rfl⟩,⟨.un,rfl⟩,⟨.un,rfl⟩,by simp,rfl⟩
  · rintro y ys en ⟨n,t,b,la,kp,as,w,at',st,ky,e,rfl⟩
    simp only [List.length_cons] at e
    refine ⟨_,by walk_at "pt", ?_⟩
    apply WS_seq
    refine WS_eq (f:=.nx) (e:=E86 (.sh (.int (c:Nat))) (.sh (.int (l:Nat))) (.ow (.dct (kvD kN86 (tal86 c n)))) (.sh y) (.ow (.dct [])) b.1 la.1 kp.1 as.1 w.1 at'.1 st.1 ky.1) (by rfl) ?_
    show WS (vSeq (p__law_tallies_k86b_4) (vMove 4 2)) _ _
    apply WS_seq
    refine turn86 (t:=⟨.sh y,rfl⟩) (l:=⟨.sh (.int (l:Nat)),rfl⟩) hc (by omega) (tal_bd hc n) fun b la kp as w at' st ky=>?_
    show WS (vMove 4 2) _ _
    refine WS_eq (vMove_ok (v:=.dct (kvD kN86 (nx86 c (tal86 c n) []))) rfl ⟨by decide,by show (2:Nat) < 13;omega,rfl⟩ rfl) ?_
    exact ⟨n+1,⟨.sh y,rfl⟩,b,la,kp,as,w,at',st,ky,by omega,rfl⟩
  · rintro en ⟨n,t,b,la,kp,as,w,at',st,ky,e,rfl⟩
    obtain rfl:n=l:=by simpa using e
    walk_at "go"
    exact ⟨rfl,rfl⟩
noncomputable
def iN86 (n:Nat):NV:=.int (n:Nat)
theorem iN_inj:∀a b:Nat,iN86 a=iN86 b→a=b:=fun a b h=>by
  have:=NV.int.inj h
  omega
theorem bits86:∀b,b < 64→(Builtin.Int.intBits (b:Nat):Nat)=bl86 b:=by decide +kernel
noncomputable
abbrev N86 (z l d b la kp as w wa at' be nu:Sl):Env:=[z,l,d,b,la,kp,as,w,wa,at',be,nu]
theorem shr86 (b i:Nat):voShr (.int (b:Nat)) (.int (i:Nat))=some (.im (.int ((b / 2 ^ i:Nat):Int))):=by
  show (if (0:Int)≤(i:Nat) then some (EV.im (.int (((b:Nat):Int) / 2 ^ ((i:Nat):Int).toNat))) else none)=_
  rw [if_pos (by omega)]
  simp
theorem and86 (n:Nat):voAnd1 (.int (n:Nat)) (.int 1)=some (.im (.int ((n % 2:Nat):Int))):=by
  show (if (0:Int)≤(n:Nat)∧(1:Int)=1 then some (EV.im (.int (((n:Nat):Int) % 2))) else none)=_
  rw [if_pos ⟨by omega,rfl⟩]
  simp
noncomputable
def bitF (b r:Nat):NV→Bool
  | .int i=>decide (b / 2 ^ i.toNat % 2=r)
  | _=>false
theorem bitF_len (b r n:Nat):(((List.range n).map fun i:Nat=>NV.int ((i:Nat):Int)).filter (bitF b r)).length=((List.range n).filter fun i=>decide (b / 2 ^ i % 2=r)).length:=by
  rw [List.filter_map,List.length_map]
  rfl
section
variable {z l d b la kp as w wa at' be nu:Jk}
theorem bitC {bb r n:Nat} {it:VI} {l d la kp as w wa be nu:Sl} {zz:Sl} {at':Jk} (hn:n≤64) (hi:it (N86 zz l d (.sh (.int (bb:Nat))) la kp as w wa at'.1 be nu)=.ok (vrng 0 n,N86 zz l d (.sh (.int (bb:Nat))) la kp as w wa at'.1 be nu)) :
    vCallB vfLenA (vCons (vLc it (.nm 9) (vVal (vBin voEq (vBin voAnd1 (vBin voShr (vVar 3) (vVar 9)) (vC (.int 1))) (vC (.int (r:Nat))))) (vVar 9) [9]) (vNil)) (N86 zz l d (.sh (.int (bb:Nat))) la kp as w wa at'.1 be nu)=.ok (.im (.int (((List.range n).filter fun i=>decide (bb / 2 ^ i % 2=r)).length:Nat)),N86 zz l d (.sh (.int (bb:Nat))) la kp as w wa at'.1 be nu):=by?
  have q:=lc_pure (it:=it) (g:=.nm 9) (t:=vVal (vBin voEq (vBin voAnd1 (vBin voShr (vVar 3) (vVar 9)) (vC (.int 1))) (vC (.int (r:Nat))))) (e:=vVar 9) (vs:=[9]) (env:=N86 zz l d (.sh (.int (bb:Nat))) la kp as w wa at'.1 be nu) (xs:=vrng 0 n) (bitF bb r) id hi (by rw [vrng_nats,List.length_map,List.length_range];omega) (by walk_at "wp") (by
    intro x hx
    rw [vrng_nats] at hx
    obtain ⟨i,hi,rfl⟩:=List.mem_map.mp hx
    have s1:=shr86 bb i
    have s2:=and86 (bb / 2 ^ i)
    have s3:voEq (.int ((bb / 2 ^ i % 2:Nat):Int)) (.int (r:Nat))=some (.im (.bl (bitF bb r (.int ((i:Nat):Int))))):=by
      rw [eq_int]
      show some (EV.im (.bl (decide _)))=some (EV.im (.bl (decide _)))
      congr 4
      exact propext ⟨fun h=>by
        show bb / 2 ^ ((i:Nat):Int).toNat % 2=r
        rw [Int.toNat_natCast]
        omega,fun h=>by
        have h:bb / 2 ^ ((i:Nat):Int).toNat % 2=r:=h
        rw [Int.toNat_natCast] at h
        omega⟩
    exact ⟨_,by walk_at "pt", by walk_at "ev", by walk_at "wp", fun _=>⟨_,by walk_at "ev", rfl⟩⟩)
  have ln:vfLenA [.lst (((vrng 0 n).filter (bitF bb r)).map id)]=some (.im (.int (((List.range n).filter fun i=>decide (bb / 2 ^ i % 2=r)).length:Nat))):=by
    show some (EV.im (.int ((((vrng 0 n).filter (bitF bb r)).map id).length:Nat)))=_
    rw [List.map_id,vrng_nats,bitF_len]
  walk_at "ev"
theorem ent86N {c ll:Nat} {N:List (Nat×Nat)} {k:K86} {w:Nat} {wa be nu:Jk} {K:KT} (hc:c≤6) (hl:ll≤12) (hb:Bd86 c ll k) (nd:(N.map (·.1)).Nodup) (dl:N.length≤1000)
    (hK:∀wa be nu:Jk,K.nx (N86 (.sh (.int (c:Nat))) (.sh (.int (ll:Nat))) (.ow (.dic (kvD iN86 (addK N (num86 c ll k) w)))) (.sh (.int (k.1:Nat))) (.sh (.int (k.2.1:Nat))) (.sh (.int (k.2.2.1:Nat))) (.sh (.bl k.2.2.2)) (.sh (.int (w:Nat))) wa.1 at'.1 be.1 nu.1)) :
    WS (vSeq (p__law_numbers_k86b_3) (vSeq (p__law_numbers_k86b_4) (vSeq (p__law_numbers_k86b_5) (p__law_numbers_k86b_6)))) (N86 (.sh (.int (c:Nat))) (.sh (.int (ll:Nat))) (.ow (.dic (kvD iN86 N))) (.sh (.int (k.1:Nat))) (.sh (.int (k.2.1:Nat))) (.sh (.int (k.2.2.1:Nat))) (.sh (.bl k.2.2.2)) (.sh (.int (w:Nat))) wa.1 at'.1 be.1 nu.1) K:=by?
  have p6:(2:Nat) ^ c≤2 ^ 6:=Nat.pow_le_pow_right (by omega) hc
  have F:=fc hc hb.i.b
  have b64:k.1 < 64:=Nat.lt_of_lt_of_le hb.i.b p6
  have hk:=hb.i.k
  have fu:=F.u
  have fl:=F.l
  obtain ⟨W,hW⟩:∃W,wantN c k.1=W:=⟨_,rfl⟩
  obtain ⟨B,hB⟩:∃B,belN k.1=B:=⟨_,rfl⟩
  have Wc:W≤c:=by rw [← hW,F.w];omega
  have c1:=fun (d:Sl) (wa be nu:Sl)=>bitC (bb:=k.1) (r:=1) (n:=c) (it:=viRng1 (vVar 0)) (l:=.sh (.int (ll:Nat))) (d:=d) (la:=.sh (.int (k.2.1:Nat))) (kp:=.sh (.int (k.2.2.1:Nat))) (as:=.sh (.bl k.2.2.2)) (w:=.sh (.int (w:Nat))) (wa:=wa) (be:=be) (nu:=nu) (zz:=.sh (.int (c:Nat))) (at':=at') (by omega) (Vp.vi_rng1 (j:=(c:Int)) (by walk_at "ev") rfl rfl (by omega))
  have bu:vuBits (.int (k.1:Nat))=some (.im (.int (bl86 k.1:Nat))):=by
    show some (EV.im (.int (Builtin.Int.intBits _:Nat)))=_
    rw [bits86 _ b64]
  have c2:=fun (d:Sl) (wa be nu:Sl)=>bitC (bb:=k.1) (r:=0) (n:=bl86 k.1) (it:=viRng1 (vUn vuBits (vVar 3))) (l:=.sh (.int (ll:Nat))) (d:=d) (la:=.sh (.int (k.2.1:Nat))) (kp:=.sh (.int (k.2.2.1:Nat))) (as:=.sh (.bl k.2.2.2)) (w:=.sh (.int (w:Nat))) (wa:=wa) (be:=be) (nu:=nu) (zz:=.sh (.int (c:Nat))) (at':=at') (by omega) (Vp.vi_rng1 (j:=(bl86 k.1:Int)) (by walk_at "ev") rfl rfl (by omega))
  have c1:=c1 (.ow (.dic (kvD iN86 N))) wa.1 be.1 nu.1
  rw [show ((List.range c).filter fun i=>decide (k.1 / 2 ^ i % 2=1)).length=W from hW] at c1
  have c1:vCallB vfLenA (vCons (vLc (viRng1 (vVar 0)) (.nm 9) (vVal (vBin voEq (vBin voAnd1 (vBin voShr (vVar 3) (vVar 9)) (vC (.int 1))) (vC (.int 1)))) (vVar 9) [9]) (vNil)) (N86 (.sh (.int (c:Nat))) (.sh (.int (ll:Nat))) (.ow (.dic (kvD iN86 N))) (.sh (.int (k.1:Nat))) (.sh (.int (k.2.1:Nat))) (.sh (.int (k.2.2.1:Nat))) (.sh (.bl k.2.2.2)) (.sh (.int (w:Nat))) wa.1 at'.1 be.1 nu.1)=.ok (.im (.int (W:Nat)),N86 (.sh (.int (c:Nat))) (.sh (.int (ll:Nat))) (.ow (.dic (kvD iN86 N))) (.sh (.int (k.1:Nat))) (.sh (.int (k.2.1:Nat))) (.sh (.int (k.2.2.1:Nat))) (.sh (.bl k.2.2.2)) (.sh (.int (w:Nat))) wa.1 at'.1 be.1 nu.1):=c1
  have c2:=c2 (.ow (.dic (kvD iN86 N))) (.sh (.int (W:Nat))) be.1 nu.1
  rw [show ((List.range (bl86 k.1)).filter fun i=>decide (k.1 / 2 ^ i % 2=0)).length=B from hB] at c2
  have c2:vCallB vfLenA (vCons (vLc (viRng1 (vUn vuBits (vVar 3))) (.nm 9) (vVal (vBin voEq (vBin voAnd1 (vBin voShr (vVar 3) (vVar 9)) (vC (.int 1))) (vC (.int 0)))) (vVar 9) [9]) (vNil)) (N86 (.sh (.int (c:Nat))) (.sh (.int (ll:Nat))) (.ow (.dic (kvD iN86 N))) (.sh (.int (k.1:Nat))) (.sh (.int (k.2.1:Nat))) (.sh (.int (k.2.2.1:Nat))) (.sh (.bl k.2.2.2)) (.sh (.int (w:Nat))) (.sh (.int (W:Nat))) at'.1 be.1 nu.1)=.ok (.im (.int (B:Nat)),N86 (.sh (.int (c:Nat))) (.sh (.int (ll:Nat))) (.ow (.dic (kvD iN86 N))) (.sh (.int (k.1:Nat))) (.sh (.int (k.2.1:Nat))) (.sh (.int (k.2.2.1:Nat))) (.sh (.bl k.2.2.2)) (.sh (.int (w:Nat))) (.sh (.int (W:Nat))) at'.1 be.1 nu.1):=c2
  have nm:num86 c ll k=ll - k.2.2.1+c - W+B:=by
    unfold num86
    rw [hW,hB]
  have a1:voSub (.int (ll:Nat)) (.int (k.2.2.1:Nat))=some (.im (.int ((ll - k.2.2.1:Nat):Int))):=by
    have e:((ll:Nat):Int) - (k.2.2.1:Nat)=((ll - k.2.2.1:Nat):Int):=by omega
    show some (EV.im (.int (((ll:Nat):Int) - (k.2.2.1:Nat))))=_
    rw [e]
  have a2:voAdd (.int ((ll - k.2.2.1:Nat):Int)) (.int (c:Nat))=some (.im (.int ((ll - k.2.2.1+c:Nat):Int))):=rfl
  have a3:voSub (.int ((ll - k.2.2.1+c:Nat):Int)) (.int (W:Nat))=some (.im (.int ((ll - k.2.2.1+c - W:Nat):Int))):=by
    have e:((ll - k.2.2.1+c:Nat):Int) - (W:Nat)=((ll - k.2.2.1+c - W:Nat):Int):=by omega
    show some (EV.im (.int (((ll - k.2.2.1+c:Nat):Int) - (W:Nat))))=_
    rw [e]
  have a4:voAdd (.int ((ll - k.2.2.1+c - W:Nat):Int)) (.int (B:Nat))=some (.im (.int (num86 c ll k:Nat))):=by
    rw [nm]
    rfl
  generalize num86 c ll k=q at *
  have m:vmGet (.dic (kvD iN86 N)) [.int (q:Nat),.int 0]=some (.im (.int (getK N q:Nat))):=by
    show (if (vkeyOk (iN86 q) && vflat (.int 0))=true then some (EV.im ((vdGet (kvD iN86 N) (iN86 q)).getD (.int 0))) else none)=_
    rw [if_pos (by rfl),get_kv iN_inj]
  have a5:voAdd (.int (getK N q:Nat)) (.int (w:Nat))=some (.im (.int ((getK N q+w:Nat):Int))):=rfl
  have P:vset (.dic (kvD iN86 N)) (.int (q:Nat)) (.int ((getK N q+w:Nat):Int))=some (.dic (kvD iN86 (addK N q w))):=by
    show (if vkeyOk (iN86 q)=true∧(kvD iN86 N).length < LINE then some (NV.dic (vdPut (kvD iN86 N) (iN86 q) _)) else none)=_
    rw [if_pos ⟨rfl,by unfold kvD;rw [List.length_map];simp only [LINE];omega⟩,put_kv iN_inj q w N nd]
  walk_at "st"
  walk_at "st"
  walk_at "st"
  walk_at "go"
  exact hK ⟨.sh (.int (W:Nat)),rfl⟩ ⟨.sh (.int (B:Nat)),rfl⟩ ⟨.sh (.int (q:Nat)),rfl⟩
end
end Vp
set_option autoImplicit false
namespace Vp
open PySem hiding Env
open Sg
open Vg hiding Env
noncomputable
def numL (c l:Nat) (D:List (K86×Nat)) (N:List (Nat×Nat)):List (Nat×Nat):=D.foldl (fun N q=>addK N (num86 c l q.1) q.2) N
theorem numL_nd (c l:Nat):∀ (D:List (K86×Nat)) (N:List (Nat×Nat)),(N.map (·.1)).Nodup→((numL c l D N).map (·.1)).Nodup
  | [],N,h=>h
  | q::D,N,h=>numL_nd c l D _ (addK_nd _ _ N h)
theorem numL_keys (c l:Nat) {P:Nat→Prop}:∀ (D:List (K86×Nat)) (N:List (Nat×Nat)),(∀x∈N.map (·.1),P x)→(∀q∈D,P (num86 c l q.1))→∀x∈(numL c l D N).map (·.1),P x
  | [],N,h,_=>h
  | q::D,N,h,hk=>numL_keys c l D _ (fun x hx=>((addK_keys _ _ N x).mp hx).elim (h x) fun z=>z ▸ hk q (List.mem_cons_self ..)) fun q' hq=>hk q' (List.mem_cons_of_mem _ hq)
theorem numL_sum (c l:Nat) (f:Nat→Nat):∀ (D:List (K86×Nat)) (N:List (Nat×Nat)),sumW f (numL c l D N)=sumW f N+sumW (fun k=>f (num86 c l k)) D
  | [],N=>rfl
  | q::D,N=>by
    show sumW f (numL c l D (addK N (num86 c l q.1) q.2))=_
    rw [numL_sum c l f D,sumW_add]
    simp only [sumW,List.map_cons,List.sum_cons]
    omega
theorem num_lt {c l:Nat} {k:K86} (hc:c≤6) (h:Bd86 c l k):num86 c l k < 2 * c+l+2:=by
  have F:=fc hc h.i.b
  have a:=F.u
  have b:=F.l
  have d:=h.i.k
  unfold num86
  rw [F.w,F.e]
  omega
noncomputable
def nums86 (c l:Nat):List (Nat×Nat):=numL c l (tal86 c l) []
theorem nums_nd (c l:Nat):((nums86 c l).map (·.1)).Nodup:=numL_nd c l _ _ (by simp)
theorem nums_key {c l:Nat} (hc:c≤6):∀x∈(nums86 c l).map (·.1),x < 2 * c+l+2:=numL_keys c l _ _ (by simp) fun q hq=>num_lt hc (tal_bd hc l q.1 (List.mem_map.mpr ⟨q,hq,rfl⟩))
theorem short_len {m:Nat} {N:List (Nat×Nat)} (nd:(N.map (·.1)).Nodup) (h:∀x∈N.map (·.1),x < m):N.length≤m:=by
  have:=(List.subset_def.mpr fun {k} hk=>List.mem_range.mpr (h k hk)) |> List.Nodup.length_le_of_subset nd
  simpa using this
theorem nums_get {c l:Nat} (hc:c≤6) (hl:l≤12) (n:Nat) (hn:n < 2 * c+l+2):gcP c l n=(getK (nums86 c l) n:Nat):=by
  rw [gc86 hc hl n hn,getK_sum n _ (nums_nd c l),nums86,numL_sum,tal_sum]
  show _=((0+S86 c l (fun k=>if num86 c l k=n then 1 else 0):Nat):Int)
  rw [Nat.zero_add]
theorem sum_pick (f:Nat→Nat) (k w:Nat):∀m:Nat,k < m→((List.range m).map fun n=>(if k=n then w else 0) * f n).sum=w * f k:=by?
  have no:∀m:Nat,m≤k→((List.range m).map fun n=>(if k=n then w else 0) * f n).sum=0:=by
    intro m
    induction m with
    | zero=>intros;rfl
    | succ m ih=>
      intro h
      rw [List.range_succ,List.map_append,List.sum_append,ih (by omega)]
      simp only [List.map_cons,List.map_nil,List.sum_cons,List.sum_nil]
      rw [if_neg (by omega)]
      omega
  intro m
  induction m with
  | zero=>intro h;omega
  | succ m ih=>
    intro h
    rw [List.range_succ,List.map_append,List.sum_append]
    simp only [List.map_cons,List.map_nil,List.sum_cons,List.sum_nil]
    by_cases z:k=m
    · subst z
      rw [no k (Nat.le_refl _),if_pos rfl]
      omega
    · rw [ih (by omega),if_neg z]
      omega
theorem getK_no (k:Nat):∀N:List (Nat×Nat),k∉N.map (·.1)→getK N k=0
  | [],_=>rfl
  | q::N,h=>by
    simp only [List.map_cons,List.mem_cons,not_or] at h
    have:getK (q::N) k=getK N k:=if_neg fun z=>h.1 z.symm
    rw [this,getK_no k N h.2]
theorem sum_range (f:Nat→Nat) (m:Nat):∀N:List (Nat×Nat),(N.map (·.1)).Nodup→(∀x∈N.map (·.1),x < m)→sumW f N=((List.range m).map fun n=>getK N n * f n).sum
  | [], _,_=>by
    have:∀L:List Nat,(L.map fun n=>getK ([]:List (Nat×Nat)) n * f n).sum=0:=by
      intro L
      induction L with
      | nil=>rfl
      | cons x L ih=>
        rw [List.map_cons,List.sum_cons,ih]
        show 0 * f x+0=0
        omega
    rw [this]
    rfl
  | q :: N,h,hm=>by
    rw [List.map_cons,List.nodup_cons] at h
    have ih:=sum_range f m N h.2 fun x hx=>hm x (by rw [List.map_cons];exact List.mem_cons_of_mem _ hx)
    have e:sumW f (q::N)=q.2 * f q.1+sumW f N:=rfl
    have p:=sum_pick f q.1 q.2 m (hm q.1 (by rw [List.map_cons];exact List.mem_cons_self ..))
    have g:∀n,getK (q::N) n * f n=(if q.1=n then q.2 else 0) * f n+getK N n * f n:=fun n=>by
      by_cases z:q.1=n
      · have a:getK (q::N) n=q.2:=if_pos z
        rw [a,if_pos z,getK_no n N (by rw [← z];exact h.1)]
        omega
      · have a:getK (q::N) n=getK N n:=if_neg z
        rw [a,if_neg z]
        omega
    have s:∀ (L:List Nat) (a b:Nat→Nat),(L.map fun n=>a n+b n).sum=(L.map a).sum+(L.map b).sum:=by
      intro L a b
      induction L with
      | nil=>rfl
      | cons x L ih=>simp only [List.map_cons,List.sum_cons,ih];omega
    rw [e,ih,← p,← s]
    exact congrArg List.sum (List.map_congr_left fun n _=>(g n).symm)
theorem cast_sum:∀ (L:List Nat) (a:Nat→Nat),(((L.map a).sum:Nat):Int)=(L.map fun n=>((a n:Nat):Int)).sum
  | [],_=>rfl
  | x::L,a=>by
    simp only [List.map_cons,List.sum_cons,Int.natCast_add,cast_sum L a]
theorem cs86 {c l:Nat} (hc:c≤6) (hl:l≤12):csP c l=(sumW (fun n=>n) (nums86 c l):Nat):=by
  rw [← gc_due,sum_range _ _ _ (nums_nd c l) (nums_key hc),cast_sum]
  unfold sig
  refine congrArg List.sum (List.map_congr_left fun n hn=>?_)
  rw [nums_get hc hl n (List.mem_range.mp hn),Int.natCast_mul,Int.mul_comm]
theorem numbers86 {c l:Nat} (hc:c≤6) (hl:l≤12):g__law_numbers_k86b [.int (c:Nat),.int (l:Nat)]=.ok (.fr (.dic (kvD iN86 (nums86 c l))),[]):=by?
  have tt:=tallies86 hc hl
  apply WFn.eq
  apply e__law_numbers_k86b
  apply WS_seq
  refine WS_eq (f:=.nx) (e:=N86 (.sh (.int (c:Nat))) (.sh (.int (l:Nat))) (.ow (.dic [])) .un .un .un .un .un .un .un .un .un) (by rfl) ?_
  show WS (vSeq (p__law_numbers_k86b_2) (vRet (vVar 2))) _ _
  apply WS_forsq (xs:=(tal86 c l).map fun q=>NV.tup [kN86 q.1,.int (q.2:Nat)]) (env1:=N86 (.sh (.int (c:Nat))) (.sh (.int (l:Nat))) (.ow (.dic [])) .un .un .un .un .un .un .un .un .un) (fun ys en=>∃ (done todo:List (K86×Nat)) (b la kp as w wa at' be nu:Jk),done++todo=tal86 c l∧ys=todo.map (fun q=>NV.tup [kN86 q.1,.int (q.2:Nat)])∧en=N86 (.sh (.int (c:Nat))) (.sh (.int (l:Nat))) (.ow (.dic (kvD iN86 (numL c l done [])))) b.1 la.1 kp.1 as.1 w.1 wa.1 at'.1 be.1 nu.1)
  · have cl:vCall g__law_tallies_k86b 2 [] (vCons (vVar 0) (vCons (vVar 1) (vNil))) (N86 (.sh (.int (c:Nat))) (.sh (.int (l:Nat))) (.ow (.dic [])) .un .un .un .un .un .un .un .un .un)=.ok (.fr (.dct (kvD kN86 (tal86 c l))),N86 (.sh (.int (c:Nat))) (.sh (.int (l:Nat))) (.ow (.dic [])) .un .un .un .un .un .un .un .un .un):=by walk_at "ev"
    show viItemsTF _ (N86 (.sh (.int (c:Nat))) (.sh (.int (l:Nat))) (.ow (.dic [])) .un .un .un .un .un .un .un .un .un)=_
    unfold viItemsTF
    rw [cl]
    show R.ok ((kvD kN86 (tal86 c l)).map fun q=>NV.tup [q.1,q.2],_)=_
    unfold kvD
    rw [List.map_map]
    rfl
  · exact ⟨[],tal86 c l,⟨.un,rfl⟩,⟨.un,rfl⟩,⟨.un,rfl⟩,⟨.un,rfl⟩,⟨.un,rfl⟩,⟨.un,rfl⟩,⟨.un,rfl⟩,⟨.un,rfl⟩,⟨.un,rfl⟩,rfl,rfl,rfl⟩
  · rintro y ys en ⟨done,todo,b,la,kp,as,w,wa,at',be,nu,e1,e2,rfl⟩
    cases todo with
    | nil=>cases e2
    | cons q todo=>
      rw [List.map_cons,List.cons.injEq] at e2
      obtain ⟨rfl,rfl⟩:=e2
      have hq:Bd86 c l q.1:=tal_bd hc l q.1 (List.mem_map.mpr ⟨q,by rw [← e1];simp,rfl⟩)
      have nd:=numL_nd c l done [] (by simp)
      have kb:∀x∈(numL c l done []).map (·.1),x < 2 * c+l+2:=numL_keys c l done [] (by simp) fun q' hq'=>num_lt hc (tal_bd hc l q'.1 (List.mem_map.mpr ⟨q',by rw [← e1];simp [hq'],rfl⟩))
      have dl:=short_len nd kb
      refine ⟨N86 (.sh (.int (c:Nat))) (.sh (.int (l:Nat))) (.ow (.dic (kvD iN86 (numL c l done [])))) (.sh (.int (q.1.1:Nat))) (.sh (.int (q.1.2.1:Nat))) (.sh (.int (q.1.2.2.1:Nat))) (.sh (.bl q.1.2.2.2)) (.sh (.int (q.2:Nat))) wa.1 at'.1 be.1 nu.1,(by show vPut _ (.tup [.tup [.int (q.1.1:Nat),.int (q.1.2.1:Nat),.int (q.1.2.2.1:Nat),.bl q.1.2.2.2],.int (q.2:Nat)]) _=_;walk_at "pt"),?_⟩
      refine ent86N (k:=q.1) (w:=q.2) (wa:=wa) (at':=at') (be:=be) (nu:=nu) hc hl hq nd (by omega) fun wa be nu=>?_
      refine ⟨done++[q],todo,⟨.sh (.int (q.1.1:Nat)),rfl⟩,⟨.sh (.int (q.1.2.1:Nat)),rfl⟩,⟨.sh (.int (q.1.2.2.1:Nat)),rfl⟩,⟨.sh (.bl q.1.2.2.2),rfl⟩,⟨.sh (.int (q.2:Nat)),rfl⟩,wa,at',be,nu,by rw [← e1];simp,rfl,?_⟩
      unfold numL
      rw [List.foldl_append]
      rfl
  · rintro en ⟨done,todo,b,la,kp,as,w,wa,at',be,nu,e1,e2,rfl⟩
    cases todo with
    | cons i todo=>cases e2
    | nil=>
      rw [List.append_nil] at e1
      subst e1
      walk_at "go"
      exact ⟨rfl,rfl⟩
theorem vLcI_ok86 {j:Nat} {g:Tg} {t:VT} {e:VE} {vs:List Nat} {env env2:Env} {kvs:List (NV×NV)} {zs:List NV} (h:env[j]? = some (.ow (.dic kvs)))
    (hc:vLc (fun en=>.ok (kvs.map fun q=>.tup [q.1,q.2],en)) g t e vs (env.set j .un)=.ok (.fr (.lst zs),env2)) (hu:env2[j]? = some .un):vLcI j g t e vs env=.ok (.fr (.lst zs),env2.set j (.ow (.dic kvs))):=by?
  unfold vLc at hc
  unfold vLcI
  rw [h]
  simp only [R.ok_bind] at hc ⊢
  cases q:vLcL g t e vs (kvs.map fun q=>.tup [q.1,q.2]) [] (vWipe (env.set j .un) vs) with
  | ok r=>
    rw [q] at hc
    simp only [R.ok_bind,R.ok.injEq,Prod.mk.injEq,EV.fr.injEq,NV.lst.injEq] at hc ⊢
    obtain ⟨h1,h2⟩:=hc
    rw [h2,hu]
    simp only [h1]
  | ex r=>rw [q] at hc;cases hc
  | no=>rw [q] at hc;cases hc
noncomputable
def muN:NV→NV
  | .tup [.int a,.int b]=>.int (a * b)
  | _=>.non
noncomputable
abbrev L86 (ns:List Int) (k s t z l d n w:Sl):Env:=[.sh (.fro (ns.map .int)),k,s,t,z,l,d,n,w]
theorem w_le {c l:Nat} (hc:c≤6) (hl:l≤12) {q:Nat×Nat} (hq:q∈nums86 c l):q.1≤100∧q.2 < 2 ^ 1400:=by?
  have k:=nums_key hc q.1 (List.mem_map.mpr ⟨q,hq,rfl⟩)
  refine ⟨by omega,?_⟩
  have g:∀N:List (Nat×Nat),(N.map (·.1)).Nodup→q∈N→getK N q.1=q.2:=by
    intro N
    induction N with
    | nil=>intro _ h;cases h
    | cons x N ih=>
      intro nd h
      rw [List.map_cons,List.nodup_cons] at nd
      rcases List.mem_cons.mp h with e | h
      · subst e
        exact if_pos rfl
      · have:x.1≠q.1:=fun z=>nd.1 (z ▸ List.mem_map.mpr ⟨q,h,rfl⟩)
        have e:getK (x::N) q.1=getK N q.1:=if_neg this
        rw [e,ih nd.2 h]
  have e:=nums_get hc hl q.1 k
  rw [g _ (nums_nd c l) hq] at e
  have b:=gcP_bd (c:=c) (l:=l) (by omega) (by omega) q.1
  rw [e] at b
  exact b
theorem tail86 {ns:List Int} {i v t:Jk} {c l:Nat} (hc:c≤6) (hl:l≤12) {n w:Jk} {K:KT} (hK:∀d n w:Jk,K.nx (L86 ns i.1 v.1 t.1 (.sh (.int (c:Nat))) (.sh (.int (l:Nat))) d.1 n.1 w.1)) :
    WS (vSeq p_law_k86b_6 p_law_k86b_9) (L86 ns i.1 v.1 t.1 (.sh (.int (c:Nat))) (.sh (.int (l:Nat))) (.ow (.dic (kvD iN86 (nums86 c l)))) n.1 w.1) K:=by?
  have m2:voMul (.int 2) (.int (c:Nat))=some (.im (.int (2 * (c:Int)))):=mul_big (by decide +kernel) (Nat.lt_of_le_of_lt (show ((c:Nat):Int).natAbs≤6 by omega) (by decide +kernel))
  have a1:voAdd (.int (2 * (c:Int))) (.int (l:Nat))=some (.im (.int (2 * (c:Int)+l))):=rfl
  have a2:voAdd (.int (2 * (c:Int)+l)) (.int 2)=some (.im (.int ((2 * c+l+2:Nat):Int))):=rfl
  apply WS_forsq (xs:=(List.range (2 * c+l+2)).map fun i:Nat=>NV.int ((i:Nat):Int)) (fun ys en=>∃ (n:Jk),(∀y∈ys,∃i:Nat,i < 2 * c+l+2∧y=.int (i:Nat))∧en=L86 ns i.1 v.1 t.1 (.sh (.int (c:Nat))) (.sh (.int (l:Nat))) (.ow (.dic (kvD iN86 (nums86 c l)))) n.1 w.1)
  · rw [← vrng_nats]
    exact Vp.vi_rng1 (j:=((2 * c+l+2:Nat):Int)) (by walk_at "ev") rfl (by rw [Int.toNat_natCast]) (by omega)
  · exact ⟨n,fun y hy=>by
      obtain ⟨k,hk,hx⟩:=List.mem_map.mp hy
      exact ⟨k,List.mem_range.mp hk,hx.symm⟩,rfl⟩
  · rintro y ys en ⟨n,hy,rfl⟩
    obtain ⟨k,hk,rfl⟩:=hy y (List.mem_cons_self ..)
    refine ⟨_,by walk_at "pt", ?_⟩
    have g:=gc_call (c:=c) (l:=l) (by omega) (by omega) (k:Nat)
    have g2:vmGet (.dic (kvD iN86 (nums86 c l))) [.int (k:Nat),.int 0]=some (.im (.int (gcP c l (k:Nat)))):=by
      show (if (vkeyOk (iN86 k) && vflat (.int 0))=true then some (EV.im ((vdGet (kvD iN86 (nums86 c l)) (iN86 k)).getD (.int 0))) else none)=_
      rw [if_pos (by rfl),get_kv iN_inj,nums_get hc hl k hk]
    have ne:=ne_int_self (gcP c l (k:Nat))
    walk_at "go"
    exact ⟨⟨_,rfl⟩,fun y h=>hy y (List.mem_cons_of_mem _ h),rfl⟩
  · rintro en ⟨n,hy,rfl⟩
    have dl:=short_len (nums_nd c l) (nums_key hc)
    have e1:=vLcI_ok86 (j:=6) (g:=.tp [.nm 7,.nm 8]) (t:=vYes) (e:=vBin voMul (vVar 7) (vVar 8)) (vs:=[7,8]) (env:=L86 ns i.1 v.1 t.1 (.sh (.int (c:Nat))) (.sh (.int (l:Nat))) (.ow (.dic (kvD iN86 (nums86 c l)))) n.1 w.1) (env2:=L86 ns i.1 v.1 t.1 (.sh (.int (c:Nat))) (.sh (.int (l:Nat))) .un n.1 w.1) (kvs:=kvD iN86 (nums86 c l)) (zs:=((nums86 c l).map fun q=>((q.2 * q.1:Nat):Int)).map .int) rfl (by
      have q:=lc_map (it:=fun en=>.ok ((nums86 c l).map fun q=>NV.tup [.int (q.1:Nat),.int (q.2:Nat)],en)) (g:=.tp [.nm 7,.nm 8]) (e:=vBin voMul (vVar 7) (vVar 8)) (vs:=[7,8]) (env:=L86 ns i.1 v.1 t.1 (.sh (.int (c:Nat))) (.sh (.int (l:Nat))) .un n.1 w.1) (xs:=(nums86 c l).map fun q=>NV.tup [.int (q.1:Nat),.int (q.2:Nat)]) muN rfl (by rw [List.length_map];omega) (by walk_at "wp") (by
        intro x hx
        obtain ⟨p,hp,hx⟩:=List.mem_map.mp hx
        have hx:x=.tup [.int (p.1:Nat),.int (p.2:Nat)]:=hx.symm
        subst hx
        obtain ⟨b1,b2⟩:=w_le hc hl hp
        have m:=mul_big (a:=(p.1:Nat)) (b:=(p.2:Nat)) (Nat.lt_of_le_of_lt (show ((p.1:Nat):Int).natAbs≤100 from b1) (by decide +kernel)) (Nat.lt_trans (show ((p.2:Nat):Int).natAbs < 2 ^ 1400 from b2) (by decide +kernel))
        exact ⟨_,by walk_at "pt", by walk_at "wp", _,by walk_at "ev", rfl⟩)
      rw [List.map_map] at q
      rw [show (nums86 c l).map (muN ∘ fun q=>NV.tup [.int (q.1:Nat),.int (q.2:Nat)])=((nums86 c l).map fun q=>((q.2 * q.1:Nat):Int)).map .int from by
        rw [List.map_map]
        refine List.map_congr_left fun q _=>?_
        show NV.int ((q.1:Nat) * (q.2:Nat))=NV.int ((q.2 * q.1:Nat):Int)
        rw [Int.natCast_mul,Int.mul_comm]] at q
      rw [show (kvD iN86 (nums86 c l)).map (fun q=>NV.tup [q.1,q.2])=(nums86 c l).map fun q=>NV.tup [.int (q.1:Nat),.int (q.2:Nat)] from by
        unfold kvD
        rw [List.map_map]
        rfl]
      exact q) rfl
    have e1:vLcI 6 (.tp [.nm 7,.nm 8]) (vYes) (vBin voMul (vVar 7) (vVar 8)) [7,8] (L86 ns i.1 v.1 t.1 (.sh (.int (c:Nat))) (.sh (.int (l:Nat))) (.ow (.dic (kvD iN86 (nums86 c l)))) n.1 w.1)=.ok (.fr (.lst (((nums86 c l).map fun q=>((q.2 * q.1:Nat):Int)).map .int)),L86 ns i.1 v.1 t.1 (.sh (.int (c:Nat))) (.sh (.int (l:Nat))) (.ow (.dic (kvD iN86 (nums86 c l)))) n.1 w.1):=e1
    have s1:=sum_ints ((nums86 c l).map fun q=>((q.2 * q.1:Nat):Int))
    have s2:((nums86 c l).map fun q=>((q.2 * q.1:Nat):Int)).sum=csP c l:=by
      rw [cs86 hc hl]
      unfold sumW
      have:∀L:List (Nat×Nat),(L.map fun q=>((q.2 * q.1:Nat):Int)).sum=(((L.map fun q=>q.2 * q.1).sum:Nat):Int):=by
        intro L
        induction L with
        | nil=>rfl
        | cons x L ih=>simp only [List.map_cons,List.sum_cons,ih,Int.natCast_add]
      exact this _
    rw [s2] at s1
    have k1:=cs_call (c:=c) (l:=l) (by omega) (by omega)
    have n1:=ne_int_self (csP c l)
    walk_at "go"
    exact hK ⟨_,rfl⟩ n w
theorem tail86I {ns:List Int} {i v t:Jk} {c l:Int} (hc:0≤c∧c≤6) (hl:0≤l∧l≤12) {d n w:Jk} {K:KT} (hK:∀d n w:Jk,K.nx (L86 ns i.1 v.1 t.1 (.sh (.int c)) (.sh (.int l)) d.1 n.1 w.1)) :
    WS (vSeq p_law_k86b_5 (vSeq p_law_k86b_6 p_law_k86b_9)) (L86 ns i.1 v.1 t.1 (.sh (.int c)) (.sh (.int l)) d.1 n.1 w.1) K:=by
  obtain ⟨a,rfl⟩:∃a:Nat,c=a:=⟨c.toNat,by omega⟩
  obtain ⟨b,rfl⟩:∃b:Nat,l=b:=⟨l.toNat,by omega⟩
  have nm:=numbers86 (c:=a) (l:=b) (by omega) (by omega)
  walk_at "st"
  exact tail86 (by omega) (by omega) hK
theorem k86_plain:∀ns:List Int,ns.length≤63→g_law_k86b [.fro (ns.map .int)]=.ok (.im (.bl true),[]):=by?
  intro ns hl
  apply WFn.eq
  apply e_law_k86b
  have ln:vfLenA [.fro (ns.map NV.int)]=some (.im (.int ns.length)):=by
    show some (EV.im (NV.int ((ns.map NV.int).length:Nat)))=_
    rw [List.length_map]
  obtain ⟨c,hc⟩:∃c:Int,(if (ns.length:Int) < 2 then (ns.length:Int) else 2)=c:=⟨_,rfl⟩
  have hc':0≤c∧c≤2:=by rw [← hc];split <;> omega
  have mn:vfMin2 [.int 2,.int (ns.length:Int)]=some (.im (.int c)):=by
    show some (EV.im (NV.int (if (ns.length:Int) < 2 then (ns.length:Int) else 2)))=_
    rw [hc]
  obtain ⟨b,hb⟩:∃b:Int,(if c > 1 then c else 1)=b:=⟨_,rfl⟩
  have hb':0≤b∧b≤2:=by rw [← hb];split <;> omega
  have mx:vfMax2 [.int 1,.int c]=some (.im (.int b)):=by
    show some (EV.im (NV.int (if c > 1 then c else 1)))=_
    rw [hb]
  apply WS_forsq (xs:=vrng 0 b.toNat) (fun ys en=>∃ (x1 x2 x3 z l d n w:Jk),(∀y∈ys,∃i:Int,y=.int i∧0≤i∧i < 64)∧en=L86 ns x1.1 x2.1 x3.1 z.1 l.1 d.1 n.1 w.1)
  · walk_at "ev"
  · exact ⟨⟨_,rfl⟩,⟨_,rfl⟩,⟨_,rfl⟩,⟨_,rfl⟩,⟨_,rfl⟩,⟨_,rfl⟩,⟨_,rfl⟩,⟨_,rfl⟩,vrng_mem (by omega),rfl⟩
  · rintro x ys en ⟨x1,x2,x3,z,l,d,n,w,hy,rfl⟩
    obtain ⟨i,rfl,i0,i1⟩:=hy x (List.mem_cons_self ..)
    obtain ⟨v,es,s0⟩:=source_ok ns i i0 i1 hl
    refine ⟨_,by walk_at "pt", ?_⟩
    walk_at "st"
    apply WS_for (xs:=vrng 0 2) (fun ys2 en=>∃ (k:Nat) (v:NV) (x3 z l d n w:Jk),Src k v∧k+10 * ys2.length≤1000∧en=L86 ns (.sh (.int i)) (.ow v) x3.1 z.1 l.1 d.1 n.1 w.1)
    · walk_at "ev"
    · exact ⟨0,v,x3,z,l,d,n,w,s0,by rw [vrng_len];omega,rfl⟩
    · rintro y ys2 en ⟨k,v,x3,z,l,d,n,w,s0,hk,rfl⟩
      simp only [List.length_cons] at hk
      obtain ⟨y1,v1,d1,y10,y11,s1⟩:=drawW (n:=7) s0 (by omega) (by omega) (by omega)
      obtain ⟨p,v2,hp,d2,s2⟩:=pickI2 (a0:=6) (a1:=y1) s1 (by omega)
      obtain ⟨y3,v3,d3,y30,y31,s3⟩:=drawW (n:=13) s2 (by omega) (by omega) (by omega)
      obtain ⟨q,v4,hq,d4,s4⟩:=pickI2 (a0:=9) (a1:=y3) s3 (by omega)
      refine ⟨_,by walk_at "pt", ?_⟩
      walk_at "st"
      refine tail86I (i:=⟨.sh (.int i),rfl⟩) (v:=⟨.ow v4,rfl⟩) (t:=⟨.sh y,rfl⟩) (by omega) (by omega) fun d n w=>?_
      exact ⟨k+10,v4,⟨.sh y,rfl⟩,⟨.sh (.int p),rfl⟩,⟨.sh (.int q),rfl⟩,d,n,w,s4.mono (by omega),by omega,rfl⟩
    · rintro en ⟨k,v,x3,z,l,d,n,w,s0,hk,rfl⟩
      exact ⟨⟨.sh (.int i),rfl⟩,⟨.ow v,rfl⟩,x3,z,l,d,n,w,fun y h=>hy y (List.mem_cons_of_mem _ h),rfl⟩
  · rintro en ⟨x1,x2,x3,z,l,d,n,w,hy,rfl⟩
    walk_at "go"
    exact ⟨rfl,rfl⟩
end Vp
end
open PySem PySem.W PyProof.Rows
set_option maxRecDepth 100000 in
set_option maxHeartbeats 0 in
theorem PySem.Challenge.cw_stackgoals_k86_whole_counts_by_sets_holds : PySem.Challenge.rw_stackgoals_k86_whole_counts_by_sets.Holds := by
  w_on; o_law; k_head; (case hw => w_witness2)
  k_fill
  refine Sg.walkD (l := PySem.Challenge.rw_stackgoals_k86_whole_counts_by_sets) (k := 5) (x := "_law_script") (F := Sg.k86.f_law) rfl rfl (Sg.rm_caller.mono (by decide)) (fun w h Y => PySem.W.kIn_of Y) ?D (fun ns hl => Vg.law_end Sg.k86.r_law (Vp.k86_plain ns hl))
  case D =>
    intro w mg fa h KX G hmg
    refine' Sg.k86.all_k86 KX G hmg (Sg.defIs ?a__law_source ?l__law_source ?c__law_source ?k__law_source) (Sg.defIs ?a__law_draw ?l__law_draw ?c__law_draw ?k__law_draw) (Sg.defIs ?a__law_pick ?l__law_pick ?c__law_pick ?k__law_pick) (Sg.defIs ?a__law_tallies ?l__law_tallies ?c__law_tallies ?k__law_tallies) (Sg.defIs ?a__law_numbers ?l__law_numbers ?c__law_numbers ?k__law_numbers) (Sg.defIs ?a_is_count ?l_is_count ?c_is_count ?k_is_count) (Sg.defIs ?a_check_counts ?l_check_counts ?c_check_counts ?k_check_counts) (Sg.defIs ?a_coverings ?l_coverings ?c_coverings ?k_coverings) (Sg.defIs ?a_choose ?l_choose ?c_choose ?k_choose) (Sg.defIs ?a_beginnings ?l_beginnings ?c_beginnings ?k_beginnings) (Sg.defIs ?a_table ?l_table ?c_table ?k_table) (Sg.defIs ?a_goal_count ?l_goal_count ?c_goal_count ?k_goal_count) (Sg.defIs ?a_cost_sum ?l_cost_sum ?c_cost_sum ?k_cost_sum) (Sg.defIs ?a_law ?l_law ?c_law ?k_law) ?z_len ?z_abs ?z_range ?z_int ?z_isinstance ?z_bool ?z_min ?z_zip ?z_sum ?z_max ?y_MOST_VALUES ?y_MOST_LENGTH
    (case a__law_source => k_is); (case l__law_source => k_is); (case c__law_source => k_is); (case k__law_source => k_is)
    (case a__law_draw => k_is); (case l__law_draw => k_is); (case c__law_draw => k_is); (case k__law_draw => k_is)
    (case a__law_pick => k_is); (case l__law_pick => k_is); (case c__law_pick => k_is); (case k__law_pick => k_is)
    (case a__law_tallies => k_is); (case l__law_tallies => k_is); (case c__law_tallies => k_is); (case k__law_tallies => k_is)
    (case a__law_numbers => k_is); (case l__law_numbers => k_is); (case c__law_numbers => k_is); (case k__law_numbers => k_is)
    (case a_is_count => k_is); (case l_is_count => k_is); (case c_is_count => k_is); (case k_is_count => k_is)
    (case a_check_counts => k_is); (case l_check_counts => k_is); (case c_check_counts => k_is); (case k_check_counts => k_is)
    (case a_coverings => k_is); (case l_coverings => k_is); (case c_coverings => k_is); (case k_coverings => k_is)
    (case a_choose => k_is); (case l_choose => k_is); (case c_choose => k_is); (case k_choose => k_is)
    (case a_beginnings => k_is); (case l_beginnings => k_is); (case c_beginnings => k_is); (case k_beginnings => k_is)
    (case a_table => k_is); (case l_table => k_is); (case c_table => k_is); (case k_table => k_is)
    (case a_goal_count => k_is); (case l_goal_count => k_is); (case c_goal_count => k_is); (case k_goal_count => k_is)
    (case a_cost_sum => k_is); (case l_cost_sum => k_is); (case c_cost_sum => k_is); (case k_cost_sum => k_is)
    (case a_law => k_is); (case l_law => k_is); (case c_law => k_is); (case k_law => k_is)
    (case z_len => k_is)
    (case z_abs => k_is)
    (case z_range => k_is)
    (case z_int => k_is)
    (case z_isinstance => k_is)
    (case z_bool => k_is)
    (case z_min => k_is)
    (case z_zip => k_is)
    (case z_sum => k_is)
    (case z_max => k_is)
    (case y_MOST_VALUES => k_is)
    (case y_MOST_LENGTH => k_is)
