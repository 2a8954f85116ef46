import PyProof.Rows.All
import Wide.All
import OpenK.AllK
import KE.KTab
import PyProof.MeetsSeq3
import PyProof.SliceList
import PyProof.ListCopy
import PyProof.NeKinds
import PyProof.EqKinds
import Lean
import PySem.Challenge.RW_xw0355_01
set_option Elab.async false
set_option maxRecDepth 1000000
set_option maxHeartbeats 0
set_option autoImplicit false
set_option linter.all false
set_option genSizeOf false
set_option genSizeOfSpec false
set_option genInjectivity false
namespace Mine
noncomputable section
open PySem PySem.W
inductive Tr (α:Type) where
  | nil
  | node (v:α) (l r:Tr α)
section
variable {α:Type}
noncomputable def Tr.get:Tr α→Nat→Option α
  | .nil,_=>none
  | .node v l r,i=>match Nat.beq i 0 with
    | true=>some v
    | false=>match Nat.beq (i % 2) 1 with
      | true=>l.get (i / 2)
      | false=>r.get (i / 2 - 1)
noncomputable def Tr.ins:Tr α→Nat→α→Tr α
  | .nil,_,o=> .node o .nil .nil
  | .node v l r,i,o=>match Nat.beq i 0 with
    | true=> .node o l r
    | false=>match Nat.beq (i % 2) 1 with
      | true=> .node v (l.ins (i / 2) o) r
      | false=> .node v l (r.ins (i / 2 - 1) o)
theorem Tr.get_node (v:α) (l r:Tr α) (i:Nat):(Tr.node v l r).get i = if i = 0 then some v else if i % 2 = 1 then l.get (i / 2) else r.get (i / 2 - 1):=by
  show (match Nat.beq i 0 with | true=>some v | false=>match Nat.beq (i % 2) 1 with | true=>l.get (i / 2) | false=>r.get (i / 2 - 1)) = _
  rw [BT.beq_eq,BT.beq_eq]
  by_cases h:i = 0 <;> by_cases q:i % 2 = 1 <;> simp [h,q]
theorem Tr.ins_node (v:α) (l r:Tr α) (i:Nat) (o:α):(Tr.node v l r).ins i o = if i = 0 then .node o l r else if i % 2 = 1 then .node v (l.ins (i / 2) o) r else .node v l (r.ins (i / 2 - 1) o):=by
  show (match Nat.beq i 0 with | true=>Tr.node o l r | false=>match Nat.beq (i % 2) 1 with | true=>Tr.node v (l.ins (i / 2) o) r | false=>Tr.node v l (r.ins (i / 2 - 1) o)) = _
  rw [BT.beq_eq,BT.beq_eq]
  by_cases h:i = 0 <;> by_cases q:i % 2 = 1 <;> simp [h,q]
theorem Tr.get_ins (o:α):∀(t:Tr α) (a:Nat),((t.ins a o).get a).isSome = true→∀i,(t.ins a o).get i = if i = a then some o else t.get i
  | .nil,a,h,i=>by
    have e:(Tr.nil.ins a o) = .node o .nil .nil:=rfl
    rw [e,get_node] at h
    have ha:a = 0:=by
      by_cases q:a = 0
      · exact q
      · exfalso;revert h;by_cases p:a % 2 = 1 <;> simp [q,p,get]
    subst ha
    rw [e,get_node]
    by_cases hi:i = 0
    · simp [hi]
    · by_cases p:i % 2 = 1 <;> simp [hi,p,get]
  | .node v l r,a,h,i=>by
    rw [ins_node] at h ⊢
    rw [get_node v l r i]
    by_cases ha:a = 0
    · subst ha
      rw [if_pos rfl,get_node]
      by_cases hi:i = 0 <;> simp [hi]
    · rw [if_neg ha] at h ⊢
      by_cases pa:a % 2 = 1
      · rw [if_pos pa] at h ⊢
        rw [get_node,if_neg ha,if_pos pa] at h
        rw [get_node]
        by_cases hi:i = 0
        · subst hi
          have:¬ (0 = a):=fun q=>ha q.symm
          simp [this]
        · by_cases pi:i % 2 = 1
          · rw [if_neg hi,if_pos pi,get_ins o l _ h,if_neg hi,if_pos pi]
            by_cases e:i = a
            · subst e;simp
            · have:¬ (i / 2 = a / 2):=by omega
              rw [if_neg e,if_neg this]
          · have:¬ (i = a):=fun q=>pi (q▸pa)
            rw [if_neg hi,if_neg pi,if_neg this,if_neg hi,if_neg pi]
      · rw [if_neg pa] at h ⊢
        rw [get_node,if_neg ha,if_neg pa] at h
        rw [get_node]
        by_cases hi:i = 0
        · subst hi
          have:¬ (0 = a):=fun q=>ha q.symm
          simp [this]
        · by_cases pi:i % 2 = 1
          · have:¬ (i = a):=fun q=>pa (q▸pi)
            rw [if_neg hi,if_pos pi,if_neg this,if_neg hi,if_pos pi]
          · rw [if_neg hi,if_neg pi,get_ins o r _ h,if_neg hi,if_neg pi]
            by_cases e:i = a
            · subst e;simp
            · have:¬ (i / 2 - 1 = a / 2 - 1):=by omega
              rw [if_neg e,if_neg this]
end
abbrev Ent:=Nat×Obj
inductive Ob where
  | n (a:Nat)
  | i (x:Int)
  | o (x:Obj)
  | v (x:Value)
  | t (x:Sem Fin)
  | c (x:Code)
structure Kn where
  c:Code
  p:Pos
  k:Result→Sem Fin
structure Out where
  ok:Bool
  why:Nat
  r:Result
  left:Nat
  hs:List Nat
  sz:Nat
  tk:Nat
  m:Nat
  T:Tr Ent
  ob:List (Ob×Ob)
  ds:List Bool
structure IRes where
  r:Result
  hs:List Nat
  sz:Nat
  tk:Nat
  m:Nat
  T:Tr Ent
  ob:List (Ob×Ob)
  ds:List Bool
abbrev Icpt:=(Nat→Nat)→List (Code×Pos)→Code→List Nat→Nat→Nat→Nat→Tr Ent→Option IRes
structure TRes where
  t:Sem Fin
  hs:List Nat
  sz:Nat
  tk:Nat
  m:Nat
  T:Tr Ent
  ob:List (Ob×Ob)
  ds:List Bool
abbrev Tcpt:=(Nat→Nat)→List (Code×Pos)→Code→Sem Fin→List Nat→Nat→Nat→Nat→Tr Ent→Option TRes
def magic:Nat:=1000000
noncomputable def nListIt:Nat:=9146042919481958196396663532141
noncomputable def nRangeIt:Nat:=2341386987387381298277481238717043
def nZip:Nat:=7432827
noncomputable def selfIter (o:Obj):Bool:=match o.cls with
  | .type nm=>Nat.beq (PySem.code nm) nListIt || Nat.beq (PySem.code nm) nRangeIt
  | _=>false
noncomputable def isTuple:Expr→Bool
  | .Tuple .. =>true
  | _=>false
noncomputable def zipFirst (o:Obj):Option Value:=match o with
  | ⟨.type nm,_,.fields vs,_⟩=>match Nat.beq (PySem.code nm) nZip with
    | true=>vs.toList.head?
    | false=>none
  | _=>none
noncomputable def zipLet (o:Obj):Obj:=o.mapFields (·.setIfInBounds 0 .none)
structure Vw where
  prog:Program
  w:World
  den:Code→Sem Fin
  kt:Nat→Option Obj
  B:List (Code×Pos)
  ic:Nat→Icpt
  row:Nat→String
  tc:Nat→Tcpt
noncomputable def halt (why n:Nat) (hs:List Nat) (sz tk m:Nat) (T:Tr Ent) (ob:List (Ob×Ob)) (ds:List Bool):Out:=⟨false,why,.ok .next,n,hs,sz,tk,m,T,ob,ds⟩
noncomputable def stk (κ:List Kn) (B:List (Code×Pos)):List (Code×Pos):=κ.map (fun x=>(x.c,x.p))++B
noncomputable def ev (ω:Nat→Nat):Nat→Nat:=fun i=>ω (2*i)
noncomputable def od (ω:Nat→Nat):Nat→Nat:=fun i=>ω (2*i+1)
noncomputable def weave (a b:Nat→Nat):Nat→Nat:=fun i=>if i % 2 = 0 then a (i / 2) else b (i / 2)
theorem ev_weave (a b:Nat→Nat):ev (weave a b) = a:=by
  funext i
  show (if 2*i % 2 = 0 then a (2*i / 2) else b (2*i / 2)) = a i
  rw [if_pos (by omega),show 2*i / 2 = i by omega]
theorem od_weave (a b:Nat→Nat):od (weave a b) = b:=by
  funext i
  show (if (2*i+1) % 2 = 0 then a ((2*i+1) / 2) else b ((2*i+1) / 2)) = b i
  rw [if_neg (by omega),show (2*i+1) / 2 = i by omega]
noncomputable def sim (V:Vw):Nat→(Nat→Nat)→List Nat→Sem Fin→Code→Pos→List Kn→Nat→Nat→Nat→Tr Ent→List (Ob×Ob)→List Bool→Out
  | 0,_,hs,_,_,_,_,sz,tk,m,T,ob,ds=>halt 99 0 hs sz tk m T ob ds
  | n + 1, ω,hs,t,c,p,κ,sz,tk,m,T,ob,ds=>match t with
    | .pure fin=>match fin with
      | .done f=>match κ with
        | []=>⟨true,0,.ok f,n,hs,sz,tk,m,T,ob,ds⟩
        | kn::κ=>sim V n ω hs (kn.k (.ok f)) kn.c kn.p κ sz tk m T ob ds
      | .again c'=>match c'.quiet with
        | true=>sim V n ω hs (V.den c') c' p κ sz tk m T ob ds
        | false=>halt 5 n hs sz tk m T ob ds
    | .raise e=>match κ with
      | []=>⟨true,0,.error e,n,hs,sz,tk,m,T,ob,ds⟩
      | kn::κ=>sim V n ω hs (kn.k (.error e)) kn.c kn.p κ sz tk m T ob ds
    | .rule _ k=>sim V n ω hs (k ()) c p κ sz tk m T ob ds
    | .at q k=>sim V n ω hs (k ()) c q κ sz tk m T ob ds
    | .point _ k=>match hs with
      | []=>sim V n ω hs (k ()) c p κ sz tk m T ob ds
      | h ::hs'=>match Nat.ble magic h with
        | true=>match V.tc (h - magic) (ev ω) ((c,p)::stk κ V.B) c t hs' sz tk m T with
          | some r=>sim V n (od ω) r.hs r.t c p κ r.sz r.tk r.m r.T (r.ob++ob) (r.ds++ds)
          | none=>halt 32 n hs sz tk m T ob ds
        | false=>sim V n ω hs (k ()) c p κ sz tk m T ob ds
    | .ask k=>match hs with
      | []=>halt 1 n hs sz tk m T ob ds
      | h::hs=>match h with
        | 0=>sim V n ω hs (k ⟨V.prog,V.w.params⟩) c p κ sz tk m T ob ds
        | j +1=>sim V n ω hs (k ⟨V.prog,(V.w.withFollow (V.row j) true).params⟩) c p κ sz tk m T
            ((.t (k ⟨V.prog,(V.w.withFollow (V.row j) true).params⟩),.t (k ⟨V.prog,(V.w.withFollow (V.row j) false).params⟩))::ob) ds
    | .fresh k=>sim V n ω hs (k tk) c p κ sz (tk+1) m T ob ds
    | .load a _ k=>match hs with
      | []=>halt 1 n hs sz tk m T ob ds
      | h ::hs=>match h with
        | 0=>match V.kt a with
          | some o=>sim V n ω hs (k o) c p κ sz tk m T ob ds
          | none=>halt 2 n hs sz tk m T ob ds
        | 1 =>match hs with
          | []=>halt 1 n hs sz tk m T ob ds
          | i::hs=>match Nat.ble magic i with
           | true=>match V.tc (i - magic) (ev ω) ((c,p)::stk κ V.B) c t hs sz tk m T with
            | some r=>sim V n (od ω) r.hs r.t c p κ r.sz r.tk r.m r.T (r.ob++ob) (r.ds++ds)
            | none=>halt 30 n hs sz tk m T ob ds
           | false=>halt 25 n hs sz tk m T ob ds
        | i +2=>match T.get i with
          | some e=>match e with
            | ⟨a',o⟩=>sim V n ω hs (k o) c p κ sz tk m T ((.n a,.n a')::ob) ds
          | none=>halt 3 n hs sz tk m T ob ds
    | .loadIfAlive a k=>match hs with
      | []=>halt 1 n hs sz tk m T ob ds
      | h ::hs=>match h with
        | 0=>match V.kt a with
          | some o=>sim V n ω hs (k (some o)) c p κ sz tk m T ob ds
          | none=>halt 2 n hs sz tk m T ob ds
        | i +1=>match T.get i with
          | some e=>match e with
            | ⟨a',o⟩=>sim V n ω hs (k (some o)) c p κ sz tk m T ((.n a,.n a')::ob) ds
          | none=>halt 3 n hs sz tk m T ob ds
    | .update a _ f k=>match hs with
      | []=>halt 1 n hs sz tk m T ob ds
      | i ::hs=>match T.get i with
        | some e=>match e with
          | ⟨a',o⟩=>match (f o).isFreed with
            | true=>halt 6 n hs sz tk m T ob ds
            | false=>match (T.ins i (a',f o)).get i with
              | some _=>sim V n ω hs (k ()) c p κ sz tk m (T.ins i (a',f o)) ((.n a,.n a')::ob) ds
              | none=>halt 7 n hs sz tk m T ob ds
        | none=>halt 3 n hs sz tk m T ob ds
    | .alloc o k=>match o.isFreed with
      | true=>halt 6 n hs sz tk m T ob ds
      | false=>match (T.ins m (sz,o)).get m with
        | some _=>sim V n ω hs (k sz) c p κ (sz+1) tk (m+1) (T.ins m (sz,o)) ob ds
        | none=>halt 7 n hs sz tk m T ob ds
    | .call c' hd _ _ k=>match hd with
      | some _=>halt 8 n hs sz tk m T ob ds
      | none => match hs with
        | []=>halt 1 n hs sz tk m T ob ds
        | h :: hs =>match h with
          | 0=>sim V n ω hs (V.den c') c' p (⟨c,p,k⟩::κ) sz tk m T ob ds
          | 1 =>match hs with
            | []=>halt 1 n hs sz tk m T ob ds
            | i :: hs =>match c' with
              | .compStart (.ListComp elt (⟨tg,it,ifs,0⟩::rest) scope pos) 0 (.ref a) acc env=>match T.get i with
                | some e=>match e with
                  | ⟨a',o⟩=>match selfIter o with
                    | true=>match V.den (.compLoop (.ListComp elt (⟨tg,it,ifs,0⟩::rest) scope pos) 0 (.ref a) acc env) with
                      | .at q k'=>sim V n ω hs (k' ()) (.compLoop (.ListComp elt (⟨tg,it,ifs,0⟩::rest) scope pos) 0 (.ref a) acc env) q (⟨c,p,k⟩::κ) sz tk m T ((.n a,.n a')::ob) ds
                      | _=>halt 27 n hs sz tk m T ob ds
                    | false=>halt 28 n hs sz tk m T ob ds
                | none=>halt 3 n hs sz tk m T ob ds
              | _=>halt 29 n hs sz tk m T ob ds
          | j +2=>match Nat.ble κ.length 200 with
            | true=>match V.ic j (ev ω) ((c,p)::stk κ V.B) c' hs sz tk m T with
              | some r=>sim V n (od ω) r.hs (k r.r) c p κ r.sz r.tk r.m r.T (r.ob++ob) (r.ds++ds)
              | none=>halt 9 n hs sz tk m T ob ds
            | false=>halt 23 n hs sz tk m T ob ds
    | .handled own k=>match own with
      | false=>sim V n ω hs (k none) c p κ sz tk m T ob ds
      | true=>halt 10 n hs sz tk m T ob ds
    | .stack k=>match hs with
      | []=>sim V n ω hs (k ((c,p)::stk κ V.B)) c p κ sz tk m T ob ds
      | h ::hs'=>match Nat.ble magic h with
        | true=>match V.tc (h - magic) (ev ω) ((c,p)::stk κ V.B) c t hs' sz tk m T with
          | some r=>sim V n (od ω) r.hs r.t c p κ r.sz r.tk r.m r.T (r.ob++ob) (r.ds++ds)
          | none=>halt 31 n hs sz tk m T ob ds
        | false=>sim V n ω hs (k ((c,p)::stk κ V.B)) c p κ sz tk m T ob ds
    | .genState .. =>halt 11 n hs sz tk m T ob ds
    | .newGen .. =>halt 12 n hs sz tk m T ob ds
    | .resume .. =>halt 13 n hs sz tk m T ob ds
    | .yield .. =>halt 14 n hs sz tk m T ob ds
    | .unsupported _=>halt 15 n hs sz tk m T ob ds
    | .finish _=>halt 16 n hs sz tk m T ob ds
    | .register .. =>halt 17 n hs sz tk m T ob ds
    | .choose .. =>halt 18 n hs sz tk m T ob ds
    | .os .. =>halt 19 n hs sz tk m T ob ds
    | .fork .. =>halt 20 n hs sz tk m T ob ds
    | .thread _=>halt 21 n hs sz tk m T ob ds
    | .await .. =>halt 22 n hs sz tk m T ob ds
noncomputable def Ext (o:Out) (ob:List (Ob×Ob)) (ds:List Bool):Prop:=∃xs ys,o.ob = xs++ob∧o.ds = ys++ds
theorem Ext.rfl' {o:Out} {ob:List (Ob×Ob)} {ds:List Bool} (h1:o.ob = ob) (h2:o.ds = ds):Ext o ob ds:=⟨[],[],h1,h2⟩
theorem Ext.cons {o:Out} {x:Ob×Ob} {ob:List (Ob×Ob)} {ds:List Bool} (h:Ext o (x::ob) ds):Ext o ob ds:=by
  obtain ⟨xs,ys,h1,h2⟩:=h
  exact ⟨xs++[x],ys,by rw [h1,List.append_assoc];rfl,h2⟩
theorem Ext.app {o:Out} {xs ob:List (Ob×Ob)} {ys ds:List Bool} (h:Ext o (xs++ob) (ys++ds)):Ext o ob ds:=by
  obtain ⟨us,vs,h1,h2⟩:=h
  exact ⟨us++xs,vs++ys,by rw [h1,List.append_assoc],by rw [h2,List.append_assoc]⟩
theorem ext_cons2 {o:Out} {x:Ob×Ob} {y:Bool} {ob:List (Ob×Ob)} {ds:List Bool} (h:Ext o (x::ob) (y::ds)):Ext o ob ds:=Ext.app (xs:=[x]) (ys:=[y]) h
theorem sim_ext (V:Vw):∀(n:Nat) (ω:Nat→Nat) (hs:List Nat) (t:Sem Fin) (c:Code) (p:Pos) (κ:List Kn) (sz tk m:Nat) (T:Tr Ent) (ob:List (Ob×Ob)) (ds:List Bool),
    Ext (sim V n ω hs t c p κ sz tk m T ob ds) ob ds
  | 0,_,_,_,_,_,_,_,_,_,_,_,_=> .rfl' rfl rfl
  | n + 1, ω, hs,t,c,p,κ,sz,tk,m,T,ob,ds=>by
    have ih:=sim_ext V n
    cases t with
    | pure fin=>
      cases fin with
      | done f=>cases κ with
        | nil=>exact .rfl' rfl rfl
        | cons kn κ=>exact ih _ _ _ _ _ _ _ _ _ _ _ _
      | again c'=>
        simp only [sim]
        split
        · exact ih _ _ _ _ _ _ _ _ _ _ _ _
        · exact .rfl' rfl rfl
    | raise e=>cases κ with
      | nil=>exact .rfl' rfl rfl
      | cons kn κ=>exact ih _ _ _ _ _ _ _ _ _ _ _ _
    | rule _ k=>exact ih _ _ _ _ _ _ _ _ _ _ _ _
    | «at» _ k=>exact ih _ _ _ _ _ _ _ _ _ _ _ _
    | point _ k=>
      simp only [sim]
      (repeat' split) <;> first
        | exact .rfl' rfl rfl
        | exact ih _ _ _ _ _ _ _ _ _ _ _ _
        | exact (ih _ _ _ _ _ _ _ _ _ _ _ _).app
    | ask k=>cases hs with
      | nil=>exact .rfl' rfl rfl
      | cons h hs=>cases h with
        | zero=>exact ih _ _ _ _ _ _ _ _ _ _ _ _
        | succ j=>exact (ih _ _ _ _ _ _ _ _ _ _ _ _).cons
    | fresh k=>exact ih _ _ _ _ _ _ _ _ _ _ _ _
    | load a q k=>cases hs with
      | nil=>exact .rfl' rfl rfl
      | cons h hs=>cases h with
        | zero=>
          simp only [sim]
          split
          · exact ih _ _ _ _ _ _ _ _ _ _ _ _
          · exact .rfl' rfl rfl
        | succ i=>cases i with
          | zero=>
            simp only [sim]
            (repeat' split) <;> first
              | exact .rfl' rfl rfl
              | exact (ih _ _ _ _ _ _ _ _ _ _ _ _).app
          | succ i=>
            simp only [sim]
            split
            · exact (ih _ _ _ _ _ _ _ _ _ _ _ _).cons
            · exact .rfl' rfl rfl
    | loadIfAlive a k=>cases hs with
      | nil=>exact .rfl' rfl rfl
      | cons h hs=>cases h with
        | zero=>
          simp only [sim]
          split
          · exact ih _ _ _ _ _ _ _ _ _ _ _ _
          · exact .rfl' rfl rfl
        | succ i=>
          simp only [sim]
          split
          · exact (ih _ _ _ _ _ _ _ _ _ _ _ _).cons
          · exact .rfl' rfl rfl
    | update a q f k=>cases hs with
      | nil=>exact .rfl' rfl rfl
      | cons i hs=>
        simp only [sim]
        split
        · split
          · exact .rfl' rfl rfl
          · split
            · exact (ih _ _ _ _ _ _ _ _ _ _ _ _).cons
            · exact .rfl' rfl rfl
        · exact .rfl' rfl rfl
    | alloc o k=>
      simp only [sim]
      split
      · exact .rfl' rfl rfl
      · split
        · exact ih _ _ _ _ _ _ _ _ _ _ _ _
        · exact .rfl' rfl rfl
    | call c' hd g l k=>cases hd with
      | some _=>exact .rfl' rfl rfl
      | none => cases hs with
        | nil=>exact .rfl' rfl rfl
        | cons h hs=>cases h with
          | zero=>exact ih _ _ _ _ _ _ _ _ _ _ _ _
          | succ j=>cases j with
            | zero=>
              simp only [sim]
              (repeat' split) <;> first
                | exact .rfl' rfl rfl
                | exact (ih _ _ _ _ _ _ _ _ _ _ _ _).cons
            | succ j=>
              simp only [sim]
              split
              · split
                · exact (ih _ _ _ _ _ _ _ _ _ _ _ _).app
                · exact .rfl' rfl rfl
              · exact .rfl' rfl rfl
    | handled own k=>cases own with
      | false=>exact ih _ _ _ _ _ _ _ _ _ _ _ _
      | true=>exact .rfl' rfl rfl
    | stack k=>
      simp only [sim]
      (repeat' split) <;> first
        | exact .rfl' rfl rfl
        | exact ih _ _ _ _ _ _ _ _ _ _ _ _
        | exact (ih _ _ _ _ _ _ _ _ _ _ _ _).app
    | _=>exact .rfl' rfl rfl
structure Bs where
  h:Heap
  led:List Nat
  gens:Array GenState
  d:Drawn
  os:OsState
structure Rel (b:Bs) (sz tk m:Nat) (T:Tr Ent) (s:Shared):Prop where
  size:s.heap.objs.size = sz
  toks:s.toks = tk
  gens:s.gens = b.gens
  drawn:s.drawn = b.d
  os:s.os = b.os
  own:∀i a o,T.get i = some (a,o)→i < m∧s.heap.get? a = some o∧(a∈b.led∨b.h.objs.size≤a)
  inj:∀i j a o o',T.get i = some (a,o)→T.get j = some (a,o')→i = j
  keep:∀a o,b.h.get? a = some o→a∉b.led→s.heap.get? a = some o
  grow:b.h.objs.size≤s.heap.objs.size
noncomputable def KtOk (V:Vw) (b:Bs):Prop:=∀a o,V.kt a = some o→b.h.get? a = some o∧a∉b.led
noncomputable def wpF (M:Model) (Γ:Ctx) (t:Sem Fin) (R:Result→Shared→Prop) (p:Pos) (s:Shared):Prop:=Sem.wp M Γ t (Sem.finPost M Γ R) (fun e _ s'=>R (.error e) s') p s
noncomputable def MK (V:Vw) (M:Model) (R:Result→Shared→Prop):List Kn→Result→Shared→Prop
  | [],r,s=>R r s
  | kn::κ,r,s=>∀Γ:Ctx,Γ.code = kn.c→Γ.below = stk κ V.B→Γ.handled = none→wpF M Γ (kn.k r) (MK V M R κ) kn.p s
noncomputable def IcOk (V:Vw) (M:Model) (b:Bs) (f:Icpt):Prop:=∀(Γ:Ctx) (c:Code) (hs:List Nat) (sz tk m:Nat) (T:Tr Ent) (p:Pos) (s:Shared) (R:Result→Shared→Prop) (κ:List Kn),
  (Γ.code,p)::Γ.below = stk κ V.B→κ.length≤201→Γ.handled = none→Rel b sz tk m T s→
  (∀ω,∃r,f ω (stk κ V.B) c hs sz tk m T = some r∧(∀x∈r.ob,x.1 = x.2)∧(∀x∈r.ds,x = true)∧∀s',Rel b r.sz r.tk r.m r.T s'→R r.r s')→wpCode M (Γ.enter c none p) R p s
noncomputable def TcOk (V:Vw) (M:Model) (b:Bs) (f:Tcpt):Prop:=∀(Γ:Ctx) (c:Code) (t:Sem Fin) (hs:List Nat) (sz tk m:Nat) (T:Tr Ent) (p:Pos) (s:Shared) (R:Result→Shared→Prop) (κ:List Kn),
  Γ.code = c→(c,p)::Γ.below = (c,p)::stk κ V.B→Γ.handled = none→Rel b sz tk m T s→
  (∀ω,∃r,f ω ((c,p)::stk κ V.B) c t hs sz tk m T = some r∧(∀x∈r.ob,x.1 = x.2)∧(∀x∈r.ds,x = true)∧∀s',Rel b r.sz r.tk r.m r.T s'→wpF M Γ r.t R p s')→wpF M Γ t R p s
noncomputable def Good (F:Out→Prop) (o:Out):Prop:=o.ok = true∧(∀x∈o.ob,x.1 = x.2)∧(∀x∈o.ds,x = true)∧F o
end
end Mine
namespace Mine
noncomputable section
open PySem PySem.W
section
variable {b:Bs} {sz tk m:Nat} {T:Tr Ent} {s:Shared}
theorem Rel.alloc (r:Rel b sz tk m T s) {o:Obj} (hf:o.isFreed = false) {e:Ent} (hg:(T.ins m (sz,o)).get m = some e):
    Rel b (sz+1) tk (m+1) (T.ins m (sz,o)) {s with heap:=s.heap.push o}:=by
  have hi:=Tr.get_ins (sz,o) T m (by rw [hg];rfl)
  have hlt:∀i a x,T.get i = some (a,x)→a < sz:=fun i a x e=>by
    have:=Heap.lt_size (r.own i a x e).2.1
    rw [r.size] at this;exact this
  refine ⟨by show (s.heap.push o).objs.size = sz+1;rw [Heap.size_push,r.size],r.toks,r.gens,r.drawn,r.os,fun i a x e=>?_,fun i j a x y e e'=>?_,fun a x e q=>?_,?_⟩
  · rw [hi] at e
    by_cases h:i = m
    · rw [if_pos h] at e
      cases e
      refine ⟨by omega,?_,.inr ?_⟩
      · rw [←r.size];exact Heap.get?_push_size _ hf
      · rw [←r.size];exact r.grow
    · rw [if_neg h] at e
      have z:=r.own i a x e
      exact ⟨by omega,Heap.get?_push_of_some _ z.2.1,z.2.2⟩
  · rw [hi] at e e'
    by_cases h:i = m <;> by_cases h':j = m
    · omega
    · rw [if_pos h] at e;rw [if_neg h'] at e'
      cases e
      exact absurd (hlt _ _ _ e') (Nat.lt_irrefl _)
    · rw [if_neg h] at e;rw [if_pos h'] at e'
      cases e'
      exact absurd (hlt _ _ _ e) (Nat.lt_irrefl _)
    · rw [if_neg h] at e;rw [if_neg h'] at e'
      exact r.inj i j a x y e e'
  · exact Heap.get?_push_of_some _ (r.keep a x e q)
  · show b.h.objs.size≤(s.heap.push o).objs.size
    rw [Heap.size_push]
    have:=r.grow
    omega
theorem Rel.update (r:Rel b sz tk m T s) {i a:Nat} {o:Obj} {f:Obj→Obj} (hT:T.get i = some (a,o)) (hf:(f o).isFreed = false) {e:Ent} (hg:(T.ins i (a,f o)).get i = some e):
    Rel b sz tk m (T.ins i (a,f o)) {s with heap:=s.heap.update a f}:=by
  have hi:=Tr.get_ins (a,f o) T i (by rw [hg];rfl)
  have z:=r.own i a o hT
  have hs:Heap.SameBut a s.heap (s.heap.update a f):=Heap.SameBut.update ..
  refine ⟨by show (s.heap.update a f).objs.size = sz;rw [hs.1,r.size],r.toks,r.gens,r.drawn,r.os,fun j a' x e=>?_,fun j k a' x y e e'=>?_,fun a' x e q=>?_,?_⟩
  · rw [hi] at e
    by_cases h:j = i
    · rw [if_pos h] at e
      cases e
      subst h
      refine ⟨z.1,?_,z.2.2⟩
      first | exact Heap.get?_update_self f z.2.1 hf | exact Heap.get?_update_self _ z.2.1 hf
    · rw [if_neg h] at e
      have y:=r.own j a' x e
      refine ⟨y.1,?_,y.2.2⟩
      have ne:a'≠a:=fun q=>h (by subst q;exact r.inj j i a' x o e hT)
      exact (hs.2 a' ne).trans y.2.1
  · rw [hi] at e e'
    by_cases h:j = i <;> by_cases h':k = i
    · omega
    · rw [if_pos h] at e;rw [if_neg h'] at e'
      cases e
      exact absurd (r.inj k i _ _ _ e' hT) h'
    · rw [if_neg h] at e;rw [if_pos h'] at e'
      cases e'
      exact absurd (r.inj j i _ _ _ e hT) h
    · rw [if_neg h] at e;rw [if_neg h'] at e'
      exact r.inj j k a' x y e e'
  · have ne:a'≠a:=fun q2=>by
      subst q2
      rcases z.2.2 with h | h
      · exact q h
      · exact absurd (Heap.lt_size e) (Nat.not_lt.mpr h)
    exact (hs.2 a' ne).trans (r.keep a' x e q)
  · show b.h.objs.size≤(s.heap.update a f).objs.size
    rw [hs.1];exact r.grow
end
theorem wpCode_of {M:Model} {Γ:Ctx} {R:Result→Shared→Prop} {p:Pos} {s:Shared} (h:wpF M Γ (M.den Γ.code) R p s):wpCode M Γ R p s:=by
  obtain ⟨r,s',h1,h2⟩:=(Sem.wp_iff_runs M Γ _ R p s).mp h
  exact ⟨r,s',h1,h2⟩
section
variable {V:Vw} {M:Model} {b:Bs} {F:Out→Prop}
theorem halt_bad {why n:Nat} {hs:List Nat} {sz tk m:Nat} {T:Tr Ent} {ob:List (Ob×Ob)} {ds:List Bool} {P:Prop} (h:Good F (halt why n hs sz tk m T ob ds)):P:=by
  have:=h.1
  cases this
noncomputable def base (b:Bs) (F:Out→Prop):Result→Shared→Prop:=fun r s'=>∃o:Out,F o∧o.r = r∧Rel b o.sz o.tk o.m o.T s'
theorem ob_inj {a a':Nat} {o:Out} {ob:List (Ob×Ob)} {ds:List Bool} (h:Good F o) (e:Ext o ((.n a,.n a')::ob) ds):a = a':=by
  obtain ⟨xs,ys,h1,h2⟩:=e
  have:=h.2.1 (.n a,.n a') (by rw [h1];exact List.mem_append_right _ (.head _))
  cases this;rfl
theorem ob_t {t t':Sem Fin} {o:Out} {ob:List (Ob×Ob)} {ds:List Bool} (h:Good F o) (e:Ext o ((.t t,.t t')::ob) ds):t = t':=by
  obtain ⟨xs,ys,h1,h2⟩:=e
  have:=h.2.1 (.t t,.t t') (by rw [h1];exact List.mem_append_right _ (.head _))
  cases this;rfl
end
section
variable {prog:Program} {w:World}
theorem selfIter_type {o:Obj} (h:selfIter o = true):o.cls = .type "list_iterator"∨o.cls = .type "range_iterator":=by
  unfold selfIter at h
  split at h
  · rename_i nm e
    rw [e]
    rcases (Bool.or_eq_true _ _).mp h with q | q
    · left
      have:nm = "list_iterator":=PySem.code_inj _ _ ((Nat.eq_of_beq_eq_true q).trans (by decide+kernel))
      rw [this]
    · right
      have:nm = "range_iterator":=PySem.code_inj _ _ ((Nat.eq_of_beq_eq_true q).trans (by decide+kernel))
      rw [this]
  · cases h
theorem pyIter_self {A:Around} {a:Addr} {o:Obj} {s:Shared} {Q:Value→Shared→Prop} {E:Value→Shared→Prop} (ho:s.heap.get? a = some o) (h:selfIter o = true) (hQ:Q (.ref a) s):
    wpAny (model prog w) A (pyIter (.ref a)) Q E s:=by
  rcases selfIter_type h with q | q
  · have hT:s.TypeIs (.ref a) "list_iterator":=⟨o,ho,q⟩
    refine wpAny_pyIter_slot hT slot_listiter_iter (wpAny_call_entry slot_listiter_iter hT entry_listiter_iter ?_ (args_listiter_iter _))
    show wpAny _ _ (ret (.ref a)) _ _ s
    exact wpAny_pure ⟨_,rfl,"list_iterator",_,hT,slot_listiter_next.lookup,hQ⟩
  · have hT:s.TypeIs (.ref a) "range_iterator":=⟨o,ho,q⟩
    refine wpAny_pyIter_slot hT F.slot_range_iterator_iter (wpAny_call_entry F.slot_range_iterator_iter hT F.entry_range_iterator_iter ?_ (F.args_range_iterator_iter_1 _))
    show wpAny _ _ (ret (.ref a)) _ _ s
    exact wpAny_pure ⟨_,rfl,"range_iterator",_,hT,F.slot_range_iterator_next.lookup,hQ⟩
noncomputable def A1 (Γ:Ctx):Around:={handled:=Γ.handled,depth:=frameCount Γ.below+Γ.code.weight,frames:=none,guards:=none,units:=Γ.units}
theorem in_A1 (Γ:Ctx):Γ.In (A1 Γ):=⟨rfl,Nat.le_refl _,fun _ h=>(nomatch h),fun _ h=>(nomatch h),Nat.le_refl _⟩
theorem comp_goto {Γ:Ctx} {elt tg it:Expr} {ifs:List Expr} {rest:List Comprehension} {scope:Scope} {pos:Pos} {a:Addr} {acc:Value} {env:Env} {o:Obj} {p q:Pos} {s:Shared} {R:Result→Shared→Prop} {k':Unit→Sem Fin}
    (hden:denote table (.compLoop (.ListComp elt (⟨tg,it,ifs,0⟩::rest) scope pos) 0 (.ref a) acc env) = .at q k') (hc:Γ.code = .compStart (.ListComp elt (⟨tg,it,ifs,0⟩::rest) scope pos) 0 (.ref a) acc env)
    (ho:s.heap.get? a = some o) (hi:selfIter o = true)
    (h:∀Γ':Ctx,Γ'.code = .compLoop (.ListComp elt (⟨tg,it,ifs,0⟩::rest) scope pos) 0 (.ref a) acc env→Γ'.below = Γ.below→Γ'.handled = Γ.handled→wpF (model prog w) Γ' (k' ()) R q s):
    wpCode (model prog w) Γ R p s:=by
  refine wpCode_of ?_
  rw [hc]
  show wpF _ _ ((compStart (.ListComp elt (⟨tg,it,ifs,0⟩::rest) scope pos) 0 (.ref a) acc env).onRaise (fun x=>do noteFrame x env;standAt theWindowsPlace)) _ _ s
  unfold wpF
  rw [Sem.wp_onRaise]
  unfold compStart
  have key:∀p',wpCode (model prog w) (Γ.goto (.compLoop (.ListComp elt (⟨tg,it,ifs,0⟩::rest) scope pos) 0 (.ref a) acc env)) R p' s:=fun p'=>by
    refine wpCode_of ?_
    show wpF _ _ (denote table (.compLoop (.ListComp elt (⟨tg,it,ifs,0⟩::rest) scope pos) 0 (.ref a) acc env)) _ _ s
    rw [hden]
    unfold wpF
    rw [Sem.wp_at]
    exact h _ rfl rfl rfl
  show Sem.wp _ _ (ask >>= _) _ _ _ s
  rw [Sem.wp_bind']
  show Sem.wp _ _ (Sem.ask _) _ _ _ s
  rw [Sem.wp_ask]
  show Sem.wp _ _ (Sem.pure _) _ _ _ s
  rw [Sem.wp_pure]
  split
  · show Sem.wp _ _ (again _ >>= _) _ _ _ s
    rw [Sem.wp_bind']
    show Sem.wp _ _ (Sem.pure _) _ _ _ s
    rw [Sem.wp_pure]
    show Sem.wp _ _ (Sem.pure _) _ _ _ s
    rw [Sem.wp_pure]
    exact ⟨rfl,key _⟩
  · show Sem.wp _ _ (rule _ >>= _) _ _ _ s
    rw [Sem.wp_bind']
    show Sem.wp _ _ (Sem.rule _ _) _ _ _ s
    rw [Sem.wp_rule,Sem.wp_pure]
    show Sem.wp _ _ (standAt it.pos >>= _) _ _ _ s
    rw [Sem.wp_bind']
    show Sem.wp _ _ (Sem.at _ _) _ _ _ s
    rw [Sem.wp_at,Sem.wp_pure]
    show Sem.wp _ _ (pyIter (.ref a) >>= _) _ _ _ s
    rw [Sem.wp_bind']
    refine Sem.wp_mono _ _ _ (fun v p' s' hv=>?_) (fun _ _ _ hv=>hv.elim) _ _ (pyIter_self (A:=A1 Γ) (Q:=fun v s'=>v = .ref a∧s' = s) (E:=fun _ _=>False) ho hi ⟨rfl,rfl⟩ Γ it.pos (in_A1 Γ))
    obtain ⟨rfl,rfl⟩:=hv
    show Sem.wp _ _ (Sem.pure _) _ _ _ _
    rw [Sem.wp_pure]
    exact ⟨rfl,key _⟩
end
section
variable {V:Vw} {b:Bs} {F:Out→Prop}
theorem ob_v {v v':Value} {o:Out} {x:Ob×Ob} {ob:List (Ob×Ob)} {ds:List Bool} (h:Good F o) (e:Ext o (x::(.v v,.v v')::ob) ds):v = v':=by
  obtain ⟨xs,ys,h1,h2⟩:=e
  have:=h.2.1 (.v v,.v v') (by rw [h1];exact List.mem_append_right _ (.tail _ (.head _)))
  cases this;rfl
theorem ob_t3 {t t':Sem Fin} {o:Out} {x y:Ob×Ob} {ob:List (Ob×Ob)} {ds:List Bool} (h:Good F o) (e:Ext o (x::y::(.t t,.t t')::ob) ds):t = t':=by
  obtain ⟨xs,ys,h1,h2⟩:=e
  have:=h.2.1 (.t t,.t t') (by rw [h1];exact List.mem_append_right _ (.tail _ (.tail _ (.head _))))
  cases this;rfl
theorem tc_sound {n:Nat} {f:Tcpt} {t:Sem Fin} {hs:List Nat} {c:Code} {p:Pos} {κ:List Kn} {sz tk m:Nat} {T:Tr Ent} {ob:List (Ob×Ob)} {ds:List Bool} {s:Shared} (hf:TcOk V (model V.prog V.w) b f)
    (IH:∀(hs:List Nat) (t:Sem Fin) (c:Code) (p:Pos) (κ:List Kn) (sz tk m:Nat) (T:Tr Ent) (ob:List (Ob×Ob)) (ds:List Bool) (s:Shared),
      Rel b sz tk m T s→(∀ω,Good F (sim V n ω hs t c p κ sz tk m T ob ds))→
      ∀Γ:Ctx,Γ.code = c→Γ.below = stk κ V.B→Γ.handled = none→wpF (model V.prog V.w) Γ t (MK V (model V.prog V.w) (base b F) κ) p s)
    (r:Rel b sz tk m T s) (H:∀ω,∃r:TRes,f (ev ω) ((c,p)::stk κ V.B) c t hs sz tk m T = some r∧Good F (sim V n (od ω) r.hs r.t c p κ r.sz r.tk r.m r.T (r.ob++ob) (r.ds++ds)))
    (Γ:Ctx) (hc:Γ.code = c) (hb:Γ.below = stk κ V.B) (hh:Γ.handled = none):wpF (model V.prog V.w) Γ t (MK V (model V.prog V.w) (base b F) κ) p s:=by
  refine hf Γ c t hs sz tk m T p s _ κ hc (by rw [hb]) hh r fun ω=>?_
  obtain ⟨x,e,g⟩:=H (weave ω fun _=>0)
  rw [ev_weave] at e
  obtain ⟨xs,ys,h1,h2⟩:=sim_ext V n (od (weave ω fun _=>0)) x.hs x.t c p κ x.sz x.tk x.m x.T (x.ob++ob) (x.ds++ds)
  refine ⟨x,e,fun y hy=>g.2.1 y (by rw [h1];exact List.mem_append_right _ (List.mem_append_left _ hy)),fun y hy=>g.2.2.1 y (by rw [h2];exact List.mem_append_right _ (List.mem_append_left _ hy)),fun s' r'=>?_⟩
  refine IH x.hs x.t c p κ x.sz x.tk x.m x.T (x.ob++ob) (x.ds++ds) s' r' (fun ω'=>?_) Γ hc hb hh
  obtain ⟨x',e',g'⟩:=H (weave ω ω')
  rw [ev_weave] at e'
  rw [od_weave] at g'
  rw [e] at e'
  cases e'
  exact g'
theorem sim_sound (hden:V.den = denote table) (hkt:KtOk V b) (hic:∀j,IcOk V (model V.prog V.w) b (V.ic j)) (htc:∀j,TcOk V (model V.prog V.w) b (V.tc j)):
    ∀ (n:Nat) (hs:List Nat) (t:Sem Fin) (c:Code) (p:Pos) (κ:List Kn) (sz tk m:Nat) (T:Tr Ent) (ob:List (Ob×Ob)) (ds:List Bool) (s:Shared),
      Rel b sz tk m T s→(∀ω,Good F (sim V n ω hs t c p κ sz tk m T ob ds))→
      ∀Γ:Ctx,Γ.code = c→Γ.below = stk κ V.B→Γ.handled = none→wpF (model V.prog V.w) Γ t (MK V (model V.prog V.w) (base b F) κ) p s
  | 0,hs,t,c,p,κ,sz,tk,m,T,ob,ds,s,_,H=>fun Γ _ _ _=>halt_bad (H fun _=>0)
  | n + 1,hs,t,c,p,κ,sz,tk,m,T,ob,ds,s,r,H=>by
    have IH:=sim_sound hden hkt hic htc n
    have ω₀:Nat→Nat:=fun _=>0
    intro Γ hc hb hh
    unfold wpF
    cases t with
    | pure fin=>
      rw [Sem.wp_pure]
      cases fin with
      | done f=>
        show MK V (model V.prog V.w) (base b F) κ (.ok f) s
        cases κ with
        | nil=>
          have z:=H ω₀
          exact ⟨_,z.2.2.2,rfl,r⟩
        | cons kn κ=>exact fun Γ' h1 h2 h3=>IH _ _ _ _ _ _ _ _ _ _ _ s r H Γ' h1 h2 h3
      | again c'=>
        cases hq:c'.quiet with
        | false=>
          have z:=H ω₀
          simp only [sim,hq] at z
          exact halt_bad z
        | true=>
          refine ⟨hq,wpCode_of ?_⟩
          have:=IH hs (V.den c') c' p κ sz tk m T ob ds s r (fun ω=>by have z:=H ω;simp only [sim,hq] at z;exact z) (Γ.goto c') rfl hb hh
          rw [hden] at this
          exact this
    | raise e=>
      rw [Sem.wp_raise]
      show MK V (model V.prog V.w) (base b F) κ (.error e) s
      cases κ with
      | nil=>
        have z:=H ω₀
        exact ⟨_,z.2.2.2,rfl,r⟩
      | cons kn κ=>exact fun Γ' h1 h2 h3=>IH _ _ _ _ _ _ _ _ _ _ _ s r H Γ' h1 h2 h3
    | rule _ k=>rw [Sem.wp_rule];exact IH _ _ _ _ _ _ _ _ _ _ _ s r H Γ hc hb hh
    | «at» q k=>rw [Sem.wp_at];exact IH _ _ _ _ _ _ _ _ _ _ _ s r H Γ hc hb hh
    | point q k=>
      have plain:(∀ω₁,Good F (sim V n ω₁ hs (k ()) c p κ sz tk m T ob ds))→Sem.wp (model V.prog V.w) Γ (.point q k) (Sem.finPost (model V.prog V.w) Γ (MK V (model V.prog V.w) (base b F) κ)) (fun e _ s'=>MK V (model V.prog V.w) (base b F) κ (.error e) s') p s:=fun H'=>by
        rw [Sem.wp_point]
        exact IH _ _ _ _ _ _ _ _ _ _ _ s r H' Γ hc hb hh
      cases hs with
      | nil=>
        refine plain fun ω₁=>?_
        have z:=H ω₁
        simp only [sim] at z
        exact z
      | cons h hs=>
        cases hbl:Nat.ble magic h with
        | false=>
          refine plain fun ω₁=>?_
          have z:=H ω₁
          simp only [sim,hbl] at z
          exact z
        | true=>
          refine tc_sound (hs:=hs) (ob:=ob) (ds:=ds) (htc (h - magic)) IH r ?_ Γ hc hb hh
          intro ω
          have z:=H ω
          simp only [sim,hbl] at z
          cases e:V.tc (h - magic) (ev ω) ((c,p)::stk κ V.B) c (.point q k) hs sz tk m T with
          | none=>rw [e] at z;exact halt_bad z
          | some r=>rw [e] at z;exact ⟨r,rfl,z⟩
    | ask k =>
      rw [Sem.wp_ask]
      cases hs with
      | nil=>exact halt_bad (H ω₀)
      | cons h hs=>cases h with
        | zero=>
          have:=IH hs (k ⟨V.prog,V.w.params⟩) c p κ sz tk m T ob ds s r H Γ hc hb hh
          exact this
        | succ j=>
          have e:=ob_t (H ω₀) (sim_ext V n ω₀ hs _ c p κ sz tk m T _ ds)
          have:=IH hs _ c p κ sz tk m T _ ds s r H Γ hc hb hh
          have key:k ⟨V.prog,V.w.params⟩ = k ⟨V.prog,(V.w.withFollow (V.row j) true).params⟩:=by
            have q:=World.withFollow_self V.w (V.row j)
            cases hbv:V.w.params.followText (V.row j) with
            | true=>rw [hbv] at q;rw [q]
            | false=>rw [hbv] at q;rw [e,q]
          show Sem.wp _ _ (k ⟨V.prog,V.w.params⟩) _ _ _ _
          rw [key]
          exact this
    | fresh k=>
      rw [Sem.wp_fresh,r.toks]
      refine IH _ _ _ _ _ _ _ _ _ _ _ _ ?_ H Γ hc hb hh
      exact ⟨r.size,rfl,r.gens,r.drawn,r.os,r.own,r.inj,r.keep,r.grow⟩
    | load a q k=>
      rw [Sem.wp_load]
      cases hs with
      | nil=>exact halt_bad (H ω₀)
      | cons h hs=>cases h with
        | zero=>
          cases e:V.kt a with
          | none=>have z:=H ω₀;simp only [sim,e] at z;exact halt_bad z
          | some o=>
            have hk:=hkt a o e
            exact ⟨o,r.keep a o hk.1 hk.2,IH _ _ _ _ _ _ _ _ _ _ _ s r (fun ω=>by have z:=H ω;simp only [sim,e] at z;exact z) Γ hc hb hh⟩
        | succ i=>cases i with
          | zero=>
            rw [←Sem.wp_load (part:=q)]
            cases hs with
            | nil=>exact halt_bad (H ω₀)
            | cons i hs=>
             cases hbl:Nat.ble magic i with
             | true=>
              refine tc_sound (hs:=hs) (ob:=ob) (ds:=ds) (htc (i - magic)) IH r ?_ Γ hc hb hh
              intro ω
              have z:=H ω
              simp only [sim,hbl] at z
              cases e:V.tc (i - magic) (ev ω) ((c,p)::stk κ V.B) c (.load a q k) hs sz tk m T with
              | none=>rw [e] at z;exact halt_bad z
              | some r=>rw [e] at z;exact ⟨r,rfl,z⟩
             | false=>have z:=H ω₀;simp only [sim,hbl] at z;exact halt_bad z
          | succ i=>
          cases e:T.get i with
          | none=>have z:=H ω₀;simp only [sim,e] at z;exact halt_bad z
          | some en=>
            obtain ⟨a',o⟩:=en
            have H':∀ω,Good F (sim V n ω hs (k o) c p κ sz tk m T ((.n a,.n a')::ob) ds):=fun ω=>by have z:=H ω;simp only [sim,e] at z;exact z
            have ha:=ob_inj (H' ω₀) (sim_ext V n ω₀ hs _ c p κ sz tk m T _ ds)
            subst ha
            exact ⟨o,(r.own i a o e).2.1,IH _ _ _ _ _ _ _ _ _ _ _ s r H' Γ hc hb hh⟩
    | loadIfAlive a k=>
      rw [Sem.wp_loadIfAlive]
      cases hs with
      | nil=>exact halt_bad (H ω₀)
      | cons h hs=>cases h with
        | zero=>
          cases e:V.kt a with
          | none=>have z:=H ω₀;simp only [sim,e] at z;exact halt_bad z
          | some o=>
            have hk:=hkt a o e
            rw [r.keep a o hk.1 hk.2]
            exact IH _ _ _ _ _ _ _ _ _ _ _ s r (fun ω=>by have z:=H ω;simp only [sim,e] at z;exact z) Γ hc hb hh
        | succ i=>
          cases e:T.get i with
          | none=>have z:=H ω₀;simp only [sim,e] at z;exact halt_bad z
          | some en=>
            obtain ⟨a',o⟩:=en
            have H':∀ω,Good F (sim V n ω hs (k (some o)) c p κ sz tk m T ((.n a,.n a')::ob) ds):=fun ω=>by have z:=H ω;simp only [sim,e] at z;exact z
            have ha:=ob_inj (H' ω₀) (sim_ext V n ω₀ hs _ c p κ sz tk m T _ ds)
            subst ha
            rw [(r.own i a o e).2.1]
            exact IH _ _ _ _ _ _ _ _ _ _ _ s r H' Γ hc hb hh
    | update a q f k=>
      rw [Sem.wp_update]
      cases hs with
      | nil=>exact halt_bad (H ω₀)
      | cons i hs=>
        cases e:T.get i with
        | none=>have z:=H ω₀;simp only [sim,e] at z;exact halt_bad z
        | some en=>
          obtain ⟨a',o⟩:=en
          cases hf:(f o).isFreed with
          | true=>have z:=H ω₀;simp only [sim,e,hf] at z;exact halt_bad z
          | false=>
            cases hg:(T.ins i (a',f o)).get i with
            | none=>have z:=H ω₀;simp only [sim,e,hf,hg] at z;exact halt_bad z
            | some e'=>
              have H':∀ω,Good F (sim V n ω hs (k ()) c p κ sz tk m (T.ins i (a',f o)) ((.n a,.n a')::ob) ds):=fun ω=>by have z:=H ω;simp only [sim,e,hf,hg] at z;exact z
              have ha:=ob_inj (H' ω₀) (sim_ext V n ω₀ hs _ c p κ sz tk m _ _ ds)
              subst ha
              exact ⟨by rw [(r.own i a o e).2.1];rfl,IH _ _ _ _ _ _ _ _ _ _ _ _ (r.update e hf hg) H' Γ hc hb hh⟩
    | alloc o k=>
      rw [Sem.wp_alloc,r.size]
      cases hf:o.isFreed with
      | true=>have z:=H ω₀;simp only [sim,hf] at z;exact halt_bad z
      | false=>
        cases hg:(T.ins m (sz,o)).get m with
        | none=>have z:=H ω₀;simp only [sim,hf,hg] at z;exact halt_bad z
        | some e'=>
          exact IH _ _ _ _ _ _ _ _ _ _ _ _ (r.alloc hf hg) (fun ω=>by have z:=H ω;simp only [sim,hf,hg] at z;exact z) Γ hc hb hh
    | call c' hd g l k=>
      rw [Sem.wp_call]
      cases hd with
      | some _=>exact halt_bad (H ω₀)
      | none=>
        have hE:(Γ.enter c' none p).handled = none:=hh
        cases hs with
        | nil=>exact halt_bad (H ω₀)
        | cons h hs =>cases h with
          | zero=>
            have hB:(Γ.enter c' none p).below = stk (⟨c,p,k⟩::κ) V.B:=by
              show (Γ.code,p)::Γ.below = _
              rw [hc,hb];rfl
            have z:=IH hs (V.den c') c' p (⟨c,p,k⟩::κ) sz tk m T ob ds s r H (Γ.enter c' none p) rfl hB hE
            rw [hden] at z
            exact wpCode_mono (fun r' s' q=>q Γ hc hb hh) (wpCode_of z)
          | succ j => cases j with
            | zero=>
              cases hs with
              | nil=>exact halt_bad (H ω₀)
              | cons i hs =>
                have hB:(Γ.enter c' none p).below = stk (⟨c,p,k⟩::κ) V.B:=by
                  show (Γ.code,p)::Γ.below = _
                  rw [hc,hb];rfl
                cases e:T.get i with
                | none=>
                  have z:=H ω₀
                  simp only [sim,e] at z
                  split at z <;> exact halt_bad z
                | some en =>
                  obtain ⟨a',o⟩:=en
                  have z:=H ω₀
                  simp only [sim,e] at z
                  split at z
                  · rename_i elt tg it ifs rest scope pos a acc env
                    split at z
                    · rename_i hi
                      split at z
                      · rename_i q k' hd
                        have H':∀ω,Good F (sim V n ω hs (k' ()) (.compLoop (.ListComp elt (⟨tg,it,ifs,0⟩::rest) scope pos) 0 (.ref a) acc env) q (⟨c,p,k⟩::κ) sz tk m T ((.n a,.n a')::ob) ds):=fun ω=>by
                          have z:=H ω;simp only [sim,e,hi,hd] at z;exact z
                        have ha:=ob_inj (H' ω₀) (sim_ext V n ω₀ hs _ _ q (⟨c,p,k⟩::κ) sz tk m T _ ds)
                        subst ha
                        refine comp_goto (by rw [←hden];exact hd) rfl (r.own i a o e).2.1 hi fun Γ' h1 h2 h3=>?_
                        have y:=IH _ _ _ _ _ _ _ _ _ _ _ s r H' Γ' h1 (h2.trans hB) (h3.trans hE)
                        refine Sem.wp_mono _ _ _ (fun fin p' s' hf=>?_) (fun x p' s' hf=>hf Γ hc hb hh) _ _ y
                        exact finPost_mono (fun r' s'' hr=>hr Γ hc hb hh) hf
                      · exact halt_bad z
                    · exact halt_bad z
                  · exact halt_bad z
            | succ j=>
            cases hl:Nat.ble κ.length 200 with
            | false=>have z:=H ω₀;simp only [sim,hl] at z;exact halt_bad z
            | true=>
            have hlen:(⟨c,p,k⟩::κ:List Kn).length≤201:=by
              have:=Nat.le_of_ble_eq_true hl
              rw [List.length_cons];omega
            refine hic j Γ c' hs sz tk m T p s _ (⟨c,p,k⟩::κ) (by rw [hc,hb];rfl) hlen hh r fun ω=>?_
            cases e:V.ic j ω ((c,p)::stk κ V.B) c' hs sz tk m T with
            | none=>
              have z:=H (weave ω ω)
              simp only [sim,hl,ev_weave,e] at z
              exact halt_bad z
            | some y=>
              have H':∀ω₁,Good F (sim V n ω₁ y.hs (k y.r) c p κ y.sz y.tk y.m y.T (y.ob++ob) (y.ds++ds)):=fun ω₁=>by
                have z:=H (weave ω ω₁)
                simp only [sim,hl,ev_weave,od_weave,e] at z
                exact z
              obtain ⟨xs,ys,h1,h2⟩:=sim_ext V n ω₀ y.hs (k y.r) c p κ y.sz y.tk y.m y.T (y.ob++ob) (y.ds++ds)
              have G:=H' ω₀
              refine ⟨y,e,fun x hx=>G.2.1 x (by rw [h1];exact List.mem_append_right _ (List.mem_append_left _ hx)),fun x hx=>G.2.2.1 x (by rw [h2];exact List.mem_append_right _ (List.mem_append_left _ hx)),fun s' r'=>?_⟩
              exact IH _ _ _ _ _ _ _ _ _ _ _ s' r' H' Γ hc hb hh
    | handled own k=>cases own with
      | false=>
        rw [Sem.wp_handled]
        show wpF (model V.prog V.w) Γ (k Γ.handled) _ p s
        rw [hh]
        exact IH _ _ _ _ _ _ _ _ _ _ _ s r H Γ hc hb hh
      | true=>exact halt_bad (H ω₀)
    | stack k=>
      have plain:(∀ω₁,Good F (sim V n ω₁ hs (k ((c,p)::stk κ V.B)) c p κ sz tk m T ob ds))→Sem.wp (model V.prog V.w) Γ (.stack k) (Sem.finPost (model V.prog V.w) Γ (MK V (model V.prog V.w) (base b F) κ)) (fun e _ s'=>MK V (model V.prog V.w) (base b F) κ (.error e) s') p s:=fun H'=>by
        rw [Sem.wp_stack,hc,hb]
        exact IH _ _ _ _ _ _ _ _ _ _ _ s r H' Γ hc hb hh
      cases hs with
      | nil=>
        refine plain fun ω₁=>?_
        have z:=H ω₁
        simp only [sim] at z
        exact z
      | cons h hs=>
        cases hbl:Nat.ble magic h with
        | false=>
          refine plain fun ω₁=>?_
          have z:=H ω₁
          simp only [sim,hbl] at z
          exact z
        | true=>
          refine tc_sound (hs:=hs) (ob:=ob) (ds:=ds) (htc (h - magic)) IH r ?_ Γ hc hb hh
          intro ω
          have z:=H ω
          simp only [sim,hbl] at z
          cases e:V.tc (h - magic) (ev ω) ((c,p)::stk κ V.B) c (.stack k) hs sz tk m T with
          | none=>rw [e] at z;exact halt_bad z
          | some r=>rw [e] at z;exact ⟨r,rfl,z⟩
    | _=>exact halt_bad (H ω₀)
end
end
end Mine
namespace Mine
noncomputable section
open PySem PySem.W PySem.Calls PyProof.Rows
noncomputable def A0 (Γ:Ctx):Around:={handled:=Γ.handled,depth:=frameCount Γ.below+Γ.code.weight,frames:=none,guards:=none,units:=Γ.units}
theorem in_A0 (Γ:Ctx):Γ.In (A0 Γ):=⟨rfl,Nat.le_refl _,fun _ h=>(nomatch h),fun _ h=>(nomatch h),Nat.le_refl _⟩
theorem ic_call {prog:Program} {w:World} {Γ:Ctx} {f:Value} {args:List Value} {kw:List (Str×Value)} {R:Result→Shared→Prop} {p:Pos} {s:Shared}
    (h:wpAny (model prog w) (A0 Γ) (call f args kw) (fun v s'=>R (.ok (.ret v)) s') (fun e s'=>R (.error e) s') s):
    wpCode (model prog w) (Γ.enter (.call f ⟨args,kw⟩) none p) R p s:=by
  have z:=h Γ p (in_A0 Γ)
  unfold call runValue run at z
  rw [Sem.wp_bind',Sem.wp_call] at z
  refine wpCode_mono (fun r s' q=>?_) z
  cases r with
  | error e=>
    simp only [Sem.wp_raise] at q
    exact q
  | ok fl=>
    simp only [Sem.wp_pure] at q
    cases fl with
    | ret v=>exact q
    | next=>simp only [unsupported,Sem.wp_unsupported] at q
    | brk=>simp only [unsupported,Sem.wp_unsupported] at q
    | cont=>simp only [unsupported,Sem.wp_unsupported] at q
noncomputable def icInt (N:Nat) (f:Int→Int→Int) (g:Int→Int→List Bool):Icpt:=fun _ _ c hs sz tk m T=>match c with
  | .call (.builtin id) ⟨[.int x _,.int y _],[]⟩=>match Nat.beq (PySem.code id) N with
    | true=>some ⟨.ok (.ret (.int (f x y) tk)),hs,sz,tk+1,m,T,[],g x y⟩
    | false=>none
  | _=>none
noncomputable def icCmp (N:Nat) (g:Int→Int→Bool):Icpt:=fun _ _ c hs sz tk m T=>match c with
  | .call (.builtin id) ⟨[.int x _,.int y _],[]⟩=>match Nat.beq (PySem.code id) N with
    | true=>match hs with
      | []=>none
      | h::hs=>match h with
        | 0=>some ⟨.ok (.ret (.bool false)),hs,sz,tk,m,T,[],[!(g x y)]⟩
        | _+1=>some ⟨.ok (.ret (.bool true)),hs,sz,tk,m,T,[],[g x y]⟩
    | false=>none
  | _=>none
section
variable {V:Vw} {prog:Program} {w:World} {b:Bs}
theorem Rel.tok {b:Bs} {sz tk m:Nat} {T:Tr Ent} {s:Shared} (r:Rel b sz tk m T s):Rel b sz (tk+1) m T {s with toks:=s.toks+1}:=
  ⟨r.size,by show s.toks+1 = tk+1;rw [r.toks],r.gens,r.drawn,r.os,r.own,r.inj,r.keep,r.grow⟩
theorem icInt_ok {id:String} {N:Nat} {f:Int→Int→Int} {g:Int→Int→List Bool} (hN:PySem.code id = N)
    (h:∀(A:Around) (x y:Int) (t u:Tok) (s:Shared) (Q:Value→Shared→Prop) (E:Value→Shared→Prop),(∀d∈g x y,d = true)→Q (.int (f x y) s.toks) {s with toks:=s.toks+1}→
      wpAny (model prog w) A (call (.builtin id) [.int x t,.int y u]) Q E s):IcOk V (model prog w) b (icInt N f g):=by
  intro Γ c hs sz tk m T p s R κ _ _ _ r H
  obtain ⟨y,e,_,_,_⟩:=H fun _=>0
  unfold icInt at e
  split at e
  · rename_i id' x tx z tz
    split at e
    · rename_i hid
      have hid':id' = id:=PySem.code_inj _ _ ((Nat.eq_of_beq_eq_true hid).trans hN.symm)
      subst hid'
      cases e
      obtain ⟨y',e',_,hd,hR⟩:=H fun _=>0
      have e2:icInt N f g (fun _=>0) (stk κ V.B) (.call (.builtin id') ⟨[.int x tx,.int z tz],[]⟩) hs sz tk m T = some ⟨.ok (.ret (.int (f x z) tk)),hs,sz,tk+1,m,T,[],g x z⟩:=by
        show (match Nat.beq (PySem.code id') N with | true=>some _ | false=>none) = _
        rw [hid]
      rw [e2] at e'
      cases e'
      refine ic_call (h _ _ _ _ _ _ _ _ hd ?_)
      rw [r.toks]
      have:=hR _ r.tok
      rw [r.toks] at this
      exact this
    · cases e
  · cases e
theorem icCmp_ok {id:String} {N:Nat} {g:Int→Int→Bool} (hN:PySem.code id = N)
    (h:∀(A:Around) (x y:Int) (t u:Tok) (s:Shared) (Q:Value→Shared→Prop) (E:Value→Shared→Prop),Q (.bool (g x y)) s→
      wpAny (model prog w) A (call (.builtin id) [.int x t,.int y u]) Q E s):IcOk V (model prog w) b (icCmp N g):=by
  intro Γ c hs sz tk m T p s R κ _ _ _ r H
  obtain ⟨y,e,_,hd,hR⟩:=H fun _=>0
  unfold icCmp at e
  split at e
  · rename_i id' x tx z tz
    split at e
    · rename_i hid
      have hid':id' = id:=PySem.code_inj _ _ ((Nat.eq_of_beq_eq_true hid).trans hN.symm)
      subst hid'
      refine ic_call (h _ _ _ _ _ _ _ _ ?_)
      split at e
      · cases e
      · split at e
        · cases e
          have q:=hd (!(g x z)) (.head _)
          have q':g x z = false:=by simpa using q
          rw [q']
          exact hR s r
        · cases e
          have q:=hd (g x z) (.head _)
          rw [q]
          exact hR s r
    · cases e
  · cases e
end
section
variable {V:Vw} {prog:Program} {w:World} {b:Bs}
open PySem.Builtin
theorem call_gv {T:String} {name:Str} {id:String} {B:Builtin} {self:Value} {rest:List Value} {m:Made} {A:Around} {s:Shared} {Q:Value→Shared→Prop} {E:Value→Shared→Prop}
    (slot:Slot T name id) (hT:s.TypeIs self T) (entry:entryFor table id = some B) (args:argsOk id ⟨self::rest,[]⟩) (g:Gives (B ⟨self::rest,[]⟩) m) (h:m.post Q s):
    wpAny (model prog w) A (call (.builtin id) (self::rest)) Q E s:=
  call_givesAt slot hT entry args (g.at (P:=fun _=>True)) trivial h
end
noncomputable def nAdd:Nat:=116512096292018843154739050
noncomputable def nSub:Nat:=116512060628576343961202538
noncomputable def nMul:Nat:=116512245094328231196454762
noncomputable def nMod:Nat:=116512097088030077292474218
noncomputable def nDiv:Nat:=128106770130096871752080967664072486762
noncomputable def nAnd:Nat:=116512097012594783534018410
noncomputable def nOr:Nat:=455126388041040040128362
noncomputable def nLt:Nat:=455126531311803185852266
noncomputable def nLe:Nat:=455125450447892616933226
noncomputable def nGt:Nat:=455126529904428302298986
noncomputable def nGe:Nat:=455125449040517733379946
noncomputable def nEq:Nat:=455126313168696235093866
noncomputable def nNe:Nat:=455125451010842570354538
noncomputable def mulOk (x y:Int):Bool:=(Int.natAbs x).blt (2 ^ 63) || (Int.natAbs y).blt (2 ^ 63)
noncomputable def divOk (x y:Int):Bool:=!(y == 0) && !(Builtin.divisionGoesByPylong x y)
noncomputable def icAdd:Icpt:=icInt nAdd (fun x y=>x+y) fun _ _=>[]
noncomputable def icSub:Icpt:=icInt nSub (fun x y=>x - y) fun _ _=>[]
noncomputable def icMul:Icpt:=icInt nMul (fun x y=>x*y) fun x y=>[mulOk x y]
noncomputable def icMod:Icpt:=icInt nMod Int.fmod fun _ y=>[!(y == 0)]
noncomputable def icDiv:Icpt:=icInt nDiv Int.fdiv fun x y=>[divOk x y]
noncomputable def icAnd:Icpt:=icInt nAnd Builtin.bitAnd fun _ _=>[]
noncomputable def icOr:Icpt:=icInt nOr Builtin.bitOr fun _ _=>[]
noncomputable def icLt:Icpt:=icCmp nLt fun x y=>decide (x < y)
noncomputable def icLe:Icpt:=icCmp nLe fun x y=>decide (x≤y)
noncomputable def icGt:Icpt:=icCmp nGt fun x y=>decide (x > y)
noncomputable def icGe:Icpt:=icCmp nGe fun x y=>decide (x≥y)
noncomputable def icEq:Icpt:=icCmp nEq fun x y=>x == y
noncomputable def icNe:Icpt:=icCmp nNe fun x y=>x != y
section
variable {V:Vw} {prog:Program} {w:World} {b:Bs}
theorem drop_ne {A:Around} {t:Sem Value} {Q:Value→Shared→Prop} {E:Value→Shared→Prop} {s:Shared} {M:Model} (h:wpAny M A t (fun v s'=>v≠Value.notImplemented∧Q v s') E s):wpAny M A t Q E s:=
  wpAny_mono h (fun _ _ x=>x.2) fun _ _ x=>x
theorem icAdd_ok:IcOk V (model prog w) b icAdd:=icInt_ok (id:="int.__add__") (by decide+kernel) fun A x y t u s Q E _ h=>
  call_gv F.slot_int_add (typeIs_int s x t) F.entry_int_add (F.args_int_add_2 _ _) (gives_int_add x y t u) h
theorem icSub_ok:IcOk V (model prog w) b icSub:=icInt_ok (id:="int.__sub__") (by decide+kernel) fun A x y t u s Q E _ h=>
  call_gv F.slot_int_sub (typeIs_int s x t) F.entry_int_sub (F.args_int_sub_2 _ _) (gives_int_sub x y t u) h
theorem bits_small {x:Int} (h:x.natAbs.blt (2 ^ 63) = true):Builtin.Int.intBits x≤64:=by
  have h':x.natAbs < 2 ^ 63:=Nat.le_of_ble_eq_true h
  exact intBits_le_64 (by omega) (by omega)
theorem mulOk_is {x y:Int} (h:mulOk x y = true):IntMulOk x y:=by
  unfold mulOk at h
  rcases (Bool.or_eq_true _ _).mp h with h | h
  · exact .of_left (bits_small h)
  · exact .of_right (bits_small h)
theorem icMul_ok:IcOk V (model prog w) b icMul:=icInt_ok (id:="int.__mul__") (by decide+kernel) fun A x y t u s Q E hd h=>
  call_gv F.slot_int_mul (typeIs_int s x t) F.entry_int_mul (F.args_int_mul_2 _ _) (gives_int_mul x y t u (mulOk_is (hd _ (.head _)))) h
theorem icMod_ok:IcOk V (model prog w) b icMod:=icInt_ok (id:="int.__mod__") (by decide+kernel) fun A x y t u s Q E hd h=>by
  have hb':(y == 0) = false:=by simpa using hd _ (.head _)
  refine drop_ne (wpAny_call_entry F.slot_int_mod (typeIs_int s x t) F.entry_int_mod ?_ (F.args_int_mod_2 _ _))
  show wpAny _ _ (do
    if y == 0 then rule "int.mod.zero";raiseError "ZeroDivisionError" "integer modulo by zero"
    ret (←mkInt (x.fmod y))) _ _ s
  simp only [hb',Bool.false_eq_true,if_false,pure_bind]
  exact wpAny_ret_mkInt ⟨by simp,h⟩
theorem icDiv_ok:IcOk V (model prog w) b icDiv:=icInt_ok (id:="int.__floordiv__") (by decide+kernel) fun A x y t u s Q E hd h=>by
  have q:=hd _ (.head _)
  unfold divOk at q
  rw [Bool.and_eq_true] at q
  exact drop_ne (call_int_floordiv (by simpa using q.1) h (.inl (by simpa using q.2)))
theorem icAnd_ok:IcOk V (model prog w) b icAnd:=icInt_ok (id:="int.__and__") (by decide+kernel) fun A x y t u s Q E _ h=>drop_ne (call_int_and h)
theorem icOr_ok:IcOk V (model prog w) b icOr:=icInt_ok (id:="int.__or__") (by decide+kernel) fun A x y t u s Q E _ h=>drop_ne (call_int_or h)
theorem icLt_ok:IcOk V (model prog w) b icLt:=icCmp_ok (id:="int.__lt__") (by decide+kernel) fun A x y t u s Q E h=>
  call_gv F.slot_int_lt (typeIs_int s x t) F.entry_int_lt (F.args_int_lt_2 _ _) (gives_int_lt x y t u) h
theorem icLe_ok:IcOk V (model prog w) b icLe:=icCmp_ok (id:="int.__le__") (by decide+kernel) fun A x y t u s Q E h=>
  call_gv F.slot_int_le (typeIs_int s x t) F.entry_int_le (F.args_int_le_2 _ _) (gives_int_le x y t u) h
theorem icGt_ok:IcOk V (model prog w) b icGt:=icCmp_ok (id:="int.__gt__") (by decide+kernel) fun A x y t u s Q E h=>
  call_gv F.slot_int_gt (typeIs_int s x t) F.entry_int_gt (F.args_int_gt_2 _ _) (gives_int_gt x y t u) h
theorem icGe_ok:IcOk V (model prog w) b icGe:=icCmp_ok (id:="int.__ge__") (by decide+kernel) fun A x y t u s Q E h=>
  call_gv F.slot_int_ge (typeIs_int s x t) F.entry_int_ge (F.args_int_ge_2 _ _) (gives_int_ge x y t u) h
theorem icEq_ok:IcOk V (model prog w) b icEq:=icCmp_ok (id:="int.__eq__") (by decide+kernel) fun A x y t u s Q E h=>
  call_gv F.slot_int_eq (typeIs_int s x t) F.entry_int_eq (F.args_int_eq_2 _ _) (gives_int_eq x y t u) h
theorem icNe_ok:IcOk V (model prog w) b icNe:=icCmp_ok (id:="int.__ne__") (by decide+kernel) fun A x y t u s Q E h=>
  call_gv F.slot_int_ne (typeIs_int s x t) F.entry_int_ne (F.args_int_ne_2 _ _) (gives_int_ne x y t u) h
end
end
end Mine
namespace Mine
noncomputable section
open PySem PySem.W PyProof.Rows
noncomputable def nBool:Nat:=29827134633612522566320484202
noncomputable def icModTo:Icpt:=fun _ _ c hs sz tk m T=>match c with
  | .call (.builtin id) ⟨[.int x _,.int y _],[]⟩=>match Nat.beq (PySem.code id) nMod with
    | true=>match hs with
      | []=>none
      | h::hs=>some ⟨.ok (.ret (.int (h:Int) tk)),hs,sz,tk+1,m,T,[],[!(y == 0),Int.fmod x y == (h:Int)]⟩
    | false=>none
  | _=>none
noncomputable def icTruth:Icpt:=fun _ _ c hs sz tk m T=>match c with
  | .call (.builtin id) ⟨[.int x _],[]⟩=>match Nat.beq (PySem.code id) nBool with
    | true=>match hs with
      | []=>none
      | h::hs=>match h with
        | 0=>some ⟨.ok (.ret (.bool false)),hs,sz,tk,m,T,[],[x == 0]⟩
        | _+1=>some ⟨.ok (.ret (.bool true)),hs,sz,tk,m,T,[],[x != 0]⟩
    | false=>none
  | _=>none
section
variable {V:Vw} {prog:Program} {w:World} {b:Bs}
theorem icModTo_ok:IcOk V (model prog w) b icModTo:=by
  intro Γ c hs sz tk m T p s R κ h1 h2 h3 r H
  obtain ⟨y,e,_,hd,_⟩:=H fun _=>0
  unfold icModTo at e
  split at e
  · rename_i id x tx z tz
    split at e
    · rename_i hid
      split at e
      · cases e
      · rename_i hh hs'
        cases e
        have q1:(!(z == 0)) = true:=hd _ (.head _)
        have q2:(Int.fmod x z == (hh:Int)) = true:=hd _ (.tail _ (.head _))
        have q2':Int.fmod x z = (hh:Int):=by simpa using q2
        refine icMod_ok (V:=V) (b:=b) Γ _ hs' sz tk m T p s R κ h1 h2 h3 r fun ω=>?_
        obtain ⟨y',e',_,_,hR⟩:=H ω
        have e2:icModTo ω (stk κ V.B) (.call (.builtin id) ⟨[.int x tx,.int z tz],[]⟩) (hh::hs') sz tk m T = some ⟨.ok (.ret (.int (hh:Int) tk)),hs',sz,tk+1,m,T,[],[!(z == 0),Int.fmod x z == (hh:Int)]⟩:=by
          show (match Nat.beq (PySem.code id) nMod with | true=>some _ | false=>none) = _
          rw [hid]
        rw [e2] at e'
        cases e'
        refine ⟨⟨.ok (.ret (.int (Int.fmod x z) tk)),hs',sz,tk+1,m,T,[],[!(z == 0)]⟩,?_,fun _ hx=>(nomatch hx),?_,?_⟩
        · show (match Nat.beq (PySem.code id) nMod with | true=>some _ | false=>none) = _
          rw [hid]
        · intro x hx
          rcases List.mem_cons.mp hx with rfl | hx
          · exact q1
          · cases hx
        · intro s' rel
          have:=hR s' rel
          show R (.ok (.ret (.int (Int.fmod x z) tk))) s'
          rw [q2']
          exact this
    · cases e
  · cases e
theorem icTruth_ok:IcOk V (model prog w) b icTruth:=by
  intro Γ c hs sz tk m T p s R κ h1 h2 h3 r H
  obtain ⟨y,e,_,hd,hR⟩:=H fun _=>0
  unfold icTruth at e
  split at e
  · rename_i id x tx
    split at e
    · rename_i hid
      have hid':id = "int.__bool__":=PySem.code_inj _ _ ((Nat.eq_of_beq_eq_true hid).trans (by decide+kernel))
      subst hid'
      refine ic_call (call_gv F.slot_int_bool (typeIs_int s x tx) F.entry_int_bool (F.args_int_bool_1 _) (gives_int_bool x tx) ?_)
      split at e
      · cases e
      · split at e
        · cases e
          have q:=hd (x == 0) (.head _)
          have q':(x != 0) = false:=by simpa using q
          show R (.ok (.ret (.bool (x != 0)))) s
          rw [q']
          exact hR s r
        · cases e
          have q:=hd (x != 0) (.head _)
          show R (.ok (.ret (.bool (x != 0)))) s
          rw [q]
          exact hR s r
    · cases e
  · cases e
end
noncomputable def nGet:Nat:=128106587276438692081757506308484131437
def nList:Nat:=1970563693
noncomputable def refAt (arr:Array Value) (k:Nat) (a:Nat):Bool:=match arr[k]? with
  | some (.ref x)=>Nat.beq x a
  | _=>false
noncomputable def icGet:Icpt:=fun _ _ c hs sz tk m T=>match c with
  | .call (.builtin id) ⟨[.ref a,.int k _],[]⟩=>match Nat.beq (PySem.code id) nGet with
    | true => match hs with
      | i ::j::hs=>match T.get i with
        | some e=>match e with
          | ⟨a',⟨.type nm,_,.seq arr _,_⟩⟩=>match Nat.beq (PySem.code nm) nList with
            | true=>match T.get j with
              | some e2=>some ⟨.ok (.ret (.ref e2.1)),hs,sz,tk,m,T,[(.n a,.n a')],[decide (0≤k),decide (k < 2 ^ 63),refAt arr k.toNat e2.1]⟩
              | none=>none
            | false=>none
          | _=>none
        | none=>none
      | _=>none
    | false=>none
  | _=>none
section
variable {V:Vw} {prog:Program} {w:World} {b:Bs}
open PySem.Builtin
theorem get_call {A:Around} {s:Shared} {Q:Value→Shared→Prop} {E:Value→Shared→Prop} {l:Addr} {items:Array Value} {k:Int} {t:Tok} {x:Value} (hl:s.heap.IsList l items)
    (h0:0≤k) (hfit:k < 2 ^ 63) (hx:items[k.toNat]? = some x) (h:Q x s):wpAny (model prog w) A (call (.builtin "list.__getitem__") [.ref l,.int k t]) Q E s:=by
  obtain ⟨o,ho,hc,ne,hd⟩:=id hl
  refine wpAny_call_entry F.slot_list_getitem hl.typeIs F.entry_list_getitem ?_ (F.args_list_getitem_2 _ _)
  show wpAny _ _ (Builtin.List.listSubscript? (.int k t) >>= _) _ _ s
  refine wpAny_bind (wpAny_listSubscript_int (fitsIndex_of h0 hfit) ?_)
  clear hfit
  obtain ⟨j,rfl⟩:=Int.eq_ofNat_of_zero_le h0
  have hx':items[j]? = some x:=hx
  show wpAny _ _ ((seqItemAt l j >>= fun r=>pure (r.map (j,·))) >>= _) _ _ s
  refine wpAny_bind (wpAny_bind (wpAny_seqItemAt ho hd (wpAny_pure ?_)))
  rw [hx']
  exact wpAny_pure ⟨x,rfl,h⟩
theorem refAt_is {arr:Array Value} {k a:Nat} (h:refAt arr k a = true):arr[k]? = some (.ref a):=by
  unfold refAt at h
  split at h
  · rename_i x e
    rw [e,Nat.eq_of_beq_eq_true h]
  · cases h
theorem icGet_ok:IcOk V (model prog w) b icGet:=by
  intro Γ c hs sz tk m T p s R κ _ _ _ r H
  obtain ⟨y,e,hob,hd,hR⟩:=H fun _=>0
  unfold icGet at e
  split at e
  · rename_i id a k kt
    split at e
    · rename_i hid
      have hid':id = "list.__getitem__":=PySem.code_inj _ _ ((Nat.eq_of_beq_eq_true hid).trans (by decide+kernel))
      subst hid'
      split at e
      · rename_i i j hs'
        split at e
        · rename_i e1 hT
          split at e
          · rename_i a' nm d arr n sl
            split at e
            · rename_i hnm
              have hnm':nm = "list":=PySem.code_inj _ _ ((Nat.eq_of_beq_eq_true hnm).trans (by decide+kernel))
              subst hnm'
              split at e
              · rename_i e2 hT2
                cases e
                have q0:=hob _ (.head _)
                have qa:a = a':=by injection q0
                subst qa
                have q1:decide (0≤k) = true:=hd _ (.head _)
                have q2:decide (k < 2 ^ 63) = true:=hd _ (.tail _ (.head _))
                have q3:refAt arr k.toNat e2.1 = true:=hd _ (.tail _ (.tail _ (.head _)))
                exact ic_call (get_call ⟨_,(r.own _ _ _ hT).2.1,rfl,n,rfl⟩ (of_decide_eq_true q1) (of_decide_eq_true q2) (refAt_is q3) (hR s r))
              · cases e
            · cases e
          · cases e
        · cases e
      · cases e
    · cases e
  · cases e
end
noncomputable def nAppend:Nat:=122627580202994350266018413
noncomputable def icAppend:Icpt:=fun _ _ c hs sz tk m T=>match c with
  | .call (.builtin id) ⟨[.ref a,v],[]⟩=>match Nat.beq (PySem.code id) nAppend with
    | true=>match hs with
      | i :: hs =>match T.get i with
        | some e=>match e with
          | ⟨a',⟨c1,d1,.seq arr n,sl⟩⟩=>match (T.ins i (a',Obj.mapSeq (·.push v) {cls:= .type "list",data:= .seq arr n})).get i with
            | some _=>some ⟨.ok (.ret .none),hs,sz,tk,m,T.ins i (a',Obj.mapSeq (·.push v) {cls:= .type "list",data:= .seq arr n}),
                [(.n a,.n a'),(.o ⟨c1,d1,.seq arr n,sl⟩,.o {cls:= .type "list",data:= .seq arr n})],[Nat.ble arr.size 1000]⟩
            | none=>none
          | _=>none
        | none=>none
      | _=>none
    | false=>none
  | _=>none
section
variable {V:Vw} {prog:Program} {w:World} {b:Bs}
theorem icAppend_ok:IcOk V (model prog w) b icAppend:=by
  intro Γ c hs sz tk m T p s R κ _ _ _ r H
  obtain ⟨y,e,hob,hd,hR⟩:=H fun _=>0
  unfold icAppend at e
  split at e
  · rename_i id a v
    split at e
    · rename_i hid
      have hid':id = "list.append":=PySem.code_inj _ _ ((Nat.eq_of_beq_eq_true hid).trans (by decide+kernel))
      subst hid'
      split at e
      · rename_i i hs'
        split at e
        · rename_i e1 hT
          split at e
          · rename_i a' c1 d1 arr n sl
            split at e
            · rename_i e2 hg
              cases e
              have q0:=hob _ (.head _)
              have qa:a = a':=by injection q0
              subst qa
              have q1:=hob _ (.tail _ (.head _))
              have qo:(⟨c1,d1,.seq arr n,sl⟩:Obj) = {cls:= .type "list",data:= .seq arr n}:=by injection q1
              rw [qo] at hT
              have q2:Nat.ble arr.size 1000 = true:=hd _ (.head _)
              have hsz:arr.size≤sizeLine:=Nat.le_trans (Nat.le_of_ble_eq_true q2) (by decide)
              have hl:s.heap.get? a = some {cls:= .type "list",dict:=none,data:= .seq arr n,slots:=#[]}:=(r.own _ _ _ hT).2.1
              refine ic_call (call_meets F.slot_list_append (Heap.IsList.typeIs ⟨_,hl,rfl,n,rfl⟩) F.entry_list_append (F.args_list_append_2 _ _) (list_append a arr n v hsz) ⟨hl,?_⟩)
              exact hR _ (r.update hT rfl hg)
            · cases e
          · cases e
        · cases e
      · cases e
    · cases e
  · cases e
end
end
end Mine
namespace Mine
noncomputable section
open PySem PySem.W
noncomputable def forceN {α:Type} (a:Nat) (k:Nat→α):α:=match a with
  | 0=>k 0
  | n+1=>k (n+1)
theorem forceN_eq {α:Type} (a:Nat) (k:Nat→α):forceN a k = k a:=by cases a <;> rfl
noncomputable def obF1 (x:Ob×Ob):Ob×Ob:=match x with
  | (.n a,.n b)=>forceN a fun a=>forceN b fun b=>(.n a,.n b)
  | (.o a,.o b)=>match a with
    | ⟨c,d,e,f⟩=>match b with
      | ⟨c',d',e',f'⟩=>(.o ⟨c,d,e,f⟩,.o ⟨c',d',e',f'⟩)
  | x=>x
theorem obF1_eq (x:Ob×Ob):obF1 x = x:=by
  unfold obF1
  split
  · rw [forceN_eq,forceN_eq]
  · rfl
  · rfl
noncomputable def icFo (f:Icpt):Icpt:=fun ω st c hs sz tk m T=>match f ω st c hs sz tk m T with
  | some r=>some {r with ob:=r.ob.map obF1}
  | none=>none
theorem icFo_eq (f:Icpt):icFo f = f:=by
  funext ω st c hs sz tk m T
  unfold icFo
  cases f ω st c hs sz tk m T with
  | none=>rfl
  | some r=>
    have e:r.ob.map obF1 = r.ob:=by rw [List.map_congr_left (fun x _=>obF1_eq x),List.map_id']
    show some {r with ob:=r.ob.map obF1} = some r
    rw [e]
theorem icFo_ok {V:Vw} {M:Model} {b:Bs} {f:Icpt} (h:IcOk V M b f):IcOk V M b (icFo f):=by rw [icFo_eq];exact h
end
end Mine
namespace Mine
noncomputable section
open PySem PySem.W
variable {b:Bs} {sz tk m sz' tk' m':Nat} {T T' T1 T2:Tr Ent} {s s':Shared}
noncomputable def insL:Nat→List Ent→Tr Ent→Option (Tr Ent)
  | _,[],T=>some T
  | i,e::l,T=>match (T.ins i e).get i with
    | some _=>insL (i+1) l (T.ins i e)
    | none=>none
theorem insL_get:∀{l:List Ent} {i:Nat} {T T':Tr Ent},insL i l T = some T'→∀j,T'.get j = if i≤j∧j < i+l.length then l[j - i]? else T.get j
  | [],i,T,T',h,j=>by
    cases h
    rw [if_neg (by simp only [List.length_nil];omega)]
  | e ::l,i,T,T',h,j=>by
    unfold insL at h
    cases hg:(T.ins i e).get i with
    | none=>rw [hg] at h;cases h
    | some x=>
      rw [hg] at h
      rw [insL_get h j,Tr.get_ins e T i (by rw [hg];rfl)]
      simp only [List.length_cons]
      by_cases q:j = i
      · subst q
        rw [if_neg (by omega),if_pos rfl,if_pos (by omega),Nat.sub_self];rfl
      · rw [if_neg q]
        by_cases r:i+1≤j∧j < i+1+l.length
        · rw [if_pos r,if_pos (by omega),show j - i = (j - (i+1))+1 by omega,List.getElem?_cons_succ]
        · rw [if_neg r,if_neg (by omega)]
noncomputable def setL:List (Nat×Ent)→Tr Ent→Option (Tr Ent)
  | [],T=>some T
  | x::l,T=>match (T.ins x.1 x.2).get x.1 with
    | some _=>setL l (T.ins x.1 x.2)
    | none=>none
theorem setL_get:∀{l:List (Nat×Ent)} {T T':Tr Ent},setL l T = some T'→(l.map (·.1)).Nodup→∀j,
    (∀e,(j,e)∈l→T'.get j = some e)∧(j∉l.map (·.1)→T'.get j = T.get j)
  | [],T,T',h,_,j=>by
    cases h
    exact ⟨fun e he=>(by cases he),fun _=>rfl⟩
  | x ::l,T,T',h,nd,j=>by
    unfold setL at h
    cases hg:(T.ins x.1 x.2).get x.1 with
    | none=>rw [hg] at h;cases h
    | some y=>
      rw [hg] at h
      simp only [List.map_cons,List.nodup_cons] at nd
      obtain ⟨h1,h2⟩:=setL_get h nd.2 j
      have gi:=Tr.get_ins x.2 T x.1 (by rw [hg];rfl) j
      refine ⟨fun e he=>?_,fun hn=>?_⟩
      · rcases List.mem_cons.mp he with rfl | he
        · rw [h2 nd.1,gi];exact if_pos rfl
        · exact h1 e he
      · simp only [List.map_cons,List.mem_cons,not_or] at hn
        rw [h2 hn.2,gi,if_neg hn.1]
noncomputable def subB (s:Shared) (ents:List Ent):Bs:=⟨s.heap,ents.map (·.1),s.gens,s.drawn,s.os⟩
theorem getElem?_of_maps {α β:Type} {sel:List α} {f:α→Option β} {ents:List β} (h:sel.map f = ents.map some) {k:Nat} {i:α} (hi:sel[k]? = some i):∃e,ents[k]? = some e∧f i = some e:=by
  have:=congrArg (fun l=>l[k]?) h
  simp only [List.getElem?_map,hi,Option.map_some] at this
  cases he:ents[k]? with
  | none=>rw [he] at this;cases this
  | some e=>rw [he] at this;exact ⟨e,rfl,Option.some.inj this⟩
theorem length_of_maps {α β:Type} {sel:List α} {f:α→Option β} {ents:List β} (h:sel.map f = ents.map some):sel.length = ents.length:=by
  have:=congrArg List.length h
  simpa using this
theorem nodup_at {l:List Nat} (h:l.Nodup) {i j:Nat} {hi:i < l.length} {hj:j < l.length} (e:l[i] = l[j]):i = j:=by
  rw [List.nodup_iff_pairwise_ne,List.pairwise_iff_getElem] at h
  rcases Nat.lt_trichotomy i j with q | q | q
  · exact absurd e (h i j hi hj q)
  · exact q
  · exact absurd e.symm (h j i hj hi q)
theorem embed (R:Rel b sz tk m T s) {sel:List Nat} {ents:List Ent} (h:sel.map T.get = ents.map some) (nd:sel.Nodup) {T0:Tr Ent} (h0:insL 0 ents .nil = some T0):
    Rel (subB s ents) sz tk ents.length T0 s:=by
  have len:=length_of_maps h
  have at_:∀(i:Nat) (e:Ent),T0.get i = some e→i < ents.length∧ents[i]? = some e:=by
    intro i e g
    rw [insL_get h0 i] at g
    by_cases q:0≤i∧i < 0+ents.length
    · rw [if_pos q] at g;exact ⟨by omega,g⟩
    · rw [if_neg q] at g;simp [Tr.get] at g
  have sel_:∀(i:Nat) (e:Ent),ents[i]? = some e→∃j:Nat,sel[i]? = some j∧T.get j = some e:=by
    intro i e g
    have hl:=List.getElem?_eq_some_iff.mp g
    have hi:i < sel.length:=by rw [len];exact hl.1
    obtain ⟨e',h1,h2⟩:=getElem?_of_maps h (List.getElem?_eq_getElem hi)
    rw [g] at h1;cases h1
    exact ⟨_,List.getElem?_eq_getElem hi,h2⟩
  refine ⟨R.size,R.toks,rfl,rfl,rfl,fun i a o g=>?_,fun i j a o o' g g'=>?_,fun a o g _=>g,Nat.le_refl _⟩
  · obtain ⟨q1,q2⟩:=at_ i _ g
    obtain ⟨j,_,q4⟩:=sel_ i _ q2
    exact ⟨q1,(R.own _ _ _ q4).2.1,.inl (List.mem_map.mpr ⟨_,List.mem_of_getElem? q2,rfl⟩)⟩
  · obtain ⟨j1,q1,q2⟩:=sel_ i _ (at_ i _ g).2
    obtain ⟨j2,q3,q4⟩:=sel_ j _ (at_ j _ g').2
    have:=R.inj _ _ _ _ _ q2 q4
    subst this
    have e1:=List.getElem?_eq_some_iff.mp q1
    have e2:=List.getElem?_eq_some_iff.mp q3
    obtain ⟨l1,e1⟩:=e1
    obtain ⟨l2,e2⟩:=e2
    exact nodup_at nd (e1.trans e2.symm)
noncomputable def Pub (sel:List Nat) (posts news:List Ent) (m:Nat) (T T2:Tr Ent):Prop:=∀i,
  (m≤i∧i < m+news.length→T2.get i = news[i - m]?)∧
  (¬ (m≤i∧i < m+news.length)→(∀e,(i,e)∈sel.zip posts→T2.get i = some e)∧(i∉sel→T2.get i = T.get i))
theorem pub_of {sel:List Nat} {posts news:List Ent} (nd:sel.Nodup) (hl:sel.length = posts.length) (h1:setL (sel.zip posts) T = some T1) (h2:insL m news T1 = some T2):Pub sel posts news m T T2:=by
  have hz:(sel.zip posts).map (·.1) = sel:=by rw [List.map_fst_zip];omega
  intro i
  refine ⟨fun q=>?_,fun q=>?_⟩
  · rw [insL_get h2 i,if_pos q]
  · rw [insL_get h2 i,if_neg q]
    obtain ⟨s1,s2⟩:=setL_get h1 (by rw [hz];exact nd) i
    rw [hz] at s2
    exact ⟨s1,s2⟩
theorem embed_back2 (R:Rel b sz tk m T s) {sel is:List Nat} {ents posts news:List Ent} (h:sel.map T.get = ents.map some) (nd:sel.Nodup)
    (R':Rel (subB s ents) sz' tk' m' T' s') (hlen:posts.length = ents.length) (hn:is.map T'.get = (posts++news).map some) (ndi:is.Nodup)
    (hpub:Pub sel posts news m T T2):Rel b sz' tk' (m+news.length) T2 s':=by
  have len:=length_of_maps h
  have lenn:=length_of_maps hn
  rw [List.length_append] at lenn
  have kinds:∀i a o,T2.get i = some (a,o)→
      (∃j k,is[j]? = some k∧T'.get k = some (a,o)∧((j < posts.length∧sel[j]? = some i∧(∃e,T.get i = some e))∨(i = m+(j - posts.length)∧posts.length≤j∧i < m+news.length)))∨
      (i∉sel∧T.get i = some (a,o)):=by
    intro i a o g
    by_cases q:m≤i∧i < m+news.length
    · rw [(hpub i).1 q] at g
      left
      have hl:posts.length+(i - m) < is.length:=by omega
      obtain ⟨e,q1,q2⟩:=getElem?_of_maps hn (List.getElem?_eq_getElem hl)
      rw [List.getElem?_append_right (by omega),Nat.add_sub_cancel_left,g] at q1
      cases q1
      exact ⟨_,_,List.getElem?_eq_getElem hl,q2,.inr ⟨by omega,by omega,q.2⟩⟩
    · obtain ⟨s1,s2⟩:=(hpub i).2 q
      by_cases hi:i∈sel
      · left
        obtain ⟨j,hj⟩:=List.getElem?_of_mem hi
        have hjl:j < sel.length:=(List.getElem?_eq_some_iff.mp hj).1
        have hjp:j < posts.length:=by omega
        have hji:j < is.length:=by omega
        have mem:(i,posts[j])∈sel.zip posts:=by
          rw [List.mem_iff_getElem?]
          exact ⟨j,by rw [List.getElem?_zip_eq_some];exact ⟨hj,List.getElem?_eq_getElem hjp⟩⟩
        have e1:=s1 _ mem
        rw [g] at e1
        obtain ⟨e,q1,q2⟩:=getElem?_of_maps hn (List.getElem?_eq_getElem hji)
        rw [List.getElem?_append_left hjp,List.getElem?_eq_getElem hjp] at q1
        cases q1
        obtain ⟨e0,_,z⟩:=getElem?_of_maps h hj
        exact ⟨j,_,List.getElem?_eq_getElem hji,by rw [q2,←e1],.inl ⟨hjp,hj,e0,z⟩⟩
      · right
        rw [s2 hi] at g
        exact ⟨hi,g⟩
  have ledT:∀a,a∈(subB s ents).led→∃i o,i∈sel∧T.get i = some (a,o):=by
    intro a q
    obtain ⟨e,he,rfl⟩:=List.mem_map.mp q
    obtain ⟨k,hk⟩:=List.getElem?_of_mem he
    have hkl:k < sel.length:=by rw [len];exact (List.getElem?_eq_some_iff.mp hk).1
    obtain ⟨e',z1,z2⟩:=getElem?_of_maps h (List.getElem?_eq_getElem hkl)
    rw [hk] at z1
    cases z1
    exact ⟨_,e.2,List.getElem_mem hkl,z2⟩
  have old:∀i a o,T.get i = some (a,o)→a < s.heap.objs.size:=fun i a o g=>Heap.lt_size (R.own i a o g).2.1
  have apart:∀(k i:Nat) (a:Addr) (o o':Obj),T'.get k = some (a,o)→i∉sel→T.get i = some (a,o')→False:=by
    intro k i a o o' g hi g'
    rcases (R'.own k a o g).2.2 with w | w
    · obtain ⟨i',o2,hm,z⟩:=ledT a w
      have:=R.inj _ _ _ _ _ z g'
      subst this
      exact hi hm
    · have:s.heap.objs.size≤a:=w
      have:=old i a o' g'
      omega
  refine ⟨R'.size,R'.toks,R'.gens.trans R.gens,R'.drawn.trans R.drawn,R'.os.trans R.os,fun i a o g=>?_,fun i j a o o' g g'=>?_,fun a o g hb=>?_,Nat.le_trans R.grow R'.grow⟩
  · rcases kinds i a o g with ⟨j,k,q1,q2,q3⟩ | ⟨q1,q2⟩
    · obtain ⟨_,w1,w2⟩:=R'.own k a o q2
      refine ⟨?_,w1,?_⟩
      · rcases q3 with ⟨_,_,e,z⟩ | ⟨_,_,z⟩
        · have:=(R.own i e.1 e.2 z).1
          omega
        · exact z
      · rcases w2 with w2 | w2
        · obtain ⟨i',o1,_,z⟩:=ledT a w2
          exact (R.own _ _ _ z).2.2
        · exact .inr (Nat.le_trans R.grow w2)
    · obtain ⟨w0,w1,w3⟩:=R.own i a o q2
      refine ⟨by omega,R'.keep a o w1 fun w=>?_,w3⟩
      obtain ⟨i',o1,hm,z⟩:=ledT a w
      have:=R.inj _ _ _ _ _ q2 z
      subst this
      exact q1 hm
  · rcases kinds i a o g with ⟨j1,k1,q1,q2,q3⟩ | ⟨q1,q2⟩ <;> rcases kinds j a o' g' with ⟨j2,k2,p1,p2,p3⟩ | ⟨p1,p2⟩
    · have:=R'.inj _ _ _ _ _ q2 p2
      subst this
      obtain ⟨l1,e1⟩:=List.getElem?_eq_some_iff.mp q1
      obtain ⟨l2,e2⟩:=List.getElem?_eq_some_iff.mp p1
      have hj:=nodup_at ndi (e1.trans e2.symm)
      subst hj
      rcases q3 with ⟨h1,h2,_⟩ | ⟨h1,h2,_⟩ <;> rcases p3 with ⟨h3,h4,_⟩ | ⟨h3,h4,_⟩
      · rw [h2] at h4;cases h4;rfl
      · omega
      · omega
      · omega
    · exact (apart _ _ _ _ _ q2 p1 p2).elim
    · exact (apart _ _ _ _ _ p2 q1 q2).elim
    · exact R.inj _ _ _ _ _ q2 p2
  · have e:=R.keep a o g hb
    refine R'.keep a o e fun w=>?_
    obtain ⟨i,o1,_,z2⟩:=ledT a w
    rcases (R.own _ _ _ z2).2.2 with q | q
    · exact hb q
    · have z:a < b.h.objs.size:=Heap.lt_size g
      exact absurd z (Nat.not_lt.mpr q)
end
end Mine
namespace Mine
noncomputable section
open PySem PySem.W
inductive Bt where
  | leaf
  | node (l:Bt) (k:Nat) (o:Obj) (r:Bt)
noncomputable def Bt.find:Bt→Nat→Option Obj
  | .leaf,_=>none
  | .node l k o r,a=>match Nat.beq a k with
    | true=>some o
    | false=>match Nat.blt a k with
      | true=>l.find a
      | false=>r.find a
noncomputable def fS (i:Nat):Stmt:=(PySem.Challenge.pw_xw0355_01.main.body[i]?).getD (.Pass default)
noncomputable def mS (i j:Nat):Stmt:=match fS i with
  | .ClassDef _ _ _ b _ _ _ _ _ _ _=>(b[j]?).getD (.Pass default)
  | s=>s
noncomputable def fO (st:Stmt) (qual:Str) (dV pm:Value) (cd:Nat):Obj:=match st with
  | .FunctionDef n a b _ _ _ sc _ _ _=>{cls:= .type "function",data:= .func {name:=n,qualname:=qual,params:=a,body:= .stmts b,scope:=sc,globals:=3,closure:=[],defaults:=dV,kwdefaults:= .none,doc:= .none,pyModule:=pm,annotations:=none,code:= .ref cd,closureTuple:= .none,builtins:=0}}
  | _=>default
noncomputable def eS (P:Params) (x:Str) (t:Nat) (v:Value):DictEntry:=⟨PyData.keyHash P x,.str x t,v⟩
noncomputable def zQ (l:List Nat):Str:=⟨⟨l⟩⟩
def q0:=zQ [95,95,110,97,109,101,95,95]
def q1:=zQ [98,117,105,108,116,105,110,115]
def q2:=zQ [95,95,100,111,99,95,95]
def q3:=zQ [95,95,112,97,99,107,97,103,101,95,95]
def q4:=zQ [95,95,108,111,97,100,101,114,95,95]
def q5:=zQ [95,95,115,112,101,99,95,95]
def q6:=zQ [95,95,98,117,105,108,100,95,99,108,97,115,115,95,95]
def q7:=zQ [95,95,105,109,112,111,114,116,95,95]
def q8:=zQ [97,98,115]
def q9:=zQ [97,108,108]
def q10:=zQ [97,110,121]
def q11:=zQ [97,115,99,105,105]
def q12:=zQ [98,105,110]
def q13:=zQ [98,114,101,97,107,112,111,105,110,116]
def q14:=zQ [99,97,108,108,97,98,108,101]
def q15:=zQ [99,104,114]
def q16:=zQ [99,111,109,112,105,108,101]
def q17:=zQ [100,101,108,97,116,116,114]
def q18:=zQ [100,105,114]
def q19:=zQ [100,105,118,109,111,100]
def q20:=zQ [101,118,97,108]
def q21:=zQ [101,120,101,99]
def q22:=zQ [102,111,114,109,97,116]
def q23:=zQ [103,101,116,97,116,116,114]
def q24:=zQ [103,108,111,98,97,108,115]
def q25:=zQ [104,97,115,97,116,116,114]
def q26:=zQ [104,97,115,104]
def q27:=zQ [104,101,120]
def q28:=zQ [105,100]
def q29:=zQ [105,110,112,117,116]
def q30:=zQ [105,115,105,110,115,116,97,110,99,101]
def q31:=zQ [105,115,115,117,98,99,108,97,115,115]
def q32:=zQ [105,116,101,114]
def q33:=zQ [97,105,116,101,114]
def q34:=zQ [108,101,110]
def q35:=zQ [108,111,99,97,108,115]
def q36:=zQ [109,97,120]
def q37:=zQ [109,105,110]
def q38:=zQ [110,101,120,116]
def q39:=zQ [97,110,101,120,116]
def q40:=zQ [111,99,116]
def q41:=zQ [111,114,100]
def q42:=zQ [112,111,119]
def q43:=zQ [112,114,105,110,116]
def q44:=zQ [114,101,112,114]
def q45:=zQ [114,111,117,110,100]
def q46:=zQ [115,101,116,97,116,116,114]
def q47:=zQ [115,111,114,116,101,100]
def q48:=zQ [115,117,109]
def q49:=zQ [118,97,114,115]
def q50:=zQ [78,111,110,101]
def q51:=zQ [69,108,108,105,112,115,105,115]
def q52:=zQ [78,111,116,73,109,112,108,101,109,101,110,116,101,100]
def q53:=zQ [70,97,108,115,101]
def q54:=zQ [84,114,117,101]
def q55:=zQ [98,111,111,108]
def q56:=zQ [109,101,109,111,114,121,118,105,101,119]
def q57:=zQ [98,121,116,101,97,114,114,97,121]
def q58:=zQ [98,121,116,101,115]
def q59:=zQ [99,108,97,115,115,109,101,116,104,111,100]
def q60:=zQ [99,111,109,112,108,101,120]
def q61:=zQ [100,105,99,116]
def q62:=zQ [101,110,117,109,101,114,97,116,101]
def q63:=zQ [102,105,108,116,101,114]
def q64:=zQ [102,108,111,97,116]
def q65:=zQ [102,114,111,122,101,110,115,101,116]
def q66:=zQ [112,114,111,112,101,114,116,121]
def q67:=zQ [105,110,116]
def q68:=zQ [108,105,115,116]
def q69:=zQ [109,97,112]
def q70:=zQ [111,98,106,101,99,116]
def q71:=zQ [114,97,110,103,101]
def q72:=zQ [114,101,118,101,114,115,101,100]
def q73:=zQ [115,101,116]
def q74:=zQ [115,108,105,99,101]
def q75:=zQ [115,116,97,116,105,99,109,101,116,104,111,100]
def q76:=zQ [115,116,114]
def q77:=zQ [115,117,112,101,114]
def q78:=zQ [116,117,112,108,101]
def q79:=zQ [116,121,112,101]
def q80:=zQ [122,105,112]
def q81:=zQ [95,95,100,101,98,117,103,95,95]
def q82:=zQ [66,97,115,101,69,120,99,101,112,116,105,111,110]
def q83:=zQ [66,97,115,101,69,120,99,101,112,116,105,111,110,71,114,111,117,112]
def q84:=zQ [69,120,99,101,112,116,105,111,110]
def q85:=zQ [71,101,110,101,114,97,116,111,114,69,120,105,116]
def q86:=zQ [75,101,121,98,111,97,114,100,73,110,116,101,114,114,117,112,116]
def q87:=zQ [83,121,115,116,101,109,69,120,105,116]
def q88:=zQ [65,114,105,116,104,109,101,116,105,99,69,114,114,111,114]
def q89:=zQ [65,115,115,101,114,116,105,111,110,69,114,114,111,114]
def q90:=zQ [65,116,116,114,105,98,117,116,101,69,114,114,111,114]
def q91:=zQ [66,117,102,102,101,114,69,114,114,111,114]
def q92:=zQ [69,79,70,69,114,114,111,114]
def q93:=zQ [73,109,112,111,114,116,69,114,114,111,114]
def q94:=zQ [76,111,111,107,117,112,69,114,114,111,114]
def q95:=zQ [77,101,109,111,114,121,69,114,114,111,114]
def q96:=zQ [78,97,109,101,69,114,114,111,114]
def q97:=zQ [79,83,69,114,114,111,114]
def q98:=zQ [82,101,102,101,114,101,110,99,101,69,114,114,111,114]
def q99:=zQ [82,117,110,116,105,109,101,69,114,114,111,114]
def q100:=zQ [83,116,111,112,65,115,121,110,99,73,116,101,114,97,116,105,111,110]
def q101:=zQ [83,116,111,112,73,116,101,114,97,116,105,111,110]
def q102:=zQ [83,121,110,116,97,120,69,114,114,111,114]
def q103:=zQ [83,121,115,116,101,109,69,114,114,111,114]
def q104:=zQ [84,121,112,101,69,114,114,111,114]
def q105:=zQ [86,97,108,117,101,69,114,114,111,114]
def q106:=zQ [87,97,114,110,105,110,103]
def q107:=zQ [70,108,111,97,116,105,110,103,80,111,105,110,116,69,114,114,111,114]
def q108:=zQ [79,118,101,114,102,108,111,119,69,114,114,111,114]
def q109:=zQ [90,101,114,111,68,105,118,105,115,105,111,110,69,114,114,111,114]
def q110:=zQ [66,121,116,101,115,87,97,114,110,105,110,103]
def q111:=zQ [68,101,112,114,101,99,97,116,105,111,110,87,97,114,110,105,110,103]
def q112:=zQ [69,110,99,111,100,105,110,103,87,97,114,110,105,110,103]
def q113:=zQ [70,117,116,117,114,101,87,97,114,110,105,110,103]
def q114:=zQ [73,109,112,111,114,116,87,97,114,110,105,110,103]
def q115:=zQ [80,101,110,100,105,110,103,68,101,112,114,101,99,97,116,105,111,110,87,97,114,110,105,110,103]
def q116:=zQ [82,101,115,111,117,114,99,101,87,97,114,110,105,110,103]
def q117:=zQ [82,117,110,116,105,109,101,87,97,114,110,105,110,103]
def q118:=zQ [83,121,110,116,97,120,87,97,114,110,105,110,103]
def q119:=zQ [85,110,105,99,111,100,101,87,97,114,110,105,110,103]
def q120:=zQ [85,115,101,114,87,97,114,110,105,110,103]
def q121:=zQ [66,108,111,99,107,105,110,103,73,79,69,114,114,111,114]
def q122:=zQ [67,104,105,108,100,80,114,111,99,101,115,115,69,114,114,111,114]
def q123:=zQ [67,111,110,110,101,99,116,105,111,110,69,114,114,111,114]
def q124:=zQ [70,105,108,101,69,120,105,115,116,115,69,114,114,111,114]
def q125:=zQ [70,105,108,101,78,111,116,70,111,117,110,100,69,114,114,111,114]
def q126:=zQ [73,110,116,101,114,114,117,112,116,101,100,69,114,114,111,114]
def q127:=zQ [73,115,65,68,105,114,101,99,116,111,114,121,69,114,114,111,114]
def q128:=zQ [78,111,116,65,68,105,114,101,99,116,111,114,121,69,114,114,111,114]
def q129:=zQ [80,101,114,109,105,115,115,105,111,110,69,114,114,111,114]
def q130:=zQ [80,114,111,99,101,115,115,76,111,111,107,117,112,69,114,114,111,114]
def q131:=zQ [84,105,109,101,111,117,116,69,114,114,111,114]
def q132:=zQ [73,110,100,101,110,116,97,116,105,111,110,69,114,114,111,114]
def q133:=zQ [95,73,110,99,111,109,112,108,101,116,101,73,110,112,117,116,69,114,114,111,114]
def q134:=zQ [73,110,100,101,120,69,114,114,111,114]
def q135:=zQ [75,101,121,69,114,114,111,114]
def q136:=zQ [77,111,100,117,108,101,78,111,116,70,111,117,110,100,69,114,114,111,114]
def q137:=zQ [78,111,116,73,109,112,108,101,109,101,110,116,101,100,69,114,114,111,114]
def q138:=zQ [80,121,116,104,111,110,70,105,110,97,108,105,122,97,116,105,111,110,69,114,114,111,114]
def q139:=zQ [82,101,99,117,114,115,105,111,110,69,114,114,111,114]
def q140:=zQ [85,110,98,111,117,110,100,76,111,99,97,108,69,114,114,111,114]
def q141:=zQ [85,110,105,99,111,100,101,69,114,114,111,114]
def q142:=zQ [66,114,111,107,101,110,80,105,112,101,69,114,114,111,114]
def q143:=zQ [67,111,110,110,101,99,116,105,111,110,65,98,111,114,116,101,100,69,114,114,111,114]
def q144:=zQ [67,111,110,110,101,99,116,105,111,110,82,101,102,117,115,101,100,69,114,114,111,114]
def q145:=zQ [67,111,110,110,101,99,116,105,111,110,82,101,115,101,116,69,114,114,111,114]
def q146:=zQ [84,97,98,69,114,114,111,114]
def q147:=zQ [85,110,105,99,111,100,101,68,101,99,111,100,101,69,114,114,111,114]
def q148:=zQ [85,110,105,99,111,100,101,69,110,99,111,100,101,69,114,114,111,114]
def q149:=zQ [85,110,105,99,111,100,101,84,114,97,110,115,108,97,116,101,69,114,114,111,114]
def q150:=zQ [69,120,99,101,112,116,105,111,110,71,114,111,117,112]
def q151:=zQ [69,110,118,105,114,111,110,109,101,110,116,69,114,114,111,114]
def q152:=zQ [73,79,69,114,114,111,114]
def q153:=zQ [111,112,101,110]
def q154:=zQ [113,117,105,116]
def q155:=zQ [101,120,105,116]
def q156:=zQ [99,111,112,121,114,105,103,104,116]
def q157:=zQ [99,114,101,100,105,116,115]
def q158:=zQ [108,105,99,101,110,115,101]
def q159:=zQ [104,101,108,112]
def q160:=zQ [116,121,112,101,46,95,95,115,117,98,99,108,97,115,115,101,115,95,95,46,69,120,99,101,112,116,105,111,110,46,48]
def q161:=zQ [116,121,112,101,46,95,95,115,117,98,99,108,97,115,115,101,115,95,95,46,69,120,99,101,112,116,105,111,110,46,110]
def q162:=zQ [108,97,119,95,120,119,48,51,53,53,95,48,49]
def q163:=zQ [95,95,97,110,110,111,116,97,116,105,111,110,115,95,95]
def q164:=zQ [95,95,98,117,105,108,116,105,110,115,95,95]
def q165:=zQ [95,95,102,105,108,101,95,95]
def q166:=zQ [47,99,108,97,105,109,47,99,117,116,46,112,121]
def q167:=zQ [95,95,99,97,99,104,101,100,95,95]
def q168:=zQ [95,119,97,108,108]
def q169:=zQ [112,108,117,115]
def q170:=zQ [100,105,115,116,97,110,99,101]
def q171:=zQ [105,115,95,98,101,102,111,114,101]
def q172:=zQ [105,115,95,97,116,95,109,111,115,116]
def q173:=zQ [105,115,95,119,105,116,104,105,110]
def q174:=zQ [108,97,116,101,115,116]
def q175:=zQ [65,115,115,101,109,98,108,121]
def q176:=zQ [82,101,99,101,105,118,101,114]
def q177:=zQ [69,86,69,82,89]
def q178:=zQ [65,99,107,80,111,108,105,99,121]
def q179:=zQ [68,85,80,76,73,67,65,84,69,83]
def q180:=zQ [67,111,110,103,101,115,116,105,111,110]
def q181:=zQ [77,79,83,84,95,83,72,73,70,84,95,114,101,116,114,97,110,115,109,105,116]
def q182:=zQ [82,101,116,114,97,110,115,109,105,116,67,108,111,99,107]
def q183:=zQ [82,116,116,69,115,116,105,109,97,116,101]
def q184:=zQ [83,116,97,99,107,69,114,114,111,114]
def q185:=zQ [70,111,114,109,69,114,114,111,114]
def q186:=zQ [83,105,122,101,69,114,114,111,114]
def q187:=zQ [83,116,97,116,101,69,114,114,111,114]
def q188:=zQ [83,101,110,100,81,117,101,117,101]
def q189:=zQ [80,101,101,114,87,105,110,100,111,119]
def q190:=zQ [83,101,110,100,101,114]
def q191:=zQ [112,117,116,49,54]
def q192:=zQ [110,101,101,100]
def q193:=zQ [103,101,116,49,54]
def q194:=zQ [70,73,78]
def q195:=zQ [83,89,78]
def q196:=zQ [82,83,84]
def q197:=zQ [80,83,72]
def q198:=zQ [65,67,75]
def q199:=zQ [85,82,71]
def q200:=zQ [79,80,84,73,79,78,83,95,69,78,68]
def q201:=zQ [79,80,84,73,79,78,95,78,79,84,72,73,78,71]
def q202:=zQ [79,80,84,73,79,78,95,77,83,83]
def q203:=zQ [77,83,83,95,83,73,90,69]
def q204:=zQ [83,101,103,109,101,110,116]
def q205:=zQ [99,104,101,99,107,95,110,117,109,98,101,114]
def q206:=zQ [109,115,115,95,111,112,116,105,111,110]
def q207:=zQ [109,115,115,95,111,102]
def q208:=zQ [67,76,79,83,69,68]
def q209:=zQ [99,108,111,115,101,100]
def q210:=zQ [76,73,83,84,69,78]
def q211:=zQ [108,105,115,116,101,110]
def q212:=zQ [83,89,78,95,83,69,78,84]
def q213:=zQ [115,121,110,32,115,101,110,116]
def q214:=zQ [83,89,78,95,82,69,67,69,73,86,69,68]
def q215:=zQ [115,121,110,32,114,101,99,101,105,118,101,100]
def q216:=zQ [69,83,84,65,66,76,73,83,72,69,68]
def q217:=zQ [101,115,116,97,98,108,105,115,104,101,100]
def q218:=zQ [70,73,78,95,87,65,73,84,95,49]
def q219:=zQ [102,105,110,32,119,97,105,116,32,49]
def q220:=zQ [70,73,78,95,87,65,73,84,95,50]
def q221:=zQ [102,105,110,32,119,97,105,116,32,50]
def q222:=zQ [67,76,79,83,69,95,87,65,73,84]
def q223:=zQ [99,108,111,115,101,32,119,97,105,116]
def q224:=zQ [67,76,79,83,73,78,71]
def q225:=zQ [99,108,111,115,105,110,103]
def q226:=zQ [76,65,83,84,95,65,67,75]
def q227:=zQ [108,97,115,116,32,97,99,107]
def q228:=zQ [84,73,77,69,95,87,65,73,84]
def q229:=zQ [116,105,109,101,32,119,97,105,116]
def q230:=zQ [111,112,101,110,105,110,103,95,115,116,101,112,115]
def q231:=zQ [99,108,111,115,105,110,103,95,115,116,101,112,115]
def q232:=zQ [102,111,108,108,111,119]
def q233:=zQ [109,97,121,95,114,101,99,101,105,118,101]
def q234:=zQ [105,115,95,115,121,110,99,104,114,111,110,105,122,101,100]
def q235:=zQ [105,115,95,115,101,110,100,105,110,103]
def q236:=zQ [87,104,101,101,108]
def q237:=zQ [82,69,83,69,78,68]
def q238:=zQ [80,69,82,83,73,83,84]
def q239:=zQ [68,69,76,65,89,69,68]
def q240:=zQ [87,65,73,84]
def q241:=zQ [77,79,83,84,95,87,73,78,68,79,87]
def q242:=zQ [76,105,109,105,116,115]
def q243:=zQ [99,108,111,99,107,95,111,102]
def q244:=zQ [84,99,98]
def q245:=zQ [77,79,83,84,95,83,72,73,70,84,95,116,99,112,95,117,115,101,114]
def q246:=zQ [99,104,97,110,103,101,95,115,116,97,116,101]
def q247:=zQ [101,110,116,101,114,95,116,105,109,101,95,119,97,105,116]
def q248:=zQ [105,115,95,97,108,108,95,115,101,110,116]
def q249:=zQ [97,99,107,95,115,101,103,109,101,110,116]
def q250:=zQ [115,121,110,95,115,101,103,109,101,110,116]
def q251:=zQ [102,108,97,103,115,95,111,102]
def q252:=zQ [116,97,107,101,95,97,115,107,101,100,95,102,105,110]
def q253:=zQ [100,97,116,97,95,115,101,103,109,101,110,116,115]
def q254:=zQ [111,117,116,112,117,116]
def q255:=zQ [115,101,116,95,114,101,115,101,110,100]
def q256:=zQ [107,101,101,112,95,116,105,109,101,114,115]
def q257:=zQ [112,114,111,98,101,95,119,97,105,116]
def q258:=zQ [115,101,103,109,101,110,116,95,97,103,97,105,110]
def q259:=zQ [105,115,95,97,99,99,101,112,116,97,98,108,101]
def q260:=zQ [105,115,95,110,101,119,95,97,99,107]
def q261:=zQ [87,72,79,76,69,95,82,73,78,71]
def q262:=zQ [80,76,65,73,78,95,77,83,83]
def q263:=zQ [97,114,114,105,118,101]
def q264:=zQ [108,105,115,116,101,100]
def q265:=zQ [114,101,115,101,116,95,102,111,114]
def q266:=zQ [116,97,107,101,95,115,121,110]
def q267:=zQ [105,110,95,108,105,115,116,101,110]
def q268:=zQ [105,110,95,115,121,110,95,115,101,110,116]
def q269:=zQ [111,112,101,110,101,100,95,102,114,111,109,95,98,111,116,104]
def q270:=zQ [119,105,116,104,111,117,116,95,115,121,110]
def q271:=zQ [105,115,95,115,121,110,95,97,103,97,105,110]
def q272:=zQ [97,110,115,119,101,114,115,95,98,111,116,104]
def q273:=zQ [105,110,95,111,116,104,101,114,115]
def q274:=zQ [105,115,95,108,101,116,95,105,110]
def q275:=zQ [116,117,114,110,101,100,95,100,111,119,110]
def q276:=zQ [105,115,95,111,108,100,95,97,99,107,110,111,119,108,101,100,103,101,109,101,110,116]
def q277:=zQ [116,97,107,101,95,114,101,115,101,116]
def q278:=zQ [105,115,95,116,111,111,95,102,97,114]
def q279:=zQ [116,97,107,101,95,97,99,107]
def q280:=zQ [116,97,107,101,95,97,99,107,110,111,119,108,101,100,103,101,109,101,110,116]
def q281:=zQ [116,97,107,101,95,100,117,112,108,105,99,97,116,101]
def q282:=zQ [101,110,100,95,111,102,95,115,101,110,100,105,110,103]
def q283:=zQ [116,97,107,101,95,111,99,116,101,116,115]
def q284:=zQ [101,110,100,95,111,102,95,114,101,99,101,105,118,105,110,103]
def q285:=zQ [114,101,112,108,105,101,115]
def q286:=zQ [95,108,97,119,95,112,111,111,108]
def q287:=zQ [95,108,97,119,95,116,97,107,101]
def q288:=zQ [95,108,97,119,95,111,110,101]
def q289:=zQ [95,108,97,119,95,101,110,100]
def q290:=zQ [95,108,97,119,95,108,97,116,101,114]
def q291:=zQ [95,108,97,119,95,105,115,95,114,101,102,117,115,101,100]
def q292:=zQ [95,108,97,119,95,115,116,97,116,101,95,114,105,103,104,116]
def q293:=zQ [95,108,97,119,95,111,114,100,101,114,95,114,105,103,104,116]
def q294:=zQ [108,97,119]
def q295:=zQ [116,104,105,110,115,116,97,99,107,46,115,101,113,117,101,110,99,101]
def q296:=zQ [95,95,105,110,105,116,95,95]
def q297:=zQ [65,115,115,101,109,98,108,121,46,95,95,105,110,105,116,95,95]
def q298:=zQ [116,104,105,110,115,116,97,99,107,46,97,115,115,101,109,98,108,121]
def q299:=zQ [105,115,95,101,109,112,116,121]
def q300:=zQ [65,115,115,101,109,98,108,121,46,105,115,95,101,109,112,116,121]
def q301:=zQ [111,102,102,115,101,116]
def q302:=zQ [65,115,115,101,109,98,108,121,46,111,102,102,115,101,116]
def q303:=zQ [112,117,116]
def q304:=zQ [65,115,115,101,109,98,108,121,46,112,117,116]
def q305:=zQ [109,105,115,115,105,110,103]
def q306:=zQ [65,115,115,101,109,98,108,121,46,109,105,115,115,105,110,103]
def q307:=zQ [109,101,114,103,101,100]
def q308:=zQ [65,115,115,101,109,98,108,121,46,109,101,114,103,101,100]
def q309:=zQ [106,111,105,110,101,100]
def q310:=zQ [65,115,115,101,109,98,108,121,46,106,111,105,110,101,100]
def q311:=zQ [102,111,114,103,101,116]
def q312:=zQ [65,115,115,101,109,98,108,121,46,102,111,114,103,101,116]
def q313:=zQ [116,97,107,101]
def q314:=zQ [65,115,115,101,109,98,108,121,46,116,97,107,101]
def q315:=zQ [99,117,116,95,98,101,104,105,110,100]
def q316:=zQ [65,115,115,101,109,98,108,121,46,99,117,116,95,98,101,104,105,110,100]
def q317:=zQ [95,95,109,111,100,117,108,101,95,95]
def q318:=zQ [95,95,102,105,114,115,116,108,105,110,101,110,111,95,95]
def q319:=zQ [115,105,122,101]
def q320:=zQ [104,111,108,101,115]
def q321:=zQ [95,95,115,116,97,116,105,99,95,97,116,116,114,105,98,117,116,101,115,95,95]
def q322:=zQ [95,95,100,105,99,116,95,95]
def q323:=zQ [95,95,119,101,97,107,114,101,102,95,95]
def q324:=zQ [82,101,99,101,105,118,101,114,46,95,95,105,110,105,116,95,95]
def q325:=zQ [116,104,105,110,115,116,97,99,107,46,114,101,99,101,105,118,101,114]
def q326:=zQ [102,114,101,101,95,101,100,103,101]
def q327:=zQ [82,101,99,101,105,118,101,114,46,102,114,101,101,95,101,100,103,101]
def q328:=zQ [115,104,111,117,108,100,95,116,101,108,108]
def q329:=zQ [82,101,99,101,105,118,101,114,46,115,104,111,117,108,100,95,116,101,108,108]
def q330:=zQ [116,111,108,100,95,119,105,110,100,111,119]
def q331:=zQ [82,101,99,101,105,118,101,114,46,116,111,108,100,95,119,105,110,100,111,119]
def q332:=zQ [119,105,110,100,111,119]
def q333:=zQ [82,101,99,101,105,118,101,114,46,119,105,110,100,111,119]
def q334:=zQ [82,101,99,101,105,118,101,114,46,97,114,114,105,118,101]
def q335:=zQ [108,101,116,95,105,110]
def q336:=zQ [82,101,99,101,105,118,101,114,46,108,101,116,95,105,110]
def q337:=zQ [110,111,116,101,95,102,105,110]
def q338:=zQ [82,101,99,101,105,118,101,114,46,110,111,116,101,95,102,105,110]
def q339:=zQ [97,104,101,97,100,95,111,102,95,102,105,110]
def q340:=zQ [82,101,99,101,105,118,101,114,46,97,104,101,97,100,95,111,102,95,102,105,110]
def q341:=zQ [103,97,116,104,101,114]
def q342:=zQ [82,101,99,101,105,118,101,114,46,103,97,116,104,101,114]
def q343:=zQ [104,97,115,95,104,111,108,101,115]
def q344:=zQ [82,101,99,101,105,118,101,114,46,104,97,115,95,104,111,108,101,115]
def q345:=zQ [114,101,97,100]
def q346:=zQ [82,101,99,101,105,118,101,114,46,114,101,97,100]
def q347:=zQ [105,115,95,111,118,101,114]
def q348:=zQ [82,101,99,101,105,118,101,114,46,105,115,95,111,118,101,114]
def q349:=zQ [97,118,97,105,108,97,98,108,101]
def q350:=zQ [114,101,97,100,95,112,108,97,99,101]
def q351:=zQ [117,114,103,101,110,116]
def q352:=zQ [117,114,103,101,110,116,95,108,101,102,116]
def q353:=zQ [65,99,107,80,111,108,105,99,121,46,95,95,105,110,105,116,95,95]
def q354:=zQ [116,104,105,110,115,116,97,99,107,46,97,99,107,115]
def q355:=zQ [111,110,95,111,99,116,101,116,115]
def q356:=zQ [65,99,107,80,111,108,105,99,121,46,111,110,95,111,99,116,101,116,115]
def q357:=zQ [97,116,95,111,110,99,101]
def q358:=zQ [65,99,107,80,111,108,105,99,121,46,97,116,95,111,110,99,101]
def q359:=zQ [105,115,95,100,117,101]
def q360:=zQ [65,99,107,80,111,108,105,99,121,46,105,115,95,100,117,101]
def q361:=zQ [111,110,95,115,101,110,116]
def q362:=zQ [65,99,107,80,111,108,105,99,121,46,111,110,95,115,101,110,116]
def q363:=zQ [100,117,101,95,116,105,109,101]
def q364:=zQ [65,99,107,80,111,108,105,99,121,46,100,117,101,95,116,105,109,101]
def q365:=zQ [67,111,110,103,101,115,116,105,111,110,46,95,95,105,110,105,116,95,95]
def q366:=zQ [116,104,105,110,115,116,97,99,107,46,99,111,110,103,101,115,116,105,111,110]
def q367:=zQ [67,111,110,103,101,115,116,105,111,110,46,119,105,110,100,111,119]
def q368:=zQ [116,111,108,100,95,109,115,115]
def q369:=zQ [103,114,111,119]
def q370:=zQ [104,97,108,118,101,100]
def q371:=zQ [97,99,107,101,100]
def q372:=zQ [115,108,111,119,95,115,116,97,114,116]
def q373:=zQ [97,118,111,105,100]
def q374:=zQ [100,117,112,108,105,99,97,116,101]
def q375:=zQ [114,101,99,111,118,101,114,101,100]
def q376:=zQ [116,105,109,101,100,95,111,117,116]
def q377:=zQ [82,101,116,114,97,110,115,109,105,116,67,108,111,99,107,46,95,95,105,110,105,116,95,95]
def q378:=zQ [116,104,105,110,115,116,97,99,107,46,114,101,116,114,97,110,115,109,105,116]
def q379:=zQ [105,115,95,116,105,109,105,110,103]
def q380:=zQ [115,101,110,116]
def q381:=zQ [98,97,99,107,95,111,102,102]
def q382:=zQ [114,101,115,101,116,95,116,114,105,101,115]
def q383:=zQ [119,97,105,116,101,100]
def q384:=zQ [100,101,97,100,108,105,110,101]
def q385:=zQ [82,116,116,69,115,116,105,109,97,116,101,46,95,95,105,110,105,116,95,95]
def q386:=zQ [116,104,105,110,115,116,97,99,107,46,114,116,116]
def q387:=zQ [115,97,109,112,108,101]
def q388:=zQ [109,101,97,110]
def q389:=zQ [112,108,97,105,110,95,116,105,109,101,111,117,116]
def q390:=zQ [116,105,109,101,111,117,116]
def q391:=zQ [98,111,117,110,100,101,100]
def q392:=zQ [83,116,97,99,107,69,114,114,111,114,46,95,95,105,110,105,116,95,95]
def q393:=zQ [116,104,105,110,115,116,97,99,107,46,101,114,114,111,114,115]
def q394:=zQ [83,101,110,100,81,117,101,117,101,46,95,95,105,110,105,116,95,95]
def q395:=zQ [116,104,105,110,115,116,97,99,107,46,115,101,110,100,95,113,117,101,117,101]
def q396:=zQ [83,101,110,100,81,117,101,117,101,46,115,105,122,101]
def q397:=zQ [114,111,111,109,95,108,101,102,116]
def q398:=zQ [112,97,114,116]
def q399:=zQ [100,114,111,112]
def q400:=zQ [80,101,101,114,87,105,110,100,111,119,46,95,95,105,110,105,116,95,95]
def q401:=zQ [116,104,105,110,115,116,97,99,107,46,115,101,110,100,101,114]
def q402:=zQ [105,115,95,110,101,119,101,114]
def q403:=zQ [80,101,101,114,87,105,110,100,111,119,46,105,115,95,110,101,119,101,114]
def q404:=zQ [80,101,101,114,87,105,110,100,111,119,46,116,97,107,101]
def q405:=zQ [107,101,101,112,95,101,100,103,101]
def q406:=zQ [83,101,110,100,101,114,46,95,95,105,110,105,116,95,95]
def q407:=zQ [83,101,110,100,101,114,46,119,105,110,100,111,119]
def q408:=zQ [116,97,107,101,95,119,105,110,100,111,119]
def q409:=zQ [83,101,110,100,101,114,46,116,97,107,101,95,119,105,110,100,111,119]
def q410:=zQ [102,108,105,103,104,116]
def q411:=zQ [83,101,110,100,101,114,46,102,108,105,103,104,116]
def q412:=zQ [100,97,116,97,95,115,101,110,116]
def q413:=zQ [83,101,110,100,101,114,46,100,97,116,97,95,115,101,110,116]
def q414:=zQ [117,110,115,101,110,116]
def q415:=zQ [83,101,110,100,101,114,46,117,110,115,101,110,116]
def q416:=zQ [105,115,95,102,105,110,95,100,117,101]
def q417:=zQ [83,101,110,100,101,114,46,105,115,95,102,105,110,95,100,117,101]
def q418:=zQ [112,105,101,99,101,115]
def q419:=zQ [83,101,110,100,101,114,46,112,105,101,99,101,115]
def q420:=zQ [101,118,101,114,95,115,101,110,116]
def q421:=zQ [83,101,110,100,101,114,46,101,118,101,114,95,115,101,110,116]
def q422:=zQ [105,115,95,105,100,108,101,95,119,105,116,104,95,109,111,114,101]
def q423:=zQ [83,101,110,100,101,114,46,105,115,95,105,100,108,101,95,119,105,116,104,95,109,111,114,101]
def q424:=zQ [110,101,101,100,115,95,112,114,111,98,101]
def q425:=zQ [83,101,110,100,101,114,46,110,101,101,100,115,95,112,114,111,98,101]
def q426:=zQ [97,115,107,95,102,105,110]
def q427:=zQ [117,115,97,98,108,101]
def q428:=zQ [105,115,95,102,105,110,95,97,99,107,101,100]
def q429:=zQ [105,115,95,97,108,108,95,97,99,107,101,100]
def q430:=zQ [103,111,95,111,110]
def q431:=zQ [115,116,97,114,116]
def q432:=zQ [109,97,121,95,103,111]
def q433:=zQ [112,105,101,99,101,95,111,102]
def q434:=zQ [102,105,114,115,116,95,112,105,101,99,101]
def q435:=zQ [114,101,97,99,104]
def q436:=zQ [98,97,99,107,95,116,111]
def q437:=zQ [112,114,111,98,101]
def q438:=zQ [83,101,103,109,101,110,116,46,95,95,105,110,105,116,95,95]
def q439:=zQ [116,104,105,110,115,116,97,99,107,46,116,99,112,95,115,101,103,109,101,110,116]
def q440:=zQ [104,97,115]
def q441:=zQ [83,101,103,109,101,110,116,46,104,97,115]
def q442:=zQ [108,101,110,103,116,104]
def q443:=zQ [83,101,103,109,101,110,116,46,108,101,110,103,116,104]
def q444:=zQ [114,111,119]
def q445:=zQ [83,101,103,109,101,110,116,46,114,111,119]
def q446:=zQ [116,104,105,110,115,116,97,99,107,46,116,99,112,95,115,116,97,116,101,115]
def q447:=zQ [87,104,101,101,108,46,95,95,105,110,105,116,95,95]
def q448:=zQ [116,104,105,110,115,116,97,99,107,46,119,104,101,101,108]
def q449:=zQ [87,104,101,101,108,46,112,117,116]
def q450:=zQ [108,105,115,116,95,111,102]
def q451:=zQ [87,104,101,101,108,46,108,105,115,116,95,111,102]
def q452:=zQ [99,97,110,99,101,108]
def q453:=zQ [87,104,101,101,108,46,99,97,110,99,101,108]
def q454:=zQ [116,105,109,101,95,111,102]
def q455:=zQ [87,104,101,101,108,46,116,105,109,101,95,111,102]
def q456:=zQ [110,101,120,116,95,116,105,109,101]
def q457:=zQ [100,117,101]
def q458:=zQ [107,101,121,115,95,117,110,116,105,108]
def q459:=zQ [76,105,109,105,116,115,46,95,95,105,110,105,116,95,95]
def q460:=zQ [116,104,105,110,115,116,97,99,107,46,116,99,98]
def q461:=zQ [84,99,98,46,95,95,105,110,105,116,95,95]
def q462:=zQ [119,105,110,100,111,119,95,110,111,119]
def q463:=zQ [84,99,98,46,119,105,110,100,111,119,95,110,111,119]
def q464:=zQ [109,97,107,101]
def q465:=zQ [84,99,98,46,109,97,107,101]
def q466:=zQ [116,104,105,110,115,116,97,99,107,46,116,99,112,95,117,115,101,114]
def q467:=zQ [116,104,105,110,115,116,97,99,107,46,119,105,110,100,111,119,115]
def q468:=zQ [116,104,105,110,115,116,97,99,107,46,116,99,112,95,105,110,112,117,116]
noncomputable def cO (a b:Str) (t:Nat) (l n:Int) (r c:Nat):Obj:=⟨.type "code",none,.fields ⟨[.str a t,.str b (t+1),.str q166 (t+2),.int l 0,.int n 0,.int 0 0,.int 0 0,.int 3 0,.ref r,.bool true,.int 181 0,.ref (r+1),.none,.ref (r+2),.ref (r+3),.ref (r+4),.int c 0,.int l 0,.str q166 (c+1)]⟩,⟨[]⟩⟩
noncomputable def tO (a:Str) (r ns t u:Nat):Obj:=⟨.type "type",none,.cls {name:=a,bases:=[.type "object"],mro:=[.ref r,.type "object"],ns:=ns,qualname:=a,hasDict:=true,slotNames:=[],subclasses:=[],abstract:=false,collection:=none,hasDel:=false},⟨[none,none,some (.str a t),some (.str a u),some (.builtin "object.__new__"),some (.bool true)]⟩⟩
noncomputable def o0 (P:Params):Obj:=⟨.type "dict",none,.dict ⟨[eS P q0 1 (.str q1 160),eS P q2 2 (.builtin "builtins.__doc__:str#opaque"),eS P q3 3 (.builtin "builtins.__package__:str#opaque"),eS P q4 4 (.builtin "builtins.__loader__:shared#opaque"),eS P q5 5 (.builtin "builtins.__spec__#opaque"),eS P q6 6 (.builtin "__build_class__"),eS P q7 7 (.builtin "__import__"),eS P q8 8 (.builtin "abs"),eS P q9 9 (.builtin "all"),eS P q10 10 (.builtin "any"),eS P q11 11 (.builtin "ascii"),eS P q12 12 (.builtin "bin"),eS P q13 13 (.builtin "breakpoint"),eS P q14 14 (.builtin "callable"),eS P q15 15 (.builtin "chr"),eS P q16 16 (.builtin "compile"),eS P q17 17 (.builtin "delattr"),eS P q18 18 (.builtin "dir"),eS P q19 19 (.builtin "divmod"),eS P q20 20 (.builtin "eval"),eS P q21 21 (.builtin "exec"),eS P q22 22 (.builtin "format"),eS P q23 23 (.builtin "getattr"),eS P q24 24 (.builtin "globals"),eS P q25 25 (.builtin "hasattr"),eS P q26 26 (.builtin "hash"),eS P q27 27 (.builtin "hex"),eS P q28 28 (.builtin "id"),eS P q29 29 (.builtin "input"),eS P q30 30 (.builtin "isinstance"),eS P q31 31 (.builtin "issubclass"),eS P q32 32 (.builtin "iter"),eS P q33 33 (.builtin "aiter"),eS P q34 34 (.builtin "len"),eS P q35 35 (.builtin "locals"),eS P q36 36 (.builtin "max"),eS P q37 37 (.builtin "min"),eS P q38 38 (.builtin "next"),eS P q39 39 (.builtin "anext"),eS P q40 40 (.builtin "oct"),eS P q41 41 (.builtin "ord"),eS P q42 42 (.builtin "pow"),eS P q43 43 (.builtin "print"),eS P q44 44 (.builtin "repr"),eS P q45 45 (.builtin "round"),eS P q46 46 (.builtin "setattr"),eS P q47 47 (.builtin "sorted"),eS P q48 48 (.builtin "sum"),eS P q49 49 (.builtin "vars"),eS P q50 50 (.none),eS P q51 51 (.ellipsis),eS P q52 52 (.notImplemented),eS P q53 53 (.bool false),eS P q54 54 (.bool true),eS P q55 55 (.type "bool"),eS P q56 56 (.type "memoryview"),eS P q57 57 (.type "bytearray"),eS P q58 58 (.type "bytes"),eS P q59 59 (.type "classmethod"),eS P q60 60 (.type "complex"),eS P q61 61 (.type "dict"),eS P q62 62 (.type "enumerate"),eS P q63 63 (.type "filter"),eS P q64 64 (.type "float"),eS P q65 65 (.type "frozenset"),eS P q66 66 (.type "property"),eS P q67 67 (.type "int"),eS P q68 68 (.type "list"),eS P q69 69 (.type "map"),eS P q70 70 (.type "object"),eS P q71 71 (.type "range"),eS P q72 72 (.type "reversed"),eS P q73 73 (.type "set"),eS P q74 74 (.type "slice"),eS P q75 75 (.type "staticmethod"),eS P q76 76 (.type "str"),eS P q77 77 (.type "super"),eS P q78 78 (.type "tuple"),eS P q79 79 (.type "type"),eS P q80 80 (.type "zip"),eS P q81 81 (.bool true),eS P q82 82 (.type "BaseException"),eS P q83 83 (.type "BaseExceptionGroup"),eS P q84 84 (.type "Exception"),eS P q85 85 (.type "GeneratorExit"),eS P q86 86 (.type "KeyboardInterrupt"),eS P q87 87 (.type "SystemExit"),eS P q88 88 (.type "ArithmeticError"),eS P q89 89 (.type "AssertionError"),eS P q90 90 (.type "AttributeError"),eS P q91 91 (.type "BufferError"),eS P q92 92 (.type "EOFError"),eS P q93 93 (.type "ImportError"),eS P q94 94 (.type "LookupError"),eS P q95 95 (.type "MemoryError"),eS P q96 96 (.type "NameError"),eS P q97 97 (.type "OSError"),eS P q98 98 (.type "ReferenceError"),eS P q99 99 (.type "RuntimeError"),eS P q100 100 (.type "StopAsyncIteration"),eS P q101 101 (.type "StopIteration"),eS P q102 102 (.type "SyntaxError"),eS P q103 103 (.type "SystemError"),eS P q104 104 (.type "TypeError"),eS P q105 105 (.type "ValueError"),eS P q106 106 (.type "Warning"),eS P q107 107 (.type "FloatingPointError"),eS P q108 108 (.type "OverflowError"),eS P q109 109 (.type "ZeroDivisionError"),eS P q110 110 (.type "BytesWarning"),eS P q111 111 (.type "DeprecationWarning"),eS P q112 112 (.type "EncodingWarning"),eS P q113 113 (.type "FutureWarning"),eS P q114 114 (.type "ImportWarning"),eS P q115 115 (.type "PendingDeprecationWarning"),eS P q116 116 (.type "ResourceWarning"),eS P q117 117 (.type "RuntimeWarning"),eS P q118 118 (.type "SyntaxWarning"),eS P q119 119 (.type "UnicodeWarning"),eS P q120 120 (.type "UserWarning"),eS P q121 121 (.type "BlockingIOError"),eS P q122 122 (.type "ChildProcessError"),eS P q123 123 (.type "ConnectionError"),eS P q124 124 (.type "FileExistsError"),eS P q125 125 (.type "FileNotFoundError"),eS P q126 126 (.type "InterruptedError"),eS P q127 127 (.type "IsADirectoryError"),eS P q128 128 (.type "NotADirectoryError"),eS P q129 129 (.type "PermissionError"),eS P q130 130 (.type "ProcessLookupError"),eS P q131 131 (.type "TimeoutError"),eS P q132 132 (.type "IndentationError"),eS P q133 133 (.type "_IncompleteInputError"),eS P q134 134 (.type "IndexError"),eS P q135 135 (.type "KeyError"),eS P q136 136 (.type "ModuleNotFoundError"),eS P q137 137 (.type "NotImplementedError"),eS P q138 138 (.type "PythonFinalizationError"),eS P q139 139 (.type "RecursionError"),eS P q140 140 (.type "UnboundLocalError"),eS P q141 141 (.type "UnicodeError"),eS P q142 142 (.type "BrokenPipeError"),eS P q143 143 (.type "ConnectionAbortedError"),eS P q144 144 (.type "ConnectionRefusedError"),eS P q145 145 (.type "ConnectionResetError"),eS P q146 146 (.type "TabError"),eS P q147 147 (.type "UnicodeDecodeError"),eS P q148 148 (.type "UnicodeEncodeError"),eS P q149 149 (.type "UnicodeTranslateError"),eS P q150 150 (.type "ExceptionGroup"),eS P q151 151 (.type "OSError"),eS P q152 152 (.type "OSError"),eS P q153 153 (.builtin "open"),eS P q154 154 (.builtin "builtins.quit#opaque"),eS P q155 155 (.builtin "builtins.exit#opaque"),eS P q156 156 (.builtin "builtins.copyright#opaque"),eS P q157 157 (.builtin "builtins.credits#opaque"),eS P q158 158 (.builtin "builtins.license#opaque"),eS P q159 159 (.builtin "builtins.help#opaque")]⟩ 159,⟨[]⟩⟩
noncomputable def o2 (P:Params):Obj:=⟨.none,none,.dict ⟨[eS P q160 989 (.int 591 0),eS P q161 990 (.int 1 0)]⟩ 2,⟨[]⟩⟩
noncomputable def o3 (P:Params):Obj:=⟨.type "dict",none,.dict ⟨[eS P q0 165 (.str q162 2234),eS P q2 166 (.none),eS P q3 167 (.none),eS P q4 168 (.builtin "__main__.__loader__#opaque"),eS P q5 169 (.none),eS P q163 170 (.ref 6),eS P q164 171 (.ref 4),eS P q165 173 (.str q166 172),eS P q167 174 (.none),eS P q168 193 (.ref 21),eS P q169 204 (.ref 28),eS P q170 213 (.ref 35),eS P q171 223 (.ref 42),eS P q172 232 (.ref 49),eS P q173 242 (.ref 56),eS P q174 251 (.ref 63),eS P q175 409 (.ref 155),eS P q176 583 (.ref 289),eS P q177 587 (.int 2 586),eS P q178 659 (.ref 346),eS P q179 663 (.int 3 662),eS P q180 782 (.ref 437),eS P q181 786 (.int 7 785),eS P q182 885 (.ref 514),eS P q183 961 (.ref 570),eS P q184 992 (.ref 591),eS P q185 1008 (.ref 604),eS P q186 1024 (.ref 616),eS P q187 1040 (.ref 628),eS P q188 1112 (.ref 682),eS P q189 1175 (.ref 724),eS P q190 1416 (.ref 915),eS P q191 1425 (.ref 926),eS P q192 1434 (.ref 933),eS P q193 1442 (.ref 940),eS P q194 1446 (.int 1 1445),eS P q195 1448 (.int 2 1447),eS P q196 1450 (.int 4 1449),eS P q197 1452 (.int 8 1451),eS P q198 1454 (.int 16 1453),eS P q199 1456 (.int 32 1455),eS P q200 1458 (.int 0 1457),eS P q201 1460 (.int 1 1459),eS P q202 1462 (.int 2 1461),eS P q203 1464 (.int 4 1463),eS P q204 1536 (.ref 979),eS P q205 1544 (.ref 990),eS P q206 1551 (.ref 997),eS P q207 1561 (.ref 1004),eS P q208 1565 (.str q209 1564),eS P q210 1567 (.str q211 1566),eS P q212 1569 (.str q213 1568),eS P q214 1571 (.str q215 1570),eS P q216 1573 (.str q217 1572),eS P q218 1575 (.str q219 1574),eS P q220 1577 (.str q221 1576),eS P q222 1579 (.str q223 1578),eS P q224 1581 (.str q225 1580),eS P q226 1583 (.str q227 1582),eS P q228 1585 (.str q229 1584),eS P q230 1591 (.ref 1011),eS P q231 1597 (.ref 1018),eS P q232 1606 (.ref 1025),eS P q233 1613 (.ref 1032),eS P q234 1620 (.ref 1039),eS P q235 1627 (.ref 1046),eS P q236 1721 (.ref 1109),eS P q237 1725 (.int 1 1724),eS P q238 1727 (.int 2 1726),eS P q239 1729 (.int 3 1728),eS P q240 1731 (.int 4 1730),eS P q241 1733 (.int 65535 1732),eS P q242 1780 (.ref 1130),eS P q243 1788 (.ref 1141),eS P q244 1854 (.ref 1173),eS P q245 1858 (.int 7 1857),eS P q246 1867 (.ref 1184),eS P q209 1876 (.ref 1191),eS P q247 1885 (.ref 1198),eS P q248 1892 (.ref 1205),eS P q249 1899 (.ref 1212),eS P q250 1906 (.ref 1219),eS P q251 1915 (.ref 1226),eS P q252 1923 (.ref 1233),eS P q253 1939 (.ref 1240),eS P q254 1948 (.ref 1247),eS P q255 1956 (.ref 1254),eS P q256 1964 (.ref 1261),eS P q257 1972 (.ref 1268),eS P q258 1983 (.ref 1275),eS P q259 1996 (.ref 1282),eS P q260 2007 (.ref 1289),eS P q261 2011 (.int 4294967296 2010),eS P q262 2013 (.int 536 2012),eS P q263 2022 (.ref 1296),eS P q264 2029 (.ref 1303),eS P q265 2038 (.ref 1311),eS P q266 2048 (.ref 1318),eS P q267 2057 (.ref 1325),eS P q268 2067 (.ref 1332),eS P q269 2077 (.ref 1339),eS P q270 2085 (.ref 1346),eS P q271 2093 (.ref 1353),eS P q272 2101 (.ref 1360),eS P q273 2112 (.ref 1367),eS P q274 2122 (.ref 1374),eS P q275 2132 (.ref 1381),eS P q276 2140 (.ref 1388),eS P q277 2148 (.ref 1395),eS P q278 2158 (.ref 1402),eS P q279 2170 (.ref 1409),eS P q280 2184 (.ref 1416),eS P q281 2195 (.ref 1423),eS P q282 2203 (.ref 1430),eS P q283 2216 (.ref 1437),eS P q284 2224 (.ref 1444),eS P q285 2233 (.ref 1451),eS P q286 2244 (.ref 1458),eS P q287 2253 (.ref 1465),eS P q288 2261 (.ref 1472),eS P q289 2275 (.ref 1479),eS P q290 2282 (.ref 1486),eS P q291 2290 (.ref 1493),eS P q292 2296 (.ref 1498),eS P q293 2302 (.ref 1503),eS P q294 2308 (.ref 1508)]⟩ 126,⟨[]⟩⟩
noncomputable def o27:Obj:=cO q169 q169 196 5 3 22 202
noncomputable def o28:Obj:=fO (fS 2) q169 (.none) (.str q295 194) 27
noncomputable def o34:Obj:=cO q170 q170 205 7 3 29 211
noncomputable def o35:Obj:=fO (fS 3) q170 (.none) (.str q295 194) 34
noncomputable def o41:Obj:=cO q171 q171 214 9 3 36 221
noncomputable def o42:Obj:=fO (fS 4) q171 (.none) (.str q295 194) 41
noncomputable def o48:Obj:=cO q172 q172 224 12 3 43 230
noncomputable def o49:Obj:=fO (fS 5) q172 (.none) (.str q295 194) 48
noncomputable def o55:Obj:=cO q173 q173 233 14 4 50 240
noncomputable def o56:Obj:=fO (fS 6) q173 (.none) (.str q295 194) 55
noncomputable def o76:Obj:=cO q296 q297 266 21 2 71 271
noncomputable def o77:Obj:=fO (mS 9 0) q297 (.none) (.str q298 252) 76
noncomputable def o88:Obj:=cO q299 q300 280 28 1 83 284
noncomputable def o89:Obj:=fO (mS 9 2) q300 (.none) (.str q298 252) 88
noncomputable def o95:Obj:=cO q301 q302 287 31 3 90 293
noncomputable def o96:Obj:=fO (mS 9 3) q302 (.none) (.str q298 252) 95
noncomputable def o102:Obj:=cO q303 q304 296 36 4 97 305
noncomputable def o103:Obj:=fO (mS 9 4) q304 (.none) (.str q298 252) 102
noncomputable def o109:Obj:=cO q305 q306 308 46 4 104 322
noncomputable def o110:Obj:=fO (mS 9 5) q306 (.none) (.str q298 252) 109
noncomputable def o116:Obj:=cO q307 q308 325 63 3 111 336
noncomputable def o117:Obj:=fO (mS 9 6) q308 (.none) (.str q298 252) 116
noncomputable def o123:Obj:=cO q309 q310 339 72 3 118 351
noncomputable def o124:Obj:=fO (mS 9 7) q310 (.none) (.str q298 252) 123
noncomputable def o130:Obj:=cO q311 q312 354 83 2 125 362
noncomputable def o131:Obj:=fO (mS 9 8) q312 (.none) (.str q298 252) 130
noncomputable def o137:Obj:=cO q313 q314 365 94 2 132 370
noncomputable def o138:Obj:=fO (mS 9 9) q314 (.none) (.str q298 252) 137
noncomputable def o151:Obj:=cO q315 q316 386 109 3 146 397
noncomputable def o152:Obj:=fO (mS 9 11) q316 (.none) (.str q298 252) 151
noncomputable def o154 (P:Params):Obj:=⟨.type "dict",none,.dict ⟨[eS P q317 261 (.str q298 252),eS P q318 265 (.int 19 264),eS P q296 273 (.ref 77),eS P q319 279 (.ref 82),eS P q299 286 (.ref 89),eS P q301 295 (.ref 96),eS P q303 307 (.ref 103),eS P q305 324 (.ref 110),eS P q307 338 (.ref 117),eS P q309 353 (.ref 124),eS P q311 364 (.ref 131),eS P q313 372 (.ref 138),eS P q320 385 (.ref 145),eS P q315 399 (.ref 152),eS P q321 402 (.ref 153),eS P q322 404 (.ref 156),eS P q323 406 (.ref 157),eS P q2 407 (.none)]⟩ 4,⟨[]⟩⟩
noncomputable def o155:Obj:=tO q175 155 154 254 262
noncomputable def o167:Obj:=⟨.type "tuple",none,.seq ⟨[.int 1 424]⟩ 0,⟨[]⟩⟩
noncomputable def o173:Obj:=cO q296 q324 425 120 5 168 433
noncomputable def o174:Obj:=fO (mS 11 0) q324 (.ref 167) (.str q325 410) 173
noncomputable def o180:Obj:=cO q326 q327 436 132 1 175 440
noncomputable def o181:Obj:=fO (mS 11 1) q327 (.none) (.str q325 410) 180
noncomputable def o187:Obj:=cO q328 q329 443 135 2 182 448
noncomputable def o188:Obj:=fO (mS 11 2) q329 (.none) (.str q325 410) 187
noncomputable def o194:Obj:=cO q330 q331 451 140 1 189 455
noncomputable def o195:Obj:=fO (mS 11 3) q331 (.none) (.str q325 410) 194
noncomputable def o201:Obj:=cO q332 q333 458 145 1 196 462
noncomputable def o202:Obj:=fO (mS 11 4) q333 (.none) (.str q325 410) 201
noncomputable def o208:Obj:=cO q263 q334 465 150 4 203 475
noncomputable def o209:Obj:=fO (mS 11 5) q334 (.none) (.str q325 410) 208
noncomputable def o215:Obj:=cO q335 q336 478 162 3 210 485
noncomputable def o216:Obj:=fO (mS 11 6) q336 (.none) (.str q325 410) 215
noncomputable def o222:Obj:=cO q337 q338 488 168 2 217 493
noncomputable def o223:Obj:=fO (mS 11 7) q338 (.none) (.str q325 410) 222
noncomputable def o229:Obj:=cO q339 q340 496 173 3 224 502
noncomputable def o230:Obj:=fO (mS 11 8) q340 (.none) (.str q325 410) 229
noncomputable def o236:Obj:=cO q341 q342 505 178 1 231 510
noncomputable def o237:Obj:=fO (mS 11 9) q342 (.none) (.str q325 410) 236
noncomputable def o243:Obj:=cO q343 q344 513 189 1 238 517
noncomputable def o244:Obj:=fO (mS 11 10) q344 (.none) (.str q325 410) 243
noncomputable def o257:Obj:=cO q345 q346 527 195 2 252 533
noncomputable def o258:Obj:=fO (mS 11 12) q346 (.none) (.str q325 410) 257
noncomputable def o264:Obj:=cO q347 q348 536 200 1 259 540
noncomputable def o265:Obj:=fO (mS 11 13) q348 (.none) (.str q325 410) 264
noncomputable def o288 (P:Params):Obj:=⟨.type "dict",none,.dict ⟨[eS P q317 419 (.str q325 410),eS P q318 423 (.int 118 422),eS P q296 435 (.ref 174),eS P q326 442 (.ref 181),eS P q328 450 (.ref 188),eS P q330 457 (.ref 195),eS P q332 464 (.ref 202),eS P q263 477 (.ref 209),eS P q335 487 (.ref 216),eS P q337 495 (.ref 223),eS P q339 504 (.ref 230),eS P q341 512 (.ref 237),eS P q343 519 (.ref 244),eS P q349 526 (.ref 251),eS P q345 535 (.ref 258),eS P q347 542 (.ref 265),eS P q350 550 (.ref 272),eS P q351 558 (.ref 279),eS P q352 565 (.ref 286),eS P q321 576 (.ref 287),eS P q322 578 (.ref 290),eS P q323 580 (.ref 291),eS P q2 581 (.none)]⟩ 4,⟨[]⟩⟩
noncomputable def o289:Obj:=tO q176 289 288 412 420
noncomputable def o306:Obj:=cO q296 q353 600 218 2 301 605
noncomputable def o307:Obj:=fO (mS 14 0) q353 (.none) (.str q354 584) 306
noncomputable def o308:Obj:=⟨.type "tuple",none,.seq ⟨[.bool false]⟩ 0,⟨[]⟩⟩
noncomputable def o314:Obj:=cO q355 q356 608 224 4 309 616
noncomputable def o315:Obj:=fO (mS 14 1) q356 (.ref 308) (.str q354 584) 314
noncomputable def o321:Obj:=cO q357 q358 619 235 1 316 623
noncomputable def o322:Obj:=fO (mS 14 2) q358 (.none) (.str q354 584) 321
noncomputable def o328:Obj:=cO q359 q360 626 238 2 323 631
noncomputable def o329:Obj:=fO (mS 14 3) q360 (.none) (.str q354 584) 328
noncomputable def o335:Obj:=cO q361 q362 634 243 1 330 638
noncomputable def o336:Obj:=fO (mS 14 4) q362 (.none) (.str q354 584) 335
noncomputable def o342:Obj:=cO q363 q364 641 247 1 337 645
noncomputable def o343:Obj:=fO (mS 14 5) q364 (.none) (.str q354 584) 342
noncomputable def o345 (P:Params):Obj:=⟨.type "dict",none,.dict ⟨[eS P q317 595 (.str q354 584),eS P q318 599 (.int 216 598),eS P q296 607 (.ref 307),eS P q355 618 (.ref 315),eS P q357 625 (.ref 322),eS P q359 633 (.ref 329),eS P q361 640 (.ref 336),eS P q363 647 (.ref 343),eS P q321 652 (.ref 344),eS P q322 654 (.ref 347),eS P q323 656 (.ref 348),eS P q2 657 (.none)]⟩ 4,⟨[]⟩⟩
noncomputable def o346:Obj:=tO q178 346 345 588 596
noncomputable def o363:Obj:=cO q296 q365 676 253 4 358 683
noncomputable def o364:Obj:=fO (mS 17 0) q365 (.none) (.str q366 660) 363
noncomputable def o370:Obj:=cO q332 q367 686 263 1 365 690
noncomputable def o371:Obj:=fO (mS 17 1) q367 (.none) (.str q366 660) 370
noncomputable def o436 (P:Params):Obj:=⟨.type "dict",none,.dict ⟨[eS P q317 671 (.str q366 660),eS P q318 675 (.int 251 674),eS P q296 685 (.ref 364),eS P q332 692 (.ref 371),eS P q368 701 (.ref 378),eS P q369 709 (.ref 385),eS P q370 718 (.ref 392),eS P q371 726 (.ref 399),eS P q372 735 (.ref 406),eS P q373 743 (.ref 413),eS P q374 751 (.ref 420),eS P q375 758 (.ref 427),eS P q376 766 (.ref 434),eS P q321 775 (.ref 435),eS P q322 777 (.ref 438),eS P q323 779 (.ref 439),eS P q2 780 (.none)]⟩ 4,⟨[]⟩⟩
noncomputable def o437:Obj:=tO q180 437 436 664 672
noncomputable def o454:Obj:=cO q296 q377 799 329 3 449 805
noncomputable def o455:Obj:=fO (mS 20 0) q377 (.none) (.str q378 783) 454
noncomputable def o513 (P:Params):Obj:=⟨.type "dict",none,.dict ⟨[eS P q317 794 (.str q378 783),eS P q318 798 (.int 327 797),eS P q296 807 (.ref 455),eS P q379 814 (.ref 462),eS P q380 823 (.ref 469),eS P q311 830 (.ref 476),eS P q371 841 (.ref 483),eS P q381 848 (.ref 490),eS P q382 855 (.ref 497),eS P q383 864 (.ref 504),eS P q384 872 (.ref 511),eS P q321 878 (.ref 512),eS P q322 880 (.ref 515),eS P q323 882 (.ref 516),eS P q2 883 (.none)]⟩ 4,⟨[]⟩⟩
noncomputable def o514:Obj:=tO q182 514 513 787 795
noncomputable def o531:Obj:=cO q296 q385 900 373 4 526 907
noncomputable def o532:Obj:=fO (mS 22 0) q385 (.none) (.str q386 886) 531
noncomputable def o569 (P:Params):Obj:=⟨.type "dict",none,.dict ⟨[eS P q317 895 (.str q386 886),eS P q318 899 (.int 371 898),eS P q296 909 (.ref 532),eS P q387 918 (.ref 539),eS P q388 925 (.ref 546),eS P q389 932 (.ref 553),eS P q390 939 (.ref 560),eS P q391 947 (.ref 567),eS P q321 954 (.ref 568),eS P q322 956 (.ref 571),eS P q323 958 (.ref 572),eS P q2 959 (.none)]⟩ 4,⟨[]⟩⟩
noncomputable def o570:Obj:=tO q183 570 569 888 896
noncomputable def o587:Obj:=cO q296 q392 976 411 2 582 981
noncomputable def o588:Obj:=fO (mS 24 0) q392 (.none) (.str q393 962) 587
noncomputable def o590 (P:Params):Obj:=⟨.type "dict",none,.dict ⟨[eS P q317 971 (.str q393 962),eS P q318 975 (.int 409 974),eS P q296 983 (.ref 588),eS P q321 985 (.ref 589),eS P q323 987 (.ref 592),eS P q2 988 (.none)]⟩ 3,⟨[]⟩⟩
noncomputable def o591:Obj:=⟨.type "type",none,.cls {name:=q184,bases:=[.type "Exception"],mro:=[.ref 591,.type "Exception",.type "BaseException",.type "object"],ns:=590,qualname:=q184,hasDict:=true,slotNames:=[],subclasses:=[.ref 604,.ref 616,.ref 628],abstract:=false,collection:=none,hasDel:=false},⟨[some (.ref 575),none,some (.str q184 964),some (.str q184 972),some (.builtin "Exception.__new__"),some (.bool true)]⟩⟩
noncomputable def o627 (P:Params):Obj:=⟨.type "dict",none,.dict ⟨[eS P q317 1032 (.str q393 962),eS P q318 1036 (.int 417 1035),eS P q321 1037 (.ref 626),eS P q2 1038 (.none)]⟩ 2,⟨[]⟩⟩
noncomputable def o628:Obj:=⟨.type "type",none,.cls {name:=q187,bases:=[.ref 591],mro:=[.ref 628,.ref 591,.type "Exception",.type "BaseException",.type "object"],ns:=627,qualname:=q187,hasDict:=true,slotNames:=[],subclasses:=[],abstract:=false,collection:=none,hasDel:=false},⟨[some (.ref 619),none,some (.str q187 1025),some (.str q187 1033),some (.builtin "Exception.__new__"),some (.bool true)]⟩⟩
noncomputable def o643:Obj:=cO q296 q394 1055 422 2 638 1060
noncomputable def o644:Obj:=fO (mS 29 0) q394 (.none) (.str q395 1041) 643
noncomputable def o650:Obj:=cO q319 q396 1063 428 1 645 1067
noncomputable def o651:Obj:=fO (mS 29 1) q396 (.none) (.str q395 1041) 650
noncomputable def o681 (P:Params):Obj:=⟨.type "dict",none,.dict ⟨[eS P q317 1050 (.str q395 1041),eS P q318 1054 (.int 420 1053),eS P q296 1062 (.ref 644),eS P q319 1069 (.ref 651),eS P q397 1076 (.ref 658),eS P q303 1085 (.ref 665),eS P q398 1094 (.ref 672),eS P q399 1102 (.ref 679),eS P q321 1105 (.ref 680),eS P q322 1107 (.ref 683),eS P q323 1109 (.ref 684),eS P q2 1110 (.none)]⟩ 4,⟨[]⟩⟩
noncomputable def o682:Obj:=tO q188 682 681 1043 1051
noncomputable def o699:Obj:=cO q296 q400 1127 451 2 694 1132
noncomputable def o700:Obj:=fO (mS 31 0) q400 (.none) (.str q401 1113) 699
noncomputable def o706:Obj:=cO q402 q403 1135 458 3 701 1142
noncomputable def o707:Obj:=fO (mS 31 1) q403 (.none) (.str q401 1113) 706
noncomputable def o713:Obj:=cO q313 q404 1145 466 4 708 1152
noncomputable def o714:Obj:=fO (mS 31 2) q404 (.none) (.str q401 1113) 713
noncomputable def o723 (P:Params):Obj:=⟨.type "dict",none,.dict ⟨[eS P q317 1122 (.str q401 1113),eS P q318 1126 (.int 449 1125),eS P q296 1134 (.ref 700),eS P q402 1144 (.ref 707),eS P q313 1154 (.ref 714),eS P q405 1162 (.ref 721),eS P q321 1168 (.ref 722),eS P q322 1170 (.ref 725),eS P q323 1172 (.ref 726),eS P q2 1173 (.none)]⟩ 4,⟨[]⟩⟩
noncomputable def o724:Obj:=tO q189 724 723 1115 1123
noncomputable def o741:Obj:=cO q296 q406 1188 479 5 736 1196
noncomputable def o742:Obj:=fO (mS 32 0) q406 (.none) (.str q401 1113) 741
noncomputable def o748:Obj:=cO q332 q407 1199 492 1 743 1203
noncomputable def o749:Obj:=fO (mS 32 1) q407 (.none) (.str q401 1113) 748
noncomputable def o750:Obj:=⟨.type "property",none,.fields ⟨[.ref 749,.none,.none,.none,.str q332 1206,.bool false]⟩,⟨[]⟩⟩
noncomputable def o756:Obj:=cO q408 q409 1207 496 4 751 1214
noncomputable def o757:Obj:=fO (mS 32 2) q409 (.none) (.str q401 1113) 756
noncomputable def o777:Obj:=cO q410 q411 1232 507 1 772 1236
noncomputable def o778:Obj:=fO (mS 32 5) q411 (.none) (.str q401 1113) 777
noncomputable def o791:Obj:=cO q412 q413 1247 513 1 786 1251
noncomputable def o792:Obj:=fO (mS 32 7) q413 (.none) (.str q401 1113) 791
noncomputable def o798:Obj:=cO q414 q415 1254 516 1 793 1258
noncomputable def o799:Obj:=fO (mS 32 8) q415 (.none) (.str q401 1113) 798
noncomputable def o805:Obj:=cO q416 q417 1261 519 1 800 1266
noncomputable def o806:Obj:=fO (mS 32 9) q417 (.none) (.str q401 1113) 805
noncomputable def o842:Obj:=⟨.type "tuple",none,.seq ⟨[.bool true]⟩ 0,⟨[]⟩⟩
noncomputable def o848:Obj:=cO q418 q419 1307 547 3 843 1315
noncomputable def o849:Obj:=fO (mS 32 15) q419 (.ref 842) (.str q401 1113) 848
noncomputable def o862:Obj:=cO q420 q421 1331 571 1 857 1335
noncomputable def o863:Obj:=fO (mS 32 17) q421 (.none) (.str q401 1113) 862
noncomputable def o890:Obj:=cO q422 q423 1364 593 1 885 1368
noncomputable def o891:Obj:=fO (mS 32 21) q423 (.none) (.str q401 1113) 890
noncomputable def o897:Obj:=cO q424 q425 1371 598 1 892 1376
noncomputable def o898:Obj:=fO (mS 32 22) q425 (.none) (.str q401 1113) 897
noncomputable def o914 (P:Params):Obj:=⟨.type "dict",none,.dict ⟨[eS P q317 1183 (.str q401 1113),eS P q318 1187 (.int 477 1186),eS P q296 1198 (.ref 742),eS P q332 1206 (.ref 750),eS P q408 1216 (.ref 757),eS P q303 1224 (.ref 764),eS P q426 1231 (.ref 771),eS P q410 1238 (.ref 778),eS P q427 1246 (.ref 785),eS P q412 1253 (.ref 792),eS P q414 1260 (.ref 799),eS P q416 1268 (.ref 806),eS P q428 1275 (.ref 813),eS P q429 1282 (.ref 820),eS P q430 1290 (.ref 827),eS P q431 1297 (.ref 834),eS P q432 1306 (.ref 841),eS P q418 1317 (.ref 849),eS P q433 1330 (.ref 856),eS P q420 1337 (.ref 863),eS P q434 1347 (.ref 870),eS P q435 1355 (.ref 877),eS P q436 1363 (.ref 884),eS P q422 1370 (.ref 891),eS P q424 1378 (.ref 898),eS P q437 1385 (.ref 905),eS P q371 1397 (.ref 912),eS P q321 1409 (.ref 913),eS P q322 1411 (.ref 916),eS P q323 1413 (.ref 917),eS P q2 1414 (.none)]⟩ 4,⟨[]⟩⟩
noncomputable def o915:Obj:=tO q190 915 914 1176 1184
noncomputable def o948:Obj:=⟨.type "tuple",none,.seq ⟨[.int 0 1477,.bytes ⟨[]⟩ 1478,.bytes ⟨[]⟩ 1479]⟩ 0,⟨[]⟩⟩
noncomputable def o954:Obj:=cO q296 q438 1480 652 10 949 1493
noncomputable def o955:Obj:=fO (mS 48 0) q438 (.ref 948) (.str q439 1443) 954
noncomputable def o961:Obj:=cO q440 q441 1496 663 2 956 1501
noncomputable def o962:Obj:=fO (mS 48 1) q441 (.none) (.str q439 1443) 961
noncomputable def o968:Obj:=cO q442 q443 1504 666 1 963 1509
noncomputable def o969:Obj:=fO (mS 48 2) q443 (.none) (.str q439 1443) 968
noncomputable def o975:Obj:=cO q444 q445 1512 674 1 970 1517
noncomputable def o976:Obj:=fO (mS 48 3) q445 (.none) (.str q439 1443) 975
noncomputable def o978 (P:Params):Obj:=⟨.type "dict",none,.dict ⟨[eS P q317 1472 (.str q439 1443),eS P q318 1476 (.int 650 1475),eS P q296 1495 (.ref 955),eS P q440 1503 (.ref 962),eS P q442 1511 (.ref 969),eS P q444 1519 (.ref 976),eS P q321 1529 (.ref 977),eS P q322 1531 (.ref 980),eS P q323 1533 (.ref 981),eS P q2 1534 (.none)]⟩ 4,⟨[]⟩⟩
noncomputable def o979:Obj:=tO q204 979 978 1465 1473
noncomputable def o1010:Obj:=cO q230 q230 1586 713 0 1005 1589
noncomputable def o1011:Obj:=fO (fS 64) q230 (.none) (.str q446 1562) 1010
noncomputable def o1017:Obj:=cO q231 q231 1592 715 0 1012 1595
noncomputable def o1018:Obj:=fO (fS 65) q231 (.none) (.str q446 1562) 1017
noncomputable def o1024:Obj:=cO q232 q232 1598 717 2 1019 1604
noncomputable def o1025:Obj:=fO (fS 66) q232 (.none) (.str q446 1562) 1024
noncomputable def o1031:Obj:=cO q233 q233 1607 726 1 1026 1611
noncomputable def o1032:Obj:=fO (fS 67) q233 (.none) (.str q446 1562) 1031
noncomputable def o1045:Obj:=cO q235 q235 1621 730 1 1040 1625
noncomputable def o1046:Obj:=fO (fS 69) q235 (.none) (.str q446 1562) 1045
noncomputable def o1054:Obj:=⟨.type "tuple",none,.seq ⟨[.int 16 1642]⟩ 0,⟨[]⟩⟩
noncomputable def o1058:Obj:=⟨.type "code",none,.fields ⟨[.str q296 1643,.str q447 1644,.str q166 1645,.int 735 0,.int 2 0,.int 0 0,.int 0 0,.int 3 0,.ref 1055,.bool true,.int 181 0,.ref 1056,.none,.none,.none,.ref 1057,.int 1646 0,.int 735 0,.str q166 1647]⟩,⟨[]⟩⟩
noncomputable def o1059:Obj:=fO (mS 71 0) q447 (.ref 1054) (.str q448 1628) 1058
noncomputable def o1065:Obj:=cO q303 q449 1649 743 3 1060 1655
noncomputable def o1066:Obj:=fO (mS 71 1) q449 (.none) (.str q448 1628) 1065
noncomputable def o1072:Obj:=cO q450 q451 1658 749 2 1067 1663
noncomputable def o1073:Obj:=fO (mS 71 2) q451 (.none) (.str q448 1628) 1072
noncomputable def o1079:Obj:=cO q452 q453 1666 754 2 1074 1674
noncomputable def o1080:Obj:=fO (mS 71 3) q453 (.none) (.str q448 1628) 1079
noncomputable def o1086:Obj:=cO q454 q455 1677 761 2 1081 1682
noncomputable def o1087:Obj:=fO (mS 71 4) q455 (.none) (.str q448 1628) 1086
noncomputable def o1108 (P:Params):Obj:=⟨.type "dict",none,.dict ⟨[eS P q317 1637 (.str q448 1628),eS P q318 1641 (.int 733 1640),eS P q296 1648 (.ref 1059),eS P q303 1657 (.ref 1066),eS P q450 1665 (.ref 1073),eS P q452 1676 (.ref 1080),eS P q454 1684 (.ref 1087),eS P q456 1691 (.ref 1094),eS P q457 1697 (.ref 1099),eS P q458 1707 (.ref 1106),eS P q321 1714 (.ref 1107),eS P q322 1716 (.ref 1110),eS P q323 1718 (.ref 1111),eS P q2 1719 (.none)]⟩ 4,⟨[]⟩⟩
noncomputable def o1109:Obj:=tO q236 1109 1108 1630 1638
noncomputable def o1126:Obj:=cO q296 q459 1746 794 11 1121 1760
noncomputable def o1127:Obj:=fO (mS 78 0) q459 (.none) (.str q460 1722) 1126
noncomputable def o1129 (P:Params):Obj:=⟨.type "dict",none,.dict ⟨[eS P q317 1741 (.str q460 1722),eS P q318 1745 (.int 792 1744),eS P q296 1762 (.ref 1127),eS P q321 1773 (.ref 1128),eS P q322 1775 (.ref 1131),eS P q323 1777 (.ref 1132),eS P q2 1778 (.none)]⟩ 4,⟨[]⟩⟩
noncomputable def o1130:Obj:=tO q242 1130 1129 1734 1742
noncomputable def o1140:Obj:=cO q243 q243 1781 805 1 1135 1786
noncomputable def o1141:Obj:=fO (fS 79) q243 (.none) (.str q460 1722) 1140
noncomputable def o1154:Obj:=cO q296 q461 1801 810 5 1149 1809
noncomputable def o1155:Obj:=fO (mS 80 0) q461 (.none) (.str q460 1722) 1154
noncomputable def o1161:Obj:=cO q462 q463 1812 826 1 1156 1816
noncomputable def o1162:Obj:=fO (mS 80 1) q463 (.none) (.str q460 1722) 1161
noncomputable def o1163:Obj:=⟨.type "tuple",none,.seq ⟨[.bytes ⟨[]⟩ 1819]⟩ 0,⟨[]⟩⟩
noncomputable def o1169:Obj:=cO q464 q465 1820 831 4 1164 1830
noncomputable def o1170:Obj:=fO (mS 80 2) q465 (.ref 1163) (.str q460 1722) 1169
noncomputable def o1172 (P:Params):Obj:=⟨.type "dict",none,.dict ⟨[eS P q317 1796 (.str q460 1722),eS P q318 1800 (.int 808 1799),eS P q296 1811 (.ref 1155),eS P q462 1818 (.ref 1162),eS P q464 1832 (.ref 1170),eS P q321 1847 (.ref 1171),eS P q322 1849 (.ref 1174),eS P q323 1851 (.ref 1175),eS P q2 1852 (.none)]⟩ 4,⟨[]⟩⟩
noncomputable def o1173:Obj:=tO q244 1173 1172 1789 1797
noncomputable def o1183:Obj:=cO q246 q246 1859 843 2 1178 1865
noncomputable def o1184:Obj:=fO (fS 83) q246 (.none) (.str q466 1855) 1183
noncomputable def o1197:Obj:=cO q247 q247 1877 854 2 1192 1883
noncomputable def o1198:Obj:=fO (fS 85) q247 (.none) (.str q466 1855) 1197
noncomputable def o1211:Obj:=cO q249 q249 1893 861 1 1206 1897
noncomputable def o1212:Obj:=fO (fS 87) q249 (.none) (.str q466 1855) 1211
noncomputable def o1232:Obj:=cO q252 q252 1916 872 1 1227 1921
noncomputable def o1233:Obj:=fO (fS 90) q252 (.none) (.str q466 1855) 1232
noncomputable def o1239:Obj:=cO q253 q253 1924 877 2 1234 1937
noncomputable def o1240:Obj:=fO (fS 91) q253 (.none) (.str q466 1855) 1239
noncomputable def o1246:Obj:=cO q254 q254 1940 887 2 1241 1946
noncomputable def o1247:Obj:=fO (fS 92) q254 (.none) (.str q466 1855) 1246
noncomputable def o1260:Obj:=cO q256 q256 1957 903 2 1255 1962
noncomputable def o1261:Obj:=fO (fS 94) q256 (.none) (.str q466 1855) 1260
noncomputable def o1281:Obj:=cO q259 q259 1986 925 5 1276 1994
noncomputable def o1282:Obj:=fO (fS 98) q259 (.none) (.str q467 1984) 1281
noncomputable def o1295:Obj:=cO q263 q263 2014 939 3 1290 2020
noncomputable def o1296:Obj:=fO (fS 103) q263 (.none) (.str q468 2008) 1295
noncomputable def o1366:Obj:=cO q273 q273 2102 1011 3 1361 2110
noncomputable def o1367:Obj:=fO (fS 113) q273 (.none) (.str q468 2008) 1366
noncomputable def o1373:Obj:=cO q274 q274 2113 1036 2 1368 2120
noncomputable def o1374:Obj:=fO (fS 114) q274 (.none) (.str q468 2008) 1373
noncomputable def o1401:Obj:=cO q278 q278 2149 1068 2 1396 2156
noncomputable def o1402:Obj:=fO (fS 118) q278 (.none) (.str q468 2008) 1401
noncomputable def o1415:Obj:=cO q280 q280 2171 1079 3 1410 2182
noncomputable def o1416:Obj:=fO (fS 120) q280 (.none) (.str q468 2008) 1415
noncomputable def o1422:Obj:=cO q281 q281 2185 1098 3 1417 2193
noncomputable def o1423:Obj:=fO (fS 121) q281 (.none) (.str q468 2008) 1422
noncomputable def o1436:Obj:=cO q283 q283 2204 1114 3 1431 2214
noncomputable def o1437:Obj:=fO (fS 123) q283 (.none) (.str q468 2008) 1436
noncomputable def o1443:Obj:=cO q284 q284 2217 1134 2 1438 2222
noncomputable def o1444:Obj:=fO (fS 124) q284 (.none) (.str q468 2008) 1443
noncomputable def o1450:Obj:=cO q285 q285 2225 1140 2 1445 2231
noncomputable def o1451:Obj:=fO (fS 125) q285 (.none) (.str q468 2008) 1450
noncomputable def o1457:Obj:=cO q286 q286 2236 1148 1 1452 2242
noncomputable def o1458:Obj:=fO (fS 127) q286 (.none) (.str q162 2234) 1457
noncomputable def o1464:Obj:=cO q287 q287 2245 1152 2 1459 2251
noncomputable def o1465:Obj:=fO (fS 128) q287 (.none) (.str q162 2234) 1464
noncomputable def o1471:Obj:=cO q288 q288 2254 1159 2 1466 2259
noncomputable def o1472:Obj:=fO (fS 129) q288 (.none) (.str q162 2234) 1471
noncomputable def o1478:Obj:=cO q289 q289 2262 1161 4 1473 2273
noncomputable def o1479:Obj:=fO (fS 130) q289 (.none) (.str q162 2234) 1478
noncomputable def o1485:Obj:=cO q290 q290 2276 1169 1 1480 2280
noncomputable def o1486:Obj:=fO (fS 131) q290 (.none) (.str q162 2234) 1485
noncomputable def o1492:Obj:=cO q291 q291 2283 1175 2 1487 2288
noncomputable def o1493:Obj:=fO (fS 132) q291 (.none) (.str q162 2234) 1492
noncomputable def o1497:Obj:=⟨.type "code",none,.fields ⟨[.str q292 2291,.str q292 2292,.str q166 2293,.int 1181 0,.int 5 0,.int 0 0,.int 0 0,.int 3 0,.ref 1494,.bool true,.int 181 0,.ref 1495,.none,.none,.none,.ref 1496,.int 2294 0,.int 1181 0,.str q166 2295]⟩,⟨[]⟩⟩
noncomputable def o1498:Obj:=fO (fS 133) q292 (.none) (.str q162 2234) 1497
noncomputable def o1502:Obj:=⟨.type "code",none,.fields ⟨[.str q293 2297,.str q293 2298,.str q166 2299,.int 1191 0,.int 4 0,.int 0 0,.int 0 0,.int 3 0,.ref 1499,.bool true,.int 181 0,.ref 1500,.none,.none,.none,.ref 1501,.int 2300 0,.int 1191 0,.str q166 2301]⟩,⟨[]⟩⟩
noncomputable def o1503:Obj:=fO (fS 134) q293 (.none) (.str q162 2234) 1502
noncomputable def o1507:Obj:=⟨.type "code",none,.fields ⟨[.str q294 2303,.str q294 2304,.str q166 2305,.int 1204 0,.int 1 0,.int 0 0,.int 0 0,.int 3 0,.ref 1504,.bool true,.int 181 0,.ref 1505,.none,.none,.none,.ref 1506,.int 2306 0,.int 1204 0,.str q166 2307]⟩,⟨[]⟩⟩
noncomputable def o1508:Obj:=fO (fS 135) q294 (.none) (.str q162 2234) 1507
noncomputable def kT (P:Params):Bt:=(.node (.node (.node (.node (.node (.node (.node (.node .leaf 0 (o0 P) .leaf) 2 (o2 P) (.node .leaf 3 (o3 P) .leaf)) 27 o27 (.node (.node .leaf 28 o28 .leaf) 34 o34 (.node .leaf 35 o35 .leaf))) 41 o41 (.node (.node (.node .leaf 42 o42 .leaf) 48 o48 (.node .leaf 49 o49 .leaf)) 55 o55 (.node (.node .leaf 56 o56 .leaf) 76 o76 (.node .leaf 77 o77 .leaf)))) 88 o88 (.node (.node (.node (.node .leaf 89 o89 .leaf) 95 o95 (.node .leaf 96 o96 .leaf)) 102 o102 (.node (.node .leaf 103 o103 .leaf) 109 o109 (.node .leaf 110 o110 .leaf))) 116 o116 (.node (.node (.node .leaf 117 o117 .leaf) 123 o123 (.node .leaf 124 o124 .leaf)) 130 o130 (.node (.node .leaf 131 o131 .leaf) 137 o137 .leaf)))) 138 o138 (.node (.node (.node (.node (.node .leaf 151 o151 .leaf) 152 o152 (.node .leaf 154 (o154 P) .leaf)) 155 o155 (.node (.node .leaf 167 o167 .leaf) 173 o173 (.node .leaf 174 o174 .leaf))) 180 o180 (.node (.node (.node .leaf 181 o181 .leaf) 187 o187 (.node .leaf 188 o188 .leaf)) 194 o194 (.node (.node .leaf 195 o195 .leaf) 201 o201 .leaf))) 202 o202 (.node (.node (.node (.node .leaf 208 o208 .leaf) 209 o209 (.node .leaf 215 o215 .leaf)) 216 o216 (.node (.node .leaf 222 o222 .leaf) 223 o223 (.node .leaf 229 o229 .leaf))) 230 o230 (.node (.node (.node .leaf 236 o236 .leaf) 237 o237 (.node .leaf 243 o243 .leaf)) 244 o244 (.node (.node .leaf 257 o257 .leaf) 258 o258 .leaf))))) 264 o264 (.node (.node (.node (.node (.node (.node .leaf 265 o265 .leaf) 288 (o288 P) (.node .leaf 289 o289 .leaf)) 306 o306 (.node (.node .leaf 307 o307 .leaf) 308 o308 (.node .leaf 314 o314 .leaf))) 315 o315 (.node (.node (.node .leaf 321 o321 .leaf) 322 o322 (.node .leaf 328 o328 .leaf)) 329 o329 (.node (.node .leaf 335 o335 .leaf) 336 o336 .leaf))) 342 o342 (.node (.node (.node (.node .leaf 343 o343 .leaf) 345 (o345 P) (.node .leaf 346 o346 .leaf)) 363 o363 (.node (.node .leaf 364 o364 .leaf) 370 o370 (.node .leaf 371 o371 .leaf))) 436 (o436 P) (.node (.node (.node .leaf 437 o437 .leaf) 454 o454 (.node .leaf 455 o455 .leaf)) 513 (o513 P) (.node (.node .leaf 514 o514 .leaf) 531 o531 .leaf)))) 532 o532 (.node (.node (.node (.node (.node .leaf 569 (o569 P) .leaf) 570 o570 (.node .leaf 587 o587 .leaf)) 588 o588 (.node (.node .leaf 590 (o590 P) .leaf) 591 o591 (.node .leaf 627 (o627 P) .leaf))) 628 o628 (.node (.node (.node .leaf 643 o643 .leaf) 644 o644 (.node .leaf 650 o650 .leaf)) 651 o651 (.node (.node .leaf 681 (o681 P) .leaf) 682 o682 .leaf))) 699 o699 (.node (.node (.node (.node .leaf 700 o700 .leaf) 706 o706 (.node .leaf 707 o707 .leaf)) 713 o713 (.node (.node .leaf 714 o714 .leaf) 723 (o723 P) (.node .leaf 724 o724 .leaf))) 741 o741 (.node (.node (.node .leaf 742 o742 .leaf) 748 o748 (.node .leaf 749 o749 .leaf)) 750 o750 (.node (.node .leaf 756 o756 .leaf) 757 o757 .leaf)))))) 777 o777 (.node (.node (.node (.node (.node (.node (.node .leaf 778 o778 .leaf) 791 o791 (.node .leaf 792 o792 .leaf)) 798 o798 (.node (.node .leaf 799 o799 .leaf) 805 o805 (.node .leaf 806 o806 .leaf))) 842 o842 (.node (.node (.node .leaf 848 o848 .leaf) 849 o849 (.node .leaf 862 o862 .leaf)) 863 o863 (.node (.node .leaf 890 o890 .leaf) 891 o891 .leaf))) 897 o897 (.node (.node (.node (.node .leaf 898 o898 .leaf) 914 (o914 P) (.node .leaf 915 o915 .leaf)) 948 o948 (.node (.node .leaf 954 o954 .leaf) 955 o955 (.node .leaf 961 o961 .leaf))) 962 o962 (.node (.node (.node .leaf 968 o968 .leaf) 969 o969 (.node .leaf 975 o975 .leaf)) 976 o976 (.node (.node .leaf 978 (o978 P) .leaf) 979 o979 .leaf)))) 1010 o1010 (.node (.node (.node (.node (.node .leaf 1011 o1011 .leaf) 1017 o1017 (.node .leaf 1018 o1018 .leaf)) 1024 o1024 (.node (.node .leaf 1025 o1025 .leaf) 1031 o1031 (.node .leaf 1032 o1032 .leaf))) 1045 o1045 (.node (.node (.node .leaf 1046 o1046 .leaf) 1054 o1054 (.node .leaf 1058 o1058 .leaf)) 1059 o1059 (.node (.node .leaf 1065 o1065 .leaf) 1066 o1066 .leaf))) 1072 o1072 (.node (.node (.node (.node .leaf 1073 o1073 .leaf) 1079 o1079 (.node .leaf 1080 o1080 .leaf)) 1086 o1086 (.node (.node .leaf 1087 o1087 .leaf) 1108 (o1108 P) (.node .leaf 1109 o1109 .leaf))) 1126 o1126 (.node (.node (.node .leaf 1127 o1127 .leaf) 1129 (o1129 P) (.node .leaf 1130 o1130 .leaf)) 1140 o1140 (.node (.node .leaf 1141 o1141 .leaf) 1154 o1154 .leaf))))) 1155 o1155 (.node (.node (.node (.node (.node (.node .leaf 1161 o1161 .leaf) 1162 o1162 (.node .leaf 1163 o1163 .leaf)) 1169 o1169 (.node (.node .leaf 1170 o1170 .leaf) 1172 (o1172 P) (.node .leaf 1173 o1173 .leaf))) 1183 o1183 (.node (.node (.node .leaf 1184 o1184 .leaf) 1197 o1197 (.node .leaf 1198 o1198 .leaf)) 1211 o1211 (.node (.node .leaf 1212 o1212 .leaf) 1232 o1232 .leaf))) 1233 o1233 (.node (.node (.node (.node .leaf 1239 o1239 .leaf) 1240 o1240 (.node .leaf 1246 o1246 .leaf)) 1247 o1247 (.node (.node .leaf 1260 o1260 .leaf) 1261 o1261 (.node .leaf 1281 o1281 .leaf))) 1282 o1282 (.node (.node (.node .leaf 1295 o1295 .leaf) 1296 o1296 (.node .leaf 1366 o1366 .leaf)) 1367 o1367 (.node (.node .leaf 1373 o1373 .leaf) 1374 o1374 .leaf)))) 1401 o1401 (.node (.node (.node (.node (.node .leaf 1402 o1402 .leaf) 1415 o1415 (.node .leaf 1416 o1416 .leaf)) 1422 o1422 (.node (.node .leaf 1423 o1423 .leaf) 1436 o1436 (.node .leaf 1437 o1437 .leaf))) 1443 o1443 (.node (.node (.node .leaf 1444 o1444 .leaf) 1450 o1450 (.node .leaf 1451 o1451 .leaf)) 1457 o1457 (.node (.node .leaf 1458 o1458 .leaf) 1464 o1464 .leaf))) 1465 o1465 (.node (.node (.node (.node .leaf 1471 o1471 .leaf) 1472 o1472 (.node .leaf 1478 o1478 .leaf)) 1479 o1479 (.node (.node .leaf 1485 o1485 .leaf) 1486 o1486 (.node .leaf 1492 o1492 .leaf))) 1493 o1493 (.node (.node (.node .leaf 1497 o1497 .leaf) 1498 o1498 (.node .leaf 1502 o1502 .leaf)) 1503 o1503 (.node (.node .leaf 1507 o1507 .leaf) 1508 o1508 .leaf)))))))
noncomputable def kAs:List Nat:=[0,2,3,27,28,34,35,41,42,48,49,55,56,76,77,88,89,95,96,102,103,109,110,116,117,123,124,130,131,137,138,151,152,154,155,167,173,174,180,181,187,188,194,195,201,202,208,209,215,216,222,223,229,230,236,237,243,244,257,258,264,265,288,289,306,307,308,314,315,321,322,328,329,335,336,342,343,345,346,363,364,370,371,436,437,454,455,513,514,531,532,569,570,587,588,590,591,627,628,643,644,650,651,681,682,699,700,706,707,713,714,723,724,741,742,748,749,750,756,757,777,778,791,792,798,799,805,806,842,848,849,862,863,890,891,897,898,914,915,948,954,955,961,962,968,969,975,976,978,979,1010,1011,1017,1018,1024,1025,1031,1032,1045,1046,1054,1058,1059,1065,1066,1072,1073,1079,1080,1086,1087,1108,1109,1126,1127,1129,1130,1140,1141,1154,1155,1161,1162,1163,1169,1170,1172,1173,1183,1184,1197,1198,1211,1212,1232,1233,1239,1240,1246,1247,1260,1261,1281,1282,1295,1296,1366,1367,1373,1374,1401,1402,1415,1416,1422,1423,1436,1437,1443,1444,1450,1451,1457,1458,1464,1465,1471,1472,1478,1479,1485,1486,1492,1493,1497,1498,1502,1503,1507,1508]
end
end Mine
namespace Mine
open PySem PySem.W
noncomputable section
abbrev pw:Program:=PySem.Challenge.pw_xw0355_01
noncomputable def topG (ok:Thread→Bool) (st:SharedT→Thread→Option (SharedT×Thread)):Nat→SharedT→Thread→Option SharedT
  | 0,_,_=>none
  | n + 1,s,t=>match through t with
    | true=>some s
    | false=>match ok t with
      | false=>none
      | true=>match st s t with
        | some (s',t')=>topG ok st n s' t'
        | none=>none
theorem topG_run {tb:String→Option Builtin} {p:Program} {w:World} {n₀:Nat} {ann:Option Value}:∀{n:Nat} {s s':SharedT} {t:Thread},
    topG (stepOk n₀ ann) (stepT (denote tb) p w) n s t = some s'→topRun tb p w n₀ ann n s.abs t = some s'.abs
  | 0,_,_,_,h=>by cases h
  | n + 1,s,s',t,h=>by
    unfold topG at h
    unfold topRun
    cases ht:through t with
    | true=>rw [ht] at h;cases h;rfl
    | false=>
      rw [ht] at h
      cases hk:stepOk n₀ ann t with
      | false=>rw [hk] at h;cases h
      | true=>
        rw [hk] at h
        cases hs:stepT (denote tb) p w s t with
        | none=>rw [hs] at h;cases h
        | some r=>obtain ⟨s₂,t₂⟩:=r;rw [hs] at h;rw [stepT_spec hs];exact topG_run h
noncomputable def okQ (fb:Thread→Bool) (n₀ ann:Nat) (t:Thread):Bool:=match t with
  | ⟨cur,_,_,_⟩=>match cur with
    | .pure fin=>match fin with
      | .again c=>match c with
        | .builtin .. =>fb t
        | _=>true
      | _=>true
    | .update a _ _ _=>Nat.ble n₀ a || Nat.beq a mainNs || Nat.beq a cStatics || Nat.beq a ann
    | .yield .. =>false
    | .os .. =>false
    | .fork .. =>false
    | .await .. =>false
    | .register .. =>false
    | _=>true
theorem okQ_is {fb:Thread→Bool} {n₀ ann:Nat} (hf:fb = stepOk n₀ (some (.ref ann))) {t:Thread} (h:okQ fb n₀ ann t = true):stepOk n₀ (some (.ref ann)) t = true:=by
  obtain ⟨cur,code,pos,stack⟩:=t
  cases cur with
  | pure fin=>
    cases fin with
    | done f=>rfl
    | again c=>cases c with
      | builtin id args=>rw [←hf];exact h
      | _=>rfl
  | update a q f k=>
    have h':(Nat.ble n₀ a || Nat.beq a mainNs || Nat.beq a cStatics || Nat.beq a ann) = true:=h
    show (Nat.ble n₀ a || a == mainNs || a == cStatics || some (Value.ref ann) == some (.ref a)) = true
    simp only [Bool.or_eq_true] at h' ⊢
    rcases h' with ((h' | h') | h') | h'
    · exact .inl (.inl (.inl h'))
    · exact .inl (.inl (.inr (beq_iff_eq.mpr (Nat.eq_of_beq_eq_true h'))))
    · exact .inl (.inr (beq_iff_eq.mpr (Nat.eq_of_beq_eq_true h')))
    · refine .inr ?_
      rw [Nat.eq_of_beq_eq_true h']
      exact beq_self_eq_true _
  | _=>first | rfl | exact Bool.noConfusion (show false = true from h)
theorem topG_mono {ok ok':Thread→Bool} {st:SharedT→Thread→Option (SharedT×Thread)} (hok:∀t,ok' t = true→ok t = true):∀{n:Nat} {s r:SharedT} {t:Thread},topG ok' st n s t = some r→topG ok st n s t = some r
  | 0,_,_,_,h=>by cases h
  | n + 1,s,r,t,h=>by
    unfold topG at h ⊢
    cases ht:through t with
    | true=>rw [ht] at h;exact h
    | false=>
      rw [ht] at h
      cases hk:ok' t with
      | false=>rw [hk] at h;cases h
      | true=>
        rw [hk] at h
        rw [hok t hk]
        cases hs:st s t with
        | none=>rw [hs] at h;cases h
        | some x=>obtain ⟨s',t'⟩:=x;rw [hs] at h;exact topG_mono hok h
noncomputable def insAll:Nat→List Obj→BT→BT
  | _,[],T=>T
  | i,o::r,T=>insAll (i+1) r (T.ins i o)
def bootN:Nat:=11
noncomputable def bootS (w:World) (os:OsState):SharedT:=⟨insAll 0 (boot_heap w.params).objs.toList .nil,bootN,(boot_heap w.params).life,Array.mk [],boot_drawn,boot_toks,os⟩
theorem boot_abs (w:World):absHeap (insAll 0 (boot_heap w.params).objs.toList .nil) bootN (boot_heap w.params).life = boot_heap w.params:=by kernel_rfl
theorem boot_sz (w:World):(((boot_heap w.params).isNs mainGlobals && (Array.mk ([]:List GenState)).size == 0),(boot_heap w.params).objs.size,(boot_heap w.params).nsMap mainGlobals "__annotations__") = (true,bootN,some (.ref 6)):=by kernel_rfl
end
end Mine
namespace Mine
open PySem PySem.W
noncomputable section
noncomputable def topQ (w:World) (os:OsState):Option SharedT:=
  topG (okQ (PySem.W.Fast.tw6613529449190102663 bootN (some (.ref 6))) bootN 6) (PySem.W.Fast.tw10156331382660048174 (PySem.W.Fast.tw11892475500146522536 PySem.W.Fast.tw14364793385576792824) pw w) 12000 (bootS w os) (topStub pw)
noncomputable def opA (im:List Str) (H:Heap) (s:Shared):Bool:=staticsOk im H s.heap && namesBound pw s.heap && gensDone s && laidKept H s.heap
noncomputable def qv:Program:=view pw [135]
noncomputable def looseL:List Str:=pw.boundNames.filter fun n=>!(n == ("law":Str))
noncomputable def yF (s:Shared):Nat×Nat×List (Option Obj):=(s.heap.objs.size,s.toks,kAs.map s.heap.get?)
noncomputable def yA (w:World):Nat×Nat×List (Option Obj):=(1509,2309,kAs.map (kT w.params).find)
end
end Mine
namespace Mine
open PySem PySem.W
noncomputable section
theorem top_looks (w:World) (os:OsState):(topQ w os).map (fun s=>(opA (PySem.W.Fast.tw5923862056798008813 pw.main.body) (boot_heap w.params) s.abs,PySem.W.Fast.tw4187177175401517315 qv looseL (PySem.W.Fast.tw5923862056798008813 pw.main.body) (fun _=>true) true s.abs)) = some (true,openGood qv looseL):=by kernel_rfl
end
end Mine
namespace Mine
open PySem PySem.W
noncomputable section
theorem top_objs1 (w:World) (os:OsState):(topQ w os).map (fun s=>(s.abs.heap.objs.size,s.abs.toks,(kAs.take 160).map s.abs.heap.get?)) = some (1509,2309,(kAs.take 160).map (kT w.params).find):=by kernel_rfl
end
end Mine
namespace Mine
open PySem PySem.W
noncomputable section
theorem top_objs2 (w:World) (os:OsState):(topQ w os).map (fun s=>(kAs.drop 160).map s.abs.heap.get?) = some ((kAs.drop 160).map (kT w.params).find):=by kernel_rfl
end
end Mine
namespace Mine
noncomputable section
open PySem PySem.W
theorem well:OpenLaw.wellSaid PySem.Challenge.rw_xw0355_01 = true:=by
  unfold OpenLaw.wellSaid OpenRow.wellSaid OpenRow.partSaid looksOpen
  try rw [PySem.W.Fast.te11788848310118352699]
  try rw [PySem.W.Fast.te9807087744658564304]
  try rw [PySem.W.Fast.te12862048085361865435]
  try rw [PySem.W.Fast.te8377067652309620493]
  try rw [PySem.W.Fast.te18344453789297297638]
  try rw [PySem.W.Fast.te3471404346716756564]
  try rw [PySem.W.Fast.te14412699480532031325]
  try rw [PySem.W.Fast.te8326940854005059898]
  try rw [PySem.W.Fast.te5923862056798008813]
  try rw [PySem.W.Fast.te17691160309236699985]
  try rw [PySem.W.Fast.te13343964577679436407]
  try rw [PySem.W.Fast.te17119622794617984870]
  try rw [PySem.W.Fast.te17868728402115742887]
  try rw [PySem.W.Fast.te9706382859710513879]
  try rw [PySem.W.Fast.te2357444279172408678]
  try rw [PySem.W.Fast.te4857012375875476094]
  try rw [PySem.W.Fast.te13582783067957832011]
  try rw [PySem.W.Fast.te5318747976498570220]
  try rw [PySem.W.Fast.te4579403493507170074]
  try rw [PySem.W.Fast.te4274047373036748609]
  try rw [PySem.W.Fast.te12749700546528644094]
  try rw [PySem.W.Fast.te10501279942588096481]
  try rw [PySem.W.Fast.te8179353310426384613]
  try rw [PySem.W.Fast.te797321630700447069]
  try rw [PySem.W.Fast.te9572597257264208301]
  try rw [PySem.W.Fast.te9558739934217749035]
  try rw [PySem.W.Fast.te16286561074155671207]
  try rw [PySem.W.Fast.te6984425678791042302]
  try rw [PySem.W.Fast.te17095254045102204799]
  try rw [PySem.W.Fast.te12879404354523853263]
  try rw [PySem.W.Fast.te482687673346738481]
  try rw [PySem.W.Fast.te10792542408131684335]
  try rw [PySem.W.Fast.te7723801398212525404]
  repeat' (with_reducible refine look_both ?_ ?_)
  all_goals decide+kernel
end
end Mine
namespace Mine
noncomputable section
open PySem PySem.W PyProof.Rows PySem.Calls
theorem ints_of_has {R:WRecords}:∀{xs:List WData},WShape.hasItems R xs .int = true→∃ns:List Int,xs = ns.map WData.int
  | [],_=>⟨[],rfl⟩
  | x ::xs,h=>by
    simp only [WShape.hasItems,Bool.and_eq_true] at h
    obtain ⟨h1,h2⟩:=h
    obtain ⟨ns,rfl⟩:=ints_of_has h2
    cases x <;> first
      | exact ⟨_::ns,rfl⟩
      | exact Bool.noConfusion (show false = true from h1)
theorem list_of_has {R:WRecords} {d:WData} (h:WShape.has R d (.list .int) = true):∃ns:List Int,d = .list (ns.map WData.int):=by
  obtain ⟨xs,rfl,hx⟩:=hasW_list h
  obtain ⟨ns,rfl⟩:=ints_of_has hx
  exact ⟨ns,rfl⟩
noncomputable def intsAt:Nat→List Int→List Value
  | _,[]=>[]
  | t,n::r=> .int n t::intsAt (t+1) r
theorem lay_ints_full {R:WRecords} {cl:Str→Option Addr} {P:Params} {ord:List DictEntry→List DictEntry}:∀(ns:List Int) (s:Shared),
    layAllW R cl P ord (ns.map WData.int) s = some (intsAt s.toks ns,{s with toks:=s.toks+ns.length})
  | [],s=>by simp [layAllW,intsAt]
  | n::ns,s=>by
    simp only [List.map_cons,layAllW,layW,lay_ints_full ns,intsAt,List.length_cons,Option.some.injEq,Prod.mk.injEq,true_and]
    rw [Nat.add_assoc,Nat.add_comm 1]
theorem lay_script {R:WRecords} {cl:Str→Option Addr} {P:Params} {ord:List DictEntry→List DictEntry} (ns:List Int) (s:Shared):
    layAllW R cl P ord [.list (ns.map WData.int)] s = some ([.ref s.heap.objs.size],{s with toks:=s.toks+ns.length,heap:=s.heap.push {cls:= .type "list",data:= .seq (intsAt s.toks ns).toArray}}):=by
  simp only [layAllW,layW,lay_ints_full ns]
end
end Mine
namespace Mine
open PySem PySem.W PyProof.Rows PySem.Calls
open PySem.W.Fast
noncomputable section
theorem boot_mem:opening pw = plainProg pw.main.scope.names:=by kernel_rfl
theorem boot_fence (s:Shared):fenceModules? pw s = some s:=by kernel_rfl
theorem e1:tw6613529449190102663 bootN (some (.ref 6)) = stepOk bootN (some (.ref 6)):=congrFun (congrFun te6613529449190102663.symm bootN) (some (.ref 6))
theorem e2 (w:World):tw10156331382660048174 (tw11892475500146522536 tw14364793385576792824) pw w = stepT (denote treeTable) pw w:=
  congrFun (congrFun (congr te10156331382660048174.symm (congr te11892475500146522536.symm te14364793385576792824.symm)) pw) w
theorem e3 (w:World) (os:OsState):topG (okQ (tw6613529449190102663 bootN (some (.ref 6))) bootN 6) (tw10156331382660048174 (tw11892475500146522536 tw14364793385576792824) pw w) 12000 (bootS w os) (topStub pw) = topG (okQ (tw6613529449190102663 bootN (some (.ref 6))) bootN 6) (stepT (denote treeTable) pw w) 12000 (bootS w os) (topStub pw):=by
  rw [e2]
theorem e4 (w:World) (os:OsState):topQ w os = topG (okQ (tw6613529449190102663 bootN (some (.ref 6))) bootN 6) (tw10156331382660048174 (tw11892475500146522536 tw14364793385576792824) pw w) 12000 (bootS w os) (topStub pw):=by delta topQ;rfl
theorem topQ_eq0 (w:World) (os:OsState):topQ w os = topG (okQ (tw6613529449190102663 bootN (some (.ref 6))) bootN 6) (stepT (denote treeTable) pw w) 12000 (bootS w os) (topStub pw):=(e4 w os).trans (e3 w os)
theorem topQ_eq (w:World) (os:OsState) (r:SharedT) (h:topQ w os = some r):topG (stepOk bootN (some (.ref 6))) (stepT (denote treeTable) pw w) 12000 (bootS w os) (topStub pw) = some r:=topG_mono (fun _=>okQ_is e1) ((topQ_eq0 w os).symm.trans h)
theorem left_gen {α:Type} {p q:Program} {loose:List Str} {Xt:Shared→Bool} {Yf:Shared→α} {Ya:World→α} {H₀:World→Heap} {d:Drawn} {k n₀ M:Nat} {ann:Option Value}
    (open_:∀w:World,(fencedOpening treeTable p w M).map (fun s=>(s.heap,s.gens,s.drawn,s.toks)) = some (H₀ w,Array.mk [],d,k))
    (size:∀w:World,((H₀ w).isNs mainGlobals && (Array.mk ([]:List GenState)).size == 0,(H₀ w).objs.size,(H₀ w).nsMap mainGlobals "__annotations__") = (true,n₀,ann))
    (run:∀(w:World) (os:OsState),∃s₁,topRun treeTable p w n₀ ann M ⟨H₀ w,Array.mk [],d,k,os⟩ (topStub p) = some s₁∧
      (staticsOk (importedModules p.main.body) (H₀ w) s₁.heap && namesBound p s₁.heap && gensDone s₁ && laidKept (H₀ w) s₁.heap) = true∧
      openSeen q loose (importedModules p.main.body) Xt true s₁ = openGood q loose∧Yf s₁ = Ya w):LeftO p q loose Xt Yf Ya M:=fun w=>by
  obtain ⟨⟨h,gs,d',k',os⟩,e,e'⟩:=Option.map_eq_some_iff.mp (open_ w)
  obtain ⟨rfl,rfl,rfl,rfl⟩:h = H₀ w∧gs = Array.mk []∧d' = d∧k' = k:=by simpa using e'
  obtain ⟨s₁,r,a1,a2,a3⟩:=run w os
  obtain ⟨z1,z2,z3⟩:_∧_∧_:=by simpa only [Prod.mk.injEq] using size w
  have t:topFrom treeTable p w M ⟨H₀ w,Array.mk [],d',k',os⟩ = some s₁:=by
    unfold topFrom
    dsimp only
    rw [z1,z2,z3,r]
    show (match staticsOk (importedModules p.main.body) (H₀ w) s₁.heap && namesBound p s₁.heap && gensDone s₁ && laidKept (H₀ w) s₁.heap with | true=>_ | false=>_) = _
    rw [a1]
  unfold openEnds
  rw [e]
  show (topFrom treeTable p w M _).map _ = _
  rw [t]
  exact congrArg some (Prod.ext a2 a3)
theorem run_of {α β:Type} {p:Program} {Yf:Shared→α} {Ya:World→α} {H₀:Heap} {d:Drawn} {k n₀ M:Nat} {ann:Option Value} {w:World} {os:OsState} {B:SharedT} {Q:Option SharedT} {op:Shared→Bool} {sn:Shared→β} {g:β}
    (hQ:∀r,Q = some r→topG (stepOk n₀ ann) (stepT (denote treeTable) p w) M B (topStub p) = some r) (hb:B.abs = ⟨H₀,Array.mk [],d,k,os⟩)
    (looks:Q.map (fun s=>(op s.abs,sn s.abs)) = some (true,g)) (objs:Q.map (fun s=>Yf s.abs) = some (Ya w)):
    ∃s₁,topRun treeTable p w n₀ ann M ⟨H₀,Array.mk [],d,k,os⟩ (topStub p) = some s₁∧op s₁ = true∧sn s₁ = g∧Yf s₁ = Ya w:=by
  obtain ⟨sT,hq,hA⟩:=Option.map_eq_some_iff.mp looks
  rw [hq] at objs
  obtain ⟨a1,a2⟩:=Prod.mk.inj hA
  have r:=topG_run (hQ _ hq)
  rw [hb] at r
  exact ⟨sT.abs,r,a1,a2,Option.some.inj objs⟩
theorem left_all {p q:Program} {loose:List Str} {α:Type} {Yf:Shared→α} {Ya:World→α} {H₀:World→Heap} {d:Drawn} {k n₀ M:Nat} {ann:Option Value} {B:World→OsState→SharedT} {Q:World→OsState→Option SharedT}
    {im:List Str} {snT:Program→List Str→List Str→(Shared→Bool)→Bool→Shared→_} {op:List Str→Heap→Shared→Bool}
    (him:im = importedModules p.main.body) (hsn:snT = openSeen) (hop:op = fun im H s=>staticsOk im H s.heap && namesBound p s.heap && gensDone s && laidKept H s.heap)
    (open_:∀w:World,(fencedOpening treeTable p w M).map (fun s=>(s.heap,s.gens,s.drawn,s.toks)) = some (H₀ w,Array.mk [],d,k))
    (size:∀w:World,((H₀ w).isNs mainGlobals && (Array.mk ([]:List GenState)).size == 0,(H₀ w).objs.size,(H₀ w).nsMap mainGlobals "__annotations__") = (true,n₀,ann))
    (hQ:∀w os r,Q w os = some r→topG (stepOk n₀ ann) (stepT (denote treeTable) p w) M (B w os) (topStub p) = some r) (hb:∀w os,(B w os).abs = ⟨H₀ w,Array.mk [],d,k,os⟩)
    (looks:∀w os,(Q w os).map (fun s=>(op im (H₀ w) s.abs,snT q loose im (fun _=>true) true s.abs)) = some (true,openGood q loose))
    (objs:∀w os,(Q w os).map (fun s=>Yf s.abs) = some (Ya w)):LeftO p q loose (fun _=>true) Yf Ya M:=by
  subst him hsn hop
  exact left_gen open_ size fun w os=>run_of (hQ w os) (hb w os) (looks w os) (objs w os)
end
end Mine
namespace Mine
open PySem PySem.W PyProof.Rows PySem.Calls
noncomputable section
abbrev rwr:OpenRow:=PySem.Challenge.rw_xw0355_01.row
noncomputable def cC:Code:= .builtin "claim.caller" {}
noncomputable def Γ0:Ctx:=⟨cC,none,none,[],none⟩
noncomputable def scriptO (ns:List Int):Obj:={cls:= .type "list",data:= .seq (intsAt 2309 ns).toArray}
structure Base (w:World) (ns:List Int) (s:Shared):Prop where
  few:ns.length≤63
  size:s.heap.objs.size = 1510
  toks:s.toks = 2309+ns.length
  gens:s.gens = #[]
  old:∀a o,(kT w.params).find a = some o→s.heap.get? a = some o
  script:s.heap.get? 1509 = some (scriptO ns)
noncomputable def LawRuns:Prop:=∀(w:World) (s:Shared) (ns:List Int),Base w ns s→
  Sem.wp (model pw w) Γ0 (PySem.call (.ref 1508) [.ref 1509]) (fun v _ s'=>v = .bool true∧(∀b o,s.heap.get? b = some o→s'.heap.get? b = some o)∧s'.os = s.os∧s'.gens = #[]) (fun _ _ _=>False) default s
noncomputable def Bt.keys:Bt→List Nat
  | .leaf=>[]
  | .node l k _ r=>l.keys++k::r.keys
theorem Bt.find_mem:∀{t:Bt} {a:Nat} {o:Obj},t.find a = some o→a∈t.keys
  | .leaf,_,_,h=>by cases h
  | .node l k o' r,a,o,h=>by
    have h:(match Nat.beq a k with | true=>some o' | false=>match Nat.blt a k with | true=>l.find a | false=>r.find a) = some o:=h
    unfold Bt.keys
    cases e:Nat.beq a k with
    | true=>rw [Nat.eq_of_beq_eq_true e];simp
    | false=>
      rw [e] at h
      cases e2:Nat.blt a k with
      | true=>rw [e2] at h;exact List.mem_append_left _ (Bt.find_mem h)
      | false=>rw [e2] at h;exact List.mem_append_right _ (List.mem_cons_of_mem _ (Bt.find_mem h))
theorem kT_keys (P:Params):(kT P).keys = kAs:=by kernel_rfl
theorem get_of_maps {α β:Type} {l:List α} {f g:α→β} (h:l.map f = l.map g):∀a∈l,f a = g a:=by
  induction l with
  | nil=>intro a ha;cases ha
  | cons x l ih=>
    intro a ha
    simp only [List.map_cons,List.cons.injEq] at h
    rcases List.mem_cons.mp ha with rfl | ha
    · exact h.1
    · exact ih h.2 a ha
theorem old_of {w:World} {s:Shared} (h:yF s = yA w):s.heap.objs.size = 1509∧s.toks = 2309∧∀a o,(kT w.params).find a = some o→s.heap.get? a = some o:=by
  unfold yF yA at h
  simp only [Prod.mk.injEq] at h
  exact ⟨h.1,h.2.1,fun a o e=>(get_of_maps h.2.2 a (kT_keys w.params▸Bt.find_mem e)).trans e⟩
theorem main_law (P:Params):((kT P).find 3).isSome = true:=by kernel_rfl
theorem q_chains:chainsOk qv = true:=by kernel_rfl
theorem q_def:(defOf qv ("law":Str)).map (fun d=>(d.1.name,pw.theDef d.1.name,kwWritten? d.1.params.kwonlyargs d.1.params.kw_defaults)) = (defOf qv ("law":Str)).map (fun d=>(("law":Str),some (d.1.params,d.1.body,d.1.scope),some d.2)):=by kernel_rfl
theorem q_some:(defOf qv ("law":Str)).isSome = true:=by kernel_rfl
theorem opens_well:opensWell pw = true:=by kernel_rfl
theorem bare_pw:pw.bare:=⟨rfl,rfl,rfl,rfl,rfl,by kernel_rfl⟩
theorem promised_pw:rwr.toRowW.promised:=⟨[.list []],by kernel_rfl,by kernel_rfl⟩
end
end Mine
namespace Mine
open PySem PySem.W PyProof.Rows PySem.Calls
noncomputable section
theorem len_of_pre {ns:List Int} (h:rwr.toRowW.pre.holds ([]:WRecords) {args:=[.list (ns.map WData.int)]} = true):ns.length≤63:=by
  have e:rwr.toRowW.pre = .and (.not (.lt (.lit (.int 63)) (.len (.arg 0)))) (.lit (.bool true)):=rfl
  rw [e] at h
  by_cases q:ns.length≤63
  · exact q
  · have:(63:Int) < (ns.length:Int):=by omega
    simp [WTm.holds,WTm.value,less?,Num.less?,this] at h
end
end Mine
namespace Mine
open PySem PySem.W PyProof.Rows PySem.Calls
noncomputable section
theorem post_ok (ns:List Int):rwr.toRowW.claim.post [.list (ns.map WData.int)] (.bool true) [.list (ns.map WData.int)] = true:=by kernel_rfl
theorem frees_k:frees rwr.toRowW = true:=by kernel_rfl
theorem row_holds (left:LeftO pw qv looseL (fun _=>true) yF yA 12000) (hmain:∀w s,yF s = yA w→s.heap.isNs mainGlobals = true→s.heap.nsMap mainGlobals ("law":Str) = some (.ref 1508)) (H:LawRuns)
    (k1:rwr.wellSaid = true):rwr.Holds:=by
  refine ⟨k1,promised_pw,⟨bare_pw,opens_well,rfl⟩,promised_pw.witness,fun w=>⟨(left.behind (XP:=fun _ _=>True) (fun _ _=>trivial) q_chains w).1,fun s' hs'=>?_⟩⟩
  obtain ⟨s₀,hf,hg0,s,hT,hz,hgens,hg,G0,y⟩:=(left.behind (XP:=fun _ _=>True) (fun _ _=>trivial) q_chains w).2 s' hs'
  obtain ⟨hsz,htk,hold⟩:=old_of y
  have hgens:s.gens = #[]:=Array.eq_empty_of_size_eq_zero (beq_iff_eq.mp hgens)
  have hT':=hT
  refine ⟨s₀,hf,hg0,s,hT,?_,fun x hx=>(nomatch hx),fun x hx=>(nomatch hx),?_⟩
  · intro n hn
    obtain rfl:n = ("law":Str):=by
      have:n∈[("law":Str)]:=hn
      simpa using this
    obtain ⟨⟨d,kwd⟩,hd⟩:=Option.isSome_iff_exists.mp q_some
    have hq:=q_def
    rw [hd] at hq
    simp only [Option.map_some,Option.some.injEq,Prod.mk.injEq] at hq
    obtain ⟨e1,e2,e3⟩:=hq
    rw [e1] at e2
    exact pinned_of_view hg G0 hd e2 e3
  intro args hpre hlay ord hord
  obtain ⟨hsh,hpr⟩:=pre_splitW hpre
  obtain ⟨d,r,rfl,h1,h2⟩:=hasAllW_cons hsh
  obtain rfl:=hasAllW_nil h2
  obtain ⟨ns,rfl⟩:=list_of_has h1
  have hlen:ns.length≤63:=len_of_pre hpr
  have hlaid:=lay_script (R:=([]:WRecords)) (cl:=classAt s.heap) (P:=w.params) (ord:=ord) ns s
  refine ⟨_,_,hlaid,?_⟩
  have keeps:=layAllW_keeps _ _ _ hlaid
  have hal:=layAllW_rest _ _ _ hlaid
  obtain ⟨as,hrd,hin,hold'⟩:=reads_layAllW hord _ _ _ hlaid hlay _ (fun _ _ e=>e)
  have L:Laid ([]:WRecords) w s _ _ _ as:=⟨⟨ord,hord,hlaid⟩,hrd,hin,hold',keeps,hal.1.trans hgens,hal.2.2.1⟩
  have Bse:Base w ns {s with toks:=s.toks+ns.length,heap:=s.heap.push {cls:= .type "list",data:= .seq (intsAt s.toks ns).toArray}}:=
    ⟨hlen,by show (s.heap.push _).objs.size = _;rw [Heap.size_push,hsz],by show s.toks+ns.length = _;rw [htk],hgens,fun a o e=>keeps _ _ (hold a o e),by
      show (s.heap.push _).get? 1509 = _
      rw [←hsz,htk]
      exact Heap.get?_push_size _ rfl⟩
  have hlaw:=hmain w s y hg
  have wpl:=H w _ ns Bse
  have hkeep:=Bse.script
  generalize hs1:({s with toks:=s.toks+ns.length,heap:=s.heap.push {cls:= .type "list",data:= .seq (intsAt s.toks ns).toArray}}:Shared) = s₁ at*
  have hmn:s₁.heap.Ns mainGlobals (s.heap.nsMap mainGlobals):=(G0.keeps (fun _ _ _ _ _=>trivial) keeps).T.g
  have big:Sem.wp (model pw w) Γ0 (do match ←nsGet mainNs ("law":Str) with
      | some f=>do ret (←PySem.call f [.ref s.heap.objs.size])
      | none=>unsupported "claim.caller:no-such-global")
      (Sem.finPost (model pw w) Γ0 fun r s'=>(r = .ok (.ret (.bool true))∧(∀b o,s₁.heap.get? b = some o→s'.heap.get? b = some o)∧s'.os = s₁.os∧s'.gens = #[])∧leftWithCleanup s'.gens = false)
      (fun e _ s'=>((Except.error e:Result) = .ok (.ret (.bool true))∧(∀b o,s₁.heap.get? b = some o→s'.heap.get? b = some o)∧s'.os = s₁.os∧s'.gens = #[])∧leftWithCleanup s'.gens = false) default s₁:=by
    rw [Sem.wp_bind']
    refine (Sem.wp_nsGet _ _ _ _ _ hmn _ _).mpr ?_
    rw [hlaw,hsz]
    show Sem.wp _ _ (PySem.call (.ref 1508) [.ref 1509] >>= fun v=>ret v) _ _ _ _
    rw [Sem.wp_bind']
    refine Sem.wp_mono _ _ _ (fun v p' s' ⟨e,a,b,c⟩=>?_) (fun _ _ _ x=>x.elim) _ _ wpl
    subst e
    exact ⟨⟨rfl,a,b,c⟩,by rw [c];simp [leftWithCleanup]⟩
  obtain ⟨n,r,s'',s3,hsched,hrun,hfo,hR⟩:=wp_halts_full (M:=model pw w) (Shared.asleep_of_life hal.2.2.2 hz) big
  obtain ⟨rfl,kp,ho,hg'⟩:=hR
  obtain ⟨eh,_,_,eo,_⟩:=Shared.forget_eq hfo
  have good:GoodWG rwr.toRowW.claim (classAt s.heap) (ExcName.means s.heap) [.list (ns.map WData.int)] s₁ (.ok (.ret (.bool true))) s'':=
    ⟨.inl ⟨.bool true,.bool true,[],rfl,fun _=>rfl,.bool true,post_ok ns,fun _=>⟨List.nodup_nil,fun a ha=>by cases ha⟩⟩,.of_keep kp,ho,.of_eq hg'⟩
  have frees_ok:=frees_parts frees_k
  have z:=good.laid (w:=w) (s₀:=s) rfl rfl (ident_freeW frees_ok.2.1 frees_ok.2.2.1 frees_ok.2.2.2.1) L
  have E:=z.1.congr eh
  refine ⟨n,_,s3,hsched,?_,fun _ i x hx=>(by rw [hgens] at hx;simp at hx),?_,?_,?_⟩
  · rcases E with ⟨v,e,d1,d2,d3,d4,d5⟩ | ⟨e,ob,cls,e',d1,d2,d3,d4,d5⟩
    · cases e
      exact .inl ⟨_,rfl,d1,d2,d3,fun b o y _=>d4 b o y,d5⟩
    · cases e'
  · intro q;cases q
  · exact congrArg Life.seen ((runN_life _ _ _ hrun).trans hal.2.2.2)
  · exact Shared.rest_eq ((eo.trans ho).trans hal.2.2.1)
end
end Mine
namespace Mine
open PySem PySem.W PyProof.Rows PySem.Calls
noncomputable section
theorem boot_full (w:World):(fencedOpening treeTable pw w 12000).map (fun s=>(s.heap,s.gens,s.drawn,s.toks)) = some (boot_heap w.params,Array.mk [],boot_drawn,boot_toks):=
  boot_open boot_mem rfl boot_fence w
theorem bootS_abs (w:World) (os:OsState):(bootS w os).abs = ⟨boot_heap w.params,Array.mk [],boot_drawn,boot_toks,os⟩:=by
  have:=boot_abs w
  unfold SharedT.abs bootS
  dsimp only
  rw [this]
theorem left_pw (looks:∀w os,(topQ w os).map (fun s=>(opA (PySem.W.Fast.tw5923862056798008813 pw.main.body) (boot_heap w.params) s.abs,PySem.W.Fast.tw4187177175401517315 qv looseL (PySem.W.Fast.tw5923862056798008813 pw.main.body) (fun _=>true) true s.abs)) = some (true,openGood qv looseL))
    (objs:∀w os,(topQ w os).map (fun s=>yF s.abs) = some (yA w)):LeftO pw qv looseL (fun _=>true) yF yA 12000:=
  left_all (congrFun PySem.W.Fast.te5923862056798008813.symm _) PySem.W.Fast.te4187177175401517315.symm rfl boot_full boot_sz topQ_eq bootS_abs looks objs
theorem main_ns (P:Params):(match (kT P).find 3 with
  | some o=>(match o.data with | .dict es _=>nsFind es ("law":Str) | _=>none)
  | none=>none) = some (.ref 1508):=by kernel_rfl
theorem main_of (w:World) (s:Shared) (h:yF s = yA w):s.heap.nsMap mainGlobals ("law":Str) = some (.ref 1508):=by
  obtain ⟨o,ho⟩:=Option.isSome_iff_exists.mp (main_law w.params)
  have m:=main_ns w.params
  have g:=(old_of h).2.2 3 o ho
  rw [ho] at m
  show (match s.heap.get? 3 with
    | some o=>(match o.data with | .dict es _=>nsFind es ("law":Str) | _=>none)
    | none=>none) = _
  rw [g]
  exact m
theorem row_of (looks:∀w os,(topQ w os).map (fun s=>(opA (PySem.W.Fast.tw5923862056798008813 pw.main.body) (boot_heap w.params) s.abs,PySem.W.Fast.tw4187177175401517315 qv looseL (PySem.W.Fast.tw5923862056798008813 pw.main.body) (fun _=>true) true s.abs)) = some (true,openGood qv looseL))
    (objs:∀w os,(topQ w os).map (fun s=>yF s.abs) = some (yA w)) (H:LawRuns) (k1:rwr.wellSaid = true):rwr.Holds:=
  row_holds (left_pw looks objs) (fun w s h _=>main_of w s h) H k1
end
end Mine
namespace Mine
noncomputable section
open PySem PySem.W
noncomputable def zD (n:Nat) (l:List DictEntry):Obj:=⟨.type "dict",none,.dict ⟨l⟩ n,⟨[]⟩⟩
noncomputable def zL (n:Nat) (l:List Value):Obj:=⟨.type "list",none,.seq ⟨l⟩ n,⟨[]⟩⟩
noncomputable def zT (n:Nat) (l:List Value):Obj:=⟨.type "tuple",none,.seq ⟨l⟩ n,⟨[]⟩⟩
noncomputable def zI (c a:Nat):Obj:=⟨.ref c,some a,.plain,⟨[]⟩⟩
def zS:List Ent→List (Nat×Ent)→List Ent
  | l,[]=>l
  | l,x::r=>zS (l.set x.1 x.2) r
noncomputable def zW (w:World):=eS w.params
def r0:=zQ [114,105,110,103]
def r1:=zQ [109,115,115]
def r2:=zQ [115,101,110,100,95,114,111,111,109]
def r3:=zQ [114,101,99,101,105,118,101,95,114,111,111,109]
def r4:=zQ [102,105,114,115,116,95,116,105,109,101,111,117,116]
def r5:=zQ [108,101,97,115,116,95,116,105,109,101,111,117,116]
def r6:=zQ [109,111,115,116,95,116,105,109,101,111,117,116]
def r7:=zQ [109,111,115,116,95,116,114,105,101,115]
def r8:=zQ [97,99,107,95,100,101,108,97,121]
def r9:=zQ [116,105,109,101,95,119,97,105,116]
def r10:=zQ [108,105,109,105,116,115]
def r11:=zQ [108,111,99,97,108]
def r12:=zQ [114,101,109,111,116,101]
def r13:=zQ [115,116,97,116,101]
def r14:=zQ [115,101,110,100,101,114]
def r15:=zQ [114,101,99,101,105,118,101,114]
def r16:=zQ [99,108,111,99,107]
def r17:=zQ [99,111,110,103,101,115,116,105,111,110]
def r18:=zQ [97,99,107,115]
def r19:=zQ [119,104,101,101,108]
def r20:=zQ [101,114,114,111,114]
def r21:=zQ [112,114,111,98,101,115]
def r22:=zQ [117,110,97,110,115,119,101,114,101,100]
def r23:=zQ [105,115,95,110,97,103,108,101]
def r24:=zQ [105,115,115]
def r25:=zQ [117,110,97]
def r26:=zQ [103,114,101,97,116,101,115,116]
def r27:=zQ [112,101,101,114]
def r28:=zQ [113,117,101,117,101]
def r29:=zQ [115,121,110,95,112,101,110,100,105,110,103]
def r30:=zQ [102,105,110,95,97,115,107,101,100]
def r31:=zQ [102,105,110,95,115,101,110,116]
def r32:=zQ [101,115,116,105,109,97,116,101]
def r33:=zQ [116,105,109,101,100,95,101,110,100]
def r34:=zQ [109,111,115,116]
def r35:=zQ [116,104,114,101,115,104,111,108,100]
def r36:=zQ [103,97,116,104,101,114,101,100]
def r37:=zQ [100,117,112,108,105,99,97,116,101,115]
def r38:=zQ [105,115,95,114,101,99,111,118,101,114,105,110,103]
def r39:=zQ [105,115,95,99,97,117,116,105,111,117,115]
def r40:=zQ [100,101,108,97,121]
def r41:=zQ [119,97,105,116,105,110,103]
def r42:=zQ [104,97,115,95,103,97,112]
def r43:=zQ [115,108,111,116,115]
def r44:=zQ [108,97,116,101]
def r45:=zQ [101,110,116,114,105,101,115]
def r46:=zQ [114,101,97,99,104,101,100]
def r47:=zQ [103,105,118,101,110]
def r48:=zQ [116,111,108,100,95,115,101,113]
def r49:=zQ [116,111,108,100,95,97,99,107]
def r50:=zQ [114,111,111,109]
def r51:=zQ [104,101,108,100]
def r52:=zQ [109,101,97,115,117,114,101,100]
def r53:=zQ [114,101,97,100,121]
def r54:=zQ [97,115,115,101,109,98,108,121]
def r55:=zQ [116,111,108,100,95,101,100,103,101]
def r56:=zQ [102,105,110,95,97,116]
def r57:=zQ [104,97,115,95,102,105,110]
def r58:=zQ [117,114,103,101,110,116,95,97,116]
def r59:=zQ [112,97,114,116,115]
def r60:=zQ [115,111,117,114,99,101,95,112,111,114,116]
def r61:=zQ [116,97,114,103,101,116,95,112,111,114,116]
def r62:=zQ [115,101,113]
def r63:=zQ [97,99,107]
def r64:=zQ [102,108,97,103,115]
def r65:=zQ [111,112,116,105,111,110,115]
def r66:=zQ [112,97,121,108,111,97,100]
end
end Mine
namespace Mine
abbrev NL:=List Nat
noncomputable def g0 (k:NL):NL:=65::0::65::65::65::63::65::65::65::63::61::0::61::61::61::60::61::59::64::64::62::64::62::0::62::62::62::2::62::60::64::64::62::64::64::65::63::65::63::1::1000003::63::k
noncomputable def g1 (k:NL):NL:=0::111::109::111::k
noncomputable def g2 (k:NL):NL:=113::113::112::0::0::0::0::112::0::112::0::112::0::0::0::112::0::g1 k
noncomputable def g3 (k:NL):NL:=110::110::109::0::0::0::0::109::0::109::0::109::0::0::0::109::0::0::108::106::108::k
noncomputable def g4 (k:NL):NL:=0::110::108::0::110::108::k
noncomputable def g5 (k:NL):NL:=0::113::111::0::113::111::k
noncomputable def g6 (k:NL):NL:=0::0::0::0::k
noncomputable def g7 (k:NL):NL:=0::0::0::k
noncomputable def g8 (k:NL):NL:=g6 (g6 k)
noncomputable def g9 (k:NL):NL:=g6 (0::k)
noncomputable def g10 (k:NL):NL:=g6 (0::0::k)
noncomputable def g11 (k:NL):NL:=2::g6 (2::g7 (2::2::0::k))
noncomputable def g12 (k:NL):NL:=9::g6 (9::g7 (9::9::0::k))
noncomputable def g13 (k:NL):NL:=g11 (4::k)
noncomputable def g14 (k:NL):NL:=g8 (g8 (g8 k))
noncomputable def g15 (k:NL):NL:=g14 (g10 k)
noncomputable def g16 (k:NL):NL:=15::g7 k
noncomputable def g17 (k:NL):NL:=g12 (10::k)
noncomputable def g18 (k:NL):NL:=3::g6 (3::g7 (3::3::0::k))
noncomputable def g19 (k:NL):NL:=g18 (5::k)
noncomputable def g20 (k:NL):NL:=5::g6 (5::0::5::0::5::g7 (5::0::0::k))
noncomputable def g21 (k:NL):NL:=6::6::g20 (4::2::4::6::6::g20 (4::2::4::k))
noncomputable def g22 (k:NL):NL:=g12 (15::k)
noncomputable def g23 (k:NL):NL:=11::g6 (11::0::11::0::11::g7 (11::0::0::k))
noncomputable def g24 (k:NL):NL:=10::g6 (10::g7 (10::10::0::k))
noncomputable def g25 (k:NL):NL:=7::g6 (7::g7 (7::7::0::k))
noncomputable def g26 (k:NL):NL:=g11 (3::k)
noncomputable def g27 (k:NL):NL:=9::g7 (9::g7 (9::g6 (9::k)))
noncomputable def g28 (k:NL):NL:=6::g6 (6::g7 (6::6::0::k))
noncomputable def g29 (k:NL):NL:=3::g7 (3::g7 (3::g6 (3::5::g10 k)))
noncomputable def g30 (k:NL):NL:=g23 (16::14::16::k)
noncomputable def g31 (k:NL):NL:=g13 (0::k)
noncomputable def g32 (k:NL):NL:=g13 (g28 k)
noncomputable def g33 (k:NL):NL:=g24 (16::k)
noncomputable def g34 (k:NL):NL:=g27 (15::g9 k)
noncomputable def g35 (k:NL):NL:=g26 (g9 k)
noncomputable def g36 (k:NL):NL:=5::g6 (5::g7 (5::5::0::6::k))
noncomputable def g37 (k:NL):NL:=15::0::0::k
noncomputable def g38 (k:NL):NL:=14::g6 (14::0::14::0::14::g7 (14::0::0::13::11::13::k))
noncomputable def g39 (k:NL):NL:=2::0::2::2::2::3::2::0::0::5::3::6::g25 (8::g27 (10::5::g9 k))
noncomputable def g40 (k:NL):NL:=g24 (15::k)
noncomputable def g41 (k:NL):NL:=g17 (12::12::0::12::1::0::12::k)
noncomputable def g42 (k:NL):NL:=g31 (1::0::0::k)
noncomputable def g43 (k:NL):NL:=g12 (14::k)
noncomputable def g44 (k:NL):NL:=2::g7 (2::g7 (2::g6 (2::k)))
noncomputable def g45 (k:NL):NL:=10::g7 (10::g7 (10::g6 (10::k)))
noncomputable def g46 (k:NL):NL:=12::g23 (10::8::10::k)
noncomputable def g47 (k:NL):NL:=12::g6 (12::g7 (12::12::0::k))
noncomputable def g48 (k:NL):NL:=g25 (13::k)
noncomputable def g49 (k:NL):NL:=g41 (12::12::12::k)
noncomputable def g50 (k:NL):NL:=11::g6 (11::g7 (11::11::0::k))
noncomputable def g51 (k:NL):NL:=7::7::6::g6 (6::0::6::0::6::g7 (6::0::0::5::3::5::k))
noncomputable def g52 (k:NL):NL:=64::63::g6 (63::0::63::0::63::g7 (63::0::0::62::60::62::k))
noncomputable def g53 (k:NL):NL:=14::g6 (14::g7 (14::14::0::21::k))
noncomputable def g54 (k:NL):NL:=2::g6 (2::0::2::0::2::g7 (2::0::0::k))
noncomputable def g55 (k:NL):NL:=g47 (17::k)
noncomputable def g56 (k:NL):NL:=3::9::g6 (9::0::9::0::9::g7 (9::0::0::10::8::10::k))
noncomputable def g57 (k:NL):NL:=0::3::1::0::3::1::3::1::11::1::3::g17 (g16 (g16 (15::g6 (15::20::3::3::0::k))))
noncomputable def g58 (k:NL):NL:=12::g6 (12::0::12::0::12::g7 (12::0::0::k))
noncomputable def g59 (k:NL):NL:=31::30::g6 (30::0::30::0::30::g7 (30::0::0::29::27::29::k))
noncomputable def g60 (k:NL):NL:=37::g6 (37::g7 (37::37::0::36::k))
noncomputable def g61 (k:NL):NL:=15::g6 (g16 (15::15::0::22::k))
noncomputable def g62 (k:NL):NL:=5::g7 (5::g7 (5::g6 (5::6::k)))
noncomputable def g63 (k:NL):NL:=g7 (3::1::0::3::1::0::3::k)
noncomputable def g64 (k:NL):NL:=0::16::1::18::2::g39 k
noncomputable def g65 (k:NL):NL:=0::3::1::0::3::1::3::1::11::0::g0 k
noncomputable def g66 (k:NL):NL:=12::12::12::0::12::1::0::12::12::12::12::0::k
noncomputable def g67 (k:NL):NL:=3::g7 (3::g7 (3::g6 (3::5::g9 k)))
noncomputable def g68 (k:NL):NL:=13::18::22::23::24::28::29::30::31::32::33::34::35::36::37::38::39::40::41::42::43::g0 k
noncomputable def g69 (k:NL):NL:=8::7::g6 (7::0::7::0::7::g7 (7::0::0::6::4::6::k))
noncomputable def g70 (k:NL):NL:=g31 (1::0::k)
noncomputable def g71 (k:NL):NL:=25::24::g6 (24::0::24::0::24::g7 (24::0::0::23::21::23::k))
noncomputable def g72 (k:NL):NL:=37::36::g6 (36::0::36::0::36::g7 (36::0::0::35::33::35::k))
noncomputable def g73 (k:NL):NL:=20::g6 (20::0::20::0::20::g7 (20::0::0::k))
noncomputable def g74 (k:NL):NL:=0::4::0::38::4::0::4::0::38::4::2::4::18::k
noncomputable def g75 (k:NL):NL:=0::41::39::18::38::39::0::39::39::39::39::39::37::39::37::k
noncomputable def g76 (k:NL):NL:=g13 (g9 k)
noncomputable def g77 (k:NL):NL:=g75 (g75 (g75 (g75 k)))
noncomputable def g78 (k:NL):NL:=g13 (12::g7 (12::g7 (12::g6 (12::k))))
noncomputable def g79 (k:NL):NL:=0::57::57::57::56::57::55::57::0::57::57::57::56::57::55::57::k
noncomputable def g80 (k:NL):NL:=g36 (14::g7 (14::g7 (14::g6 (14::21::k))))
noncomputable def g81 (k:NL):NL:=0::53::53::53::52::53::51::53::k
noncomputable def g82 (k:NL):NL:=g16 (g16 (15::g6 (15::22::k)))
noncomputable def g83 (k:NL):NL:=1::11::0::0::k
noncomputable def g84 (k:NL):NL:=62::0::64::62::0::64::k
noncomputable def g85 (k:NL):NL:=8::g6 (8::g7 (8::8::0::k))
noncomputable def g86 (k:NL):NL:=15::15::g38 (15::15::g38 k)
noncomputable def g87 (k:NL):NL:=18::17::g6 (17::0::17::0::17::g7 (17::0::0::16::14::16::k))
noncomputable def g88 (k:NL):NL:=28::27::g6 (27::0::27::0::27::g7 (27::0::0::26::24::26::k))
noncomputable def g89 (k:NL):NL:=0::85::0::85::85::85::83::85::85::85::83::81::0::81::81::81::80::81::79::k
noncomputable def g90 (k:NL):NL:=1::13::0::k
noncomputable def g91 (k:NL):NL:=15::13::0::15::13::0::k
noncomputable def g92 (k:NL):NL:=21::g6 (21::g7 (21::21::0::k))
noncomputable def g93 (k:NL):NL:=11::g7 (11::g7 (11::g6 (11::k)))
noncomputable def g94 (k:NL):NL:=20::18::0::20::18::0::k
noncomputable def g95 (k:NL):NL:=71::0::71::71::71::70::71::69::k
noncomputable def g96 (k:NL):NL:=18::2::2::0::2::2::2::3::2::0::k
noncomputable def g97 (k:NL):NL:=18::16::0::18::16::0::18::k
noncomputable def g98 (k:NL):NL:=10::1::1000006::k
noncomputable def g99 (k:NL):NL:=7::g7 (7::g7 (7::g6 (7::k)))
noncomputable def g100 (k:NL):NL:=1::11::0::k
noncomputable def g101 (k:NL):NL:=18::g6 (18::g7 (18::18::0::k))
noncomputable def g102 (k:NL):NL:=1::11::1::k
noncomputable def g103 (k:NL):NL:=g33 (g9 k)
noncomputable def g104 (k:NL):NL:=g22 (21::g7 (21::g7 (21::g6 (21::k))))
noncomputable def g105 (k:NL):NL:=52::52::52::1::0::52::53::53::g81 (g81 k)
noncomputable def g106 (k:NL):NL:=122::115::g6 (115::g7 (115::115::0::117::k))
noncomputable def g107 (k:NL):NL:=7::1::14::0::k
noncomputable def g108 (k:NL):NL:=18::g6 (18::0::18::0::18::g7 (18::0::0::k))
noncomputable def g109 (k:NL):NL:=7::1::14::1::k
noncomputable def g110 (k:NL):NL:=35::33::0::35::33::0::k
noncomputable def g111 (k:NL):NL:=0::35::35::35::35::35::33::35::33::0::37::35::18::34::35::k
noncomputable def g112 (k:NL):NL:=g63 (1::0::3::1::g7 (3::3::g15 (5::0::5::g8 (6::4::0::6::4::0::6::4::0::6::4::0::6::4::0::6::4::0::6::4::0::6::4::0::6::4::0::6::4::0::6::4::0::g21 (g21 (g21 (g21 (g21 (0::0::49::3::5::6::2::0::3::1::0::3::3::3::0::0::50::3::3::g17 (g105 (g81 (0::53::53::53::52::53::51::55::g56 (g56 (0::3::1::56::56::56::1::0::56::57::57::g79 (g79 (0::57::57::57::56::57::55::59::3::g30 (3::g30 (3::g30 (3::g30 (g10 (3::0::0::60::60::1::0::60::61::2::2::1::0::2::62::65::65::0::65::65::65::65::1::0::65::65::0::g0 (64::66::66::66::1::0::66::67::67::0::67::67::67::66::67::65::67::0::67::67::67::66::67::65::67::0::67::67::67::66::67::65::69::k))))))))))))))))))))))
noncomputable def g113 (k:NL):NL:=65::0::65::65::65::63::65::65::65::63::61::0::61::61::61::60::61::59::65::63::k
noncomputable def g114 (k:NL):NL:=g19 (g9 k)
noncomputable def g115 (k:NL):NL:=1::13::0::0::k
noncomputable def g116 (k:NL):NL:=g24 (15::g9 k)
noncomputable def g117 (k:NL):NL:=12::g28 (5::12::g28 (5::k))
noncomputable def g118 (k:NL):NL:=34::33::g6 (33::0::33::0::33::g7 (33::0::0::32::30::32::k))
noncomputable def g119 (k:NL):NL:=g89 (84::84::82::84::82::0::82::82::82::3::82::80::84::84::82::84::84::85::83::85::83::1::1000003::83::k)
noncomputable def g120 (k:NL):NL:=14::g6 (14::0::14::0::14::g7 (14::0::0::21::19::21::k))
noncomputable def g121 (k:NL):NL:=0::77::77::77::76::77::75::77::0::77::77::77::76::77::75::77::k
noncomputable def g122 (k:NL):NL:=1::13::1::0::k
noncomputable def g123 (k:NL):NL:=g22 (g9 k)
noncomputable def g124 (k:NL):NL:=20::g6 (20::g7 (20::20::0::k))
noncomputable def g125 (k:NL):NL:=15::g6 (15::0::15::0::g16 (g37 (14::12::14::k)))
noncomputable def g126 (k:NL):NL:=21::g73 (19::17::19::k)
noncomputable def g127 (k:NL):NL:=g54 (3::1::3::k)
noncomputable def g128 (k:NL):NL:=0::42::40::18::39::40::0::40::40::40::40::40::38::40::38::k
noncomputable def g129 (k:NL):NL:=g36 (g9 k)
noncomputable def g130 (k:NL):NL:=g13 (0::0::k)
noncomputable def g131 (k:NL):NL:=65::63::0::65::63::0::65::k
noncomputable def g132 (k:NL):NL:=13::g58 (11::9::11::k)
noncomputable def g133 (k:NL):NL:=60::0::60::60::60::59::60::58::k
noncomputable def g134 (k:NL):NL:=31::29::0::31::29::0::31::k
noncomputable def g135 (k:NL):NL:=g99 (13::g9 k)
noncomputable def g136 (k:NL):NL:=19::17::0::19::17::0::19::k
noncomputable def g137 (k:NL):NL:=g45 (16::g9 k)
noncomputable def g138 (k:NL):NL:=g58 (18::16::18::k)
noncomputable def g139 (k:NL):NL:=13::g6 (13::g7 (13::13::0::19::k))
noncomputable def g140 (k:NL):NL:=37::g7 (37::g7 (37::g6 (37::36::k)))
noncomputable def g141 (k:NL):NL:=10::g6 (10::0::10::0::10::g7 (10::0::0::k))
noncomputable def g142 (k:NL):NL:=3::0::4::0::36::4::1::47::0::k
noncomputable def g143 (k:NL):NL:=69::67::0::69::67::0::69::k
noncomputable def g144 (k:NL):NL:=4::g80 (3::g9 k)
noncomputable def g145 (k:NL):NL:=28::26::0::28::26::0::28::k
noncomputable def g146 (k:NL):NL:=1::9::0::0::k
noncomputable def g147 (k:NL):NL:=g50 (17::k)
noncomputable def g148 (k:NL):NL:=61::0::61::61::61::60::61::59::k
noncomputable def g149 (k:NL):NL:=g18 (5::g7 k)
noncomputable def g150 (k:NL):NL:=g104 (26::g9 k)
noncomputable def g151 (k:NL):NL:=63::g6 (63::g7 (63::63::0::62::k))
noncomputable def g152 (k:NL):NL:=0::4::2::0::4::2::4::1::11::g119 k
noncomputable def g153 (k:NL):NL:=g106 (g106 k)
noncomputable def g154 (k:NL):NL:=8::g69 (8::g69 k)
noncomputable def g155 (k:NL):NL:=11::g141 (9::7::9::k)
noncomputable def g156 (k:NL):NL:=63::61::0::63::61::0::k
noncomputable def g157 (k:NL):NL:=1::g6 (g7 (1000004::k))
noncomputable def g158 (k:NL):NL:=g10 (1000005::k)
noncomputable def g159 (k:NL):NL:=108::106::0::k
noncomputable def g160 (k:NL):NL:=39::37::0::39::37::0::k
noncomputable def g161 (k:NL):NL:=105::0::105::105::105::104::105::103::k
noncomputable def g162 (k:NL):NL:=0::73::73::73::72::73::71::73::k
noncomputable def g163 (k:NL):NL:=g32 (14::0::0::k)
noncomputable def g164 (k:NL):NL:=g13 (g93 (16::k))
noncomputable def g165 (k:NL):NL:=0::4::0::36::4::2::0::4::0::36::4::2::k
noncomputable def g166 (k:NL):NL:=0::3::1::0::3::1::0::3::3::3::g142 k
noncomputable def g167 (k:NL):NL:=3::g6 (3::0::3::0::3::g7 (3::0::0::k))
noncomputable def g168 (k:NL):NL:=g9 (68::66::0::68::66::k)
noncomputable def g169 (k:NL):NL:=0::68::66::68::k
noncomputable def g170 (k:NL):NL:=15::g6 (15::0::15::0::g16 (g37 (22::20::22::k)))
noncomputable def g171 (k:NL):NL:=30::28::0::30::28::0::k
noncomputable def g172 (k:NL):NL:=g20 (6::4::6::k)
noncomputable def g173 (k:NL):NL:=7::1::14::0::0::k
noncomputable def g174 (k:NL):NL:=g19 (37::0::k)
noncomputable def g175 (k:NL):NL:=g54 (4::2::4::k)
noncomputable def g176 (k:NL):NL:=6::0::8::6::0::8::k
noncomputable def g177 (k:NL):NL:=133::131::0::133::131::0::k
noncomputable def g178 (k:NL):NL:=36::34::0::36::34::0::k
noncomputable def g179 (k:NL):NL:=169::167::0::169::167::0::k
noncomputable def g180 (k:NL):NL:=g45 (15::g9 k)
noncomputable def g181 (k:NL):NL:=121::119::0::121::119::0::k
noncomputable def g182 (k:NL):NL:=64::g6 (64::0::64::0::64::g7 (64::0::0::k))
noncomputable def g183 (k:NL):NL:=10::0::10::10::10::9::10::8::0::3::1::g6 k
noncomputable def g184 (k:NL):NL:=27::25::0::27::25::0::k
noncomputable def g185 (k:NL):NL:=33::31::0::33::31::0::k
noncomputable def g186 (k:NL):NL:=32::30::0::32::30::0::k
noncomputable def g187 (k:NL):NL:=104::102::104::k
noncomputable def g188 (k:NL):NL:=21::19::0::21::19::0::21::k
noncomputable def g189 (k:NL):NL:=18::g7 (18::g7 (18::g6 (18::k)))
noncomputable def g190 (k:NL):NL:=56::54::0::56::54::0::k
noncomputable def g191 (k:NL):NL:=g13 (13::g7 (13::g7 (13::g6 (13::19::g10 k))))
noncomputable def g192 (k:NL):NL:=g32 (13::0::0::k)
noncomputable def g193 (k:NL):NL:=132::126::g6 (126::g7 (126::126::0::128::k))
noncomputable def g194 (k:NL):NL:=137::131::g6 (131::g7 (131::131::0::133::k))
noncomputable def g195 (k:NL):NL:=133::126::g6 (126::g7 (126::126::0::129::k))
noncomputable def g196 (k:NL):NL:=138::131::g6 (131::g7 (131::131::0::134::k))
noncomputable def g197 (k:NL):NL:=27::26::g6 (26::0::26::0::26::g7 (26::0::0::25::23::25::k))
noncomputable def g198 (k:NL):NL:=g112 (g65 (68::70::70::70::1::0::70::71::71::0::71::71::71::70::71::69::g95 (g95 (73::k))))
noncomputable def g199 (k:NL):NL:=g112 (g57 (34::g68 (69::71::71::71::1::0::71::72::72::0::72::72::72::71::72::70::72::0::72::72::72::71::72::70::72::0::72::72::72::71::72::70::74::k)))
noncomputable def g200 (k:NL):NL:=73::75::75::75::1::0::75::76::76::0::76::76::76::75::76::74::76::0::76::76::76::75::76::74::76::0::76::76::76::75::76::74::78::k
noncomputable def g201 (k:NL):NL:=g39 (17::15::0::17::15::0::17::17::g41 (18::2::g39 (g97 (18::k))))
noncomputable def g202 (k:NL):NL:=13::18::22::23::24::28::29::30::31::32::33::34::35::36::37::38::39::40::41::42::43::g113 k
noncomputable def g203 (k:NL):NL:=g39 (17::15::0::17::15::0::17::17::g49 (17::g17 (17::g66 (13::13::13::0::13::13::g64 (g97 (18::k))))))
noncomputable def g204 (k:NL):NL:=g49 (18::g17 (18::g66 (14::14::14::0::14::14::g64 (g136 (19::k)))))
noncomputable def g205 (k:NL):NL:=g9 (66::64::0::66::64::0::66::k)
noncomputable def g206 (k:NL):NL:=g49 (19::g17 (19::g66 (15::15::15::0::15::15::g64 (g94 (20::20::k)))))
noncomputable def g207 (k:NL):NL:=5::g28 (7::g82 (4::g9 k))
noncomputable def g208 (k:NL):NL:=44::42::0::44::42::0::k
noncomputable def g209 (k:NL):NL:=29::27::0::29::27::0::29::k
noncomputable def g210 (k:NL):NL:=g26 (g62 k)
noncomputable def g211 (k:NL):NL:=34::32::0::34::32::0::34::k
noncomputable def g212 (k:NL):NL:=g54 (4::2::4::0::k)
noncomputable def g213 (k:NL):NL:=g108 (24::22::24::k)
noncomputable def g214 (k:NL):NL:=78::76::78::0::78::78::78::k
noncomputable def g215 (k:NL):NL:=62::60::0::62::60::0::k
noncomputable def g216 (k:NL):NL:=47::45::0::47::45::0::k
noncomputable def g217 (k:NL):NL:=60::58::0::60::58::0::k
noncomputable def g218 (k:NL):NL:=69::68::g6 (68::0::68::0::68::g7 (68::0::0::67::65::67::k))
noncomputable def g219 (k:NL):NL:=59::57::0::59::57::0::k
noncomputable def g220 (k:NL):NL:=2::g50 (10::63::g7 (63::g7 (63::g6 (63::62::k))))
noncomputable def g221 (k:NL):NL:=13::g25 (6::k)
noncomputable def g222 (k:NL):NL:=31::g6 (31::0::31::0::31::g7 (31::0::0::30::28::30::k))
noncomputable def g223 (k:NL):NL:=55::53::0::55::53::0::k
noncomputable def g224 (k:NL):NL:=101::0::101::k
noncomputable def g225 (k:NL):NL:=g9 (48::46::0::48::46::0::k)
noncomputable def g226 (k:NL):NL:=g13 (g34 k)
noncomputable def g227 (k:NL):NL:=20::g7 (20::g7 (20::g6 (20::k)))
noncomputable def g228 (k:NL):NL:=g78 (18::g9 k)
noncomputable def g229 (k:NL):NL:=g13 (g7 k)
noncomputable def g230 (k:NL):NL:=g92 (26::g6 k)
noncomputable def g231 (k:NL):NL:=81::82::83::84::85::86::87::88::89::90::91::92::93::94::95::96::k
noncomputable def g232 (k:NL):NL:=g182 (63::61::63::k)
noncomputable def g233 (k:NL):NL:=g60 (62::62::0::62::1::0::62::k)
noncomputable def g234 (k:NL):NL:=16::g6 (16::0::16::0::16::g7 (16::0::0::k))
noncomputable def g235 (k:NL):NL:=g6 (32::0::32::0::32::g7 (32::0::0::k))
noncomputable def g236 (k:NL):NL:=g36 (0::1::0::0::k)
noncomputable def g237 (k:NL):NL:=g9 (67::65::0::67::65::k)
noncomputable def g238 (k:NL):NL:=27::25::27::k
noncomputable def g239 (k:NL):NL:=g36 (g82 k)
noncomputable def g240 (k:NL):NL:=79::77::79::0::79::79::79::k
noncomputable def g241 (k:NL):NL:=g36 (7::7::1::0::7::k)
noncomputable def g242 (k:NL):NL:=30::30::30::g9 k
noncomputable def g243 (k:NL):NL:=15::0::g83 k
noncomputable def g244 (k:NL):NL:=g9 (52::50::0::52::50::0::k)
noncomputable def g245 (k:NL):NL:=15::0::1::13::1::k
noncomputable def g246 (k:NL):NL:=9::g6 (9::g8 (g10 k))
noncomputable def g247 (k:NL):NL:=g13 (g22 (0::0::k))
noncomputable def g248 (k:NL):NL:=g104 (28::g9 k)
noncomputable def g249 (k:NL):NL:=g22 (g6 (3::0::k))
noncomputable def g250 (k:NL):NL:=g44 (4::g9 k)
noncomputable def g251 (k:NL):NL:=g164 (g9 k)
noncomputable def g252 (k:NL):NL:=25::g6 (25::0::25::0::25::g7 (25::0::0::24::22::24::k))
noncomputable def g253 (k:NL):NL:=2::2::2::0::2::2::k
noncomputable def g254 (k:NL):NL:=100::98::0::100::98::0::100::k
noncomputable def g255 (k:NL):NL:=g9 (67::65::0::0::67::k)
noncomputable def g256 (k:NL):NL:=119::117::0::k
noncomputable def g257 (k:NL):NL:=g17 (13::13::0::13::1::0::13::18::2::g39 k)
noncomputable def g258 (k:NL):NL:=212::210::0::212::210::0::k
noncomputable def g259 (k:NL):NL:=199::197::0::199::197::0::k
noncomputable def g260 (k:NL):NL:=109::107::0::k
noncomputable def g261 (k:NL):NL:=117::115::0::117::115::0::k
noncomputable def g262 (k:NL):NL:=37::g6 (37::0::37::0::37::g7 (37::0::0::36::34::36::k))
noncomputable def g263 (k:NL):NL:=9::7::0::9::7::0::k
noncomputable def g264 (k:NL):NL:=37::35::0::37::35::0::37::35::0::k
noncomputable def g265 (k:NL):NL:=0::3::1::0::3::1::3::1::11::0::g113 k
noncomputable def g266 (k:NL):NL:=g49 (20::g17 (20::g66 (16::16::16::0::16::16::0::16::1::g96 (22::k))))
noncomputable def g267 (k:NL):NL:=g9 (50::48::0::50::48::0::50::48::0::k)
noncomputable def g268 (k:NL):NL:=74::72::0::74::72::0::k
noncomputable def g269 (k:NL):NL:=g9 (46::44::0::46::44::0::k)
noncomputable def g270 (k:NL):NL:=51::49::0::51::49::0::51::49::0::k
noncomputable def g271 (k:NL):NL:=g22 (g6 (2::0::k))
noncomputable def g272 (k:NL):NL:=0::211::0::211::g7 (211::0::0::210::208::210::212::212::211::g6 (211::k))
noncomputable def g273 (k:NL):NL:=0::168::g7 (168::0::0::167::165::167::169::169::168::g6 (168::0::168::k))
noncomputable def g274 (k:NL):NL:=0::198::0::198::g7 (198::0::0::197::195::197::199::199::198::g6 (198::k))
noncomputable def g275 (k:NL):NL:=0::132::g7 (132::0::0::131::129::131::133::133::132::g6 (132::0::132::k))
noncomputable def g276 (k:NL):NL:=0::116::0::116::g7 (116::0::0::115::113::115::117::117::116::g6 (116::k))
noncomputable def g277 (k:NL):NL:=0::120::0::120::g7 (120::0::0::119::117::119::121::121::120::g6 (120::k))
noncomputable def g278 (k:NL):NL:=11::9::0::11::9::0::11::k
noncomputable def g279 (k:NL):NL:=g78 (17::g10 k)
noncomputable def g280 (k:NL):NL:=g111 (g111 (g111 (g111 k)))
noncomputable def g281 (k:NL):NL:=34::g6 (34::0::34::0::34::g7 (34::0::0::33::31::33::k))
noncomputable def g282 (k:NL):NL:=86::0::86::86::86::84::86::86::86::84::82::0::82::82::82::81::82::80::k
noncomputable def g283 (k:NL):NL:=22::20::0::22::20::0::k
noncomputable def g284 (k:NL):NL:=24::22::0::24::22::0::k
noncomputable def g285 (k:NL):NL:=77::79::79::79::1::0::79::80::80::0::80::80::80::79::80::78::80::0::80::80::80::79::80::78::80::0::80::80::80::79::80::78::82::k
noncomputable def g286 (k:NL):NL:=78::80::80::80::1::0::80::81::81::0::81::81::81::80::81::79::81::0::81::81::81::80::81::79::81::0::81::81::81::80::81::79::83::k
noncomputable def g287 (k:NL):NL:=g63 (1::0::3::1::0::3::1::0::0::3::3::3::0::34::0::0::3::g9 (56::54::0::56::57::57::35::55::56::k))
noncomputable def g288 (k:NL):NL:=58::58::35::56::59::59::59::1::0::59::60::60::0::60::60::60::59::60::58::g133 (g133 (62::k))
noncomputable def g289 (k:NL):NL:=g53 (0::1::12::1::4::g36 (3::3::1::0::3::1::0::3::k))
noncomputable def g290 (k:NL):NL:=65::63::0::65::63::0::0::65::65::g205 k
noncomputable def g291 (k:NL):NL:=105::105::103::k
noncomputable def g292 (k:NL):NL:=107::105::0::107::105::0::k
noncomputable def g293 (k:NL):NL:=102::100::102::k
noncomputable def g294 (k:NL):NL:=13::20::26::27::0::28::50::51::52::53::33::34::35::36::37::38::39::40::41::42::43::44::45::46::47::48::k
noncomputable def g295 (k:NL):NL:=10::8::0::10::8::0::k
noncomputable def g296 (k:NL):NL:=8::g7 (8::g7 (8::g6 (8::k)))
noncomputable def g297 (k:NL):NL:=37::35::0::37::35::0::37::k
noncomputable def g298 (k:NL):NL:=51::g19 (51::k)
noncomputable def g299 (k:NL):NL:=g48 (19::g7 (19::g7 (19::g6 (19::25::g9 k))))
noncomputable def g300 (k:NL):NL:=19::g6 (19::g7 (19::19::0::k))
noncomputable def g301 (k:NL):NL:=143::142::0::142::142::142::141::142::140::k
noncomputable def g302 (k:NL):NL:=g13 (7::7::7::0::7::7::0::k)
noncomputable def g303 (k:NL):NL:=g13 (8::8::8::0::8::8::0::k)
noncomputable def g304 (k:NL):NL:=g139 (24::24::0::24::1::0::24::k)
noncomputable def g305 (k:NL):NL:=119::124::119::124::k
noncomputable def g306 (k:NL):NL:=16::16::g125 k
noncomputable def g307 (k:NL):NL:=g128 (g128 (g128 (g128 k)))
noncomputable def g308 (k:NL):NL:=88::0::88::88::88::87::88::86::k
noncomputable def g309 (k:NL):NL:=8::8::g26 (8::k)
noncomputable def g310 (k:NL):NL:=13::g6 (13::0::13::0::13::g7 (13::0::0::12::10::12::k))
noncomputable def g311 (k:NL):NL:=23::g6 (23::0::23::0::23::g7 (23::0::0::22::20::22::k))
noncomputable def g312 (k:NL):NL:=33::32::g235 (31::29::31::k)
noncomputable def g313 (k:NL):NL:=4::g167 (2::0::2::k)
noncomputable def g314 (k:NL):NL:=13::11::0::13::11::0::13::k
noncomputable def g315 (k:NL):NL:=71::69::0::71::69::0::71::69::0::71::71::2::71::k
noncomputable def g316 (k:NL):NL:=57::55::0::57::55::0::57::k
noncomputable def g317 (k:NL):NL:=g13 (g93 (17::k))
noncomputable def g318 (k:NL):NL:=58::56::0::58::56::0::58::k
noncomputable def g319 (k:NL):NL:=28::g6 (28::0::28::0::28::g7 (28::0::0::g238 k))
noncomputable def g320 (k:NL):NL:=29::g6 (29::0::29::0::29::g7 (29::0::0::28::26::28::k))
noncomputable def g321 (k:NL):NL:=g198 (g65 (72::74::74::74::1::0::74::75::75::0::75::75::75::74::75::73::75::0::75::75::75::74::75::73::75::0::75::75::75::74::75::73::77::k))
noncomputable def g322 (k:NL):NL:=g199 (g65 (g200 k))
noncomputable def g323 (k:NL):NL:=g198 (g57 (35::g68 (g200 k)))
noncomputable def g324 (k:NL):NL:=g199 (g57 (36::g68 (74::76::76::76::1::0::76::77::77::g121 (0::77::77::77::76::77::75::79::k))))
noncomputable def g325 (k:NL):NL:=81::82::80::82::0::82::82::82::k
noncomputable def g326 (k:NL):NL:=g201 (g41 (18::2::g39 (g136 (19::k))))
noncomputable def g327 (k:NL):NL:=g41 (18::2::g39 (g94 (20::20::g41 (g96 (22::k)))))
noncomputable def g328 (k:NL):NL:=g203 (g41 (18::2::g39 (g136 (19::k))))
noncomputable def g329 (k:NL):NL:=g206 (g41 (g96 (22::k)))
noncomputable def g330 (k:NL):NL:=g41 (18::2::g39 (g94 (20::20::g266 k)))
noncomputable def g331 (k:NL):NL:=g53 (0::1::12::0::k)
noncomputable def g332 (k:NL):NL:=g172 (3::1::0::g144 k)
noncomputable def g333 (k:NL):NL:=g289 (0::3::1::g6 k)
noncomputable def g334 (k:NL):NL:=2::3::4::13::20::0::28::50::51::52::53::k
noncomputable def g335 (k:NL):NL:=66::g168 (0::0::68::k)
noncomputable def g336 (k:NL):NL:=68::g9 (g143 (1::0::69::1::0::69::g157 (71::71::71::71::69::69::19::69::77::7::70::71::72::73::74::75::76::0::69::67::69::g158 (81::81::81::81::69::69::19::79::98::18::80::g231 (97::k)))))
noncomputable def g337 (k:NL):NL:=101::99::0::101::99::0::101::k
noncomputable def g338 (k:NL):NL:=g287 (58::58::35::56::1::g7 (59::59::57::59::1::g7 (59::59::57::59::59::59::59::59::56::56::37::57::60::60::60::1::0::60::61::g148 (g148 (g148 (63::4::2::0::3::1::3::k))))))
noncomputable def g339 (k:NL):NL:=g7 (4::2::0::4::2::0::4::2::0::4::2::0::4::2::0::0::4::4::4::0::34::0::0::4::g9 (57::55::0::57::g288 (5::3::0::4::2::4::k)))
noncomputable def g340 (k:NL):NL:=g156 (63::g61 k)
noncomputable def g341 (k:NL):NL:=0::1::12::0::63::g61 k
noncomputable def g342 (k:NL):NL:=g28 (7::0::1::0::0::k)
noncomputable def g343 (k:NL):NL:=g61 (0::1::12::1::5::g28 (7::4::4::1::0::4::1::0::4::0::4::2::g6 k))
noncomputable def g344 (k:NL):NL:=3::4::5::14::21::0::29::51::52::53::54::k
noncomputable def g345 (k:NL):NL:=103::101::0::103::101::0::103::103::k
noncomputable def g346 (k:NL):NL:=g7 (g145 (28::g26 (7::7::0::7::1::0::7::k)))
noncomputable def g347 (k:NL):NL:=29::27::29::0::29::29::29::k
noncomputable def g348 (k:NL):NL:=28::g26 (28::g26 (28::k))
noncomputable def g349 (k:NL):NL:=33::33::32::33::31::0::28::26::28::28::k
noncomputable def g350 (k:NL):NL:=g44 (3::28::g9 k)
noncomputable def g351 (k:NL):NL:=30::28::30::0::30::30::30::k
noncomputable def g352 (k:NL):NL:=10::8::0::0::10::10::k
noncomputable def g353 (k:NL):NL:=g26 (10::g35 k)
noncomputable def g354 (k:NL):NL:=38::37::38::36::38::0::38::38::k
noncomputable def g355 (k:NL):NL:=0::48::48::48::47::48::46::48::k
noncomputable def g356 (k:NL):NL:=4::1::1000001::2::0::k
noncomputable def g357 (k:NL):NL:=g44 (3::9::9::g9 k)
noncomputable def g358 (k:NL):NL:=0::0::23::23::23::g129 k
noncomputable def g359 (k:NL):NL:=26::24::0::26::24::0::26::24::0::26::k
noncomputable def g360 (k:NL):NL:=68::66::68::0::68::68::68::k
noncomputable def g361 (k:NL):NL:=30::g42 (30::30::k)
noncomputable def g362 (k:NL):NL:=g29 (38::36::0::38::36::0::38::g19 (38::k))
noncomputable def g363 (k:NL):NL:=40::38::0::40::38::0::40::38::0::k
noncomputable def g364 (k:NL):NL:=42::40::0::42::40::0::42::g19 (42::k)
noncomputable def g365 (k:NL):NL:=g107 (30::g29 k)
noncomputable def g366 (k:NL):NL:=43::41::0::43::41::0::43::g19 (43::k)
noncomputable def g367 (k:NL):NL:=g208 (44::g19 (44::k))
noncomputable def g368 (k:NL):NL:=45::43::0::45::43::0::45::k
noncomputable def g369 (k:NL):NL:=g225 (48::46::0::48::48::3::48::k)
noncomputable def g370 (k:NL):NL:=g29 (71::69::0::71::69::0::71::g19 (71::k))
noncomputable def g371 (k:NL):NL:=g19 (37::g102 k)
noncomputable def g372 (k:NL):NL:=g300 (25::g6 k)
noncomputable def g373 (k:NL):NL:=80::78::0::80::78::0::80::k
noncomputable def g374 (k:NL):NL:=g92 (28::g6 k)
noncomputable def g375 (k:NL):NL:=74::72::74::72::74::0::74::74::k
noncomputable def g376 (k:NL):NL:=g29 (40::38::0::40::38::0::40::g19 (40::k))
noncomputable def g377 (k:NL):NL:=g55 (23::23::0::23::1::0::23::k)
noncomputable def g378 (k:NL):NL:=12::g7 (12::g7 (12::g6 (12::17::k)))
noncomputable def g379 (k:NL):NL:=112::110::112::0::112::112::k
noncomputable def g380 (k:NL):NL:=g55 (22::22::0::22::1::0::22::k)
noncomputable def g381 (k:NL):NL:=g7 (2::0::0::2::0::0::2::0::0::2::g7 (2::2::g9 (4::2::0::4::2::0::4::2::0::4::2::g7 (4::4::g15 (6::0::6::g8 (7::5::0::7::5::0::7::5::0::7::5::0::7::5::0::7::5::0::7::5::0::7::5::0::7::5::0::7::5::0::7::5::0::g51 (g51 (g51 (g51 (g51 (g51 (g51 (g51 (g51 (g51 (g15 (11::0::11::g8 (12::10::0::12::10::0::12::10::0::12::10::0::12::10::0::12::g46 (12::g46 (12::g46 (0::g46 (0::12::g117 (12::g28 (5::g15 (14::0::14::g8 (g91 (g91 (15::13::0::g86 (g86 (g86 (0::15::g15 (17::0::17::g8 (g97 (g87 (g87 (g87 (g87 (g87 (15::g38 (0::15::g15 (20::0::20::g8 (g188 (1::9::0::21::g126 (g126 (15::g38 (15::g38 (15::g38 (15::g38 (g46 (g46 (0::12::g9 (22::20::0::0::22::g28 (5::22::g28 (5::22::g28 (5::g15 (24::0::24::g8 (25::23::0::25::23::0::25::23::0::25::23::0::25::g71 (25::g71 (25::g71 (g71 (g71 (g71 (0::22::20::0::22::22::g28 (5::g15 (27::0::27::g8 (g145 (26::0::28::g88 (28::g88 (g88 (g88 (g88 (g46 (0::g117 (4::g117 (2::g15 (30::0::30::g8 (g134 (29::0::31::29::0::31::g59 (31::g59 (31::g59 (31::g59 (g59 (g59 (g59 (g59 (g46 (0::12::g28 (5::g15 (33::0::33::g8 (g211 (g118 (g118 (g118 (g118 (g46 (g14 (0::0::36::0::36::g8 (0::g297 (g72 (0::0::37::0::0::38::38::0::38::38::38::38::1::0::38::38::38::38::39::1::37::39::0::39::39::39::39::39::37::39::37::g77 (g77 (g77 (g75 (g75 (g75 (0::41::39::18::38::39::0::39::39::39::39::59::41::41::39::g72 (g72 (g72 (g72 (g72 (g46 (g46 (g46 (g46 (g46 (0::4::2::0::4::3::4::g15 (63::0::63::g8 (0::64::g84 (g84 (62::0::64::g52 (64::g52 (64::g52 (0::64::64::g9 (g131 (63::0::65::65::2::65::15::k)))))))))))))))))))))))))))))))))))))))))))))))))))))))))))))))))))))))))))))))))))))))))))))))))))))))))))))))))))))))))))))
noncomputable def g382 (k:NL):NL:=g52 (g6 (66::66::0::66::1::1000000::64::g52 (0::64::g15 (68::0::68::g8 (g143 (g218 (g218 (g52 (0::64::g151 (64::64::g9 (g315 (15::13::g52 (g52 (g52 (g52 (4::4::g50 (10::72::72::72::1::0::72::73::73::g162 (g162 (g162 (0::73::73::73::72::73::71::75::4::g23 (10::8::10::4::g23 (10::8::10::0::4::2::76::76::76::1::0::76::77::77::g121 (g121 (0::77::77::77::76::77::75::79::4::g38 (4::g38 (4::g38 (4::g38 (g10 (4::0::0::80::80::1::0::80::81::3::3::1::0::3::82::85::85::0::85::85::85::85::1::0::85::85::g119 (84::86::86::86::1::0::86::87::87::0::87::87::87::86::87::85::87::0::87::87::87::86::87::85::87::0::87::87::87::86::87::85::89::g152 (88::90::90::90::1::0::90::91::91::0::91::91::91::90::91::89::91::0::91::91::91::90::91::89::91::0::91::91::91::90::91::89::93::g152 (92::94::94::94::1::0::94::95::95::0::95::95::95::94::95::93::95::0::95::95::95::94::95::93::95::0::95::95::95::94::95::93::97::g152 (96::98::98::98::1::0::98::99::99::0::99::99::99::98::99::97::99::0::99::99::99::98::99::97::99::0::99::99::99::98::99::97::101::0::4::2::0::4::2::4::1::11::g89 (85::83::103::4::2::3::104::104::104::1::0::104::105::105::0::105::105::105::104::105::103::g161 (g161 (107::0::2::0::0::2::g7 (2::37::0::2::0::0::2::2::g15 (109::0::109::g8 (g4 (g4 (g4 (g4 (g4 (0::g3 (g3 (g3 (g3 (g3 (g3 (g3 (g3 (g3 (0::2::0::0::2::2::2::2::15::k)))))))))))))))))))))))))))))))))))))))))))))))))))))
noncomputable def g383 (k:NL):NL:=g15 (112::0::112::g8 (g5 (g5 (g5 (g5 (g5 (0::g2 (g2 (g2 (g2 (g2 (g2 (g2 (g2 (g2 (0::2::0::0::2::2::2::0::k))))))))))))))))
noncomputable def g384 (k:NL):NL:=28::31::34::3::11::60::27::30::33::15::18::k
noncomputable def g385 (k:NL):NL:=2::0::2::0::2::0::2::114::114::1::0::114::k
noncomputable def g386 (k:NL):NL:=118::0::118::118::118::k
noncomputable def g387 (k:NL):NL:=2::0::0::2::g6 k
noncomputable def g388 (k:NL):NL:=2::g50 (10::2::1::0::0::2::2::2::0::k)
noncomputable def g389 (k:NL):NL:=9::110::8::109::4::6::7::12::61::k
noncomputable def g390 (k:NL):NL:=2::g50 (10::g220 (0::k))
noncomputable def g391 (k:NL):NL:=61::60::64::106::g220 (g9 k)
noncomputable def g392 (k:NL):NL:=119::0::119::119::119::114::k
noncomputable def g393 (k:NL):NL:=g108 (17::15::17::19::k)
noncomputable def g394 (k:NL):NL:=g282 (85::85::83::85::83::0::83::83::83::2::83::81::85::85::83::85::85::86::84::86::84::1::1000003::84::k)
noncomputable def g395 (k:NL):NL:=0::165::163::4::g47 (11::g140 (165::g9 k))
noncomputable def g396 (k:NL):NL:=18::162::163::0::163::163::163::162::163::161::k
noncomputable def g397 (k:NL):NL:=12::0::12::12::12::12::12::10::12::10::0::14::12::g74 (11::k)
noncomputable def g398 (k:NL):NL:=22::0::22::22::22::22::22::20::22::20::0::24::22::g74 (21::k)
noncomputable def g399 (k:NL):NL:=32::0::32::32::32::32::32::30::32::30::0::34::32::g74 (31::k)
noncomputable def g400 (k:NL):NL:=0::42::42::42::42::42::40::42::40::0::44::42::g74 (41::42::k)
noncomputable def g401 (k:NL):NL:=0::52::52::52::52::52::50::52::50::0::54::52::g74 (51::52::k)
noncomputable def g402 (k:NL):NL:=62::0::62::62::62::62::62::60::62::60::0::64::62::g74 (61::k)
noncomputable def g403 (k:NL):NL:=0::72::72::72::72::72::70::72::70::0::74::72::g74 (71::72::k)
noncomputable def g404 (k:NL):NL:=0::82::82::82::82::82::80::82::80::0::84::82::g74 (81::82::k)
noncomputable def g405 (k:NL):NL:=92::0::92::92::92::92::92::90::92::90::0::94::92::g74 (91::k)
noncomputable def g406 (k:NL):NL:=102::0::102::102::102::102::102::100::102::100::0::104::102::g74 (101::k)
noncomputable def g407 (k:NL):NL:=112::0::112::112::112::112::112::110::112::110::0::114::112::g74 (111::k)
noncomputable def g408 (k:NL):NL:=g7 (8::g176 (6::0::8::k))
noncomputable def g409 (k:NL):NL:=64::62::0::64::62::0::0::64::64::g9 (g131 k)
noncomputable def g410 (k:NL):NL:=g9 (66::64::0::0::66::k)
noncomputable def g411 (k:NL):NL:=67::g168 (0::68::1::0::68::1::0::68::g157 (70::70::70::70::68::68::19::68::76::7::69::70::71::72::73::74::75::g169 (g158 (80::80::80::80::68::68::19::78::97::18::79::80::g231 (0::67::65::k)))))
noncomputable def g412 (k:NL):NL:=g144 (64::g84 (g53 (0::1::12::0::64::k)))
noncomputable def g413 (k:NL):NL:=1::10::0::0::4::3::g9 k
noncomputable def g414 (k:NL):NL:=g290 (g80 (g255 (g120 (66::g236 k))))
noncomputable def g415 (k:NL):NL:=102::100::0::102::100::0::102::k
noncomputable def g416 (k:NL):NL:=109::109::1::0::109::110::k
noncomputable def g417 (k:NL):NL:=7::7::1::0::7::7::7::7::7::5::7::k
noncomputable def g418 (k:NL):NL:=g26 (5::4::4::4::34::2::0::k)
noncomputable def g419 (k:NL):NL:=g17 (13::13::0::13::1::0::13::13::13::13::k)
noncomputable def g420 (k:NL):NL:=13::13::13::0::13::1::0::13::13::13::13::0::k
noncomputable def g421 (k:NL):NL:=70::0::70::70::70::69::70::68::k
noncomputable def g422 (k:NL):NL:=75::73::0::75::73::0::75::k
noncomputable def g423 (k:NL):NL:=g278 (9::0::0::11::11::11::g9 (12::10::0::12::10::0::12::10::0::12::12::3::12::k))
noncomputable def g424 (k:NL):NL:=9::11::1::11::1::11::4::11::k
noncomputable def g425 (k:NL):NL:=g314 (11::0::13::13::3::13::k)
noncomputable def g426 (k:NL):NL:=25::0::25::25::25::24::25::23::k
noncomputable def g427 (k:NL):NL:=g223 (55::53::0::55::55::k)
noncomputable def g428 (k:NL):NL:=63::0::63::63::63::56::63::61::k
noncomputable def g429 (k:NL):NL:=g35 (16::14::0::16::14::0::k)
noncomputable def g430 (k:NL):NL:=g9 (23::21::0::23::21::0::k)
noncomputable def g431 (k:NL):NL:=g242 (g134 (29::0::31::k))
noncomputable def g432 (k:NL):NL:=38::36::0::38::36::0::38::36::k
noncomputable def g433 (k:NL):NL:=25::23::0::25::23::0::25::23::0::k
noncomputable def g434 (k:NL):NL:=g160 (39::37::0::39::39::k)
noncomputable def g435 (k:NL):NL:=g9 (g171 (30::28::0::k))
noncomputable def g436 (k:NL):NL:=34::32::0::34::32::0::34::32::0::k
noncomputable def g437 (k:NL):NL:=g110 (35::33::0::35::35::3::35::k)
noncomputable def g438 (k:NL):NL:=g9 (41::39::0::41::39::0::41::39::0::k)
noncomputable def g439 (k:NL):NL:=g9 (g216 (47::45::0::47::47::3::47::k))
noncomputable def g440 (k:NL):NL:=g270 (51::g31 (51::49::51::k))
noncomputable def g441 (k:NL):NL:=g9 (53::51::0::53::51::0::53::51::0::53::53::3::53::k)
noncomputable def g442 (k:NL):NL:=g9 (54::52::0::54::52::0::54::52::0::54::k)
noncomputable def g443 (k:NL):NL:=g316 (g19 (57::g107 k))
noncomputable def g444 (k:NL):NL:=g9 (61::59::0::61::59::0::k)
noncomputable def g445 (k:NL):NL:=63::0::63::63::63::62::63::61::k
noncomputable def g446 (k:NL):NL:=g29 (g268 (74::g19 (74::g107 k)))
noncomputable def g447 (k:NL):NL:=10::g6 (10::0::10::0::10::g7 (10::0::0::16::14::16::k))
noncomputable def g448 (k:NL):NL:=85::83::0::85::83::0::85::k
noncomputable def g449 (k:NL):NL:=111::110::0::110::110::110::109::110::108::k
noncomputable def g450 (k:NL):NL:=138::137::0::137::137::137::136::137::135::k
noncomputable def g451 (k:NL):NL:=153::151::0::153::151::0::153::k
noncomputable def g452 (k:NL):NL:=g9 (45::43::0::45::43::0::45::43::0::k)
noncomputable def g453 (k:NL):NL:=46::44::0::46::46::3::46::k
noncomputable def g454 (k:NL):NL:=g9 (57::55::0::57::55::0::k)
noncomputable def g455 (k:NL):NL:=61::59::0::61::59::0::61::k
noncomputable def g456 (k:NL):NL:=69::0::69::69::69::68::69::67::k
noncomputable def g457 (k:NL):NL:=g29 (81::79::0::81::79::0::81::g19 (81::k))
noncomputable def g458 (k:NL):NL:=147::0::147::147::147::146::147::145::k
noncomputable def g459 (k:NL):NL:=160::158::0::160::158::0::160::160::k
noncomputable def g460 (k:NL):NL:=166::164::0::166::164::0::166::166::k
noncomputable def g461 (k:NL):NL:=175::174::0::174::174::174::173::174::172::k
noncomputable def g462 (k:NL):NL:=180::179::0::179::179::179::178::179::177::k
noncomputable def g463 (k:NL):NL:=g13 (g22 (g6 (g7 k)))
noncomputable def g464 (k:NL):NL:=0::191::191::191::31::191::189::k
noncomputable def g465 (k:NL):NL:=195::0::195::195::195::194::195::k
noncomputable def g466 (k:NL):NL:=207::206::0::206::206::206::205::206::204::k
noncomputable def g467 (k:NL):NL:=g9 (42::40::0::42::40::0::k)
noncomputable def g468 (k:NL):NL:=g9 (49::47::0::49::47::0::49::47::0::49::49::3::49::k)
noncomputable def g469 (k:NL):NL:=25::61::61::g73 (25::23::k)
noncomputable def g470 (k:NL):NL:=64::0::64::64::64::63::64::62::k
noncomputable def g471 (k:NL):NL:=102::0::102::102::102::101::102::100::k
noncomputable def g472 (k:NL):NL:=108::107::0::107::107::107::106::107::105::k
noncomputable def g473 (k:NL):NL:=0::134::134::134::133::134::132::k
noncomputable def g474 (k:NL):NL:=140::139::0::139::139::139::138::139::137::k
noncomputable def g475 (k:NL):NL:=164::163::0::163::163::163::162::163::161::k
noncomputable def g476 (k:NL):NL:=g29 (67::65::0::67::65::0::67::g19 (67::k))
noncomputable def g477 (k:NL):NL:=g29 (g143 (g19 (69::k)))
noncomputable def g478 (k:NL):NL:=g29 (70::68::0::70::68::0::70::g19 (70::k))
noncomputable def g479 (k:NL):NL:=0::136::136::136::135::136::134::k
noncomputable def g480 (k:NL):NL:=141::0::141::141::141::140::141::139::k
noncomputable def g481 (k:NL):NL:=169::168::0::168::168::168::167::168::166::k
noncomputable def g482 (k:NL):NL:=173::0::173::173::173::172::173::171::k
noncomputable def g483 (k:NL):NL:=194::193::0::193::193::193::192::193::191::k
noncomputable def g484 (k:NL):NL:=g29 (g160 (39::g19 (39::g107 k)))
noncomputable def g485 (k:NL):NL:=41::39::0::41::39::0::41::k
noncomputable def g486 (k:NL):NL:=g9 (43::41::0::43::41::0::k)
noncomputable def g487 (k:NL):NL:=16::g6 (16::g7 (16::16::0::k))
noncomputable def g488 (k:NL):NL:=21::56::56::g234 (21::19::k)
noncomputable def g489 (k:NL):NL:=59::0::59::59::59::58::59::57::k
noncomputable def g490 (k:NL):NL:=9::g6 (9::0::9::0::9::g7 (9::0::0::14::12::14::k))
noncomputable def g491 (k:NL):NL:=g9 (92::90::0::92::90::0::k)
noncomputable def g492 (k:NL):NL:=g40 (20::20::0::20::1::0::20::k)
noncomputable def g493 (k:NL):NL:=g13 (g27 (14::g9 k))
noncomputable def g494 (k:NL):NL:=66::0::66::66::66::65::66::64::k
noncomputable def g495 (k:NL):NL:=94::92::0::94::92::0::94::k
noncomputable def g496 (k:NL):NL:=g55 (5::21::21::21::0::21::21::0::k)
noncomputable def g497 (k:NL):NL:=g13 (g12 (14::g6 (g7 k)))
noncomputable def g498 (k:NL):NL:=116::0::116::116::116::115::116::114::k
noncomputable def g499 (k:NL):NL:=124::122::0::124::122::0::124::k
noncomputable def g500 (k:NL):NL:=127::0::127::127::127::126::127::125::k
noncomputable def g501 (k:NL):NL:=57::57::g108 (22::20::22::k)
noncomputable def g502 (k:NL):NL:=g55 (21::21::0::21::1::0::k)
noncomputable def g503 (k:NL):NL:=0::111::111::111::110::111::109::k
noncomputable def g504 (k:NL):NL:=84::0::84::84::84::83::84::82::k
noncomputable def g505 (k:NL):NL:=0::115::115::115::114::115::113::k
noncomputable def g506 (k:NL):NL:=31::34::3::11::60::30::33::15::64::66::38::k
noncomputable def g507 (k:NL):NL:=74::73::74::72::74::0::74::74::k
noncomputable def g508 (k:NL):NL:=5::3::0::5::3::5::g102 (5::g47 (11::g140 (5::5::g9 k)))
noncomputable def g509 (k:NL):NL:=62::62::0::62::62::1::0::62::62::60::62::k
noncomputable def g510 (k:NL):NL:=g60 (5::41::41::41::0::41::41::0::k)
noncomputable def g511 (k:NL):NL:=g47 (11::34::g7 (34::g7 (34::g6 (34::33::k))))
noncomputable def g512 (k:NL):NL:=34::g6 (34::g7 (34::34::0::33::0::k))
noncomputable def g513 (k:NL):NL:=62::62::62::0::62::1::0::62::k
noncomputable def g514 (k:NL):NL:=18::0::18::18::18::17::18::16::k
noncomputable def g515 (k:NL):NL:=98::0::98::98::98::97::98::96::k
noncomputable def g516 (k:NL):NL:=0::126::126::126::125::126::124::k
end Mine
namespace Mine
noncomputable section
open PySem PySem.W
noncomputable def nInit:Nat:=8395602628992143088491114474801878304914019
noncomputable def nExtend:Nat:=134830450638619676500167197307042101859
noncomputable def holdNames:List String:=["bytearray.__contains__","bytearray.__mod__","bytearray.__rmod__","_struct.pack_into.held","bytearray.find.held"]++Builtin.Bytes.decodersThatHold
noncomputable def holdNums:List Nat:=[36058833123807575479230170713117671936755512554912355,32795239814362956761459727732316633922147,
  8395581392478422324905090493686286438988387,37948474676066309310571488023553429297651664247157856,
  2261905352834615600296328879592681485515455075,2619762639393042134921171463191304907674117216,
  584579224629451902860482836794517567294042825824,584579224629451906745754018222923351833583838304,
  149652281505139687088072108212989157703567751013472,2510748651704533656520691501229422094675138072186740302944,
  2510748651704533656507399221271572935946100001583936857184,
  2510748651704533662976751876756758489368928963968373908576,149652281505139687007100926123411004682965833770080,
  2510748651704533656520691420258240005096985051584823059552,
  2510748651704533656507399140300390846367946980982019613792,
  2510748651704533662976751795785576399790775943366456665184,584579224629451902781254674280253229700498875488,
  38310984065315760196674346043585815937106796725953632,
  2760597336972049077685901222957733368647567678255526054417260178596960,
  11856675279719642454767909112889869208629214928054149904590024514087014842262624]
theorem holdNums_are:holdNames.map PySem.code = holdNums:=by decide+kernel
noncomputable def cleanCode:Code→Bool
  | .builtin id _=>!(holdNums.any (Nat.beq (PySem.code id)))
  | _=>true
noncomputable def cleanL (st:List (Code×Pos)):Bool:=st.all fun x=>cleanCode x.1
theorem not_held {id:String} (h:(!(holdNums.any (Nat.beq (PySem.code id)))) = true):∀x∈holdNames,id≠x:=by
  rintro x hx rfl
  rw [←holdNums_are] at h
  simp only [Bool.not_eq_true',List.any_eq_false] at h
  exact h _ (List.mem_map_of_mem hx) (Nat.beq_refl _)
theorem exported_clean (self:Value):∃P:Code×Pos→Bool,Builtin.Bytes.exported self = Sem.stack (fun st=> .pure (st.any P))∧∀x,cleanCode x.1 = true→P x = false:=by
  refine ⟨_,rfl,?_⟩
  rintro ⟨c,p⟩ h
  cases c <;> try rfl
  rename_i id a
  have n:=not_held h
  have m:∀x,x∈holdNames→id≠x:=n
  obtain ⟨pos,kw⟩:=a
  delta Builtin.Bytes.exported.match_1 Builtin.Bytes.exported._sparseCasesOn_1
  dsimp only
  refine (dif_neg (m "bytearray.__contains__" (by decide))).trans ?_
  refine (dif_neg (m "bytearray.__mod__" (by decide))).trans ?_
  refine (dif_neg (m "bytearray.__rmod__" (by decide))).trans ?_
  refine (dif_neg (m "_struct.pack_into.held" (by decide))).trans ?_
  refine (dif_neg (m "bytearray.find.held" (by decide))).trans ?_
  cases pos with
  | nil=>rfl
  | cons v r=>
    show (Builtin.Bytes.sameRef v self && Builtin.Bytes.decodersThatHold.contains id) = false
    have:Builtin.Bytes.decodersThatHold.contains id = false:=by
      rw [List.contains_eq_mem]
      simp only [decide_eq_false_iff_not]
      intro hx
      exact m id (List.mem_append_right _ hx) rfl
    rw [this,Bool.and_false]
theorem exported_wp {M:Model} {Γ:Ctx} {self:Value} {Q:Bool→Pos→Shared→Prop} {E:Value→Pos→Shared→Prop} {p:Pos} {s:Shared} (hcl:cleanL ((Γ.code,p)::Γ.below) = true) (h:Q false p s):
    Sem.wp M Γ (Builtin.Bytes.exported self) Q E p s:=by
  obtain ⟨P,e,hP⟩:=exported_clean self
  have:((Γ.code,p)::Γ.below).any P = false:=by
    rw [List.any_eq_false]
    intro x hx
    have:=List.all_eq_true.mp hcl x hx
    rw [hP x this]
    exact Bool.false_ne_true
  rw [e,Sem.wp_stack,this,Sem.wp_pure]
  exact h
section
variable {M:Model} {Γ:Ctx} {R:Result→Shared→Prop} {E:Value→Pos→Shared→Prop} {p:Pos} {s:Shared} {a:Addr} {bs:Array UInt8}
noncomputable def baO (bs:Array UInt8) (n:Nat):Obj:=⟨.type "bytearray",none,.bytearray bs n,#[]⟩
theorem entry_init:entryFor table "bytearray.__init__" = some Builtin.«bytearray.__init__»:=entryFor_of_tree (by kernel_rfl)
theorem entry_extend:entryFor table "bytearray.extend" = some Builtin.«bytearray.extend»:=entryFor_of_tree (by kernel_rfl)
noncomputable def runL {α:Type} (o:Obj):Nat→Sem α→Option (List Addr×α)
  | 0,_=>none
  | n +1,t=>match t with
    | .pure v=>some ([],v)
    | .rule _ k=>runL o n (k ())
    | .load a _ k=>match runL o n (k o) with
      | some x=>some (a::x.1,x.2)
      | none=>none
    | _=>none
theorem runL_wp {α:Type} {o:Obj}:∀{n:Nat} {t:Sem α} {as:List Addr} {v:α} {Q:α→Pos→Shared→Prop} {E:Value→Pos→Shared→Prop},runL o n t = some (as,v)→(∀x∈as,s.heap.get? x = some o)→Q v p s→Sem.wp M Γ t Q E p s
  | 0,t,as,v,Q,E,h,_,_=>by cases h
  | n + 1,t,as,v,Q,E,h,ho,hq=>by
    cases t with
    | pure x=>
      have h:some ([],x) = some (as,v):=h
      cases h
      rw [Sem.wp_pure]
      exact hq
    | rule g k=>
      rw [Sem.wp_rule]
      exact runL_wp (n:=n) h ho hq
    | load b q k=>
      have h:(match runL o n (k o) with | some x=>some (b::x.1,x.2) | none=>none) = some (as,v):=h
      cases e:runL o n (k o) with
      | none=>rw [e] at h;cases h
      | some x=>
        rw [e] at h
        cases h
        rw [Sem.wp_load]
        exact ⟨o,ho _ (.head _),runL_wp (n:=n) e (fun y hy=>ho y (.tail _ hy)) hq⟩
    | _=>cases h
theorem all_of {a:Addr} {o:Obj} (ho:s.heap.get? a = some o) {n:Nat}:∀x∈List.replicate n a,s.heap.get? x = some o:=fun x hx=>by rw [(List.mem_replicate.mp hx).2];exact ho
theorem own_run (a:Addr) (bs:Array UInt8) (n:Nat):runL (baO bs n) 20 (Builtin.Bytes.ownRelease (.ref a)) = some (List.replicate 2 a,false):=by kernel_rfl
theorem exports_run (a:Addr) (bs:Array UInt8):runL (baO bs 0) 20 (Builtin.Bytes.exportsOf (.ref a)) = some (List.replicate 1 a,0):=by kernel_rfl
theorem payload_run (a:Addr) (bs:Array UInt8) (n:Nat):runL (baO bs n) 20 (Builtin.Bytes.payload (.ref a)) = some (List.replicate 1 a,bs):=by kernel_rfl
theorem special_run (bs:Array UInt8) (t:Nat):runL default 20 (PySem.specialOf (.bytes bs t) "__buffer__") = some ([],some (.builtin "bytes.__buffer__")):=by kernel_rfl
theorem take_run (bs:Array UInt8) (t:Nat):runL default 20 (Builtin.Bytes.takeBufferQuiet? "bytearray.extend" (.bytes bs t) 0) = some ([],some (bs,none)):=by kernel_rfl
theorem write_wp {n:Nat} {f:Array UInt8→Array UInt8} {Q:Unit→Pos→Shared→Prop} (ho:s.heap.get? a = some (baO bs n)) (hs:(f bs).size≤sizeLine)
    (h:Q () p {s with heap:=s.heap.update a (Obj.mapBytearray f)}):Sem.wp M Γ (Builtin.Bytes.write (.ref a) f) Q E p s:=by
  show Sem.wp M Γ (updateBytearray a f) Q E p s
  unfold updateBytearray
  rw [Sem.wp_bind',Sem.wp_load_of _ _ _ _ _ ho]
  show Sem.wp M Γ (Sem.update a none _ (fun _=>lookBehind a)) Q E p s
  rw [Sem.wp_update]
  refine ⟨by rw [ho];rfl,?_⟩
  unfold lookBehind
  have hg:(s.heap.update a (Obj.mapBytearray f)).get? a = some (baO (f bs) n):=Heap.get?_update_self _ ho rfl
  rw [Sem.wp_bind',Sem.wp_loadPart_of _ _ _ _ _ none hg]
  have e:(baO (f bs) n).data.pastItsLine = none:=by
    show (if (f bs).size > sizeLine then some "bytearray:memory" else none) = none
    rw [if_neg (by omega)]
  rw [e]
  exact h
theorem den_builtin {id:String} {args:Args} {f:Builtin} (h:entryFor table id = some f):denote table (.builtin id args) = f args:=by
  show (match entryFor table id with | some b=>b args | none=>unsupported ((withoutEnding? id "#data").getD id)) = f args
  rw [h]
theorem wpR {α β:Type} {o:Obj} {n:Nat} {t:Sem α} {f:α→Sem β} {as:List Addr} {v:α} {Q:β→Pos→Shared→Prop} (h:runL o n t = some (as,v)) (ho:∀x∈as,s.heap.get? x = some o) (hq:Sem.wp M Γ (f v) Q E p s):Sem.wp M Γ (Sem.bind t f) Q E p s:=by
  rw [Sem.wp_bind]
  exact runL_wp h ho hq
theorem init_wp (ho:s.heap.get? a = some (baO bs 0)) (hcl:cleanL ((Γ.code,p)::Γ.below) = true) (h:R (.ok (.ret .none)) {s with heap:=s.heap.update a (Obj.mapBytearray fun _=>#[])}):
    wpF M Γ (denote table (.builtin "bytearray.__init__" ⟨[.ref a],[]⟩)) R p s:=by
  unfold wpF
  rw [den_builtin entry_init]
  unfold Builtin.«bytearray.__init__»
  refine wpR (own_run a bs 0) (all_of ho) ?_
  simp only [Bool.false_eq_true,if_false]
  refine wpR (o:=default) (n:=20) (t:=Builtin.Bytes.bindOptional "bytearray.__init__" "bytearray" ["source","encoding","errors"] [] []) (as:=[]) (v:=[none,none,none]) (by kernel_rfl) (fun _ h=>nomatch h) ?_
  refine wpR (o:=default) (n:=20) (t:=Builtin.Bytes.checkCodecArg "bytearray.__init__" "bytearray" "encoding" none) (as:=[]) (v:=()) (by kernel_rfl) (fun _ h=>nomatch h) ?_
  refine wpR (o:=default) (n:=20) (t:=Builtin.Bytes.checkCodecArg "bytearray.__init__" "bytearray" "errors" none) (as:=[]) (v:=()) (by kernel_rfl) (fun _ h=>nomatch h) ?_
  refine (Sem.wp_bind' _ _ _ _ _ _ _ _).mpr ?_
  refine (Sem.wp_bind' _ _ _ _ _ _ _ _).mpr (exported_wp hcl ?_)
  refine wpR (exports_run a bs) (all_of ho) ?_
  refine (Sem.wp_pure' _ _ _ _ _ _ _).mpr ?_
  refine (Sem.wp_bind' _ _ _ _ _ _ _ _).mpr (write_wp (f:=fun _=>#[]) ho (Nat.zero_le _) ?_)
  show Sem.wp M Γ (Sem.pure _) _ _ _ _
  rw [Sem.wp_pure]
  exact h
theorem extend_wp {more:Array UInt8} {t:Tok} (ho:s.heap.get? a = some (baO bs 0)) (hcl:cleanL ((Γ.code,p)::Γ.below) = true) (hs:(bs++more).size≤sizeLine) (h:R (.ok (.ret .none)) {s with heap:=s.heap.update a (Obj.mapBytearray fun x=>x++more)}):
    wpF M Γ (denote table (.builtin "bytearray.extend" ⟨[.ref a,.bytes more t],[]⟩)) R p s:=by
  unfold wpF
  rw [den_builtin entry_extend]
  unfold Builtin.«bytearray.extend»
  refine wpR (o:=default) (n:=20) (t:=PySem.selfAndOne "bytearray.extend" ⟨[.ref a,.bytes more t],[]⟩) (as:=[]) (v:=(.ref a,.bytes more t)) (by kernel_rfl) (fun _ h=>nomatch h) ?_
  refine wpR (special_run more t) (fun _ h=>nomatch h) ?_
  refine (Sem.wp_bind' _ _ _ _ _ _ _ _).mpr ?_
  show Sem.wp M Γ (Sem.rule _ _) _ _ _ _
  rw [Sem.wp_rule,Sem.wp_pure]
  refine wpR (payload_run a bs 0) (all_of ho) ?_
  refine wpR (take_run more t) (fun _ h=>nomatch h) ?_
  have tail:Sem.wp M Γ (Sem.bind (Builtin.Bytes.write (.ref a) (·++more)) fun _=>(ret .none:Sem Fin)) (Sem.finPost M Γ R) (fun e _ s'=>R (.error e) s') p s:=by
    rw [Sem.wp_bind]
    refine write_wp ho hs ?_
    show Sem.wp M Γ (Sem.pure _) _ _ _ _
    rw [Sem.wp_pure]
    exact h
  show Sem.wp M Γ (if (!more.isEmpty) = true then Sem.bind (Builtin.Bytes.checkResize (.ref a)) (fun _=>Sem.bind (Builtin.Bytes.write (.ref a) (·++more)) fun _=>(ret .none:Sem Fin)) else Sem.bind (Builtin.Bytes.write (.ref a) (·++more)) fun _=>(ret .none:Sem Fin)) _ _ p s
  split
  · rw [Sem.wp_bind]
    unfold Builtin.Bytes.checkResize
    refine (Sem.wp_bind' _ _ _ _ _ _ _ _).mpr ?_
    refine (Sem.wp_bind' _ _ _ _ _ _ _ _).mpr (exported_wp hcl ?_)
    refine wpR (exports_run a bs) (all_of ho) ?_
    refine (Sem.wp_pure' _ _ _ _ _ _ _).mpr ?_
    show Sem.wp M Γ (Sem.pure _) _ _ _ _
    rw [Sem.wp_pure]
    exact tail
  · exact tail
end
noncomputable def strip1 (t:Sem Fin):Sem Fin:=match t with
  | .rule _ k=>k ()
  | t=>t
theorem strip1_wp {M:Model} {Γ:Ctx} {R:Result→Shared→Prop} {p:Pos} {s:Shared} (t:Sem Fin):wpF M Γ (strip1 t) R p s = wpF M Γ t R p s:=by
  cases t <;> first | rfl | exact (Sem.wp_rule ..).symm
noncomputable def trInit (den:Code→Sem Fin):Tcpt:=fun _ st c t hs sz tk m T=>match c with
  | .builtin id ⟨[.ref a],[]⟩=>match Nat.beq (PySem.code id) nInit with
    | true=>match hs with
      | i ::hs=>match T.get i with
        | some e=>match e with
          | ⟨a',⟨c1,d1,.bytearray bs n,sl⟩⟩=>match (T.ins i (a',Obj.mapBytearray (fun _=>#[]) (baO bs 0))).get i with
            | some _=>some ⟨.pure (.done (.ret .none)),hs,sz,tk,m,T.ins i (a',Obj.mapBytearray (fun _=>#[]) (baO bs 0)),[(.n a,.n a'),(.o ⟨c1,d1,.bytearray bs n,sl⟩,.o (baO bs 0)),(.t t,.t (strip1 (den c)))],[cleanL st]⟩
            | none=>none
          | _=>none
        | none=>none
      | []=>none
    | false=>none
  | _=>none
noncomputable def trExtend (den:Code→Sem Fin):Tcpt:=fun _ st c t hs sz tk m T=>match c with
  | .builtin id ⟨[.ref a,.bytes more u],[]⟩=>match Nat.beq (PySem.code id) nExtend with
    | true=>match hs with
      | i ::hs=>match T.get i with
        | some e=>match e with
          | ⟨a',⟨c1,d1,.bytearray bs n,sl⟩⟩=>match (T.ins i (a',Obj.mapBytearray (fun x=>x++more) (baO bs 0))).get i with
            | some _=>some ⟨.pure (.done (.ret .none)),hs,sz,tk,m,T.ins i (a',Obj.mapBytearray (fun x=>x++more) (baO bs 0)),[(.n a,.n a'),(.o ⟨c1,d1,.bytearray bs n,sl⟩,.o (baO bs 0)),(.t t,.t (strip1 (den c)))],[cleanL st,Nat.ble (bs++more).size 1000]⟩
            | none=>none
          | _=>none
        | none=>none
      | []=>none
    | false=>none
  | _=>none
section
variable {V:Vw} {prog:Program} {w:World} {b:Bs} {den:Code→Sem Fin}
theorem trInit_ok (hden:den = denote table):TcOk V (model prog w) b (trInit den):=by
  intro Γ c t hs sz tk m T p s R κ hc hbel _ r H
  obtain ⟨y,e,hob,hd,hR⟩:=H fun _=>0
  unfold trInit at e
  split at e
  · rename_i id a
    split at e
    · rename_i hid
      have hid':id = "bytearray.__init__":=PySem.code_inj _ _ ((Nat.eq_of_beq_eq_true hid).trans (by decide+kernel))
      subst hid'
      split at e
      · rename_i i hs'
        split at e
        · rename_i e1 hT
          split at e
          · rename_i a' c1 d1 bs n sl
            split at e
            · rename_i e2 hg
              cases e
              have q0:=hob _ (.head _)
              have qa:a = a':=by injection q0
              subst qa
              have q1:=hob _ (.tail _ (.head _))
              have qo:(⟨c1,d1,.bytearray bs n,sl⟩:Obj) = baO bs 0:=by injection q1
              have q2:=hob _ (.tail _ (.tail _ (.head _)))
              have qt:t = strip1 (den (.builtin "bytearray.__init__" ⟨[.ref a],[]⟩)):=by injection q2
              rw [qo] at hT
              rw [qt,hden,strip1_wp]
              have hcl:cleanL ((Γ.code,p)::Γ.below) = true:=by rw [hc,hbel];exact hd _ (.head _)
              refine init_wp (r.own _ _ _ hT).2.1 hcl ?_
              have z:=hR _ (r.update hT rfl hg)
              unfold wpF at z
              rw [Sem.wp_pure] at z
              exact z
            · cases e
          · cases e
        · cases e
      · cases e
    · cases e
  · cases e
theorem trExtend_ok (hden:den = denote table):TcOk V (model prog w) b (trExtend den):=by
  intro Γ c t hs sz tk m T p s R κ hc hbel _ r H
  obtain ⟨y,e,hob,hd,hR⟩:=H fun _=>0
  unfold trExtend at e
  split at e
  · rename_i id a more u
    split at e
    · rename_i hid
      have hid':id = "bytearray.extend":=PySem.code_inj _ _ ((Nat.eq_of_beq_eq_true hid).trans (by decide+kernel))
      subst hid'
      split at e
      · rename_i i hs'
        split at e
        · rename_i e1 hT
          split at e
          · rename_i a' c1 d1 bs n sl
            split at e
            · rename_i e2 hg
              cases e
              have q0:=hob _ (.head _)
              have qa:a = a':=by injection q0
              subst qa
              have q1:=hob _ (.tail _ (.head _))
              have qo:(⟨c1,d1,.bytearray bs n,sl⟩:Obj) = baO bs 0:=by injection q1
              have q2:=hob _ (.tail _ (.tail _ (.head _)))
              have qt:t = strip1 (den (.builtin "bytearray.extend" ⟨[.ref a,.bytes more u],[]⟩)):=by injection q2
              rw [qo] at hT
              rw [qt,hden,strip1_wp]
              have hcl:cleanL ((Γ.code,p)::Γ.below) = true:=by rw [hc,hbel];exact hd _ (.head _)
              have hz:Nat.ble (bs++more).size 1000 = true:=hd _ (.tail _ (.head _))
              refine extend_wp (r.own _ _ _ hT).2.1 hcl (Nat.le_trans (Nat.le_of_ble_eq_true hz) (by decide)) ?_
              have z:=hR _ (r.update hT rfl hg)
              unfold wpF at z
              rw [Sem.wp_pure] at z
              exact z
            · cases e
          · cases e
        · cases e
      · cases e
    · cases e
  · cases e
end
section
variable {M:Model} {Γ:Ctx} {E:Value→Pos→Shared→Prop} {p:Pos} {s:Shared} {a tb:Addr} {f:Nat} {oe ot:Obj} {vs vt:Array Value} {env:PySem.Env}
theorem field_wp {i:Nat} {v:Value} {Q:Value→Pos→Shared→Prop} (ho:s.heap.get? a = some oe) (hd:oe.data = .fields vs) (hv:vs[i]? = some v) (h:Q v p s):Sem.wp M Γ (field (.ref a) i) Q E p s:=by
  unfold field fieldsOf
  simp only []
  rw [Sem.wp_bind',Sem.wp_bind',Sem.wp_load_of _ _ _ _ _ ho,hd]
  simp only []
  rw [Sem.wp_pure',hv]
  simp only []
  rw [Sem.wp_pure']
  exact h
theorem leaving_wp {Q:Unit→Pos→Shared→Prop} (ho:s.heap.get? a = some oe) (hd:oe.data = .fields vs) (h1:vs[1]? = some (.ref tb)) (ht:s.heap.get? tb = some ot) (hdt:ot.data = .fields vt) (h3:vt[3]? = some (rawInt f)) (hf:env.frame = some f)
    (h:Sem.wp M Γ (updateField tb 3 .none) Q E p s):Sem.wp M Γ (leaving env (.ref a)) Q E p s:=by
  unfold leaving
  rw [Sem.wp_bind']
  unfold noteFrame
  rw [hf]
  simp only []
  rw [Sem.wp_bind']
  refine field_wp ho hd h1 ?_
  rw [if_pos (by rfl)]
  refine (Sem.wp_bind' _ _ _ _ _ _ _ _).mpr ?_
  refine field_wp ht hdt h3 ?_
  rw [if_pos (by simp)]
  rw [Sem.wp_pure']
  unfold setFlight
  refine (Sem.wp_bind' _ _ _ _ _ _ _ _).mpr ?_
  refine field_wp ho hd h1 ?_
  rw [if_pos (by rfl)]
  exact h
theorem updateField_wp {i:Nat} {v:Value} {Q:Unit→Pos→Shared→Prop} (ht:s.heap.get? tb = some ot) (hdt:ot.data = .fields vt) (hi:i < vt.size)
    (h:Q () p {s with heap:=s.heap.update tb (Obj.mapFields (·.setIfInBounds i v))}):Sem.wp M Γ (updateField tb i v) Q E p s:=by
  unfold updateField
  rw [Sem.wp_bind',Sem.wp_load_of _ _ _ _ _ ht,hdt]
  simp only []
  rw [if_pos hi]
  show Sem.wp M Γ (Sem.update tb none _ Sem.pure) Q E p s
  rw [Sem.wp_update,Sem.wp_pure]
  exact ⟨by rw [ht];rfl,h⟩
end
structure LvOk (lv:PySem.Env→Value→Sem Fin):Prop where
  wp:∀(M:Model) (Γ:Ctx) (env:PySem.Env) (e:Value) (R:Result→Shared→Prop) (p:Pos) (s:Shared),
    Sem.wp M Γ (leaving env e) (fun _ _ s'=>R (.error e) s') (fun e _ s'=>R (.error e) s') p s→wpF M Γ (lv env e) R p s
noncomputable def trLeave (lv:PySem.Env→Value→Sem Fin):Tcpt:=fun _ st c t hs sz tk m T=>match c with
  | .func _ env =>match env.frame with
    | some f => match hs with
      | i :: j :: hs => match T.get i with
        | some e => match e with
          | ⟨a, ⟨c1,d1,.fields vs,sl⟩⟩=>match T.get j with
            | some e2=>match e2 with
              | ⟨tb,⟨c2,d2,.fields vt,sl2⟩⟩=>match vs[1]? with
                | some v1=>match vt[3]? with
                  | some v3=>match (T.ins j (tb,Obj.mapFields (·.setIfInBounds 3 .none) ⟨c2,d2,.fields vt,sl2⟩)).get j with
                    | some _=>some ⟨.raise (.ref a),hs,sz,tk,m,T.ins j (tb,Obj.mapFields (·.setIfInBounds 3 .none) ⟨c2,d2,.fields vt,sl2⟩),
                        [(.v v1,.v (.ref tb)),(.v v3,.v (.int (f:Int) 0)),(.t t,.t (lv env (.ref a)))],[]⟩
                    | none=>none
                  | none=>none
                | none=>none
              | _=>none
            | none=>none
          | _=>none
        | none=>none
      | _=>none
    | none=>none
  | _=>none
theorem trLeave_ok {V :Vw} {prog:Program} {w:World} {b:Bs} {lv:PySem.Env→Value→Sem Fin} (hl:LvOk lv):TcOk V (model prog w) b (trLeave lv):=by
  intro Γ c t hs sz tk m T p s R κ hc hbel _ r H
  obtain ⟨y,e,hob,hd,hR⟩:=H fun _=>0
  unfold trLeave at e
  split at e
  · rename_i body env
    split at e
    · rename_i f hf
      split at e
      · rename_i i j hs'
        split at e
        · rename_i e1 hT
          split at e
          · rename_i a c1 d1 vs sl
            split at e
            · rename_i e2 hT2
              split at e
              · rename_i tb c2 d2 vt sl2
                split at e
                · rename_i v1 hv1
                  split at e
                  · rename_i v3 hv3
                    split at e
                    · rename_i e3 hg
                      cases e
                      have q0:=hob _ (.head _)
                      have q1:v1 = .ref tb:=by injection q0
                      have q2:=hob _ (.tail _ (.head _))
                      have q3:v3 = .int (f:Int) 0:=by injection q2
                      have q4:=hob _ (.tail _ (.tail _ (.head _)))
                      have qt:t = lv env (.ref a):=by injection q4
                      subst q1 q3
                      rw [qt]
                      refine hl.wp _ _ _ _ _ _ _ ?_
                      refine leaving_wp (r.own _ _ _ hT).2.1 rfl hv1 (r.own _ _ _ hT2).2.1 rfl hv3 hf ?_
                      have hsz:3 < vt.size:=(Array.getElem?_eq_some_iff.mp hv3).1
                      refine updateField_wp (r.own _ _ _ hT2).2.1 rfl hsz ?_
                      have z:=hR _ (r.update (f:=Obj.mapFields (·.setIfInBounds 3 .none)) hT2 rfl hg)
                      unfold wpF at z
                      rw [Sem.wp_raise] at z
                      exact z
                    · cases e
                  · cases e
                · cases e
              · cases e
            · cases e
          · cases e
        · cases e
      · cases e
    · cases e
  · cases e
section
variable {prog:Program} {w:World}
theorem zipFirst_is {o:Obj} {v:Value} (h:zipFirst o = some v):∃d vs sl,o = ⟨.type "zip",d,.fields vs,sl⟩∧vs[0]? = some v:=by
  unfold zipFirst at h
  split at h
  · rename_i nm d vs sl
    split at h
    · rename_i q
      have:nm = "zip":=PySem.code_inj _ _ ((Nat.eq_of_beq_eq_true q).trans (by decide+kernel))
      subst this
      refine ⟨d,vs,sl,rfl,?_⟩
      rw [←Array.getElem?_toList,←List.head?_eq_getElem?]
      exact h
    · cases h
  · cases h
theorem owned_wp {M:Model} {Γ:Ctx} {target:Expr} {a a2:Addr} {o:Obj} {v:Value} {rest:Unit→Sem Fin} {Q:Fin→Pos→Shared→Prop} {E:Value→Pos→Shared→Prop} {p:Pos} {s:Shared}
    (ht:isTuple target = true) (ho:s.heap.get? a = some o) (hz:zipFirst o = some v) (hv:v = .int (a2:Int) 0)
    (h:Sem.wp M Γ (rest ()) Q E p {s with heap:=s.heap.update a zipLet}):Sem.wp M Γ (Sem.bind (letOwnedTupleGo target (.ref a) (.ref a2)) rest) Q E p s:=by
  obtain ⟨d,vs,sl,rfl,hv0⟩:=zipFirst_is hz
  subst hv
  cases target with
  | Tuple es c pos=>
    rw [Sem.wp_bind]
    unfold letOwnedTupleGo
    show Sem.wp _ _ (Sem.bind (load a) _) _ _ _ s
    rw [Sem.wp_bind]
    show Sem.wp _ _ (Sem.load a _ _) _ _ _ s
    rw [Sem.wp_load]
    refine ⟨_,ho,?_⟩
    rw [Sem.wp_pure]
    have hc:((["enumerate","zip","dict_itemiterator","dict_reverseitemiterator","odict_iterator","itertools.zip_longest","itertools.pairwise"]:List String).contains "zip" && vs[0]? == some (rawInt a2)) = true:=by
      rw [hv0]
      have:(some (Value.int (a2:Int) 0) == some (rawInt a2)) = true:=by
        show (Value.int (a2:Int) 0 == rawInt a2) = true
        exact beq_self_eq_true _
      rw [this]
      decide
    show Sem.wp _ _ (if _ then _ else _) _ _ _ s
    rw [if_pos hc]
    show Sem.wp _ _ (rule _ >>= _) _ _ _ s
    rw [Sem.wp_bind']
    show Sem.wp _ _ (Sem.rule _ _) _ _ _ s
    rw [Sem.wp_rule,Sem.wp_pure]
    unfold updateField
    show Sem.wp _ _ (Sem.bind (load a) _) _ _ _ s
    rw [Sem.wp_bind]
    show Sem.wp _ _ (Sem.load a _ _) _ _ _ s
    rw [Sem.wp_load]
    refine ⟨_,ho,?_⟩
    rw [Sem.wp_pure]
    have hlt:0 < vs.size:=by
      apply Nat.pos_of_ne_zero
      intro q
      rw [Array.getElem?_eq_none (by omega)] at hv0
      cases hv0
    show Sem.wp _ _ (if _ then _ else _) _ _ _ s
    rw [if_pos hlt]
    show Sem.wp _ _ (Sem.update a _ _ _) _ _ _ s
    rw [Sem.wp_update]
    refine ⟨by rw [ho];rfl,?_⟩
    rw [Sem.wp_pure]
    exact h
  | _=>cases ht
end
structure FoOk (fq fr:Expr→Value→Value→List Stmt→List Stmt→PySem.Env→Sem Fin):Prop where
  wp:∀(M:Model) (Γ:Ctx) (tg:Expr) (it v:Value) (bo oe:List Stmt) (env:PySem.Env) (R:Result→Shared→Prop) (p:Pos),∃(fa:Sem Fin) (Q:Fin→Pos→Shared→Prop) (E:Value→Pos→Shared→Prop),
    (∀s,wpF M Γ (fq tg it v bo oe env) R p s = Sem.wp M Γ (Sem.bind (letOwnedTupleGo tg it v) fun _=>fa) Q E p s)∧∀s,wpF M Γ (fr tg it v bo oe env) R p s = Sem.wp M Γ fa Q E p s
noncomputable def trOwned (fq fr:Expr→Value→Value→List Stmt→List Stmt→PySem.Env→Sem Fin):Tcpt:=fun _ st c t hs sz tk m T=>match c with
  | .forLoop tg (.ref a) bo oe env=>match isTuple tg with
    | true => match hs with
      | i :: j :: hs=>match T.get i with
        | some e=>match e with
          | ⟨a',o⟩=>match zipFirst o with
            | some v=>match T.get j with
              | some e2=>match e2 with
                | ⟨a2,_⟩=>match (T.ins i (a',zipLet o)).get i with
                  | some _=>some ⟨fr tg (.ref a) (.ref a2) bo oe env,hs,sz,tk,m,T.ins i (a',zipLet o),[(.n a,.n a'),(.v v,.v (.int (a2:Int) 0)),(.t t,.t (fq tg (.ref a) (.ref a2) bo oe env))],[]⟩
                  | none=>none
              | none=>none
            | none=>none
        | none=>none
      | _=>none
    | false=>none
  | _=>none
theorem trOwned_ok {V:Vw} {prog:Program} {w:World} {b:Bs} {fq fr:Expr→Value→Value→List Stmt→List Stmt→PySem.Env→Sem Fin} (hf:FoOk fq fr):TcOk V (model prog w) b (trOwned fq fr):=by
  intro Γ c t hs sz tk m T p s R κ hc hbel _ r H
  obtain ⟨y,e,hob,hd,hR⟩:=H fun _=>0
  unfold trOwned at e
  split at e
  · rename_i tg a bo oe env
    split at e
    · rename_i htup
      split at e
      · rename_i i j hs'
        split at e
        · rename_i e1 hT
          split at e
          rename_i a' o
          split at e
          · rename_i v hz
            split at e
            · rename_i e2 hT2
              split at e
              rename_i a2 o2
              split at e
              · rename_i e3 hg
                cases e
                have q0:=hob _ (.head _)
                have qa:a = a':=by injection q0
                subst qa
                have q1:=hob _ (.tail _ (.head _))
                have qv:v = .int (a2:Int) 0:=by injection q1
                have q2:=hob _ (.tail _ (.tail _ (.head _)))
                have qt:t = fq tg (.ref a) (.ref a2) bo oe env:=by injection q2
                obtain ⟨fa,Q,E,h1,h2⟩:=hf.wp (model prog w) Γ tg (.ref a) (.ref a2) bo oe env R p
                rw [qt,h1]
                obtain ⟨d,vs,sl,rfl,_⟩:=zipFirst_is hz
                refine owned_wp htup (r.own _ _ _ hT).2.1 hz qv ?_
                rw [←h2]
                exact hR _ (r.update (f:=zipLet) hT rfl hg)
              · cases e
            · cases e
          · cases e
        · cases e
      · cases e
    · cases e
  · cases e
end
end Mine
namespace Mine
open PySem PySem.W
noncomputable section
noncomputable def denQ:Code→Sem Fin:=PySem.W.Fast.tw11892475500146522536 PySem.W.Fast.tw14364793385576792824
theorem denQ_is:denQ = denote table:=by
  unfold denQ
  rw [←PySem.W.Fast.te11892475500146522536,←PySem.W.Fast.te14364793385576792824,table_eq_tree]
noncomputable def icStd (j:Nat):Icpt:=match j with
  | 0=>icAdd | 1=>icSub | 2=>icMul | 3=>icMod | 4=>icDiv | 5=>icAnd | 6=>icOr
  | 7=>icLt | 8=>icLe | 9=>icGt | 10=>icGe | 11=>icEq | 12=>icNe | 13=>icModTo | 14=>icTruth | 15=>icGet | 16=>icAppend
  | _=>fun _ _ _ _ _ _ _ _=>none
noncomputable def rowStd (_:Nat):String:="special-get-raises"
theorem icNone_ok {V:Vw} {M:Model} {b:Bs}:IcOk V M b (fun _ _ _ _ _ _ _ _=>none):=by
  intro Γ c hs sz tk m T p s R κ _ _ _ r H
  obtain ⟨y,e,_⟩:=H fun _=>0
  cases e
theorem icStd_ok {V:Vw} {prog:Program} {w:World} {b:Bs} (j:Nat):IcOk V (model prog w) b (icStd j):=by
  unfold icStd
  split <;> first | exact icAdd_ok | exact icSub_ok | exact icMul_ok | exact icMod_ok | exact icDiv_ok | exact icAnd_ok | exact icOr_ok | exact icLt_ok | exact icLe_ok | exact icGt_ok | exact icGe_ok | exact icEq_ok | exact icNe_ok | exact icModTo_ok | exact icTruth_ok | exact icGet_ok | exact icAppend_ok | exact icNone_ok
noncomputable def icWith (own:Nat→Icpt) (j:Nat):Icpt:=match Nat.blt j 32 with
  | true=>icStd j
  | false=>own (j - 32)
noncomputable def icNil (_:Nat):Icpt:=fun _ _ _ _ _ _ _ _=>none
noncomputable def lvQ (env:PySem.Env) (e:Value):Sem Fin:=
  PySem.W.R.bindR (PySem.W.R.onRaiseR (Sem.raise e:Sem Flow) (PySem.W.Fast.tw9442747609961115081 env)) fun fl=>match fl with
    | .ret v=>PySem.W.Fast.tw6905046200447255374 v
    | _=>PySem.W.Fast.tw6905046200447255374 Value.none
theorem lvQ_ok:LvOk lvQ where
  wp:=by
    intro M Γ env e R p s h
    unfold wpF lvQ
    rw [←PySem.W.Fast.te9442747609961115081,←PySem.W.R.bindR_eq,←PySem.W.R.onRaiseR_eq,Sem.wp_bind,Sem.wp_onRaise,Sem.wp_raise]
    exact h
noncomputable def fhQ (env:PySem.Env):Value→Sem Unit:=fun x=>PySem.W.R.bindR (PySem.W.Fast.tw17872113653443481271 x env) fun _=>PySem.W.Fast.tw1623429502029203251 x
noncomputable def faQ (target:PySem.Expr) (it v:Value) (body orelse:List Stmt) (env:PySem.Env):Sem Fin:=
  PySem.W.R.bindR (PySem.W.Fast.tw17772580674575903948 target env v) fun _=>PySem.W.R.bindR (PySem.W.Fast.tw12563942051412417395 body env) fun fl=>match fl with
    | .next=>PySem.W.Fast.tw12377390311714414960 (.forLoop target it body orelse env)
    | .cont=>PySem.W.Fast.tw12377390311714414960 (.forLoop target it body orelse env)
    | .brk=>Sem.pure (.done .next)
    | .ret v=>Sem.pure (.done (.ret v))
noncomputable def forQ (target:PySem.Expr) (it v:Value) (body orelse:List Stmt) (env:PySem.Env):Sem Fin:=
  PySem.W.R.onRaiseR (PySem.W.R.bindR (PySem.W.Fast.tw1578499551869305889 target it v) fun _=>faQ target it v body orelse env) (fhQ env)
noncomputable def forRestQ (target:PySem.Expr) (it v:Value) (body orelse:List Stmt) (env:PySem.Env):Sem Fin:=
  PySem.W.R.onRaiseR (faQ target it v body orelse env) (fhQ env)
theorem forQ_ok:FoOk forQ forRestQ where
  wp:=by
    intro M Γ tg it v bo oe env R p
    refine ⟨faQ tg it v bo oe env,Sem.finPost M Γ R,fun e p' s'=>Sem.wp M Γ (fhQ env e) (fun _ _ s''=>R (.error e) s'') (fun e' _ s''=>R (.error e') s'') p' s',fun s=>?_,fun s=>?_⟩
    · unfold wpF forQ
      rw [←PySem.W.R.onRaiseR_eq,Sem.wp_onRaise,←PySem.W.Fast.te1578499551869305889,←PySem.W.R.bindR_eq]
    · unfold wpF forRestQ
      rw [←PySem.W.R.onRaiseR_eq,Sem.wp_onRaise]
noncomputable def trNone:Tcpt:=fun _ _ _ _ _ _ _ _ _=>none
theorem trNone_ok {V:Vw} {M:Model} {b:Bs}:TcOk V M b trNone:=by
  intro Γ c t hs sz tk m T p s R κ _ _ _ r H
  obtain ⟨y,e,_⟩:=H fun _=>0
  cases e
noncomputable def tcStd (j:Nat):Tcpt:=match j with
  | 0=>trInit denQ
  | 1=>trExtend denQ
  | 2=>trLeave lvQ
  | 3=>trOwned forQ forRestQ
  | _=>trNone
theorem tcStd_ok {V:Vw} {prog:Program} {w:World} {b:Bs} (j:Nat):TcOk V (model prog w) b (tcStd j):=by
  unfold tcStd
  split
  · exact trInit_ok denQ_is
  · exact trExtend_ok denQ_is
  · exact trLeave_ok lvQ_ok
  · exact trOwned_ok forQ_ok
  · exact trNone_ok
noncomputable def VW0 (w:World) (own:Nat→Icpt) (B:List (Code×Pos)):Vw:=⟨PySem.Challenge.pw_xw0355_01,w,denQ,fun a=>(kT w.params).find a,B,icWith own,rowStd,tcStd⟩
abbrev MW (w:World):Model:=model PySem.Challenge.pw_xw0355_01 w
noncomputable def KT (w:World) (b:Bs):Prop:=∀a o,(kT w.params).find a = some o→b.h.get? a = some o∧a∉b.led
structure RunIs (o:Out) (r:Result) (is:List Nat) (es:List Ent) (ds:List Bool):Prop where
  eq:(o.ok,o.r,is.map o.T.get,o.ds,o.ob.map (·.1)) = (true,r,es.map some,ds,o.ob.map (·.2))
theorem map_eq_all {α:Type} {l:List (α×α)} (h:l.map (·.1) = l.map (·.2)):∀x∈l,x.1 = x.2:=by
  induction l with
  | nil=>intro x hx;cases hx
  | cons y l ih=>
    simp only [List.map_cons,List.cons.injEq] at h
    intro x hx
    rcases List.mem_cons.mp hx with rfl | hx
    · exact h.1
    · exact ih h.2 x hx
theorem RunIs.good {o:Out} {r:Result} {is:List Nat} {es:List Ent} {ds:List Bool} (h:RunIs o r is es ds) (hd:∀d∈ds,d = true):Good (fun o=>o.r = r∧is.map o.T.get = es.map some) o:=by
  have e:=h.eq
  simp only [Prod.mk.injEq] at e
  obtain ⟨e1,e2,e3,e4,e5⟩:=e
  exact ⟨e1,map_eq_all e5,fun x hx=>hd x (e4▸hx),e2,e3⟩
structure Fit (w:World) (own:Nat→Icpt) (b:Bs):Prop where
  kt:∀a o,(kT w.params).find a = some o→b.h.get? a = some o∧a∉b.led
  ic:∀(V:Vw) (j:Nat),V.prog = PySem.Challenge.pw_xw0355_01→V.w = w→V.den = denQ→IcOk V (model PySem.Challenge.pw_xw0355_01 w) b (own j)
theorem run_wp0 {w:World} {own:Nat→Icpt} {b:Bs} (fit:Fit w own b) {B:List (Code×Pos)} {n:Nat} {hs:List Nat} {t:Sem Fin} {c:Code} {p:Pos} {sz tk m:Nat} {T:Tr Ent} {F:Out→Prop} {Γ:Ctx} {s:Shared}
    (h:∀ω,Good F (sim (VW0 w own B) n ω hs t c p [] sz tk m T [] [])) (hc:Γ.code = c) (hb:Γ.below = B) (hh:Γ.handled = none) (r:Rel b sz tk m T s):
    wpF (model PySem.Challenge.pw_xw0355_01 w) Γ t (base b F) p s:=by
  have:=sim_sound (V:=VW0 w own B) (b:=b) (F:=F) denQ_is fit.kt (fun j=>by
    show IcOk _ _ _ (icWith own j)
    unfold icWith
    cases Nat.blt j 32 with
    | true=>exact icStd_ok j
    | false=>exact fit.ic _ _ rfl rfl rfl) (fun j=>tcStd_ok j) n hs t c p [] sz tk m T [] [] s r h Γ hc hb hh
  exact this
end
end Mine
namespace Mine
open PySem PySem.W PyProof.Rows
noncomputable section
noncomputable def retF:Value→Sem Fin:=fun v=> .pure (.done (.ret v))
noncomputable def evQ (e:PySem.Expr) (env:PySem.Env):Sem Fin:=PySem.W.R.bindR (PySem.W.Fast.tw14044960220447912780 e env) retF
theorem evQ_is (e:PySem.Expr) (env:PySem.Env):evQ e env = Sem.bind (eval e env) retF:=by
  unfold evQ
  rw [←PySem.W.Fast.te14044960220447912780,PySem.W.R.bindR_eq]
structure Grown (s s':Shared) (l:List Ent):Prop where
  gens:s'.gens = s.gens
  drawn:s'.drawn = s.drawn
  os:s'.os = s.os
  keep:∀a o,s.heap.get? a = some o→s'.heap.get? a = some o
  own:∀e∈l,s'.heap.get? e.1 = some e.2∧s.heap.objs.size≤e.1
  size:s.heap.objs.size≤s'.heap.objs.size
noncomputable def Olds (w:World) (h:Heap):Prop:=∀a o,(kT w.params).find a = some o→h.get? a = some o
theorem Olds.grow {w:World} {s s':Shared} {l:List Ent} (h:Olds w s.heap) (g:Grown s s' l):Olds w s'.heap:=fun a o e=>g.keep a o (h a o e)
theorem evalS {w:World} {e:PySem.Expr} {env:PySem.Env} {n:Nat} {hs is:List Nat} {v:Nat→Value} {es:Nat→Nat→List Ent} {ds:List Bool} (hds:∀d∈ds,d = true)
    (run:∀B c p ω sz tk,RunIs (sim (VW0 w icNil B) n ω hs (evQ e env) c p [] sz tk 0 .nil [] []) (.ok (.ret (v sz))) is (es sz tk) ds)
    {A:Around} {s:Shared} {Q:Value→Shared→Prop} {E:Value→Shared→Prop} (hA:A.handled = none) (ho:Olds w s.heap) (h:∀s',Grown s s' (es s.heap.objs.size s.toks)→Q (v s.heap.objs.size) s'):
    wpAny (MW w) A (eval e env) Q E s:=by
  intro Γ p hΓ
  have rel:Rel ⟨s.heap,[],s.gens,s.drawn,s.os⟩ s.heap.objs.size s.toks 0 .nil s:=⟨rfl,rfl,rfl,rfl,rfl,fun i a o g=>by simp [Tr.get] at g,fun i j a o o' g=>by simp [Tr.get] at g,fun a o g _=>g,Nat.le_refl _⟩
  have hkt:KT w ⟨s.heap,[],s.gens,s.drawn,s.os⟩:=fun a o e=>⟨ho a o e,by simp⟩
  have w1:=run_wp0 (w:=w) (own:=icNil) (F:=fun o=>o.r = .ok (.ret (v s.heap.objs.size))∧is.map o.T.get = (es s.heap.objs.size s.toks).map some) (Γ:=Γ) (p:=p) (s:=s) (B:=Γ.below) ⟨hkt,fun V j _ _ _=>icNone_ok⟩
    (fun ω=>(run Γ.below Γ.code p ω s.heap.objs.size s.toks).good hds) rfl rfl (hΓ.1.trans hA) rel
  rw [evQ_is] at w1
  unfold wpF at w1
  rw [Sem.wp_bind] at w1
  refine Sem.wp_mono _ _ _ (fun x p' s' hx=>?_) (fun x p' s' hx=>?_) _ _ w1
  · rw [show retF x = Sem.pure (.done (.ret x)) from rfl,Sem.wp_pure] at hx
    obtain ⟨o,⟨q1,q2⟩,q3,rel'⟩:=hx
    rw [q1] at q3
    cases q3
    refine h s' ⟨rel'.gens,rel'.drawn,rel'.os,fun a o g=>rel'.keep a o g (by simp),fun x hx=>?_,rel'.grow⟩
    obtain ⟨k,hk⟩:=List.getElem?_of_mem hx
    have len:=length_of_maps q2
    have hkl:k < is.length:=by rw [len];exact (List.getElem?_eq_some_iff.mp hk).1
    obtain ⟨y,z1,z2⟩:=getElem?_of_maps q2 (List.getElem?_eq_getElem hkl)
    rw [hk] at z1
    cases z1
    have ow:=rel'.own _ x.1 x.2 z2
    refine ⟨ow.2.1,?_⟩
    rcases ow.2.2 with q | q
    · cases q
    · exact q
  · obtain ⟨o,⟨q1,q2⟩,q3,rel'⟩:=hx
    rw [q1] at q3
    cases q3
noncomputable def stepBody (st:Stmt):List Stmt:=match st with
  | .FunctionDef _ _ b _ _ _ _ _ _ _=>b
  | _=>[]
noncomputable def stepScope (st:Stmt):Scope:=match st with
  | .FunctionDef _ _ _ _ _ _ sc _ _ _=>sc
  | _=>default
noncomputable def stepKeys (st:Stmt):List (Option PySem.Expr):=match stepBody st with
  | [.Return (some (.Dict keys _ _)) _]=>keys
  | _=>[]
noncomputable def stepVals (st:Stmt):List PySem.Expr:=match stepBody st with
  | [.Return (some (.Dict _ vals _)) _]=>vals
  | _=>[]
noncomputable def stepPos (st:Stmt):Pos:=match stepBody st with
  | [.Return (some (.Dict _ _ p)) _]=>p
  | _=>default
noncomputable def stepRet (st:Stmt):Pos:=match stepBody st with
  | [.Return (some (.Dict _ _ _)) p]=>p
  | _=>default
noncomputable def stepEnv (k:Nat) (qual:Str) (f c:Nat) (loc:Nat) (fr:Option Nat):PySem.Env:={scope:=stepScope (fS k),locals:=loc,globals:=3,cells:=[],qual:=qual,func:=some f,code:= .ref c,frame:=fr,builtins:=0}
theorem body64:stepBody (fS 64) = [.Return (some (.Dict (stepKeys (fS 64)) (stepVals (fS 64)) (stepPos (fS 64)))) (stepRet (fS 64))]:=by kernel_rfl
theorem body65:stepBody (fS 65) = [.Return (some (.Dict (stepKeys (fS 65)) (stepVals (fS 65)) (stepPos (fS 65)))) (stepRet (fS 65))]:=by kernel_rfl
noncomputable def qOpen:Str:=q230++Str.ofString ".<locals>."
noncomputable def qClose:Str:=q231++Str.ofString ".<locals>."
structure Stp where
  a:Str
  ta:Nat
  b:Str
  tb:Nat
  v:Str
  tv:Nat
noncomputable def tupO (x:Stp):Obj:=⟨.type "tuple",none,.seq ⟨[.str x.a x.ta,.str x.b x.tb]⟩ 0,⟨[]⟩⟩
abbrev pwx:Program:=PySem.Challenge.pw_xw0355_01
abbrev tkd (w:World):HeapKind pwx w (List Str):=tupleKind (strKind pwx w)
noncomputable def kOf (x:Stp):List Str:=[x.a,x.b]
noncomputable def rowOf (x:Stp×Addr):List Str×Addr×Value:=(kOf x.1,x.2,.str x.1.v x.1.tv)
theorem tup_is {w:World} {h:Heap} {x:Stp} {a:Addr} (g:h.get? a = some (tupO x)):(tkd w).is h (kOf x) a:=
  ⟨_,_,_,g,rfl,rfl,.cons (by show Value.isStrOf x.a (.str x.a x.ta) = true;simp [Value.isStrOf]) (.cons (by show Value.isStrOf x.b (.str x.b x.tb) = true;simp [Value.isStrOf]) .nil)⟩
structure Inv (w:World) (s0:Shared) (d:Addr) (L M:List (Stp×Addr)) (s:Shared):Prop where
  gens:s.gens = s0.gens
  drawn:s.drawn = s0.drawn
  os:s.os = s0.os
  keep:∀a o,s0.heap.get? a = some o→s.heap.get? a = some o
  dict:s.heap.DictOfH (tkd w) d (L.map rowOf)
  tup:∀x∈L++M,s.heap.get? x.2 = some (tupO x.1)
  fresh:∀x∈L++M,s0.heap.objs.size≤x.2
  inc:(L++M).Pairwise (fun x y=>x.2 < y.2)
  below:∀x∈L++M,x.2 < s.heap.objs.size
  dlow:s0.heap.objs.size≤d
  dne:∀x∈L++M,d < x.2
  grow:s0.heap.objs.size≤s.heap.objs.size
  olds:Olds w s0.heap
section
variable {w:World} {A:Around} {E:Value→Shared→Prop} {s0 s s':Shared} {d:Addr} {L M:List (Stp×Addr)}
theorem Inv.dlt (I:Inv w s0 d L M s):d < s.heap.objs.size:=by
  obtain ⟨o,es,ep,ho,_⟩:=I.dict
  exact Heap.lt_size ho
theorem dictOfH_grow {h h':Heap} {xs:List (List Str×Addr×Value)} (hD:h.DictOfH (tkd w) d xs) (k:∀a o,h.get? a = some o→h'.get? a = some o):h'.DictOfH (tkd w) d xs:=by
  obtain ⟨o,es,ep,ho,hc,hd,he,hi,hn⟩:=hD
  refine ⟨o,es,ep,k _ _ ho,hc,hd,he,fun x hx=>?_,hn⟩
  obtain ⟨o',items,n,g,r⟩:=hi x hx
  exact ⟨o',items,n,k _ _ g,r⟩
theorem Inv.grown {l:List Ent} (I:Inv w s0 d L M s) (g:Grown s s' l):Inv w s0 d L M s':=
  ⟨g.gens.trans I.gens,g.drawn.trans I.drawn,g.os.trans I.os,fun a o h=>g.keep a o (I.keep a o h),dictOfH_grow I.dict g.keep,fun x hx=>g.keep _ _ (I.tup x hx),I.fresh,I.inc,fun x hx=>Nat.lt_of_lt_of_le (I.below x hx) g.size,I.dlow,I.dne,Nat.le_trans I.grow g.size,I.olds⟩
theorem Inv.made {x:Stp} (I:Inv w s0 d L M s) (g:Grown s s' [(s.heap.objs.size,tupO x)]):Inv w s0 d L (M++[(x,s.heap.objs.size)]) s':=by
  have I':=I.grown g
  have hn:=g.own _ (.head _)
  have lt:s.heap.objs.size < s'.heap.objs.size:=Heap.lt_size hn.1
  have mem:∀y,y∈L++(M++[(x,s.heap.objs.size)])→y∈L++M∨y = (x,s.heap.objs.size):=by
    intro y hy
    rw [←List.append_assoc] at hy
    rcases List.mem_append.mp hy with h | h
    · exact .inl h
    · exact .inr (List.mem_singleton.mp h)
  refine ⟨I'.gens,I'.drawn,I'.os,I'.keep,I'.dict,fun y hy=>?_,fun y hy=>?_,?_,fun y hy=>?_,I'.dlow,fun y hy=>?_,I'.grow,I.olds⟩
  · rcases mem y hy with h | rfl
    · exact I'.tup y h
    · exact hn.1
  · rcases mem y hy with h | rfl
    · exact I'.fresh y h
    · exact I.grow
  · rw [←List.append_assoc,List.pairwise_append]
    refine ⟨I.inc,List.pairwise_singleton _ _,fun y hy z hz=>?_⟩
    rw [List.mem_singleton] at hz
    subst hz
    exact I.below y hy
  · rcases mem y hy with h | rfl
    · exact I'.below y h
    · exact lt
  · rcases mem y hy with h | rfl
    · exact I'.dne y h
    · exact I.dlt
theorem Inv.stored {x:Stp×Addr} {h':Heap} {tk:Nat} (I:Inv w s0 d L (x::M) s) (hd:h'.DictOfH (tkd w) d ((L++[x]).map rowOf)) (hs:Heap.SameBut d s.heap h'):Inv w s0 d (L++[x]) M {s with heap:=h',toks:=tk}:=by
  have e:L++[x]++M = L++x::M:=by rw [List.append_assoc];rfl
  refine ⟨I.gens,I.drawn,I.os,fun a o g=>?_,hd,fun y hy=>?_,fun y hy=>?_,?_,fun y hy=>?_,I.dlow,fun y hy=>?_,?_,I.olds⟩
  · have ne:a≠d:=by
      exact Nat.ne_of_lt (Nat.lt_of_lt_of_le (Heap.lt_size g) I.dlow)
    exact (hs.2 a ne).trans (I.keep a o g)
  · rw [e] at hy
    have:=I.dne y hy
    exact (hs.2 y.2 (Nat.ne_of_gt this)).trans (I.tup y hy)
  · rw [e] at hy;exact I.fresh y hy
  · rw [e];exact I.inc
  · rw [e] at hy
    show y.2 < h'.objs.size
    rw [hs.1];exact I.below y hy
  · rw [e] at hy;exact I.dne y hy
  · show _≤h'.objs.size
    rw [hs.1];exact I.grow
theorem stored_new {x:Stp×Addr} (hk:kOf x.1∉L.map fun y=>kOf y.1):storedH (L.map rowOf) (kOf x.1) x.2 (.str x.1.v x.1.tv) = (L++[x]).map rowOf:=by
  have:atKey (L.map rowOf) (kOf x.1) = none:=by
    refine atKey_none_of_get fun j p h=>hk ?_
    have hm:=List.mem_of_getElem? h
    obtain ⟨y,hy,e⟩:=List.mem_map.mp hm
    exact List.mem_map.mpr ⟨y,hy,congrArg Prod.fst e⟩
  rw [storedH_new this,List.map_append]
  rfl
theorem dictSet_inv {x:Stp×Addr} {Q:Unit→Shared→Prop} (hu:A.units < cLine) (I:Inv w s0 d L (x::M) s) (hk:kOf x.1∉L.map fun y=>kOf y.1) (hl:L.length≤100)
    (h:∀s',Inv w s0 d (L++[x]) M s'→Q () s'):wpAny (MW w) A (dictSet d (.ref x.2) (.str x.1.v x.1.tv)) Q E s:=by
  refine wpAny_dictSet_heap (knd:=tkd w) (xs:=L.map rowOf) (k:=kOf x.1) hu (tup_is (I.tup x (List.mem_append_right _ (.head _)))) I.dict (fun h' hd hs=>?_) (by rw [List.length_map];exact Nat.le_trans hl (by decide))
  rw [stored_new hk] at hd
  exact h _ (I.stored hd hs)
noncomputable def z0 (y:Stp×Addr):Stp:={y.1 with tb:=0}
noncomputable def PairOk (w:World) (k v:Sem Value) (x:Stp):Prop:=
  x.tb = 0∧(∀(A:Around) (E:Value→Shared→Prop) (s:Shared) (Q:Value→Shared→Prop),A.handled = none→Olds w s.heap→(∀s' tb,Grown s s' [(s.heap.objs.size,tupO {x with tb:=tb})]→Q (.ref s.heap.objs.size) s')→wpAny (MW w) A k Q E s)∧
  (∀(A:Around) (E:Value→Shared→Prop) (s:Shared) (Q:Value→Shared→Prop),A.handled = none→Olds w s.heap→(∀s',Grown s s' []→Q (.str x.v x.tv) s')→wpAny (MW w) A v Q E s)
noncomputable def PairsOk (w:World):List (Sem Value×Sem Value)→List Stp→Prop
  | [],[]=>True
  | p::ps,x::xs=>PairOk w p.1 p.2 x∧PairsOk w ps xs
  | _,_=>False
noncomputable def valP (y:Stp×Addr):Value×Value:=(.ref y.2,.str y.1.v y.1.tv)
theorem PairsOk.length:∀{ps:List (Sem Value×Sem Value)} {xs:List Stp},PairsOk w ps xs→ps.length = xs.length
  | [],[],_=>rfl
  | p::ps,x::xs,h=>by rw [List.length_cons,List.length_cons,PairsOk.length h.2]
  | [],_::_,h=>h.elim
  | _::_,[],h=>h.elim
theorem evalPairs_inv (hA:A.handled = none):∀(ps:List (Sem Value×Sem Value)) (xs:List Stp) (M:List (Stp×Addr)) (s:Shared) (Q:List (Value×Value)→Shared→Prop),PairsOk w ps xs→Inv w s0 d L M s→
    (∀s' N,N.map z0 = xs→Inv w s0 d L (M++N) s'→Q (N.map valP) s')→wpAny (MW w) A (evalPairs ps) Q E s
  | [],[],M,s,Q,_,I,h=>wpAny_pure (h s [] rfl (by rw [List.append_nil];exact I))
  | p ::ps,x::xs,M,s,Q,hp,I,h=>by
    show wpAny (MW w) A (p.1 >>= _) Q E s
    refine wpAny_bind (hp.1.2.1 A E s _ hA (fun a o g=>I.keep a o (I.olds a o g)) fun s1 tb g1=>?_)
    have I1:=I.made g1
    refine wpAny_bind (wpAny_holding (hp.1.2.2 A E s1 _ hA (fun a o g=>I1.keep a o (I1.olds a o g)) fun s2 g2=>?_))
    have I2:=I1.grown g2
    refine wpAny_bind (wpAny_holding (evalPairs_inv hA ps xs _ s2 _ hp.2 I2 fun s3 N hN I3=>?_))
    refine wpAny_pure ?_
    have zx:z0 ({x with tb:=tb},s.heap.objs.size) = x:=by
      have:=hp.1.1
      obtain ⟨a,ta,b,tb',v,tv⟩:=x
      have e:tb' = 0:=this
      subst e
      rfl
    have:=h s3 (({x with tb:=tb},s.heap.objs.size)::N) (by rw [List.map_cons,hN,zx]) (by rw [List.append_assoc] at I3;exact I3)
    exact this
  | [],_::_,_,_,_,h,_,_=>h.elim
  | _::_,[],_,_,_,h,_,_=>h.elim
theorem storeAll_inv (hu:A.units < cLine):∀(M L:List (Stp×Addr)) (s:Shared) (Q:PUnit→Shared→Prop),Inv w s0 d L M s→((L++M).map fun y=>kOf y.1).Nodup→(L++M).length≤100→
    (∀s',Inv w s0 d (L++M) [] s'→Q PUnit.unit s')→wpAny (MW w) A (storeAll d (M.map valP)) Q E s
  | [],L,s,Q,I,_,_,h=>by
    unfold storeAll
    rw [List.map_nil,List.forIn_nil]
    exact wpAny_pure (h s (by rw [List.append_nil];exact I))
  | x ::M,L,s,Q,I,hn,hl,h=>by
    unfold storeAll
    rw [List.map_cons,List.forIn_cons]
    have e:L++[x]++M = L++x::M:=by rw [List.append_assoc];rfl
    have hk:kOf x.1∉L.map fun y=>kOf y.1:=by
      rw [List.map_append,List.nodup_append] at hn
      intro hx
      exact hn.2.2 _ hx _ (List.mem_map.mpr ⟨x,.head _,rfl⟩) rfl
    have hl2:L.length≤100:=by rw [List.length_append] at hl;omega
    refine wpAny_bind (wpAny_bind (dictSet_inv hu I hk hl2 fun s1 I1=>wpAny_pure ?_))
    exact storeAll_inv hu M (L++[x]) s1 Q I1 (by rw [e];exact hn) (by rw [e];exact hl) (by rw [e];exact h)
noncomputable def longAll (d:Addr) (ps:List (Sem Value×Sem Value)):Sem PUnit:=
  forIn ps PUnit.unit fun (x:Sem Value×Sem Value) (_:PUnit)=>(do
    let kv ←x.1
    let vv ←holding [kv] x.2
    holding [kv,vv] (dictSet d kv vv)
    pure (ForInStep.yield PUnit.unit):Sem (ForInStep PUnit))
theorem longAll_inv (hA:A.handled = none) (hu:A.units < cLine):∀(ps:List (Sem Value×Sem Value)) (xs:List Stp) (L:List (Stp×Addr)) (s:Shared) (Q:PUnit→Shared→Prop),PairsOk w ps xs→Inv w s0 d L [] s→((L.map fun y=>kOf y.1)++xs.map kOf).Nodup→L.length+xs.length≤100→
    (∀s' N,N.map z0 = xs→Inv w s0 d (L++N) [] s'→Q PUnit.unit s')→wpAny (MW w) A (longAll d ps) Q E s
  | [],[],L,s,Q,_,I,_,_,h=>by
    unfold longAll
    rw [List.forIn_nil]
    exact wpAny_pure (h s [] rfl (by rw [List.append_nil];exact I))
  | p ::ps,x::xs,L,s,Q,hp,I,hn,hl,h=>by
    unfold longAll
    rw [List.forIn_cons]
    have hk:kOf x∉L.map fun y=>kOf y.1:=by
      rw [List.nodup_append] at hn
      intro hx
      exact hn.2.2 _ hx _ (.head _) rfl
    rw [List.length_cons] at hl
    refine wpAny_bind ?_
    refine wpAny_bind (hp.1.2.1 A E s _ hA (fun a o g=>I.keep a o (I.olds a o g)) fun s1 tb g1=>?_)
    have I1:Inv w s0 d L [({x with tb:=tb},s.heap.objs.size)] s1:=I.made g1
    refine wpAny_bind (wpAny_holding (hp.1.2.2 A E s1 _ hA (fun a o g=>I1.keep a o (I1.olds a o g)) fun s2 g2=>?_))
    have I2:=I1.grown g2
    refine wpAny_bind (wpAny_holding (dictSet_inv (x:=({x with tb:=tb},s.heap.objs.size)) hu I2 hk (by omega) fun s3 I3=>wpAny_pure ?_))
    refine longAll_inv hA hu ps xs (L++[({x with tb:=tb},s.heap.objs.size)]) s3 Q hp.2 I3 ?_ (by rw [List.length_append,List.length_singleton];omega) fun s4 N hN I4=>?_
    · rw [List.map_append,List.append_assoc]
      exact hn
    · have zx:z0 ({x with tb:=tb},s.heap.objs.size) = x:=by
        have:=hp.1.1
        obtain ⟨a,ta,b,tb',v,tv⟩:=x
        have e:tb' = 0:=this
        subst e
        rfl
      refine h s4 (({x with tb:=tb},s.heap.objs.size)::N) (by rw [List.map_cons,hN,zx]) ?_
      rw [List.append_assoc] at I4
      exact I4
  | [],_::_,_,_,_,h,_,_,_,_=>h.elim
  | _::_,[],_,_,_,h,_,_,_,_=>h.elim
theorem Inv.start (ho:Olds w s.heap):Inv w s s.heap.objs.size [] [] {s with heap:=s.heap.push {cls:= .type "dict",data:= .dict #[]}}:=by
  refine ⟨rfl,rfl,rfl,fun a o g=>Heap.get?_push_of_some _ g,⟨_,#[],0,Heap.get?_push_size _ rfl,⟨rfl,rfl,rfl⟩,rfl,rfl,fun x hx=>(by cases hx),List.nodup_nil⟩,fun x hx=>(by cases hx),fun x hx=>(by cases hx),List.Pairwise.nil,fun x hx=>(by cases hx),Nat.le_refl _,fun x hx=>(by cases hx),?_,ho⟩
  show s.heap.objs.size≤(s.heap.push _).objs.size
  rw [Heap.size_push]
  exact Nat.le_succ _
theorem subDict_inv {ps:List (Sem Value×Sem Value)} {xs:List Stp} {Q:Addr→Shared→Prop} (hA:A.handled = none) (hu:A.units < cLine) (hp:PairsOk w ps xs) (hn:(xs.map kOf).Nodup) (hl:xs.length≤100) (ho:Olds w s.heap)
    (h:∀s' N,N.map z0 = xs→Inv w s s.heap.objs.size N [] s'→Q s.heap.objs.size s'):wpAny (MW w) A (subDict ps) Q E s:=by
  unfold subDict
  refine wpAny_bind (wpAny_alloc ?_)
  refine wpAny_bind (wpAny_holding ?_)
  have I:=Inv.start ho
  by_cases hlen:ps.length≤15
  · rw [if_pos hlen]
    refine wpAny_bind (evalPairs_inv hA ps xs [] _ _ hp I fun s1 N hN I1=>?_)
    refine wpAny_holding ?_
    have hl':([]++N:List (Stp×Addr)).length≤100:=by
      have:=congrArg List.length hN
      rw [List.length_map] at this
      rw [List.nil_append,this]
      exact hl
    have hn':(([]++N).map fun y:Stp×Addr=>kOf y.1).Nodup:=by
      have e:(N.map fun y=>kOf y.1) = (N.map z0).map kOf:=by rw [List.map_map];rfl
      rw [List.nil_append,e,hN]
      exact hn
    refine wpAny_bind (storeAll_inv hu N [] s1 _ I1 hn' hl' fun s2 I2=>?_)
    exact wpAny_pure (wpAny_pure (h s2 N hN I2))
  · rw [if_neg hlen]
    refine wpAny_bind (wpAny_rule ?_)
    refine wpAny_bind (longAll_inv hA hu ps xs [] _ _ hp I (by simpa using hn) (by simpa using hl) fun s2 N hN I2=>?_)
    exact wpAny_pure (wpAny_pure (h s2 N hN I2))
theorem dictPut_inv {x:Stp×Addr} {Q:Unit→Shared→Prop} (hu:A.units < cLine) (I:Inv w s0 d L (x::M) s) (hk:kOf x.1∉L.map fun y=>kOf y.1) (hl:L.length≤100)
    (h:∀s',Inv w s0 d (L++[x]) M s'→(∀a,a≠d→s'.heap.get? a = s.heap.get? a)→Q () s'):wpAny (MW w) A (dictPut d ((tkd w).hash (kOf x.1)) (.ref x.2) (.str x.1.v x.1.tv)) Q E s:=by
  obtain ⟨o,es,ep,ho,hc,hd,he,his,hn⟩:=I.dict
  unfold dictPut
  have hno:∀(j:Nat) (p:Addr×Value),(L.map rowOf)[j]?≠some (kOf x.1,p):=by
    intro j p hj
    refine hk ?_
    have hm:=List.mem_of_getElem? hj
    obtain ⟨y,hy,e⟩:=List.mem_map.mp hm
    exact List.mem_map.mpr ⟨y,hy,congrArg Prod.fst e⟩
  refine wpAny_bind (wpAny_dictFind_heap (knd:=tkd w) hu (tup_is (I.tup x (List.mem_append_right _ (.head _)))) ho hd he his hn (fun _=>?_) (fun j p hj=>absurd hj (hno j p)))
  have hsz:es.size≤sizeLine:=by
    have:=size_of_entries he
    rw [List.length_map] at this
    rw [this]
    exact Nat.le_trans hl (by decide)
  refine wpAny_updateDictKeys (hz:=hsz) ho hd ?_
  refine h _ (I.stored (tk:=s.toks) ⟨_,_,ep+1,Heap.get?_update_self _ ho (Obj.isFreed_of_dict (Obj.data_mapDictKeys hd _)),hc.mapDictKeys _,Obj.data_mapDictKeys hd _,?_,?_,?_⟩ (Heap.SameBut.update ..)) fun a ha=>(Heap.SameBut.update ..).2 a ha
  · rw [List.map_append]
    simp [he,entryOfKey,rowOf]
  · intro y hy
    rw [List.map_append] at hy
    rcases List.mem_append.mp hy with hy | hy
    · exact (tkd w).keeps (his y hy) ho hd (Heap.SameBut.update ..)
    · simp only [List.map_cons,List.map_nil,List.mem_singleton] at hy
      subst hy
      exact (tkd w).keeps (tup_is (I.tup x (List.mem_append_right _ (.head _)))) ho hd (Heap.SameBut.update ..)
  · rw [List.map_append,List.map_append,List.nodup_append]
    refine ⟨hn,by simp,?_⟩
    intro u hu' v hv e
    simp only [List.map_cons,List.map_nil,List.mem_singleton] at hv
    rw [hv] at e
    rw [List.map_map] at hu'
    obtain ⟨y,hy,e2⟩:=List.mem_map.mp hu'
    exact hk (List.mem_map.mpr ⟨y,hy,by show kOf y.1 = kOf x.1;rw [e] at e2;exact e2⟩)
theorem Inv.both {s1 s2:Shared} {d2:Addr} {N:List (Stp×Addr)} (I1:Inv w s0 d L [] s1) (I2:Inv w s1 d2 N [] s2):Inv w s0 d L N s2:=by
  have e1:L++[] = L:=List.append_nil _
  have e2:N++[] = N:=List.append_nil _
  refine ⟨I2.gens.trans I1.gens,I2.drawn.trans I1.drawn,I2.os.trans I1.os,fun a o g=>I2.keep a o (I1.keep a o g),dictOfH_grow I1.dict I2.keep,fun x hx=>?_,fun x hx=>?_,?_,fun x hx=>?_,I1.dlow,fun x hx=>?_,Nat.le_trans I1.grow I2.grow,I1.olds⟩
  · rcases List.mem_append.mp hx with h | h
    · exact I2.keep _ _ (I1.tup x (by rw [e1];exact h))
    · exact I2.tup x (by rw [e2];exact h)
  · rcases List.mem_append.mp hx with h | h
    · exact I1.fresh x (by rw [e1];exact h)
    · exact Nat.le_trans I1.grow (I2.fresh x (by rw [e2];exact h))
  · rw [List.pairwise_append]
    have i1:=I1.inc
    have i2:=I2.inc
    rw [e1] at i1
    rw [e2] at i2
    exact ⟨i1,i2,fun x hx y hy=>Nat.lt_of_lt_of_le (I1.below x (by rw [e1];exact hx)) (I2.fresh y (by rw [e2];exact hy))⟩
  · rcases List.mem_append.mp hx with h | h
    · exact Nat.lt_of_lt_of_le (I1.below x (by rw [e1];exact h)) I2.grow
    · exact I2.below x (by rw [e2];exact h)
  · rcases List.mem_append.mp hx with h | h
    · exact I1.dne x (by rw [e1];exact h)
    · exact Nat.lt_of_lt_of_le I1.dlt (I2.fresh x (by rw [e2];exact h))
theorem merge1_inv {d2:Addr} {x:Stp×Addr} {Q:Unit→Shared→Prop} (hu:A.units < cLine) (I:Inv w s0 d L [x] s) (hD:s.heap.DictOfH (tkd w) d2 ([x].map rowOf)) (hne:d2≠d) (hm:d2≠sysModules) (hL:L≠[])
    (hx:kOf x.1∉L.map fun z=>kOf z.1) (hl:L.length≤90) (h:∀s',Inv w s0 d (L++[x]) [] s'→Q () s'):
    wpAny (MW w) A (mergeMapping d (.ref d2) false) Q E s:=by
  obtain ⟨o2,es2,ep2,ho2,hc2,hd2,he2,his2,hn2⟩:=hD
  obtain ⟨o,es,ep,ho,hc,hd,he,his,hn⟩:=I.dict
  have hT:s.TypeIs (.ref d2) "dict":=⟨o2,ho2,hc2.1⟩
  have hes2:es2 = #[entryOfKey (tkd w) (rowOf x)]:=by
    obtain ⟨l⟩:=es2
    have:l = _:=he2
    rw [this]
    rfl
  have hemp:es.isEmpty = false:=by
    have h1:=size_of_entries he
    rw [List.length_map] at h1
    have h2:L.length≠0:=fun q=>hL (List.length_eq_zero_iff.mp q)
    rw [Array.isEmpty]
    simp only [decide_eq_false_iff_not]
    omega
  unfold mergeMapping
  refine wpAny_bind (wpAny_isInstance hT isSubtype_dict_dict ?_)
  rw [if_pos rfl]
  refine wpAny_bind (wpAny_specialOf hT F.slot_dict_iter.lookup ?_)
  refine wpAny_bind (wpAny_pure ?_)
  rw [show ((some (Value.builtin "dict.__iter__"):Option Value) == some (Value.builtin "dict.__iter__")) = true from beq_self_eq_true _]
  dsimp only
  rw [if_neg (by simpa using hm)]
  refine wpAny_bind (wpAny_dictEntries ho hd ?_)
  rw [hemp]
  rw [if_neg Bool.false_ne_true]
  refine wpAny_bind (wpAny_dictEntries ho2 hd2 ?_)
  refine wpAny_bind (wpAny_dictEpoch ho2 hd2 ?_)
  rw [show List.range es2.size = [0] by rw [hes2];rfl]
  rw [List.forIn_cons]
  have g0:es2[0]? = some (entryOfKey (tkd w) (rowOf x)):=by rw [hes2];rfl
  refine wpAny_bind (wpAny_bind ?_)
  refine wpAny_bind (wpAny_dictEntries ho2 hd2 ?_)
  rw [g0]
  dsimp only
  rw [if_neg Bool.false_ne_true]
  refine wpAny_bind (wpAny_holding (dictPut_inv hu I hx (by omega) fun s1 I1 k1=>?_))
  have ho2':s1.heap.get? d2 = some o2:=(k1 d2 hne).trans ho2
  refine wpAny_bind (wpAny_dictEpoch ho2' hd2 ?_)
  rw [if_neg (by simp)]
  refine wpAny_pure ?_
  dsimp only
  rw [List.forIn_nil]
  exact wpAny_pure (wpAny_pure (h s1 I1))
theorem display_short {ps:List (Sem Value×Sem Value)} {xs:List Stp} {Q:Value→Shared→Prop} (hA:A.handled = none) (hu:A.units < cLine) (hp:PairsOk w ps xs) (h0:ps≠[]) (hlen:ps.length < 17) (hn:(xs.map kOf).Nodup) (ho:Olds w s.heap)
    (h:∀s' N,N.map z0 = xs→Inv w s s.heap.objs.size N [] s'→Q (.ref s.heap.objs.size) s'):wpAny (MW w) A (dictDisplay (ps.map fun p=>(some p.1,p.2))) Q E s:=by
  rw [dictDisplay_pairs ps h0 hlen]
  refine wpAny_bind (subDict_inv hA hu hp hn (by have:=hp.length;omega) ho fun s1 N hN I=>wpAny_pure (h s1 N hN I))
theorem gatherR (f:(Option (Sem Value)×Sem Value)→(Option Addr×List (Sem Value×Sem Value))→Sem (ForInStep (Option Addr×List (Sem Value×Sem Value))))
    (hf:∀(p:Sem Value×Sem Value) (m:Option Addr) (run:List (Sem Value×Sem Value)),run.length+1 < 17→f (some p.1,p.2) (m,run) = pure (.yield (m,run++[p]))) (m:Option Addr) (rest:List (Option (Sem Value)×Sem Value)):
    ∀(items run:List (Sem Value×Sem Value)),run.length+items.length < 17→forIn (items.map (fun p=>(some p.1,p.2))++rest) (m,run) f = forIn rest (m,run++items) f
  | [],run,_=>by simp
  | p::l,run,h=>by
    rw [List.map_cons,List.cons_append,List.forIn_cons,hf p m run (by simp at h;omega),pure_bind]
    have:=gatherR f hf m rest l (run++[p]) (by simp at h ⊢;omega)
    simpa using this
theorem display_long {ps:List (Sem Value×Sem Value)} {p q:Sem Value×Sem Value} {xs:List Stp} {x:Stp} {Q:Value→Shared→Prop} (hA:A.handled = none) (hu:A.units < cLine) (hp:PairsOk w (ps++[p]) xs) (hq:PairsOk w [q] [x]) (h16:ps.length = 16)
    (hn:(xs.map kOf++[kOf x]).Nodup) (ho:Olds w s.heap) (hbig:2≤s.heap.objs.size)
    (h:∀s' N,N.map z0 = xs++[x]→Inv w s s.heap.objs.size N [] s'→Q (.ref s.heap.objs.size) s'):wpAny (MW w) A (dictDisplay ((ps++[p,q]).map fun p=>(some p.1,p.2))) Q E s:=by
  have hxl:xs.length = 17:=by rw [←hp.length,List.length_append,h16];rfl
  unfold dictDisplay
  dsimp only
  rw [List.map_append,gatherR _ (fun p m run h=>by
    have hne:((run++[(p.1,p.2)]).length == 17) = false:=by simp;omega
    simp only [hne,Bool.false_eq_true,if_false]) none _ ps [] (by simp [h16])]
  have n17:(([]++ps++[(p.1,p.2)]).length == 17) = true:=by simp [h16]
  have e17:([]++ps++[(p.1,p.2)]).isEmpty = false:=by simp
  have ep:([]++ps++[(p.1,p.2)]:List (Sem Value×Sem Value)) = ps++[p]:=by simp
  refine wpAny_bind ?_
  rw [List.map_cons,List.forIn_cons]
  refine wpAny_bind ?_
  dsimp only
  rw [if_pos n17]
  refine wpAny_bind ?_
  rw [if_neg (by rw [e17];exact Bool.false_ne_true)]
  rw [ep]
  have hnx:(xs.map kOf).Nodup:=(List.nodup_append.mp hn).1
  have hny:([x].map kOf).Nodup:=(List.nodup_append.mp hn).2.1
  refine wpAny_bind (subDict_inv hA hu hp hnx (by omega) ho fun s1 N1 hN1 I1=>?_)
  refine wpAny_pure (wpAny_pure ?_)
  rw [List.map_cons,List.map_nil]
  dsimp only
  rw [List.forIn_cons]
  refine wpAny_bind ?_
  dsimp only
  rw [if_neg (by simp)]
  refine wpAny_pure ?_
  dsimp only
  rw [List.forIn_nil]
  refine wpAny_pure ?_
  refine wpAny_bind ?_
  dsimp only
  rw [if_neg (by simp)]
  have o1:Olds w s1.heap:=fun a o g=>I1.keep a o (ho a o g)
  have er:([]++[(q.1,q.2)]:List (Sem Value×Sem Value)) = [q]:=rfl
  rw [er]
  refine wpAny_bind (wpAny_holding (subDict_inv hA hu hq hny (by simp) o1 fun s2 N2 hN2 I2=>?_))
  have Ib:=I1.both I2
  have l2:N2.length = 1:=by have:=congrArg List.length hN2;simpa using this
  obtain ⟨y1,rfl⟩:∃a,N2 = [a]:=by
    match N2,l2 with
    | [a],_=>exact ⟨a,rfl⟩
  have l1:N1.length = 17:=by have:=congrArg List.length hN1;simpa [hxl] using this
  have e1:z0 y1 = x:=by injection hN2
  have k1:kOf y1.1 = kOf x:=by rw [←e1];rfl
  have km:(N1.map fun z=>kOf z.1) = xs.map kOf:=by rw [←hN1,List.map_map];rfl
  have hd:=List.nodup_append.mp hn
  have ne:s1.heap.objs.size≠s.heap.objs.size:=Nat.ne_of_gt I1.dlt
  have nm:s1.heap.objs.size≠sysModules:=by
    have:=I1.grow
    intro e
    rw [e] at this
    have h2:(2:Nat)≤1:=Nat.le_trans hbig this
    omega
  refine wpAny_bind (wpAny_onRaise (wpAny_holding (merge1_inv (L:=N1) (x:=y1) hu Ib I2.dict ne nm (fun q=>by rw [q] at l1;cases l1) ?_ (by omega) fun s3 I3=>?_)))
  · rw [km,k1]
    intro hx
    exact hd.2.2 _ hx _ (.head _) rfl
  · refine wpAny_pure (wpAny_pure (h s3 (N1++[y1]) ?_ I3))
    rw [List.map_append,hN1,List.map_cons,List.map_nil,e1]
end
theorem rel_news {b:Bs} {sz tk m:Nat} {T T2:Tr Ent} {s s':Shared} {l:List Ent} (R:Rel b sz tk m T s) (hg:s'.gens = s.gens) (hd:s'.drawn = s.drawn) (hos:s'.os = s.os)
    (keep:∀a o,s.heap.get? a = some o→s'.heap.get? a = some o) (grow:s.heap.objs.size≤s'.heap.objs.size) (hl:∀e∈l,s'.heap.get? e.1 = some e.2∧s.heap.objs.size≤e.1) (nd:(l.map (·.1)).Nodup) (h:insL m l T = some T2):
    Rel b s'.heap.objs.size s'.toks (m+l.length) T2 s':=by
  have kinds:∀i a o,T2.get i = some (a,o)→(m≤i∧i < m+l.length∧l[i - m]? = some (a,o))∨T.get i = some (a,o):=by
    intro i a o g
    rw [insL_get h i] at g
    by_cases q:m≤i∧i < m+l.length
    · rw [if_pos q] at g
      exact .inl ⟨q.1,q.2,g⟩
    · rw [if_neg q] at g
      exact .inr g
  have old:∀i a o,T.get i = some (a,o)→a < s.heap.objs.size:=fun i a o g=>Heap.lt_size (R.own i a o g).2.1
  refine ⟨rfl,rfl,hg.trans R.gens,hd.trans R.drawn,hos.trans R.os,fun i a o g=>?_,fun i j a o o' g g'=>?_,fun a o g hb=>keep a o (R.keep a o g hb),Nat.le_trans R.grow grow⟩
  · rcases kinds i a o g with ⟨q1,q2,q3⟩ | q
    · have:=hl _ (List.mem_of_getElem? q3)
      exact ⟨q2,this.1,.inr (Nat.le_trans R.grow this.2)⟩
    · have:=R.own i a o q
      exact ⟨by omega,keep a o this.2.1,this.2.2⟩
  · rcases kinds i a o g with ⟨q1,q2,q3⟩ | q <;> rcases kinds j a o' g' with ⟨p1,p2,p3⟩ | p'
    · have e1:(l.map (·.1))[i - m]? = some a:=by rw [List.getElem?_map,q3];rfl
      have e2:(l.map (·.1))[j - m]? = some a:=by rw [List.getElem?_map,p3];rfl
      obtain ⟨l1,e1⟩:=List.getElem?_eq_some_iff.mp e1
      obtain ⟨l2,e2⟩:=List.getElem?_eq_some_iff.mp e2
      have:=nodup_at nd (e1.trans e2.symm)
      omega
    · have h1:=(hl _ (List.mem_of_getElem? q3)).2
      have h2:=old j a o' p'
      exact absurd h2 (Nat.not_lt.mpr h1)
    · have h1:=(hl _ (List.mem_of_getElem? p3)).2
      have h2:=old i a o q
      exact absurd h2 (Nat.not_lt.mpr h1)
    · exact R.inj i j a o o' q p'
structure FnOk (w:World) (k:Nat) (qual:Str) (f cd:Nat) (xs:List Stp):Prop where
  body:stepBody (fS k) = [.Return (some (.Dict (stepKeys (fS k)) (stepVals (fS k)) (stepPos (fS k)))) (stepRet (fS k))]
  wp:∀(loc:Nat) (fr:Option Nat) (A:Around) (E:Value→Shared→Prop) (s:Shared) (Q:Value→Shared→Prop),A.handled = none→A.units < cLine→Olds w s.heap→2≤s.heap.objs.size→
    (∀s' N,N.map z0 = xs→Inv w s s.heap.objs.size N [] s'→Q (.ref s.heap.objs.size) s')→wpAny (MW w) A (eval (.Dict (stepKeys (fS k)) (stepVals (fS k)) (stepPos (fS k))) (stepEnv k qual f cd loc fr)) Q E s
noncomputable def stp0:Stp:=⟨⟨#[]⟩,0,⟨#[]⟩,0,⟨#[]⟩,0⟩
noncomputable def hK (w:World) (x:Stp):Int:=(tkd w).hash (kOf x)
noncomputable def entsK (w:World):List Stp→(Nat→Nat)→Nat→List DictEntry
  | [],_,_=>[]
  | x::xs,a,i=>⟨hK w x,.ref (a i),.str x.v x.tv⟩::entsK w xs a (i+1)
noncomputable def tupsK:List Stp→(Nat→Nat)→(Nat→Nat)→Nat→List Ent
  | [],_,_,_=>[]
  | x::xs,a,τ,i=>(a i,tupO {x with tb:=τ i})::tupsK xs a τ (i+1)
noncomputable def newsK (w:World) (xs:List Stp) (ω:Nat→Nat):List Ent:=(ω 2+10,⟨.type "dict",none,.dict ⟨entsK w xs (fun i=>ω (2*i+4)+10) 0⟩ (ω 3),⟨[]⟩⟩)::tupsK xs (fun i=>ω (2*i+4)+10) (fun i=>ω (2*i+5)) 0
noncomputable def unitsL (st:List (Code×Pos)):Nat:=(st.map (·.1.cUnits)).sum
noncomputable def trSteps (den:Code→Sem Fin) (w:World) (k:Nat) (qual:Str) (f cd:Nat) (xs:List Stp):Tcpt:=fun ω st c t hs sz tk m T=>match c with
  | .func _ env=>match insL m (newsK w xs ω) T with
    | some T2=>some ⟨.pure (.done (.ret (.ref (ω 2+10)))),hs,ω 0+10,ω 1,m+(newsK w xs ω).length,T2,
        [(.c c,.c (.func (stepBody (fS k)) (stepEnv k qual f cd env.locals env.frame))),(.t t,.t (den c))],[Nat.blt (unitsL st) 9900,Nat.ble 10 sz]⟩
    | none=>none
  | _=>none
theorem entsK_is {w:World} (a:Nat→Nat):∀(N:List (Stp×Addr)) (i:Nat),(∀j x,N[j]? = some x→a (i+j) = x.2)→(entsK w (N.map z0) a i) = (N.map rowOf).map (entryOfKey (tkd w))
  | [],_,_=>rfl
  | x::N,i,h=>by
    have h0:=h 0 x rfl
    have:=entsK_is (w:=w) a N (i+1) (fun j y hj=>by have:=h (j+1) y hj;rw [←this];congr 1;omega)
    rw [List.map_cons,List.map_cons,List.map_cons,←this]
    have h0':a i = x.2:=h0
    show (⟨hK w (z0 x),.ref (a i),.str x.1.v x.1.tv⟩:DictEntry)::entsK w (N.map z0) a (i+1) = _
    rw [h0']
    rfl
theorem tupsK_is (a τ:Nat→Nat):∀(N:List (Stp×Addr)) (i:Nat),(∀j x,N[j]? = some x→a (i+j) = x.2∧τ (i+j) = x.1.tb)→(tupsK (N.map z0) a τ i) = N.map fun x=>(x.2,tupO x.1)
  | [],_,_=>rfl
  | x::N,i,h=>by
    have h0:a i = x.2:=(h 0 x rfl).1
    have h1:τ i = x.1.tb:=(h 0 x rfl).2
    have:=tupsK_is a τ N (i+1) (fun j y hj=>by have:=h (j+1) y hj;rw [show i+1+j = i+(j+1) by omega];exact this)
    rw [List.map_cons,List.map_cons,←this]
    show (a i,tupO {z0 x with tb:=τ i})::tupsK (N.map z0) a τ (i+1) = _
    rw [h0,h1]
    rfl
theorem trSteps_ok {V:Vw} {w:World} {b:Bs} {den:Code→Sem Fin} (hden:den = denote table) {k:Nat} {qual:Str} {f cd:Nat} {xs:List Stp} (ok:FnOk w k qual f cd xs) (hkt:KT w b) (hb:10≤b.h.objs.size):
    TcOk V (MW w) b (trSteps den w k qual f cd xs):=by
  intro Γ c t hs sz tk m T p s R κ hc hbel hh r H
  obtain ⟨y,e,hob,hd,_⟩:=H fun _=>0
  unfold trSteps at e H
  split at e
  rotate_left
  · cases e
  rename_i bd env
  dsimp only at H
  cases hT:insL m (newsK w xs fun _=>0) T with
  | none=>rw [hT] at e;cases e
  | some T0=>
  rw [hT] at e
  cases e
  have q0:=hob _ (.head _)
  have qc:Code.func bd env = .func (stepBody (fS k)) (stepEnv k qual f cd env.locals env.frame):=by injection q0
  have q1:=hob _ (.tail _ (.head _))
  have qt:t = den (.func bd env):=by injection q1
  have d1:Nat.blt (unitsL ((Code.func bd env,p)::stk κ V.B)) 9900 = true:=hd _ (.head _)
  have olds:Olds w s.heap:=fun a o g=>r.keep a o (hkt a o g).1 (hkt a o g).2
  have big:2≤s.heap.objs.size:=Nat.le_trans (Nat.le_trans (by decide) hb) r.grow
  rw [qt,hden,qc]
  have hA:(A0 Γ).handled = none:=hh
  have hu:(A0 Γ).units < cLine:=by
    have h1:Γ.units = unitsL ((Code.func bd env,p)::stk κ V.B):=by
      rw [←hbel]
      show Γ.code.cUnits+unitsOf Γ.below = _
      unfold unitsL unitsOf
      rw [hc]
      simp
    show Γ.units < cLine
    rw [h1]
    exact Nat.lt_of_lt_of_eq (Nat.le_of_ble_eq_true d1) rfl
  have w1:=ok.wp env.locals env.frame (A0 Γ) (fun _ _=>False) s (fun v s'=>R (.ok (.ret v)) s') hA hu olds big (fun s' N hN I=>?_)
  · show Sem.wp (MW w) Γ (Sem.bind point fun _=>Sem.bind ((execs (stepBody (fS k)) (stepEnv k qual f cd env.locals env.frame)).onRaise (leaving (stepEnv k qual f cd env.locals env.frame))) _) _ _ p s
    rw [Sem.wp_bind]
    show Sem.wp (MW w) Γ (Sem.point [] _) _ _ p s
    rw [Sem.wp_point,Sem.wp_pure,Sem.wp_bind,Sem.wp_onRaise,ok.body]
    have w2:wpAny (MW w) (A0 Γ) (execs [.Return (some (.Dict (stepKeys (fS k)) (stepVals (fS k)) (stepPos (fS k)))) (stepRet (fS k))] (stepEnv k qual f cd env.locals env.frame)) (fun fl s'=>∃v,fl = .ret v∧R (.ok (.ret v)) s') (fun _ _=>False) s:=
      wpAny_execs_cons (wpAny_Return_some (wpAny_mono w1 (fun v s' hv=>⟨v,rfl,hv⟩) fun _ _ h=>h))
    refine Sem.wp_mono _ _ _ (fun fl p' s' hv=>?_) (fun _ _ _ h=>h.elim) _ _ (w2 Γ p (in_A0 Γ))
    obtain ⟨v,rfl,hv⟩:=hv
    show Sem.wp (MW w) Γ (Sem.pure _) _ _ p' s'
    rw [Sem.wp_pure]
    exact hv
  · obtain ⟨o,es,ep,ho,hx,hdt,he,_,_⟩:=I.dict
    let Om:Nat→Nat:=fun i=>if i = 0 then s'.heap.objs.size - 10 else if i = 1 then s'.toks else if i = 2 then s.heap.objs.size - 10 else if i = 3 then ep else if i % 2 = 0 then (N.getD ((i - 4) / 2) (stp0,10)).2 - 10 else (N.getD ((i - 4) / 2) (stp0,10)).1.tb
    have h10:10≤s.heap.objs.size:=Nat.le_trans hb r.grow
    obtain ⟨y,e2,_,_,hR⟩:=H Om
    have hnews:newsK w xs Om = (s.heap.objs.size,o)::N.map fun x=>(x.2,tupO x.1):=by
      have ha:∀j x,N[j]? = some x→(fun i=>Om (2*i+4)+10) (0+j) = x.2∧(fun i=>Om (2*i+5)) (0+j) = x.1.tb:=by
        intro j x hj
        have hx:=I.fresh x (List.mem_append_left _ (List.mem_of_getElem? hj))
        have g:N.getD j (stp0,10) = x:=by rw [List.getD_eq_getElem?_getD,hj];rfl
        constructor
        · show Om (2*(0+j)+4)+10 = x.2
          have e:Om (2*(0+j)+4) = (N.getD ((2*(0+j)+4 - 4) / 2) (stp0,10)).2 - 10:=by
            show (if 2*(0+j)+4 = 0 then _ else if 2*(0+j)+4 = 1 then _ else if 2*(0+j)+4 = 2 then _ else if 2*(0+j)+4 = 3 then _ else if (2*(0+j)+4) % 2 = 0 then _ else _) = _
            rw [if_neg (by omega),if_neg (by omega),if_neg (by omega),if_neg (by omega),if_pos (by omega)]
          rw [e,show (2*(0+j)+4 - 4) / 2 = j by omega,g]
          have:(10:Nat)≤x.2:=Nat.le_trans h10 hx
          exact Nat.sub_add_cancel this
        · show Om (2*(0+j)+5) = x.1.tb
          have e:Om (2*(0+j)+5) = (N.getD ((2*(0+j)+5 - 4) / 2) (stp0,10)).1.tb:=by
            show (if 2*(0+j)+5 = 0 then _ else if 2*(0+j)+5 = 1 then _ else if 2*(0+j)+5 = 2 then _ else if 2*(0+j)+5 = 3 then _ else if (2*(0+j)+5) % 2 = 0 then _ else _) = _
            rw [if_neg (by omega),if_neg (by omega),if_neg (by omega),if_neg (by omega),if_neg (by omega)]
          rw [e,show (2*(0+j)+5 - 4) / 2 = j by omega,g]
      unfold newsK
      rw [←hN,entsK_is _ N 0 (fun j x hj=>(ha j x hj).1),tupsK_is _ _ N 0 ha]
      congr 1
      have e3:Om 2+10 = s.heap.objs.size:=Nat.sub_add_cancel h10
      rw [e3]
      congr 1
      obtain ⟨c1,d1',dt,sl⟩:=o
      obtain ⟨h1,h2,h3⟩:=hx
      subst h1 h2 h3 hdt
      have:es = ⟨(N.map rowOf).map (entryOfKey (tkd w))⟩:=by
        obtain ⟨l⟩:=es
        rw [←he]
      rw [this]
      rfl
    cases hT2:insL m (newsK w xs Om) T with
    | none=>rw [hT2] at e2;cases e2
    | some T2=>
    rw [hT2] at e2
    cases e2
    have en:N++[] = N:=List.append_nil _
    have rel:=rel_news (l:=newsK w xs Om) r I.gens I.drawn I.os I.keep I.grow (by
      intro x hx
      rw [hnews] at hx
      rcases List.mem_cons.mp hx with rfl | hx
      · exact ⟨ho,Nat.le_refl _⟩
      · obtain ⟨z,hz,rfl⟩:=List.mem_map.mp hx
        exact ⟨I.tup z (by rw [en];exact hz),I.fresh z (by rw [en];exact hz)⟩) (by
      rw [hnews,List.map_cons,List.map_map,List.nodup_cons]
      refine ⟨fun hx=>?_,?_⟩
      · obtain ⟨z,hz,e⟩:=List.mem_map.mp hx
        have:=I.dne z (by rw [en];exact hz)
        have e:z.2 = s.heap.objs.size:=e
        rw [e] at this
        exact absurd this (Nat.lt_irrefl _)
      · have i1:=I.inc
        rw [en] at i1
        rw [List.nodup_iff_pairwise_ne,List.pairwise_map]
        exact i1.imp fun h=>Nat.ne_of_lt h) hT2
    have z:=hR s' (by
      have e0:Om 0+10 = s'.heap.objs.size:=Nat.sub_add_cancel (Nat.le_trans h10 I.grow)
      show Rel b (Om 0+10) (Om 1) _ _ s'
      rw [e0]
      exact rel)
    unfold wpF at z
    rw [Sem.wp_pure] at z
    have e3:Om 2+10 = s.heap.objs.size:=Nat.sub_add_cancel h10
    rw [e3] at z
    exact z
end
end Mine
namespace Mine
open PySem PySem.W
noncomputable section
noncomputable def xsOpen:List Stp:=[⟨⟨⟨[99,108,111,115,101,100]⟩⟩,1564,⟨⟨[108,105,115,116,101,110]⟩⟩,0,⟨⟨[108,105,115,116,101,110]⟩⟩,1566⟩,⟨⟨⟨[99,108,111,115,101,100]⟩⟩,1564,⟨⟨[99,111,110,110,101,99,116]⟩⟩,0,⟨⟨[115,121,110,32,115,101,110,116]⟩⟩,1568⟩,⟨⟨⟨[108,105,115,116,101,110]⟩⟩,1566,⟨⟨[99,111,110,110,101,99,116]⟩⟩,0,⟨⟨[115,121,110,32,115,101,110,116]⟩⟩,1568⟩,⟨⟨⟨[108,105,115,116,101,110]⟩⟩,1566,⟨⟨[115,121,110]⟩⟩,0,⟨⟨[115,121,110,32,114,101,99,101,105,118,101,100]⟩⟩,1570⟩,⟨⟨⟨[115,121,110,32,115,101,110,116]⟩⟩,1568,⟨⟨[115,121,110]⟩⟩,0,⟨⟨[115,121,110,32,114,101,99,101,105,118,101,100]⟩⟩,1570⟩,⟨⟨⟨[115,121,110,32,115,101,110,116]⟩⟩,1568,⟨⟨[115,121,110,32,97,99,107]⟩⟩,0,⟨⟨[101,115,116,97,98,108,105,115,104,101,100]⟩⟩,1572⟩,⟨⟨⟨[115,121,110,32,114,101,99,101,105,118,101,100]⟩⟩,1570,⟨⟨[97,99,107,32,111,102,32,115,121,110]⟩⟩,0,⟨⟨[101,115,116,97,98,108,105,115,104,101,100]⟩⟩,1572⟩]
noncomputable def kOpen (i:Nat):PySem.Expr:=((stepKeys (fS 64)).getD i none).getD (.Constant .none 0 default)
noncomputable def vOpen (i:Nat):PySem.Expr:=(stepVals (fS 64)).getD i (.Constant .none 0 default)
theorem keysOpen:stepKeys (fS 64) = [some (kOpen 0),some (kOpen 1),some (kOpen 2),some (kOpen 3),some (kOpen 4),some (kOpen 5),some (kOpen 6)]:=by kernel_rfl
theorem valsOpen:stepVals (fS 64) = [vOpen 0,vOpen 1,vOpen 2,vOpen 3,vOpen 4,vOpen 5,vOpen 6]:=by kernel_rfl
theorem pOpen0 (w:World) (loc:Nat) (fr:Option Nat):PairOk w (eval (kOpen 0) (stepEnv 64 qOpen 1011 1010 loc fr)) (do let x ←eval (vOpen 0) (stepEnv 64 qOpen 1011 1010 loc fr);standAt (stepPos (fS 64));pure x) (xsOpen.getD 0 stp0):=
  ⟨by rfl,fun A E s Q hA ho h=>evalS (n:=20) (hs:=List.replicate 10 0) (is:=[0]) (v:=fun sz=> .ref sz) (es:=fun sz tk=>[(sz,tupO {xsOpen.getD 0 stp0 with tb:=tk})]) (ds:=[]) (fun _ h=>nomatch h) (fun B c p ω sz tk=>⟨by kernel_rfl⟩) hA ho (fun s' g=>h s' _ g),
   fun A E s Q hA ho h=>wpAny_bind (evalS (n:=20) (hs:=List.replicate 10 0) (is:=[]) (v:=fun _=> .str (xsOpen.getD 0 stp0).v (xsOpen.getD 0 stp0).tv) (es:=fun _ _=>[]) (ds:=[]) (fun _ h=>nomatch h) (fun B c p ω sz tk=>⟨by kernel_rfl⟩) hA ho fun s' g=>wpAny_bind (wpAny_standAt (wpAny_pure (h s' g))))⟩
theorem pOpen1 (w:World) (loc:Nat) (fr:Option Nat):PairOk w (eval (kOpen 1) (stepEnv 64 qOpen 1011 1010 loc fr)) (do let x ←eval (vOpen 1) (stepEnv 64 qOpen 1011 1010 loc fr);standAt (stepPos (fS 64));pure x) (xsOpen.getD 1 stp0):=
  ⟨by rfl,fun A E s Q hA ho h=>evalS (n:=20) (hs:=List.replicate 10 0) (is:=[0]) (v:=fun sz=> .ref sz) (es:=fun sz tk=>[(sz,tupO {xsOpen.getD 1 stp0 with tb:=tk})]) (ds:=[]) (fun _ h=>nomatch h) (fun B c p ω sz tk=>⟨by kernel_rfl⟩) hA ho (fun s' g=>h s' _ g),
   fun A E s Q hA ho h=>wpAny_bind (evalS (n:=20) (hs:=List.replicate 10 0) (is:=[]) (v:=fun _=> .str (xsOpen.getD 1 stp0).v (xsOpen.getD 1 stp0).tv) (es:=fun _ _=>[]) (ds:=[]) (fun _ h=>nomatch h) (fun B c p ω sz tk=>⟨by kernel_rfl⟩) hA ho fun s' g=>wpAny_bind (wpAny_standAt (wpAny_pure (h s' g))))⟩
theorem pOpen2 (w:World) (loc:Nat) (fr:Option Nat):PairOk w (eval (kOpen 2) (stepEnv 64 qOpen 1011 1010 loc fr)) (do let x ←eval (vOpen 2) (stepEnv 64 qOpen 1011 1010 loc fr);standAt (stepPos (fS 64));pure x) (xsOpen.getD 2 stp0):=
  ⟨by rfl,fun A E s Q hA ho h=>evalS (n:=20) (hs:=List.replicate 10 0) (is:=[0]) (v:=fun sz=> .ref sz) (es:=fun sz tk=>[(sz,tupO {xsOpen.getD 2 stp0 with tb:=tk})]) (ds:=[]) (fun _ h=>nomatch h) (fun B c p ω sz tk=>⟨by kernel_rfl⟩) hA ho (fun s' g=>h s' _ g),
   fun A E s Q hA ho h=>wpAny_bind (evalS (n:=20) (hs:=List.replicate 10 0) (is:=[]) (v:=fun _=> .str (xsOpen.getD 2 stp0).v (xsOpen.getD 2 stp0).tv) (es:=fun _ _=>[]) (ds:=[]) (fun _ h=>nomatch h) (fun B c p ω sz tk=>⟨by kernel_rfl⟩) hA ho fun s' g=>wpAny_bind (wpAny_standAt (wpAny_pure (h s' g))))⟩
theorem pOpen3 (w:World) (loc:Nat) (fr:Option Nat):PairOk w (eval (kOpen 3) (stepEnv 64 qOpen 1011 1010 loc fr)) (do let x ←eval (vOpen 3) (stepEnv 64 qOpen 1011 1010 loc fr);standAt (stepPos (fS 64));pure x) (xsOpen.getD 3 stp0):=
  ⟨by rfl,fun A E s Q hA ho h=>evalS (n:=20) (hs:=List.replicate 10 0) (is:=[0]) (v:=fun sz=> .ref sz) (es:=fun sz tk=>[(sz,tupO {xsOpen.getD 3 stp0 with tb:=tk})]) (ds:=[]) (fun _ h=>nomatch h) (fun B c p ω sz tk=>⟨by kernel_rfl⟩) hA ho (fun s' g=>h s' _ g),
   fun A E s Q hA ho h=>wpAny_bind (evalS (n:=20) (hs:=List.replicate 10 0) (is:=[]) (v:=fun _=> .str (xsOpen.getD 3 stp0).v (xsOpen.getD 3 stp0).tv) (es:=fun _ _=>[]) (ds:=[]) (fun _ h=>nomatch h) (fun B c p ω sz tk=>⟨by kernel_rfl⟩) hA ho fun s' g=>wpAny_bind (wpAny_standAt (wpAny_pure (h s' g))))⟩
theorem pOpen4 (w:World) (loc:Nat) (fr:Option Nat):PairOk w (eval (kOpen 4) (stepEnv 64 qOpen 1011 1010 loc fr)) (do let x ←eval (vOpen 4) (stepEnv 64 qOpen 1011 1010 loc fr);standAt (stepPos (fS 64));pure x) (xsOpen.getD 4 stp0):=
  ⟨by rfl,fun A E s Q hA ho h=>evalS (n:=20) (hs:=List.replicate 10 0) (is:=[0]) (v:=fun sz=> .ref sz) (es:=fun sz tk=>[(sz,tupO {xsOpen.getD 4 stp0 with tb:=tk})]) (ds:=[]) (fun _ h=>nomatch h) (fun B c p ω sz tk=>⟨by kernel_rfl⟩) hA ho (fun s' g=>h s' _ g),
   fun A E s Q hA ho h=>wpAny_bind (evalS (n:=20) (hs:=List.replicate 10 0) (is:=[]) (v:=fun _=> .str (xsOpen.getD 4 stp0).v (xsOpen.getD 4 stp0).tv) (es:=fun _ _=>[]) (ds:=[]) (fun _ h=>nomatch h) (fun B c p ω sz tk=>⟨by kernel_rfl⟩) hA ho fun s' g=>wpAny_bind (wpAny_standAt (wpAny_pure (h s' g))))⟩
theorem pOpen5 (w:World) (loc:Nat) (fr:Option Nat):PairOk w (eval (kOpen 5) (stepEnv 64 qOpen 1011 1010 loc fr)) (do let x ←eval (vOpen 5) (stepEnv 64 qOpen 1011 1010 loc fr);standAt (stepPos (fS 64));pure x) (xsOpen.getD 5 stp0):=
  ⟨by rfl,fun A E s Q hA ho h=>evalS (n:=20) (hs:=List.replicate 10 0) (is:=[0]) (v:=fun sz=> .ref sz) (es:=fun sz tk=>[(sz,tupO {xsOpen.getD 5 stp0 with tb:=tk})]) (ds:=[]) (fun _ h=>nomatch h) (fun B c p ω sz tk=>⟨by kernel_rfl⟩) hA ho (fun s' g=>h s' _ g),
   fun A E s Q hA ho h=>wpAny_bind (evalS (n:=20) (hs:=List.replicate 10 0) (is:=[]) (v:=fun _=> .str (xsOpen.getD 5 stp0).v (xsOpen.getD 5 stp0).tv) (es:=fun _ _=>[]) (ds:=[]) (fun _ h=>nomatch h) (fun B c p ω sz tk=>⟨by kernel_rfl⟩) hA ho fun s' g=>wpAny_bind (wpAny_standAt (wpAny_pure (h s' g))))⟩
theorem pOpen6 (w:World) (loc:Nat) (fr:Option Nat):PairOk w (eval (kOpen 6) (stepEnv 64 qOpen 1011 1010 loc fr)) (do let x ←eval (vOpen 6) (stepEnv 64 qOpen 1011 1010 loc fr);standAt (stepPos (fS 64));pure x) (xsOpen.getD 6 stp0):=
  ⟨by rfl,fun A E s Q hA ho h=>evalS (n:=20) (hs:=List.replicate 10 0) (is:=[0]) (v:=fun sz=> .ref sz) (es:=fun sz tk=>[(sz,tupO {xsOpen.getD 6 stp0 with tb:=tk})]) (ds:=[]) (fun _ h=>nomatch h) (fun B c p ω sz tk=>⟨by kernel_rfl⟩) hA ho (fun s' g=>h s' _ g),
   fun A E s Q hA ho h=>wpAny_bind (evalS (n:=20) (hs:=List.replicate 10 0) (is:=[]) (v:=fun _=> .str (xsOpen.getD 6 stp0).v (xsOpen.getD 6 stp0).tv) (es:=fun _ _=>[]) (ds:=[]) (fun _ h=>nomatch h) (fun B c p ω sz tk=>⟨by kernel_rfl⟩) hA ho fun s' g=>wpAny_bind (wpAny_standAt (wpAny_pure (h s' g))))⟩
noncomputable def xsClose:List Stp:=[⟨⟨⟨[108,105,115,116,101,110]⟩⟩,1566,⟨⟨[99,108,111,115,101]⟩⟩,0,⟨⟨[99,108,111,115,101,100]⟩⟩,1564⟩,⟨⟨⟨[115,121,110,32,115,101,110,116]⟩⟩,1568,⟨⟨[99,108,111,115,101]⟩⟩,0,⟨⟨[99,108,111,115,101,100]⟩⟩,1564⟩,⟨⟨⟨[115,121,110,32,114,101,99,101,105,118,101,100]⟩⟩,1570,⟨⟨[99,108,111,115,101]⟩⟩,0,⟨⟨[102,105,110,32,119,97,105,116,32,49]⟩⟩,1574⟩,⟨⟨⟨[101,115,116,97,98,108,105,115,104,101,100]⟩⟩,1572,⟨⟨[99,108,111,115,101]⟩⟩,0,⟨⟨[102,105,110,32,119,97,105,116,32,49]⟩⟩,1574⟩,⟨⟨⟨[99,108,111,115,101,32,119,97,105,116]⟩⟩,1578,⟨⟨[99,108,111,115,101]⟩⟩,0,⟨⟨[108,97,115,116,32,97,99,107]⟩⟩,1582⟩,⟨⟨⟨[115,121,110,32,114,101,99,101,105,118,101,100]⟩⟩,1570,⟨⟨[102,105,110]⟩⟩,0,⟨⟨[99,108,111,115,101,32,119,97,105,116]⟩⟩,1578⟩,⟨⟨⟨[101,115,116,97,98,108,105,115,104,101,100]⟩⟩,1572,⟨⟨[102,105,110]⟩⟩,0,⟨⟨[99,108,111,115,101,32,119,97,105,116]⟩⟩,1578⟩,⟨⟨⟨[102,105,110,32,119,97,105,116,32,49]⟩⟩,1574,⟨⟨[102,105,110]⟩⟩,0,⟨⟨[99,108,111,115,105,110,103]⟩⟩,1580⟩,⟨⟨⟨[102,105,110,32,119,97,105,116,32,50]⟩⟩,1576,⟨⟨[102,105,110]⟩⟩,0,⟨⟨[116,105,109,101,32,119,97,105,116]⟩⟩,1584⟩,⟨⟨⟨[99,108,111,115,101,32,119,97,105,116]⟩⟩,1578,⟨⟨[102,105,110]⟩⟩,0,⟨⟨[99,108,111,115,101,32,119,97,105,116]⟩⟩,1578⟩,⟨⟨⟨[99,108,111,115,105,110,103]⟩⟩,1580,⟨⟨[102,105,110]⟩⟩,0,⟨⟨[99,108,111,115,105,110,103]⟩⟩,1580⟩,⟨⟨⟨[108,97,115,116,32,97,99,107]⟩⟩,1582,⟨⟨[102,105,110]⟩⟩,0,⟨⟨[108,97,115,116,32,97,99,107]⟩⟩,1582⟩,⟨⟨⟨[116,105,109,101,32,119,97,105,116]⟩⟩,1584,⟨⟨[102,105,110]⟩⟩,0,⟨⟨[116,105,109,101,32,119,97,105,116]⟩⟩,1584⟩,⟨⟨⟨[102,105,110,32,119,97,105,116,32,49]⟩⟩,1574,⟨⟨[97,99,107,32,111,102,32,102,105,110]⟩⟩,0,⟨⟨[102,105,110,32,119,97,105,116,32,50]⟩⟩,1576⟩,⟨⟨⟨[99,108,111,115,105,110,103]⟩⟩,1580,⟨⟨[97,99,107,32,111,102,32,102,105,110]⟩⟩,0,⟨⟨[116,105,109,101,32,119,97,105,116]⟩⟩,1584⟩,⟨⟨⟨[108,97,115,116,32,97,99,107]⟩⟩,1582,⟨⟨[97,99,107,32,111,102,32,102,105,110]⟩⟩,0,⟨⟨[99,108,111,115,101,100]⟩⟩,1564⟩,⟨⟨⟨[102,105,110,32,119,97,105,116,32,49]⟩⟩,1574,⟨⟨[102,105,110,32,97,110,100,32,97,99,107,32,111,102,32,102,105,110]⟩⟩,0,⟨⟨[116,105,109,101,32,119,97,105,116]⟩⟩,1584⟩,⟨⟨⟨[116,105,109,101,32,119,97,105,116]⟩⟩,1584,⟨⟨[116,105,109,101,32,119,97,105,116,32,111,118,101,114]⟩⟩,0,⟨⟨[99,108,111,115,101,100]⟩⟩,1564⟩]
noncomputable def kClose (i:Nat):PySem.Expr:=((stepKeys (fS 65)).getD i none).getD (.Constant .none 0 default)
noncomputable def vClose (i:Nat):PySem.Expr:=(stepVals (fS 65)).getD i (.Constant .none 0 default)
theorem keysClose:stepKeys (fS 65) = [some (kClose 0),some (kClose 1),some (kClose 2),some (kClose 3),some (kClose 4),some (kClose 5),some (kClose 6),some (kClose 7),some (kClose 8),some (kClose 9),some (kClose 10),some (kClose 11),some (kClose 12),some (kClose 13),some (kClose 14),some (kClose 15),some (kClose 16),some (kClose 17)]:=by kernel_rfl
theorem valsClose:stepVals (fS 65) = [vClose 0,vClose 1,vClose 2,vClose 3,vClose 4,vClose 5,vClose 6,vClose 7,vClose 8,vClose 9,vClose 10,vClose 11,vClose 12,vClose 13,vClose 14,vClose 15,vClose 16,vClose 17]:=by kernel_rfl
theorem pClose0 (w:World) (loc:Nat) (fr:Option Nat):PairOk w (eval (kClose 0) (stepEnv 65 qClose 1018 1017 loc fr)) (do let x ←eval (vClose 0) (stepEnv 65 qClose 1018 1017 loc fr);standAt (stepPos (fS 65));pure x) (xsClose.getD 0 stp0):=
  ⟨by rfl,fun A E s Q hA ho h=>evalS (n:=20) (hs:=List.replicate 10 0) (is:=[0]) (v:=fun sz=> .ref sz) (es:=fun sz tk=>[(sz,tupO {xsClose.getD 0 stp0 with tb:=tk})]) (ds:=[]) (fun _ h=>nomatch h) (fun B c p ω sz tk=>⟨by kernel_rfl⟩) hA ho (fun s' g=>h s' _ g),
   fun A E s Q hA ho h=>wpAny_bind (evalS (n:=20) (hs:=List.replicate 10 0) (is:=[]) (v:=fun _=> .str (xsClose.getD 0 stp0).v (xsClose.getD 0 stp0).tv) (es:=fun _ _=>[]) (ds:=[]) (fun _ h=>nomatch h) (fun B c p ω sz tk=>⟨by kernel_rfl⟩) hA ho fun s' g=>wpAny_bind (wpAny_standAt (wpAny_pure (h s' g))))⟩
theorem pClose1 (w:World) (loc:Nat) (fr:Option Nat):PairOk w (eval (kClose 1) (stepEnv 65 qClose 1018 1017 loc fr)) (do let x ←eval (vClose 1) (stepEnv 65 qClose 1018 1017 loc fr);standAt (stepPos (fS 65));pure x) (xsClose.getD 1 stp0):=
  ⟨by rfl,fun A E s Q hA ho h=>evalS (n:=20) (hs:=List.replicate 10 0) (is:=[0]) (v:=fun sz=> .ref sz) (es:=fun sz tk=>[(sz,tupO {xsClose.getD 1 stp0 with tb:=tk})]) (ds:=[]) (fun _ h=>nomatch h) (fun B c p ω sz tk=>⟨by kernel_rfl⟩) hA ho (fun s' g=>h s' _ g),
   fun A E s Q hA ho h=>wpAny_bind (evalS (n:=20) (hs:=List.replicate 10 0) (is:=[]) (v:=fun _=> .str (xsClose.getD 1 stp0).v (xsClose.getD 1 stp0).tv) (es:=fun _ _=>[]) (ds:=[]) (fun _ h=>nomatch h) (fun B c p ω sz tk=>⟨by kernel_rfl⟩) hA ho fun s' g=>wpAny_bind (wpAny_standAt (wpAny_pure (h s' g))))⟩
theorem pClose2 (w:World) (loc:Nat) (fr:Option Nat):PairOk w (eval (kClose 2) (stepEnv 65 qClose 1018 1017 loc fr)) (do let x ←eval (vClose 2) (stepEnv 65 qClose 1018 1017 loc fr);standAt (stepPos (fS 65));pure x) (xsClose.getD 2 stp0):=
  ⟨by rfl,fun A E s Q hA ho h=>evalS (n:=20) (hs:=List.replicate 10 0) (is:=[0]) (v:=fun sz=> .ref sz) (es:=fun sz tk=>[(sz,tupO {xsClose.getD 2 stp0 with tb:=tk})]) (ds:=[]) (fun _ h=>nomatch h) (fun B c p ω sz tk=>⟨by kernel_rfl⟩) hA ho (fun s' g=>h s' _ g),
   fun A E s Q hA ho h=>wpAny_bind (evalS (n:=20) (hs:=List.replicate 10 0) (is:=[]) (v:=fun _=> .str (xsClose.getD 2 stp0).v (xsClose.getD 2 stp0).tv) (es:=fun _ _=>[]) (ds:=[]) (fun _ h=>nomatch h) (fun B c p ω sz tk=>⟨by kernel_rfl⟩) hA ho fun s' g=>wpAny_bind (wpAny_standAt (wpAny_pure (h s' g))))⟩
theorem pClose3 (w:World) (loc:Nat) (fr:Option Nat):PairOk w (eval (kClose 3) (stepEnv 65 qClose 1018 1017 loc fr)) (do let x ←eval (vClose 3) (stepEnv 65 qClose 1018 1017 loc fr);standAt (stepPos (fS 65));pure x) (xsClose.getD 3 stp0):=
  ⟨by rfl,fun A E s Q hA ho h=>evalS (n:=20) (hs:=List.replicate 10 0) (is:=[0]) (v:=fun sz=> .ref sz) (es:=fun sz tk=>[(sz,tupO {xsClose.getD 3 stp0 with tb:=tk})]) (ds:=[]) (fun _ h=>nomatch h) (fun B c p ω sz tk=>⟨by kernel_rfl⟩) hA ho (fun s' g=>h s' _ g),
   fun A E s Q hA ho h=>wpAny_bind (evalS (n:=20) (hs:=List.replicate 10 0) (is:=[]) (v:=fun _=> .str (xsClose.getD 3 stp0).v (xsClose.getD 3 stp0).tv) (es:=fun _ _=>[]) (ds:=[]) (fun _ h=>nomatch h) (fun B c p ω sz tk=>⟨by kernel_rfl⟩) hA ho fun s' g=>wpAny_bind (wpAny_standAt (wpAny_pure (h s' g))))⟩
theorem pClose4 (w:World) (loc:Nat) (fr:Option Nat):PairOk w (eval (kClose 4) (stepEnv 65 qClose 1018 1017 loc fr)) (do let x ←eval (vClose 4) (stepEnv 65 qClose 1018 1017 loc fr);standAt (stepPos (fS 65));pure x) (xsClose.getD 4 stp0):=
  ⟨by rfl,fun A E s Q hA ho h=>evalS (n:=20) (hs:=List.replicate 10 0) (is:=[0]) (v:=fun sz=> .ref sz) (es:=fun sz tk=>[(sz,tupO {xsClose.getD 4 stp0 with tb:=tk})]) (ds:=[]) (fun _ h=>nomatch h) (fun B c p ω sz tk=>⟨by kernel_rfl⟩) hA ho (fun s' g=>h s' _ g),
   fun A E s Q hA ho h=>wpAny_bind (evalS (n:=20) (hs:=List.replicate 10 0) (is:=[]) (v:=fun _=> .str (xsClose.getD 4 stp0).v (xsClose.getD 4 stp0).tv) (es:=fun _ _=>[]) (ds:=[]) (fun _ h=>nomatch h) (fun B c p ω sz tk=>⟨by kernel_rfl⟩) hA ho fun s' g=>wpAny_bind (wpAny_standAt (wpAny_pure (h s' g))))⟩
theorem pClose5 (w:World) (loc:Nat) (fr:Option Nat):PairOk w (eval (kClose 5) (stepEnv 65 qClose 1018 1017 loc fr)) (do let x ←eval (vClose 5) (stepEnv 65 qClose 1018 1017 loc fr);standAt (stepPos (fS 65));pure x) (xsClose.getD 5 stp0):=
  ⟨by rfl,fun A E s Q hA ho h=>evalS (n:=20) (hs:=List.replicate 10 0) (is:=[0]) (v:=fun sz=> .ref sz) (es:=fun sz tk=>[(sz,tupO {xsClose.getD 5 stp0 with tb:=tk})]) (ds:=[]) (fun _ h=>nomatch h) (fun B c p ω sz tk=>⟨by kernel_rfl⟩) hA ho (fun s' g=>h s' _ g),
   fun A E s Q hA ho h=>wpAny_bind (evalS (n:=20) (hs:=List.replicate 10 0) (is:=[]) (v:=fun _=> .str (xsClose.getD 5 stp0).v (xsClose.getD 5 stp0).tv) (es:=fun _ _=>[]) (ds:=[]) (fun _ h=>nomatch h) (fun B c p ω sz tk=>⟨by kernel_rfl⟩) hA ho fun s' g=>wpAny_bind (wpAny_standAt (wpAny_pure (h s' g))))⟩
theorem pClose6 (w:World) (loc:Nat) (fr:Option Nat):PairOk w (eval (kClose 6) (stepEnv 65 qClose 1018 1017 loc fr)) (do let x ←eval (vClose 6) (stepEnv 65 qClose 1018 1017 loc fr);standAt (stepPos (fS 65));pure x) (xsClose.getD 6 stp0):=
  ⟨by rfl,fun A E s Q hA ho h=>evalS (n:=20) (hs:=List.replicate 10 0) (is:=[0]) (v:=fun sz=> .ref sz) (es:=fun sz tk=>[(sz,tupO {xsClose.getD 6 stp0 with tb:=tk})]) (ds:=[]) (fun _ h=>nomatch h) (fun B c p ω sz tk=>⟨by kernel_rfl⟩) hA ho (fun s' g=>h s' _ g),
   fun A E s Q hA ho h=>wpAny_bind (evalS (n:=20) (hs:=List.replicate 10 0) (is:=[]) (v:=fun _=> .str (xsClose.getD 6 stp0).v (xsClose.getD 6 stp0).tv) (es:=fun _ _=>[]) (ds:=[]) (fun _ h=>nomatch h) (fun B c p ω sz tk=>⟨by kernel_rfl⟩) hA ho fun s' g=>wpAny_bind (wpAny_standAt (wpAny_pure (h s' g))))⟩
theorem pClose7 (w:World) (loc:Nat) (fr:Option Nat):PairOk w (eval (kClose 7) (stepEnv 65 qClose 1018 1017 loc fr)) (do let x ←eval (vClose 7) (stepEnv 65 qClose 1018 1017 loc fr);standAt (stepPos (fS 65));pure x) (xsClose.getD 7 stp0):=
  ⟨by rfl,fun A E s Q hA ho h=>evalS (n:=20) (hs:=List.replicate 10 0) (is:=[0]) (v:=fun sz=> .ref sz) (es:=fun sz tk=>[(sz,tupO {xsClose.getD 7 stp0 with tb:=tk})]) (ds:=[]) (fun _ h=>nomatch h) (fun B c p ω sz tk=>⟨by kernel_rfl⟩) hA ho (fun s' g=>h s' _ g),
   fun A E s Q hA ho h=>wpAny_bind (evalS (n:=20) (hs:=List.replicate 10 0) (is:=[]) (v:=fun _=> .str (xsClose.getD 7 stp0).v (xsClose.getD 7 stp0).tv) (es:=fun _ _=>[]) (ds:=[]) (fun _ h=>nomatch h) (fun B c p ω sz tk=>⟨by kernel_rfl⟩) hA ho fun s' g=>wpAny_bind (wpAny_standAt (wpAny_pure (h s' g))))⟩
theorem pClose8 (w:World) (loc:Nat) (fr:Option Nat):PairOk w (eval (kClose 8) (stepEnv 65 qClose 1018 1017 loc fr)) (do let x ←eval (vClose 8) (stepEnv 65 qClose 1018 1017 loc fr);standAt (stepPos (fS 65));pure x) (xsClose.getD 8 stp0):=
  ⟨by rfl,fun A E s Q hA ho h=>evalS (n:=20) (hs:=List.replicate 10 0) (is:=[0]) (v:=fun sz=> .ref sz) (es:=fun sz tk=>[(sz,tupO {xsClose.getD 8 stp0 with tb:=tk})]) (ds:=[]) (fun _ h=>nomatch h) (fun B c p ω sz tk=>⟨by kernel_rfl⟩) hA ho (fun s' g=>h s' _ g),
   fun A E s Q hA ho h=>wpAny_bind (evalS (n:=20) (hs:=List.replicate 10 0) (is:=[]) (v:=fun _=> .str (xsClose.getD 8 stp0).v (xsClose.getD 8 stp0).tv) (es:=fun _ _=>[]) (ds:=[]) (fun _ h=>nomatch h) (fun B c p ω sz tk=>⟨by kernel_rfl⟩) hA ho fun s' g=>wpAny_bind (wpAny_standAt (wpAny_pure (h s' g))))⟩
theorem pClose9 (w:World) (loc:Nat) (fr:Option Nat):PairOk w (eval (kClose 9) (stepEnv 65 qClose 1018 1017 loc fr)) (do let x ←eval (vClose 9) (stepEnv 65 qClose 1018 1017 loc fr);standAt (stepPos (fS 65));pure x) (xsClose.getD 9 stp0):=
  ⟨by rfl,fun A E s Q hA ho h=>evalS (n:=20) (hs:=List.replicate 10 0) (is:=[0]) (v:=fun sz=> .ref sz) (es:=fun sz tk=>[(sz,tupO {xsClose.getD 9 stp0 with tb:=tk})]) (ds:=[]) (fun _ h=>nomatch h) (fun B c p ω sz tk=>⟨by kernel_rfl⟩) hA ho (fun s' g=>h s' _ g),
   fun A E s Q hA ho h=>wpAny_bind (evalS (n:=20) (hs:=List.replicate 10 0) (is:=[]) (v:=fun _=> .str (xsClose.getD 9 stp0).v (xsClose.getD 9 stp0).tv) (es:=fun _ _=>[]) (ds:=[]) (fun _ h=>nomatch h) (fun B c p ω sz tk=>⟨by kernel_rfl⟩) hA ho fun s' g=>wpAny_bind (wpAny_standAt (wpAny_pure (h s' g))))⟩
theorem pClose10 (w:World) (loc:Nat) (fr:Option Nat):PairOk w (eval (kClose 10) (stepEnv 65 qClose 1018 1017 loc fr)) (do let x ←eval (vClose 10) (stepEnv 65 qClose 1018 1017 loc fr);standAt (stepPos (fS 65));pure x) (xsClose.getD 10 stp0):=
  ⟨by rfl,fun A E s Q hA ho h=>evalS (n:=20) (hs:=List.replicate 10 0) (is:=[0]) (v:=fun sz=> .ref sz) (es:=fun sz tk=>[(sz,tupO {xsClose.getD 10 stp0 with tb:=tk})]) (ds:=[]) (fun _ h=>nomatch h) (fun B c p ω sz tk=>⟨by kernel_rfl⟩) hA ho (fun s' g=>h s' _ g),
   fun A E s Q hA ho h=>wpAny_bind (evalS (n:=20) (hs:=List.replicate 10 0) (is:=[]) (v:=fun _=> .str (xsClose.getD 10 stp0).v (xsClose.getD 10 stp0).tv) (es:=fun _ _=>[]) (ds:=[]) (fun _ h=>nomatch h) (fun B c p ω sz tk=>⟨by kernel_rfl⟩) hA ho fun s' g=>wpAny_bind (wpAny_standAt (wpAny_pure (h s' g))))⟩
theorem pClose11 (w:World) (loc:Nat) (fr:Option Nat):PairOk w (eval (kClose 11) (stepEnv 65 qClose 1018 1017 loc fr)) (do let x ←eval (vClose 11) (stepEnv 65 qClose 1018 1017 loc fr);standAt (stepPos (fS 65));pure x) (xsClose.getD 11 stp0):=
  ⟨by rfl,fun A E s Q hA ho h=>evalS (n:=20) (hs:=List.replicate 10 0) (is:=[0]) (v:=fun sz=> .ref sz) (es:=fun sz tk=>[(sz,tupO {xsClose.getD 11 stp0 with tb:=tk})]) (ds:=[]) (fun _ h=>nomatch h) (fun B c p ω sz tk=>⟨by kernel_rfl⟩) hA ho (fun s' g=>h s' _ g),
   fun A E s Q hA ho h=>wpAny_bind (evalS (n:=20) (hs:=List.replicate 10 0) (is:=[]) (v:=fun _=> .str (xsClose.getD 11 stp0).v (xsClose.getD 11 stp0).tv) (es:=fun _ _=>[]) (ds:=[]) (fun _ h=>nomatch h) (fun B c p ω sz tk=>⟨by kernel_rfl⟩) hA ho fun s' g=>wpAny_bind (wpAny_standAt (wpAny_pure (h s' g))))⟩
theorem pClose12 (w:World) (loc:Nat) (fr:Option Nat):PairOk w (eval (kClose 12) (stepEnv 65 qClose 1018 1017 loc fr)) (do let x ←eval (vClose 12) (stepEnv 65 qClose 1018 1017 loc fr);standAt (stepPos (fS 65));pure x) (xsClose.getD 12 stp0):=
  ⟨by rfl,fun A E s Q hA ho h=>evalS (n:=20) (hs:=List.replicate 10 0) (is:=[0]) (v:=fun sz=> .ref sz) (es:=fun sz tk=>[(sz,tupO {xsClose.getD 12 stp0 with tb:=tk})]) (ds:=[]) (fun _ h=>nomatch h) (fun B c p ω sz tk=>⟨by kernel_rfl⟩) hA ho (fun s' g=>h s' _ g),
   fun A E s Q hA ho h=>wpAny_bind (evalS (n:=20) (hs:=List.replicate 10 0) (is:=[]) (v:=fun _=> .str (xsClose.getD 12 stp0).v (xsClose.getD 12 stp0).tv) (es:=fun _ _=>[]) (ds:=[]) (fun _ h=>nomatch h) (fun B c p ω sz tk=>⟨by kernel_rfl⟩) hA ho fun s' g=>wpAny_bind (wpAny_standAt (wpAny_pure (h s' g))))⟩
theorem pClose13 (w:World) (loc:Nat) (fr:Option Nat):PairOk w (eval (kClose 13) (stepEnv 65 qClose 1018 1017 loc fr)) (do let x ←eval (vClose 13) (stepEnv 65 qClose 1018 1017 loc fr);standAt (stepPos (fS 65));pure x) (xsClose.getD 13 stp0):=
  ⟨by rfl,fun A E s Q hA ho h=>evalS (n:=20) (hs:=List.replicate 10 0) (is:=[0]) (v:=fun sz=> .ref sz) (es:=fun sz tk=>[(sz,tupO {xsClose.getD 13 stp0 with tb:=tk})]) (ds:=[]) (fun _ h=>nomatch h) (fun B c p ω sz tk=>⟨by kernel_rfl⟩) hA ho (fun s' g=>h s' _ g),
   fun A E s Q hA ho h=>wpAny_bind (evalS (n:=20) (hs:=List.replicate 10 0) (is:=[]) (v:=fun _=> .str (xsClose.getD 13 stp0).v (xsClose.getD 13 stp0).tv) (es:=fun _ _=>[]) (ds:=[]) (fun _ h=>nomatch h) (fun B c p ω sz tk=>⟨by kernel_rfl⟩) hA ho fun s' g=>wpAny_bind (wpAny_standAt (wpAny_pure (h s' g))))⟩
theorem pClose14 (w:World) (loc:Nat) (fr:Option Nat):PairOk w (eval (kClose 14) (stepEnv 65 qClose 1018 1017 loc fr)) (do let x ←eval (vClose 14) (stepEnv 65 qClose 1018 1017 loc fr);standAt (stepPos (fS 65));pure x) (xsClose.getD 14 stp0):=
  ⟨by rfl,fun A E s Q hA ho h=>evalS (n:=20) (hs:=List.replicate 10 0) (is:=[0]) (v:=fun sz=> .ref sz) (es:=fun sz tk=>[(sz,tupO {xsClose.getD 14 stp0 with tb:=tk})]) (ds:=[]) (fun _ h=>nomatch h) (fun B c p ω sz tk=>⟨by kernel_rfl⟩) hA ho (fun s' g=>h s' _ g),
   fun A E s Q hA ho h=>wpAny_bind (evalS (n:=20) (hs:=List.replicate 10 0) (is:=[]) (v:=fun _=> .str (xsClose.getD 14 stp0).v (xsClose.getD 14 stp0).tv) (es:=fun _ _=>[]) (ds:=[]) (fun _ h=>nomatch h) (fun B c p ω sz tk=>⟨by kernel_rfl⟩) hA ho fun s' g=>wpAny_bind (wpAny_standAt (wpAny_pure (h s' g))))⟩
theorem pClose15 (w:World) (loc:Nat) (fr:Option Nat):PairOk w (eval (kClose 15) (stepEnv 65 qClose 1018 1017 loc fr)) (do let x ←eval (vClose 15) (stepEnv 65 qClose 1018 1017 loc fr);standAt (stepPos (fS 65));pure x) (xsClose.getD 15 stp0):=
  ⟨by rfl,fun A E s Q hA ho h=>evalS (n:=20) (hs:=List.replicate 10 0) (is:=[0]) (v:=fun sz=> .ref sz) (es:=fun sz tk=>[(sz,tupO {xsClose.getD 15 stp0 with tb:=tk})]) (ds:=[]) (fun _ h=>nomatch h) (fun B c p ω sz tk=>⟨by kernel_rfl⟩) hA ho (fun s' g=>h s' _ g),
   fun A E s Q hA ho h=>wpAny_bind (evalS (n:=20) (hs:=List.replicate 10 0) (is:=[]) (v:=fun _=> .str (xsClose.getD 15 stp0).v (xsClose.getD 15 stp0).tv) (es:=fun _ _=>[]) (ds:=[]) (fun _ h=>nomatch h) (fun B c p ω sz tk=>⟨by kernel_rfl⟩) hA ho fun s' g=>wpAny_bind (wpAny_standAt (wpAny_pure (h s' g))))⟩
theorem pClose16 (w:World) (loc:Nat) (fr:Option Nat):PairOk w (eval (kClose 16) (stepEnv 65 qClose 1018 1017 loc fr)) (do let x ←eval (vClose 16) (stepEnv 65 qClose 1018 1017 loc fr);standAt (stepPos (fS 65));pure x) (xsClose.getD 16 stp0):=
  ⟨by rfl,fun A E s Q hA ho h=>evalS (n:=20) (hs:=List.replicate 10 0) (is:=[0]) (v:=fun sz=> .ref sz) (es:=fun sz tk=>[(sz,tupO {xsClose.getD 16 stp0 with tb:=tk})]) (ds:=[]) (fun _ h=>nomatch h) (fun B c p ω sz tk=>⟨by kernel_rfl⟩) hA ho (fun s' g=>h s' _ g),
   fun A E s Q hA ho h=>wpAny_bind (evalS (n:=20) (hs:=List.replicate 10 0) (is:=[]) (v:=fun _=> .str (xsClose.getD 16 stp0).v (xsClose.getD 16 stp0).tv) (es:=fun _ _=>[]) (ds:=[]) (fun _ h=>nomatch h) (fun B c p ω sz tk=>⟨by kernel_rfl⟩) hA ho fun s' g=>wpAny_bind (wpAny_standAt (wpAny_pure (h s' g))))⟩
theorem pClose17 (w:World) (loc:Nat) (fr:Option Nat):PairOk w (eval (kClose 17) (stepEnv 65 qClose 1018 1017 loc fr)) (do let x ←eval (vClose 17) (stepEnv 65 qClose 1018 1017 loc fr);standAt (stepPos (fS 65));pure x) (xsClose.getD 17 stp0):=
  ⟨by rfl,fun A E s Q hA ho h=>evalS (n:=20) (hs:=List.replicate 10 0) (is:=[0]) (v:=fun sz=> .ref sz) (es:=fun sz tk=>[(sz,tupO {xsClose.getD 17 stp0 with tb:=tk})]) (ds:=[]) (fun _ h=>nomatch h) (fun B c p ω sz tk=>⟨by kernel_rfl⟩) hA ho (fun s' g=>h s' _ g),
   fun A E s Q hA ho h=>wpAny_bind (evalS (n:=20) (hs:=List.replicate 10 0) (is:=[]) (v:=fun _=> .str (xsClose.getD 17 stp0).v (xsClose.getD 17 stp0).tv) (es:=fun _ _=>[]) (ds:=[]) (fun _ h=>nomatch h) (fun B c p ω sz tk=>⟨by kernel_rfl⟩) hA ho fun s' g=>wpAny_bind (wpAny_standAt (wpAny_pure (h s' g))))⟩
end
end Mine
namespace Mine
open PySem PySem.W
noncomputable section
noncomputable def prOf (k v:Nat→PySem.Expr) (e:PySem.Env) (p:Pos) (i:Nat):Sem Value×Sem Value:=(eval (k i) e,do let x ←eval (v i) e;standAt p;pure x)
theorem nodupOpen:(xsOpen.map kOf).Nodup:=by decide+kernel
theorem nodupClose:((xsClose.take 17).map kOf++[kOf (xsClose.getD 17 stp0)]).Nodup:=by decide+kernel
theorem someOpen (e:PySem.Env) (p:Pos):pairTrees (stepKeys (fS 64)) (stepVals (fS 64)) e p = [prOf kOpen vOpen e p 0,prOf kOpen vOpen e p 1,prOf kOpen vOpen e p 2,prOf kOpen vOpen e p 3,prOf kOpen vOpen e p 4,prOf kOpen vOpen e p 5,prOf kOpen vOpen e p 6]:=by
  rw [keysOpen,valsOpen]
  rfl
theorem someClose (e:PySem.Env) (p:Pos):pairTrees (stepKeys (fS 65)) (stepVals (fS 65)) e p = [prOf kClose vClose e p 0,prOf kClose vClose e p 1,prOf kClose vClose e p 2,prOf kClose vClose e p 3,prOf kClose vClose e p 4,prOf kClose vClose e p 5,prOf kClose vClose e p 6,prOf kClose vClose e p 7,prOf kClose vClose e p 8,prOf kClose vClose e p 9,prOf kClose vClose e p 10,prOf kClose vClose e p 11,prOf kClose vClose e p 12,prOf kClose vClose e p 13,prOf kClose vClose e p 14,prOf kClose vClose e p 15]++[prOf kClose vClose e p 16,prOf kClose vClose e p 17]:=by
  rw [keysClose,valsClose]
  rfl
theorem xsOpen_is:xsOpen = [xsOpen.getD 0 stp0,xsOpen.getD 1 stp0,xsOpen.getD 2 stp0,xsOpen.getD 3 stp0,xsOpen.getD 4 stp0,xsOpen.getD 5 stp0,xsOpen.getD 6 stp0]:=by rfl
theorem xsClose_is:xsClose.take 17 = [xsClose.getD 0 stp0,xsClose.getD 1 stp0,xsClose.getD 2 stp0,xsClose.getD 3 stp0,xsClose.getD 4 stp0,xsClose.getD 5 stp0,xsClose.getD 6 stp0,xsClose.getD 7 stp0,xsClose.getD 8 stp0,xsClose.getD 9 stp0,xsClose.getD 10 stp0,xsClose.getD 11 stp0,xsClose.getD 12 stp0,xsClose.getD 13 stp0,xsClose.getD 14 stp0,xsClose.getD 15 stp0,xsClose.getD 16 stp0]:=by rfl
theorem pairsOpen (w:World) (loc:Nat) (fr:Option Nat):PairsOk w [prOf kOpen vOpen (stepEnv 64 qOpen 1011 1010 loc fr) (stepPos (fS 64)) 0,prOf kOpen vOpen (stepEnv 64 qOpen 1011 1010 loc fr) (stepPos (fS 64)) 1,prOf kOpen vOpen (stepEnv 64 qOpen 1011 1010 loc fr) (stepPos (fS 64)) 2,prOf kOpen vOpen (stepEnv 64 qOpen 1011 1010 loc fr) (stepPos (fS 64)) 3,prOf kOpen vOpen (stepEnv 64 qOpen 1011 1010 loc fr) (stepPos (fS 64)) 4,prOf kOpen vOpen (stepEnv 64 qOpen 1011 1010 loc fr) (stepPos (fS 64)) 5,prOf kOpen vOpen (stepEnv 64 qOpen 1011 1010 loc fr) (stepPos (fS 64)) 6] xsOpen:=by
  rw [xsOpen_is]
  exact ⟨pOpen0 w loc fr,pOpen1 w loc fr,pOpen2 w loc fr,pOpen3 w loc fr,pOpen4 w loc fr,pOpen5 w loc fr,pOpen6 w loc fr,trivial⟩
theorem pairsClose (w:World) (loc:Nat) (fr:Option Nat):PairsOk w ([prOf kClose vClose (stepEnv 65 qClose 1018 1017 loc fr) (stepPos (fS 65)) 0,prOf kClose vClose (stepEnv 65 qClose 1018 1017 loc fr) (stepPos (fS 65)) 1,prOf kClose vClose (stepEnv 65 qClose 1018 1017 loc fr) (stepPos (fS 65)) 2,prOf kClose vClose (stepEnv 65 qClose 1018 1017 loc fr) (stepPos (fS 65)) 3,prOf kClose vClose (stepEnv 65 qClose 1018 1017 loc fr) (stepPos (fS 65)) 4,prOf kClose vClose (stepEnv 65 qClose 1018 1017 loc fr) (stepPos (fS 65)) 5,prOf kClose vClose (stepEnv 65 qClose 1018 1017 loc fr) (stepPos (fS 65)) 6,prOf kClose vClose (stepEnv 65 qClose 1018 1017 loc fr) (stepPos (fS 65)) 7,prOf kClose vClose (stepEnv 65 qClose 1018 1017 loc fr) (stepPos (fS 65)) 8,prOf kClose vClose (stepEnv 65 qClose 1018 1017 loc fr) (stepPos (fS 65)) 9,prOf kClose vClose (stepEnv 65 qClose 1018 1017 loc fr) (stepPos (fS 65)) 10,prOf kClose vClose (stepEnv 65 qClose 1018 1017 loc fr) (stepPos (fS 65)) 11,prOf kClose vClose (stepEnv 65 qClose 1018 1017 loc fr) (stepPos (fS 65)) 12,prOf kClose vClose (stepEnv 65 qClose 1018 1017 loc fr) (stepPos (fS 65)) 13,prOf kClose vClose (stepEnv 65 qClose 1018 1017 loc fr) (stepPos (fS 65)) 14,prOf kClose vClose (stepEnv 65 qClose 1018 1017 loc fr) (stepPos (fS 65)) 15]++[prOf kClose vClose (stepEnv 65 qClose 1018 1017 loc fr) (stepPos (fS 65)) 16]) (xsClose.take 17):=by
  rw [xsClose_is]
  exact ⟨pClose0 w loc fr,pClose1 w loc fr,pClose2 w loc fr,pClose3 w loc fr,pClose4 w loc fr,pClose5 w loc fr,pClose6 w loc fr,pClose7 w loc fr,pClose8 w loc fr,pClose9 w loc fr,pClose10 w loc fr,pClose11 w loc fr,pClose12 w loc fr,pClose13 w loc fr,pClose14 w loc fr,pClose15 w loc fr,pClose16 w loc fr,trivial⟩
theorem fnOpen (w:World):FnOk w 64 qOpen 1011 1010 xsOpen where
  body:=body64
  wp:=by
    intro loc fr A E s Q hA hu ho hbig h
    rw [arm_eval_Dict,zip_pairTrees _ _ _ _ (by rw [keysOpen];rfl) (by rw [keysOpen,valsOpen];rfl)]
    refine wpAny_bind (wpAny_standAt ?_)
    rw [someOpen]
    exact display_short hA hu (pairsOpen w loc fr) (fun e=>by cases e) (by simp) nodupOpen ho h
theorem xsClose_all:xsClose = xsClose.take 17++[xsClose.getD 17 stp0]:=by kernel_rfl
theorem zipClose (e:PySem.Env) (p:Pos):((evalEachOpt (stepKeys (fS 65)) e).zip ((evalEach (stepVals (fS 65)) e).map fun v=>do let x ←v;standAt p;pure x)) = (pairTrees (stepKeys (fS 65)) (stepVals (fS 65)) e p).map fun p=>(some p.1,p.2):=
  zip_pairTrees _ _ _ _ (by rw [keysClose];rfl) (by rw [keysClose,valsClose];rfl)
theorem disp18 {w:World} {A:Around} {E:Value→Shared→Prop} {s:Shared} {Q:Value→Shared→Prop} {L ps:List (Sem Value×Sem Value)} {p q:Sem Value×Sem Value} {xs all:List Stp} {x:Stp} (e:L = ps++[p,q]) (ex:all = xs++[x]) (hA:A.handled = none) (hu:A.units < cLine)
    (hp:PairsOk w (ps++[p]) xs) (hq:PairsOk w [q] [x]) (h16:ps.length = 16) (hn:(xs.map kOf++[kOf x]).Nodup) (ho:Olds w s.heap) (hbig:2≤s.heap.objs.size)
    (h:∀s' N,N.map z0 = all→Inv w s s.heap.objs.size N [] s'→Q (.ref s.heap.objs.size) s'):wpAny (MW w) A (dictDisplay (L.map fun p=>(some p.1,p.2))) Q E s:=by
  subst e ex
  exact display_long hA hu hp hq h16 hn ho hbig h
noncomputable def ps16 (e:PySem.Env) (p:Pos):List (Sem Value×Sem Value):=[prOf kClose vClose e p 0,prOf kClose vClose e p 1,prOf kClose vClose e p 2,prOf kClose vClose e p 3,prOf kClose vClose e p 4,prOf kClose vClose e p 5,prOf kClose vClose e p 6,prOf kClose vClose e p 7,prOf kClose vClose e p 8,prOf kClose vClose e p 9,prOf kClose vClose e p 10,prOf kClose vClose e p 11,prOf kClose vClose e p 12,prOf kClose vClose e p 13,prOf kClose vClose e p 14,prOf kClose vClose e p 15]
theorem someClose2 (e:PySem.Env) (p:Pos):pairTrees (stepKeys (fS 65)) (stepVals (fS 65)) e p = ps16 e p++[prOf kClose vClose e p 16,prOf kClose vClose e p 17]:=someClose e p
theorem pairsClose2 (w:World) (loc:Nat) (fr:Option Nat):PairsOk w (ps16 (stepEnv 65 qClose 1018 1017 loc fr) (stepPos (fS 65))++[prOf kClose vClose (stepEnv 65 qClose 1018 1017 loc fr) (stepPos (fS 65)) 16]) (xsClose.take 17):=pairsClose w loc fr
theorem pairsClose3 (w:World) (loc:Nat) (fr:Option Nat):PairsOk w [prOf kClose vClose (stepEnv 65 qClose 1018 1017 loc fr) (stepPos (fS 65)) 17] [xsClose.getD 17 stp0]:=⟨pClose17 w loc fr,trivial⟩
theorem len16 (e:PySem.Env) (p:Pos):(ps16 e p).length = 16:=rfl
theorem dictEval {w:World} {A:Around} {E:Value→Shared→Prop} {s:Shared} {Q:Value→Shared→Prop} {keys:List (Option PySem.Expr)} {vals:List PySem.Expr} {pos:Pos} {env:PySem.Env} {L:List (Sem Value×Sem Value)}
    (hz:((evalEachOpt keys env).zip ((evalEach vals env).map fun v=>do let x ←v;standAt pos;pure x)) = L.map fun p=>(some p.1,p.2))
    (h:wpAny (MW w) A (dictDisplay (L.map fun p=>(some p.1,p.2))) Q E s):wpAny (MW w) A (eval (.Dict keys vals pos) env) Q E s:=by
  rw [arm_eval_Dict,hz]
  exact wpAny_bind (wpAny_standAt h)
theorem dC {w:World} {loc:Nat} {fr:Option Nat} {A:Around} {E:Value→Shared→Prop} {s:Shared} {Q:Value→Shared→Prop} (hA:A.handled = none) (hu:A.units < cLine) (ho:Olds w s.heap) (hbig:2≤s.heap.objs.size)
    (h:∀s' N,N.map z0 = xsClose→Inv w s s.heap.objs.size N [] s'→Q (.ref s.heap.objs.size) s'):
    wpAny (MW w) A (dictDisplay ((pairTrees (stepKeys (fS 65)) (stepVals (fS 65)) (stepEnv 65 qClose 1018 1017 loc fr) (stepPos (fS 65))).map fun p=>(some p.1,p.2))) Q E s:=
  @disp18 w A E s Q (pairTrees (stepKeys (fS 65)) (stepVals (fS 65)) (stepEnv 65 qClose 1018 1017 loc fr) (stepPos (fS 65))) (ps16 (stepEnv 65 qClose 1018 1017 loc fr) (stepPos (fS 65))) (prOf kClose vClose (stepEnv 65 qClose 1018 1017 loc fr) (stepPos (fS 65)) 16) (prOf kClose vClose (stepEnv 65 qClose 1018 1017 loc fr) (stepPos (fS 65)) 17) (xsClose.take 17) xsClose (xsClose.getD 17 stp0) (someClose2 _ _) xsClose_all hA hu (pairsClose2 w loc fr) (pairsClose3 w loc fr) (len16 _ _) nodupClose ho hbig h
theorem fnClose (w:World):FnOk w 65 qClose 1018 1017 xsClose:=
  ⟨body65,fun loc fr A E s Q hA hu ho hbig h=>@dictEval w A E s Q (stepKeys (fS 65)) (stepVals (fS 65)) (stepPos (fS 65)) (stepEnv 65 qClose 1018 1017 loc fr) (pairTrees (stepKeys (fS 65)) (stepVals (fS 65)) (stepEnv 65 qClose 1018 1017 loc fr) (stepPos (fS 65))) (zipClose _ _) (@dC w loc fr A E s Q hA hu ho hbig h)⟩
end
end Mine
namespace Mine
noncomputable section
open PySem PySem.W PyProof.Rows
noncomputable def arrO (o:Obj):Array Value:=match o.data with
  | .seq vs _=>vs
  | _=>#[]
noncomputable def cntO (o:Obj):Nat:=match o.data with
  | .seq _ n=>n
  | _=>0
noncomputable def slotIn (o:Obj):Obj:=⟨.type "list",none,.seq (arrO o) (cntO o),⟨[]⟩⟩
noncomputable def slotF (g:Array Value→Array Value) (b:Bool) (o:Obj):Obj:=⟨.type "list",none,.seq (cond b (g (arrO o)) (arrO o)) (cond b (cntO o+1) (cntO o)),⟨[]⟩⟩
noncomputable def selN {α:Type} (d:α):List α→Nat→Nat→α
  | [],_,_=>d
  | x::r,i,k=>cond (Nat.beq k i) x (selN d r (i+1) k)
theorem selN_at {α:Type} {d x:α}:∀{l:List α} {i j:Nat},l[j]? = some x→selN d l i (i+j) = x
  | [],i,j,h=>by simp at h
  | y::r,i,0,h=>by
    rw [List.getElem?_cons_zero] at h
    injection h with h
    show cond (Nat.beq i i) y _ = x
    rw [Nat.beq_refl]
    exact h
  | y ::r,i,j+1,h=>by
    rw [List.getElem?_cons_succ] at h
    have q:Nat.beq (i+(j+1)) i = false:=by
      rw [BT.beq_eq]
      exact decide_eq_false (by omega)
    show cond (Nat.beq (i+(j+1)) i) y (selN d r (i+1) (i+(j+1))) = x
    rw [q,show i+(j+1) = i+1+j by omega]
    exact selN_at h
noncomputable def updN (g:Array Value→Array Value):List Ent→Nat→Nat→List Ent
  | [],_,_=>[]
  | e::r,i,k=>(e.1,slotF g (Nat.beq k i) e.2)::updN g r (i+1) k
theorem updN_len (g:Array Value→Array Value):∀(l:List Ent) (i k:Nat),(updN g l i k).length = l.length
  | [],_,_=>rfl
  | e::r,i,k=>by unfold updN;rw [List.length_cons,List.length_cons,updN_len g r]
theorem updN_get (g:Array Value→Array Value):∀(l:List Ent) (i k j:Nat),(updN g l i k)[j]? = (l[j]?).map fun e=>(e.1,slotF g (Nat.beq k (i+j)) e.2)
  | [],_,_,j=>by simp [updN]
  | e::r,i,k,0=>by simp [updN]
  | e::r,i,k,j+1=>by
    unfold updN
    rw [List.getElem?_cons_succ,List.getElem?_cons_succ,updN_get g r (i+1) k j,show i+1+j = i+(j+1) by omega]
noncomputable def getN (T:Tr Ent):Nat→Nat→Option (List Ent)
  | _,0=>some []
  | i,n+1=>match T.get i with
    | some e=>match getN T (i+1) n with
      | some es=>some (e::es)
      | none=>none
    | none=>none
theorem getN_is {T:Tr Ent}:∀{n i:Nat} {es:List Ent},getN T i n = some es→es.length = n∧∀j e,es[j]? = some e→T.get (i+j) = some e
  | 0,i,es,h=>by
    cases h
    exact ⟨rfl,fun j e q=>by simp at q⟩
  | n + 1,i,es,h=>by
    unfold getN at h
    split at h
    · rename_i e0 he
      split at h
      · rename_i r hr
        cases h
        obtain ⟨h1,h2⟩:=getN_is hr
        refine ⟨by rw [List.length_cons,h1],fun j e q=>?_⟩
        cases j with
        | zero=>
          rw [List.getElem?_cons_zero] at q
          cases q
          exact he
        | succ j=>
          rw [List.getElem?_cons_succ] at q
          rw [show i+(j+1) = i+1+j by omega]
          exact h2 j e q
      · cases h
    · cases h
theorem Tr.ins_some {α:Type} (o:α):∀(t:Tr α) (a:Nat),(t.get a).isSome = true→((t.ins a o).get a).isSome = true
  | .nil,a,h=>by cases h
  | .node v l r,a,h=>by
    rw [get_node] at h
    rw [ins_node]
    by_cases ha:a = 0
    · rw [if_pos ha,get_node,if_pos ha];rfl
    · rw [if_neg ha] at h
      rw [if_neg ha]
      by_cases pa:a % 2 = 1
      · rw [if_pos pa] at h
        rw [if_pos pa,get_node,if_neg ha,if_pos pa]
        exact Tr.ins_some o l _ h
      · rw [if_neg pa] at h
        rw [if_neg pa,get_node,if_neg ha,if_neg pa]
        exact Tr.ins_some o r _ h
section
variable {b:Bs} {sz tk m:Nat} {T T2:Tr Ent} {s:Shared}
theorem Rel.congr (r:Rel b sz tk m T s) (h:∀i,T2.get i = T.get i):Rel b sz tk m T2 s:=
  ⟨r.size,r.toks,r.gens,r.drawn,r.os,fun i a o e=>r.own i a o (h i▸e),fun i j a o o' e e'=>r.inj i j a o o' (h i▸e) (h j▸e'),r.keep,r.grow⟩
theorem Rel.updN (r:Rel b sz tk m T s) {base n k a:Nat} {o:Obj} {es:List Ent} {f:Obj→Obj} {g:Array Value→Array Value} (h:getN T base n = some es) (hk:es[k]? = some (a,o))
    (hf:f o = slotF g true o) (hz:∀e∈es,e.2 = slotIn e.2) (h2:insL base (updN g es 0 k) T = some T2):Rel b sz tk m T2 {s with heap:=s.heap.update a f}:=by
  obtain ⟨h1,h3⟩:=getN_is h
  have hT:=h3 k _ hk
  have hs:=Tr.ins_some (a,f o) T (base+k) (by rw [hT];rfl)
  obtain ⟨e',he'⟩:=Option.isSome_iff_exists.mp hs
  have r':=r.update hT (by rw [hf];rfl) he'
  refine r'.congr fun i=>?_
  rw [insL_get h2,Tr.get_ins _ _ _ hs,updN_len]
  by_cases q:base≤i∧i < base+es.length
  · rw [if_pos q,updN_get,Nat.zero_add]
    have hlt:i - base < es.length:=by omega
    have z:=h3 (i - base) _ (List.getElem?_eq_getElem hlt)
    rw [show base+(i - base) = i by omega] at z
    by_cases e:i = base+k
    · rw [if_pos e]
      subst e
      rw [Nat.add_sub_cancel_left,hk,hf]
      show some (a,slotF g (Nat.beq k k) o) = _
      rw [Nat.beq_refl]
    · rw [if_neg e,z,List.getElem?_eq_getElem hlt]
      have:Nat.beq k (i - base) = false:=by
        rw [BT.beq_eq]
        exact decide_eq_false (by omega)
      show some (es[i - base].1,slotF g (Nat.beq k (i - base)) es[i - base].2) = some es[i - base]
      rw [this]
      have:=hz _ (List.getElem_mem hlt)
      show some (es[i - base].1,slotIn es[i - base].2) = _
      rw [←this]
  · rw [if_neg q,if_neg (by
      have:=(List.getElem?_eq_some_iff.mp hk).1
      omega)]
end
noncomputable def refV:Value→Nat
  | .ref x=>x
  | _=>0
noncomputable def isRef:Value→Bool
  | .ref _=>true
  | _=>false
theorem refs_at:∀{l:List Value} {j i:Nat},l.all isRef = true→j < l.length→l[j]? = some (.ref (selN 0 (l.map refV) i (i+j)))
  | [],j,i,_,h=>absurd h (Nat.not_lt_zero _)
  | v ::r,j,i,h,hj=>by
    have hj':j < (v::r).length:=hj
    have e:((v::r).map refV)[j]? = some (refV (v::r)[j]):=by rw [List.getElem?_map,List.getElem?_eq_getElem hj'];rfl
    rw [selN_at e,List.getElem?_eq_getElem hj']
    have:=List.all_eq_true.mp h _ (List.getElem_mem hj')
    unfold isRef at this
    split at this
    · rename_i x hx
      rw [hx];rfl
    · cases this
noncomputable def icGetAt:Icpt:=fun _ _ c hs sz tk m T=>match c with
  | .call (.builtin id) ⟨[.ref a,.int k _],[]⟩=>match Nat.beq (PySem.code id) nGet with
    | true=>match hs with
      | i ::hs=>match T.get i with
        | some e=>match e with
          | ⟨a',⟨.type nm,_,.seq arr _,_⟩⟩=>match Nat.beq (PySem.code nm) nList with
            | true=>some ⟨.ok (.ret (.ref (selN 0 (arr.toList.map refV) 0 k.toNat))),hs,sz,tk,m,T,[(.n a,.n a')],[decide (0≤k),decide (k < 2 ^ 63),Nat.blt k.toNat arr.toList.length,arr.toList.all isRef]⟩
            | false=>none
          | _=>none
        | none=>none
      | _=>none
    | false=>none
  | _=>none
noncomputable def trLoadAt:Tcpt:=fun _ _ _ t hs sz tk m T=>match t with
  | .load a _ K=>match hs with
    | k::base::hs=>match getN T base 16 with
      | some es=>some ⟨K (slotIn (selN default (es.map (·.2)) 0 k)),hs,sz,tk,m,T,(.n a,.n (selN 0 (es.map (·.1)) 0 k))::es.map (fun e=>(.o e.2,.o (slotIn e.2))),[Nat.blt k 16]⟩
      | none=>none
    | _=>none
  | _=>none
noncomputable def isI:Value→Bool
  | .int _ _=>true
  | _=>false
noncomputable def eqI (x:Int):Value→Bool
  | .int y _=>y == x
  | _=>false
noncomputable def hasI (x:Int) (o:Obj):Bool:=(arrO o).toList.all isI && (arrO o).toList.any (eqI x)
noncomputable def remA (x:Int) (arr:Array Value):Array Value:=arr.eraseIdxIfInBounds (arr.toList.findIdx (eqI x))
noncomputable def nRemove:Nat:=123874469202662358538021485
noncomputable def nHas:Nat:=32795317678217157189674408721764467370605
noncomputable def icHasAt:Icpt:=fun _ _ c hs sz tk m T=>match c with
  | .call (.builtin id) ⟨[.ref a,.int x _],[]⟩=>match Nat.beq (PySem.code id) nHas with
    | true=>match hs with
      | k::base::hs=>match getN T base 16 with
        | some es=>some ⟨.ok (.ret (.bool true)),hs,sz,tk,m,T,(.n a,.n (selN 0 (es.map (·.1)) 0 k))::es.map (fun e=>(.o e.2,.o (slotIn e.2))),[Nat.blt k 16,hasI x (selN default (es.map (·.2)) 0 k)]⟩
        | none=>none
      | _=>none
    | false=>none
  | _=>none
noncomputable def icRemAt:Icpt:=fun _ _ c hs sz tk m T=>match c with
  | .call (.builtin id) ⟨[.ref a,.int x _],[]⟩=>match Nat.beq (PySem.code id) nRemove with
    | true => match hs with
      | k ::base::hs=>match getN T base 16 with
        | some es=>match insL base (updN (remA x) es 0 k) T with
          | some T2=>some ⟨.ok (.ret .none),hs,sz,tk,m,T2,(.n a,.n (selN 0 (es.map (·.1)) 0 k))::es.map (fun e=>(.o e.2,.o (slotIn e.2))),
              [Nat.blt k 16,hasI x (selN default (es.map (·.2)) 0 k),Nat.ble (arrO (selN default (es.map (·.2)) 0 k)).size 1000]⟩
          | none=>none
        | none=>none
      | _=>none
    | false=>none
  | _=>none
noncomputable def icAppAt:Icpt:=fun _ _ c hs sz tk m T=>match c with
  | .call (.builtin id) ⟨[.ref a,v],[]⟩=>match Nat.beq (PySem.code id) nAppend with
    | true => match hs with
      | k ::base::hs=>match getN T base 16 with
        | some es=>match insL base (updN (fun xs=>xs.push v) es 0 k) T with
          | some T2=>some ⟨.ok (.ret .none),hs,sz,tk,m,T2,(.n a,.n (selN 0 (es.map (·.1)) 0 k))::es.map (fun e=>(.o e.2,.o (slotIn e.2))),
              [Nat.blt k 16,Nat.ble (arrO (selN default (es.map (·.2)) 0 k)).size 1000]⟩
          | none=>none
        | none=>none
      | _=>none
    | false=>none
  | _=>none
section
variable {V:Vw} {prog:Program} {w:World} {b:Bs} {sz tk m:Nat} {T:Tr Ent} {s:Shared}
theorem at_of {base k a:Nat} {es:List Ent} (r:Rel b sz tk m T s) (h:getN T base 16 = some es) (hk:Nat.blt k 16 = true) (ha:a = selN 0 (es.map (·.1)) 0 k) (hz:∀e∈es,e.2 = slotIn e.2):
    es[k]? = some (a,selN default (es.map (·.2)) 0 k)∧s.heap.get? a = some (slotIn (selN default (es.map (·.2)) 0 k)):=by
  obtain ⟨h1,h2⟩:=getN_is h
  have hlt:k < 16:=Nat.le_of_ble_eq_true hk
  have hl:k < es.length:=by omega
  have e0:=List.getElem?_eq_getElem hl
  have e1:selN 0 (es.map (·.1)) 0 k = es[k].1:=by
    have:=selN_at (d:=0) (i:=0) (show (es.map (·.1))[k]? = some es[k].1 by rw [List.getElem?_map,e0];rfl)
    rwa [Nat.zero_add] at this
  have e2:selN default (es.map (·.2)) 0 k = es[k].2:=by
    have:=selN_at (d:=default) (i:=0) (show (es.map (·.2))[k]? = some es[k].2 by rw [List.getElem?_map,e0];rfl)
    rwa [Nat.zero_add] at this
  have q:es[k]? = some (a,selN default (es.map (·.2)) 0 k):=by rw [ha,e1,e2,e0]
  refine ⟨q,?_⟩
  have z:=(r.own _ _ _ (h2 k _ q)).2.1
  have w:=hz _ (List.getElem_mem hl)
  rw [e2] at z ⊢
  rw [←w]
  exact z
theorem obs_slot {es:List Ent} {x:Ob×Ob} (h:∀y∈x::es.map (fun e=>(Ob.o e.2,Ob.o (slotIn e.2))),y.1 = y.2):∀e∈es,e.2 = slotIn e.2:=by
  intro e he
  have:=h (.o e.2,.o (slotIn e.2)) (.tail _ (List.mem_map.mpr ⟨e,he,rfl⟩))
  injection this
theorem icGetAt_ok:IcOk V (model prog w) b icGetAt:=by
  intro Γ c hs sz tk m T p s R κ _ _ _ r H
  obtain ⟨y,e,hob,hd,hR⟩:=H fun _=>0
  unfold icGetAt at e
  split at e <;> try cases e
  rename_i id a k kt
  split at e <;> try cases e
  rename_i hid
  have hid':id = "list.__getitem__":=PySem.code_inj _ _ ((Nat.eq_of_beq_eq_true hid).trans (by decide+kernel))
  subst hid'
  split at e <;> try cases e
  rename_i i hs'
  split at e <;> try cases e
  rename_i e1 hT
  split at e <;> try cases e
  rename_i a' nm d arr n sl
  split at e <;> try cases e
  rename_i hnm
  have hnm':nm = "list":=PySem.code_inj _ _ ((Nat.eq_of_beq_eq_true hnm).trans (by decide+kernel))
  subst hnm'
  have q0:=hob _ (.head _)
  have qa:a = a':=by injection q0
  subst qa
  have q1:decide (0≤k) = true:=hd _ (.head _)
  have q2:decide (k < 2 ^ 63) = true:=hd _ (.tail _ (.head _))
  have q3:Nat.blt k.toNat arr.toList.length = true:=hd _ (.tail _ (.tail _ (.head _)))
  have q4:arr.toList.all isRef = true:=hd _ (.tail _ (.tail _ (.tail _ (.head _))))
  have q5:=refs_at (i:=0) q4 (Nat.le_of_ble_eq_true q3)
  rw [Nat.zero_add,Array.getElem?_toList] at q5
  exact ic_call (get_call ⟨_,(r.own _ _ _ hT).2.1,rfl,n,rfl⟩ (of_decide_eq_true q1) (of_decide_eq_true q2) q5 (hR s r))
theorem trLoadAt_ok:TcOk V (model prog w) b trLoadAt:=by
  intro Γ c t hs sz tk m T p s R κ hc hbel _ r H
  obtain ⟨y,e,hob,hd,hR⟩:=H fun _=>0
  unfold trLoadAt at e
  split at e <;> try cases e
  rename_i a q K
  split at e <;> try cases e
  rename_i k base hs'
  split at e <;> try cases e
  rename_i es hg
  have ha:a = selN 0 (es.map (·.1)) 0 k:=by injection hob _ (.head _)
  obtain ⟨_,z⟩:=at_of r hg (hd _ (.head _)) ha (obs_slot hob)
  unfold wpF
  rw [Sem.wp_load]
  exact ⟨_,z,hR s r⟩
theorem eqI_gives {x:Int} {t:Tok} {y:Value} (h:isI y = true):MeetsSeq.EqGives y (.int x t) (eqI x y):=by
  unfold isI at h
  split at h
  · rename_i a u
    exact MeetsSeq.EqGives.int a x u t
  · cases h
theorem all_isI {x:Int} {o:Obj} (h:hasI x o = true):∀y∈arrO o,isI y = true:=by
  unfold hasI at h
  rw [Bool.and_eq_true] at h
  exact fun y hy=>List.all_eq_true.mp h.1 y (Array.mem_toList_iff.mpr hy)
theorem icHasAt_ok:IcOk V (model prog w) b icHasAt:=by
  intro Γ c hs sz tk m T p s R κ _ _ _ r H
  obtain ⟨y,e,hob,hd,hR⟩:=H fun _=>0
  unfold icHasAt at e
  split at e <;> try cases e
  rename_i id a x t
  split at e <;> try cases e
  rename_i hid
  have hid':id = "list.__contains__":=PySem.code_inj _ _ ((Nat.eq_of_beq_eq_true hid).trans (by decide+kernel))
  subst hid'
  split at e <;> try cases e
  rename_i k base hs'
  split at e <;> try cases e
  rename_i es hg
  have ha:a = selN 0 (es.map (·.1)) 0 k:=by injection hob _ (.head _)
  obtain ⟨_,hl⟩:=at_of r hg (hd _ (.head _)) ha (obs_slot hob)
  have hh:hasI x (selN default (es.map (·.2)) 0 k) = true:=hd _ (.tail _ (.head _))
  refine ic_call (call_meets F.slot_list_contains (Heap.IsList.typeIs ⟨_,hl,rfl,_,rfl⟩) F.entry_list_contains (F.args_list_contains_2 _ _) (MeetsSeq.list_contains a _ _ (.int x t) (eqI x) fun y hy=>eqI_gives (all_isI hh y hy)) ⟨hl,?_⟩)
  have:(arrO (selN default (es.map (·.2)) 0 k)).any (eqI x) = true:=by
    unfold hasI at hh
    rw [Bool.and_eq_true,Array.any_toList] at hh
    exact hh.2
  rw [this]
  exact hR s r
theorem icRemAt_ok:IcOk V (model prog w) b icRemAt:=by
  intro Γ c hs sz tk m T p s R κ _ _ _ r H
  obtain ⟨y,e,hob,hd,hR⟩:=H fun _=>0
  unfold icRemAt at e
  split at e <;> try cases e
  rename_i id a x t
  split at e <;> try cases e
  rename_i hid
  have hid':id = "list.remove":=PySem.code_inj _ _ ((Nat.eq_of_beq_eq_true hid).trans (by decide+kernel))
  subst hid'
  split at e <;> try cases e
  rename_i k base hs'
  split at e <;> try cases e
  rename_i es hg
  split at e <;> try cases e
  rename_i T2 hT2
  have ha:a = selN 0 (es.map (·.1)) 0 k:=by injection hob _ (.head _)
  have hz:=obs_slot hob
  obtain ⟨hk,hl⟩:=at_of r hg (hd _ (.head _)) ha hz
  have hh:hasI x (selN default (es.map (·.2)) 0 k) = true:=hd _ (.tail _ (.head _))
  have hsz:Nat.ble (arrO (selN default (es.map (·.2)) 0 k)).size 1000 = true:=hd _ (.tail _ (.tail _ (.head _)))
  have hs1:(arrO (selN default (es.map (·.2)) 0 k)).size≤sizeLine:=Nat.le_trans (Nat.le_of_ble_eq_true hsz) (by decide)
  generalize ho:selN default (es.map (·.2)) 0 k = o at*
  have hany:(arrO o).toList.any (eqI x) = true:=by
    unfold hasI at hh
    rw [Bool.and_eq_true] at hh
    exact hh.2
  have hj':(arrO o).toList.findIdx (eqI x) < (arrO o).toList.length:=List.findIdx_lt_length_of_exists (List.any_eq_true.mp hany)
  have hj:(arrO o).toList.findIdx (eqI x) < (arrO o).size:=by rw [Array.length_toList] at hj';exact hj'
  refine ic_call (call_meets F.slot_list_remove (Heap.IsList.typeIs ⟨_,hl,rfl,_,rfl⟩) F.entry_list_remove (F.args_list_remove_2 _ _)
    (MeetsSeq.list_remove a _ _ (.int x t) (eqI x) (fun y hy=>eqI_gives (all_isI hh y hy)) _ hj ?_ ?_ hs1) ⟨hl,?_⟩)
  · have:=List.findIdx_getElem (p:=eqI x) (xs:=(arrO o).toList) (w:=hj')
    rwa [Array.getElem_toList] at this
  · intro m hm hlt
    have:=List.not_of_lt_findIdx hlt
    rw [Array.getElem_toList] at this
    simpa using this
  · refine hR _ (r.updN hg hk ?_ hz hT2)
    have hzo:o = slotIn o:=by
      have:=hz _ (List.mem_of_getElem? hk)
      exact this
    rw [hzo]
    show (⟨.type "list",none,.seq (remA x (arrO o)) (if (remA x (arrO o)).size == (arrO o).size then cntO o else cntO o+1),⟨[]⟩⟩:Obj) = ⟨.type "list",none,.seq (remA x (arrO o)) (cntO o+1),⟨[]⟩⟩
    have:(remA x (arrO o)).size≠(arrO o).size:=by
      unfold remA Array.eraseIdxIfInBounds
      rw [dif_pos hj,Array.size_eraseIdx]
      omega
    rw [if_neg (by simpa using this)]
theorem icAppAt_ok:IcOk V (model prog w) b icAppAt:=by
  intro Γ c hs sz tk m T p s R κ _ _ _ r H
  obtain ⟨y,e,hob,hd,hR⟩:=H fun _=>0
  unfold icAppAt at e
  split at e <;> try cases e
  rename_i id a v
  split at e <;> try cases e
  rename_i hid
  have hid':id = "list.append":=PySem.code_inj _ _ ((Nat.eq_of_beq_eq_true hid).trans (by decide+kernel))
  subst hid'
  split at e <;> try cases e
  rename_i k base hs'
  split at e <;> try cases e
  rename_i es hg
  split at e <;> try cases e
  rename_i T2 hT2
  have ha:a = selN 0 (es.map (·.1)) 0 k:=by injection hob _ (.head _)
  have hz:=obs_slot hob
  obtain ⟨hk,hl⟩:=at_of r hg (hd _ (.head _)) ha hz
  have hsz:Nat.ble (arrO (selN default (es.map (·.2)) 0 k)).size 1000 = true:=hd _ (.tail _ (.head _))
  have hs1:(arrO (selN default (es.map (·.2)) 0 k)).size≤sizeLine:=Nat.le_trans (Nat.le_of_ble_eq_true hsz) (by decide)
  generalize ho:selN default (es.map (·.2)) 0 k = o at*
  refine ic_call (call_meets F.slot_list_append (Heap.IsList.typeIs ⟨_,hl,rfl,_,rfl⟩) F.entry_list_append (F.args_list_append_2 _ _) (list_append a _ _ v hs1) ⟨hl,?_⟩)
  refine hR _ (r.updN hg hk ?_ hz hT2)
  have hzo:o = slotIn o:=by
    have:=hz _ (List.mem_of_getElem? hk)
    exact this
  rw [hzo]
  show (⟨.type "list",none,.seq ((arrO o).push v) (if ((arrO o).push v).size == (arrO o).size then cntO o else cntO o+1),⟨[]⟩⟩:Obj) = ⟨.type "list",none,.seq ((arrO o).push v) (cntO o+1),⟨[]⟩⟩
  rw [if_neg (by simp)]
end
end
end Mine
namespace Mine
open PySem PySem.W
noncomputable section
noncomputable def envsOf (acts:List (Code×Pos)):List PySem.Env:=(acts.filter (·.1.isFrame)).filterMap (·.1.env?)
noncomputable def idsOf (under:List (Code×Pos)):List String:=(under.filterMap fun (c,_)=>match c with | .builtin id _=>some id | _=>none).eraseDups
noncomputable def cellsX (had:Bool) (under:List (Code×Pos)):List Value:=[if (EntryCells.make (idsOf under)).length > sizeLine then .none else .str (EntryCells.make (idsOf under)) 0,.bool had]
noncomputable def placeX (had:Bool):List (Code×Pos)→List Value
  | []=>[]
  | x::under=>if x.2.line == 0 then [] else [rawInt x.2.line,rawInt x.2.endLine,rawInt x.2.col,rawInt x.2.endCol]++cellsX had under
noncomputable def noteH (fr:Sem Value) (pl:Bool→Sem (List Value)) (f:Addr) (e:Value):Sem Unit:=
  PySem.W.R.bindR (PySem.W.Fast.tw6609576154772507232 e 1) fun head=>
    let rest:Unit→Sem Unit:=fun _=>PySem.W.R.bindR fr fun a=>PySem.W.R.bindR (pl (head != .none)) fun b=>PySem.W.R.bindR (PySem.W.Fast.tw7687323783571163205 head a .none (rawInt f) .none b) fun v=>PySem.W.Fast.tw17858455048448223758 e 1 v
    match (head != .none:Bool) with
    | true=>PySem.W.R.bindR (PySem.W.Fast.tw6609576154772507232 head 3) fun x=>match (x == rawInt f:Bool) with
      | true=>Sem.pure ()
      | false=>PySem.W.R.bindR (PySem.W.Fast.tw17858455048448223758 head 3 .none) rest
    | false=>rest ()
noncomputable def frX (f:Addr):Sem Value:=Sem.stack fun acts=>PySem.W.R.bindR (PySem.W.Fast.tw9112722382718976056 (envsOf acts)) fun _=>Sem.pure (.ref f)
noncomputable def plX (had:Bool):Sem (List Value):=Sem.stack fun acts=>Sem.pure (placeX had acts)
section
variable {M:Model} {Γ:Ctx} {p:Pos} {s:Shared} {body:List Stmt} {env:PySem.Env} {f:Addr}
theorem bindR_wp {α β:Type} {t:Sem α} {k:α→Sem β} {Q:β→Pos→Shared→Prop} {E:Value→Pos→Shared→Prop}:Sem.wp M Γ (PySem.W.R.bindR t k) Q E p s = Sem.wp M Γ t (fun a p s=>Sem.wp M Γ (k a) Q E p s) E p s:=by
  rw [←PySem.W.R.bindR_eq,Sem.wp_bind]
theorem frames_head {below:List (Code×Pos)} (hf:env.frame = some f):(envsOf ((.func body env,p)::below)).dropWhile (·.frame != env.frame) = env::envsOf below∧envsOf ((.func body env,p)::below) = env::envsOf below:=by
  have e:envsOf ((.func body env,p)::below) = env::envsOf below:=rfl
  refine ⟨?_,e⟩
  rw [e,List.dropWhile_cons]
  simp
theorem frX_wp {Q:Value→Pos→Shared→Prop} {E:Value→Pos→Shared→Prop} (hc:Γ.code = .func body env) (hf:env.frame = some f) (h:Sem.wp M Γ (frX f) Q E p s):Sem.wp M Γ (frameOf env) Q E p s:=by
  unfold frX at h
  rw [Sem.wp_stack,bindR_wp,hc] at h
  obtain ⟨e1,e2⟩:=frames_head (body:=body) (p:=p) (below:=Γ.below) hf
  rw [e2] at h
  unfold frameOf frameEnvs
  simp only [Sem.wp_bind']
  show Sem.wp M Γ (Sem.stack _) _ _ _ _
  rw [Sem.wp_stack,hc,Sem.wp_pure]
  show Sem.wp M Γ (Sem.pure (envsOf _)) _ _ _ _
  rw [Sem.wp_pure,e1]
  unfold frameObject
  simp only [Sem.wp_bind']
  rw [←PySem.W.Fast.te9112722382718976056] at h
  refine Sem.wp_mono _ _ _ (fun _ p' s' hq=>?_) (fun _ _ _ hq=>hq) _ _ h
  rw [Sem.wp_pure']
  rw [hf]
  show Sem.wp M Γ (Sem.pure _) _ _ _ _
  rw [Sem.wp_pure] at hq ⊢
  exact hq
theorem beneath_head {below:List (Code×Pos)} (hf:env.frame = some f):EntryCells.cells f = fun had acts=>EntryCells.cells f had acts:=rfl
theorem plX_wp {had:Bool} {Q:List Value→Pos→Shared→Prop} {E:Value→Pos→Shared→Prop} (hc:Γ.code = .func body env) (hf:env.frame = some f) (h:Sem.wp M Γ (plX had) Q E p s):Sem.wp M Γ (entryPlaceOf f had) Q E p s:=by
  unfold plX at h
  rw [Sem.wp_stack,hc,Sem.wp_pure] at h
  unfold entryPlaceOf
  simp only [Sem.wp_bind']
  show Sem.wp M Γ (Sem.stack _) _ _ _ _
  rw [Sem.wp_stack,hc,Sem.wp_pure]
  have e1:(((.func body env,p)::Γ.below:List (Code×Pos)).find? fun (c,_)=>c.env?.bind (·.frame) == some f) = some (.func body env,p):=by
    rw [List.find?_cons]
    have:((Code.func body env).env?.bind (·.frame) == some f) = true:=by
      show (env.frame == some f) = true
      rw [hf]
      simp
    simp only [this]
  have e2:EntryCells.cells f had ((.func body env,p)::Γ.below) = cellsX had Γ.below:=by
    have:EntryCells.beneath f ((.func body env,p)::Γ.below) = some (idsOf Γ.below):=by
      unfold EntryCells.beneath
      rw [List.dropWhile_cons]
      have:(!((Code.func body env).isFrame && (Code.func body env).env?.bind (·.frame) == some f)) = false:=by
        show (!(true && env.frame == some f)) = false
        rw [hf]
        simp
      simp only [this]
      rfl
    unfold EntryCells.cells
    rw [this]
    rfl
  rw [e1]
  simp only [e2]
  rw [Sem.wp_pure']
  exact h
theorem noteH_wp {e:Value} {Q:Unit→Pos→Shared→Prop} {E:Value→Pos→Shared→Prop} (hc:Γ.code = .func body env) (hf:env.frame = some f) (h:Sem.wp M Γ (noteH (frX f) plX f e) Q E p s):Sem.wp M Γ (noteFrame e env) Q E p s:=by
  unfold noteH at h
  rw [bindR_wp,←PySem.W.Fast.te6609576154772507232] at h
  unfold noteFrame
  rw [hf]
  simp only []
  rw [Sem.wp_bind']
  refine Sem.wp_mono _ _ _ (fun head p' s' hq=>?_) (fun _ _ _ hq=>hq) _ _ h
  have rest:∀p' s',Sem.wp M Γ (PySem.W.R.bindR (frX f) fun a=>PySem.W.R.bindR (plX (head != .none)) fun b=>PySem.W.R.bindR (PySem.W.Fast.tw7687323783571163205 head a .none (rawInt f) .none b) fun v=>PySem.W.Fast.tw17858455048448223758 e 1 v) Q E p' s'→
      Sem.wp M Γ (do setField e 1 (←EntryCells.newEntry head (←frameOf env) .none (rawInt f) .none (←entryPlaceOf f (head != .none)))) Q E p' s':=by
    intro p' s' hr
    rw [bindR_wp] at hr
    simp only [Sem.wp_bind']
    refine frX_wp hc hf (Sem.wp_mono _ _ _ (fun a p' s' hr=>?_) (fun _ _ _ hq=>hq) _ _ hr)
    rw [bindR_wp] at hr
    refine plX_wp hc hf (Sem.wp_mono _ _ _ (fun b p' s' hr=>?_) (fun _ _ _ hq=>hq) _ _ hr)
    rw [bindR_wp,←PySem.W.Fast.te7687323783571163205,←PySem.W.Fast.te17858455048448223758] at hr
    exact hr
  cases hh:(head != .none:Bool) with
  | false=>
    rw [hh] at hq rest
    rw [if_neg (by simp)]
    exact rest _ _ hq
  | true=>
    rw [hh] at hq rest
    rw [if_pos rfl]
    rw [bindR_wp] at hq
    rw [Sem.wp_bind']
    refine Sem.wp_mono _ _ _ (fun x p' s' hq=>?_) (fun _ _ _ hq=>hq) _ _ hq
    cases hx:(x == rawInt f:Bool) with
    | true=>
      rw [hx] at hq
      rw [if_pos rfl]
      exact hq
    | false=>
      rw [hx,bindR_wp,←PySem.W.Fast.te17858455048448223758] at hq
      rw [if_neg (by simp)]
      rw [Sem.wp_bind']
      exact Sem.wp_mono _ _ _ (fun _ p' s' hq=>rest _ _ hq) (fun _ _ _ hq=>hq) _ _ hq
end
noncomputable def leaveX (f:Addr) (e:Value):Sem Fin:=PySem.W.R.bindR (noteH (frX f) plX f e) fun _=>PySem.W.R.bindR (PySem.W.Fast.tw5670386056902412789 e none) fun _=>Sem.raise e
noncomputable def trNote:Tcpt:=fun _ _ c t hs sz tk m T=>match c with
  | .func _ env=>match env.frame with
    | some f=>match t with
      | .load a _ _=>some ⟨leaveX f (.ref a),hs,sz,tk,m,T,[(.t t,.t (lvQ env (.ref a)))],[]⟩
      | _=>none
    | none=>none
  | _=>none
theorem trNote_ok {V:Vw} {prog:Program} {w:World} {b:Bs}:TcOk V (model prog w) b trNote:=by
  intro Γ c t hs sz tk m T p s R κ hc hbel _ r H
  obtain ⟨y,e,hob,hd,hR⟩:=H fun _=>0
  unfold trNote at e
  split at e <;> try cases e
  rename_i body env
  split at e <;> try cases e
  rename_i f hf
  split at e <;> try cases e
  rename_i a q K
  have q4:=hob _ (.head _)
  have qt:Sem.load a q K = lvQ env (.ref a):=by injection q4
  rw [qt]
  refine lvQ_ok.wp _ _ _ _ _ _ _ ?_
  have z:=hR s r
  unfold wpF leaveX at z
  rw [bindR_wp] at z
  unfold leaving
  rw [Sem.wp_bind']
  refine noteH_wp hc hf (Sem.wp_mono _ _ _ (fun _ p' s' hq=>?_) (fun _ _ _ hq=>hq) _ _ z)
  rw [bindR_wp,←PySem.W.Fast.te5670386056902412789] at hq
  refine Sem.wp_mono _ _ _ (fun _ p' s' hq=>?_) (fun _ _ _ hq=>hq) _ _ hq
  rw [Sem.wp_raise] at hq
  exact hq
end
end Mine
namespace Mine
open PySem PySem.W
noncomputable section
noncomputable def contQ (rest:List Stmt) (env:PySem.Env) (fl:Flow):Sem Flow:=match fl with
  | .next=>PySem.W.Fast.tw12563942051412417395 rest env
  | f=>Sem.pure f
noncomputable def retQ (fl:Flow):Sem Fin:=match fl with
  | .ret v=>PySem.W.Fast.tw6905046200447255374 v
  | _=>PySem.W.Fast.tw6905046200447255374 Value.none
noncomputable def shapeQ (t:Sem Flow) (rest:List Stmt) (env:PySem.Env):Sem Fin:=
  PySem.W.R.bindR (PySem.W.R.onRaiseR (PySem.W.R.bindR t (contQ rest env)) (PySem.W.Fast.tw9442747609961115081 env)) retQ
noncomputable def tryQ (e:Value) (hs:List ExceptHandler) (oe rest:List Stmt) (env:PySem.Env):Sem Fin:=
  shapeQ (PySem.W.Fast.tw11253931983154730583 false (Sem.raise e) hs (PySem.W.Fast.tw12563942051412417395 oe env) [] env) rest env
noncomputable def handP (e:Value) (hs:List ExceptHandler) (env:PySem.Env):Sem Flow:=Sem.point [] fun _=>PySem.W.Fast.tw14206642085496868694 e env hs
noncomputable def tryX (f:Addr) (e:Value) (h:ExceptHandler) (hs:List ExceptHandler) (rest:List Stmt) (env:PySem.Env):Sem Fin:=
  shapeQ (PySem.W.R.bindR (noteH (frX f) plX f e) fun _=>PySem.W.R.bindR (PySem.W.Fast.tw5670386056902412789 e none) fun _=>handP e (h::hs) env) rest env
noncomputable def trTry:Tcpt:=fun _ _ c t hs sz tk m T=>match c with
  | .func (.Try _ (h::hds) oe [] _::rest) env=>match env.frame with
    | some f=>match t with
      | .load a _ _=>some ⟨tryX f (.ref a) h hds rest env,hs,sz,tk,m,T,[(.t t,.t (tryQ (.ref a) (h::hds) oe rest env))],[]⟩
      | _=>none
    | none=>none
  | _=>none
section
variable {M:Model} {Γ:Ctx} {p:Pos} {s:Shared} {body rest oe:List Stmt} {env:PySem.Env} {f:Addr}
theorem shapeQ_wp {t:Sem Flow} {R:Result→Shared→Prop}:wpF M Γ (shapeQ t rest env) R p s =
    Sem.wp M Γ t (fun fl p s=>Sem.wp M Γ (contQ rest env fl) (fun fl p s=>wpF M Γ (retQ fl) R p s) (fun e p' s'=>Sem.wp M Γ (leaving env e) (fun _ _ s'=>R (.error e) s') (fun e _ s'=>R (.error e) s') p' s') p s)
      (fun e p' s'=>Sem.wp M Γ (leaving env e) (fun _ _ s'=>R (.error e) s') (fun e _ s'=>R (.error e) s') p' s') p s:=by
  unfold wpF shapeQ
  rw [bindR_wp,←PySem.W.R.onRaiseR_eq,Sem.wp_onRaise,bindR_wp,←PySem.W.Fast.te9442747609961115081]
theorem tryX_wp {e:Value} {h:ExceptHandler} {hds:List ExceptHandler} {R:Result→Shared→Prop} (hc:Γ.code = .func body env) (hf:env.frame = some f) (z:wpF M Γ (tryX f e h hds rest env) R p s):
    wpF M Γ (tryQ e (h::hds) oe rest env) R p s:=by
  unfold tryQ
  rw [shapeQ_wp,←PySem.W.Fast.te11253931983154730583]
  unfold tryX at z
  rw [shapeQ_wp,bindR_wp] at z
  unfold tryStmt
  simp only [List.isEmpty_nil,List.isEmpty_cons,if_true,Sem.wp_bind',Sem.wp_attempt,Sem.wp_raise]
  refine noteH_wp hc hf (Sem.wp_mono _ _ _ (fun _ p' s' hq=>?_) (fun _ _ _ hq=>hq) _ _ z)
  rw [bindR_wp,←PySem.W.Fast.te5670386056902412789] at hq
  simp only [Bool.false_eq_true,if_false,Sem.wp_bind',Bool.false_and]
  refine Sem.wp_mono _ _ _ (fun _ p' s' hq=>?_) (fun _ _ _ hq=>hq) _ _ hq
  unfold handP at hq
  rw [Sem.wp_point,←PySem.W.Fast.te14206642085496868694] at hq
  exact hq
theorem trTry_ok {V:Vw} {prog:Program} {w:World} {b:Bs}:TcOk V (model prog w) b trTry:=by
  intro Γ c t hs sz tk m T p s R κ hc hbel _ r H
  obtain ⟨y,e,hob,hd,hR⟩:=H fun _=>0
  unfold trTry at e
  split at e <;> try cases e
  rename_i bd h hds oe q rest env
  split at e <;> try cases e
  rename_i f hf
  split at e <;> try cases e
  rename_i a q K
  have q4:=hob _ (.head _)
  have qt:Sem.load a q K = tryQ (.ref a) (h::hds) oe rest env:=by injection q4
  rw [qt]
  exact tryX_wp hc hf (hR s r)
end
noncomputable def rK {α:Type} (prog:Program) (w:World) (kt:Nat→Option Obj) (oE:Obj):Nat→List Nat→Sem α→Option (α×List Nat)
  | 0,_,_=>none
  | n + 1,hs,t=>match t with
    | .pure x=>some (x,[])
    | .rule _ k=>rK prog w kt oE n hs (k ())
    | .at _ k=>rK prog w kt oE n hs (k ())
    | .point _ k=>rK prog w kt oE n hs (k ())
    | .ask k=>rK prog w kt oE n hs (k ⟨prog,w.params⟩)
    | .load a _ k=>match hs with
      | []=>none
      | h ::hs=>match h with
        | 0=>match kt a with
          | some o=>rK prog w kt oE n hs (k o)
          | none=>none
        | _+1=>match rK prog w kt oE n hs (k oE) with
          | some x=>some (x.1,a::x.2)
          | none=>none
    | _=>none
section
variable {prog:Program} {w:World} {Γ:Ctx} {s:Shared} {kt:Nat→Option Obj} {oE:Obj}
theorem rK_wp {α:Type} (hk:∀a o,kt a = some o→s.heap.get? a = some o) {Q:α→Pos→Shared→Prop} {E:Value→Pos→Shared→Prop}:
    ∀{n:Nat} {hs:List Nat} {t:Sem α} {x:α} {l:List Nat} {p:Pos},rK prog w kt oE n hs t = some (x,l)→(∀b∈l,s.heap.get? b = some oE)→(∀p',Q x p' s)→Sem.wp (model prog w) Γ t Q E p s
  | 0,hs,t,x,l,p,h,_,_=>by cases h
  | n + 1,hs,t,x,l,p,h,hl,hq=>by
    cases t with
    | pure y=>
      have h:some (y,[]) = some (x,l):=h
      cases h
      rw [Sem.wp_pure]
      exact hq p
    | rule g k=>rw [Sem.wp_rule];exact rK_wp hk (n:=n) h hl hq
    | «at» q k=>rw [Sem.wp_at];exact rK_wp hk (n:=n) h hl hq
    | point q k=>rw [Sem.wp_point];exact rK_wp hk (n:=n) h hl hq
    | ask k=>
      rw [Sem.wp_ask]
      exact rK_wp hk (n:=n) h hl hq
    | load a q k=>
      rw [Sem.wp_load]
      cases hs with
      | nil=>cases h
      | cons h0 hs=>cases h0 with
        | zero=>
          have h:(match kt a with | some o=>rK prog w kt oE n hs (k o) | none=>none) = some (x,l):=h
          cases ho:kt a with
          | none=>rw [ho] at h;cases h
          | some o=>
            rw [ho] at h
            exact ⟨o,hk _ _ ho,rK_wp hk h hl hq⟩
        | succ j=>
          have h:(match rK prog w kt oE n hs (k oE) with | some x=>some (x.1,a::x.2) | none=>none) = some (x,l):=h
          cases hy:rK prog w kt oE n hs (k oE) with
          | none=>rw [hy] at h;cases h
          | some y=>
            rw [hy] at h
            cases h
            exact ⟨oE,hl a (.head _),rK_wp hk hy (fun b hb=>hl b (.tail _ hb)) hq⟩
    | _=>cases h
end
noncomputable def handQ (e:Value) (hs:List ExceptHandler) (rest:List Stmt) (env:PySem.Env):Sem Fin:=shapeQ (handP e hs env) rest env
noncomputable def handX (e:Value) (v:Value) (rest:List Stmt) (env:PySem.Env):Sem Fin:=
  shapeQ (PySem.W.R.bindR (PySem.W.Fast.tw5670386056902412789 e none) fun _=>Sem.pure (.ret v)) rest env
noncomputable def trHand (w:World) (kt:Nat→Option Obj):Tcpt:=fun _ _ c t hs sz tk m T=>match c with
  | .func (.Try _ (.ExceptHandler (some ty) none hb hp::hds) oe [] _::rest) env=>match hs with
    | i ::k::hs=>match T.get i with
      | some e=>match rK PySem.Challenge.pw_xw0355_01 w kt e.2 1000 (hs.take k) (denQ (.handlers (.ref e.1) [.ExceptHandler (some ty) none [] hp] env)) with
        | some x=>match x.1 with
          | .done .brk=>match rK PySem.Challenge.pw_xw0355_01 w (fun _=>none) e.2 1000 [] (PySem.W.Fast.tw12563942051412417395 hb env) with
            | some y=>match y.1 with
              | .ret v=>some ⟨handX (.ref e.1) v rest env,hs.drop k,sz,tk,m,T,(.t t,.t (handQ (.ref e.1) (.ExceptHandler (some ty) none hb hp::hds) rest env))::x.2.map (fun b=>(.n b,.n e.1)),[Nat.beq y.2.length 0]⟩
              | _=>none
            | none=>none
          | _=>none
        | none=>none
      | none=>none
    | _=>none
  | _=>none
section
variable {w:World} {Γ:Ctx} {s:Shared} {kt:Nat→Option Obj} {p:Pos} {a:Nat}
theorem hand1 {ty:PySem.Expr} {hp:Pos} {env:PySem.Env} {oE:Obj} {n:Nat} {hs l:List Nat} {R:Result→Shared→Prop} (hk:∀a o,kt a = some o→s.heap.get? a = some o) (hE:s.heap.get? a = some oE)
    (h:rK PySem.Challenge.pw_xw0355_01 w kt oE n hs (denQ (.handlers (.ref a) [.ExceptHandler (some ty) none [] hp] env)) = some (.done .brk,l)) (hl:∀b∈l,b = a) (hR:R (.ok .brk) s):
    wpCode (MW w) (Γ.enter (.handlers (.ref a) [.ExceptHandler (some ty) none [] hp] env) (some (.ref a)) p) R p s:=by
  refine wpCode_of ?_
  show wpF _ _ (denote table (.handlers (.ref a) [.ExceptHandler (some ty) none [] hp] env)) _ _ _
  rw [←denQ_is]
  exact rK_wp hk h (fun b hb=>by rw [hl b hb];exact hE) fun p'=>hR
theorem setFlight_any {M:Model} {Γ Γ':Ctx} {e:Value} {P:Shared→Prop} {E E':Value→Pos→Shared→Prop} {p p':Pos} (h:Sem.wp M Γ (setFlight e none) (fun _ _ s'=>P s') E p s):Sem.wp M Γ' (setFlight e none) (fun _ _ s'=>P s') E' p' s:=by
  unfold setFlight at h ⊢
  rw [Sem.wp_bind',wp_field_iff] at h ⊢
  obtain ⟨a,o,vs,x,h1,h2,h3,h4,h5⟩:=h
  refine ⟨a,o,vs,x,h1,h2,h3,h4,?_⟩
  cases q:(x != .none:Bool) with
  | true=>
    rw [q,if_pos rfl,wp_setField_iff] at h5
    rw [if_pos rfl,wp_setField_iff]
    exact h5
  | false=>
    rw [q,if_neg (by simp)] at h5
    rw [if_neg (by simp)]
    exact h5
theorem hand2 {hb:List Stmt} {hp:Pos} {env:PySem.Env} {oE:Obj} {n:Nat} {v:Value} {R:Result→Shared→Prop} {E:Value→Pos→Shared→Prop} {p':Pos}
    (h:rK PySem.Challenge.pw_xw0355_01 w (fun _=>none) oE n [] (PySem.W.Fast.tw12563942051412417395 hb env) = some (.ret v,[])) (z:Sem.wp (MW w) Γ (setFlight (.ref a) none) (fun _ _ s'=>R (.ok (.ret v)) s') E p' s):
    wpCode (MW w) (Γ.enter (.handlers (.ref a) [.ExceptHandler none none hb hp] env) (some (.ref a)) p) R p s:=by
  refine wpCode_of ?_
  show wpF _ _ (do return .done (←(handleWith (.ref a) env [.ExceptHandler none none hb hp]).onRaise (fun x=>do noteFrame x env;theTreesLotGoes x))) _ _ _
  unfold wpF
  rw [Sem.wp_bind',Sem.wp_onRaise]
  unfold handleWith
  simp only [Sem.wp_bind']
  show Sem.wp _ _ (Sem.at _ _) _ _ _ _
  rw [Sem.wp_at,Sem.wp_pure]
  refine Sem.wp_mono _ _ _ (fun _ p2 s2 hq=>?_) (fun _ _ _ hq=>hq) _ _ (setFlight_any (E':=fun _ _ _=>False) (p':=hp) z |> fun z=>Sem.wp_mono _ _ _ (fun _ _ _ hq=>hq) (fun _ _ _ hq=>hq.elim) _ _ z)
  show Sem.wp _ _ (execs hb env) _ _ _ _
  rw [PySem.W.Fast.te12563942051412417395]
  refine rK_wp (kt:=fun _=>none) (fun _ _ h=>nomatch h) h (fun _ h=>nomatch h) fun p3=>?_
  show Sem.wp _ _ (Sem.pure _) _ _ _ _
  rw [Sem.wp_pure]
  exact hq
theorem handX_wp {ty:PySem.Expr} {hb rest:List Stmt} {hp:Pos} {hds:List ExceptHandler} {env:PySem.Env} {oE:Obj} {n n2:Nat} {hs l:List Nat} {v:Value} {R:Result→Shared→Prop} (hk:∀a o,kt a = some o→s.heap.get? a = some o) (hE:s.heap.get? a = some oE)
    (h1:rK PySem.Challenge.pw_xw0355_01 w kt oE n hs (denQ (.handlers (.ref a) [.ExceptHandler (some ty) none [] hp] env)) = some (.done .brk,l)) (hl:∀b∈l,b = a)
    (h2:rK PySem.Challenge.pw_xw0355_01 w (fun _=>none) oE n2 [] (PySem.W.Fast.tw12563942051412417395 hb env) = some (.ret v,[]))
    (z:wpF (MW w) Γ (handX (.ref a) v rest env) R p s):wpF (MW w) Γ (handQ (.ref a) (.ExceptHandler (some ty) none hb hp::hds) rest env) R p s:=by
  unfold handX at z
  unfold handQ handP
  rw [shapeQ_wp] at z ⊢
  rw [bindR_wp,←PySem.W.Fast.te5670386056902412789] at z
  rw [Sem.wp_point,←PySem.W.Fast.te14206642085496868694]
  unfold handleBy
  simp only [Sem.wp_bind',Sem.wp_holding]
  unfold runOwn
  rw [Sem.wp_onRaise]
  unfold run
  rw [Sem.wp_call]
  refine hand1 hk hE h1 hl ?_
  rw [Sem.wp_pure]
  simp only [Sem.wp_pure',Bool.not_true,Bool.false_eq_true,if_false,Sem.wp_holding,Sem.wp_bind',Sem.wp_onRaise]
  rw [Sem.wp_call]
  have fin:∀(p1:Pos) (s1:Shared),Sem.wp (MW w) Γ (contQ rest env (.ret v)) (fun fl p s=>wpF (MW w) Γ (retQ fl) R p s) (fun e p' s'=>Sem.wp (MW w) Γ (leaving env e) (fun _ _ s'=>R (.error e) s') (fun e _ s'=>R (.error e) s') p' s') p1 s1 = R (.ok (.ret v)) s1:=by
    intro p1 s1
    show Sem.wp (MW w) Γ (Sem.pure _) _ _ _ _ = _
    rw [Sem.wp_pure]
    show Sem.wp (MW w) Γ (PySem.W.Fast.tw6905046200447255374 v) _ _ _ _ = _
    rw [←PySem.W.Fast.te6905046200447255374]
    show Sem.wp (MW w) Γ (Sem.pure _) _ _ _ _ = _
    rw [Sem.wp_pure]
    rfl
  refine hand2 h2 (Sem.wp_mono _ _ _ (fun _ p' s' hq=>?_) (fun _ _ _ hq=>hq) _ _ z)
  rw [Sem.wp_pure,fin] at hq
  simp only [Sem.wp_pure]
  rw [fin]
  exact hq
theorem trHand_ok {V:Vw} {b:Bs} (hkt:∀a o,kt a = some o→b.h.get? a = some o∧a∉b.led):TcOk V (MW w) b (trHand w kt):=by
  intro Γ c t hs sz tk m T p s R κ hc hbel _ r H
  obtain ⟨y,e,hob,hd,hR⟩:=H fun _=>0
  unfold trHand at e
  split at e <;> try cases e
  rename_i tb ty hb hp hds oe q rest env
  split at e <;> try cases e
  rename_i i k hs'
  split at e <;> try cases e
  rename_i e1 hT
  split at e <;> try cases e
  rename_i x hx
  split at e <;> try cases e
  rename_i hx1
  split at e <;> try cases e
  rename_i y1 hy
  split at e <;> try cases e
  rename_i v hv
  have q4:=hob _ (.head _)
  have qt:t = handQ (.ref e1.1) (.ExceptHandler (some ty) none hb hp::hds) rest env:=by injection q4
  have hl:∀b∈x.2,b = e1.1:=by
    intro b hb
    have:=hob (.n b,.n e1.1) (.tail _ (List.mem_map.mpr ⟨b,hb,rfl⟩))
    injection this
  have hz:y1.2 = []:=List.length_eq_zero_iff.mp (Nat.eq_of_beq_eq_true (hd _ (.head _)))
  obtain ⟨x1,x2⟩:=x
  obtain ⟨y1,y2⟩:=y1
  dsimp only at hx1 hv hz hl
  subst hx1 hv hz
  rw [qt]
  exact handX_wp (fun a o h=>r.keep a o (hkt a o h).1 (hkt a o h).2) (r.own _ _ _ hT).2.1 hx hl hy (hR s r)
end
end
end Mine
namespace Mine
open PySem PySem.W PyProof.Rows
noncomputable section
noncomputable def nDictGet:Nat:=8459563503104322149
noncomputable def eqL:List Nat→List Nat→Bool
  | [],[]=>true
  | x::xs,y::ys=>Nat.beq x y && eqL xs ys
  | _,_=>false
theorem eqL_is:∀{x y:List Nat},eqL x y = true↔x = y
  | [],[]=>⟨fun _=>rfl,fun _=>rfl⟩
  | [],_::_=>⟨fun h=>(by cases h),fun h=>(by cases h)⟩
  | _::_,[]=>⟨fun h=>(by cases h),fun h=>(by cases h)⟩
  | x::xs,y::ys=>by
    show (Nat.beq x y && eqL xs ys) = true↔_
    rw [Bool.and_eq_true,eqL_is,List.cons.injEq]
    exact ⟨fun h=>⟨Nat.eq_of_beq_eq_true h.1,h.2⟩,fun h=>⟨by rw [h.1];exact Nat.beq_refl _,h.2⟩⟩
noncomputable def eqS (x y:Str):Bool:=eqL x.cps.toList y.cps.toList
theorem eqS_is {x y:Str}:eqS x y = true↔x = y:=by
  unfold eqS
  rw [eqL_is]
  constructor
  · intro h
    obtain ⟨⟨a⟩⟩:=x
    obtain ⟨⟨b⟩⟩:=y
    have:a = b:=h
    rw [this]
  · intro h
    rw [h]
noncomputable def keyOf (o:Obj):Option (Str×Str):=match o with
  | ⟨.type nm,_,.seq ⟨[.str x _,.str y _]⟩ _,_⟩=>match Nat.beq (PySem.code nm) 439922816629 with
    | true=>some (x,y)
    | false=>none
  | _=>none
noncomputable def keysOf:List Ent→Option (List (Str×Str))
  | []=>some []
  | t ::ts=>match keyOf t.2 with
    | some k=>match keysOf ts with
      | some ks=>some (k::ks)
      | none=>none
    | none=>none
noncomputable def eqP (a b:Str×Str):Bool:=eqS a.1 b.1 && eqS a.2 b.2
noncomputable def lookV (k:Str×Str):List (Str×Str)→List DictEntry→Value
  | k'::ks,e::es=>match eqP k' k with
    | true=>e.val
    | false=>lookV k ks es
  | _,_=> .none
noncomputable def nodupP:List (Str×Str)→Bool
  | []=>true
  | k::ks=>!(ks.any (eqP k)) && nodupP ks
noncomputable def hashK (w:World) (k:Str×Str):Int:=(tkd w).hash [k.1,k.2]
noncomputable def obK (w:World):List DictEntry→List Ent→List (Str×Str)→List (Ob×Ob)
  | e::es,t::ts,k::ks=>(.v e.key,.v (.ref t.1))::(.i e.hash,.i (hashK w k))::obK w es ts ks
  | _,_,_=>[]
noncomputable def takeN':Nat→List Nat→Option (List Nat×List Nat)
  | 0,hs=>some ([],hs)
  | _+1,[]=>none
  | n+1,h::hs=>match takeN' n hs with
    | some r=>some (h::r.1,r.2)
    | none=>none
noncomputable def getAll' (T:Tr Ent):List Nat→Option (List Ent)
  | []=>some []
  | i ::r=>match T.get i with
    | some e=>match getAll' T r with
      | some es=>some (e::es)
      | none=>none
    | none=>none
noncomputable def icGetT (w:World):Icpt:=fun _ st c hs sz tk m T=>match c with
  | .call (.builtin id) ⟨[.ref d,.ref a],[]⟩=>match Nat.beq (PySem.code id) nDictGet with
    | true => match hs with
      | i :: j :: n ::hs=>match takeN' n hs with
        | some r => match T.get i with
          | some ed =>match T.get j with
            | some ea=>match getAll' T r.1 with
              | some ts =>match ed.2.data with
                | .dict es ep=>match keyOf ea.2 with
                  | some k=>match keysOf ts with
                    | some ks=>some ⟨.ok (.ret (lookV k ks es.toList)),r.2,sz,tk+3,m,T,
                        (.n d,.n ed.1)::(.n a,.n ea.1)::(.o ed.2,.o ⟨.type "dict",none,.dict es ep,#[]⟩)::obK w es.toList ts ks,
                        [!(Nat.beq d 1),nodupP ks,Nat.beq es.toList.length ts.length,Nat.blt (unitsL st) 9000]⟩
                    | none=>none
                  | none=>none
                | _=>none
              | none=>none
            | none=>none
          | none=>none
        | none=>none
      | _=>none
    | false=>none
  | _=>none
theorem eqP_is {a b:Str×Str}:eqP a b = true↔a = b:=by
  unfold eqP
  rw [Bool.and_eq_true,eqS_is,eqS_is]
  exact ⟨fun h=>Prod.ext h.1 h.2,fun h=>by rw [h];exact ⟨rfl,rfl⟩⟩
theorem nodupP_is:∀{ks:List (Str×Str)},nodupP ks = true→ks.Nodup
  | [],_=>List.nodup_nil
  | k::ks,h=>by
    unfold nodupP at h
    rw [Bool.and_eq_true] at h
    refine List.nodup_cons.mpr ⟨fun hk=>?_,nodupP_is h.2⟩
    have h1:=h.1
    simp only [Bool.not_eq_true',List.any_eq_false] at h1
    exact h1 k hk (eqP_is.mpr rfl)
theorem getAll'_is {T:Tr Ent}:∀{sel:List Nat} {es:List Ent},getAll' T sel = some es→∀e∈es,∃i,T.get i = some e
  | [],es,h,e,he=>by cases h;cases he
  | i ::r,es,h,e,he=>by
    unfold getAll' at h
    cases q:T.get i with
    | none=>rw [q] at h;cases h
    | some x=>
      rw [q] at h
      cases q2:getAll' T r with
      | none=>rw [q2] at h;cases h
      | some y=>
        rw [q2] at h
        cases h
        rcases List.mem_cons.mp he with rfl | he
        · exact ⟨i,q⟩
        · exact getAll'_is q2 e he
theorem keyOf_is {w:World} {h:Heap} {a:Nat} {o:Obj} {k:Str×Str} (hk:keyOf o = some k) (g:h.get? a = some o):(tkd w).is h [k.1,k.2] a:=by
  unfold keyOf at hk
  split at hk
  · rename_i nm d x t y u n sl
    split at hk
    · rename_i hn
      have:nm = "tuple":=PySem.code_inj _ _ ((Nat.eq_of_beq_eq_true hn).trans (by decide+kernel))
      subst this
      cases hk
      exact ⟨_,_,_,g,rfl,rfl,.cons (by show Value.isStrOf x (.str x t) = true;simp [Value.isStrOf]) (.cons (by show Value.isStrOf y (.str y u) = true;simp [Value.isStrOf]) .nil)⟩
    · cases hk
  · cases hk
noncomputable def xsOf:List DictEntry→List Ent→List (Str×Str)→List (List Str×Addr×Value)
  | e::es,t::ts,k::ks=>([k.1,k.2],t.1,e.val)::xsOf es ts ks
  | _,_,_=>[]
theorem keysOf_len:∀{ts:List Ent} {ks:List (Str×Str)},keysOf ts = some ks→ts.length = ks.length
  | [],ks,h=>by cases h;rfl
  | t ::ts,ks,h=>by
    unfold keysOf at h
    split at h
    · rename_i k hk
      split at h
      · rename_i ks' hks
        cases h
        rw [List.length_cons,List.length_cons,keysOf_len hks]
      · cases h
    · cases h
theorem xsOf_is {w:World} {h:Heap}:∀{es:List DictEntry} {ts:List Ent} {ks:List (Str×Str)},keysOf ts = some ks→es.length = ts.length→(∀x∈obK w es ts ks,x.1 = x.2)→(∀t∈ts,h.get? t.1 = some t.2)→
    es = (xsOf es ts ks).map (entryOfKey (tkd w))∧(∀x∈xsOf es ts ks,(tkd w).is h x.1 x.2.1)∧(xsOf es ts ks).map (·.1) = ks.map (fun k=>[k.1,k.2])
  | [],[],ks,hk,_,_,_=>by
    cases hk
    exact ⟨rfl,fun x hx=>(by cases hx),rfl⟩
  | e ::es,t::ts,ks,hk,hl,ho,hT=>by
    have hk':=hk
    unfold keysOf at hk
    split at hk
    · rename_i k hk1
      split at hk
      · rename_i ks' hks
        cases hk
        obtain ⟨h1,h2,h3⟩:=xsOf_is (w:=w) (h:=h) hks (by simpa using hl) (fun x hx=>ho x (.tail _ (.tail _ hx))) (fun u hu=>hT u (.tail _ hu))
        have o1:=ho _ (.head _)
        have o2:=ho _ (.tail _ (.head _))
        have e1:e.key = .ref t.1:=by injection o1
        have e2:e.hash = hashK w k:=by injection o2
        refine ⟨?_,fun x hx=>?_,?_⟩
        · show e::es = entryOfKey (tkd w) ([k.1,k.2],t.1,e.val)::_
          rw [←h1]
          congr 1
          obtain ⟨a,b,c⟩:=e
          show _ = (⟨_,_,_⟩:DictEntry)
          rw [show a = hashK w k from e2,show b = .ref t.1 from e1]
          rfl
        · rcases List.mem_cons.mp hx with rfl | hx
          · exact keyOf_is hk1 (hT t (.head _))
          · exact h2 x hx
        · show _::(xsOf es ts ks').map (·.1) = _
          rw [h3];rfl
      · cases hk
    · cases hk
  | [],_::_,_,_,hl,_,_=>by cases hl
  | _::_,[],_,_,hl,_,_=>by cases hl
theorem lookV_is:∀{es:List DictEntry} {ts:List Ent} {ks:List (Str×Str)} (k:Str×Str),es.length = ts.length→ts.length = ks.length→((atKey (xsOf es ts ks) [k.1,k.2]).map (·.2)).getD .none = lookV k ks es
  | [],[],[],k,_,_=>rfl
  | e ::es,t::ts,k'::ks,k,h1,h2=>by
    have ih:=lookV_is (es:=es) (ts:=ts) (ks:=ks) k (by simpa using h1) (by simpa using h2)
    show ((atKey (([k'.1,k'.2],t.1,e.val)::xsOf es ts ks) [k.1,k.2]).map (·.2)).getD .none = (match eqP k' k with | true=>e.val | false=>lookV k ks es)
    cases q:eqP k' k with
    | true=>
      have:=eqP_is.mp q
      subst this
      simp [atKey]
    | false=>
      have ne:¬ [k'.1,k'.2] = [k.1,k.2]:=by
        intro e
        injection e with a b
        injection b with b _
        have:k' = k:=Prod.ext a b
        rw [eqP_is.mpr this] at q
        cases q
      simp only [atKey,List.find?_cons,decide_eq_false ne]
      exact ih
  | [],_::_,_,_,h,_=>by cases h
  | _::_,[],_,_,h,_=>by cases h
  | [],[],_::_,_,_,h=>by cases h
  | _::_,_::_,[],_,_,h=>by cases h
theorem nodup_pairs {ks:List (Str×Str)} (nd:ks.Nodup):(ks.map fun k=>[k.1,k.2]).Nodup:=by
  induction ks with
  | nil=>exact List.nodup_nil
  | cons k ks ih=>
    rw [List.nodup_cons] at nd
    rw [List.map_cons,List.nodup_cons]
    refine ⟨fun h=>nd.1 ?_,ih nd.2⟩
    obtain ⟨u,hu,e⟩:=List.mem_map.mp h
    simp only [List.cons.injEq,and_true] at e
    have:u = k:=Prod.ext e.1 e.2
    rw [←this]
    exact hu
theorem blt_lt {a b:Nat} (h:Nat.blt a b = true):a < b:=Nat.le_of_ble_eq_true h
theorem icGetT_ok {V:Vw} {w:World} {b:Bs}:IcOk V (MW w) b (icGetT w):=by
  intro Γ c hs sz tk m T p s R κ hst _ _ r H
  obtain ⟨y,e,hob,hd,hR⟩:=H fun _=>0
  unfold icGetT at e
  split at e <;> try cases e
  rename_i id d a
  split at e <;> try cases e
  rename_i hid
  have hid':id = "dict.get":=PySem.code_inj _ _ ((Nat.eq_of_beq_eq_true hid).trans (by decide+kernel))
  subst hid'
  split at e <;> try cases e
  rename_i i j n hs'
  split at e <;> try cases e
  rename_i rr hrr
  split at e <;> try cases e
  rename_i ed hTd
  split at e <;> try cases e
  rename_i ea hTa
  split at e <;> try cases e
  rename_i ts hts
  split at e <;> try cases e
  rename_i es ep hdata
  split at e <;> try cases e
  rename_i k hk
  split at e <;> try cases e
  rename_i ks hks
  have o1:=hob _ (.head _)
  have o2:=hob _ (.tail _ (.head _))
  have o3:=hob _ (.tail _ (.tail _ (.head _)))
  have e1:d = ed.1:=by injection o1
  have e2:a = ea.1:=by injection o2
  have e3:ed.2 = ⟨.type "dict",none,.dict es ep,#[]⟩:=by injection o3
  have d1:(!(Nat.beq d 1)) = true:=hd _ (.head _)
  have d2:nodupP ks = true:=hd _ (.tail _ (.head _))
  have d3:Nat.beq es.toList.length ts.length = true:=hd _ (.tail _ (.tail _ (.head _)))
  have d4:Nat.blt (unitsL (stk κ V.B)) 9000 = true:=hd _ (.tail _ (.tail _ (.tail _ (.head _))))
  have hT:∀t∈ts,s.heap.get? t.1 = some t.2:=fun t ht=>by
    obtain ⟨i',g⟩:=getAll'_is hts t ht
    exact (r.own i' t.1 t.2 g).2.1
  have hl:=Nat.eq_of_beq_eq_true d3
  obtain ⟨x1,x2,x3⟩:=xsOf_is (w:=w) (h:=s.heap) hks hl (fun x hx=>hob x (.tail _ (.tail _ (.tail _ hx)))) hT
  have go:=(r.own i ed.1 ed.2 hTd).2.1
  have ga:=(r.own j ea.1 ea.2 hTa).2.1
  have hD:s.heap.DictOfH (tkd w) d (xsOf es.toList ts ks):=by
    refine ⟨ed.2,es,ep,by rw [e1];exact go,by rw [e3];exact ⟨rfl,rfl,rfl⟩,hdata,x1,x2,?_⟩
    rw [x3]
    exact nodup_pairs (nodupP_is d2)
  have hkey:(tkd w).is s.heap [k.1,k.2] a:=by rw [e2];exact keyOf_is hk ga
  have hdm:(d == sysModules) = false:=by
    simp only [Bool.not_eq_true'] at d1
    show (d == 1) = false
    rw [beq_eq_false_iff_ne]
    intro q
    rw [q] at d1
    cases d1
  have hu:Γ.units < 9000:=by
    have h1:Γ.units = unitsL (stk κ V.B):=by
      rw [←hst]
      exact (unitsOf_cons Γ.code p Γ.below).symm
    rw [h1]
    exact blt_lt d4
  have hu1:(A0 Γ).in1.units < cLine:=by
    have h3:(A0 Γ).in1.units = Γ.units+1:=rfl
    rw [h3,cLine_is]
    exact Nat.lt_of_lt_of_le (Nat.add_lt_add_right hu 1) (Nat.le_of_ble_eq_true rfl)
  refine ic_call (call_meetsIn F.slot_dict_get hD.typeIs F.entry_dict_get (F.args_dict_get_2 _ _) (meetsH_dict_get (tkd w) d a hdm) ⟨?_,[k.1,k.2],_,hkey,hD,?_⟩)
  · exact hu1
  · have hv:=lookV_is (es:=es.toList) (ts:=ts) (ks:=ks) k hl (keysOf_len hks)
    show R (.ok (.ret (((atKey (xsOf es.toList ts ks) [k.1,k.2]).map (·.2)).getD .none))) {s with toks:=s.toks+3}
    rw [hv]
    exact hR _ ⟨r.size,by show s.toks+3 = tk+3;rw [r.toks],r.gens,r.drawn,r.os,r.own,r.inj,r.keep,r.grow⟩
noncomputable def icStd2 (w:World) (j:Nat):Icpt:=match Nat.beq j 17 with
  | true=>icGetT w
  | false=>icStd j
theorem icStd2_ok {V:Vw} {w:World} {b:Bs} (j:Nat):IcOk V (MW w) b (icStd2 w j):=by
  unfold icStd2
  cases Nat.beq j 17 with
  | true=>exact icGetT_ok
  | false=>exact icStd_ok j
noncomputable def icAll (w:World) (own:Nat→Icpt) (j:Nat):Icpt:=match Nat.blt j 32 with
  | true=>icStd2 w j
  | false=>own (j - 32)
noncomputable def tcAll (w:World) (j:Nat):Tcpt:=match Nat.beq j 4 with
  | true=>trSteps denQ w 64 qOpen 1011 1010 xsOpen
  | false =>match Nat.beq j 5 with
    | true=>trSteps denQ w 65 qClose 1018 1017 xsClose
    | false =>match Nat.beq j 6 with
      | true=>trLoadAt
      | false=>match Nat.beq j 7 with
        | true=>trNote
        | false=>match Nat.beq j 8 with
          | true=>trTry
          | false=>match Nat.beq j 9 with
            | true=>trHand w fun a=>(kT w.params).find a
            | false=>tcStd j
noncomputable def VW (w:World) (own:Nat→Icpt) (B:List (Code×Pos)):Vw:=⟨PySem.Challenge.pw_xw0355_01,w,denQ,fun a=>(kT w.params).find a,B,icAll w own,rowStd,tcAll w⟩
theorem kt_big {w:World} {b:Bs} (h:KT w b):10≤b.h.objs.size:=by
  have e:∃o,(kT w.params).find 1011 = some o:=by
    have:((kT w.params).find 1011).isSome = true:=by kernel_rfl
    exact Option.isSome_iff_exists.mp this
  obtain ⟨o,e⟩:=e
  have:=Heap.lt_size (h 1011 o e).1
  exact Nat.le_trans (by decide:10≤1011) (Nat.le_of_lt this)
theorem tcAll_ok {V:Vw} {w:World} {b:Bs} (h:KT w b) (j:Nat):TcOk V (MW w) b (tcAll w j):=by
  unfold tcAll
  cases Nat.beq j 4 with
  | true=>exact trSteps_ok denQ_is (fnOpen w) h (kt_big h)
  | false =>cases Nat.beq j 5 with
    | true=>exact trSteps_ok denQ_is (fnClose w) h (kt_big h)
    | false =>cases Nat.beq j 6 with
      | true=>exact trLoadAt_ok
      | false=>cases Nat.beq j 7 with
        | true=>exact trNote_ok
        | false=>cases Nat.beq j 8 with
          | true=>exact trTry_ok
          | false=>cases Nat.beq j 9 with
            | true=>exact trHand_ok h
            | false=>exact tcStd_ok j
theorem run_wp {w:World} {own:Nat→Icpt} {b:Bs} (fit:Fit w own b) {B:List (Code×Pos)} {n:Nat} {hs:List Nat} {t:Sem Fin} {c:Code} {p:Pos} {sz tk m:Nat} {T:Tr Ent} {F:Out→Prop} {Γ:Ctx} {s:Shared}
    (h:∀ω,Good F (sim (VW w own B) n ω hs t c p [] sz tk m T [] [])) (hc:Γ.code = c) (hb:Γ.below = B) (hh:Γ.handled = none) (r:Rel b sz tk m T s):
    wpF (MW w) Γ t (base b F) p s:=by
  have:=sim_sound (V:=VW w own B) (b:=b) (F:=F) denQ_is fit.kt (fun j=>by
    show IcOk _ _ _ (icAll w own j)
    unfold icAll
    cases Nat.blt j 32 with
    | true=>exact icStd2_ok j
    | false=>exact fit.ic _ _ rfl rfl rfl) (fun j=>tcAll_ok fit.kt j) n hs t c p [] sz tk m T [] [] s r h Γ hc hb hh
  exact this
end
end Mine
namespace Mine
open PySem PySem.W
noncomputable section
section
variable {w:World} {b:Bs} {sz tk m:Nat} {T:Tr Ent} {s:Shared}
theorem sub_kt (h:KT w b) (r:Rel b sz tk m T s) {sel:List Nat} {ents:List Ent} (hs:sel.map T.get = ents.map some):KT w (subB s ents):=by
  intro a o e
  obtain ⟨h1,h2⟩:=h a o e
  refine ⟨r.keep a o h1 h2,fun hm=>?_⟩
  obtain ⟨x,hx,rfl⟩:=List.mem_map.mp hm
  obtain ⟨k,hk⟩:=List.getElem?_of_mem hx
  have len:=length_of_maps hs
  have hkl:k < sel.length:=by rw [len];exact (List.getElem?_eq_some_iff.mp hk).1
  obtain ⟨y,q1,q2⟩:=getElem?_of_maps hs (List.getElem?_eq_getElem hkl)
  rw [hk] at q1
  cases q1
  rcases (r.own _ _ _ q2).2.2 with q | q
  · exact h2 q
  · exact absurd (Heap.lt_size h1) (Nat.not_lt.mpr q)
theorem maps_append {α β:Type} {f:α→Option β} {l1 l2:List α} {e1 e2:List β} (h:(l1++l2).map f = (e1++e2).map some) (hl:l1.length = e1.length):l1.map f = e1.map some∧l2.map f = e2.map some:=by
  rw [List.map_append,List.map_append] at h
  exact List.append_inj h (by simpa using hl)
noncomputable def Triple (w:World) (c:Code) (st:List (Code×Pos)) (ents posts news:List Ent) (sz tk:Nat) (r0:Result):Prop:=
  ∀ (b:Bs) (m:Nat) (T T2:Tr Ent) (s:Shared) (Γ:Ctx) (p:Pos) (R:Result→Shared→Prop) (sel:List Nat),KT w b→10≤b.h.objs.size→Rel b sz tk m T s→(Γ.code,p)::Γ.below = st→Γ.handled = none→
    sel.map T.get = ents.map some→sel.Nodup→Pub sel posts news m T T2→(∀sz' tk' s',10≤sz'→Rel b sz' tk' (m+news.length) T2 s'→R r0 s')→wpCode (MW w) (Γ.enter c none p) R p s
theorem triple_of_run {own:Nat→Icpt} {c:Code} {st:List (Code×Pos)} {is hs:List Nat} {ents es posts news:List Ent} {T0:Tr Ent} {n:Nat} {r0:Result}
    (hic:∀(b':Bs) (V':Vw) (j:Nat),KT w b'→10≤b'.h.objs.size→V'.prog = PySem.Challenge.pw_xw0355_01→V'.w = w→V'.den = denQ→IcOk V' (MW w) b' (own j))
    (h0:insL 0 ents .nil = some T0)
    (run:∀p,∃ds,(∀d∈ds,d = true)∧∀ω,RunIs (sim (VW w own st) n ω hs (denQ c) c p [] sz tk ents.length T0 [] []) r0 is es ds)
    (hes:es = posts++news) (hlen:posts.length = ents.length) (ndi:is.Nodup):Triple w c st ents posts news sz tk r0:=by
  intro b m T T2 s Γ p R sel hkt hb rel hst hh hsel nd hpub hR
  obtain ⟨ds,hds,run⟩:=run p
  have rel0:=embed rel hsel nd h0
  have w1:=run_wp (own:=own) (F:=fun o=>o.r = r0∧is.map o.T.get = es.map some) (Γ:=Γ.enter c none p) (p:=p) (s:=s) ⟨sub_kt hkt rel hsel,fun V j=>hic _ V j (sub_kt hkt rel hsel) (Nat.le_trans hb rel.grow)⟩ (fun ω=>(run ω).good hds) rfl hst hh rel0
  have e:(MW w).den (Γ.enter c none p).code = denQ c:=by
    show denote table c = denQ c
    rw [denQ_is]
  rw [←e] at w1
  refine wpCode_mono ?_ (wpCode_of w1)
  rintro r s' ⟨o,⟨q1,q2⟩,q3,rel'⟩
  rw [hes] at q2
  rw [←q3,q1]
  have back:=embed_back2 rel hsel nd rel' hlen q2 ndi hpub
  exact hR _ _ _ (Nat.le_trans hb (by rw [←back.size];exact back.grow)) back
end
theorem triple_more {w:World} {c:Code} {st:List (Code×Pos)} {ents posts news ents' posts':List Ent} {sz tk:Nat} {r0:Result} (idx:List Nat)
    (h:Triple w c st ents' posts' news sz tk r0) (nd:idx.Nodup) (he:idx.map (ents[·]?) = ents'.map some) (hp:idx.map (posts[·]?) = posts'.map some)
    (hl:posts.length = ents.length) (same:∀j,j∉idx→posts[j]? = ents[j]?):Triple w c st ents posts news sz tk r0:=by
  intro b m T T2 s Γ p R sel hkt hb rel hst hh hsel ndS hpub hR
  have len:=length_of_maps hsel
  have lenI:=length_of_maps he
  have lenP:=length_of_maps hp
  have inI:∀k∈idx,k < sel.length:=by
    intro k hk
    obtain ⟨j,hj⟩:=List.getElem?_of_mem hk
    obtain ⟨e,_,q⟩:=getElem?_of_maps he hj
    have:=(List.getElem?_eq_some_iff.mp q).1
    omega
  have mem:∀(j k:Nat) (e:Ent),idx[j]? = some k→posts'[j]? = some e→(sel.getD k 0,e)∈sel.zip posts:=by
    intro j k e hj hp'
    obtain ⟨e',q1,q2⟩:=getElem?_of_maps hp hj
    rw [hp'] at q1
    cases q1
    have hk:=inI k (List.mem_of_getElem? hj)
    rw [List.mem_iff_getElem?]
    refine ⟨k,?_⟩
    rw [List.getElem?_zip_eq_some]
    exact ⟨by rw [List.getD_eq_getElem?_getD,List.getElem?_eq_getElem hk];rfl,q2⟩
  refine h b m T T2 s Γ p R (idx.map fun k=>sel.getD k 0) hkt hb rel hst hh ?_ ?_ (fun i=>⟨(hpub i).1,fun q=>⟨fun e hm=>?_,fun hn=>?_⟩⟩) hR
  · apply List.ext_getElem?
    intro j
    rw [List.map_map,List.getElem?_map,List.getElem?_map]
    cases hj:idx[j]? with
    | none=>
      have:=List.getElem?_eq_none_iff.mp hj
      rw [List.getElem?_eq_none (by omega)];rfl
    | some k=>
      obtain ⟨e,q1,q2⟩:=getElem?_of_maps he hj
      have hk:=inI k (List.mem_of_getElem? hj)
      rw [q1]
      show some (T.get (sel.getD k 0)) = some (some e)
      obtain ⟨e2,z1,z2⟩:=getElem?_of_maps hsel (List.getElem?_eq_getElem hk)
      have q2':ents[k]? = some e:=q2
      rw [q2'] at z1
      cases z1
      rw [List.getD_eq_getElem?_getD,List.getElem?_eq_getElem hk]
      exact congrArg some z2
  · rw [List.nodup_iff_pairwise_ne,List.pairwise_map]
    rw [List.nodup_iff_pairwise_ne] at nd
    refine List.Pairwise.imp_of_mem ?_ nd
    intro x y hx hy hxy e
    have kx:=inI x hx
    have ky:=inI y hy
    rw [List.getD_eq_getElem?_getD,List.getD_eq_getElem?_getD,List.getElem?_eq_getElem kx,List.getElem?_eq_getElem ky] at e
    exact hxy (nodup_at ndS e)
  · obtain ⟨j,hj⟩:=List.mem_iff_getElem?.mp hm
    rw [List.getElem?_zip_eq_some] at hj
    obtain ⟨h1,h2⟩:=hj
    rw [List.getElem?_map] at h1
    cases hk:idx[j]? with
    | none=>rw [hk] at h1;cases h1
    | some k=>
      rw [hk] at h1
      simp only [Option.map_some,Option.some.injEq] at h1
      rw [←h1]
      rw [←h1] at q
      exact ((hpub _).2 q).1 e (mem j k e hk h2)
  · by_cases hs:i∈sel
    · obtain ⟨j,hj⟩:=List.getElem?_of_mem hs
      have hji:j∉idx:=fun hj'=>hn (List.mem_map.mpr ⟨j,hj',by rw [List.getD_eq_getElem?_getD,hj];rfl⟩)
      obtain ⟨e,z1,z2⟩:=getElem?_of_maps hsel hj
      have:=same j hji
      rw [z1] at this
      rw [((hpub i).2 q).1 e (by
        rw [List.mem_iff_getElem?]
        exact ⟨j,by rw [List.getElem?_zip_eq_some];exact ⟨hj,this⟩⟩),z2]
    · exact ((hpub i).2 q).2 hs
end
end Mine
namespace Mine
open PySem PySem.W
noncomputable section
structure Lets where
  n:List Nat
  i:List Int
  s:List Str
  b:List (Array UInt8)
  e:List PySem.Env
noncomputable def natsV:Value→List Nat
  | .ref a=>[a]
  | .int _ t=>[t]
  | .str _ t=>[t]
  | .bytes _ t=>[t]
  | _=>[]
noncomputable def intsV:Value→List Int
  | .int x _=>[x]
  | _=>[]
noncomputable def strsV:Value→List Str
  | .str x _=>[x]
  | _=>[]
noncomputable def bytsV:Value→List (Array UInt8)
  | .bytes x _=>[x]
  | _=>[]
noncomputable def valsO (o:Obj):List Value:=match o.data with
  | .seq vs _=>vs.toList
  | .fields vs=>vs.toList
  | .dict es _=>es.toList.flatMap fun e=>[e.key,e.val]
  | .cell v=>v.toList
  | _=>[]
noncomputable def valsE (e:Ent):List Value:= .ref e.1::(match e.2.dict with | some d=>[.ref d] | none=>[])++valsO e.2
noncomputable def letsOf (vs:List Value) (es:List PySem.Env):Lets:=⟨vs.flatMap natsV,vs.flatMap intsV,vs.flatMap strsV,vs.flatMap bytsV,es⟩
noncomputable def codeVals:Code→List Value
  | .call f a=>f::a.pos
  | .forLoop _ it _ _ e=>it:: .ref e.locals::(match e.frame with | some f=>[.ref f] | none=>[])
  | .compStart _ _ it acc e=>it::acc:: .ref e.locals::((match e.frame with | some f=>[.ref f] | none=>[])++e.cells.map fun c=> .ref c.2)
  | _=>[]
noncomputable def codeEnvs:Code→List PySem.Env
  | .forLoop _ _ _ _ e=>[e]
  | _=>[]
noncomputable def lets (c:Code) (ents:List Ent):Lets:=letsOf (codeVals c++ents.flatMap valsE) (codeEnvs c)
noncomputable def Lets.N (L:Lets) (k:Nat):Nat:=L.n.getD k 0
noncomputable def Lets.I (L:Lets) (k:Nat):Int:=L.i.getD k 0
noncomputable def Lets.S (L:Lets) (k:Nat):Str:=L.s.getD k default
noncomputable def Lets.Bt (L:Lets) (k:Nat):Array UInt8:=L.b.getD k default
noncomputable def Lets.E (L:Lets) (k:Nat):PySem.Env:=L.e.getD k default
structure Ct where
  np:Nat
  code:World→Lets→Code
  ents:World→Lets→List Ent
  posts:World→Lets→Nat→Nat→List Ent
  news:World→Lets→Nat→Nat→List Ent
  res:World→Lets→Nat→Nat→Flow
  ds:World→Lets→List Bool
  sh:List (Code×Pos)→Bool
  nx:Nat:=0
  xadr:World→Lets→List Nat:=fun _ _=>[]
  xin:Obj→Obj:=fun o=>o
  xds:Obj→List Bool:=fun _=>[]
  xpost:World→Lets→List Obj→List Obj:=fun _ _ _=>[]
noncomputable def takeN:Nat→List Nat→Option (List Nat×List Nat)
  | 0,hs=>some ([],hs)
  | _+1,[]=>none
  | n+1,h::hs=>match takeN n hs with
    | some r=>some (h::r.1,r.2)
    | none=>none
noncomputable def getAll (T:Tr Ent):List Nat→Option (List Ent)
  | []=>some []
  | i ::r=>match T.get i with
    | some e=>match getAll T r with
      | some es=>some (e::es)
      | none=>none
    | none=>none
theorem getAll_is {T:Tr Ent}:∀{sel:List Nat} {es:List Ent},getAll T sel = some es→sel.map T.get = es.map some
  | [],es,h=>by cases h;rfl
  | i ::r,es,h=>by
    unfold getAll at h
    cases e:T.get i with
    | none=>rw [e] at h;cases h
    | some x=>
      rw [e] at h
      cases e2:getAll T r with
      | none=>rw [e2] at h;cases h
      | some y=>
        rw [e2] at h
        cases h
        rw [List.map_cons,List.map_cons,e,getAll_is e2]
noncomputable def nodupB:List Nat→Bool
  | []=>true
  | x::r=>!(r.any (Nat.beq x)) && nodupB r
theorem nodupB_is:∀{l:List Nat},nodupB l = true→l.Nodup
  | [],_=>List.nodup_nil
  | x::r,h=>by
    unfold nodupB at h
    rw [Bool.and_eq_true] at h
    refine List.nodup_cons.mpr ⟨fun hx=>?_,nodupB_is h.2⟩
    have h1:=h.1
    simp only [Bool.not_eq_true',List.any_eq_false] at h1
    exact h1 x hx (Nat.beq_refl x)
noncomputable def obV:List Value→List Value→List (Ob×Ob)
  | a::as,c::cs=>(.v a,.v c)::obV as cs
  | _,_=>[]
noncomputable def obE:List Ent→List Ent→List (Ob×Ob)
  | a::as,c::cs=>(.n a.1,.n c.1)::(.o a.2,.o c.2)::obE as cs
  | _,_=>[]
theorem obV_is:∀{as cs:List Value},as.length = cs.length→(∀x∈obV as cs,x.1 = x.2)→as = cs
  | [],[],_,_=>rfl
  | [],_::_,h,_=>by cases h
  | _::_,[],h,_=>by cases h
  | a::as,c::cs,h,H=>by
    have e:=H _ (.head _)
    have e1:a = c:=by injection e
    rw [e1,obV_is (by simpa using h) fun x hx=>H x (.tail _ hx)]
theorem obE_is:∀{as cs:List Ent},as.length = cs.length→(∀x∈obE as cs,x.1 = x.2)→as = cs
  | [],[],_,_=>rfl
  | [],_::_,h,_=>by cases h
  | _::_,[],h,_=>by cases h
  | (a1,a2)::as,(c1,c2)::cs,h,H=>by
    have e:=H _ (.head _)
    have e1:a1 = c1:=by injection e
    have e':=H _ (.tail _ (.head _))
    have e2:a2 = c2:=by injection e'
    rw [e1,e2,obE_is (by simpa using h) fun x hx=>H x (.tail _ (.tail _ hx))]
noncomputable def icOf0 (w:World) (ct:Ct):Icpt:=fun ω st c hs sz tk m T=>match takeN ct.np hs with
  | some r=>match takeN ct.nx r.2 with
    | some rx=>match getAll T r.1 with
      | some es =>match getAll T rx.1 with
        | some xs =>match setL ((r.1++rx.1).zip (ct.posts w (lets c es) sz tk++(ct.xadr w (lets c es)).zip (ct.xpost w (lets c es) (xs.map (·.2))))) T with
          | some T1=>match insL m (ct.news w (lets c es) sz tk) T1 with
            | some T2=>some ⟨.ok (ct.res w (lets c es) sz tk),rx.2,ω 0+10,ω 1,m+(ct.news w (lets c es) sz tk).length,T2,
                (.c c,.c (ct.code w (lets c es)))::(obE es (ct.ents w (lets c es))++obE xs ((ct.xadr w (lets c es)).zip ((xs.map (·.2)).map ct.xin))),
                Nat.ble 10 sz::ct.sh st::nodupB (r.1++rx.1)::Nat.beq es.length (ct.ents w (lets c es)).length::
                  Nat.beq xs.length ((ct.xadr w (lets c es)).zip ((xs.map (·.2)).map ct.xin)).length::Nat.beq xs.length ct.nx::(ct.ds w (lets c es)++(xs.map (·.2)).flatMap ct.xds)⟩
            | none=>none
          | none=>none
        | none=>none
      | none=>none
    | none=>none
  | none=>none
structure CtOk (w:World) (ct:Ct):Prop where
  plen:∀L sz tk,(ct.posts w L sz tk).length = (ct.ents w L).length
  xlen:∀L xs,((ct.xadr w L).zip (ct.xpost w L xs)).length = ((ct.xadr w L).zip (xs.map ct.xin)).length
  triple:∀L (xs:List Obj) sz tk st,xs.length = ct.nx→ct.sh st = true→(∀d∈ct.ds w L,d = true)→(∀d∈xs.flatMap ct.xds,d = true)→
    Triple w (ct.code w L) st (ct.ents w L++(ct.xadr w L).zip (xs.map ct.xin)) (ct.posts w L (sz+10) tk++(ct.xadr w L).zip (ct.xpost w L xs)) (ct.news w L (sz+10) tk) (sz+10) tk (.ok (ct.res w L (sz+10) tk))
theorem getAll_append {T:Tr Ent}:∀{l1 l2:List Nat} {e1 e2:List Ent},l1.map T.get = e1.map some→l2.map T.get = e2.map some→(l1++l2).map T.get = (e1++e2).map some:=by
  intro l1 l2 e1 e2 h1 h2
  rw [List.map_append,List.map_append,h1,h2]
theorem icOf0_ok {w:World} {ct:Ct} {V:Vw} {b:Bs} (ok:CtOk w ct) (hkt:KT w b) (hb:10≤b.h.objs.size):IcOk V (MW w) b (icOf0 w ct):=by
  intro Γ c hs' sz tk m T p s R κ hst _ hh rel H
  obtain ⟨y,e,hob,hd,_⟩:=H fun _=>0
  have H':∀ω r,icOf0 w ct ω (stk κ V.B) c hs' sz tk m T = some r→∀s',Rel b r.sz r.tk r.m r.T s'→R r.r s':=by
    intro ω r er s' rs
    obtain ⟨y,e,_,_,h⟩:=H ω
    rw [er] at e
    cases e
    exact h s' rs
  unfold icOf0 at e H'
  cases q1:takeN ct.np hs' with
  | none=>rw [q1] at e;cases e
  | some r=>
  rw [q1] at e H'
  dsimp only at e H'
  cases q1x:takeN ct.nx r.2 with
  | none=>rw [q1x] at e;cases e
  | some rx=>
  rw [q1x] at e H'
  dsimp only at e H'
  cases q2:getAll T r.1 with
  | none=>rw [q2] at e;cases e
  | some es=>
  rw [q2] at e H'
  dsimp only at e H'
  cases q2x:getAll T rx.1 with
  | none=>rw [q2x] at e;cases e
  | some xe=>
  rw [q2x] at e H'
  dsimp only at e H'
  generalize hL:lets c es = L at*
  generalize hX:xe.map (·.2) = xs at*
  cases q3:setL ((r.1++rx.1).zip (ct.posts w L sz tk++(ct.xadr w L).zip (ct.xpost w L xs))) T with
  | none=>rw [q3] at e;cases e
  | some T1=>
  rw [q3] at e H'
  dsimp only at e H'
  cases q4:insL m (ct.news w L sz tk) T1 with
  | none=>rw [q4] at e;cases e
  | some T2=>
  rw [q4] at e H'
  dsimp only at e H'
  cases e
  have d1:Nat.ble 10 sz = true:=hd _ (.head _)
  have d2:ct.sh (stk κ V.B) = true:=hd _ (.tail _ (.head _))
  have d3:nodupB (r.1++rx.1) = true:=hd _ (.tail _ (.tail _ (.head _)))
  have d5:Nat.beq es.length (ct.ents w L).length = true:=hd _ (.tail _ (.tail _ (.tail _ (.head _))))
  have d5x:Nat.beq xe.length ((ct.xadr w L).zip (xs.map ct.xin)).length = true:=hd _ (.tail _ (.tail _ (.tail _ (.tail _ (.head _)))))
  have d5y:Nat.beq xe.length ct.nx = true:=hd _ (.tail _ (.tail _ (.tail _ (.tail _ (.tail _ (.head _))))))
  have d6:∀d∈ct.ds w L++xs.flatMap ct.xds,d = true:=fun d h=>hd d (.tail _ (.tail _ (.tail _ (.tail _ (.tail _ (.tail _ h))))))
  have o1:=hob _ (.head _)
  have o2:c = ct.code w L:=by injection o1
  have o3:=obE_is (Nat.eq_of_beq_eq_true d5) fun x hx=>hob x (.tail _ (List.mem_append_left _ hx))
  have o4:=obE_is (Nat.eq_of_beq_eq_true d5x) fun x hx=>hob x (.tail _ (List.mem_append_right _ hx))
  obtain ⟨sz',rfl⟩:∃z,sz = z+10:=⟨sz - 10,by have:=Nat.le_of_ble_eq_true d1;omega⟩
  have hxl:xs.length = ct.nx:=by rw [←hX,List.length_map];exact Nat.eq_of_beq_eq_true d5y
  have tri:=ok.triple L xs sz' tk (stk κ V.B) hxl d2 (fun d h=>d6 d (List.mem_append_left _ h)) (fun d h=>d6 d (List.mem_append_right _ h))
  have hsel:=getAll_append (getAll_is q2) (getAll_is q2x)
  rw [o3,o4] at hsel
  have nd:=nodupB_is d3
  rw [o2]
  have hl:(r.1++rx.1).length = (ct.posts w L (sz'+10) tk++(ct.xadr w L).zip (ct.xpost w L xs)).length:=by
    rw [length_of_maps hsel,List.length_append,List.length_append,ok.plen,ok.xlen]
  refine tri b m T T2 s Γ p R (r.1++rx.1) hkt hb rel hst hh hsel nd (pub_of nd hl q3 q4) fun sz2 tk2 s' hz rel'=>?_
  have:=H' (fun i=>if i = 0 then sz2 - 10 else tk2) _ rfl s'
  refine this ?_
  show Rel b ((if 0 = 0 then sz2 - 10 else tk2)+10) (if 1 = 0 then sz2 - 10 else tk2) _ _ s'
  rw [if_pos rfl,if_neg (by decide),show sz2 - 10+10 = sz2 by omega]
  exact rel'
noncomputable def icOf (w:World) (ct:Ct):Icpt:=icFo (icOf0 w ct)
theorem icOf_ok {w:World} {ct:Ct} {V:Vw} {b:Bs} (ok:CtOk w ct) (hkt:KT w b) (hb:10≤b.h.objs.size):IcOk V (MW w) b (icOf w ct):=icFo_ok (icOf0_ok ok hkt hb)
end
end Mine
namespace Mine
open PySem PySem.W
noncomputable section
noncomputable def slotDs (o:Obj):List Bool:=[Nat.ble (arrO o).size 1000]
noncomputable def slotE (v:Value) (b:Bool) (o:Obj):Obj:=⟨.type "list",none,.seq (cond b ((arrO o).push v) (arrO o)) (cond b (cntO o+1) (cntO o)),⟨[]⟩⟩
theorem slotE_true (v:Value) (o:Obj):slotE v true o = Obj.mapSeq (·.push v) (slotIn o):=by
  show (⟨.type "list",none,.seq ((arrO o).push v) (cntO o+1),⟨[]⟩⟩:Obj) = ⟨.type "list",none,.seq ((arrO o).push v) (if ((arrO o).push v).size == (arrO o).size then cntO o else cntO o+1),⟨[]⟩⟩
  rw [if_neg (by simp)]
theorem slotE_false (v:Value) (o:Obj):slotE v false o = slotIn o:=rfl
noncomputable def pushAt (v:Value):Nat→Nat→List Obj→List Obj
  | _,_,[]=>[]
  | J,i,o::r=>slotE v (Nat.beq J i) o::pushAt v J (i+1) r
theorem pushAt_len (v:Value) (J:Nat):∀(i:Nat) (l:List Obj),(pushAt v J i l).length = l.length
  | _,[]=>rfl
  | i,o::r=>by
    unfold pushAt
    rw [List.length_cons,List.length_cons,pushAt_len v J (i+1) r]
theorem pushAt_get (v:Value) (J:Nat):∀(i:Nat) (l:List Obj) (j:Nat),(pushAt v J i l)[j]? = (l[j]?).map fun o=>if J = i+j then Obj.mapSeq (·.push v) (slotIn o) else slotIn o
  | _,[],j=>by simp [pushAt]
  | i,o::r,0=>by
    unfold pushAt
    rw [List.getElem?_cons_zero,List.getElem?_cons_zero,BT.beq_eq]
    by_cases h:J = i
    · simp [h,slotE_true]
    · simp [h,slotE_false]
  | i,o::r,j+1=>by
    unfold pushAt
    rw [List.getElem?_cons_succ,List.getElem?_cons_succ,pushAt_get v J (i+1) r j,show i+1+j = i+(j+1) by omega]
noncomputable def isF:Code→Bool
  | .func .. =>true
  | _=>false
noncomputable def isL:Code→Bool
  | .forLoop .. =>true
  | _=>false
noncomputable def isC:Code→Bool
  | .builtin id a=>Nat.beq (PySem.code id) 35714603318786955769505017188 && a.pos.isEmpty && a.kw.isEmpty
  | _=>false
noncomputable def kindIs (k:Nat) (c:Code):Bool:=match k with
  | 0=>isF c
  | 1=>isL c
  | _=>isC c
noncomputable def shapeB:List Nat→List (Code×Pos)→Bool
  | [],[]=>true
  | k::ks,x::st=>kindIs k x.1 && shapeB ks st
  | _,_=>false
theorem shape_func {x:Code×Pos} (h:kindIs 0 x.1 = true):∃b e p,x = (.func b e,p):=by
  obtain ⟨c,p⟩:=x
  cases c <;> first | exact ⟨_,_,_,rfl⟩ | cases h
theorem shape_for {x:Code×Pos} (h:kindIs 1 x.1 = true):∃tg it bo oe e p,x = (.forLoop tg it bo oe e,p):=by
  obtain ⟨c,p⟩:=x
  cases c <;> first | exact ⟨_,_,_,_,_,_,rfl⟩ | cases h
theorem shape_caller {x:Code×Pos} (h:kindIs 2 x.1 = true):∃p,x = (.builtin "claim.caller" {},p):=by
  obtain ⟨c,p⟩:=x
  cases c <;> try cases h
  rename_i id a
  have h:(Nat.beq (PySem.code id) 35714603318786955769505017188 && a.pos.isEmpty && a.kw.isEmpty) = true:=h
  simp only [Bool.and_eq_true] at h
  obtain ⟨⟨h1,h2⟩,h3⟩:=h
  obtain ⟨pos,kw⟩:=a
  have e:=PySem.code_inj id "claim.caller" ((Nat.eq_of_beq_eq_true h1).trans (by decide+kernel))
  have e2:pos = []:=List.isEmpty_iff.mp h2
  have e3:kw = []:=List.isEmpty_iff.mp h3
  subst e e2 e3
  exact ⟨p,rfl⟩
theorem shape_cons {k:Nat} {ks:List Nat} {st:List (Code×Pos)} (h:shapeB (k::ks) st = true):∃x r,st = x::r∧kindIs k x.1 = true∧shapeB ks r = true:=by
  cases st with
  | nil=>cases h
  | cons x r=>exact ⟨x,r,rfl,(Bool.and_eq_true_iff.mp h).1,(Bool.and_eq_true_iff.mp h).2⟩
theorem shape_nil {st:List (Code×Pos)} (h:shapeB [] st = true):st = []:=by
  cases st with
  | nil=>rfl
  | cons x r=>cases h
theorem slots_triple {w:World} {c:Code} {st:List (Code×Pos)} {E P news:List Ent} {sz tk:Nat} {r0:Result} {adr:List Nat} {xs:List Obj} {v:Value} {J:Nat} {a:Nat} {x:Obj}
    (hl:P.length = E.length) (ha:adr[J]? = some a) (hx:xs[J]? = some x)
    (h:Triple w c st (E++[(a,slotIn x)]) (P++[(a,Obj.mapSeq (·.push v) (slotIn x))]) news sz tk r0):
    Triple w c st (E++adr.zip (xs.map slotIn)) (P++adr.zip (pushAt v J 0 xs)) news sz tk r0:=by
  refine triple_more (List.range E.length++[E.length+J]) h ?_ ?_ ?_ ?_ fun j hj=>?_
  · rw [List.nodup_append]
    refine ⟨List.nodup_range,by simp,?_⟩
    intro k hk k' hk' e
    rw [List.mem_range] at hk
    simp only [List.mem_singleton] at hk'
    omega
  · rw [List.map_append,List.map_append]
    congr 1
    · apply List.ext_getElem?
      intro j
      rw [List.getElem?_map,List.getElem?_map]
      by_cases q:j < E.length
      · rw [List.getElem?_range q,List.getElem?_eq_getElem q]
        show some ((E++_)[j]?) = some (some _)
        rw [List.getElem?_append_left q,List.getElem?_eq_getElem q]
      · rw [List.getElem?_eq_none (by rw [List.length_range];omega),List.getElem?_eq_none (by omega)];rfl
    · show [(E++adr.zip (xs.map slotIn))[E.length+J]?] = [some (a,slotIn x)]
      rw [List.getElem?_append_right (by omega),Nat.add_sub_cancel_left]
      congr 1
      rw [List.getElem?_zip_eq_some]
      exact ⟨ha,by rw [List.getElem?_map,hx];rfl⟩
  · rw [List.map_append,List.map_append]
    congr 1
    · apply List.ext_getElem?
      intro j
      rw [List.getElem?_map,List.getElem?_map]
      by_cases q:j < E.length
      · rw [List.getElem?_range q,List.getElem?_eq_getElem (by omega)]
        show some ((P++_)[j]?) = some (some _)
        rw [List.getElem?_append_left (by omega),List.getElem?_eq_getElem (by omega)]
      · rw [List.getElem?_eq_none (by rw [List.length_range];omega),List.getElem?_eq_none (by omega)];rfl
    · show [(P++adr.zip (pushAt v J 0 xs))[E.length+J]?] = [some (a,Obj.mapSeq (·.push v) (slotIn x))]
      rw [List.getElem?_append_right (by omega),hl,Nat.add_sub_cancel_left]
      congr 1
      rw [List.getElem?_zip_eq_some]
      exact ⟨ha,by rw [pushAt_get,hx];simp⟩
  · simp [pushAt_len,hl]
  · by_cases q:j < E.length
    · exact absurd (List.mem_append_left _ (List.mem_range.mpr q)) hj
    · have hne:j≠E.length+J:=fun e=>hj (List.mem_append_right _ (by rw [e];exact List.mem_singleton_self _))
      rw [List.getElem?_append_right (by omega),List.getElem?_append_right (by omega),hl]
      generalize hk:j - E.length = k
      have hkJ:J≠k:=by omega
      have e:(pushAt v J 0 xs)[k]? = (xs.map slotIn)[k]? :=by
        rw [pushAt_get,List.getElem?_map]
        simp [hkJ]
      apply Option.ext
      intro z
      rw [List.getElem?_zip_eq_some,List.getElem?_zip_eq_some,e]
end
end Mine
namespace Mine
open PySem PySem.W
noncomputable section
noncomputable def Triple2 (w:World) (c:Code) (st:List (Code×Pos)) (ents:List Ent) (posts news:(Nat→Nat)→List Ent) (nn:Nat) (sz tk:Nat) (r0:(Nat→Nat)→Result):Prop:=
  ∀ (b:Bs) (m:Nat) (T:Tr Ent) (T2:(Nat→Nat)→Tr Ent) (s:Shared) (Γ:Ctx) (p:Pos) (R:Result→Shared→Prop) (sel:List Nat),KT w b→10≤b.h.objs.size→Rel b sz tk m T s→(Γ.code,p)::Γ.below = st→Γ.handled = none→
    sel.map T.get = ents.map some→sel.Nodup→(∀Y,Pub sel (posts Y) (news Y) m T (T2 Y))→(∀Y,(news Y).length = nn)→(∀Y sz' tk' s',10≤sz'→Rel b sz' tk' (m+nn) (T2 Y) s'→R (r0 Y) s')→wpCode (MW w) (Γ.enter c none p) R p s
abbrev OwnOk (w:World) (own:Nat→Icpt):Prop:=∀(b':Bs) (V':Vw) (j:Nat),KT w b'→10≤b'.h.objs.size→V'.prog = PySem.Challenge.pw_xw0355_01→V'.w = w→V'.den = denQ→IcOk V' (MW w) b' (own j)
theorem triple2_of_run {w:World} {own:Nat→Icpt} {c:Code} {st:List (Code×Pos)} {hs:List Nat} {ents:List Ent} {posts news:(Nat→Nat)→List Ent} {nn sz tk:Nat} {T0:Tr Ent} {n:Nat} {r0:(Nat→Nat)→Result} {is:List Nat} {Y:Nat→(Nat→Nat)→(Nat→Nat)}
    (hic:OwnOk w own) (h0:insL 0 ents .nil = some T0)
    (run:∀p ω,∃ds,(∀d∈ds,d = true)∧RunIs (sim (VW w own st) n ω hs (denQ c) c p [] sz tk ents.length T0 [] []) (r0 (Y tk ω)) is (posts (Y tk ω)++news (Y tk ω)) ds)
    (ndi:is.Nodup) (hlen:∀Y,(posts Y).length = ents.length):Triple2 w c st ents posts news nn sz tk r0:=by
  intro b m T T2 s Γ p R sel hkt hb rel hst hh hsel nd hpub hnn hR
  have rel0:=embed rel hsel nd h0
  have w1:=run_wp (own:=own) (F:=fun o=>∃Y,o.r = r0 Y∧is.map o.T.get = (posts Y++news Y).map some) (Γ:=Γ.enter c none p) (p:=p) (s:=s) ⟨sub_kt hkt rel hsel,fun V j=>hic _ V j (sub_kt hkt rel hsel) (Nat.le_trans hb rel.grow)⟩ (fun ω=>by
    obtain ⟨ds,hds,run⟩:=run p ω
    have g:=run.good hds
    exact ⟨g.1,g.2.1,g.2.2.1,_,g.2.2.2⟩) rfl hst hh rel0
  have e:(MW w).den (Γ.enter c none p).code = denQ c:=by
    show denote table c = denQ c
    rw [denQ_is]
  rw [←e] at w1
  refine wpCode_mono ?_ (wpCode_of w1)
  rintro r s' ⟨o,⟨Y,q1,q2⟩,q3,rel'⟩
  rw [←q3,q1]
  have back:=embed_back2 rel hsel nd rel' (hlen Y) q2 ndi (hpub Y)
  rw [hnn] at back
  exact hR _ _ _ _ (Nat.le_trans hb (by rw [←back.size];exact back.grow)) back
end
end Mine
namespace Mine
open PySem PySem.W
noncomputable section
structure Lt where
  A:Nat→Nat
  U:Nat→Nat
  I:Nat→Int
  S:Nat→Str
  B:Nat→Array UInt8
  O:Nat→Obj
  X:Nat→Nat
  V:Nat→Value
  E:Nat→PySem.Env
noncomputable def up (L:Lt):Lt:={L with A:=fun i=>L.A i+10,X:=fun i=>L.X i+10}
structure Ct2 where
  np:Nat
  nx:Nat:=0
  aI:List Nat
  uI:List Nat
  iI:List Nat
  sI:List Nat:=[]
  bI:List Nat:=[]
  vI:List Nat:=[]
  code:World→Lt→Code
  ents:World→Lt→List Ent
  posts:World→Lt→(Nat→Nat)→List Ent
  news:World→Lt→(Nat→Nat)→List Ent
  nn:Nat
  res:World→Lt→(Nat→Nat)→Flow
  ds:Lt→List Bool:=fun _=>[]
  obs:Lt→List (Ob×Ob):=fun _=>[]
  sh:List (Code×Pos)→Bool
noncomputable def getM {α:Type}:List α→Nat→α→Nat→α
  | [],_,d,_=>d
  | a::_,0,_,_=>a
  | _::l,i+1,d,m=>getM l i d m
theorem getM_eq {α:Type} (d:α) (m:Nat):∀(l:List α) (k:Nat),getM l k d m = l.getD k d
  | [],_=>rfl
  | _::_,0=>rfl
  | _::l,k+1=>(getM_eq d m l k).trans (by rw [List.getD_cons_succ])
noncomputable def pick {α:Type} (l:List α) (d:α):List Nat→Nat→Nat→α
  | [],_,_=>d
  | k::_,0,m=>getM l k d m
  | _::ks,i+1,m=>pick l d ks i m
noncomputable def envAt (st:List (Code×Pos)) (i:Nat):PySem.Env:=match st[i]? with
  | some x=>x.1.env?.getD default
  | none=>default
noncomputable def lt2 (ct:Ct2) (st:List (Code×Pos)) (c:Code) (es xs:List Ent) (m:Nat):Lt:=
  let L:=lets c es
  ⟨fun i=>pick L.n 10 ct.aI i m,fun i=>pick L.n 0 ct.uI i m,fun i=>pick L.i 0 ct.iI i m,fun i=>pick L.s default ct.sI i m,fun i=>pick L.b default ct.bI i m,fun i=>(getM xs i default m).2,fun i=>(getM xs i (10,default) m).1,fun i=>pick (codeVals c++es.flatMap valsE) .none ct.vI i m,fun i=>envAt st i⟩
noncomputable def bles (l:List Nat):List Nat→List Bool
  | []=>[]
  | k::ks=>Nat.ble 10 (l.getD k 10)::bles l ks
noncomputable def blesX:List Ent→List Bool
  | []=>[]
  | e::es=>Nat.ble 10 e.1::blesX es
theorem blesX_is:∀{xs:List Ent},(∀d∈blesX xs,d = true)→∀i m,10≤(getM xs i (10,default) m).1
  | [],_,i,m=>Nat.le_refl _
  | x::xs,h,0,m=>Nat.le_of_ble_eq_true (h _ (.head _))
  | x::xs,h,i+1,m=>blesX_is (xs:=xs) (fun d hd=>h d (.tail _ hd)) i m
theorem pick_ble {l:List Nat}:∀{ks:List Nat},(∀d∈bles l ks,d = true)→∀i m,10≤pick l 10 ks i m
  | [],_,i,m=>by cases i <;> exact Nat.le_refl _
  | k::ks,h,0,m=>by
    show 10≤getM l k 10 m
    rw [getM_eq]
    exact Nat.le_of_ble_eq_true (h _ (.head _))
  | k::ks,h,i+1,m=>pick_ble (ks:=ks) (fun d hd=>h d (.tail _ hd)) i m
noncomputable def icOf20 (w:World) (ct:Ct2):Icpt:=fun ω st c hs sz tk m T=>match takeN ct.np hs with
  | some r=>match takeN ct.nx r.2 with
    | some rx=>match getAll T r.1 with
      | some es =>match getAll T rx.1 with
        | some xs =>match setL ((r.1++rx.1).zip (ct.posts w (lt2 ct st c es xs m) (fun i=>ω (i+2)))) T with
          | some T1=>match insL m (ct.news w (lt2 ct st c es xs m) (fun i=>ω (i+2))) T1 with
            | some T2=>some ⟨.ok (ct.res w (lt2 ct st c es xs m) (fun i=>ω (i+2))),rx.2,ω 0+10,ω 1,m+ct.nn,T2,
                (.c c,.c (ct.code w (lt2 ct st c es xs m)))::(obE (es++xs) (ct.ents w (lt2 ct st c es xs m))++ct.obs (lt2 ct st c es xs m)),
                Nat.ble 10 sz::ct.sh st::nodupB (r.1++rx.1)::Nat.beq (es++xs).length (ct.ents w (lt2 ct st c es xs m)).length::
                  (blesX xs++(bles (lets c es).n ct.aI++ct.ds (lt2 ct st c es xs m)))⟩
            | none=>none
          | none=>none
        | none=>none
      | none=>none
    | none=>none
  | none=>none
structure Ct2Ok (w:World) (ct:Ct2):Prop where
  plen:∀L Y,(ct.posts w L Y).length = (ct.ents w L).length
  nlen:∀L Y,(ct.news w L Y).length = ct.nn
  triple:∀(L:Lt) sz tk st,ct.sh st = true→(∀d∈ct.ds (up L),d = true)→(∀i,L.E i = envAt st i)→(∀x∈ct.obs (up L),x.1 = x.2)→
    Triple2 w (ct.code w (up L)) st (ct.ents w (up L)) (ct.posts w (up L)) (ct.news w (up L)) ct.nn (sz+10) tk (fun Y=> .ok (ct.res w (up L) Y))
theorem icOf20_ok {w:World} {ct:Ct2} {V:Vw} {b:Bs} (ok:Ct2Ok w ct) (hkt:KT w b) (hb:10≤b.h.objs.size):IcOk V (MW w) b (icOf20 w ct):=by
  intro Γ c hs' sz tk m T p s R κ hst _ hh rel H
  obtain ⟨y,e,hob,hd,_⟩:=H fun _=>0
  unfold icOf20 at e
  cases q1:takeN ct.np hs' with
  | none=>rw [q1] at e;cases e
  | some r=>
  rw [q1] at e
  dsimp only at e
  cases q1x:takeN ct.nx r.2 with
  | none=>rw [q1x] at e;cases e
  | some rx=>
  rw [q1x] at e
  dsimp only at e
  cases q2:getAll T r.1 with
  | none=>rw [q2] at e;cases e
  | some es=>
  rw [q2] at e
  dsimp only at e
  cases q2x:getAll T rx.1 with
  | none=>rw [q2x] at e;cases e
  | some xs=>
  rw [q2x] at e
  dsimp only at e
  have H' : ∀ ω : Nat→Nat,∃T1 T2,setL ((r.1++rx.1).zip (ct.posts w (lt2 ct (stk κ V.B) c es xs m) (fun i=>ω (i+2)))) T = some T1∧insL m (ct.news w (lt2 ct (stk κ V.B) c es xs m) (fun i=>ω (i+2))) T1 = some T2∧
      (∀s',Rel b (ω 0+10) (ω 1) (m+ct.nn) T2 s'→R (.ok (ct.res w (lt2 ct (stk κ V.B) c es xs m) (fun i=>ω (i+2)))) s')∧
      ((∀x∈(Ob.c c,Ob.c (ct.code w (lt2 ct (stk κ V.B) c es xs m)))::(obE (es++xs) (ct.ents w (lt2 ct (stk κ V.B) c es xs m))++ct.obs (lt2 ct (stk κ V.B) c es xs m)),x.1 = x.2)∧
       (∀d∈Nat.ble 10 sz::ct.sh (stk κ V.B)::nodupB (r.1++rx.1)::Nat.beq (es++xs).length (ct.ents w (lt2 ct (stk κ V.B) c es xs m)).length::
                  (blesX xs++(bles (lets c es).n ct.aI++ct.ds (lt2 ct (stk κ V.B) c es xs m))),d = true)):=by
    intro ω
    obtain ⟨y,e,h1,h2,h⟩:=H ω
    unfold icOf20 at e
    rw [q1] at e
    dsimp only at e
    rw [q1x] at e
    dsimp only at e
    rw [q2] at e
    dsimp only at e
    rw [q2x] at e
    dsimp only at e
    cases q3:setL ((r.1++rx.1).zip (ct.posts w (lt2 ct (stk κ V.B) c es xs m) (fun i=>ω (i+2)))) T with
    | none=>rw [q3] at e;cases e
    | some T1=>
    rw [q3] at e
    dsimp only at e
    cases q4:insL m (ct.news w (lt2 ct (stk κ V.B) c es xs m) (fun i=>ω (i+2))) T1 with
    | none=>rw [q4] at e;cases e
    | some T2=>
    rw [q4] at e
    dsimp only at e
    cases e
    exact ⟨T1,T2,rfl,q4,h,h1,h2⟩
  clear e hob hd H
  have hL0:∃L,L = lt2 ct (stk κ V.B) c es xs m:=⟨_,rfl⟩
  obtain ⟨L,hL⟩:=hL0
  rw [←hL] at H'
  obtain ⟨_,_,_,_,_,hob,hd⟩:=H' fun _=>0
  have d1:Nat.ble 10 sz = true:=hd _ (.head _)
  have d2:ct.sh (stk κ V.B) = true:=hd _ (.tail _ (.head _))
  have d3:nodupB (r.1++rx.1) = true:=hd _ (.tail _ (.tail _ (.head _)))
  have d5:Nat.beq (es++xs).length (ct.ents w L).length = true:=hd _ (.tail _ (.tail _ (.tail _ (.head _))))
  have d6x:∀d∈blesX xs++(bles (lets c es).n ct.aI++ct.ds L),d = true:=fun d h=>hd d (.tail _ (.tail _ (.tail _ (.tail _ h))))
  have d6:∀d∈bles (lets c es).n ct.aI++ct.ds L,d = true:=fun d h=>d6x d (List.mem_append_right _ h)
  have d7x:∀i,10≤L.X i:=by
    intro i
    rw [hL]
    exact blesX_is (fun d h=>d6x d (List.mem_append_left _ h)) i _
  have d7:∀i,10≤L.A i:=by
    intro i
    rw [hL]
    exact pick_ble (fun d h=>d6 d (List.mem_append_left _ h)) i _
  have hup:L = up {L with A:=fun i=>L.A i - 10,X:=fun i=>L.X i - 10}:=by
    have h1:(fun i=>L.A i - 10+10) = L.A:=funext fun i=>by have:=d7 i;omega
    have h2:(fun i=>L.X i - 10+10) = L.X:=funext fun i=>by have:=d7x i;omega
    show L = {L with A:=fun i=>L.A i - 10+10,X:=fun i=>L.X i - 10+10}
    rw [h1,h2]
  have o1:=hob _ (.head _)
  have o2:c = ct.code w L:=by injection o1
  have o3:=obE_is (Nat.eq_of_beq_eq_true d5) fun x hx=>hob x (.tail _ (List.mem_append_left _ hx))
  have o4:∀x∈ct.obs L,x.1 = x.2:=fun x hx=>hob x (.tail _ (List.mem_append_right _ hx))
  have o5:∀i,L.E i = envAt (stk κ V.B) i:=fun i=>by rw [hL];rfl
  obtain ⟨sz',rfl⟩:∃z,sz = z+10:=⟨sz - 10,by have:=Nat.le_of_ble_eq_true d1;omega⟩
  have hsel:=getAll_append (getAll_is q2) (getAll_is q2x)
  rw [o3] at hsel
  have nd:=nodupB_is d3
  rw [o2]
  have hl:∀Y,(r.1++rx.1).length = (ct.posts w L Y).length:=fun Y=>by
    rw [length_of_maps hsel,ok.plen]
  have tri:=ok.triple {L with A:=fun i=>L.A i - 10,X:=fun i=>L.X i - 10} sz' tk (stk κ V.B) d2 (by rw [←hup];exact fun d h=>d6 d (List.mem_append_right _ h)) o5 (by rw [←hup];exact o4)
  rw [←hup] at tri
  let Om:(Nat→Nat)→Nat→Nat→(Nat→Nat):=fun Y z t i=>if i = 0 then z else if i = 1 then t else Y (i - 2)
  have omY:∀Y z t,(fun i=>Om Y z t (i+2)) = Y:=by
    intro Y z t
    funext i
    show (if i+2 = 0 then z else if i+2 = 1 then t else Y (i+2 - 2)) = Y i
    rw [if_neg (by omega),if_neg (by omega),Nat.add_sub_cancel]
  have T2s:∀Y:Nat→Nat,∃T2,∃T1,setL ((r.1++rx.1).zip (ct.posts w L Y)) T = some T1∧insL m (ct.news w L Y) T1 = some T2:=by
    intro Y
    obtain ⟨T1,T2,h1,h2,_⟩:=H' (Om Y 0 0)
    rw [omY] at h1 h2
    exact ⟨T2,T1,h1,h2⟩
  refine tri b m T (fun Y=>(T2s Y).choose) s Γ p R (r.1++rx.1) hkt hb rel hst hh hsel nd (fun Y=>?_) (ok.nlen L) fun Y sz2 tk2 s' hz rel'=>?_
  · obtain ⟨T1,h1,h2⟩:=(T2s Y).choose_spec
    exact pub_of nd (hl Y) h1 h2
  · obtain ⟨T1,T2,h1,h2,h3,_⟩:=H' (Om Y (sz2 - 10) tk2)
    rw [omY] at h1 h2 h3
    refine h3 s' ?_
    obtain ⟨T1',g1,g2⟩:=(T2s Y).choose_spec
    rw [h1] at g1
    cases g1
    rw [h2] at g2
    have e2:(T2s Y).choose = T2:=by injection g2 with e;exact e.symm
    rw [e2] at rel'
    show Rel b ((if 0 = 0 then sz2 - 10 else _)+10) (if 1 = 0 then _ else if 1 = 1 then tk2 else _) _ _ s'
    rw [if_pos rfl,if_neg (by decide),if_pos rfl,show sz2 - 10+10 = sz2 by omega]
    exact rel'
noncomputable def icOf2 (w:World) (ct:Ct2):Icpt:=icFo (icOf20 w ct)
theorem icOf2_ok {w:World} {ct:Ct2} {V:Vw} {b:Bs} (ok:Ct2Ok w ct) (hkt:KT w b) (hb:10≤b.h.objs.size):IcOk V (MW w) b (icOf2 w ct):=icFo_ok (icOf20_ok ok hkt hb)
structure Fm where
  b:Nat→List Stmt
  oe:Nat→List Stmt
  e:Nat→PySem.Env
  p:Nat→Pos
  tg:Nat→PySem.Expr
  it:Nat→Value
noncomputable def mkC (f:Fm) (i:Nat):Nat→Code×Pos
  | 0=>(.func (f.b i) (f.e i),f.p i)
  | 1=>(.forLoop (f.tg i) (f.it i) (f.b i) (f.oe i) (f.e i),f.p i)
  | _=>(.builtin "claim.caller" {},f.p i)
noncomputable def mkSt (f:Fm):Nat→List Nat→List (Code×Pos)
  | _,[]=>[]
  | i,k::ks=>mkC f i k::mkSt f (i+1) ks
theorem mk_far {f g:Fm} {i:Nat} (hg:∀n,i < n→g.b n = f.b n∧g.oe n = f.oe n∧g.e n = f.e n∧g.p n = f.p n∧g.tg n = f.tg n∧g.it n = f.it n):∀(l:List Nat) (j:Nat),i < j→mkSt g j l = mkSt f j l
  | [],_,_=>rfl
  | a::l,j,hj=>by
    have:=hg j hj
    show mkC g j a::_ = mkC f j a::_
    rw [mk_far hg l (j+1) (by omega)]
    congr 1
    unfold mkC
    rw [this.1,this.2.1,this.2.2.1,this.2.2.2.1,this.2.2.2.2.1,this.2.2.2.2.2]
theorem mk_cons {f:Fm} {i k:Nat} {ks:List Nat} {x:Code×Pos} (g:Fm) (hx:x = mkC g i k) (hg:∀n,n≠i→g.b n = f.b n∧g.oe n = f.oe n∧g.e n = f.e n∧g.p n = f.p n∧g.tg n = f.tg n∧g.it n = f.it n):
    x::mkSt f (i+1) ks = mkSt g i (k::ks):=by
  show _ = mkC g i k::mkSt g (i+1) ks
  rw [mk_far (f:=f) (g:=g) (i:=i) (fun n hn=>hg n (by omega)) ks (i+1) (Nat.lt_succ_self i),hx]
theorem shape_mk:∀{ks:List Nat} {st:List (Code×Pos)} (i:Nat),shapeB ks st = true→∃f,st = mkSt f i ks
  | [],st,i,h=>⟨⟨fun _=>[],fun _=>[],fun _=>default,fun _=>default,fun _=> .Constant .none 0 default,fun _=> .none⟩,shape_nil h⟩
  | k ::ks,st,i,h=>by
    obtain ⟨x,r,rfl,hk,hr⟩:=shape_cons h
    obtain ⟨f,rfl⟩:=shape_mk (i+1) hr
    match k,hk with
    | 0,hk=>
      obtain ⟨b,e,p,rfl⟩:=shape_func hk
      refine ⟨⟨fun n=>if n = i then b else f.b n,f.oe,fun n=>if n = i then e else f.e n,fun n=>if n = i then p else f.p n,f.tg,f.it⟩,mk_cons _ ?_ fun n hn=>by simp [hn]⟩
      show _ = (Code.func (if i = i then b else _) (if i = i then e else _),if i = i then p else _)
      rw [if_pos rfl,if_pos rfl,if_pos rfl]
    | 1,hk=>
      obtain ⟨tg,it,b,oe,e,p,rfl⟩:=shape_for hk
      refine ⟨⟨fun n=>if n = i then b else f.b n,fun n=>if n = i then oe else f.oe n,fun n=>if n = i then e else f.e n,fun n=>if n = i then p else f.p n,fun n=>if n = i then tg else f.tg n,fun n=>if n = i then it else f.it n⟩,mk_cons _ ?_ fun n hn=>by simp [hn]⟩
      show _ = (Code.forLoop (if i = i then tg else _) (if i = i then it else _) (if i = i then b else _) (if i = i then oe else _) (if i = i then e else _),if i = i then p else _)
      simp only [if_true]
    | k+2,hk=>
      obtain ⟨p,rfl⟩:=shape_caller (x:=x) hk
      refine ⟨⟨f.b,f.oe,f.e,fun n=>if n = i then p else f.p n,f.tg,f.it⟩,mk_cons _ ?_ fun n hn=>by simp [hn]⟩
      show _ = (Code.builtin "claim.caller" {},if i = i then p else _)
      rw [if_pos rfl]
noncomputable def treeOf (l:List Ent):Tr Ent:=(insL 0 l .nil).getD .nil
noncomputable def rd (l:List Nat) (i:Nat):Nat:=l.getD i 0
theorem ct2_ok {w:World} {ct:Ct2} {ks:List Nat} {own:Nat→Icpt} {n:Nat} {hs is:List Nat} {Yl:Nat→Nat→(Nat→Nat)→List Nat} {dsf:World→Lt→(Nat→Nat)→Nat→Nat→List Bool}
    (hsh:ct.sh = shapeB ks) (hic:OwnOk w own) (pl:∀L Y,(ct.posts w L Y).length = (ct.ents w L).length) (nl:∀L Y,(ct.news w L Y).length = ct.nn) (h0:∀L,(insL 0 (ct.ents w L) .nil).isSome = true)
    (ndi:nodupB is = true) (hds:∀L sz tk ω,(∀d∈ct.ds (up L),d = true)→∀d∈dsf w L ω sz tk,d = true)
    (run:∀L f p ω sz tk,RunIs (sim (VW w own (mkSt f 0 ks)) n ω hs (denQ (ct.code w (up L))) (ct.code w (up L)) p [] (sz+10) tk (ct.ents w (up L)).length (treeOf (ct.ents w (up L))) [] [])
      (.ok (ct.res w (up L) (rd (Yl sz tk ω)))) is (ct.posts w (up L) (rd (Yl sz tk ω))++ct.news w (up L) (rd (Yl sz tk ω))) (dsf w L ω sz tk)):Ct2Ok w ct where
  plen:=pl
  nlen:=nl
  triple:=by
    intro L sz tk st hst hd _ _
    rw [hsh] at hst
    obtain ⟨f,rfl⟩:=shape_mk 0 hst
    have h1:insL 0 (ct.ents w (up L)) .nil = some (treeOf (ct.ents w (up L))):=by
      unfold treeOf
      cases e:insL 0 (ct.ents w (up L)) .nil with
      | none=>have:=h0 (up L);rw [e] at this;cases this
      | some x=>rfl
    refine triple2_of_run (Y:=fun _ ω=>rd (Yl sz tk ω)) hic h1 (fun p ω=>⟨_,hds L sz tk ω hd,run L f p ω sz tk⟩) (nodupB_is ndi) (fun Y=>pl _ _)
theorem ct2_okc {w:World} {ct:Ct2} {ks:List Nat} {own:Nat→Icpt}
    (hsh:ct.sh = shapeB ks) (hic:OwnOk w own) (pl:∀L Y,(ct.posts w L Y).length = (ct.ents w L).length) (nl:∀L Y,(ct.news w L Y).length = ct.nn) (h0:∀L,(insL 0 (ct.ents w L) .nil).isSome = true)
    (run:∀L,(∀d∈ct.ds (up L),d = true)→∃(n:Nat) (hs is:List Nat) (Yl:Nat→Nat→(Nat→Nat)→List Nat) (dsf:(Nat→Nat)→Nat→Nat→List Bool),nodupB is = true∧(∀ω sz tk,∀d∈dsf ω sz tk,d = true)∧
      ∀f p ω sz tk,RunIs (sim (VW w own (mkSt f 0 ks)) n ω hs (denQ (ct.code w (up L))) (ct.code w (up L)) p [] (sz+10) tk (ct.ents w (up L)).length (treeOf (ct.ents w (up L))) [] [])
      (.ok (ct.res w (up L) (rd (Yl sz tk ω)))) is (ct.posts w (up L) (rd (Yl sz tk ω))++ct.news w (up L) (rd (Yl sz tk ω))) (dsf ω sz tk)):Ct2Ok w ct where
  plen:=pl
  nlen:=nl
  triple:=by
    intro L sz tk st hst hd _ _
    rw [hsh] at hst
    obtain ⟨f,rfl⟩:=shape_mk 0 hst
    have h1:insL 0 (ct.ents w (up L)) .nil = some (treeOf (ct.ents w (up L))):=by
      unfold treeOf
      cases e:insL 0 (ct.ents w (up L)) .nil with
      | none=>have:=h0 (up L);rw [e] at this;cases this
      | some x=>rfl
    obtain ⟨n,hs,is,Yl,dsf,ndi,hds,run⟩:=run L hd
    exact triple2_of_run (Y:=fun _ ω=>rd (Yl sz tk ω)) hic h1 (fun p ω=>⟨_,hds ω sz tk,run f p ω sz tk⟩) (nodupB_is ndi) (fun Y=>pl _ _)
theorem ct2_okE {w:World} {ct:Ct2} {ks:List Nat} {own:Nat→Icpt}
    (hsh:ct.sh = shapeB ks) (hic:OwnOk w own) (pl:∀L Y,(ct.posts w L Y).length = (ct.ents w L).length) (nl:∀L Y,(ct.news w L Y).length = ct.nn) (h0:∀L,(insL 0 (ct.ents w L) .nil).isSome = true)
    (run:∀L f,(∀d∈ct.ds (up L),d = true)→(∀i,L.E i = envAt (mkSt f 0 ks) i)→(∀x∈ct.obs (up L),x.1 = x.2)→∃(n:Nat) (hs is:List Nat) (Yl:Nat→Nat→(Nat→Nat)→List Nat) (dsf:(Nat→Nat)→Nat→Nat→List Bool),nodupB is = true∧(∀ω sz tk,∀d∈dsf ω sz tk,d = true)∧
      ∀p ω sz tk,RunIs (sim (VW w own (mkSt f 0 ks)) n ω hs (denQ (ct.code w (up L))) (ct.code w (up L)) p [] (sz+10) tk (ct.ents w (up L)).length (treeOf (ct.ents w (up L))) [] [])
      (.ok (ct.res w (up L) (rd (Yl sz tk ω)))) is (ct.posts w (up L) (rd (Yl sz tk ω))++ct.news w (up L) (rd (Yl sz tk ω))) (dsf ω sz tk)):Ct2Ok w ct where
  plen:=pl
  nlen:=nl
  triple:=by
    intro L sz tk st hst hd he ho
    rw [hsh] at hst
    obtain ⟨f,rfl⟩:=shape_mk 0 hst
    have h1:insL 0 (ct.ents w (up L)) .nil = some (treeOf (ct.ents w (up L))):=by
      unfold treeOf
      cases e:insL 0 (ct.ents w (up L)) .nil with
      | none=>have:=h0 (up L);rw [e] at this;cases this
      | some x=>rfl
    obtain ⟨n,hs,is,Yl,dsf,ndi,hds,run⟩:=run L f hd he ho
    exact triple2_of_run (Y:=fun _ ω=>rd (Yl sz tk ω)) hic h1 (fun p ω=>⟨_,hds ω sz tk,run p ω sz tk⟩) (nodupB_is ndi) (fun Y=>pl _ _)
end
end Mine
namespace Mine
open PySem PySem.W
theorem icNil_own {w:World}:OwnOk w icNil:=fun _ _ _ _ _ _ _ _=>icNone_ok
end Mine
namespace Mine
open PySem PySem.W
noncomputable section
noncomputable def loopT (c:Code):Sem Fin:=match denQ c with
  | .at _ k=>k ()
  | t=>t
noncomputable def loopP (c:Code):Pos:=match denQ c with
  | .at q _=>q
  | _=>default
noncomputable def isAt (c:Code):Bool:=match denQ c with
  | .at _ _=>true
  | _=>false
theorem isAt_is {c:Code} (h:isAt c = true):∃k,denote table c = .at (loopP c) k∧loopT c = k ():=by
  unfold isAt at h
  unfold loopT loopP
  rw [←denQ_is]
  cases e:denQ c with
  | «at» q k=>exact ⟨k,rfl,rfl⟩
  | _=>rw [e] at h;cases h
theorem wpF_mono {M:Model} {Γ:Ctx} {t:Sem Fin} {R R':Result→Shared→Prop} {p:Pos} {s:Shared} (h:∀r s,R r s→R' r s) (w:wpF M Γ t R p s):wpF M Γ t R' p s:=by
  unfold wpF at w ⊢
  refine Sem.wp_mono _ _ _ (fun x p' s' hx=>?_) (fun x p' s' hx=>h _ _ hx) _ _ w
  cases x with
  | done f=>exact h _ _ hx
  | again c=>exact ⟨hx.1,wpCode_mono h hx.2⟩
theorem triple2_of_comp {w:World} {own:Nat→Icpt} {elt tg it:PySem.Expr} {ifs:List PySem.Expr} {rest:List Comprehension} {scope:Scope} {pos:Pos} {a:Addr} {acc:Value} {env:PySem.Env} {st:List (Code×Pos)} {hs:List Nat} {ents:List Ent} {posts news:(Nat→Nat)→List Ent} {nn sz tk:Nat} {T0:Tr Ent} {n:Nat} {r0:(Nat→Nat)→Result} {is:List Nat} {Y:Nat→(Nat→Nat)→(Nat→Nat)}
    (hic:OwnOk w own) (h0:insL 0 ents .nil = some T0) {j:Nat} {o:Obj} (hj:ents[j]? = some (a,o)) (hi:selfIter o = true)
    (hat:isAt (.compLoop (.ListComp elt (⟨tg,it,ifs,0⟩::rest) scope pos) 0 (.ref a) acc env) = true)
    (run:∀ω,∃ds,(∀d∈ds,d = true)∧RunIs (sim (VW w own st) n ω hs (loopT (.compLoop (.ListComp elt (⟨tg,it,ifs,0⟩::rest) scope pos) 0 (.ref a) acc env)) (.compLoop (.ListComp elt (⟨tg,it,ifs,0⟩::rest) scope pos) 0 (.ref a) acc env)
      (loopP (.compLoop (.ListComp elt (⟨tg,it,ifs,0⟩::rest) scope pos) 0 (.ref a) acc env)) [] sz tk ents.length T0 [] []) (r0 (Y tk ω)) is (posts (Y tk ω)++news (Y tk ω)) ds)
    (ndi:is.Nodup) (hlen:∀Y,(posts Y).length = ents.length):Triple2 w (.compStart (.ListComp elt (⟨tg,it,ifs,0⟩::rest) scope pos) 0 (.ref a) acc env) st ents posts news nn sz tk r0:=by
  intro b m T T2 s Γ p R sel hkt hb rel hst hh hsel nd hpub hnn hR
  have rel0:=embed rel hsel nd h0
  obtain ⟨k,e1,e2⟩:=isAt_is hat
  have len:=length_of_maps hsel
  have hjl:j < sel.length:=by rw [len];exact (List.getElem?_eq_some_iff.mp hj).1
  obtain ⟨e,z1,z2⟩:=getElem?_of_maps hsel (List.getElem?_eq_getElem hjl)
  rw [hj] at z1
  cases z1
  have ho:=(rel.own _ a o z2).2.1
  refine comp_goto (Γ:=Γ.enter _ none p) e1 rfl ho hi fun Γ' hc hbl hhd=>?_
  have w1:=run_wp (own:=own) (F:=fun o=>∃Y,o.r = r0 Y∧is.map o.T.get = (posts Y++news Y).map some) (Γ:=Γ') (p:=loopP (.compLoop (.ListComp elt (⟨tg,it,ifs,0⟩::rest) scope pos) 0 (.ref a) acc env)) (s:=s) ⟨sub_kt hkt rel hsel,fun V j=>hic _ V j (sub_kt hkt rel hsel) (Nat.le_trans hb rel.grow)⟩ (fun ω=>by
    obtain ⟨ds,hds,run⟩:=run ω
    have g:=run.good hds
    exact ⟨g.1,g.2.1,g.2.2.1,_,g.2.2.2⟩) hc (hbl.trans hst) (hhd.trans hh) rel0
  rw [e2] at w1
  refine wpF_mono ?_ w1
  rintro r s' ⟨o,⟨Y,q1,q2⟩,q3,rel'⟩
  rw [←q3,q1]
  have back:=embed_back2 rel hsel nd rel' (hlen Y) q2 ndi (hpub Y)
  rw [hnn] at back
  exact hR _ _ _ _ (Nat.le_trans hb (by rw [←back.size];exact back.grow)) back
end
end Mine
namespace Mine
open PySem PySem.W
noncomputable section
theorem icNil_ok {w:World}:∀(b':Bs) (V':Vw) (j:Nat),KT w b'→10≤b'.h.objs.size→V'.prog = PySem.Challenge.pw_xw0355_01→V'.w = w→V'.den = denQ→IcOk V' (MW w) b' (icNil j):=fun _ _ _ _ _ _ _ _=>icNone_ok
theorem refAt_of {adr:List Nat} {J a:Nat} (h:adr[J]? = some a):refAt ⟨adr.map Value.ref⟩ J a = true:=by
  unfold refAt
  simp [h]
noncomputable def hput:NL:=g408 (g44 (3::8::g9 (g263 (9::9::g26 (6::6::0::6::1::0::6::8::g26 (2::8::g127 (g309 (g26 (8::6::6::0::6::6::1::0::6::6::4::6::8::g44 (3::8::g9 (g278 (g26 (11::g26 (11::11::g26 (5::4::4::4::17::2::5::0::7::7::7::7::8::18::5::[])))))))))))))))
noncomputable def kE (k r:Nat):DictEntry:=⟨k,.int k (1722+2*k),.ref r⟩
noncomputable def dS (r:Nat→Nat):Nat→List Nat→List DictEntry
  | _,[]=>[]
  | i,k::S=>kE k (r i)::dS r (i+1) S
noncomputable def pE (w:World) (a u:Nat→Nat) (g:Value) (es:List DictEntry):List Ent:=[(a 0,⟨.ref 1109,some (a 1),.plain,⟨[]⟩⟩),
    (a 1,⟨.type "dict",none,.dict ⟨[eS w.params ⟨⟨[115,105,122,101]⟩⟩ (u 0) (.int 16 1642),eS w.params ⟨⟨[115,108,111,116,115]⟩⟩ (u 1) (.ref (a 2)),eS w.params ⟨⟨[108,97,116,101]⟩⟩ (u 2) (.ref (a 3)),eS w.params ⟨⟨[101,110,116,114,105,101,115]⟩⟩ (u 3) (.ref (a 4)),eS w.params ⟨⟨[114,101,97,99,104,101,100]⟩⟩ (u 4) .none,eS w.params ⟨⟨[103,105,118,101,110]⟩⟩ (u 5) g]⟩ 6,⟨[]⟩⟩),
    (a 2,⟨.type "list",none,.seq ⟨[a 5,a 6,a 7,a 8,a 9,a 10,a 11,a 12,a 13,a 14,a 15,a 16,a 17,a 18,a 19,a 20].map .ref⟩ 16,⟨[]⟩⟩),
    (a 3,⟨.type "list",none,.seq ⟨[]⟩ 0,⟨[]⟩⟩),
    (a 4,⟨.type "dict",none,.dict ⟨es⟩ es.length,⟨[]⟩⟩)]
noncomputable def cPut (a u:Nat→Nat) (k:Nat) (t:Int):Code:= .call (.ref 1066) ⟨[.ref (a 0),.int k (1722+2*k),.int t (u 7)],[]⟩
noncomputable def dPut (a:Nat→Nat) (t:Int) (A5:Array Value) (aX:Nat):List Bool:=[Nat.ble A5.size 1000,decide (0≤Int.fmod t 16),decide (Int.fmod t 16 < 2 ^ 63),refAt ⟨[a 5,a 6,a 7,a 8,a 9,a 10,a 11,a 12,a 13,a 14,a 15,a 16,a 17,a 18,a 19,a 20].map .ref⟩ (Int.fmod t 16).toNat aX,!((16:Int) == 0)]
noncomputable def RunPut (w:World) (f:Fm) (ω:Nat→Nat) (p:Pos) (A u r:Nat→Nat) (sz tk:Nat) (t:Int) (A5:Array Value) (n5 aX:Nat) (k:Nat) (S:List Nat):Prop:=
  RunIs (sim (VW w icNil (mkSt f 0 [1,0,0,1,0,2])) 335 ω hput (denQ (cPut (fun i=>A i+10) u k t)) (cPut (fun i=>A i+10) u k t) p [] (sz+10) tk 6 (treeOf (pE w (fun i=>A i+10) u (.int S.length (u 6)) (dS r 0 S)++[(aX+10,⟨.type "list",none,.seq A5 n5,⟨[]⟩⟩)])) [] [])
    (.ok (.ret .none)) [0,1,2,3,4,5,8] (pE w (fun i=>A i+10) u (.int (S.length+1:Nat) (tk+9)) (dS r 0 S++[kE k (sz+12)])++[(aX+10,Obj.mapSeq (·.push (.int k (1722+2*k))) ⟨.type "list",none,.seq A5 n5,⟨[]⟩⟩),(sz+12,⟨.type "tuple",none,.seq ⟨[.int t (u 7),.int (S.length+1:Nat) (tk+9)]⟩ 0,⟨[]⟩⟩)])
    (dPut (fun i=>A i+10) t A5 (aX+10))
noncomputable def putKs:List (Nat×List Nat):=[(1,[]),(2,[]),(2,[1]),(3,[]),(3,[1]),(3,[2]),(3,[1,2]),(4,[]),(4,[1]),(4,[2]),(4,[1,2]),(4,[3]),(4,[1,3]),(4,[2,3]),(4,[1,2,3])]
theorem runPut (w:World) (f:Fm) (ω:Nat→Nat) (p:Pos) (A u r:Nat→Nat) (sz tk:Nat) (t:Int) (A5:Array Value) (n5 aX:Nat):∀x∈putKs,RunPut w f ω p A u r sz tk t A5 n5 aX x.1 x.2:=by
  intro x hx
  simp only [putKs,List.mem_cons,List.not_mem_nil,or_false] at hx
  rcases hx with rfl | rfl | rfl | rfl | rfl | rfl | rfl | rfl | rfl | rfl | rfl | rfl | rfl | rfl | rfl <;> exact ⟨by kernel_rfl⟩
noncomputable def aL (L:Lets) (i:Nat):Nat:=L.N ([1,5,10,12,14,19,20,21,22,23,24,25,26,27,28,29,30,31,32,33,34].getD i 1)
noncomputable def uL (L:Lets) (i:Nat):Nat:=L.N ([7,9,11,13,15,16,17,3].getD i 3)
noncomputable def ctput (k:Nat) (S:List Nat):Ct where
  np:=5
  code _ L:=cPut (aL L) (uL L) k (L.I 1)
  ents w L:=pE w (aL L) (uL L) (.int S.length (uL L 6)) (dS (fun i=>L.N (38+2*i)) 0 S)
  posts w L sz tk:=pE w (aL L) (uL L) (.int (S.length+1:Nat) (tk+9)) (dS (fun i=>L.N (38+2*i)) 0 S++[kE k (sz+2)])
  news w L sz tk:=[((sz+2),⟨.type "tuple",none,.seq ⟨[.int (L.I 1) (uL L 7),.int (S.length+1:Nat) (tk+9)]⟩ 0,⟨[]⟩⟩)]
  res _ L sz tk:= .ret .none
  ds _ L:=[1,5,10,12,14,19,20,21,22,23,24,25,26,27,28,29,30,31,32,33,34].map fun i=>Nat.ble 10 (L.N i)
  sh:=shapeB [1,0,0,1,0,2]
  nx:=16
  xadr _ L:=[aL L 5,aL L 6,aL L 7,aL L 8,aL L 9,aL L 10,aL L 11,aL L 12,aL L 13,aL L 14,aL L 15,aL L 16,aL L 17,aL L 18,aL L 19,aL L 20]
  xin:=slotIn
  xds:=slotDs
  xpost _ L xs:=pushAt (.int k (1722+2*k)) (Int.fmod (L.I 1) 16).toNat 0 xs
theorem getD_mem {l:List Nat} {d:Nat} (h:d∈l) (i:Nat):l.getD i d∈l:=by
  rw [List.getD_eq_getElem?_getD]
  cases e:l[i]? with
  | none=>exact h
  | some x=>exact List.mem_of_getElem? e
theorem ok_put (w:World) {k:Nat} {S:List Nat} (hk:(k,S)∈putKs):CtOk w (ctput k S) where
  plen:=fun _ _ _=>rfl
  xlen:=by intro L xs;simp [ctput,pushAt_len]
  triple:=by
    intro L xs sz tk st hx hsh hds hxd
    obtain ⟨f,rfl⟩:=shape_mk 0 hsh
    have ha10:∀i,10≤aL L i:=fun i=>Nat.le_of_ble_eq_true (hds _ (List.mem_map.mpr ⟨_,getD_mem (.head _) i,rfl⟩))
    have hA:aL L = fun i=>(aL L i - 10)+10:=funext fun i=>by have:=ha10 i;omega
    have f0:0≤Int.fmod (L.I 1) 16:=Int.fmod_nonneg_of_pos _ (by decide)
    have f1:Int.fmod (L.I 1) 16 < 16:=Int.fmod_lt_of_pos _ (by decide)
    generalize hJ:(Int.fmod (L.I 1) 16).toNat = J
    have hlt:J < 16:=by omega
    obtain ⟨x,hxJ⟩:∃x,xs[J]? = some x:=⟨_,List.getElem?_eq_getElem (by rw [hx];exact hlt)⟩
    show Triple w (cPut (aL L) (uL L) k (L.I 1)) _ (pE w (aL L) (uL L) (.int S.length (uL L 6)) (dS (fun i=>L.N (38+2*i)) 0 S)++List.zip [aL L 5,aL L 6,aL L 7,aL L 8,aL L 9,aL L 10,aL L 11,aL L 12,aL L 13,aL L 14,aL L 15,aL L 16,aL L 17,aL L 18,aL L 19,aL L 20] _) (pE w (aL L) (uL L) (.int (S.length+1:Nat) (tk+9)) (dS (fun i=>L.N (38+2*i)) 0 S++[kE k (sz+12)])++List.zip [aL L 5,aL L 6,aL L 7,aL L 8,aL L 9,aL L 10,aL L 11,aL L 12,aL L 13,aL L 14,aL L 15,aL L 16,aL L 17,aL L 18,aL L 19,aL L 20] (pushAt _ (Int.fmod (L.I 1) 16).toNat 0 xs)) [((sz+12),⟨.type "tuple",none,.seq ⟨[.int (L.I 1) (uL L 7),.int (S.length+1:Nat) (tk+9)]⟩ 0,⟨[]⟩⟩)] _ _ _
    rw [hJ,hA]
    generalize hB:(fun i=>aL L i - 10) = A
    have hB':∀i,aL L i - 10 = A i:=fun i=>congrFun hB i
    simp only [hB']
    clear hA hB hB' ha10 hds
    have hidx:∃i,([5,6,7,8,9,10,11,12,13,14,15,16,17,18,19,20]:List Nat)[J]? = some i:=⟨_,List.getElem?_eq_getElem (show J < 16 from hlt)⟩
    obtain ⟨i,hi⟩:=hidx
    obtain ⟨aX,haX⟩:∃z,z = A i:=⟨_,rfl⟩
    have haJ:([A 5+10,A 6+10,A 7+10,A 8+10,A 9+10,A 10+10,A 11+10,A 12+10,A 13+10,A 14+10,A 15+10,A 16+10,A 17+10,A 18+10,A 19+10,A 20+10]:List Nat)[J]? = some (aX+10):=by
      show (([5,6,7,8,9,10,11,12,13,14,15,16,17,18,19,20]:List Nat).map fun i=>A i+10)[J]? = _
      rw [List.getElem?_map,hi,haX];rfl
    refine slots_triple rfl haJ hxJ ?_
    have hd:Nat.ble (arrO x).size 1000 = true:=hxd _ (List.mem_flatMap.mpr ⟨x,List.mem_of_getElem? hxJ,.head _⟩)
    have hr:=refAt_of haJ
    refine triple_of_run (own:=icNil) (is:=[0,1,2,3,4,5,8]) (hs:=hput) (n:=335) icNil_ok (T0:=treeOf (pE w (fun i=>A i+10) (uL L) (.int S.length (uL L 6)) (dS (fun i=>L.N (38+2*i)) 0 S)++[(aX+10,slotIn x)])) rfl (fun p=>⟨dPut (fun i=>A i+10) (L.I 1) (arrO x) (aX+10),?_,fun ω=>runPut w f ω p A (uL L) (fun i=>L.N (38+2*i)) sz tk (L.I 1) (arrO x) (cntO x) aX (k,S) hk⟩) rfl rfl (by decide)
    intro d hd'
    simp only [dPut,List.mem_cons,List.not_mem_nil,or_false] at hd'
    rcases hd' with rfl | rfl | rfl | rfl | rfl
    · exact hd
    · exact decide_eq_true f0
    · exact decide_eq_true (by omega)
    · rw [hJ];exact hr
    · rfl
noncomputable def icPuts (w:World) (j:Nat):Icpt:=match putKs[j]? with
  | some x=>icOf w (ctput x.1 x.2)
  | none=>fun _ _ _ _ _ _ _ _=>none
theorem icPuts_ok {w:World} (b':Bs) (V':Vw) (j:Nat) (hk:KT w b') (hb:10≤b'.h.objs.size):IcOk V' (MW w) b' (icPuts w j):=by
  unfold icPuts
  cases h:putKs[j]? with
  | none=>exact icNone_ok
  | some x=>exact icOf_ok (ok_put w (List.mem_of_getElem? h)) hk hb
end
end Mine
namespace Mine
open PySem PySem.W
noncomputable section
noncomputable def hT:NL:=g14 (g7 (7::0::7::g8 (8::g176 (g176 (6::0::g154 (8::g69 (0::g69 (0::8::8::g11 (5::8::g11 (5::8::g11 (5::g15 (10::0::10::g8 (g278 (9::0::11::9::0::11::9::0::11::g155 (11::g155 (11::g155 (11::g155 (11::g155 (11::g155 (0::11::g15 (13::0::13::g8 (14::12::0::14::12::0::14::14::g310 (14::g310 (14::g310 (14::g310 (14::g310 (g155 (0::11::g15 (16::0::16::g8 (17::15::0::17::15::0::17::1::9::0::17::17::g234 (15::13::15::17::g234 (15::13::15::g155 (g155 (g155 (g155 (g69 (g69 (0::8::g9 (18::16::0::0::18::g11 (5::18::g11 (5::18::g11 (5::g15 (20::0::20::g8 (g188 (19::0::21::19::0::21::g126 (21::g126 (21::g126 (g126 (g126 (g126 (0::18::16::0::18::18::g11 (5::g15 (23::0::23::g8 (g284 (24::22::0::24::24::g311 (24::24::g311 (24::g311 (24::g311 (24::g311 (g69 (0::8::g11 (5::8::g11 (5::4::8::g11 (5::8::g11 (5::2::g15 (26::0::26::g8 (g184 (g184 (27::g197 (27::g197 (27::g197 (27::g197 (g197 (g197 (g197 (g197 (g69 (0::8::g11 (5::g15 (29::0::29::g8 (g171 (30::30::g320 (30::g320 (30::g320 (30::g320 (g69 (g14 (0::0::32::0::32::g8 (0::g185 (33::33::32::g235 (31::29::31::0::0::33::0::0::34::34::0::34::34::34::34::1::0::34::34::34::34::35::1::33::35::g280 (g280 (g280 (g280 (0::35::35::35::35::55::37::37::35::g312 (g312 (g312 (g312 (g312 (g69 (g69 (g69 (g69 (g69 []))))))))))))))))))))))))))))))))))))))))))))))))))))))))))))))))))))))))))))))))))))))))))))))))))))))))
noncomputable def eTx0 (w:World) (L:Lt):Ent:=((L.A 0),(zI 1130 (L.A 3)))
noncomputable def eTx1 (w:World) (L:Lt):Ent:=((L.A 1),(zT 0 [.int 1 (L.U 1),.int 80 (L.U 2)]))
noncomputable def eTx2 (w:World) (L:Lt):Ent:=((L.A 2),(zT 0 [.int 2 (L.U 3),.int 90 (L.U 4)]))
noncomputable def eTx3 (w:World) (L:Lt):Ent:=((L.A 3),(zD 10 [zW w r0 (L.U 5) (.int (L.I 0) (L.U 6)),zW w r1 (L.U 7) (.int 4 (L.U 8)),zW w r2 (L.U 9) (.int 40 (L.U 10)),zW w r3 (L.U 11) (.int 16 (L.U 12)),zW w r4 (L.U 13) (.int 6 (L.U 14)),zW w r5 (L.U 15) (.int 4 (L.U 16)),zW w r6 (L.U 17) (.int 24 (L.U 18)),zW w r7 (L.U 19) (.int 3 (L.U 20)),zW w r8 (L.U 21) (.int 5 (L.U 22)),zW w r9 (L.U 23) (.int (L.I 1) (L.U 24))]))
noncomputable def ctT:Ct2 where
  np:=4
  aI:=[1,2,3,6]
  uI:=[4,8,9,11,12,14,15,16,17,18,19,20,21,22,23,24,25,26,27,28,29,30,31,32,33]
  iI:=[5,14]
  sI:=[]
  bI:=[]
  code w L:=(.call (.ref 1173) ⟨[.ref (L.A 0),.ref (L.A 1),.ref (L.A 2),.int 20 (L.U 0)],[]⟩)
  ents w L:=[eTx0 w L,eTx1 w L,eTx2 w L,eTx3 w L]
  posts w L Y:=[eTx0 w L,
    eTx1 w L,
    eTx2 w L,
    eTx3 w L]
  news w L Y:=[((Y 0+10),(zI 1173 (Y 1+10))),
    ((Y 1+10),(zD 14 [zW w r10 (Y 2) (.ref (L.A 0)),zW w r11 (Y 3) (.ref (L.A 1)),zW w r12 (Y 4) (.ref (L.A 2)),zW w r13 (Y 5) (.str q209 1564),zW w r14 (Y 6) (.ref (Y 7+10)),zW w r15 (Y 8) (.none),zW w r16 (Y 9) (.ref (Y 10+10)),zW w r17 (Y 11) (.ref (Y 12+10)),zW w r18 (Y 13) (.ref (Y 14+10)),zW w r19 (Y 15) (.ref (Y 16+10)),zW w r20 (Y 17) (.none),zW w r21 (Y 18) (.int 0 (Y 19)),zW w r22 (Y 20) (.int 0 (Y 21)),zW w r23 (Y 22) (.bool true)])),
    ((Y 7+10),(zI 915 (Y 23+10))),
    ((Y 10+10),(zI 514 (Y 24+10))),
    ((Y 12+10),(zI 437 (Y 25+10))),
    ((Y 14+10),(zI 346 (Y 26+10))),
    ((Y 16+10),(zI 1109 (Y 27+10))),
    ((Y 23+10),(zD 11 [zW w r24 (Y 28) (.int 20 (L.U 0)),zW w r0 (Y 29) (.int (L.I 0) (L.U 6)),zW w r1 (Y 30) (.int 4 (L.U 8)),zW w r25 (Y 31) (.int 20 (L.U 0)),zW w q38 (Y 32) (.int 20 (L.U 0)),zW w r26 (Y 33) (.int 20 (L.U 0)),zW w r27 (Y 34) (.ref (Y 35+10)),zW w r28 (Y 36) (.ref (Y 37+10)),zW w r29 (Y 38) (.bool true),zW w r30 (Y 39) (.bool false),zW w r31 (Y 40) (.bool false)])),
    ((Y 24+10),(zD 5 [zW w r32 (Y 41) (.ref (Y 42+10)),zW w r7 (Y 43) (.int 3 (L.U 20)),zW w ⟨⟨[116,114,105,101,115]⟩⟩ (Y 44) (.int 0 (Y 45)),zW w r33 (Y 46) (.none),zW w ⟨⟨[116,105,109,101,100,95,97,116]⟩⟩ (Y 47) (.int 0 (Y 48))])),
    ((Y 25+10),(zD 8 [zW w r1 (Y 49) (.int 4 (L.U 8)),zW w r34 (Y 50) (.int 44 (Y 51)),zW w q319 (Y 52) (.int 8 (Y 53)),zW w r35 (Y 54) (.int 44 (Y 51)),zW w r36 (Y 55) (.int 0 (Y 56)),zW w r37 (Y 57) (.int 0 (Y 58)),zW w r38 (Y 59) (.bool false),zW w r39 (Y 60) (.bool false)])),
    ((Y 26+10),(zD 4 [zW w r40 (Y 61) (.int 5 (L.U 22)),zW w r41 (Y 62) (.int 0 (Y 63)),zW w q457 (Y 64) (.none),zW w r42 (Y 65) (.bool false)])),
    ((Y 27+10),(zD 6 [zW w q319 (Y 66) (.int 16 1642),zW w r43 (Y 67) (.ref (Y 68+10)),zW w r44 (Y 69) (.ref (Y 70+10)),zW w r45 (Y 71) (.ref (Y 72+10)),zW w r46 (Y 73) (.none),zW w r47 (Y 74) (.int 0 (Y 75))])),
    ((Y 35+10),(zI 724 (Y 76+10))),
    ((Y 37+10),(zI 682 (Y 77+10))),
    ((Y 42+10),(zI 570 (Y 78+10))),
    ((Y 68+10),(zL 16 [.ref (Y 79+10),.ref (Y 80+10),.ref (Y 81+10),.ref (Y 82+10),.ref (Y 83+10),.ref (Y 84+10),.ref (Y 85+10),.ref (Y 86+10),.ref (Y 87+10),.ref (Y 88+10),.ref (Y 89+10),.ref (Y 90+10),.ref (Y 91+10),.ref (Y 92+10),.ref (Y 93+10),.ref (Y 94+10)])),
    ((Y 70+10),(zL 0 [])),
    ((Y 72+10),(zD 0 [])),
    ((Y 76+10),(zD 5 [zW w r0 (Y 95) (.int (L.I 0) (L.U 6)),zW w q319 (Y 96) (.int 0 (Y 97)),zW w r34 (Y 98) (.int 0 (Y 99)),zW w r48 (Y 100) (.none),zW w r49 (Y 101) (.int 0 (Y 102))])),
    ((Y 77+10),(zD 2 [zW w r50 (Y 103) (.int 40 (L.U 10)),zW w r51 (Y 104) (.bytes ⟨[]⟩ (Y 105))])),
    ((Y 78+10),(zD 6 [zW w ⟨⟨[102,105,114,115,116]⟩⟩ (Y 106) (.int 6 (L.U 14)),zW w ⟨⟨[108,101,97,115,116]⟩⟩ (Y 107) (.int 4 (L.U 16)),zW w r34 (Y 108) (.int 24 (L.U 18)),zW w ⟨⟨[109,101,97,110,56]⟩⟩ (Y 109) (.int 0 (Y 110)),zW w ⟨⟨[115,112,114,101,97,100,52]⟩⟩ (Y 111) (.int 0 (Y 112)),zW w r52 (Y 113) (.int 0 (Y 114))])),
    ((Y 79+10),(zL 0 [])),
    ((Y 80+10),(zL 0 [])),
    ((Y 81+10),(zL 0 [])),
    ((Y 82+10),(zL 0 [])),
    ((Y 83+10),(zL 0 [])),
    ((Y 84+10),(zL 0 [])),
    ((Y 85+10),(zL 0 [])),
    ((Y 86+10),(zL 0 [])),
    ((Y 87+10),(zL 0 [])),
    ((Y 88+10),(zL 0 [])),
    ((Y 89+10),(zL 0 [])),
    ((Y 90+10),(zL 0 [])),
    ((Y 91+10),(zL 0 [])),
    ((Y 92+10),(zL 0 [])),
    ((Y 93+10),(zL 0 [])),
    ((Y 94+10),(zL 0 []))]
  nn:=37
  res w L Y:=(.ret (.ref (Y 0+10)))
  ds L:=[]
  sh:=shapeB [0,0,1,0,2]
noncomputable def yT (sz tk:Nat) (ω:Nat→Nat):List Nat:=[sz+1,sz,tk+6,tk+8,tk+10,tk+12,tk+67,sz+4,tk+69,tk+111,sz+17,tk+142,sz+20,tk+156,sz+23,tk+207,sz+26,tk+209,tk+212,tk+210,tk+215,tk+213,tk+217,sz+3,sz+16,sz+19,sz+22,sz+25,tk+22,tk+24,tk+26,tk+28,tk+30,tk+32,tk+49,sz+7,tk+59,sz+10,tk+61,tk+63,tk+65,tk+99,sz+14,tk+101,tk+104,tk+102,tk+106,tk+109,tk+107,tk+124,tk+126,tk+118,tk+128,tk+115,tk+130,tk+133,tk+131,tk+136,tk+134,tk+138,tk+140,tk+147,tk+150,tk+148,tk+152,tk+154,tk+160,tk+196,sz+30,tk+198,sz+50,tk+200,sz+51,tk+202,tk+205,tk+203,sz+6,sz+9,sz+13,sz+32,sz+33,sz+34,sz+35,sz+36,sz+37,sz+38,sz+39,sz+40,sz+41,sz+42,sz+43,sz+44,sz+45,sz+46,sz+47,tk+36,tk+39,tk+37,tk+42,tk+40,tk+44,tk+47,tk+45,tk+54,tk+57,tk+55,tk+79,tk+81,tk+83,tk+86,tk+84,tk+89,tk+87,tk+92,tk+90]
noncomputable def dT (w:World) (L:Lt) (ω:Nat→Nat) (sz tk:Nat):List Bool:=List.replicate 18 true
theorem rT (w:World) (L:Lt) (f:Fm) (p:Pos) (ω:Nat→Nat) (sz tk:Nat):
  RunIs (sim (VW w icNil (mkSt f 0 [0,0,1,0,2])) 3081 ω hT (denQ (ctT.code w (up L))) (ctT.code w (up L)) p [] (sz+10) tk (ctT.ents w (up L)).length (treeOf (ctT.ents w (up L))) [] [])
   (.ok (ctT.res w (up L) (rd (yT sz tk ω)))) [0,1,2,3,5,4,8,21,24,27,30,7,20,23,26,29,11,14,18,34,54,55,10,13,17,36,37,38,39,40,41,42,43,44,45,46,47,48,49,50,51] (ctT.posts w (up L) (rd (yT sz tk ω))++ctT.news w (up L) (rd (yT sz tk ω)))
   (dT w L ω sz tk):=⟨by kernel_rfl⟩
theorem okT (w:World):Ct2Ok w ctT:=ct2_ok (own:=icNil) (ks:=[0,0,1,0,2]) rfl icNil_own (fun _ _=>rfl) (fun _ _=>rfl) (fun _=>rfl) rfl (fun _ _ _ _ _ _ hd=>(List.mem_replicate.mp hd).2) (rT w)
end
end Mine
namespace Mine
open PySem PySem.W
noncomputable section
noncomputable def hR:NL:=g14 (g7 (3::0::3::g8 (0::4::2::0::4::2::0::4::2::0::4::2::0::4::2::0::4::g313 (4::4::g167 (2::0::2::4::4::g167 (2::0::2::0::4::4::g9 (5::3::0::5::3::0::5::3::0::5::5::2::5::5::4::g167 (2::0::2::g6 (6::6::0::6::1::1000000::4::4::g167 (2::0::2::0::4::g15 (8::0::8::g8 (g263 (9::9::8::g6 (8::0::8::0::8::g7 (8::0::0::7::5::7::9::8::g6 (8::0::8::0::8::g7 (8::0::0::7::5::7::4::g167 (2::0::2::0::4::g18 (2::4::4::g9 (g278 (9::0::11::11::2::11::5::g313 (g313 (g313 (g313 []))))))))))))))))))))))))
noncomputable def ctR:Ct2 where
  np:=0
  aI:=[]
  uI:=[1,2,3,4]
  iI:=[]
  sI:=[]
  bI:=[]
  code w L:=(.call (.ref 289) ⟨[.int 252 (L.U 0),.int 256 (L.U 1),.int 16 (L.U 2),.int 4 (L.U 3)],[]⟩)
  ents w L:=[]
  posts w L Y:=[]
  news w L Y:=[((Y 0+10),(zI 289 (Y 1+10))),
    ((Y 1+10),(zD 10 [zW w r0 (Y 2) (.int 256 (L.U 1)),zW w r50 (Y 3) (.int 16 (L.U 2)),zW w r1 (Y 4) (.int 4 (L.U 3)),zW w q38 (Y 5) (.int 253 (Y 6)),zW w r53 (Y 7) (.ref (Y 8+10)),zW w r54 (Y 9) (.ref (Y 10+10)),zW w r55 (Y 11) (.int 13 (Y 12)),zW w r56 (Y 13) (.none),zW w r57 (Y 14) (.bool false),zW w r58 (Y 15) (.none)])),
    ((Y 8+10),⟨.type "bytearray",none,.bytearray ⟨[]⟩ 0,⟨[]⟩⟩),
    ((Y 10+10),(zI 155 (Y 16+10))),
    ((Y 16+10),(zD 2 [zW w r0 (Y 17) (.int 256 (L.U 1)),zW w r59 (Y 18) (.ref (Y 19+10))])),
    ((Y 19+10),(zL 0 []))]
  nn:=6
  res w L Y:=(.ret (.ref (Y 0+10)))
  ds L:=[]
  sh:=shapeB [0,0,1,0,2]
noncomputable def yR (sz tk:Nat) (ω:Nat→Nat):List Nat:=[sz+1,sz,tk+6,tk+8,tk+10,tk+18,tk+16,tk+20,sz+4,tk+28,sz+6,tk+36,tk+34,tk+38,tk+40,tk+42,sz+5,tk+24,tk+26,sz+8]
noncomputable def dR (w:World) (L:Lt) (ω:Nat→Nat) (sz tk:Nat):List Bool:=List.replicate 3 true
theorem rR (w:World) (L:Lt) (f:Fm) (p:Pos) (ω:Nat→Nat) (sz tk:Nat):
  RunIs (sim (VW w icNil (mkSt f 0 [0,0,1,0,2])) 598 ω hR (denQ (ctR.code w (up L))) (ctR.code w (up L)) p [] (sz+10) tk (ctR.ents w (up L)).length (treeOf (ctR.ents w (up L))) [] [])
   (.ok (ctR.res w (up L) (rd (yR sz tk ω)))) [1,0,4,6,5,8] (ctR.posts w (up L) (rd (yR sz tk ω))++ctR.news w (up L) (rd (yR sz tk ω)))
   (dR w L ω sz tk):=⟨by kernel_rfl⟩
theorem okR (w:World):Ct2Ok w ctR:=ct2_ok (own:=icNil) (ks:=[0,0,1,0,2]) rfl icNil_own (fun _ _=>rfl) (fun _ _=>rfl) (fun _=>rfl) rfl (fun _ _ _ _ _ _ hd=>(List.mem_replicate.mp hd).2) (rR w)
end
end Mine
namespace Mine
noncomputable section
open PySem PySem.W
noncomputable def icE (w:World) (k:Nat):Icpt:=match Nat.blt k 15 with
  | true=>icPuts w k
  | false=>match Nat.beq k 15 with
    | true=>icOf2 w ctT
    | false=>icOf2 w ctR
theorem icE_own {w:World}:OwnOk w (icE w):=by
  intro b V j hkt hb hp hw hd
  unfold icE
  cases Nat.blt j 15 with
  | true=>exact icPuts_ok _ _ _ hkt hb
  | false=>cases Nat.beq j 15 with
    | true=>exact icOf2_ok (okT w) hkt hb
    | false=>exact icOf2_ok (okR w) hkt hb
end
end Mine
namespace Mine
noncomputable section
open PySem PySem.W
noncomputable def tupItO:Obj:=⟨.type "tuple_iterator",none,.fields ⟨[.none,.int 2 0]⟩,⟨[]⟩⟩
noncomputable def phE (b:Bool) (t:Int) (u:Nat) (ord:Int) (v:Nat):Obj:=cond b ⟨.type "tuple",none,.seq ⟨[.int t u,.int ord v]⟩ 0,⟨[]⟩⟩ tupItO
noncomputable def cntP:(Nat→Bool)→Nat→Nat
  | _,0=>0
  | P,n+1=>cond (P n) (cntP P n+1) (cntP P n)
noncomputable def keyTok (k:Nat):Nat:=1724+2*k
noncomputable def dictP (P:Nat→Bool) (A:Nat→Nat):Nat→Nat→List DictEntry
  | _,0=>[]
  | k,n+1=>cond (P k) (⟨((k+1:Nat):Int),.int ((k+1:Nat):Int) (keyTok k),.ref (A k)⟩::dictP P A (k+1) n) (dictP P A (k+1) n)
noncomputable def slot0:Obj:=⟨.type "list",none,.seq ⟨[]⟩ 0,⟨[]⟩⟩
noncomputable def slotsP (P:Nat→Bool) (I:Nat→Int):Nat→List Obj
  | 0=>List.replicate 16 slot0
  | n+1=>cond (P n) (pushAt (.int ((n+1:Nat):Int) (keyTok n)) (Int.fmod (I (n+1)) 16).toNat 0 (slotsP P I n)) (slotsP P I n)
noncomputable def slotP (P:Nat→Bool) (I:Nat→Int) (i:Nat):Obj:=slotIn ((slotsP P I 4).getD i default)
noncomputable def bitsP:List Bool→Nat→Bool
  | [],_=>false
  | b::_,0=>b
  | _::l,n+1=>bitsP l n
noncomputable def patI (I:Nat→Int):Nat→Bool:=bitsP [decide (I 1 > 0),decide (I 2 > 0),decide (I 3 > 0),decide (I 4 > 0)]
noncomputable def sizes (l:List Obj):List Bool:=l.flatMap slotDs
theorem slotsP_bdd (P:Nat→Bool) (I:Nat→Int):∀n,∀o∈slotsP P I n,(arrO o).size≤n
  | 0,o,h=>by
    have:=(List.mem_replicate.mp h).2
    subst this
    exact Nat.le_refl _
  | n + 1,o,h=>by
    have ih:=slotsP_bdd P I n
    have push:∀(v:Value) (J:Nat) (l:List Obj) (i:Nat),(∀o∈l,(arrO o).size≤n)→∀o∈pushAt v J i l,(arrO o).size≤n+1:=by
      intro v J l
      induction l with
      | nil=>intro i _ o h;cases h
      | cons x r ihl=>
        intro i hl o h
        rcases List.mem_cons.mp h with rfl | h
        · have hx:=hl x (.head _)
          cases Nat.beq J i with
          | true=>show ((arrO x).push v).size≤n+1;rw [Array.size_push];omega
          | false=>show (arrO x).size≤n+1;omega
        · exact ihl (i+1) (fun o ho=>hl o (.tail _ ho)) o h
    unfold slotsP at h
    cases hp:P n with
    | true=>rw [hp] at h;exact push _ _ _ _ ih o h
    | false=>rw [hp] at h;exact Nat.le_succ_of_le (ih o h)
theorem sizes_ok (P:Nat→Bool) (I:Nat→Int) {n:Nat} (hn:n≤4):∀d∈sizes (slotsP P I n),d = true:=by
  intro d hd
  obtain ⟨o,ho,h⟩:=List.mem_flatMap.mp hd
  unfold slotDs at h
  rw [List.mem_singleton] at h
  subst h
  have:=slotsP_bdd P I n o ho
  exact Nat.ble_eq_true_of_le (by omega)
end
end Mine
namespace Mine
open PySem PySem.W
noncomputable section
noncomputable def entE (L:Lt):Ent:=((L.A 0),(zL 4 [.int (L.I 1) (L.U 3),.int (L.I 2) (L.U 4),.int (L.I 3) (L.U 5),.int (L.I 4) (L.U 6)]))
noncomputable def newsE (w:World) (L:Lt) (P:Nat→Bool) (Y:Nat→Nat):List Ent:=[((Y 9+10),(zI 1173 (Y 10+10))),
    ((Y 10+10),(zD 14 [zW w r10 (Y 11) (.ref (Y 12+10)),zW w r11 (Y 13) (.ref (Y 14+10)),zW w r12 (Y 15) (.ref (Y 16+10)),zW w r13 (Y 17) (.str (L.S 0) (L.U 1)),zW w r14 (Y 18) (.ref (Y 19+10)),zW w r15 (Y 20) (.ref (Y 21+10)),zW w r16 (Y 22) (.ref (Y 23+10)),zW w r17 (Y 24) (.ref (Y 25+10)),zW w r18 (Y 26) (.ref (Y 27+10)),zW w r19 (Y 28) (.ref (Y 29+10)),zW w r20 (Y 30) (.none),zW w r21 (Y 31) (.int 0 (Y 32)),zW w r22 (Y 33) (.int 0 (Y 34)),zW w r23 (Y 35) (.bool true)])),
    ((Y 12+10),(zI 1130 (Y 36+10))),
    ((Y 14+10),(zT 0 [.int 1 (Y 37),.int 80 (Y 38)])),
    ((Y 16+10),(zT 0 [.int 2 (Y 39),.int 90 (Y 40)])),
    ((Y 19+10),(zI 915 (Y 41+10))),
    ((Y 21+10),(zI 289 (Y 42+10))),
    ((Y 23+10),(zI 514 (Y 43+10))),
    ((Y 25+10),(zI 437 (Y 44+10))),
    ((Y 27+10),(zI 346 (Y 45+10))),
    ((Y 29+10),(zI 1109 (Y 46+10))),
    ((Y 36+10),(zD 10 [zW w r0 (Y 47) (.int 256 (L.U 0)),zW w r1 (Y 48) (.int 4 (Y 49)),zW w r2 (Y 50) (.int 40 (Y 51)),zW w r3 (Y 52) (.int 16 (Y 53)),zW w r4 (Y 54) (.int 6 (Y 55)),zW w r5 (Y 56) (.int 4 (Y 57)),zW w r6 (Y 58) (.int 24 (Y 59)),zW w r7 (Y 60) (.int 3 (Y 61)),zW w r8 (Y 62) (.int 5 (Y 63)),zW w r9 (Y 64) (.int (L.I 0) (L.U 2))])),
    ((Y 41+10),(zD 11 [zW w r24 (Y 65) (.int 20 (Y 66)),zW w r0 (Y 67) (.int 256 (L.U 0)),zW w r1 (Y 68) (.int 4 (Y 49)),zW w r25 (Y 69) (.int 21 (Y 70)),zW w q38 (Y 71) (.int 21 (Y 72)),zW w r26 (Y 73) (.int 21 (Y 74)),zW w r27 (Y 75) (.ref (Y 76+10)),zW w r28 (Y 77) (.ref (Y 78+10)),zW w r29 (Y 79) (.bool false),zW w r30 (Y 80) (.bool false),zW w r31 (Y 81) (.bool false)])),
    ((Y 42+10),(zD 10 [zW w r0 (Y 82) (.int 256 (L.U 0)),zW w r50 (Y 83) (.int 16 (Y 84)),zW w r1 (Y 85) (.int 4 (Y 86)),zW w q38 (Y 87) (.int 253 (Y 88)),zW w r53 (Y 89) (.ref (Y 90+10)),zW w r54 (Y 91) (.ref (Y 92+10)),zW w r55 (Y 93) (.int 13 (Y 94)),zW w r56 (Y 95) (.none),zW w r57 (Y 96) (.bool false),zW w r58 (Y 97) (.none)])),
    ((Y 43+10),(zD 5 [zW w r32 (Y 98) (.ref (Y 99+10)),zW w r7 (Y 100) (.int 3 (Y 61)),zW w ⟨⟨[116,114,105,101,115]⟩⟩ (Y 101) (.int 0 (Y 102)),zW w r33 (Y 103) (.none),zW w ⟨⟨[116,105,109,101,100,95,97,116]⟩⟩ (Y 104) (.int 0 (Y 105))])),
    ((Y 44+10),(zD 8 [zW w r1 (Y 106) (.int 4 (Y 49)),zW w r34 (Y 107) (.int 44 (Y 108)),zW w q319 (Y 109) (.int 8 (Y 110)),zW w r35 (Y 111) (.int 44 (Y 108)),zW w r36 (Y 112) (.int 0 (Y 113)),zW w r37 (Y 114) (.int 0 (Y 115)),zW w r38 (Y 116) (.bool false),zW w r39 (Y 117) (.bool false)])),
    ((Y 45+10),(zD 4 [zW w r40 (Y 118) (.int 5 (Y 63)),zW w r41 (Y 119) (.int 0 (Y 120)),zW w q457 (Y 121) (.none),zW w r42 (Y 122) (.bool false)])),
    ((Y 46+10),(zD 6 [zW w q319 (Y 123) (.int 16 1642),zW w r43 (Y 124) (.ref (Y 125+10)),zW w r44 (Y 126) (.ref (Y 127+10)),zW w r45 (Y 128) (.ref (Y 129+10)),zW w r46 (Y 130) (.none),zW w r47 (Y 131) (.int (cntP P 4) (Y 8))])),
    ((Y 76+10),(zI 724 (Y 132+10))),
    ((Y 78+10),(zI 682 (Y 133+10))),
    ((Y 90+10),⟨.type "bytearray",none,.bytearray ⟨[]⟩ 0,⟨[]⟩⟩),
    ((Y 92+10),(zI 155 (Y 134+10))),
    ((Y 99+10),(zI 570 (Y 135+10))),
    ((Y 125+10),(zL 16 [.ref (Y 136+10),.ref (Y 137+10),.ref (Y 138+10),.ref (Y 139+10),.ref (Y 140+10),.ref (Y 141+10),.ref (Y 142+10),.ref (Y 143+10),.ref (Y 144+10),.ref (Y 145+10),.ref (Y 146+10),.ref (Y 147+10),.ref (Y 148+10),.ref (Y 149+10),.ref (Y 150+10),.ref (Y 151+10)])),
    ((Y 127+10),(zL 0 [])),
    ((Y 129+10),⟨.type "dict",none,.dict ⟨dictP P (fun k=>Y k+10) 0 4⟩ (cntP P 4),⟨[]⟩⟩),
    ((Y 132+10),(zD 5 [zW w r0 (Y 152) (.int 256 (L.U 0)),zW w q319 (Y 153) (.int 0 (Y 154)),zW w r34 (Y 155) (.int 0 (Y 156)),zW w r48 (Y 157) (.none),zW w r49 (Y 158) (.int 0 (Y 159))])),
    ((Y 133+10),(zD 2 [zW w r50 (Y 160) (.int 40 (Y 51)),zW w r51 (Y 161) (.bytes ⟨[]⟩ (Y 162))])),
    ((Y 134+10),(zD 2 [zW w r0 (Y 163) (.int 256 (L.U 0)),zW w r59 (Y 164) (.ref (Y 165+10))])),
    ((Y 135+10),(zD 6 [zW w ⟨⟨[102,105,114,115,116]⟩⟩ (Y 166) (.int 6 (Y 55)),zW w ⟨⟨[108,101,97,115,116]⟩⟩ (Y 167) (.int 4 (Y 57)),zW w r34 (Y 168) (.int 24 (Y 59)),zW w ⟨⟨[109,101,97,110,56]⟩⟩ (Y 169) (.int 0 (Y 170)),zW w ⟨⟨[115,112,114,101,97,100,52]⟩⟩ (Y 171) (.int 0 (Y 172)),zW w r52 (Y 173) (.int 0 (Y 174))])),
    ((Y 136+10),slotP P L.I 0),
    ((Y 137+10),slotP P L.I 1),
    ((Y 138+10),slotP P L.I 2),
    ((Y 139+10),slotP P L.I 3),
    ((Y 140+10),slotP P L.I 4),
    ((Y 141+10),slotP P L.I 5),
    ((Y 142+10),slotP P L.I 6),
    ((Y 143+10),slotP P L.I 7),
    ((Y 144+10),slotP P L.I 8),
    ((Y 145+10),slotP P L.I 9),
    ((Y 146+10),slotP P L.I 10),
    ((Y 147+10),slotP P L.I 11),
    ((Y 148+10),slotP P L.I 12),
    ((Y 149+10),slotP P L.I 13),
    ((Y 150+10),slotP P L.I 14),
    ((Y 151+10),slotP P L.I 15),
    ((Y 165+10),(zL 0 [])),
    (Y 0+10,phE (P 0) (L.I 1) (L.U 3) (cntP P 1) (Y 4)),
    (Y 1+10,phE (P 1) (L.I 2) (L.U 4) (cntP P 2) (Y 5)),
    (Y 2+10,phE (P 2) (L.I 3) (L.U 5) (cntP P 3) (Y 6)),
    (Y 3+10,phE (P 3) (L.I 4) (L.U 6) (cntP P 4) (Y 7))]
noncomputable def resE (Y:Nat→Nat):Flow:=(.ret (.ref (Y 9+10)))
noncomputable def ctE:Ct2 where
  np:=1
  aI:=[4]
  uI:=[1,2,3,6,7,8,9]
  iI:=[0,1,2,3,4].map (·+1)
  sI:=[0]
  code w L:=(.call (.ref 1479) ⟨[.int 256 (L.U 0),.str (L.S 0) (L.U 1),.int (L.I 0) (L.U 2),.ref (L.A 0)],[]⟩)
  ents w L:=[entE L]
  posts w L Y:=[entE L]
  news w L Y:=newsE w L (patI L.I) Y
  nn:=51
  res w L Y:=resE Y
  sh:=shapeB [0,1,0,2]
noncomputable def partE (P:Nat→Bool) (I:Nat→Int) (k:Nat):List Bool:=cond (P k) (List.replicate 27 true++(sizes (slotsP P I k)++[decide (I (k+1) > 0)])) [!(decide (I (k+1) > 0))]
noncomputable def dsE (L:Lt) (P:Nat→Bool):List Bool:=partE P L.I 3++(partE P L.I 2++(partE P L.I 1++(partE P L.I 0++List.replicate 12 true)))
theorem partE_ok (P:Nat→Bool) (I:Nat→Int) (k:Nat) (hk:k≤4) (h:P k = decide (I (k+1) > 0)):∀d∈partE P I k,d = true:=by
  unfold partE
  cases e:P k with
  | true=>
    intro d hd
    rcases List.mem_append.mp hd with hd | hd
    · exact (List.mem_replicate.mp hd).2
    · rcases List.mem_append.mp hd with hd | hd
      · exact sizes_ok P I hk d hd
      · rw [List.mem_singleton] at hd
        rw [hd,←h,e]
  | false=>
    intro d hd
    have hd:d∈[!(decide (I (k+1) > 0))]:=hd
    rw [List.mem_singleton] at hd
    rw [hd,←h,e];rfl
theorem dsE_ok (L:Lt):∀d∈dsE L (patI L.I),d = true:=by
  unfold dsE
  intro d hd
  rcases List.mem_append.mp hd with hd | hd
  · exact partE_ok _ _ 3 (by decide) rfl d hd
  rcases List.mem_append.mp hd with hd | hd
  · exact partE_ok _ _ 2 (by decide) rfl d hd
  rcases List.mem_append.mp hd with hd | hd
  · exact partE_ok _ _ 1 (by decide) rfl d hd
  rcases List.mem_append.mp hd with hd | hd
  · exact partE_ok _ _ 0 (by decide) rfl d hd
  · exact (List.mem_replicate.mp hd).2
noncomputable def hE0:NL:=g321 (g65 (76::78::78::78::1::0::78::79::79::0::79::79::79::78::g240 (78::g240 (78::79::77::81::g265 (83::3::[])))))
noncomputable def yE0 (sz tk:Nat) (ω:Nat→Nat):List Nat:=[ω 3+15,ω 3+19,ω 3+23,ω 3+27,0,0,0,0,ω 154,ω 4,ω 6,ω 8,sz+2,ω 10,sz+4,ω 12,sz+5,ω 14,ω 16,ω 18,ω 20,ω 19,ω 22,ω 24,ω 26,ω 28,ω 30,ω 32,ω 34,ω 36,ω 38,ω 40,ω 42,ω 44,ω 46,ω 48,sz+1,tk+43,tk+44,tk+45,tk+46,ω 50,ω 27,ω 52,ω 54,ω 56,ω 58,tk+24,tk+26,tk+4,tk+28,tk+5,tk+30,tk+6,tk+32,tk+7,tk+34,tk+8,tk+36,tk+9,tk+38,tk+10,tk+40,tk+11,tk+42,ω 60,tk+47,ω 62,ω 64,ω 66,ω 11+6,ω 68,ω 11+7,ω 70,ω 11+8,ω 72,ω 74,ω 76,ω 78,ω 80,ω 82,ω 84,ω 35,ω 43,ω 2+3,ω 51,ω 2+4,ω 59,ω 67,ω 75,ω 83,ω 91,ω 99,ω 107,ω 115,ω 123,ω 131,ω 139,ω 86,ω 88,ω 90,ω 92,ω 94,ω 96,ω 98,ω 100,ω 102,ω 104,ω 106,ω 108,ω 110,ω 112,ω 114,ω 116,ω 118,ω 120,ω 122,ω 124,ω 126,ω 128,ω 130,ω 132,ω 134,ω 136,ω 138,ω 140,ω 142,ω 144,ω 146,ω 148,ω 150,ω 152,ω 156,ω 158,ω 147,ω 160,ω 162,ω 164,ω 166,ω 168,ω 170,ω 172,ω 174,ω 176,ω 178,ω 180,ω 182,ω 184,ω 186,ω 188,ω 190,ω 192,ω 194,ω 196,ω 198,ω 200,ω 202,ω 204,ω 206,ω 208,ω 210,ω 212,ω 214,ω 155,ω 163,ω 171,ω 216,ω 218,ω 220,ω 222,ω 224,ω 226,ω 228,ω 230,ω 232]
noncomputable def iE0:List Nat:=[0,7,8,3,5,6,9,44,10,11,12,13,2,14,45,15,16,17,18,19,20,46,47,21,22,23,24,25,26,48,27,28,29,30,31,32,33,34,35,36,37,38,39,40,41,42,43,49,65,69,73,77]
theorem rE0 (w:World) (L:Lt) (f:Fm) (p:Pos) (ω:Nat→Nat) (sz tk:Nat):
  RunIs (sim (VW w (icE w) (mkSt f 0 [0,1,0,2])) 1358 ω hE0 (denQ (ctE.code w (up L))) (ctE.code w (up L)) p [] (sz+10) tk (ctE.ents w (up L)).length (treeOf (ctE.ents w (up L))) [] [])
   (.ok (resE (rd (yE0 sz tk ω)))) iE0 ([entE (up L)]++newsE w (up L) (bitsP [false,false,false,false]) (rd (yE0 sz tk ω)))
   (dsE L (bitsP [false,false,false,false])):=⟨by kernel_rfl⟩
noncomputable def hE1:NL:=g322 (g65 (g285 (g265 (84::3::[]))))
noncomputable def yE1 (sz tk:Nat) (ω:Nat→Nat):List Nat:=[ω 3+20,ω 31+1,ω 31+5,ω 31+9,ω 11+30,0,0,0,ω 11+30,ω 4,ω 6,ω 8,sz+2,ω 10,sz+4,ω 12,sz+5,ω 14,ω 16,ω 18,ω 20,ω 19,ω 22,ω 24,ω 26,ω 28,ω 30,ω 32,ω 34,ω 36,ω 38,ω 40,ω 42,ω 44,ω 46,ω 48,sz+1,tk+43,tk+44,tk+45,tk+46,ω 50,ω 27,ω 52,ω 54,ω 56,ω 58,tk+24,tk+26,tk+4,tk+28,tk+5,tk+30,tk+6,tk+32,tk+7,tk+34,tk+8,tk+36,tk+9,tk+38,tk+10,tk+40,tk+11,tk+42,ω 60,tk+47,ω 62,ω 64,ω 66,ω 11+6,ω 68,ω 11+7,ω 70,ω 11+8,ω 72,ω 74,ω 76,ω 78,ω 80,ω 82,ω 84,ω 35,ω 43,ω 2+3,ω 51,ω 2+4,ω 59,ω 67,ω 75,ω 83,ω 91,ω 99,ω 107,ω 115,ω 123,ω 131,ω 139,ω 86,ω 88,ω 90,ω 92,ω 94,ω 96,ω 98,ω 100,ω 102,ω 104,ω 106,ω 108,ω 110,ω 112,ω 114,ω 116,ω 118,ω 120,ω 122,ω 124,ω 126,ω 128,ω 130,ω 132,ω 134,ω 136,ω 138,ω 140,ω 142,ω 144,ω 146,ω 148,ω 150,ω 152,ω 156,ω 158,ω 147,ω 160,ω 162,ω 164,ω 166,ω 168,ω 170,ω 172,ω 174,ω 176,ω 178,ω 180,ω 182,ω 184,ω 186,ω 188,ω 190,ω 192,ω 194,ω 196,ω 198,ω 200,ω 202,ω 204,ω 206,ω 208,ω 210,ω 212,ω 214,ω 155,ω 163,ω 171,ω 216,ω 218,ω 220,ω 222,ω 224,ω 226,ω 228,ω 230,ω 232]
noncomputable def iE1:List Nat:=[0,7,8,3,5,6,9,44,10,11,12,13,2,14,45,15,16,17,18,19,20,46,47,21,22,23,24,25,26,48,27,28,29,30,31,32,33,34,35,36,37,38,39,40,41,42,43,49,68,70,74,78]
theorem rE1 (w:World) (L:Lt) (f:Fm) (p:Pos) (ω:Nat→Nat) (sz tk:Nat):
  RunIs (sim (VW w (icE w) (mkSt f 0 [0,1,0,2])) 1403 ω hE1 (denQ (ctE.code w (up L))) (ctE.code w (up L)) p [] (sz+10) tk (ctE.ents w (up L)).length (treeOf (ctE.ents w (up L))) [] [])
   (.ok (resE (rd (yE1 sz tk ω)))) iE1 ([entE (up L)]++newsE w (up L) (bitsP [true,false,false,false]) (rd (yE1 sz tk ω)))
   (dsE L (bitsP [true,false,false,false])):=⟨by kernel_rfl⟩
noncomputable def hE2:NL:=g323 (g65 (g285 (g265 (84::3::[]))))
noncomputable def yE2 (sz tk:Nat) (ω:Nat→Nat):List Nat:=[ω 3+15,ω 3+24,ω 127+1,ω 127+5,0,ω 11+33,0,0,ω 11+33,ω 4,ω 6,ω 8,sz+2,ω 10,sz+4,ω 12,sz+5,ω 14,ω 16,ω 18,ω 20,ω 19,ω 22,ω 24,ω 26,ω 28,ω 30,ω 32,ω 34,ω 36,ω 38,ω 40,ω 42,ω 44,ω 46,ω 48,sz+1,tk+43,tk+44,tk+45,tk+46,ω 50,ω 27,ω 52,ω 54,ω 56,ω 58,tk+24,tk+26,tk+4,tk+28,tk+5,tk+30,tk+6,tk+32,tk+7,tk+34,tk+8,tk+36,tk+9,tk+38,tk+10,tk+40,tk+11,tk+42,ω 60,tk+47,ω 62,ω 64,ω 66,ω 11+6,ω 68,ω 11+7,ω 70,ω 11+8,ω 72,ω 74,ω 76,ω 78,ω 80,ω 82,ω 84,ω 35,ω 43,ω 2+3,ω 51,ω 2+4,ω 59,ω 67,ω 75,ω 83,ω 91,ω 99,ω 107,ω 115,ω 123,ω 131,ω 139,ω 86,ω 88,ω 90,ω 92,ω 94,ω 96,ω 98,ω 100,ω 102,ω 104,ω 106,ω 108,ω 110,ω 112,ω 114,ω 116,ω 118,ω 120,ω 122,ω 124,ω 126,ω 128,ω 130,ω 132,ω 134,ω 136,ω 138,ω 140,ω 142,ω 144,ω 146,ω 148,ω 150,ω 152,ω 156,ω 158,ω 147,ω 160,ω 162,ω 164,ω 166,ω 168,ω 170,ω 172,ω 174,ω 176,ω 178,ω 180,ω 182,ω 184,ω 186,ω 188,ω 190,ω 192,ω 194,ω 196,ω 198,ω 200,ω 202,ω 204,ω 206,ω 208,ω 210,ω 212,ω 214,ω 155,ω 163,ω 171,ω 216,ω 218,ω 220,ω 222,ω 224,ω 226,ω 228,ω 230,ω 232]
noncomputable def iE2:List Nat:=[0,7,8,3,5,6,9,44,10,11,12,13,2,14,45,15,16,17,18,19,20,46,47,21,22,23,24,25,26,48,27,28,29,30,31,32,33,34,35,36,37,38,39,40,41,42,43,49,65,72,74,78]
theorem rE2 (w:World) (L:Lt) (f:Fm) (p:Pos) (ω:Nat→Nat) (sz tk:Nat):
  RunIs (sim (VW w (icE w) (mkSt f 0 [0,1,0,2])) 1403 ω hE2 (denQ (ctE.code w (up L))) (ctE.code w (up L)) p [] (sz+10) tk (ctE.ents w (up L)).length (treeOf (ctE.ents w (up L))) [] [])
   (.ok (resE (rd (yE2 sz tk ω)))) iE2 ([entE (up L)]++newsE w (up L) (bitsP [false,true,false,false]) (rd (yE2 sz tk ω)))
   (dsE L (bitsP [false,true,false,false])):=⟨by kernel_rfl⟩
noncomputable def hE3:NL:=g324 (g65 (g286 (g265 (85::3::[]))))
noncomputable def yE3 (sz tk:Nat) (ω:Nat→Nat):List Nat:=[ω 3+20,ω 31+6,ω 255+1,ω 255+5,ω 11+30,ω 95+13,0,0,ω 95+13,ω 4,ω 6,ω 8,sz+2,ω 10,sz+4,ω 12,sz+5,ω 14,ω 16,ω 18,ω 20,ω 19,ω 22,ω 24,ω 26,ω 28,ω 30,ω 32,ω 34,ω 36,ω 38,ω 40,ω 42,ω 44,ω 46,ω 48,sz+1,tk+43,tk+44,tk+45,tk+46,ω 50,ω 27,ω 52,ω 54,ω 56,ω 58,tk+24,tk+26,tk+4,tk+28,tk+5,tk+30,tk+6,tk+32,tk+7,tk+34,tk+8,tk+36,tk+9,tk+38,tk+10,tk+40,tk+11,tk+42,ω 60,tk+47,ω 62,ω 64,ω 66,ω 11+6,ω 68,ω 11+7,ω 70,ω 11+8,ω 72,ω 74,ω 76,ω 78,ω 80,ω 82,ω 84,ω 35,ω 43,ω 2+3,ω 51,ω 2+4,ω 59,ω 67,ω 75,ω 83,ω 91,ω 99,ω 107,ω 115,ω 123,ω 131,ω 139,ω 86,ω 88,ω 90,ω 92,ω 94,ω 96,ω 98,ω 100,ω 102,ω 104,ω 106,ω 108,ω 110,ω 112,ω 114,ω 116,ω 118,ω 120,ω 122,ω 124,ω 126,ω 128,ω 130,ω 132,ω 134,ω 136,ω 138,ω 140,ω 142,ω 144,ω 146,ω 148,ω 150,ω 152,ω 156,ω 158,ω 147,ω 160,ω 162,ω 164,ω 166,ω 168,ω 170,ω 172,ω 174,ω 176,ω 178,ω 180,ω 182,ω 184,ω 186,ω 188,ω 190,ω 192,ω 194,ω 196,ω 198,ω 200,ω 202,ω 204,ω 206,ω 208,ω 210,ω 212,ω 214,ω 155,ω 163,ω 171,ω 216,ω 218,ω 220,ω 222,ω 224,ω 226,ω 228,ω 230,ω 232]
noncomputable def iE3:List Nat:=[0,7,8,3,5,6,9,44,10,11,12,13,2,14,45,15,16,17,18,19,20,46,47,21,22,23,24,25,26,48,27,28,29,30,31,32,33,34,35,36,37,38,39,40,41,42,43,49,68,73,75,79]
theorem rE3 (w:World) (L:Lt) (f:Fm) (p:Pos) (ω:Nat→Nat) (sz tk:Nat):
  RunIs (sim (VW w (icE w) (mkSt f 0 [0,1,0,2])) 1448 ω hE3 (denQ (ctE.code w (up L))) (ctE.code w (up L)) p [] (sz+10) tk (ctE.ents w (up L)).length (treeOf (ctE.ents w (up L))) [] [])
   (.ok (resE (rd (yE3 sz tk ω)))) iE3 ([entE (up L)]++newsE w (up L) (bitsP [true,true,false,false]) (rd (yE3 sz tk ω)))
   (dsE L (bitsP [true,true,false,false])):=⟨by kernel_rfl⟩
noncomputable def hE4:NL:=g321 (g57 (37::g68 (g285 (g265 (84::3::[])))))
noncomputable def yE4 (sz tk:Nat) (ω:Nat→Nat):List Nat:=[ω 3+15,ω 3+19,ω 3+28,ω 511+1,0,0,ω 11+36,0,ω 11+36,ω 4,ω 6,ω 8,sz+2,ω 10,sz+4,ω 12,sz+5,ω 14,ω 16,ω 18,ω 20,ω 19,ω 22,ω 24,ω 26,ω 28,ω 30,ω 32,ω 34,ω 36,ω 38,ω 40,ω 42,ω 44,ω 46,ω 48,sz+1,tk+43,tk+44,tk+45,tk+46,ω 50,ω 27,ω 52,ω 54,ω 56,ω 58,tk+24,tk+26,tk+4,tk+28,tk+5,tk+30,tk+6,tk+32,tk+7,tk+34,tk+8,tk+36,tk+9,tk+38,tk+10,tk+40,tk+11,tk+42,ω 60,tk+47,ω 62,ω 64,ω 66,ω 11+6,ω 68,ω 11+7,ω 70,ω 11+8,ω 72,ω 74,ω 76,ω 78,ω 80,ω 82,ω 84,ω 35,ω 43,ω 2+3,ω 51,ω 2+4,ω 59,ω 67,ω 75,ω 83,ω 91,ω 99,ω 107,ω 115,ω 123,ω 131,ω 139,ω 86,ω 88,ω 90,ω 92,ω 94,ω 96,ω 98,ω 100,ω 102,ω 104,ω 106,ω 108,ω 110,ω 112,ω 114,ω 116,ω 118,ω 120,ω 122,ω 124,ω 126,ω 128,ω 130,ω 132,ω 134,ω 136,ω 138,ω 140,ω 142,ω 144,ω 146,ω 148,ω 150,ω 152,ω 156,ω 158,ω 147,ω 160,ω 162,ω 164,ω 166,ω 168,ω 170,ω 172,ω 174,ω 176,ω 178,ω 180,ω 182,ω 184,ω 186,ω 188,ω 190,ω 192,ω 194,ω 196,ω 198,ω 200,ω 202,ω 204,ω 206,ω 208,ω 210,ω 212,ω 214,ω 155,ω 163,ω 171,ω 216,ω 218,ω 220,ω 222,ω 224,ω 226,ω 228,ω 230,ω 232]
noncomputable def iE4:List Nat:=[0,7,8,3,5,6,9,44,10,11,12,13,2,14,45,15,16,17,18,19,20,46,47,21,22,23,24,25,26,48,27,28,29,30,31,32,33,34,35,36,37,38,39,40,41,42,43,49,65,69,76,78]
theorem rE4 (w:World) (L:Lt) (f:Fm) (p:Pos) (ω:Nat→Nat) (sz tk:Nat):
  RunIs (sim (VW w (icE w) (mkSt f 0 [0,1,0,2])) 1403 ω hE4 (denQ (ctE.code w (up L))) (ctE.code w (up L)) p [] (sz+10) tk (ctE.ents w (up L)).length (treeOf (ctE.ents w (up L))) [] [])
   (.ok (resE (rd (yE4 sz tk ω)))) iE4 ([entE (up L)]++newsE w (up L) (bitsP [false,false,true,false]) (rd (yE4 sz tk ω)))
   (dsE L (bitsP [false,false,true,false])):=⟨by kernel_rfl⟩
noncomputable def hE5:NL:=g322 (g57 (38::g68 (g286 (g265 (85::3::[])))))
noncomputable def yE5 (sz tk:Nat) (ω:Nat→Nat):List Nat:=[ω 3+20,ω 31+1,ω 31+10,ω 1023+1,ω 11+30,0,ω 95+16,0,ω 95+16,ω 4,ω 6,ω 8,sz+2,ω 10,sz+4,ω 12,sz+5,ω 14,ω 16,ω 18,ω 20,ω 19,ω 22,ω 24,ω 26,ω 28,ω 30,ω 32,ω 34,ω 36,ω 38,ω 40,ω 42,ω 44,ω 46,ω 48,sz+1,tk+43,tk+44,tk+45,tk+46,ω 50,ω 27,ω 52,ω 54,ω 56,ω 58,tk+24,tk+26,tk+4,tk+28,tk+5,tk+30,tk+6,tk+32,tk+7,tk+34,tk+8,tk+36,tk+9,tk+38,tk+10,tk+40,tk+11,tk+42,ω 60,tk+47,ω 62,ω 64,ω 66,ω 11+6,ω 68,ω 11+7,ω 70,ω 11+8,ω 72,ω 74,ω 76,ω 78,ω 80,ω 82,ω 84,ω 35,ω 43,ω 2+3,ω 51,ω 2+4,ω 59,ω 67,ω 75,ω 83,ω 91,ω 99,ω 107,ω 115,ω 123,ω 131,ω 139,ω 86,ω 88,ω 90,ω 92,ω 94,ω 96,ω 98,ω 100,ω 102,ω 104,ω 106,ω 108,ω 110,ω 112,ω 114,ω 116,ω 118,ω 120,ω 122,ω 124,ω 126,ω 128,ω 130,ω 132,ω 134,ω 136,ω 138,ω 140,ω 142,ω 144,ω 146,ω 148,ω 150,ω 152,ω 156,ω 158,ω 147,ω 160,ω 162,ω 164,ω 166,ω 168,ω 170,ω 172,ω 174,ω 176,ω 178,ω 180,ω 182,ω 184,ω 186,ω 188,ω 190,ω 192,ω 194,ω 196,ω 198,ω 200,ω 202,ω 204,ω 206,ω 208,ω 210,ω 212,ω 214,ω 155,ω 163,ω 171,ω 216,ω 218,ω 220,ω 222,ω 224,ω 226,ω 228,ω 230,ω 232]
noncomputable def iE5:List Nat:=[0,7,8,3,5,6,9,44,10,11,12,13,2,14,45,15,16,17,18,19,20,46,47,21,22,23,24,25,26,48,27,28,29,30,31,32,33,34,35,36,37,38,39,40,41,42,43,49,68,70,77,79]
theorem rE5 (w:World) (L:Lt) (f:Fm) (p:Pos) (ω:Nat→Nat) (sz tk:Nat):
  RunIs (sim (VW w (icE w) (mkSt f 0 [0,1,0,2])) 1448 ω hE5 (denQ (ctE.code w (up L))) (ctE.code w (up L)) p [] (sz+10) tk (ctE.ents w (up L)).length (treeOf (ctE.ents w (up L))) [] [])
   (.ok (resE (rd (yE5 sz tk ω)))) iE5 ([entE (up L)]++newsE w (up L) (bitsP [true,false,true,false]) (rd (yE5 sz tk ω)))
   (dsE L (bitsP [true,false,true,false])):=⟨by kernel_rfl⟩
noncomputable def hE6:NL:=g323 (g57 (39::g68 (g286 (g265 (85::3::[])))))
noncomputable def yE6 (sz tk:Nat) (ω:Nat→Nat):List Nat:=[ω 3+15,ω 3+24,ω 127+6,ω 1023+1,0,ω 11+33,ω 383+13,0,ω 383+13,ω 4,ω 6,ω 8,sz+2,ω 10,sz+4,ω 12,sz+5,ω 14,ω 16,ω 18,ω 20,ω 19,ω 22,ω 24,ω 26,ω 28,ω 30,ω 32,ω 34,ω 36,ω 38,ω 40,ω 42,ω 44,ω 46,ω 48,sz+1,tk+43,tk+44,tk+45,tk+46,ω 50,ω 27,ω 52,ω 54,ω 56,ω 58,tk+24,tk+26,tk+4,tk+28,tk+5,tk+30,tk+6,tk+32,tk+7,tk+34,tk+8,tk+36,tk+9,tk+38,tk+10,tk+40,tk+11,tk+42,ω 60,tk+47,ω 62,ω 64,ω 66,ω 11+6,ω 68,ω 11+7,ω 70,ω 11+8,ω 72,ω 74,ω 76,ω 78,ω 80,ω 82,ω 84,ω 35,ω 43,ω 2+3,ω 51,ω 2+4,ω 59,ω 67,ω 75,ω 83,ω 91,ω 99,ω 107,ω 115,ω 123,ω 131,ω 139,ω 86,ω 88,ω 90,ω 92,ω 94,ω 96,ω 98,ω 100,ω 102,ω 104,ω 106,ω 108,ω 110,ω 112,ω 114,ω 116,ω 118,ω 120,ω 122,ω 124,ω 126,ω 128,ω 130,ω 132,ω 134,ω 136,ω 138,ω 140,ω 142,ω 144,ω 146,ω 148,ω 150,ω 152,ω 156,ω 158,ω 147,ω 160,ω 162,ω 164,ω 166,ω 168,ω 170,ω 172,ω 174,ω 176,ω 178,ω 180,ω 182,ω 184,ω 186,ω 188,ω 190,ω 192,ω 194,ω 196,ω 198,ω 200,ω 202,ω 204,ω 206,ω 208,ω 210,ω 212,ω 214,ω 155,ω 163,ω 171,ω 216,ω 218,ω 220,ω 222,ω 224,ω 226,ω 228,ω 230,ω 232]
noncomputable def iE6:List Nat:=[0,7,8,3,5,6,9,44,10,11,12,13,2,14,45,15,16,17,18,19,20,46,47,21,22,23,24,25,26,48,27,28,29,30,31,32,33,34,35,36,37,38,39,40,41,42,43,49,65,72,77,79]
theorem rE6 (w:World) (L:Lt) (f:Fm) (p:Pos) (ω:Nat→Nat) (sz tk:Nat):
  RunIs (sim (VW w (icE w) (mkSt f 0 [0,1,0,2])) 1448 ω hE6 (denQ (ctE.code w (up L))) (ctE.code w (up L)) p [] (sz+10) tk (ctE.ents w (up L)).length (treeOf (ctE.ents w (up L))) [] [])
   (.ok (resE (rd (yE6 sz tk ω)))) iE6 ([entE (up L)]++newsE w (up L) (bitsP [false,true,true,false]) (rd (yE6 sz tk ω)))
   (dsE L (bitsP [false,true,true,false])):=⟨by kernel_rfl⟩
noncomputable def hE7:NL:=g324 (g57 (40::g68 (79::81::81::81::1::0::81::82::82::0::82::82::82::g325 (g325 (81::82::80::84::g265 (86::3::[]))))))
noncomputable def yE7 (sz tk:Nat) (ω:Nat→Nat):List Nat:=[ω 3+20,ω 31+6,ω 255+6,ω 2047+1,ω 11+30,ω 95+13,ω 767+13,0,ω 767+13,ω 4,ω 6,ω 8,sz+2,ω 10,sz+4,ω 12,sz+5,ω 14,ω 16,ω 18,ω 20,ω 19,ω 22,ω 24,ω 26,ω 28,ω 30,ω 32,ω 34,ω 36,ω 38,ω 40,ω 42,ω 44,ω 46,ω 48,sz+1,tk+43,tk+44,tk+45,tk+46,ω 50,ω 27,ω 52,ω 54,ω 56,ω 58,tk+24,tk+26,tk+4,tk+28,tk+5,tk+30,tk+6,tk+32,tk+7,tk+34,tk+8,tk+36,tk+9,tk+38,tk+10,tk+40,tk+11,tk+42,ω 60,tk+47,ω 62,ω 64,ω 66,ω 11+6,ω 68,ω 11+7,ω 70,ω 11+8,ω 72,ω 74,ω 76,ω 78,ω 80,ω 82,ω 84,ω 35,ω 43,ω 2+3,ω 51,ω 2+4,ω 59,ω 67,ω 75,ω 83,ω 91,ω 99,ω 107,ω 115,ω 123,ω 131,ω 139,ω 86,ω 88,ω 90,ω 92,ω 94,ω 96,ω 98,ω 100,ω 102,ω 104,ω 106,ω 108,ω 110,ω 112,ω 114,ω 116,ω 118,ω 120,ω 122,ω 124,ω 126,ω 128,ω 130,ω 132,ω 134,ω 136,ω 138,ω 140,ω 142,ω 144,ω 146,ω 148,ω 150,ω 152,ω 156,ω 158,ω 147,ω 160,ω 162,ω 164,ω 166,ω 168,ω 170,ω 172,ω 174,ω 176,ω 178,ω 180,ω 182,ω 184,ω 186,ω 188,ω 190,ω 192,ω 194,ω 196,ω 198,ω 200,ω 202,ω 204,ω 206,ω 208,ω 210,ω 212,ω 214,ω 155,ω 163,ω 171,ω 216,ω 218,ω 220,ω 222,ω 224,ω 226,ω 228,ω 230,ω 232]
noncomputable def iE7:List Nat:=[0,7,8,3,5,6,9,44,10,11,12,13,2,14,45,15,16,17,18,19,20,46,47,21,22,23,24,25,26,48,27,28,29,30,31,32,33,34,35,36,37,38,39,40,41,42,43,49,68,73,78,80]
theorem rE7 (w:World) (L:Lt) (f:Fm) (p:Pos) (ω:Nat→Nat) (sz tk:Nat):
  RunIs (sim (VW w (icE w) (mkSt f 0 [0,1,0,2])) 1493 ω hE7 (denQ (ctE.code w (up L))) (ctE.code w (up L)) p [] (sz+10) tk (ctE.ents w (up L)).length (treeOf (ctE.ents w (up L))) [] [])
   (.ok (resE (rd (yE7 sz tk ω)))) iE7 ([entE (up L)]++newsE w (up L) (bitsP [true,true,true,false]) (rd (yE7 sz tk ω)))
   (dsE L (bitsP [true,true,true,false])):=⟨by kernel_rfl⟩
noncomputable def hE8:NL:=g321 (g65 (76::78::78::78::1::0::78::79::79::0::79::79::79::78::g240 (78::g240 (78::79::77::81::g57 (41::g202 (84::3::[]))))))
noncomputable def yE8 (sz tk:Nat) (ω:Nat→Nat):List Nat:=[ω 3+15,ω 3+19,ω 3+23,ω 3+32,0,0,0,ω 11+39,ω 11+39,ω 4,ω 6,ω 8,sz+2,ω 10,sz+4,ω 12,sz+5,ω 14,ω 16,ω 18,ω 20,ω 19,ω 22,ω 24,ω 26,ω 28,ω 30,ω 32,ω 34,ω 36,ω 38,ω 40,ω 42,ω 44,ω 46,ω 48,sz+1,tk+43,tk+44,tk+45,tk+46,ω 50,ω 27,ω 52,ω 54,ω 56,ω 58,tk+24,tk+26,tk+4,tk+28,tk+5,tk+30,tk+6,tk+32,tk+7,tk+34,tk+8,tk+36,tk+9,tk+38,tk+10,tk+40,tk+11,tk+42,ω 60,tk+47,ω 62,ω 64,ω 66,ω 11+6,ω 68,ω 11+7,ω 70,ω 11+8,ω 72,ω 74,ω 76,ω 78,ω 80,ω 82,ω 84,ω 35,ω 43,ω 2+3,ω 51,ω 2+4,ω 59,ω 67,ω 75,ω 83,ω 91,ω 99,ω 107,ω 115,ω 123,ω 131,ω 139,ω 86,ω 88,ω 90,ω 92,ω 94,ω 96,ω 98,ω 100,ω 102,ω 104,ω 106,ω 108,ω 110,ω 112,ω 114,ω 116,ω 118,ω 120,ω 122,ω 124,ω 126,ω 128,ω 130,ω 132,ω 134,ω 136,ω 138,ω 140,ω 142,ω 144,ω 146,ω 148,ω 150,ω 152,ω 156,ω 158,ω 147,ω 160,ω 162,ω 164,ω 166,ω 168,ω 170,ω 172,ω 174,ω 176,ω 178,ω 180,ω 182,ω 184,ω 186,ω 188,ω 190,ω 192,ω 194,ω 196,ω 198,ω 200,ω 202,ω 204,ω 206,ω 208,ω 210,ω 212,ω 214,ω 155,ω 163,ω 171,ω 216,ω 218,ω 220,ω 222,ω 224,ω 226,ω 228,ω 230,ω 232]
noncomputable def iE8:List Nat:=[0,7,8,3,5,6,9,44,10,11,12,13,2,14,45,15,16,17,18,19,20,46,47,21,22,23,24,25,26,48,27,28,29,30,31,32,33,34,35,36,37,38,39,40,41,42,43,49,65,69,73,80]
theorem rE8 (w:World) (L:Lt) (f:Fm) (p:Pos) (ω:Nat→Nat) (sz tk:Nat):
  RunIs (sim (VW w (icE w) (mkSt f 0 [0,1,0,2])) 1403 ω hE8 (denQ (ctE.code w (up L))) (ctE.code w (up L)) p [] (sz+10) tk (ctE.ents w (up L)).length (treeOf (ctE.ents w (up L))) [] [])
   (.ok (resE (rd (yE8 sz tk ω)))) iE8 ([entE (up L)]++newsE w (up L) (bitsP [false,false,false,true]) (rd (yE8 sz tk ω)))
   (dsE L (bitsP [false,false,false,true])):=⟨by kernel_rfl⟩
noncomputable def hE9:NL:=g322 (g65 (g285 (g57 (42::g202 (85::3::[])))))
noncomputable def yE9 (sz tk:Nat) (ω:Nat→Nat):List Nat:=[ω 3+20,ω 31+1,ω 31+5,ω 31+14,ω 11+30,0,0,ω 95+19,ω 95+19,ω 4,ω 6,ω 8,sz+2,ω 10,sz+4,ω 12,sz+5,ω 14,ω 16,ω 18,ω 20,ω 19,ω 22,ω 24,ω 26,ω 28,ω 30,ω 32,ω 34,ω 36,ω 38,ω 40,ω 42,ω 44,ω 46,ω 48,sz+1,tk+43,tk+44,tk+45,tk+46,ω 50,ω 27,ω 52,ω 54,ω 56,ω 58,tk+24,tk+26,tk+4,tk+28,tk+5,tk+30,tk+6,tk+32,tk+7,tk+34,tk+8,tk+36,tk+9,tk+38,tk+10,tk+40,tk+11,tk+42,ω 60,tk+47,ω 62,ω 64,ω 66,ω 11+6,ω 68,ω 11+7,ω 70,ω 11+8,ω 72,ω 74,ω 76,ω 78,ω 80,ω 82,ω 84,ω 35,ω 43,ω 2+3,ω 51,ω 2+4,ω 59,ω 67,ω 75,ω 83,ω 91,ω 99,ω 107,ω 115,ω 123,ω 131,ω 139,ω 86,ω 88,ω 90,ω 92,ω 94,ω 96,ω 98,ω 100,ω 102,ω 104,ω 106,ω 108,ω 110,ω 112,ω 114,ω 116,ω 118,ω 120,ω 122,ω 124,ω 126,ω 128,ω 130,ω 132,ω 134,ω 136,ω 138,ω 140,ω 142,ω 144,ω 146,ω 148,ω 150,ω 152,ω 156,ω 158,ω 147,ω 160,ω 162,ω 164,ω 166,ω 168,ω 170,ω 172,ω 174,ω 176,ω 178,ω 180,ω 182,ω 184,ω 186,ω 188,ω 190,ω 192,ω 194,ω 196,ω 198,ω 200,ω 202,ω 204,ω 206,ω 208,ω 210,ω 212,ω 214,ω 155,ω 163,ω 171,ω 216,ω 218,ω 220,ω 222,ω 224,ω 226,ω 228,ω 230,ω 232]
noncomputable def iE9:List Nat:=[0,7,8,3,5,6,9,44,10,11,12,13,2,14,45,15,16,17,18,19,20,46,47,21,22,23,24,25,26,48,27,28,29,30,31,32,33,34,35,36,37,38,39,40,41,42,43,49,68,70,74,81]
theorem rE9 (w:World) (L:Lt) (f:Fm) (p:Pos) (ω:Nat→Nat) (sz tk:Nat):
  RunIs (sim (VW w (icE w) (mkSt f 0 [0,1,0,2])) 1448 ω hE9 (denQ (ctE.code w (up L))) (ctE.code w (up L)) p [] (sz+10) tk (ctE.ents w (up L)).length (treeOf (ctE.ents w (up L))) [] [])
   (.ok (resE (rd (yE9 sz tk ω)))) iE9 ([entE (up L)]++newsE w (up L) (bitsP [true,false,false,true]) (rd (yE9 sz tk ω)))
   (dsE L (bitsP [true,false,false,true])):=⟨by kernel_rfl⟩
noncomputable def hE10:NL:=g323 (g65 (g285 (g57 (43::g202 (85::3::[])))))
noncomputable def yE10 (sz tk:Nat) (ω:Nat→Nat):List Nat:=[ω 3+15,ω 3+24,ω 127+1,ω 127+10,0,ω 11+33,0,ω 383+16,ω 383+16,ω 4,ω 6,ω 8,sz+2,ω 10,sz+4,ω 12,sz+5,ω 14,ω 16,ω 18,ω 20,ω 19,ω 22,ω 24,ω 26,ω 28,ω 30,ω 32,ω 34,ω 36,ω 38,ω 40,ω 42,ω 44,ω 46,ω 48,sz+1,tk+43,tk+44,tk+45,tk+46,ω 50,ω 27,ω 52,ω 54,ω 56,ω 58,tk+24,tk+26,tk+4,tk+28,tk+5,tk+30,tk+6,tk+32,tk+7,tk+34,tk+8,tk+36,tk+9,tk+38,tk+10,tk+40,tk+11,tk+42,ω 60,tk+47,ω 62,ω 64,ω 66,ω 11+6,ω 68,ω 11+7,ω 70,ω 11+8,ω 72,ω 74,ω 76,ω 78,ω 80,ω 82,ω 84,ω 35,ω 43,ω 2+3,ω 51,ω 2+4,ω 59,ω 67,ω 75,ω 83,ω 91,ω 99,ω 107,ω 115,ω 123,ω 131,ω 139,ω 86,ω 88,ω 90,ω 92,ω 94,ω 96,ω 98,ω 100,ω 102,ω 104,ω 106,ω 108,ω 110,ω 112,ω 114,ω 116,ω 118,ω 120,ω 122,ω 124,ω 126,ω 128,ω 130,ω 132,ω 134,ω 136,ω 138,ω 140,ω 142,ω 144,ω 146,ω 148,ω 150,ω 152,ω 156,ω 158,ω 147,ω 160,ω 162,ω 164,ω 166,ω 168,ω 170,ω 172,ω 174,ω 176,ω 178,ω 180,ω 182,ω 184,ω 186,ω 188,ω 190,ω 192,ω 194,ω 196,ω 198,ω 200,ω 202,ω 204,ω 206,ω 208,ω 210,ω 212,ω 214,ω 155,ω 163,ω 171,ω 216,ω 218,ω 220,ω 222,ω 224,ω 226,ω 228,ω 230,ω 232]
noncomputable def iE10:List Nat:=[0,7,8,3,5,6,9,44,10,11,12,13,2,14,45,15,16,17,18,19,20,46,47,21,22,23,24,25,26,48,27,28,29,30,31,32,33,34,35,36,37,38,39,40,41,42,43,49,65,72,74,81]
theorem rE10 (w:World) (L:Lt) (f:Fm) (p:Pos) (ω:Nat→Nat) (sz tk:Nat):
  RunIs (sim (VW w (icE w) (mkSt f 0 [0,1,0,2])) 1448 ω hE10 (denQ (ctE.code w (up L))) (ctE.code w (up L)) p [] (sz+10) tk (ctE.ents w (up L)).length (treeOf (ctE.ents w (up L))) [] [])
   (.ok (resE (rd (yE10 sz tk ω)))) iE10 ([entE (up L)]++newsE w (up L) (bitsP [false,true,false,true]) (rd (yE10 sz tk ω)))
   (dsE L (bitsP [false,true,false,true])):=⟨by kernel_rfl⟩
noncomputable def hE11:NL:=g324 (g65 (g286 (g57 (44::g202 (86::3::[])))))
noncomputable def yE11 (sz tk:Nat) (ω:Nat→Nat):List Nat:=[ω 3+20,ω 31+6,ω 255+1,ω 255+10,ω 11+30,ω 95+13,0,ω 767+16,ω 767+16,ω 4,ω 6,ω 8,sz+2,ω 10,sz+4,ω 12,sz+5,ω 14,ω 16,ω 18,ω 20,ω 19,ω 22,ω 24,ω 26,ω 28,ω 30,ω 32,ω 34,ω 36,ω 38,ω 40,ω 42,ω 44,ω 46,ω 48,sz+1,tk+43,tk+44,tk+45,tk+46,ω 50,ω 27,ω 52,ω 54,ω 56,ω 58,tk+24,tk+26,tk+4,tk+28,tk+5,tk+30,tk+6,tk+32,tk+7,tk+34,tk+8,tk+36,tk+9,tk+38,tk+10,tk+40,tk+11,tk+42,ω 60,tk+47,ω 62,ω 64,ω 66,ω 11+6,ω 68,ω 11+7,ω 70,ω 11+8,ω 72,ω 74,ω 76,ω 78,ω 80,ω 82,ω 84,ω 35,ω 43,ω 2+3,ω 51,ω 2+4,ω 59,ω 67,ω 75,ω 83,ω 91,ω 99,ω 107,ω 115,ω 123,ω 131,ω 139,ω 86,ω 88,ω 90,ω 92,ω 94,ω 96,ω 98,ω 100,ω 102,ω 104,ω 106,ω 108,ω 110,ω 112,ω 114,ω 116,ω 118,ω 120,ω 122,ω 124,ω 126,ω 128,ω 130,ω 132,ω 134,ω 136,ω 138,ω 140,ω 142,ω 144,ω 146,ω 148,ω 150,ω 152,ω 156,ω 158,ω 147,ω 160,ω 162,ω 164,ω 166,ω 168,ω 170,ω 172,ω 174,ω 176,ω 178,ω 180,ω 182,ω 184,ω 186,ω 188,ω 190,ω 192,ω 194,ω 196,ω 198,ω 200,ω 202,ω 204,ω 206,ω 208,ω 210,ω 212,ω 214,ω 155,ω 163,ω 171,ω 216,ω 218,ω 220,ω 222,ω 224,ω 226,ω 228,ω 230,ω 232]
noncomputable def iE11:List Nat:=[0,7,8,3,5,6,9,44,10,11,12,13,2,14,45,15,16,17,18,19,20,46,47,21,22,23,24,25,26,48,27,28,29,30,31,32,33,34,35,36,37,38,39,40,41,42,43,49,68,73,75,82]
theorem rE11 (w:World) (L:Lt) (f:Fm) (p:Pos) (ω:Nat→Nat) (sz tk:Nat):
  RunIs (sim (VW w (icE w) (mkSt f 0 [0,1,0,2])) 1493 ω hE11 (denQ (ctE.code w (up L))) (ctE.code w (up L)) p [] (sz+10) tk (ctE.ents w (up L)).length (treeOf (ctE.ents w (up L))) [] [])
   (.ok (resE (rd (yE11 sz tk ω)))) iE11 ([entE (up L)]++newsE w (up L) (bitsP [true,true,false,true]) (rd (yE11 sz tk ω)))
   (dsE L (bitsP [true,true,false,true])):=⟨by kernel_rfl⟩
noncomputable def hE12:NL:=g321 (g57 (37::g68 (g285 (g57 (45::g202 (85::3::[]))))))
noncomputable def yE12 (sz tk:Nat) (ω:Nat→Nat):List Nat:=[ω 3+15,ω 3+19,ω 3+28,ω 511+6,0,0,ω 11+36,ω 1535+13,ω 1535+13,ω 4,ω 6,ω 8,sz+2,ω 10,sz+4,ω 12,sz+5,ω 14,ω 16,ω 18,ω 20,ω 19,ω 22,ω 24,ω 26,ω 28,ω 30,ω 32,ω 34,ω 36,ω 38,ω 40,ω 42,ω 44,ω 46,ω 48,sz+1,tk+43,tk+44,tk+45,tk+46,ω 50,ω 27,ω 52,ω 54,ω 56,ω 58,tk+24,tk+26,tk+4,tk+28,tk+5,tk+30,tk+6,tk+32,tk+7,tk+34,tk+8,tk+36,tk+9,tk+38,tk+10,tk+40,tk+11,tk+42,ω 60,tk+47,ω 62,ω 64,ω 66,ω 11+6,ω 68,ω 11+7,ω 70,ω 11+8,ω 72,ω 74,ω 76,ω 78,ω 80,ω 82,ω 84,ω 35,ω 43,ω 2+3,ω 51,ω 2+4,ω 59,ω 67,ω 75,ω 83,ω 91,ω 99,ω 107,ω 115,ω 123,ω 131,ω 139,ω 86,ω 88,ω 90,ω 92,ω 94,ω 96,ω 98,ω 100,ω 102,ω 104,ω 106,ω 108,ω 110,ω 112,ω 114,ω 116,ω 118,ω 120,ω 122,ω 124,ω 126,ω 128,ω 130,ω 132,ω 134,ω 136,ω 138,ω 140,ω 142,ω 144,ω 146,ω 148,ω 150,ω 152,ω 156,ω 158,ω 147,ω 160,ω 162,ω 164,ω 166,ω 168,ω 170,ω 172,ω 174,ω 176,ω 178,ω 180,ω 182,ω 184,ω 186,ω 188,ω 190,ω 192,ω 194,ω 196,ω 198,ω 200,ω 202,ω 204,ω 206,ω 208,ω 210,ω 212,ω 214,ω 155,ω 163,ω 171,ω 216,ω 218,ω 220,ω 222,ω 224,ω 226,ω 228,ω 230,ω 232]
noncomputable def iE12:List Nat:=[0,7,8,3,5,6,9,44,10,11,12,13,2,14,45,15,16,17,18,19,20,46,47,21,22,23,24,25,26,48,27,28,29,30,31,32,33,34,35,36,37,38,39,40,41,42,43,49,65,69,76,81]
theorem rE12 (w:World) (L:Lt) (f:Fm) (p:Pos) (ω:Nat→Nat) (sz tk:Nat):
  RunIs (sim (VW w (icE w) (mkSt f 0 [0,1,0,2])) 1448 ω hE12 (denQ (ctE.code w (up L))) (ctE.code w (up L)) p [] (sz+10) tk (ctE.ents w (up L)).length (treeOf (ctE.ents w (up L))) [] [])
   (.ok (resE (rd (yE12 sz tk ω)))) iE12 ([entE (up L)]++newsE w (up L) (bitsP [false,false,true,true]) (rd (yE12 sz tk ω)))
   (dsE L (bitsP [false,false,true,true])):=⟨by kernel_rfl⟩
noncomputable def hE13:NL:=g322 (g57 (38::g68 (g286 (g57 (46::g202 (86::3::[]))))))
noncomputable def yE13 (sz tk:Nat) (ω:Nat→Nat):List Nat:=[ω 3+20,ω 31+1,ω 31+10,ω 1023+6,ω 11+30,0,ω 95+16,ω 3071+13,ω 3071+13,ω 4,ω 6,ω 8,sz+2,ω 10,sz+4,ω 12,sz+5,ω 14,ω 16,ω 18,ω 20,ω 19,ω 22,ω 24,ω 26,ω 28,ω 30,ω 32,ω 34,ω 36,ω 38,ω 40,ω 42,ω 44,ω 46,ω 48,sz+1,tk+43,tk+44,tk+45,tk+46,ω 50,ω 27,ω 52,ω 54,ω 56,ω 58,tk+24,tk+26,tk+4,tk+28,tk+5,tk+30,tk+6,tk+32,tk+7,tk+34,tk+8,tk+36,tk+9,tk+38,tk+10,tk+40,tk+11,tk+42,ω 60,tk+47,ω 62,ω 64,ω 66,ω 11+6,ω 68,ω 11+7,ω 70,ω 11+8,ω 72,ω 74,ω 76,ω 78,ω 80,ω 82,ω 84,ω 35,ω 43,ω 2+3,ω 51,ω 2+4,ω 59,ω 67,ω 75,ω 83,ω 91,ω 99,ω 107,ω 115,ω 123,ω 131,ω 139,ω 86,ω 88,ω 90,ω 92,ω 94,ω 96,ω 98,ω 100,ω 102,ω 104,ω 106,ω 108,ω 110,ω 112,ω 114,ω 116,ω 118,ω 120,ω 122,ω 124,ω 126,ω 128,ω 130,ω 132,ω 134,ω 136,ω 138,ω 140,ω 142,ω 144,ω 146,ω 148,ω 150,ω 152,ω 156,ω 158,ω 147,ω 160,ω 162,ω 164,ω 166,ω 168,ω 170,ω 172,ω 174,ω 176,ω 178,ω 180,ω 182,ω 184,ω 186,ω 188,ω 190,ω 192,ω 194,ω 196,ω 198,ω 200,ω 202,ω 204,ω 206,ω 208,ω 210,ω 212,ω 214,ω 155,ω 163,ω 171,ω 216,ω 218,ω 220,ω 222,ω 224,ω 226,ω 228,ω 230,ω 232]
noncomputable def iE13:List Nat:=[0,7,8,3,5,6,9,44,10,11,12,13,2,14,45,15,16,17,18,19,20,46,47,21,22,23,24,25,26,48,27,28,29,30,31,32,33,34,35,36,37,38,39,40,41,42,43,49,68,70,77,82]
theorem rE13 (w:World) (L:Lt) (f:Fm) (p:Pos) (ω:Nat→Nat) (sz tk:Nat):
  RunIs (sim (VW w (icE w) (mkSt f 0 [0,1,0,2])) 1493 ω hE13 (denQ (ctE.code w (up L))) (ctE.code w (up L)) p [] (sz+10) tk (ctE.ents w (up L)).length (treeOf (ctE.ents w (up L))) [] [])
   (.ok (resE (rd (yE13 sz tk ω)))) iE13 ([entE (up L)]++newsE w (up L) (bitsP [true,false,true,true]) (rd (yE13 sz tk ω)))
   (dsE L (bitsP [true,false,true,true])):=⟨by kernel_rfl⟩
noncomputable def hE14:NL:=g323 (g57 (39::g68 (g286 (g57 (47::g202 (86::3::[]))))))
noncomputable def yE14 (sz tk:Nat) (ω:Nat→Nat):List Nat:=[ω 3+15,ω 3+24,ω 127+6,ω 1023+6,0,ω 11+33,ω 383+13,ω 3071+13,ω 3071+13,ω 4,ω 6,ω 8,sz+2,ω 10,sz+4,ω 12,sz+5,ω 14,ω 16,ω 18,ω 20,ω 19,ω 22,ω 24,ω 26,ω 28,ω 30,ω 32,ω 34,ω 36,ω 38,ω 40,ω 42,ω 44,ω 46,ω 48,sz+1,tk+43,tk+44,tk+45,tk+46,ω 50,ω 27,ω 52,ω 54,ω 56,ω 58,tk+24,tk+26,tk+4,tk+28,tk+5,tk+30,tk+6,tk+32,tk+7,tk+34,tk+8,tk+36,tk+9,tk+38,tk+10,tk+40,tk+11,tk+42,ω 60,tk+47,ω 62,ω 64,ω 66,ω 11+6,ω 68,ω 11+7,ω 70,ω 11+8,ω 72,ω 74,ω 76,ω 78,ω 80,ω 82,ω 84,ω 35,ω 43,ω 2+3,ω 51,ω 2+4,ω 59,ω 67,ω 75,ω 83,ω 91,ω 99,ω 107,ω 115,ω 123,ω 131,ω 139,ω 86,ω 88,ω 90,ω 92,ω 94,ω 96,ω 98,ω 100,ω 102,ω 104,ω 106,ω 108,ω 110,ω 112,ω 114,ω 116,ω 118,ω 120,ω 122,ω 124,ω 126,ω 128,ω 130,ω 132,ω 134,ω 136,ω 138,ω 140,ω 142,ω 144,ω 146,ω 148,ω 150,ω 152,ω 156,ω 158,ω 147,ω 160,ω 162,ω 164,ω 166,ω 168,ω 170,ω 172,ω 174,ω 176,ω 178,ω 180,ω 182,ω 184,ω 186,ω 188,ω 190,ω 192,ω 194,ω 196,ω 198,ω 200,ω 202,ω 204,ω 206,ω 208,ω 210,ω 212,ω 214,ω 155,ω 163,ω 171,ω 216,ω 218,ω 220,ω 222,ω 224,ω 226,ω 228,ω 230,ω 232]
noncomputable def iE14:List Nat:=[0,7,8,3,5,6,9,44,10,11,12,13,2,14,45,15,16,17,18,19,20,46,47,21,22,23,24,25,26,48,27,28,29,30,31,32,33,34,35,36,37,38,39,40,41,42,43,49,65,72,77,82]
theorem rE14 (w:World) (L:Lt) (f:Fm) (p:Pos) (ω:Nat→Nat) (sz tk:Nat):
  RunIs (sim (VW w (icE w) (mkSt f 0 [0,1,0,2])) 1493 ω hE14 (denQ (ctE.code w (up L))) (ctE.code w (up L)) p [] (sz+10) tk (ctE.ents w (up L)).length (treeOf (ctE.ents w (up L))) [] [])
   (.ok (resE (rd (yE14 sz tk ω)))) iE14 ([entE (up L)]++newsE w (up L) (bitsP [false,true,true,true]) (rd (yE14 sz tk ω)))
   (dsE L (bitsP [false,true,true,true])):=⟨by kernel_rfl⟩
noncomputable def hE15:NL:=g324 (g57 (40::g68 (79::81::81::81::1::0::81::82::82::0::82::82::82::g325 (g325 (81::82::80::84::g57 (48::g202 (87::3::[])))))))
noncomputable def yE15 (sz tk:Nat) (ω:Nat→Nat):List Nat:=[ω 3+20,ω 31+6,ω 255+6,ω 2047+6,ω 11+30,ω 95+13,ω 767+13,ω 6143+13,ω 6143+13,ω 4,ω 6,ω 8,sz+2,ω 10,sz+4,ω 12,sz+5,ω 14,ω 16,ω 18,ω 20,ω 19,ω 22,ω 24,ω 26,ω 28,ω 30,ω 32,ω 34,ω 36,ω 38,ω 40,ω 42,ω 44,ω 46,ω 48,sz+1,tk+43,tk+44,tk+45,tk+46,ω 50,ω 27,ω 52,ω 54,ω 56,ω 58,tk+24,tk+26,tk+4,tk+28,tk+5,tk+30,tk+6,tk+32,tk+7,tk+34,tk+8,tk+36,tk+9,tk+38,tk+10,tk+40,tk+11,tk+42,ω 60,tk+47,ω 62,ω 64,ω 66,ω 11+6,ω 68,ω 11+7,ω 70,ω 11+8,ω 72,ω 74,ω 76,ω 78,ω 80,ω 82,ω 84,ω 35,ω 43,ω 2+3,ω 51,ω 2+4,ω 59,ω 67,ω 75,ω 83,ω 91,ω 99,ω 107,ω 115,ω 123,ω 131,ω 139,ω 86,ω 88,ω 90,ω 92,ω 94,ω 96,ω 98,ω 100,ω 102,ω 104,ω 106,ω 108,ω 110,ω 112,ω 114,ω 116,ω 118,ω 120,ω 122,ω 124,ω 126,ω 128,ω 130,ω 132,ω 134,ω 136,ω 138,ω 140,ω 142,ω 144,ω 146,ω 148,ω 150,ω 152,ω 156,ω 158,ω 147,ω 160,ω 162,ω 164,ω 166,ω 168,ω 170,ω 172,ω 174,ω 176,ω 178,ω 180,ω 182,ω 184,ω 186,ω 188,ω 190,ω 192,ω 194,ω 196,ω 198,ω 200,ω 202,ω 204,ω 206,ω 208,ω 210,ω 212,ω 214,ω 155,ω 163,ω 171,ω 216,ω 218,ω 220,ω 222,ω 224,ω 226,ω 228,ω 230,ω 232]
noncomputable def iE15:List Nat:=[0,7,8,3,5,6,9,44,10,11,12,13,2,14,45,15,16,17,18,19,20,46,47,21,22,23,24,25,26,48,27,28,29,30,31,32,33,34,35,36,37,38,39,40,41,42,43,49,68,73,78,83]
theorem rE15 (w:World) (L:Lt) (f:Fm) (p:Pos) (ω:Nat→Nat) (sz tk:Nat):
  RunIs (sim (VW w (icE w) (mkSt f 0 [0,1,0,2])) 1538 ω hE15 (denQ (ctE.code w (up L))) (ctE.code w (up L)) p [] (sz+10) tk (ctE.ents w (up L)).length (treeOf (ctE.ents w (up L))) [] [])
   (.ok (resE (rd (yE15 sz tk ω)))) iE15 ([entE (up L)]++newsE w (up L) (bitsP [true,true,true,true]) (rd (yE15 sz tk ω)))
   (dsE L (bitsP [true,true,true,true])):=⟨by kernel_rfl⟩
theorem okE (w:World):Ct2Ok w ctE:=ct2_okc (own:=icE w) (ks:=[0,1,0,2]) rfl icE_own (fun _ _=>rfl) (fun _ _=>rfl) (fun _=>rfl) fun L _=>by
  have hds:=dsE_ok L
  have e:∀bl,patI L.I = bitsP bl→patI (up L).I = bitsP bl:=fun _ h=>h
  cases h1:decide (L.I 1 > 0) <;> cases h2:decide (L.I 2 > 0) <;> cases h3:decide (L.I 3 > 0) <;> cases h4:decide (L.I 4 > 0)
  · have hp:patI L.I = bitsP [false,false,false,false]:=by unfold patI;rw [h1,h2,h3,h4]
    rw [hp] at hds
    exact ⟨1358,hE0,iE0,yE0,fun _ _ _=>dsE L (bitsP [false,false,false,false]),rfl,fun _ _ _=>hds,fun f p ω sz tk=>by
      show RunIs _ _ _ ([entE (up L)]++newsE w (up L) (patI L.I) _) _
      rw [hp]
      exact rE0 w L f p ω sz tk⟩
  · have hp:patI L.I = bitsP [false,false,false,true]:=by unfold patI;rw [h1,h2,h3,h4]
    rw [hp] at hds
    exact ⟨1403,hE8,iE8,yE8,fun _ _ _=>dsE L (bitsP [false,false,false,true]),rfl,fun _ _ _=>hds,fun f p ω sz tk=>by
      show RunIs _ _ _ ([entE (up L)]++newsE w (up L) (patI L.I) _) _
      rw [hp]
      exact rE8 w L f p ω sz tk⟩
  · have hp:patI L.I = bitsP [false,false,true,false]:=by unfold patI;rw [h1,h2,h3,h4]
    rw [hp] at hds
    exact ⟨1403,hE4,iE4,yE4,fun _ _ _=>dsE L (bitsP [false,false,true,false]),rfl,fun _ _ _=>hds,fun f p ω sz tk=>by
      show RunIs _ _ _ ([entE (up L)]++newsE w (up L) (patI L.I) _) _
      rw [hp]
      exact rE4 w L f p ω sz tk⟩
  · have hp:patI L.I = bitsP [false,false,true,true]:=by unfold patI;rw [h1,h2,h3,h4]
    rw [hp] at hds
    exact ⟨1448,hE12,iE12,yE12,fun _ _ _=>dsE L (bitsP [false,false,true,true]),rfl,fun _ _ _=>hds,fun f p ω sz tk=>by
      show RunIs _ _ _ ([entE (up L)]++newsE w (up L) (patI L.I) _) _
      rw [hp]
      exact rE12 w L f p ω sz tk⟩
  · have hp:patI L.I = bitsP [false,true,false,false]:=by unfold patI;rw [h1,h2,h3,h4]
    rw [hp] at hds
    exact ⟨1403,hE2,iE2,yE2,fun _ _ _=>dsE L (bitsP [false,true,false,false]),rfl,fun _ _ _=>hds,fun f p ω sz tk=>by
      show RunIs _ _ _ ([entE (up L)]++newsE w (up L) (patI L.I) _) _
      rw [hp]
      exact rE2 w L f p ω sz tk⟩
  · have hp:patI L.I = bitsP [false,true,false,true]:=by unfold patI;rw [h1,h2,h3,h4]
    rw [hp] at hds
    exact ⟨1448,hE10,iE10,yE10,fun _ _ _=>dsE L (bitsP [false,true,false,true]),rfl,fun _ _ _=>hds,fun f p ω sz tk=>by
      show RunIs _ _ _ ([entE (up L)]++newsE w (up L) (patI L.I) _) _
      rw [hp]
      exact rE10 w L f p ω sz tk⟩
  · have hp:patI L.I = bitsP [false,true,true,false]:=by unfold patI;rw [h1,h2,h3,h4]
    rw [hp] at hds
    exact ⟨1448,hE6,iE6,yE6,fun _ _ _=>dsE L (bitsP [false,true,true,false]),rfl,fun _ _ _=>hds,fun f p ω sz tk=>by
      show RunIs _ _ _ ([entE (up L)]++newsE w (up L) (patI L.I) _) _
      rw [hp]
      exact rE6 w L f p ω sz tk⟩
  · have hp:patI L.I = bitsP [false,true,true,true]:=by unfold patI;rw [h1,h2,h3,h4]
    rw [hp] at hds
    exact ⟨1493,hE14,iE14,yE14,fun _ _ _=>dsE L (bitsP [false,true,true,true]),rfl,fun _ _ _=>hds,fun f p ω sz tk=>by
      show RunIs _ _ _ ([entE (up L)]++newsE w (up L) (patI L.I) _) _
      rw [hp]
      exact rE14 w L f p ω sz tk⟩
  · have hp:patI L.I = bitsP [true,false,false,false]:=by unfold patI;rw [h1,h2,h3,h4]
    rw [hp] at hds
    exact ⟨1403,hE1,iE1,yE1,fun _ _ _=>dsE L (bitsP [true,false,false,false]),rfl,fun _ _ _=>hds,fun f p ω sz tk=>by
      show RunIs _ _ _ ([entE (up L)]++newsE w (up L) (patI L.I) _) _
      rw [hp]
      exact rE1 w L f p ω sz tk⟩
  · have hp:patI L.I = bitsP [true,false,false,true]:=by unfold patI;rw [h1,h2,h3,h4]
    rw [hp] at hds
    exact ⟨1448,hE9,iE9,yE9,fun _ _ _=>dsE L (bitsP [true,false,false,true]),rfl,fun _ _ _=>hds,fun f p ω sz tk=>by
      show RunIs _ _ _ ([entE (up L)]++newsE w (up L) (patI L.I) _) _
      rw [hp]
      exact rE9 w L f p ω sz tk⟩
  · have hp:patI L.I = bitsP [true,false,true,false]:=by unfold patI;rw [h1,h2,h3,h4]
    rw [hp] at hds
    exact ⟨1448,hE5,iE5,yE5,fun _ _ _=>dsE L (bitsP [true,false,true,false]),rfl,fun _ _ _=>hds,fun f p ω sz tk=>by
      show RunIs _ _ _ ([entE (up L)]++newsE w (up L) (patI L.I) _) _
      rw [hp]
      exact rE5 w L f p ω sz tk⟩
  · have hp:patI L.I = bitsP [true,false,true,true]:=by unfold patI;rw [h1,h2,h3,h4]
    rw [hp] at hds
    exact ⟨1493,hE13,iE13,yE13,fun _ _ _=>dsE L (bitsP [true,false,true,true]),rfl,fun _ _ _=>hds,fun f p ω sz tk=>by
      show RunIs _ _ _ ([entE (up L)]++newsE w (up L) (patI L.I) _) _
      rw [hp]
      exact rE13 w L f p ω sz tk⟩
  · have hp:patI L.I = bitsP [true,true,false,false]:=by unfold patI;rw [h1,h2,h3,h4]
    rw [hp] at hds
    exact ⟨1448,hE3,iE3,yE3,fun _ _ _=>dsE L (bitsP [true,true,false,false]),rfl,fun _ _ _=>hds,fun f p ω sz tk=>by
      show RunIs _ _ _ ([entE (up L)]++newsE w (up L) (patI L.I) _) _
      rw [hp]
      exact rE3 w L f p ω sz tk⟩
  · have hp:patI L.I = bitsP [true,true,false,true]:=by unfold patI;rw [h1,h2,h3,h4]
    rw [hp] at hds
    exact ⟨1493,hE11,iE11,yE11,fun _ _ _=>dsE L (bitsP [true,true,false,true]),rfl,fun _ _ _=>hds,fun f p ω sz tk=>by
      show RunIs _ _ _ ([entE (up L)]++newsE w (up L) (patI L.I) _) _
      rw [hp]
      exact rE11 w L f p ω sz tk⟩
  · have hp:patI L.I = bitsP [true,true,true,false]:=by unfold patI;rw [h1,h2,h3,h4]
    rw [hp] at hds
    exact ⟨1493,hE7,iE7,yE7,fun _ _ _=>dsE L (bitsP [true,true,true,false]),rfl,fun _ _ _=>hds,fun f p ω sz tk=>by
      show RunIs _ _ _ ([entE (up L)]++newsE w (up L) (patI L.I) _) _
      rw [hp]
      exact rE7 w L f p ω sz tk⟩
  · have hp:patI L.I = bitsP [true,true,true,true]:=by unfold patI;rw [h1,h2,h3,h4]
    rw [hp] at hds
    exact ⟨1538,hE15,iE15,yE15,fun _ _ _=>dsE L (bitsP [true,true,true,true]),rfl,fun _ _ _=>hds,fun f p ω sz tk=>by
      show RunIs _ _ _ ([entE (up L)]++newsE w (up L) (patI L.I) _) _
      rw [hp]
      exact rE15 w L f p ω sz tk⟩
end
end Mine
namespace Mine
noncomputable section
open PySem PySem.W PyProof.Rows
noncomputable def nListHas:Nat:=32795317678217157189674408721764467370605
noncomputable def nTupHas:Nat:=8395601325623592240556648632771639105386101
noncomputable def eqV (b:Str) (y:Value):Bool:=match y with
  | .str a _=>eqS a b
  | _=>false
noncomputable def isS (y:Value):Bool:=match y with
  | .str _ _=>true
  | _=>false
noncomputable def icListHas:Icpt:=fun _ _ c hs sz tk m T=>match c with
  | .call (.builtin id) ⟨[.ref l,.str x t],[]⟩=>match Nat.beq (PySem.code id) nListHas with
    | true=>match hs with
      | i ::hs=>match T.get i with
        | some e=>match e.2.data with
          | .seq items n=>some ⟨.ok (.ret (.bool (items.toList.any (eqV x)))),hs,sz,tk,m,T,[(.n l,.n e.1),(.o e.2,.o ⟨.type "list",none,.seq items n,#[]⟩)],[items.toList.all isS]⟩
          | _=>none
        | none=>none
      | []=>none
    | false=>none
  | _=>none
noncomputable def icTupHas:Icpt:=fun _ _ c hs sz tk m T=>match c with
  | .call (.builtin id) ⟨[.ref l,.str x t],[]⟩=>match Nat.beq (PySem.code id) nTupHas with
    | true=>match hs with
      | i ::hs=>match T.get i with
        | some e=>match e.2.data with
          | .seq items n=>some ⟨.ok (.ret (.bool (items.toList.any (eqV x)))),hs,sz,tk,m,T,[(.n l,.n e.1),(.o e.2,.o ⟨.type "tuple",none,.seq items n,#[]⟩)],[items.toList.all isS]⟩
          | _=>none
        | none=>none
      | []=>none
    | false=>none
  | _=>none
theorem eqV_gives {x:Str} {t:Tok} {y:Value} (h:isS y = true):MeetsSeq.EqGives y (.str x t) (eqV x y):=by
  unfold isS at h
  split at h
  · rename_i a u
    intro prog w A E s Q hq
    refine wpAny_eqBool_str ?_
    have e:decide (a = x) = eqS a x:=by
      cases q:eqS a x with
      | true=>exact decide_eq_true (eqS_is.mp q)
      | false=>exact decide_eq_false fun e=>by rw [eqS_is.mpr e] at q;cases q
    rw [e]
    exact hq
  · cases h
noncomputable def strsL:List Value→List Str
  | .str a _::r=>a::strsL r
  | _=>[]
theorem strsL_are:∀{l:List Value} {x:Str},l.all isS = true→StrsAre l (strsL l)∧(strsL l).any (· == x) = l.any (eqV x)
  | [],_,_=>⟨.nil,rfl⟩
  | v ::r,x,h=>by
    rw [List.all_cons,Bool.and_eq_true] at h
    obtain ⟨h1,h2⟩:=h
    unfold isS at h1
    split at h1
    · rename_i a u
      obtain ⟨i1,i2⟩:=strsL_are (x:=x) h2
      refine ⟨.cons a u i1,?_⟩
      show ((a == x) || (strsL r).any (· == x)) = (eqS a x || r.any (eqV x))
      rw [i2]
      congr 1
      cases q:eqS a x with
      | true=>rw [eqS_is.mp q];exact beq_self_eq_true x
      | false=>exact beq_eq_false_iff_ne.mpr fun e=>by rw [eqS_is.mpr e] at q;cases q
    · cases h1
section
variable {V:Vw} {prog:Program} {w:World} {b:Bs}
theorem icListHas_ok:IcOk V (model prog w) b icListHas:=by
  intro Γ c hs sz tk m T p s R κ _ _ _ r H
  obtain ⟨y,e,hob,hd,hR⟩:=H fun _=>0
  unfold icListHas at e
  split at e <;> try cases e
  rename_i id l x t
  split at e <;> try cases e
  rename_i hid
  have hid':id = "list.__contains__":=PySem.code_inj _ _ ((Nat.eq_of_beq_eq_true hid).trans (by decide+kernel))
  subst hid'
  split at e <;> try cases e
  rename_i i hs'
  split at e <;> try cases e
  rename_i e1 hT
  split at e <;> try cases e
  rename_i items n hdata
  have o1:=hob _ (.head _)
  have o2:=hob _ (.tail _ (.head _))
  have q1:l = e1.1:=by injection o1
  have q2:e1.2 = ⟨.type "list",none,.seq items n,#[]⟩:=by injection o2
  have hall:items.toList.all isS = true:=hd _ (.head _)
  have hl:s.heap.get? l = some {cls:= .type "list",dict:=none,data:= .seq items n,slots:=#[]}:=by rw [q1,←q2];exact (r.own i e1.1 e1.2 hT).2.1
  refine ic_call (call_meets F.slot_list_contains (Heap.IsList.typeIs ⟨_,hl,rfl,n,rfl⟩) F.entry_list_contains (F.args_list_contains_2 _ _) (MeetsSeq.list_contains l items n (.str x t) (eqV x) fun y hy=>eqV_gives ?_) ⟨hl,?_⟩)
  · exact List.all_eq_true.mp hall y (Array.mem_toList_iff.mpr hy)
  · have:items.any (eqV x) = items.toList.any (eqV x):=by rw [Array.any_toList]
    rw [this]
    exact hR s r
theorem icTupHas_ok:IcOk V (model prog w) b icTupHas:=by
  intro Γ c hs sz tk m T p s R κ _ _ _ r H
  obtain ⟨y,e,hob,hd,hR⟩:=H fun _=>0
  unfold icTupHas at e
  split at e <;> try cases e
  rename_i id l x t
  split at e <;> try cases e
  rename_i hid
  have hid':id = "tuple.__contains__":=PySem.code_inj _ _ ((Nat.eq_of_beq_eq_true hid).trans (by decide+kernel))
  subst hid'
  split at e <;> try cases e
  rename_i i hs'
  split at e <;> try cases e
  rename_i e1 hT
  split at e <;> try cases e
  rename_i items n hdata
  have o1:=hob _ (.head _)
  have o2:=hob _ (.tail _ (.head _))
  have q1:l = e1.1:=by injection o1
  have q2:e1.2 = ⟨.type "tuple",none,.seq items n,#[]⟩:=by injection o2
  have hall:items.toList.all isS = true:=hd _ (.head _)
  have hl:s.heap.get? l = some ⟨.type "tuple",none,.seq items n,#[]⟩:=by rw [q1,←q2];exact (r.own i e1.1 e1.2 hT).2.1
  obtain ⟨s1,s2⟩:=strsL_are (x:=x) hall
  refine ic_call (wpAny_call_entry F.slot_tuple_contains ⟨_,hl,rfl⟩ F.entry_tuple_contains (tuple_contains_strs ⟨_,hl,rfl,n,rfl⟩ s1 ?_) (F.args_tuple_contains_2 _ _))
  rw [s2]
  exact ⟨_,rfl,hR s r⟩
end
end
end Mine
namespace Mine
noncomputable section
open PySem PySem.W PyProof.Rows
noncomputable def findS (x:Str):List DictEntry→Option Value
  | []=>none
  | e ::r=>match e.key with
    | .str y _=>match eqS y x with
      | true=>some e.val
      | false=>findS x r
    | _=>findS x r
noncomputable def orV (o:Option Value) (d:Value):Value:=match o with
  | some v=>v
  | none=>d
noncomputable def icGetS:Icpt:=fun _ _ c hs sz tk m T=>match c with
  | .call (.builtin id) ⟨[.ref d,.str x t,dflt],[]⟩=>match Nat.beq (PySem.code id) nDictGet with
    | true=>match hs with
      | i ::hs=>match T.get i with
        | some e=>match e.2.data with
          | .dict es ep=>some ⟨.ok (.ret (orV (findS x es.toList) dflt)),hs,sz,tk+1,m,T,[(.n d,.n e.1),(.o e.2,.o ⟨.type "dict",none,.dict es ep,#[]⟩)],[es.toList.all fun e=>isS e.key,!(Nat.beq d 1)]⟩
          | _=>none
        | none=>none
      | []=>none
    | false=>none
  | _=>none
theorem findS_is {x:Str}:∀{l:List DictEntry},findS x l = (l.find? fun e=>e.key.isStr x).map (·.val)
  | []=>rfl
  | e ::r=>by
    obtain ⟨h,k,v⟩:=e
    unfold findS
    rw [List.find?_cons]
    cases k with
    | str y t=>
      show (match eqS y x with | true=>some v | false=>findS x r) = _
      have e:Value.isStr (.str y t) x = eqS y x:=by
        show (y == x) = eqS y x
        cases q:eqS y x with
        | true=>rw [eqS_is.mp q];exact beq_self_eq_true x
        | false=>exact beq_eq_false_iff_ne.mpr fun e=>by rw [eqS_is.mpr e] at q;cases q
      dsimp only
      rw [e]
      cases eqS y x with
      | true=>rfl
      | false=>exact findS_is
    | _=>exact findS_is
section
variable {V:Vw} {w:World} {b:Bs}
theorem icGetS_ok:IcOk V (MW w) b icGetS:=by
  intro Γ c hs sz tk m T p s R κ _ _ _ r H
  obtain ⟨y,e,hob,hd,hR⟩:=H fun _=>0
  unfold icGetS at e
  split at e <;> try cases e
  rename_i id d x t dflt
  split at e <;> try cases e
  rename_i hid
  have hid':id = "dict.get":=PySem.code_inj _ _ ((Nat.eq_of_beq_eq_true hid).trans (by decide+kernel))
  subst hid'
  split at e <;> try cases e
  rename_i i hs'
  split at e <;> try cases e
  rename_i e1 hT
  split at e <;> try cases e
  rename_i es ep hdata
  have o1:=hob _ (.head _)
  have o2:=hob _ (.tail _ (.head _))
  have q1:d = e1.1:=by injection o1
  have q2:e1.2 = ⟨.type "dict",none,.dict es ep,#[]⟩:=by injection o2
  have hall:(es.toList.all fun e=>isS e.key) = true:=hd _ (.head _)
  have d1:(!(Nat.beq d 1)) = true:=hd _ (.tail _ (.head _))
  have hdm:(d == sysModules) = false:=by
    simp only [Bool.not_eq_true'] at d1
    show (d == 1) = false
    rw [beq_eq_false_iff_ne]
    intro q
    rw [q] at d1
    cases d1
  have ho:s.heap.get? d = some ⟨.type "dict",none,.dict es ep,#[]⟩:=by rw [q1,←q2];exact (r.own i e1.1 e1.2 hT).2.1
  have hex:(es.all fun e=>isExactStrKey e.key) = true:=by
    rw [←Array.all_toList,List.all_eq_true]
    intro e he
    have:=List.all_eq_true.mp hall e he
    unfold isS at this
    unfold isExactStrKey
    split at this
    · rename_i y t h
      rw [h]
    · cases this
  have hq:∀Q:Option Value→Shared→Prop,Q (findS x es.toList) {s with toks:=s.toks+1}→∀(A:Around) (E:Value→Shared→Prop),wpAny (MW w) A (dictGet d (.str x t)) Q E s:=by
    intro Q hQ A E
    unfold dictGet
    try with_reducible refine wpAny_holding ?_
    refine wpAny_bind (wpAny_pyHash_str (wpAny_bind (KTD.kt_dictFind_strs (s:={s with toks:=s.toks+1}) ho rfl hex ?_)))
    rw [findS_is] at hQ
    have hf:findBy (fun k v=>v.isStr k) es x = (es.toList.find? fun e=>e.key.isStr x).map (·.val):=by
      obtain ⟨l⟩:=es
      simp [findBy]
    rw [←hf,findBy_of_findIdx?] at hQ
    cases hi:es.findIdx? fun e=>e.key.isStr x with
    | none=>rw [hi] at hQ;exact wpAny_pure hQ
    | some i=>rw [hi] at hQ;exact wpAny_bind (wpAny_dictEntries (s:={s with toks:=s.toks+1}) ho rfl (wpAny_pure hQ))
  refine ic_call (wpAny_call_entry F.slot_dict_get ⟨_,ho,rfl⟩ F.entry_dict_get ?_ (F.args_dict_get_3 _ _ _))
  show wpAny _ _ (dictGet d (.str x t) >>= _) _ _ s
  refine wpAny_bind (hq _ ?_ _ _)
  have hz:=hR {s with toks:=s.toks+1} ⟨r.size,by show s.toks+1 = tk+1;rw [r.toks],r.gens,r.drawn,r.os,r.own,r.inj,r.keep,r.grow⟩
  cases hf:findS x es.toList with
  | some v=>
    rw [hf] at hz
    exact wpAny_pure ⟨v,rfl,hz⟩
  | none=>
    rw [hf] at hz
    show wpAny _ _ (Builtin.Dict.missed d (.str x t) >>= _) _ _ _
    exact wpAny_bind (wpAny_missed_other hdm (wpAny_pure ⟨dflt,rfl,hz⟩))
end
end
end Mine
namespace Mine
noncomputable section
open PySem PySem.W
noncomputable def icS (w:World) (k:Nat):Icpt:=match k with
  | 0=>icOf2 w ctE
  | 1=>icListHas
  | 2=>icTupHas
  | 3=>icGetS
  | _=>fun _ _ _ _ _ _ _ _=>none
theorem icS_own {w:World}:OwnOk w (icS w):=by
  intro b V j hkt hb hp hw hd
  unfold icS
  split
  · exact icOf2_ok (okE w) hkt hb
  · exact icListHas_ok
  · exact icTupHas_ok
  · exact icGetS_ok
  · exact icNone_ok
end
end Mine
namespace Mine
open PySem PySem.W
noncomputable section
noncomputable def lastOf:List Stmt→Stmt
  | []=> .Pass default
  | [s]=>s
  | _::r=>lastOf r
noncomputable def srComp:PySem.Expr:=match lastOf (stepBody (fS 133)) with
  | .Return (some (.Compare l _ _ _)) _=>l
  | _=> .Constant .none 0 default
noncomputable def srElt:PySem.Expr:=match srComp with | .ListComp e _ _ _=>e | x=>x
noncomputable def srTg:PySem.Expr:=match srComp with | .ListComp _ (g::_) _ _=>g.target | x=>x
noncomputable def srIt:PySem.Expr:=match srComp with | .ListComp _ (g::_) _ _=>g.iter | x=>x
noncomputable def srIfs:List PySem.Expr:=match srComp with | .ListComp _ (g::_) _ _=>g.ifs | _=>[]
noncomputable def srScope:Scope:=match srComp with | .ListComp _ _ s _=>s | _=>default
noncomputable def srPos:Pos:=match srComp with | .ListComp _ _ _ p=>p | _=>default
noncomputable def srScope2:Scope:={srScope with names:=srScope.names.map fun x=>(x.1,match x.2 with | .free=> .cell | k=>k)}
noncomputable def qTcb:Str:=Str.ofString "tcb"
noncomputable def qSR:Str:=q292++Str.ofString ".<locals>."
noncomputable def envC (L:Lt):PySem.Env:={scope:=srScope2,locals:=L.A 2,globals:=3,cells:=[(qTcb,L.A 4)],qual:=qSR,func:=none,code:= .ref 1497,frame:=some (L.A 3),builtins:=0}
noncomputable def accIt (P:Nat→Bool) (I:Nat→Int) (Y:Nat→Nat) (k:Nat):Value:= .int (cond (P k) (I (k+1)) 0) (Y k)
noncomputable def accC (L:Lt) (Y:Nat→Nat):Obj:=(zL 4 [accIt (patI L.I) L.I Y 0,accIt (patI L.I) L.I Y 1,accIt (patI L.I) L.I Y 2,accIt (patI L.I) L.I Y 3])
noncomputable def tupIs (t:Int) (O:Nat→Obj) (k:Nat):Prop:=∃u v,O k = (zT 0 [.int t u,v])
noncomputable def exC (L:Lt):List Ent:=[(L.X 0,⟨.type "dict",none,.dict ⟨dictP (patI L.I) (fun k=>L.X (k+1)) 0 4⟩ (cntP (patI L.I) 4),⟨[]⟩⟩),(L.X 1,L.O 1),(L.X 2,L.O 2),(L.X 3,L.O 3),(L.X 4,L.O 4)]
noncomputable def npC (w:World) (L:Lt):List Ent:=[((L.A 0),⟨.type "list_iterator",none,.fields ⟨[.ref (L.A 5),.int 0 0]⟩,⟨[]⟩⟩),((L.A 5),(zL 0 [.int 1 1724,.int 2 1726,.int 3 1728,.int 4 1730])),((L.A 1),(zL 0 [])),((L.A 2),(zD 0 [])),((L.A 4),⟨.type "cell",none,.cell (some (.ref (L.A 6))),⟨[]⟩⟩),((L.A 6),(zI 1173 (L.A 7))),((L.A 7),(zD 14 [zW w r10 (L.U 0) (.ref (L.A 8)),zW w r11 (L.U 1) (.ref (L.A 9)),zW w r12 (L.U 2) (.ref (L.A 10)),zW w r13 (L.U 3) (L.V 0),zW w r14 (L.U 4) (.ref (L.A 11)),zW w r15 (L.U 5) (.ref (L.A 12)),zW w r16 (L.U 6) (.ref (L.A 13)),zW w r17 (L.U 7) (.ref (L.A 14)),zW w r18 (L.U 8) (.ref (L.A 15)),zW w r19 (L.U 9) (.ref (L.A 16)),zW w r20 (L.U 10) (.none),zW w r21 (L.U 11) (.int 0 (L.U 12)),zW w r22 (L.U 13) (.int 0 (L.U 14)),zW w r23 (L.U 15) (.bool true)])),((L.A 16),(zI 1109 (L.A 17))),((L.A 17),(zD 6 [zW w q319 (L.U 16) (.int 16 1642),zW w r43 (L.U 17) (.ref (L.A 18)),zW w r44 (L.U 18) (.ref (L.A 19)),zW w r45 (L.U 19) (.ref (L.X 0)),zW w r46 (L.U 20) (.none),zW w r47 (L.U 21) (.int (L.I 0) (L.U 22))])),((L.A 21),(zL 4 [.int (L.I 1) (L.U 23),.int (L.I 2) (L.U 24),.int (L.I 3) (L.U 25),.int (L.I 4) (L.U 26)]))]
noncomputable def npC' (w:World) (L:Lt) (Y:Nat→Nat):List Ent:=[((L.A 0),⟨.type "list_iterator",none,.fields ⟨[.none,.int 4 0]⟩,⟨[]⟩⟩),((L.A 5),(zL 0 [.int 1 1724,.int 2 1726,.int 3 1728,.int 4 1730])),((L.A 1),accC L Y),((L.A 2),(zD 1 [zW w ⟨⟨[107,101,121]⟩⟩ (Y 4) (.int 4 1730)])),((L.A 4),⟨.type "cell",none,.cell (some (.ref (L.A 6))),⟨[]⟩⟩),((L.A 6),(zI 1173 (L.A 7))),((L.A 7),(zD 14 [zW w r10 (L.U 0) (.ref (L.A 8)),zW w r11 (L.U 1) (.ref (L.A 9)),zW w r12 (L.U 2) (.ref (L.A 10)),zW w r13 (L.U 3) (L.V 0),zW w r14 (L.U 4) (.ref (L.A 11)),zW w r15 (L.U 5) (.ref (L.A 12)),zW w r16 (L.U 6) (.ref (L.A 13)),zW w r17 (L.U 7) (.ref (L.A 14)),zW w r18 (L.U 8) (.ref (L.A 15)),zW w r19 (L.U 9) (.ref (L.A 16)),zW w r20 (L.U 10) (.none),zW w r21 (L.U 11) (.int 0 (L.U 12)),zW w r22 (L.U 13) (.int 0 (L.U 14)),zW w r23 (L.U 15) (.bool true)])),((L.A 16),(zI 1109 (L.A 17))),((L.A 17),(zD 6 [zW w q319 (L.U 16) (.int 16 1642),zW w r43 (L.U 17) (.ref (L.A 18)),zW w r44 (L.U 18) (.ref (L.A 19)),zW w r45 (L.U 19) (.ref (L.X 0)),zW w r46 (L.U 20) (.none),zW w r47 (L.U 21) (.int (L.I 0) (L.U 22))])),((L.A 21),(zL 4 [.int (L.I 1) (L.U 23),.int (L.I 2) (L.U 24),.int (L.I 3) (L.U 25),.int (L.I 4) (L.U 26)]))]
noncomputable def codC (L:Lt):Code:= .compStart (.ListComp srElt [⟨srTg,srIt,srIfs,0⟩] srScope srPos) 0 (.ref (L.A 0)) (.ref (L.A 1)) (envC L)
noncomputable def lopC (L:Lt):Code:= .compLoop (.ListComp srElt [⟨srTg,srIt,srIfs,0⟩] srScope srPos) 0 (.ref (L.A 0)) (.ref (L.A 1)) (envC L)
noncomputable def bO (P:Bool) (o o':Obj):Obj:=cond P o o'
noncomputable def vO (L:Lt) (P:Nat→Bool) (u:Nat→Nat) (V:Nat→Value):Lt:={L with O:=fun i=>match i with | 0=>L.O 0 | k+1=>bO (P k) (zT 0 [.int (L.I (k+1)) (u k),V k]) (L.O (k+1))}
noncomputable def exP (L:Lt) (P:Nat→Bool):List Ent:=[(L.X 0,⟨.type "dict",none,.dict ⟨dictP P (fun k=>L.X (k+1)) 0 4⟩ (cntP P 4),⟨[]⟩⟩),(L.X 1,L.O 1),(L.X 2,L.O 2),(L.X 3,L.O 3),(L.X 4,L.O 4)]
noncomputable def npCP (w:World) (L:Lt) (P:Nat→Bool) (Y:Nat→Nat):List Ent:=(npC' w L Y).set 2 ((L.A 1),(zL 4 [accIt P L.I Y 0,accIt P L.I Y 1,accIt P L.I Y 2,accIt P L.I Y 3]))
noncomputable def cdC (L:Lt) (P:Nat→Bool):Nat→List Bool
  | 0=>[]
  | k+1=>cond (P k) [true,L.I (k+1) != 0] [true]++cdC L P k
noncomputable def tupB (t:Int) (o:Obj):Bool:=match o with
  | ⟨.type nm,none,.seq ⟨[.int t' _,_]⟩ 0,⟨[]⟩⟩=>Nat.beq (PySem.code nm) 439922816629 && decide (t' = t)
  | _=>false
noncomputable def tupsB (L:Lt):Bool:=cond (patI L.I 0) (tupB (L.I 1) (L.O 1)) true && (cond (patI L.I 1) (tupB (L.I 2) (L.O 2)) true && (cond (patI L.I 2) (tupB (L.I 3) (L.O 3)) true && cond (patI L.I 3) (tupB (L.I 4) (L.O 4)) true))
theorem tupB_is {t:Int} {O:Nat→Obj} {k:Nat} (h:tupB t (O k) = true):tupIs t O k:=by
  unfold tupB at h
  unfold tupIs
  split at h
  · rename_i nm t' u v e
    rw [Bool.and_eq_true] at h
    have h1:nm = "tuple":=PySem.code_inj _ _ ((Nat.eq_of_beq_eq_true h.1).trans (by decide+kernel))
    have h2:t' = t:=of_decide_eq_true h.2
    subst h1 h2
    exact ⟨u,v,e⟩
  · cases h
noncomputable def tupsOk (L:Lt):Prop:=∀k,k < 4→patI L.I k = true→tupIs (L.I (k+1)) L.O (k+1)
noncomputable def hC0:NL:=g326 (g327 [])
noncomputable def yC0 (u:Nat→Nat) (sz tk:Nat) (ω:Nat→Nat):List Nat:=[tk+6,tk+13,tk+20,tk+27,tk]
theorem rC0 (w:World) (L:Lt) (u:Nat→Nat) (V:Nat→Value) (f:Fm) (ω:Nat→Nat) (sz tk:Nat):
  RunIs (sim (VW w (icS w) (mkSt f 0 [0,1,0,2])) 477 ω hC0 (loopT (lopC (up L))) (lopC (up L)) (loopP (lopC (up L))) [] (sz+10) tk 15 (treeOf (npC w (up L)++exP (up (vO L (bitsP [false,false,false,false]) u V)) (bitsP [false,false,false,false]))) [] [])
   (.ok .next) [0,1,2,3,4,5,6,7,8,9,10,11,12,13,14] (npCP w (up L) (bitsP [false,false,false,false]) (rd (yC0 u sz tk ω))++exP (up (vO L (bitsP [false,false,false,false]) u V)) (bitsP [false,false,false,false])) (cdC L (bitsP [false,false,false,false]) 4):=⟨by kernel_rfl⟩
noncomputable def hC1:NL:=g328 (g327 [])
noncomputable def yC1 (u:Nat→Nat) (sz tk:Nat) (ω:Nat→Nat):List Nat:=[u 0,tk+15,tk+22,tk+29,tk]
theorem rC1 (w:World) (L:Lt) (u:Nat→Nat) (V:Nat→Value) (f:Fm) (ω:Nat→Nat) (sz tk:Nat):
  RunIs (sim (VW w (icS w) (mkSt f 0 [0,1,0,2])) 536 ω hC1 (loopT (lopC (up L))) (lopC (up L)) (loopP (lopC (up L))) [] (sz+10) tk 15 (treeOf (npC w (up L)++exP (up (vO L (bitsP [true,false,false,false]) u V)) (bitsP [true,false,false,false]))) [] [])
   (.ok .next) [0,1,2,3,4,5,6,7,8,9,10,11,12,13,14] (npCP w (up L) (bitsP [true,false,false,false]) (rd (yC1 u sz tk ω))++exP (up (vO L (bitsP [true,false,false,false]) u V)) (bitsP [true,false,false,false])) (cdC L (bitsP [true,false,false,false]) 4):=⟨by kernel_rfl⟩
noncomputable def hC2:NL:=g201 (g204 (g327 []))
noncomputable def yC2 (u:Nat→Nat) (sz tk:Nat) (ω:Nat→Nat):List Nat:=[tk+6,u 1,tk+22,tk+29,tk]
theorem rC2 (w:World) (L:Lt) (u:Nat→Nat) (V:Nat→Value) (f:Fm) (ω:Nat→Nat) (sz tk:Nat):
  RunIs (sim (VW w (icS w) (mkSt f 0 [0,1,0,2])) 536 ω hC2 (loopT (lopC (up L))) (lopC (up L)) (loopP (lopC (up L))) [] (sz+10) tk 15 (treeOf (npC w (up L)++exP (up (vO L (bitsP [false,true,false,false]) u V)) (bitsP [false,true,false,false]))) [] [])
   (.ok .next) [0,1,2,3,4,5,6,7,8,9,10,11,12,13,14] (npCP w (up L) (bitsP [false,true,false,false]) (rd (yC2 u sz tk ω))++exP (up (vO L (bitsP [false,true,false,false]) u V)) (bitsP [false,true,false,false])) (cdC L (bitsP [false,true,false,false]) 4):=⟨by kernel_rfl⟩
noncomputable def hC3:NL:=g203 (g204 (g327 []))
noncomputable def yC3 (u:Nat→Nat) (sz tk:Nat) (ω:Nat→Nat):List Nat:=[u 0,u 1,tk+24,tk+31,tk]
theorem rC3 (w:World) (L:Lt) (u:Nat→Nat) (V:Nat→Value) (f:Fm) (ω:Nat→Nat) (sz tk:Nat):
  RunIs (sim (VW w (icS w) (mkSt f 0 [0,1,0,2])) 595 ω hC3 (loopT (lopC (up L))) (lopC (up L)) (loopP (lopC (up L))) [] (sz+10) tk 15 (treeOf (npC w (up L)++exP (up (vO L (bitsP [true,true,false,false]) u V)) (bitsP [true,true,false,false]))) [] [])
   (.ok .next) [0,1,2,3,4,5,6,7,8,9,10,11,12,13,14] (npCP w (up L) (bitsP [true,true,false,false]) (rd (yC3 u sz tk ω))++exP (up (vO L (bitsP [true,true,false,false]) u V)) (bitsP [true,true,false,false])) (cdC L (bitsP [true,true,false,false]) 4):=⟨by kernel_rfl⟩
noncomputable def hC4:NL:=g326 (g329 [])
noncomputable def yC4 (u:Nat→Nat) (sz tk:Nat) (ω:Nat→Nat):List Nat:=[tk+6,tk+13,u 2,tk+29,tk]
theorem rC4 (w:World) (L:Lt) (u:Nat→Nat) (V:Nat→Value) (f:Fm) (ω:Nat→Nat) (sz tk:Nat):
  RunIs (sim (VW w (icS w) (mkSt f 0 [0,1,0,2])) 536 ω hC4 (loopT (lopC (up L))) (lopC (up L)) (loopP (lopC (up L))) [] (sz+10) tk 15 (treeOf (npC w (up L)++exP (up (vO L (bitsP [false,false,true,false]) u V)) (bitsP [false,false,true,false]))) [] [])
   (.ok .next) [0,1,2,3,4,5,6,7,8,9,10,11,12,13,14] (npCP w (up L) (bitsP [false,false,true,false]) (rd (yC4 u sz tk ω))++exP (up (vO L (bitsP [false,false,true,false]) u V)) (bitsP [false,false,true,false])) (cdC L (bitsP [false,false,true,false]) 4):=⟨by kernel_rfl⟩
noncomputable def hC5:NL:=g328 (g329 [])
noncomputable def yC5 (u:Nat→Nat) (sz tk:Nat) (ω:Nat→Nat):List Nat:=[u 0,tk+15,u 2,tk+31,tk]
theorem rC5 (w:World) (L:Lt) (u:Nat→Nat) (V:Nat→Value) (f:Fm) (ω:Nat→Nat) (sz tk:Nat):
  RunIs (sim (VW w (icS w) (mkSt f 0 [0,1,0,2])) 595 ω hC5 (loopT (lopC (up L))) (lopC (up L)) (loopP (lopC (up L))) [] (sz+10) tk 15 (treeOf (npC w (up L)++exP (up (vO L (bitsP [true,false,true,false]) u V)) (bitsP [true,false,true,false]))) [] [])
   (.ok .next) [0,1,2,3,4,5,6,7,8,9,10,11,12,13,14] (npCP w (up L) (bitsP [true,false,true,false]) (rd (yC5 u sz tk ω))++exP (up (vO L (bitsP [true,false,true,false]) u V)) (bitsP [true,false,true,false])) (cdC L (bitsP [true,false,true,false]) 4):=⟨by kernel_rfl⟩
noncomputable def hC6:NL:=g201 (g204 (g329 []))
noncomputable def yC6 (u:Nat→Nat) (sz tk:Nat) (ω:Nat→Nat):List Nat:=[tk+6,u 1,u 2,tk+31,tk]
theorem rC6 (w:World) (L:Lt) (u:Nat→Nat) (V:Nat→Value) (f:Fm) (ω:Nat→Nat) (sz tk:Nat):
  RunIs (sim (VW w (icS w) (mkSt f 0 [0,1,0,2])) 595 ω hC6 (loopT (lopC (up L))) (lopC (up L)) (loopP (lopC (up L))) [] (sz+10) tk 15 (treeOf (npC w (up L)++exP (up (vO L (bitsP [false,true,true,false]) u V)) (bitsP [false,true,true,false]))) [] [])
   (.ok .next) [0,1,2,3,4,5,6,7,8,9,10,11,12,13,14] (npCP w (up L) (bitsP [false,true,true,false]) (rd (yC6 u sz tk ω))++exP (up (vO L (bitsP [false,true,true,false]) u V)) (bitsP [false,true,true,false])) (cdC L (bitsP [false,true,true,false]) 4):=⟨by kernel_rfl⟩
noncomputable def hC7:NL:=g203 (g204 (g329 []))
noncomputable def yC7 (u:Nat→Nat) (sz tk:Nat) (ω:Nat→Nat):List Nat:=[u 0,u 1,u 2,tk+33,tk]
theorem rC7 (w:World) (L:Lt) (u:Nat→Nat) (V:Nat→Value) (f:Fm) (ω:Nat→Nat) (sz tk:Nat):
  RunIs (sim (VW w (icS w) (mkSt f 0 [0,1,0,2])) 654 ω hC7 (loopT (lopC (up L))) (lopC (up L)) (loopP (lopC (up L))) [] (sz+10) tk 15 (treeOf (npC w (up L)++exP (up (vO L (bitsP [true,true,true,false]) u V)) (bitsP [true,true,true,false]))) [] [])
   (.ok .next) [0,1,2,3,4,5,6,7,8,9,10,11,12,13,14] (npCP w (up L) (bitsP [true,true,true,false]) (rd (yC7 u sz tk ω))++exP (up (vO L (bitsP [true,true,true,false]) u V)) (bitsP [true,true,true,false])) (cdC L (bitsP [true,true,true,false]) 4):=⟨by kernel_rfl⟩
noncomputable def hC8:NL:=g326 (g330 [])
noncomputable def yC8 (u:Nat→Nat) (sz tk:Nat) (ω:Nat→Nat):List Nat:=[tk+6,tk+13,tk+20,u 3,tk]
theorem rC8 (w:World) (L:Lt) (u:Nat→Nat) (V:Nat→Value) (f:Fm) (ω:Nat→Nat) (sz tk:Nat):
  RunIs (sim (VW w (icS w) (mkSt f 0 [0,1,0,2])) 536 ω hC8 (loopT (lopC (up L))) (lopC (up L)) (loopP (lopC (up L))) [] (sz+10) tk 15 (treeOf (npC w (up L)++exP (up (vO L (bitsP [false,false,false,true]) u V)) (bitsP [false,false,false,true]))) [] [])
   (.ok .next) [0,1,2,3,4,5,6,7,8,9,10,11,12,13,14] (npCP w (up L) (bitsP [false,false,false,true]) (rd (yC8 u sz tk ω))++exP (up (vO L (bitsP [false,false,false,true]) u V)) (bitsP [false,false,false,true])) (cdC L (bitsP [false,false,false,true]) 4):=⟨by kernel_rfl⟩
noncomputable def hC9:NL:=g328 (g330 [])
noncomputable def yC9 (u:Nat→Nat) (sz tk:Nat) (ω:Nat→Nat):List Nat:=[u 0,tk+15,tk+22,u 3,tk]
theorem rC9 (w:World) (L:Lt) (u:Nat→Nat) (V:Nat→Value) (f:Fm) (ω:Nat→Nat) (sz tk:Nat):
  RunIs (sim (VW w (icS w) (mkSt f 0 [0,1,0,2])) 595 ω hC9 (loopT (lopC (up L))) (lopC (up L)) (loopP (lopC (up L))) [] (sz+10) tk 15 (treeOf (npC w (up L)++exP (up (vO L (bitsP [true,false,false,true]) u V)) (bitsP [true,false,false,true]))) [] [])
   (.ok .next) [0,1,2,3,4,5,6,7,8,9,10,11,12,13,14] (npCP w (up L) (bitsP [true,false,false,true]) (rd (yC9 u sz tk ω))++exP (up (vO L (bitsP [true,false,false,true]) u V)) (bitsP [true,false,false,true])) (cdC L (bitsP [true,false,false,true]) 4):=⟨by kernel_rfl⟩
noncomputable def hC10:NL:=g201 (g204 (g330 []))
noncomputable def yC10 (u:Nat→Nat) (sz tk:Nat) (ω:Nat→Nat):List Nat:=[tk+6,u 1,tk+22,u 3,tk]
theorem rC10 (w:World) (L:Lt) (u:Nat→Nat) (V:Nat→Value) (f:Fm) (ω:Nat→Nat) (sz tk:Nat):
  RunIs (sim (VW w (icS w) (mkSt f 0 [0,1,0,2])) 595 ω hC10 (loopT (lopC (up L))) (lopC (up L)) (loopP (lopC (up L))) [] (sz+10) tk 15 (treeOf (npC w (up L)++exP (up (vO L (bitsP [false,true,false,true]) u V)) (bitsP [false,true,false,true]))) [] [])
   (.ok .next) [0,1,2,3,4,5,6,7,8,9,10,11,12,13,14] (npCP w (up L) (bitsP [false,true,false,true]) (rd (yC10 u sz tk ω))++exP (up (vO L (bitsP [false,true,false,true]) u V)) (bitsP [false,true,false,true])) (cdC L (bitsP [false,true,false,true]) 4):=⟨by kernel_rfl⟩
noncomputable def hC11:NL:=g203 (g204 (g330 []))
noncomputable def yC11 (u:Nat→Nat) (sz tk:Nat) (ω:Nat→Nat):List Nat:=[u 0,u 1,tk+24,u 3,tk]
theorem rC11 (w:World) (L:Lt) (u:Nat→Nat) (V:Nat→Value) (f:Fm) (ω:Nat→Nat) (sz tk:Nat):
  RunIs (sim (VW w (icS w) (mkSt f 0 [0,1,0,2])) 654 ω hC11 (loopT (lopC (up L))) (lopC (up L)) (loopP (lopC (up L))) [] (sz+10) tk 15 (treeOf (npC w (up L)++exP (up (vO L (bitsP [true,true,false,true]) u V)) (bitsP [true,true,false,true]))) [] [])
   (.ok .next) [0,1,2,3,4,5,6,7,8,9,10,11,12,13,14] (npCP w (up L) (bitsP [true,true,false,true]) (rd (yC11 u sz tk ω))++exP (up (vO L (bitsP [true,true,false,true]) u V)) (bitsP [true,true,false,true])) (cdC L (bitsP [true,true,false,true]) 4):=⟨by kernel_rfl⟩
noncomputable def hC12:NL:=g326 (g206 (g266 []))
noncomputable def yC12 (u:Nat→Nat) (sz tk:Nat) (ω:Nat→Nat):List Nat:=[tk+6,tk+13,u 2,u 3,tk]
theorem rC12 (w:World) (L:Lt) (u:Nat→Nat) (V:Nat→Value) (f:Fm) (ω:Nat→Nat) (sz tk:Nat):
  RunIs (sim (VW w (icS w) (mkSt f 0 [0,1,0,2])) 595 ω hC12 (loopT (lopC (up L))) (lopC (up L)) (loopP (lopC (up L))) [] (sz+10) tk 15 (treeOf (npC w (up L)++exP (up (vO L (bitsP [false,false,true,true]) u V)) (bitsP [false,false,true,true]))) [] [])
   (.ok .next) [0,1,2,3,4,5,6,7,8,9,10,11,12,13,14] (npCP w (up L) (bitsP [false,false,true,true]) (rd (yC12 u sz tk ω))++exP (up (vO L (bitsP [false,false,true,true]) u V)) (bitsP [false,false,true,true])) (cdC L (bitsP [false,false,true,true]) 4):=⟨by kernel_rfl⟩
noncomputable def hC13:NL:=g328 (g206 (g266 []))
noncomputable def yC13 (u:Nat→Nat) (sz tk:Nat) (ω:Nat→Nat):List Nat:=[u 0,tk+15,u 2,u 3,tk]
theorem rC13 (w:World) (L:Lt) (u:Nat→Nat) (V:Nat→Value) (f:Fm) (ω:Nat→Nat) (sz tk:Nat):
  RunIs (sim (VW w (icS w) (mkSt f 0 [0,1,0,2])) 654 ω hC13 (loopT (lopC (up L))) (lopC (up L)) (loopP (lopC (up L))) [] (sz+10) tk 15 (treeOf (npC w (up L)++exP (up (vO L (bitsP [true,false,true,true]) u V)) (bitsP [true,false,true,true]))) [] [])
   (.ok .next) [0,1,2,3,4,5,6,7,8,9,10,11,12,13,14] (npCP w (up L) (bitsP [true,false,true,true]) (rd (yC13 u sz tk ω))++exP (up (vO L (bitsP [true,false,true,true]) u V)) (bitsP [true,false,true,true])) (cdC L (bitsP [true,false,true,true]) 4):=⟨by kernel_rfl⟩
noncomputable def hC14:NL:=g201 (g204 (g206 (g266 [])))
noncomputable def yC14 (u:Nat→Nat) (sz tk:Nat) (ω:Nat→Nat):List Nat:=[tk+6,u 1,u 2,u 3,tk]
theorem rC14 (w:World) (L:Lt) (u:Nat→Nat) (V:Nat→Value) (f:Fm) (ω:Nat→Nat) (sz tk:Nat):
  RunIs (sim (VW w (icS w) (mkSt f 0 [0,1,0,2])) 654 ω hC14 (loopT (lopC (up L))) (lopC (up L)) (loopP (lopC (up L))) [] (sz+10) tk 15 (treeOf (npC w (up L)++exP (up (vO L (bitsP [false,true,true,true]) u V)) (bitsP [false,true,true,true]))) [] [])
   (.ok .next) [0,1,2,3,4,5,6,7,8,9,10,11,12,13,14] (npCP w (up L) (bitsP [false,true,true,true]) (rd (yC14 u sz tk ω))++exP (up (vO L (bitsP [false,true,true,true]) u V)) (bitsP [false,true,true,true])) (cdC L (bitsP [false,true,true,true]) 4):=⟨by kernel_rfl⟩
noncomputable def hC15:NL:=g203 (g204 (g206 (g266 [])))
noncomputable def yC15 (u:Nat→Nat) (sz tk:Nat) (ω:Nat→Nat):List Nat:=[u 0,u 1,u 2,u 3,tk]
theorem rC15 (w:World) (L:Lt) (u:Nat→Nat) (V:Nat→Value) (f:Fm) (ω:Nat→Nat) (sz tk:Nat):
  RunIs (sim (VW w (icS w) (mkSt f 0 [0,1,0,2])) 713 ω hC15 (loopT (lopC (up L))) (lopC (up L)) (loopP (lopC (up L))) [] (sz+10) tk 15 (treeOf (npC w (up L)++exP (up (vO L (bitsP [true,true,true,true]) u V)) (bitsP [true,true,true,true]))) [] [])
   (.ok .next) [0,1,2,3,4,5,6,7,8,9,10,11,12,13,14] (npCP w (up L) (bitsP [true,true,true,true]) (rd (yC15 u sz tk ω))++exP (up (vO L (bitsP [true,true,true,true]) u V)) (bitsP [true,true,true,true])) (cdC L (bitsP [true,true,true,true]) 4):=⟨by kernel_rfl⟩
noncomputable def ctC:Ct2 where
  np:=10
  nx:=5
  aI:=[0,1,2,3,4,6,16,18,21,23,25,29,31,33,35,37,39,47,52,54,56,60]
  uI:=[20,22,24,26,28,30,32,34,36,38,40,41,42,43,44,45,49,51,53,55,57,58,59,61,62,63,64]
  iI:=[8,9,10,11,12]
  vI:=[27]
  code _ L:=codC L
  ents w L:=npC w L++exC L
  posts w L Y:=npC' w L Y++exC L
  news _ _ _:=[]
  nn:=0
  res _ _ _:= .next
  ds L:=[tupsB L]
  sh:=shapeB [0,1,0,2]
theorem cdC_ok (L:Lt) (P:Nat→Bool):∀n,(∀k,k < n→P k = true→L.I (k+1)≠0)→∀d∈cdC L P n,d = true
  | 0,_,d,h=>nomatch h
  | n + 1,hP,d,h=>by
    have ih:=cdC_ok L P n (fun k hk=>hP k (by omega))
    unfold cdC at h
    cases e:P n with
    | false=>
      rw [e] at h
      rcases List.mem_append.mp h with h | h
      · exact List.mem_singleton.mp h
      · exact ih d h
    | true=>
      rw [e] at h
      rcases List.mem_append.mp h with h | h
      · rcases List.mem_cons.mp h with h | h
        · exact h
        · rw [List.mem_singleton.mp h]
          exact bne_iff_ne.mpr (hP n (by omega) e)
      · exact ih d h
theorem patI_pos {I:Nat→Int} {k:Nat} (hk:k < 4) (h:patI I k = true):I (k+1) > 0:=by
  match k,hk with
  | 0,_=>exact of_decide_eq_true h
  | 1,_=>exact of_decide_eq_true h
  | 2,_=>exact of_decide_eq_true h
  | 3,_=>exact of_decide_eq_true h
noncomputable def choT (o:Obj):Nat×Value:=match o.data with
  | .seq ⟨[.int _ u,v]⟩ _=>(u,v)
  | _=>(0,.none)
theorem vO_is {L:Lt} (h:tupsOk L):∃u V,vO L (patI L.I) u V = L:=by
  refine ⟨fun k=>(choT (L.O (k+1))).1,fun k=>(choT (L.O (k+1))).2,?_⟩
  have e:(fun i=>match i with | 0=>L.O 0 | k+1=>bO (patI L.I k) (zT 0 [.int (L.I (k+1)) ((choT (L.O (k+1))).1),(choT (L.O (k+1))).2]) (L.O (k+1)):Nat→Obj) = L.O:=by
    funext i
    cases i with
    | zero=>rfl
    | succ k=>
      show bO (patI L.I k) _ _ = _
      cases hp:patI L.I k with
      | false=>rfl
      | true=>
        have hk:k < 4:=by
          by_cases q:k < 4
          · exact q
          · exfalso
            unfold patI at hp
            match k,q with
            | 0,q=>omega
            | 1,q=>omega
            | 2,q=>omega
            | 3,q=>omega
            | n+4,_=>cases hp
        obtain ⟨u,v,q⟩:=h k hk hp
        rw [q]
        rfl
  show {L with O:=_} = L
  rw [e]
theorem tupsB_is {L:Lt} (h:tupsB L = true):tupsOk L:=by
  unfold tupsB at h
  rw [Bool.and_eq_true,Bool.and_eq_true,Bool.and_eq_true] at h
  obtain ⟨h0,h1,h2,h3⟩:=h
  intro k hk hp
  match k,hk with
  | 0,_=>rw [hp] at h0;exact tupB_is h0
  | 1,_=>rw [hp] at h1;exact tupB_is h1
  | 2,_=>rw [hp] at h2;exact tupB_is h2
  | 3,_=>rw [hp] at h3;exact tupB_is h3
theorem okC (w:World):Ct2Ok w ctC where
  plen:=fun _ _=>rfl
  nlen:=fun _ _=>rfl
  triple:=by
    intro L sz tk st hst hd _ _
    obtain ⟨f,rfl⟩:=shape_mk (ks:=[0,1,0,2]) 0 hst
    have ht:tupsOk L:=tupsB_is (hd _ (.head _))
    obtain ⟨u,V,hv⟩:=vO_is ht
    have hI:∀k,k < 4→patI L.I k = true→L.I (k+1)≠0:=fun k hk h=>by have:=patI_pos hk h;omega
    have key:∃(n:Nat) (hs:List Nat) (yl:Nat→Nat→(Nat→Nat)→List Nat),∀ω,RunIs (sim (VW w (icS w) (mkSt f 0 [0,1,0,2])) n ω hs (loopT (lopC (up L))) (lopC (up L)) (loopP (lopC (up L))) [] (sz+10) tk 15 (treeOf (npC w (up L)++exC (up L))) [] [])
        (.ok .next) [0,1,2,3,4,5,6,7,8,9,10,11,12,13,14] (npC' w (up L) (rd (yl sz tk ω))++exC (up L)) (cdC L (patI L.I) 4):=by
      show ∃(n:Nat) (hs:List Nat) (yl:Nat→Nat→(Nat→Nat)→List Nat),∀ω,RunIs (sim (VW w (icS w) (mkSt f 0 [0,1,0,2])) n ω hs (loopT (lopC (up L))) (lopC (up L)) (loopP (lopC (up L))) [] (sz+10) tk 15 (treeOf (npC w (up L)++exP (up L) (patI L.I))) [] [])
        (.ok .next) [0,1,2,3,4,5,6,7,8,9,10,11,12,13,14] (npCP w (up L) (patI L.I) (rd (yl sz tk ω))++exP (up L) (patI L.I)) (cdC L (patI L.I) 4)
      have e:∀bl,patI L.I = bitsP bl→vO L (bitsP bl) u V = L:=fun bl h=>by rw [←h];exact hv
      cases h1:decide (L.I 1 > 0) <;> cases h2:decide (L.I 2 > 0) <;> cases h3:decide (L.I 3 > 0) <;> cases h4:decide (L.I 4 > 0)
      · have hp:patI L.I = bitsP [false,false,false,false]:=by unfold patI;rw [h1,h2,h3,h4]
        have z:=fun ω=>rC0 w L u V f ω sz tk
        rw [e _ hp] at z
        rw [hp]
        exact ⟨477,hC0,yC0 u,z⟩
      · have hp:patI L.I = bitsP [false,false,false,true]:=by unfold patI;rw [h1,h2,h3,h4]
        have z:=fun ω=>rC8 w L u V f ω sz tk
        rw [e _ hp] at z
        rw [hp]
        exact ⟨536,hC8,yC8 u,z⟩
      · have hp:patI L.I = bitsP [false,false,true,false]:=by unfold patI;rw [h1,h2,h3,h4]
        have z:=fun ω=>rC4 w L u V f ω sz tk
        rw [e _ hp] at z
        rw [hp]
        exact ⟨536,hC4,yC4 u,z⟩
      · have hp:patI L.I = bitsP [false,false,true,true]:=by unfold patI;rw [h1,h2,h3,h4]
        have z:=fun ω=>rC12 w L u V f ω sz tk
        rw [e _ hp] at z
        rw [hp]
        exact ⟨595,hC12,yC12 u,z⟩
      · have hp:patI L.I = bitsP [false,true,false,false]:=by unfold patI;rw [h1,h2,h3,h4]
        have z:=fun ω=>rC2 w L u V f ω sz tk
        rw [e _ hp] at z
        rw [hp]
        exact ⟨536,hC2,yC2 u,z⟩
      · have hp:patI L.I = bitsP [false,true,false,true]:=by unfold patI;rw [h1,h2,h3,h4]
        have z:=fun ω=>rC10 w L u V f ω sz tk
        rw [e _ hp] at z
        rw [hp]
        exact ⟨595,hC10,yC10 u,z⟩
      · have hp:patI L.I = bitsP [false,true,true,false]:=by unfold patI;rw [h1,h2,h3,h4]
        have z:=fun ω=>rC6 w L u V f ω sz tk
        rw [e _ hp] at z
        rw [hp]
        exact ⟨595,hC6,yC6 u,z⟩
      · have hp:patI L.I = bitsP [false,true,true,true]:=by unfold patI;rw [h1,h2,h3,h4]
        have z:=fun ω=>rC14 w L u V f ω sz tk
        rw [e _ hp] at z
        rw [hp]
        exact ⟨654,hC14,yC14 u,z⟩
      · have hp:patI L.I = bitsP [true,false,false,false]:=by unfold patI;rw [h1,h2,h3,h4]
        have z:=fun ω=>rC1 w L u V f ω sz tk
        rw [e _ hp] at z
        rw [hp]
        exact ⟨536,hC1,yC1 u,z⟩
      · have hp:patI L.I = bitsP [true,false,false,true]:=by unfold patI;rw [h1,h2,h3,h4]
        have z:=fun ω=>rC9 w L u V f ω sz tk
        rw [e _ hp] at z
        rw [hp]
        exact ⟨595,hC9,yC9 u,z⟩
      · have hp:patI L.I = bitsP [true,false,true,false]:=by unfold patI;rw [h1,h2,h3,h4]
        have z:=fun ω=>rC5 w L u V f ω sz tk
        rw [e _ hp] at z
        rw [hp]
        exact ⟨595,hC5,yC5 u,z⟩
      · have hp:patI L.I = bitsP [true,false,true,true]:=by unfold patI;rw [h1,h2,h3,h4]
        have z:=fun ω=>rC13 w L u V f ω sz tk
        rw [e _ hp] at z
        rw [hp]
        exact ⟨654,hC13,yC13 u,z⟩
      · have hp:patI L.I = bitsP [true,true,false,false]:=by unfold patI;rw [h1,h2,h3,h4]
        have z:=fun ω=>rC3 w L u V f ω sz tk
        rw [e _ hp] at z
        rw [hp]
        exact ⟨595,hC3,yC3 u,z⟩
      · have hp:patI L.I = bitsP [true,true,false,true]:=by unfold patI;rw [h1,h2,h3,h4]
        have z:=fun ω=>rC11 w L u V f ω sz tk
        rw [e _ hp] at z
        rw [hp]
        exact ⟨654,hC11,yC11 u,z⟩
      · have hp:patI L.I = bitsP [true,true,true,false]:=by unfold patI;rw [h1,h2,h3,h4]
        have z:=fun ω=>rC7 w L u V f ω sz tk
        rw [e _ hp] at z
        rw [hp]
        exact ⟨654,hC7,yC7 u,z⟩
      · have hp:patI L.I = bitsP [true,true,true,true]:=by unfold patI;rw [h1,h2,h3,h4]
        have z:=fun ω=>rC15 w L u V f ω sz tk
        rw [e _ hp] at z
        rw [hp]
        exact ⟨713,hC15,yC15 u,z⟩
    obtain ⟨n,hs,yl,run⟩:=key
    have h1:insL 0 (ctC.ents w (up L)) .nil = some (treeOf (ctC.ents w (up L))):=by
      unfold treeOf
      cases e:insL 0 (ctC.ents w (up L)) .nil with
      | none=>have z:(insL 0 (ctC.ents w (up L)) .nil).isSome = true:=rfl;rw [e] at z;cases z
      | some x=>rfl
    refine triple2_of_comp (Y:=fun _ ω=>rd (yl sz tk ω)) (own:=icS w) (is:=[0,1,2,3,4,5,6,7,8,9,10,11,12,13,14]) (j:=0) (n:=n) (hs:=hs) icS_own h1 rfl rfl rfl (fun ω=>⟨_,cdC_ok L (patI L.I) 4 hI,?_⟩) (nodupB_is rfl) (fun Y=>rfl)
    show RunIs _ _ _ (_++[]) _
    rw [List.append_nil]
    exact run ω
end
end Mine
namespace Mine
noncomputable section
open PySem PySem.W PyProof.Rows
noncomputable def nListEq:Nat:=116512336171186236184357485
noncomputable def eqLs (f:Value→Value→Bool):List Value→List Value→Bool
  | [],[]=>true
  | x::r,y::q=>f x y && eqLs f r q
  | _,_=>false
theorem eqLs_len {f:Value→Value→Bool}:∀{l q:List Value},eqLs f l q = true→l.length = q.length
  | [],[],_=>rfl
  | x::r,y::q,h=>by
    have h':(f x y && eqLs f r q) = true:=h
    rw [Bool.and_eq_true] at h'
    rw [List.length_cons,List.length_cons,eqLs_len h'.2]
  | [],_::_,h=>Bool.noConfusion h
  | _::_,[],h=>Bool.noConfusion h
theorem eqLs_at {f:Value→Value→Bool} (hf:∀x y,f x y = true→MeetsSeq.EqGives x y true):∀{l q:List Value},eqLs f l q = true→∀j (h1:j < l.length) (h2:j < q.length),MeetsSeq.EqGives l[j] q[j] true
  | [],_,_,j,h1,_=>absurd h1 (Nat.not_lt_zero _)
  | _::_,[],_,j,_,h2=>absurd h2 (Nat.not_lt_zero _)
  | x::r,y::q,h,j,h1,h2=>by
    have h':(f x y && eqLs f r q) = true:=h
    rw [Bool.and_eq_true] at h'
    cases j with
    | zero=>exact hf x y h'.1
    | succ j=>exact eqLs_at hf h'.2 j (Nat.lt_of_succ_lt_succ h1) (Nat.lt_of_succ_lt_succ h2)
noncomputable def eqVI (x y:Value):Bool:=match x with
  | .int a _=>match y with
    | .int b _=>decide (a = b)
    | _=>false
  | _=>false
theorem eqVI_is (x y:Value) (h:eqVI x y = true):MeetsSeq.EqGives x y true:=by
  cases x <;> try exact Bool.noConfusion h
  rename_i a t
  cases y <;> try exact Bool.noConfusion h
  rename_i b u
  have e:a = b:=of_decide_eq_true h
  have:=MeetsSeq.EqGives.int a b t u
  rw [show (a == b) = true from beq_iff_eq.mpr e] at this
  exact this
noncomputable def eqIs:List Value→List Value→Bool:=eqLs eqVI
noncomputable def icListEq:Icpt:=fun _ _ c hs sz tk m T=>match c with
  | .call (.builtin id) ⟨[.ref l,.ref b],[]⟩=>match Nat.beq (PySem.code id) nListEq with
    | true => match hs with
      | i ::j::hs=>match T.get i with
        | some e=>match T.get j with
          | some f=>match e.2.data with
            | .seq xs n=>match f.2.data with
              | .seq ys n2=>some ⟨.ok (.ret (.bool true)),hs,sz,tk,m,T,[(.n l,.n e.1),(.n b,.n f.1),(.o e.2,.o ⟨.type "list",none,.seq xs n,#[]⟩),(.o f.2,.o ⟨.type "list",none,.seq ys n2,#[]⟩)],[eqIs xs.toList ys.toList]⟩
              | _=>none
            | _=>none
          | none=>none
        | none=>none
      | _=>none
    | false=>none
  | _=>none
section
variable {V:Vw} {prog:Program} {w:World} {b:Bs}
theorem icListEq_ok:IcOk V (model prog w) b icListEq:=by
  intro Γ c hs sz tk m T p s R κ _ _ _ r H
  obtain ⟨y,e,hob,hd,hR⟩:=H fun _=>0
  unfold icListEq at e
  split at e <;> try cases e
  rename_i id l b2
  split at e <;> try cases e
  rename_i hid
  have hid':id = "list.__eq__":=PySem.code_inj _ _ ((Nat.eq_of_beq_eq_true hid).trans (by decide+kernel))
  subst hid'
  split at e <;> try cases e
  rename_i i j hs'
  split at e <;> try cases e
  rename_i e1 hT
  split at e <;> try cases e
  rename_i e2 hT2
  split at e <;> try cases e
  rename_i xs n hdata
  split at e <;> try cases e
  rename_i ys n2 hdata2
  have q1:l = e1.1:=by injection hob _ (.head _)
  have q2:b2 = e2.1:=by injection hob _ (.tail _ (.head _))
  have q3:e1.2 = ⟨.type "list",none,.seq xs n,#[]⟩:=by injection hob _ (.tail _ (.tail _ (.head _)))
  have q4:e2.2 = ⟨.type "list",none,.seq ys n2,#[]⟩:=by injection hob _ (.tail _ (.tail _ (.tail _ (.head _))))
  have hall:eqIs xs.toList ys.toList = true:=hd _ (.head _)
  have hl:s.heap.get? l = some {cls:= .type "list",dict:=none,data:= .seq xs n,slots:=#[]}:=by rw [q1,←q3];exact (r.own i e1.1 e1.2 hT).2.1
  have hb:s.heap.get? b2 = some {cls:= .type "list",dict:=none,data:= .seq ys n2,slots:=#[]}:=by rw [q2,←q4];exact (r.own j e2.1 e2.2 hT2).2.1
  have hsz:xs.size = ys.size:=by
    have:=eqLs_len hall
    rw [Array.length_toList,Array.length_toList] at this
    exact this
  refine ic_call (call_meets F.slot_list_eq (Heap.IsList.typeIs ⟨_,hl,rfl,n,rfl⟩) F.entry_list_eq (F.args_list_eq_2 _ _) (MeetsSeq3.list_eq l b2 xs ys n n2 hsz (fun _=>true) fun j h1 h2=>?_) ⟨hl,hb,?_⟩)
  · have:=eqLs_at eqVI_is hall j (by rw [Array.length_toList];exact h1) (by rw [Array.length_toList];exact h2)
    rw [Array.getElem_toList,Array.getElem_toList] at this
    exact this
  · have:((List.range xs.size).all fun _=>true) = true:=by simp
    rw [this]
    exact hR s r
end
end
end Mine
namespace Mine
noncomputable section
open PySem PySem.W
noncomputable def icR (w:World) (k:Nat):Icpt:=match k with
  | 4=>icOf2 w ctC
  | 5=>icListEq
  | k=>icS w k
theorem icR_own {w:World}:OwnOk w (icR w):=by
  intro b V j hkt hb hp hw hd
  unfold icR
  split
  · exact icOf2_ok (okC w) hkt hb
  · exact icListEq_ok
  · exact icS_own b V _ hkt hb hp hw hd
end
end Mine
namespace Mine
open PySem PySem.W
noncomputable section
noncomputable def hS0:NL:=g287 (g288 (4::2::0::3::1::3::g144 (g156 (63::g331 (63::g53 (0::4::3::g9 (g409 (g80 (g410 (g120 (65::g236 (65::g237 (0::0::67::g36 (g411 (67::67::67::g332 (g254 (g333 (101::101::1::0::101::102::38::100::99::101::102::g334 (104::104::102::3::103::2::103::1::39::101::0::[])))))))))))))))))))
noncomputable def hS1:NL:=g287 (g288 (4::2::0::3::1::3::4::g80 (3::g10 (g156 (g156 (63::g53 (0::63::61::63::63::63::g120 (63::g53 (2::g120 (63::63::63::63::g53 (1::10::0::63::g331 (63::g53 (63::63::g53 (2::63::g120 (g412 (g53 (64::g53 (64::g413 (g414 (g335 (g36 (g336 (g169 (68::68::g332 (g337 (g333 (102::102::1::0::102::103::38::101::100::102::103::g334 (g291 (3::104::2::104::1::39::102::0::[])))))))))))))))))))))))))))))
noncomputable def hS2:NL:=g338 (g412 (g53 (0::4::3::g9 (g414 (g335 (g36 (g336 (g169 (68::68::g332 (g337 (g333 (102::102::1::0::102::103::38::101::100::102::103::g334 (g291 (3::104::2::104::1::39::102::0::[]))))))))))))))
noncomputable def hS3:NL:=g338 (4::g80 (3::g10 (64::g84 (g84 (g53 (0::64::62::64::64::64::g120 (64::g53 (2::g120 (64::64::64::64::g53 (1::10::0::64::g53 (0::1::12::0::64::g53 (64::64::g53 (2::64::g120 (g144 (g131 (g331 (65::g53 (65::g53 (65::g413 (66::64::0::66::64::0::0::66::66::g237 (0::67::g80 (g9 (68::66::0::0::68::g120 (67::g236 (67::g9 (69::67::0::69::67::0::0::69::g36 (69::g9 (70::68::0::70::68::0::70::1::0::70::1::0::70::g157 (72::72::72::72::70::70::19::70::78::7::71::72::73::74::75::76::77::0::70::68::70::g158 (82::82::82::82::70::70::19::80::99::18::g231 (97::98::0::69::67::69::69::69::g332 (g415 (g333 (103::103::1::0::103::104::38::102::101::103::104::g334 (106::106::104::3::105::2::105::1::39::103::0::[])))))))))))))))))))))))))))))))))))
noncomputable def entS (L:Lt):Ent:=(L.A 0,(zL 4 [.int (L.I 1) (L.U 3),.int (L.I 2) (L.U 4),.int (L.I 3) (L.U 5),.int (L.I 4) (L.U 6)]))
noncomputable def codS (L:Lt) (st:Str) (v:Value):Code:= .call (.ref 1498) ⟨[.str st (L.U 0),.int (L.I 0) (L.U 1),.ref (L.A 0),.int (L.I 5) (L.U 2),v],[]⟩
noncomputable def simS (w:World) (L:Lt) (f:Fm) (p:Pos) (ω:Nat→Nat) (sz tk n:Nat) (hs:List Nat) (st:Str) (b:Bool):Out:=
  sim (VW w (icR w) (mkSt f 0 [1,0,2])) n ω hs (denQ (codS (up L) st (.bool b))) (codS (up L) st (.bool b)) p [] (sz+10) tk 1 (treeOf [entS (up L)]) [] []
noncomputable def dEq (I:Nat→Int):Bool:=decide (cond (patI I 0) (I 1) 0 = I 1) && (decide (cond (patI I 1) (I 2) 0 = I 2) && (decide (cond (patI I 2) (I 3) 0 = I 3) && (decide (cond (patI I 3) (I 4) 0 = I 4) && true)))
noncomputable def dT1 (I:Nat→Int) (U v:Nat→Nat) (k:Nat):Bool:=cond (patI I k) (tupB (I (k+1)) (phE (patI I k) (I (k+1)) (U (k+3)) (cntP (patI I) (k+1)) (v k))) true
noncomputable def dTup (I:Nat→Int) (U v:Nat→Nat):Bool:=dT1 I U v 0 && (dT1 I U v 1 && (dT1 I U v 2 && dT1 I U v 3))
noncomputable def dsS (L:Lt) (ω:Nat→Nat) (a b:Nat):List Bool:=dEq L.I::(List.replicate a true++(dTup L.I L.U (fun k=>ω (2*(6+k)))::List.replicate b true))
noncomputable def dsW (L:Lt) (ω:Nat→Nat) (a b c:Nat):List Bool:=dEq L.I::(List.replicate a true++(dTup L.I L.U (fun k=>ω (2*(6+k)))::(List.replicate b true++((!decide (L.I 5+5≤L.I 5))::List.replicate c true))))
noncomputable def stS (i:Nat):Str:=match i with
  | 0=>q215
  | 1=>q217
  | 2=>q223
  | 3=>q219
  | 4=>q225
  | 5=>q227
  | _=>q229
theorem rS0 (w:World) (L:Lt) (f:Fm) (p:Pos) (ω:Nat→Nat) (sz tk:Nat):
  RunIs (simS w L f p ω sz tk 811 hS0 (stS 0) false) (.ok (.ret (.bool true))) [0] [entS (up L)] (dsS L ω 31 21):=⟨by kernel_rfl⟩
theorem rS0W (w:World) (L:Lt) (f:Fm) (p:Pos) (ω:Nat→Nat) (sz tk:Nat):
  RunIs (simS w L f p ω sz tk 1140 hS1 (stS 0) true) (.ok (.ret (.bool true))) [0] [entS (up L)] (dsW L ω 31 13 10):=⟨by kernel_rfl⟩
theorem rS1 (w:World) (L:Lt) (f:Fm) (p:Pos) (ω:Nat→Nat) (sz tk:Nat):
  RunIs (simS w L f p ω sz tk 811 hS0 (stS 1) false) (.ok (.ret (.bool true))) [0] [entS (up L)] (dsS L ω 31 21):=⟨by kernel_rfl⟩
theorem rS1W (w:World) (L:Lt) (f:Fm) (p:Pos) (ω:Nat→Nat) (sz tk:Nat):
  RunIs (simS w L f p ω sz tk 1140 hS1 (stS 1) true) (.ok (.ret (.bool true))) [0] [entS (up L)] (dsW L ω 31 13 10):=⟨by kernel_rfl⟩
theorem rS2 (w:World) (L:Lt) (f:Fm) (p:Pos) (ω:Nat→Nat) (sz tk:Nat):
  RunIs (simS w L f p ω sz tk 855 hS2 (stS 2) false) (.ok (.ret (.bool true))) [0] [entS (up L)] (dsS L ω 31 23):=⟨by kernel_rfl⟩
theorem rS2W (w:World) (L:Lt) (f:Fm) (p:Pos) (ω:Nat→Nat) (sz tk:Nat):
  RunIs (simS w L f p ω sz tk 1184 hS3 (stS 2) true) (.ok (.ret (.bool true))) [0] [entS (up L)] (dsW L ω 31 13 12):=⟨by kernel_rfl⟩
theorem rS3 (w:World) (L:Lt) (f:Fm) (p:Pos) (ω:Nat→Nat) (sz tk:Nat):
  RunIs (simS w L f p ω sz tk 855 hS2 (stS 3) false) (.ok (.ret (.bool true))) [0] [entS (up L)] (dsS L ω 31 23):=⟨by kernel_rfl⟩
theorem rS3W (w:World) (L:Lt) (f:Fm) (p:Pos) (ω:Nat→Nat) (sz tk:Nat):
  RunIs (simS w L f p ω sz tk 1184 hS3 (stS 3) true) (.ok (.ret (.bool true))) [0] [entS (up L)] (dsW L ω 31 13 12):=⟨by kernel_rfl⟩
theorem rS4 (w:World) (L:Lt) (f:Fm) (p:Pos) (ω:Nat→Nat) (sz tk:Nat):
  RunIs (simS w L f p ω sz tk 855 hS2 (stS 4) false) (.ok (.ret (.bool true))) [0] [entS (up L)] (dsS L ω 31 23):=⟨by kernel_rfl⟩
theorem rS4W (w:World) (L:Lt) (f:Fm) (p:Pos) (ω:Nat→Nat) (sz tk:Nat):
  RunIs (simS w L f p ω sz tk 1184 hS3 (stS 4) true) (.ok (.ret (.bool true))) [0] [entS (up L)] (dsW L ω 31 13 12):=⟨by kernel_rfl⟩
theorem rS5 (w:World) (L:Lt) (f:Fm) (p:Pos) (ω:Nat→Nat) (sz tk:Nat):
  RunIs (simS w L f p ω sz tk 855 hS2 (stS 5) false) (.ok (.ret (.bool true))) [0] [entS (up L)] (dsS L ω 31 23):=⟨by kernel_rfl⟩
theorem rS5W (w:World) (L:Lt) (f:Fm) (p:Pos) (ω:Nat→Nat) (sz tk:Nat):
  RunIs (simS w L f p ω sz tk 1184 hS3 (stS 5) true) (.ok (.ret (.bool true))) [0] [entS (up L)] (dsW L ω 31 13 12):=⟨by kernel_rfl⟩
theorem rS6 (w:World) (L:Lt) (f:Fm) (p:Pos) (ω:Nat→Nat) (sz tk:Nat):
  RunIs (simS w L f p ω sz tk 855 hS2 (stS 6) false) (.ok (.ret (.bool true))) [0] [entS (up L)] (dsS L ω 31 23):=⟨by kernel_rfl⟩
theorem rS6W (w:World) (L:Lt) (f:Fm) (p:Pos) (ω:Nat→Nat) (sz tk:Nat):
  RunIs (simS w L f p ω sz tk 1184 hS3 (stS 6) true) (.ok (.ret (.bool true))) [0] [entS (up L)] (dsW L ω 31 13 12):=⟨by kernel_rfl⟩
noncomputable def sevenS (s:Str):Bool:=eqS (stS 0) s || (eqS (stS 1) s || (eqS (stS 2) s || (eqS (stS 3) s || (eqS (stS 4) s || (eqS (stS 5) s || eqS (stS 6) s)))))
noncomputable def isB:Value→Bool
  | .bool _=>true
  | _=>false
noncomputable def geS (I:Nat→Int):List Bool:=[decide (0≤I 1),decide (0≤I 2),decide (0≤I 3),decide (0≤I 4)]
noncomputable def ctS:Ct2 where
  np:=1
  aI:=[3]
  uI:=[1,2,4,6,7,8,9]
  iI:=[0,2,3,4,5,1]
  sI:=[0]
  vI:=[5]
  code _ L:=codS L (L.S 0) (L.V 0)
  ents _ L:=[entS L]
  posts _ L _:=[entS L]
  news _ _ _:=[]
  nn:=0
  res _ _ _:= .ret (.bool true)
  ds L:=sevenS (L.S 0)::isB (L.V 0)::geS L.I
  sh:=shapeB [1,0,2]
theorem dEq_ok {I:Nat→Int} (h:∀d∈geS I,d = true):dEq I = true:=by
  have h1:0≤I 1:=of_decide_eq_true (h _ (.head _))
  have h2:0≤I 2:=of_decide_eq_true (h _ (.tail _ (.head _)))
  have h3:0≤I 3:=of_decide_eq_true (h _ (.tail _ (.tail _ (.head _))))
  have h4:0≤I 4:=of_decide_eq_true (h _ (.tail _ (.tail _ (.tail _ (.head _)))))
  have key:∀x:Int,0≤x→cond (decide (x > 0)) x 0 = x:=fun x hx=>by
    by_cases q:x > 0
    · rw [decide_eq_true q];rfl
    · rw [decide_eq_false q];show (0:Int) = x;omega
  have e1:cond (patI I 0) (I 1) 0 = I 1:=key _ h1
  have e2:cond (patI I 1) (I 2) 0 = I 2:=key _ h2
  have e3:cond (patI I 2) (I 3) 0 = I 3:=key _ h3
  have e4:cond (patI I 3) (I 4) 0 = I 4:=key _ h4
  unfold dEq
  rw [e1,e2,e3,e4,decide_eq_true rfl,decide_eq_true rfl,decide_eq_true rfl,decide_eq_true rfl]
  rfl
theorem tupB_self (t:Int) (u:Nat) (v:Value):tupB t (zT 0 [.int t u,v]) = true:=by
  have e:(Nat.beq (PySem.code "tuple") 439922816629 && decide (t = t)) = true:=by
    rw [decide_eq_true rfl]
    decide+kernel
  exact e
theorem dT1_ok (I:Nat→Int) (U v:Nat→Nat) (k:Nat):dT1 I U v k = true:=by
  unfold dT1
  cases patI I k with
  | false=>rfl
  | true=>
    exact tupB_self (I (k+1)) (U (k+3)) (.int ((cntP (patI I) (k+1):Nat):Int) (v k))
theorem dTup_ok (I:Nat→Int) (U v:Nat→Nat):dTup I U v = true:=by
  unfold dTup
  rw [dT1_ok,dT1_ok,dT1_ok,dT1_ok]
  rfl
theorem rep_ok {n:Nat} {d:Bool} (h:d∈List.replicate n true):d = true:=(List.mem_replicate.mp h).2
theorem dsS_ok {L:Lt} (h:∀d∈geS L.I,d = true) (ω:Nat→Nat) (a b:Nat):∀d∈dsS L ω a b,d = true:=by
  intro d hd
  rcases List.mem_cons.mp hd with rfl | hd
  · exact dEq_ok h
  · rcases List.mem_append.mp hd with hd | hd
    · exact rep_ok hd
    · rcases List.mem_cons.mp hd with rfl | hd
      · exact dTup_ok _ _ _
      · exact rep_ok hd
theorem dsW_ok {L:Lt} (h:∀d∈geS L.I,d = true) (ω:Nat→Nat) (a b c:Nat):∀d∈dsW L ω a b c,d = true:=by
  intro d hd
  rcases List.mem_cons.mp hd with rfl | hd
  · exact dEq_ok h
  · rcases List.mem_append.mp hd with hd | hd
    · exact rep_ok hd
    · rcases List.mem_cons.mp hd with rfl | hd
      · exact dTup_ok _ _ _
      · rcases List.mem_append.mp hd with hd | hd
        · exact rep_ok hd
        · rcases List.mem_cons.mp hd with rfl | hd
          · rw [decide_eq_false (by omega)];rfl
          · exact rep_ok hd
theorem sevenS_is {s:Str} (h:sevenS s = true):∃i,i < 7∧s = stS i:=by
  unfold sevenS at h
  simp only [Bool.or_eq_true] at h
  rcases h with h | h | h | h | h | h | h
  · exact ⟨0,by decide,(eqS_is.mp h).symm⟩
  · exact ⟨1,by decide,(eqS_is.mp h).symm⟩
  · exact ⟨2,by decide,(eqS_is.mp h).symm⟩
  · exact ⟨3,by decide,(eqS_is.mp h).symm⟩
  · exact ⟨4,by decide,(eqS_is.mp h).symm⟩
  · exact ⟨5,by decide,(eqS_is.mp h).symm⟩
  · exact ⟨6,by decide,(eqS_is.mp h).symm⟩
noncomputable def KnS (w:World) (L:Lt) (st:Str) (b:Bool):Prop:=∃(n:Nat) (hs:List Nat) (dsf:(Nat→Nat)→Nat→Nat→List Bool),(∀ω sz tk,∀d∈dsf ω sz tk,d = true)∧
  ∀f p ω sz tk,RunIs (simS w L f p ω sz tk n hs st b) (.ok (.ret (.bool true))) [0] [entS (up L)] (dsf ω sz tk)
theorem knS (w:World) (L:Lt) (h:∀d∈geS L.I,d = true):∀i,i < 7→∀b,KnS w L (stS i) b
  | 0,_,false=>⟨811,hS0,fun ω _ _=>dsS L ω 31 21,fun ω _ _=>dsS_ok h ω _ _,fun f p ω sz tk=>rS0 w L f p ω sz tk⟩
  | 0,_,true=>⟨1140,hS1,fun ω _ _=>dsW L ω 31 13 10,fun ω _ _=>dsW_ok h ω _ _ _,fun f p ω sz tk=>rS0W w L f p ω sz tk⟩
  | 1,_,false=>⟨811,hS0,fun ω _ _=>dsS L ω 31 21,fun ω _ _=>dsS_ok h ω _ _,fun f p ω sz tk=>rS1 w L f p ω sz tk⟩
  | 1,_,true=>⟨1140,hS1,fun ω _ _=>dsW L ω 31 13 10,fun ω _ _=>dsW_ok h ω _ _ _,fun f p ω sz tk=>rS1W w L f p ω sz tk⟩
  | 2,_,false=>⟨855,hS2,fun ω _ _=>dsS L ω 31 23,fun ω _ _=>dsS_ok h ω _ _,fun f p ω sz tk=>rS2 w L f p ω sz tk⟩
  | 2,_,true=>⟨1184,hS3,fun ω _ _=>dsW L ω 31 13 12,fun ω _ _=>dsW_ok h ω _ _ _,fun f p ω sz tk=>rS2W w L f p ω sz tk⟩
  | 3,_,false=>⟨855,hS2,fun ω _ _=>dsS L ω 31 23,fun ω _ _=>dsS_ok h ω _ _,fun f p ω sz tk=>rS3 w L f p ω sz tk⟩
  | 3,_,true=>⟨1184,hS3,fun ω _ _=>dsW L ω 31 13 12,fun ω _ _=>dsW_ok h ω _ _ _,fun f p ω sz tk=>rS3W w L f p ω sz tk⟩
  | 4,_,false=>⟨855,hS2,fun ω _ _=>dsS L ω 31 23,fun ω _ _=>dsS_ok h ω _ _,fun f p ω sz tk=>rS4 w L f p ω sz tk⟩
  | 4,_,true=>⟨1184,hS3,fun ω _ _=>dsW L ω 31 13 12,fun ω _ _=>dsW_ok h ω _ _ _,fun f p ω sz tk=>rS4W w L f p ω sz tk⟩
  | 5,_,false=>⟨855,hS2,fun ω _ _=>dsS L ω 31 23,fun ω _ _=>dsS_ok h ω _ _,fun f p ω sz tk=>rS5 w L f p ω sz tk⟩
  | 5,_,true=>⟨1184,hS3,fun ω _ _=>dsW L ω 31 13 12,fun ω _ _=>dsW_ok h ω _ _ _,fun f p ω sz tk=>rS5W w L f p ω sz tk⟩
  | 6,_,false=>⟨855,hS2,fun ω _ _=>dsS L ω 31 23,fun ω _ _=>dsS_ok h ω _ _,fun f p ω sz tk=>rS6 w L f p ω sz tk⟩
  | 6,_,true=>⟨1184,hS3,fun ω _ _=>dsW L ω 31 13 12,fun ω _ _=>dsW_ok h ω _ _ _,fun f p ω sz tk=>rS6W w L f p ω sz tk⟩
  | n+7,hn,_=>absurd hn (by omega)
theorem okS (w:World):Ct2Ok w ctS:=ct2_okc (own:=icR w) (ks:=[1,0,2]) rfl icR_own (fun _ _=>rfl) (fun _ _=>rfl) (fun _=>rfl) fun L hd=>by
  have h1:sevenS (L.S 0) = true:=hd _ (.head _)
  have h2:isB (L.V 0) = true:=hd _ (.tail _ (.head _))
  have h3:∀d∈geS L.I,d = true:=fun d h=>hd d (.tail _ (.tail _ h))
  obtain ⟨i,hi,hs⟩:=sevenS_is h1
  obtain ⟨b,hb⟩:∃b,L.V 0 = .bool b:=by
    unfold isB at h2
    split at h2
    · rename_i b e
      exact ⟨b,e⟩
    · cases h2
  obtain ⟨n,hh,dsf,hds,run⟩:=knS w L h3 i hi b
  refine ⟨n,hh,[0],fun _ _ _=>[],dsf,rfl,hds,fun f p ω sz tk=>?_⟩
  have z:=run f p ω sz tk
  unfold simS at z
  rw [←hs,←hb] at z
  exact z
end
end Mine
namespace Mine
open PySem PySem.W
noncomputable section
noncomputable def esO (o:Obj):Array DictEntry:=match o.data with
  | .dict es _=>es
  | _=>#[]
noncomputable def epO (o:Obj):Nat:=match o.data with
  | .dict _ n=>n
  | _=>0
noncomputable def frO (o:Obj) (sl:List (Option Value)):Obj:=⟨.type "frame",none,.dict (esO o) (epO o),⟨sl⟩⟩
noncomputable def rdyL (e:PySem.Env):List (Option Value):=some e.code::some (.ref e.globals)::none::some .notImplemented::none::e.func.map Value.ref::some (.ref e.builtins)::e.cells.map fun c=>some (.ref c.2)
noncomputable def kindF:ScopeKind→Bool
  | .function=>true
  | _=>false
noncomputable def envF (e:PySem.Env) (a:Nat) (n:Str) (c:Nat):PySem.Env:={e with frame:=some a,cells:=[(n,c)],scope:={e.scope with kind:= .function,isGenerator:=false,isCoroutine:=false}}
noncomputable def fE (f:Fm) (e:PySem.Env):Fm:={f with e:=fun i=>match i with | 1=>e | i=>f.e i}
noncomputable def simR (w:World) (L:Lt) (f:Fm) (e:PySem.Env) (sl:List (Option Value)) (p:Pos) (ω:Nat→Nat) (sz tk n:Nat) (hs:List Nat) (st:Str) (b:Bool):Out:=
  sim (VW w (icR w) (mkSt (fE f e) 0 [1,0,2])) n ω hs (denQ (codS (up L) st (.bool b))) (codS (up L) st (.bool b)) p [] (sz+10) tk 2 (treeOf [entS (up L),(L.X 0+10,frO (L.O 0) sl)]) [] []
noncomputable def hRf0:NL:=g339 (g207 (g340 (g341 (0::5::4::g9 (g409 (g28 (7::g82 (g410 (g170 (65::g342 (65::g237 (0::0::67::g28 (7::g411 (67::0::67::g28 (7::0::0::67::g14 (g6 (g224 (g8 (0::0::102::100::0::102::100::0::102::102::101::g10 (g224 (0::101::g9 (101::0::99::0::103::101::103::101::g224 (g224 (1::1000007::101::67::65::65::63::64::62::4::2::3::1::101::99::101::104::102::1::1000007::101::104::104::102::65::101::99::101::105::103::1::1000008::101::g291 (64::101::99::101::106::104::1000009::99::6::g6 (1::0::101::106::104::4::1::0::g207 (g292 (107::g343 (108::108::1::0::108::109::38::107::106::108::109::g344 (111::111::109::4::110::2::110::1::39::108::0::[]))))))))))))))))))))))))))))))
noncomputable def hRf1:NL:=g339 (5::g28 (7::g82 (4::g10 (g156 (g340 (0::63::61::63::63::63::g170 (63::g61 (2::g170 (63::63::63::63::g61 (1::10::0::63::g61 (g341 (63::63::g61 (2::63::g170 (g207 (64::g84 (g61 (0::1::12::0::64::g61 (64::g61 (64::1::10::0::0::5::4::g9 (g290 (g28 (7::g82 (g255 (g170 (66::g342 (g335 (g28 (7::g336 (0::68::66::68::0::68::g28 (7::0::0::68::g14 (g6 (102::0::102::g8 (0::0::g345 (102::g10 (102::0::102::0::102::g9 (102::0::100::0::g187 (102::102::0::102::102::0::102::1::1000007::102::68::66::66::64::65::63::4::2::3::1::g293 (105::103::1::1000007::102::g291 (66::g293 (106::104::1::1000008::102::106::106::104::65::g293 (107::105::1000009::100::6::g6 (1::0::102::107::105::4::1::0::g207 (g159 (g159 (108::g343 (g416 (38::108::107::109::110::g344 (112::112::110::4::111::2::111::1::39::109::0::[]))))))))))))))))))))))))))))))))))))))))))))))))
noncomputable def hRf2:NL:=g339 (g207 (g340 (g341 (0::5::4::g9 (g409 (g28 (7::g82 (g410 (g170 (65::g342 (65::g237 (0::0::67::g28 (7::g411 (67::0::67::g28 (7::0::0::67::g14 (g6 (g224 (g8 (0::0::102::100::0::102::100::0::102::102::101::g10 (g224 (0::101::g9 (101::0::99::0::103::101::103::101::g224 (g224 (1::1000007::101::67::65::65::63::64::62::4::2::3::101::99::101::104::102::1::1000007::101::104::104::102::65::101::99::101::105::103::1::1000008::101::g291 (64::101::99::101::106::104::1000009::99::6::g6 (1::0::101::106::104::4::1::0::g207 (g292 (107::g343 (108::108::1::0::108::109::38::107::106::108::109::g344 (111::111::109::4::110::2::110::1::39::108::0::[]))))))))))))))))))))))))))))))
noncomputable def hRf3:NL:=g339 (5::g28 (7::g82 (4::g10 (g156 (g340 (0::63::61::63::63::63::g170 (63::g61 (2::g170 (63::63::63::63::g61 (1::10::0::63::g61 (g341 (63::63::g61 (2::63::g170 (g207 (64::g84 (g61 (0::1::12::0::64::g61 (64::g61 (64::1::10::0::0::5::4::g9 (g290 (g28 (7::g82 (g255 (g170 (66::g342 (g335 (g28 (7::g336 (0::68::66::68::0::68::g28 (7::0::0::68::g14 (g6 (102::0::102::g8 (0::0::g345 (102::g10 (102::0::102::0::102::g9 (102::0::100::0::g187 (102::102::0::102::102::0::102::1::1000007::102::68::66::66::64::65::63::4::2::3::g293 (105::103::1::1000007::102::g291 (66::g293 (106::104::1::1000008::102::106::106::104::65::g293 (107::105::1000009::100::6::g6 (1::0::102::107::105::4::1::0::g207 (g159 (g159 (108::g343 (g416 (38::108::107::109::110::g344 (112::112::110::4::111::2::111::1::39::109::0::[]))))))))))))))))))))))))))))))))))))))))))))))))
def stR7:Str:=q209
def stR8:Str:=q211
def stR9:Str:=q213
theorem rRf7 (w:World) (L:Lt) (f:Fm) (e:PySem.Env) (n:Str) (c:Nat) (p:Pos) (ω:Nat→Nat) (sz tk:Nat):
  RunIs (simR w L f (envF e (L.X 0+10) n c) [] p ω sz tk 982 hRf0 stR7 false) (.ok (.ret (.bool true))) [0,1] [entS (up L),(L.X 0+10,frO (L.O 0) (rdyL (envF e (L.X 0+10) n c)))] (dsS L ω 31 21):=⟨by kernel_rfl⟩
theorem rRf7W (w:World) (L:Lt) (f:Fm) (e:PySem.Env) (n:Str) (c:Nat) (p:Pos) (ω:Nat→Nat) (sz tk:Nat):
  RunIs (simR w L f (envF e (L.X 0+10) n c) [] p ω sz tk 1311 hRf1 stR7 true) (.ok (.ret (.bool true))) [0,1] [entS (up L),(L.X 0+10,frO (L.O 0) (rdyL (envF e (L.X 0+10) n c)))] (dsW L ω 31 14 9):=⟨by kernel_rfl⟩
theorem rRf8 (w:World) (L:Lt) (f:Fm) (e:PySem.Env) (n:Str) (c:Nat) (p:Pos) (ω:Nat→Nat) (sz tk:Nat):
  RunIs (simR w L f (envF e (L.X 0+10) n c) (rdyL (envF e (L.X 0+10) n c)) p ω sz tk 980 hRf2 stR8 false) (.ok (.ret (.bool true))) [0,1] [entS (up L),(L.X 0+10,frO (L.O 0) (rdyL (envF e (L.X 0+10) n c)))] (dsS L ω 31 21):=⟨by kernel_rfl⟩
theorem rRf8W (w:World) (L:Lt) (f:Fm) (e:PySem.Env) (n:Str) (c:Nat) (p:Pos) (ω:Nat→Nat) (sz tk:Nat):
  RunIs (simR w L f (envF e (L.X 0+10) n c) (rdyL (envF e (L.X 0+10) n c)) p ω sz tk 1309 hRf3 stR8 true) (.ok (.ret (.bool true))) [0,1] [entS (up L),(L.X 0+10,frO (L.O 0) (rdyL (envF e (L.X 0+10) n c)))] (dsW L ω 31 14 9):=⟨by kernel_rfl⟩
theorem rRf9 (w:World) (L:Lt) (f:Fm) (e:PySem.Env) (n:Str) (c:Nat) (p:Pos) (ω:Nat→Nat) (sz tk:Nat):
  RunIs (simR w L f (envF e (L.X 0+10) n c) (rdyL (envF e (L.X 0+10) n c)) p ω sz tk 980 hRf2 stR9 false) (.ok (.ret (.bool true))) [0,1] [entS (up L),(L.X 0+10,frO (L.O 0) (rdyL (envF e (L.X 0+10) n c)))] (dsS L ω 31 21):=⟨by kernel_rfl⟩
theorem rRf9W (w:World) (L:Lt) (f:Fm) (e:PySem.Env) (n:Str) (c:Nat) (p:Pos) (ω:Nat→Nat) (sz tk:Nat):
  RunIs (simR w L f (envF e (L.X 0+10) n c) (rdyL (envF e (L.X 0+10) n c)) p ω sz tk 1309 hRf3 stR9 true) (.ok (.ret (.bool true))) [0,1] [entS (up L),(L.X 0+10,frO (L.O 0) (rdyL (envF e (L.X 0+10) n c)))] (dsW L ω 31 14 9):=⟨by kernel_rfl⟩
noncomputable def frV (e:PySem.Env):Value:=match e.frame with
  | some a=> .ref a
  | none=> .none
noncomputable def oneB:List (Str×Nat)→Bool
  | [_]=>true
  | _=>false
noncomputable def dsR (L:Lt):List Bool:=isB (L.V 0)::kindF (L.E 1).scope.kind::(!(L.E 1).scope.isGenerator)::(!(L.E 1).scope.isCoroutine)::oneB (L.E 1).cells::geS L.I
noncomputable def ctR0 (b:Bool) (sb:Str→Bool):Ct2 where
  np:=1
  nx:=1
  aI:=[3]
  uI:=[1,2,4,6,7,8,9]
  iI:=[0,2,3,4,5,1]
  sI:=[0]
  vI:=[5]
  code _ L:=codS L (L.S 0) (L.V 0)
  ents _ L:=[entS L,(L.X 0,frO (L.O 0) (cond b (rdyL (L.E 1)) []))]
  posts _ L _:=[entS L,(L.X 0,frO (L.O 0) (rdyL (L.E 1)))]
  news _ _ _:=[]
  nn:=0
  res _ _ _:= .ret (.bool true)
  ds L:=sb (L.S 0)::dsR L
  obs L:=[(.v (frV (L.E 1)),.v (.ref (L.X 0)))]
  sh:=shapeB [1,0,2]
noncomputable def ctCl:Ct2:=ctR0 false fun s=>eqS stR7 s
noncomputable def ctLi:Ct2:=ctR0 true fun s=>eqS stR8 s || eqS stR9 s
theorem frV_is {e:PySem.Env} {a:Nat} (h:frV e = .ref a):e.frame = some a:=by
  unfold frV at h
  split at h
  · rename_i x hx
    injection h with h
    rw [hx,h]
  · cases h
theorem envF_is {e:PySem.Env} {a:Nat} (h1:e.frame = some a) (h2:kindF e.scope.kind = true) (h3:(!e.scope.isGenerator) = true) (h4:(!e.scope.isCoroutine) = true) (h5:oneB e.cells = true):∃n c,envF e a n c = e:=by
  have hk:e.scope.kind = .function:=by
    unfold kindF at h2
    split at h2
    · assumption
    · cases h2
  have g3:e.scope.isGenerator = false:=by simpa using h3
  have g4:e.scope.isCoroutine = false:=by simpa using h4
  clear h2 h3 h4
  obtain ⟨n,c,hc⟩:∃n c,e.cells = [(n,c)]:=by
    unfold oneB at h5
    split at h5
    · rename_i x hx
      exact ⟨x.1,x.2,hx⟩
    · cases h5
  refine ⟨n,c,?_⟩
  obtain ⟨⟨k,ns,g,co,mo⟩,lo,gl,ce,qu,fu,cd,fr,bu⟩:=e
  clear h5
  dsimp only at h1 hk g3 g4 hc
  subst h1 hk g3 g4 hc
  rfl
theorem fE_is (f:Fm):fE f (f.e 1) = f:=by
  have:(fun i=>match i with | 1=>f.e 1 | i=>f.e i:Nat→PySem.Env) = f.e:=by
    funext i
    match i with
    | 0=>rfl
    | 1=>rfl
    | i+2=>rfl
  show {f with e:=_} = f
  rw [this]
theorem okR0 (w:World) (b:Bool) (sb:Str→Bool) (kn:∀L st h,sb st = true→(∀d∈geS L.I,d = true)→∃(n:Nat) (hs:List Nat) (dsf:(Nat→Nat)→Nat→Nat→List Bool),(∀ω sz tk,∀d∈dsf ω sz tk,d = true)∧
    ∀f e m c p ω sz tk,RunIs (simR w L f (envF e (L.X 0+10) m c) (cond b (rdyL (envF e (L.X 0+10) m c)) []) p ω sz tk n hs st h) (.ok (.ret (.bool true))) [0,1] [entS (up L),(L.X 0+10,frO (L.O 0) (rdyL (envF e (L.X 0+10) m c)))] (dsf ω sz tk)):
    Ct2Ok w (ctR0 b sb):=ct2_okE (own:=icR w) (ks:=[1,0,2]) rfl icR_own (fun _ _=>rfl) (fun _ _=>rfl) (fun _=>rfl) fun L f hd he ho=>by
  have h1:sb (L.S 0) = true:=hd _ (.head _)
  have h2:isB (L.V 0) = true:=hd _ (.tail _ (.head _))
  have k1:kindF (L.E 1).scope.kind = true:=hd _ (.tail _ (.tail _ (.head _)))
  have k2:(!(L.E 1).scope.isGenerator) = true:=hd _ (.tail _ (.tail _ (.tail _ (.head _))))
  have k3:(!(L.E 1).scope.isCoroutine) = true:=hd _ (.tail _ (.tail _ (.tail _ (.tail _ (.head _)))))
  have k4:oneB (L.E 1).cells = true:=hd _ (.tail _ (.tail _ (.tail _ (.tail _ (.tail _ (.head _))))))
  have h3:∀d∈geS L.I,d = true:=fun d h=>hd d (.tail _ (.tail _ (.tail _ (.tail _ (.tail _ (.tail _ h))))))
  have hf:=ho _ (.head _)
  have hf:frV (L.E 1) = .ref (L.X 0+10):=by injection hf
  obtain ⟨m,c,hE⟩:=envF_is (frV_is hf) k1 k2 k3 k4
  have he1:L.E 1 = f.e 1:=he 1
  obtain ⟨v,hv⟩:∃v,L.V 0 = .bool v:=by
    unfold isB at h2
    split at h2
    · rename_i v e
      exact ⟨v,e⟩
    · cases h2
  obtain ⟨n,hs,dsf,hds,run⟩:=kn L (L.S 0) v h1 h3
  refine ⟨n,hs,[0,1],fun _ _ _=>[],dsf,rfl,hds,fun p ω sz tk=>?_⟩
  have z:=run f (L.E 1) m c p ω sz tk
  rw [hE] at z
  unfold simR at z
  rw [he1,fE_is,←hv,←he1] at z
  exact z
theorem okCl (w:World):Ct2Ok w ctCl:=okR0 w false _ fun L st h hst hge=>by
  have e:st = stR7:=(eqS_is.mp hst).symm
  subst e
  cases h with
  | false=>exact ⟨982,hRf0,fun ω _ _=>dsS L ω 31 21,fun ω _ _=>dsS_ok hge ω _ _,fun f e m c p ω sz tk=>rRf7 w L f e m c p ω sz tk⟩
  | true=>exact ⟨1311,hRf1,fun ω _ _=>dsW L ω 31 14 9,fun ω _ _=>dsW_ok hge ω _ _ _,fun f e m c p ω sz tk=>rRf7W w L f e m c p ω sz tk⟩
theorem okLi (w:World):Ct2Ok w ctLi:=okR0 w true _ fun L st h hst hge=>by
  simp only [Bool.or_eq_true] at hst
  rcases hst with hst | hst
  · have e:st = stR8:=(eqS_is.mp hst).symm
    subst e
    cases h with
    | false=>exact ⟨980,hRf2,fun ω _ _=>dsS L ω 31 21,fun ω _ _=>dsS_ok hge ω _ _,fun f e m c p ω sz tk=>rRf8 w L f e m c p ω sz tk⟩
    | true=>exact ⟨1309,hRf3,fun ω _ _=>dsW L ω 31 14 9,fun ω _ _=>dsW_ok hge ω _ _ _,fun f e m c p ω sz tk=>rRf8W w L f e m c p ω sz tk⟩
  · have e:st = stR9:=(eqS_is.mp hst).symm
    subst e
    cases h with
    | false=>exact ⟨980,hRf2,fun ω _ _=>dsS L ω 31 21,fun ω _ _=>dsS_ok hge ω _ _,fun f e m c p ω sz tk=>rRf9 w L f e m c p ω sz tk⟩
    | true=>exact ⟨1309,hRf3,fun ω _ _=>dsW L ω 31 14 9,fun ω _ _=>dsW_ok hge ω _ _ _,fun f e m c p ω sz tk=>rRf9W w L f e m c p ω sz tk⟩
end
end Mine
namespace Mine
noncomputable section
open PySem PySem.W
noncomputable def icK (k:Nat):Icpt:=match k with
  | 0=>icGetAt
  | 1=>icHasAt
  | 2=>icRemAt
  | 3=>icAppAt
  | _=>fun _ _ _ _ _ _ _ _=>none
theorem icK_own {w:World}:OwnOk w icK:=by
  intro b V j hkt hb hp hw hd
  unfold icK
  split
  · exact icGetAt_ok
  · exact icHasAt_ok
  · exact icRemAt_ok
  · exact icAppAt_ok
  · exact icNone_ok
end
end Mine
namespace Mine
open PySem PySem.W
noncomputable section
noncomputable def jI (x:Int):Nat:=(Int.fmod x 16).toNat
noncomputable def clr1 (I:Nat→Int):Nat→Int:=fun k=>match k with | 1=>0 | k=>I k
noncomputable def clr2 (I:Nat→Int):Nat→Int:=fun k=>match k with | 1=>0 | 2=>0 | k=>I k
noncomputable def fin4 (I:Nat→Int):Nat→Int:=fun k=>match k with | 1=>0 | 2=>0 | 3=>I 3 | _=>I 5
noncomputable def dictK (P:Nat→Bool) (X:Nat→Nat) (ep:Nat):Obj:=⟨.type "dict",none,.dict ⟨dictP P X 0 4⟩ ep,⟨[]⟩⟩
noncomputable def npK (w:World) (L:Lt) (gv:Value):List Ent:=[((L.A 0),(zI 1109 (L.A 1))),((L.A 1),(zD 6 [zW w q319 (L.U 0) (.int 16 1642),zW w r43 (L.U 1) (.ref (L.A 2)),zW w r44 (L.U 2) (.ref (L.A 3)),zW w r45 (L.U 3) (.ref (L.X 0)),zW w r46 (L.U 4) (.none),zW w r47 (L.U 5) gv])),((L.A 2),(zL 16 [.ref (L.X 5),.ref (L.X 6),.ref (L.X 7),.ref (L.X 8),.ref (L.X 9),.ref (L.X 10),.ref (L.X 11),.ref (L.X 12),.ref (L.X 13),.ref (L.X 14),.ref (L.X 15),.ref (L.X 16),.ref (L.X 17),.ref (L.X 18),.ref (L.X 19),.ref (L.X 20)])),((L.A 3),(zL 0 [])),((L.A 4),(zL 4 [.int (L.I 1) (L.U 7),.int (L.I 2) (L.U 8),.int (L.I 3) (L.U 9),.int (L.I 4) (L.U 10)]))]
noncomputable def npK3 (w:World) (L:Lt) (gv:Value):List Ent:=[((L.A 0),(zI 1109 (L.A 1))),((L.A 1),(zD 6 [zW w q319 (L.U 1) (.int 16 1642),zW w r43 (L.U 2) (.ref (L.A 2)),zW w r44 (L.U 3) (.ref (L.A 3)),zW w r45 (L.U 4) (.ref (L.X 0)),zW w r46 (L.U 5) (.none),zW w r47 (L.U 6) gv])),((L.A 2),(zL 16 [.ref (L.X 5),.ref (L.X 6),.ref (L.X 7),.ref (L.X 8),.ref (L.X 9),.ref (L.X 10),.ref (L.X 11),.ref (L.X 12),.ref (L.X 13),.ref (L.X 14),.ref (L.X 15),.ref (L.X 16),.ref (L.X 17),.ref (L.X 18),.ref (L.X 19),.ref (L.X 20)])),((L.A 3),(zL 0 [])),((L.A 4),(zL 4 [.int (L.I 1) (L.U 8),.int (L.I 2) (L.U 9),.int (L.I 3) (L.U 10),.int (L.I 4) (L.U 11)]))]
noncomputable def slK (L:Lt) (g:Nat→Obj→Obj):List Ent:=[(L.X 5,g 0 (L.O 5)),(L.X 6,g 1 (L.O 6)),(L.X 7,g 2 (L.O 7)),(L.X 8,g 3 (L.O 8)),(L.X 9,g 4 (L.O 9)),(L.X 10,g 5 (L.O 10)),(L.X 11,g 6 (L.O 11)),(L.X 12,g 7 (L.O 12)),(L.X 13,g 8 (L.O 13)),(L.X 14,g 9 (L.O 14)),(L.X 15,g 10 (L.O 15)),(L.X 16,g 11 (L.O 16)),(L.X 17,g 12 (L.O 17)),(L.X 18,g 13 (L.O 18)),(L.X 19,g 14 (L.O 19)),(L.X 20,g 15 (L.O 20))]
noncomputable def tupK (L:Lt):List Ent:=[(L.X 1,L.O 1),(L.X 2,L.O 2),(L.X 3,L.O 3),(L.X 4,L.O 4)]
noncomputable def exK (L:Lt) (P:Nat→Bool) (X:Nat→Nat) (ep:Nat) (g:Nat→Obj→Obj):List Ent:=(L.X 0,dictK P X ep)::(tupK L++slK L g)
noncomputable def Xk (L:Lt):Nat→Nat:=fun k=>L.X (k+1)
noncomputable def vO1 (L:Lt) (j:Nat) (b:Bool) (u:Nat) (x:Int) (v:Nat):Lt:={L with O:=fun i=>cond (Nat.beq i j) (bO b (zT 0 [.int (L.I j) u,.int x v]) (L.O j)) (L.O i)}
noncomputable def codK (L:Lt) (k:Int) (t:Nat):Code:= .call (.ref 1080) ⟨[.ref (L.A 0),.int k t],[]⟩
noncomputable def codP (L:Lt):Code:= .call (.ref 1066) ⟨[.ref (L.A 0),.int 4 1730,.int (L.I 5) (L.U 0)],[]⟩
noncomputable def ep1 (P:Nat→Bool):Nat:=cntP P 4
noncomputable def ep2 (P:Nat→Bool):Nat:=cond (P 0) (ep1 P+1) (ep1 P)
noncomputable def ep3 (P:Nat→Bool):Nat:=cond (P 1) (ep2 P+1) (ep2 P)
noncomputable def ep4 (P:Nat→Bool):Nat:=cond (P 3) (ep3 P+2) (ep3 P+1)
noncomputable def slIn:Nat→Obj→Obj:=fun _ o=>slotIn o
noncomputable def simK (w:World) (L:Lt) (f:Fm) (p:Pos) (ω:Nat→Nat) (sz tk n:Nat) (hs:List Nat) (c:Code) (sh:List Nat) (es:List Ent):Out:=
  sim (VW w icK (mkSt f 0 sh)) n ω hs (denQ c) c p [] (sz+10) tk 26 (treeOf es) [] []
noncomputable def hK1 (j:Nat):NL:=g346 (7::7::7::28::g26 (7::7::7::7::28::0::g417 (8::8::8::1::0::8::29::29::0::29::29::29::8::g347 (8::g347 (8::29::27::31::0::28::26::0::28::26::g348 (28::g26 (5::4::4::4::34::2::0::32::32::1::0::32::33::0::33::0::33::g349 (5::5::0::5::5::33::0::33::g349 (1::1000006::j::g98 (j::10::35::j::10::28::1::1000006::j::g98 (j::g98 (j::g98 (j::10::28::36::j::10::33::0::33::33::33::32::33::31::35::[])))))))))))))
noncomputable def hK1n:NL:=g346 []
noncomputable def hK2 (j:Nat):NL:=g346 (7::7::7::28::g26 (7::7::7::7::28::0::g417 (9::9::9::1::0::9::29::29::0::29::29::29::9::g347 (9::g347 (9::29::27::31::0::28::26::0::28::26::g348 (28::g26 (5::4::4::4::34::2::0::32::32::1::0::32::33::0::33::0::33::g349 (5::5::0::5::5::33::0::33::g349 (1::1000006::j::g98 (j::10::35::j::10::28::1::1000006::j::g98 (j::g98 (j::g98 (j::10::28::36::j::10::33::0::33::33::33::32::33::31::35::[])))))))))))))
noncomputable def hK2n:NL:=g346 []
noncomputable def hK3 (i j:Nat):NL:=g7 (g145 (26::0::28::g350 (g209 (29::g26 (7::7::0::7::1::0::7::7::7::7::29::g26 (7::7::7::7::29::0::g417 (11::11::11::1::0::11::30::30::0::30::30::30::11::g351 (11::g351 (11::30::28::32::0::29::27::0::29::27::29::g26 (29::g26 (29::29::g418 (33::33::1::0::33::34::0::34::0::34::34::34::33::34::32::0::29::27::29::29::5::5::0::5::5::34::0::34::34::34::33::34::32::0::29::27::29::29::1::1000006::j::g98 (j::10::35::j::10::29::1::1000006::j::g98 (j::g98 (j::g98 (j::10::29::36::j::10::34::0::34::34::34::33::34::32::36::28::g26 (2::28::g127 (28::g348 (7::7::0::7::7::1::0::7::7::5::7::28::g350 (38::36::0::38::36::0::38::g26 (38::g26 (38::38::g418 (1::1000006::i::g98 (i::g98 (i::g98 (i::10::28::37::i::10::[]))))))))))))))))))))))))))
noncomputable def hK3n (i:Nat):NL:=g7 (g145 (26::0::28::g350 (g209 (29::g26 (7::7::0::7::1::0::7::28::g26 (2::28::g127 (28::g348 (7::7::0::7::7::1::0::7::7::5::7::28::g350 (g134 (g26 (31::g26 (31::31::g418 (1::1000006::i::g98 (i::g98 (i::g98 (i::10::28::37::i::10::[]))))))))))))))))
noncomputable def clrB1 (P:Nat→Bool):Nat→Bool:=fun k=>match k with | 0=>false | k=>P k
noncomputable def clrB2 (P:Nat→Bool):Nat→Bool:=fun k=>match k with | 0=>false | 1=>false | k=>P k
noncomputable def finB (P:Nat→Bool):Nat→Bool:=fun k=>match k with | 0=>false | 1=>false | 2=>P 2 | 3=>true | _=>false
theorem patI_clr1 (I:Nat→Int):patI (clr1 I) = clrB1 (patI I):=by
  funext k
  match k with
  | 0=>rfl
  | 1=>rfl
  | 2=>rfl
  | 3=>rfl
  | n+4=>rfl
theorem patI_clr2 (I:Nat→Int):patI (clr2 I) = clrB2 (patI I):=by
  funext k
  match k with
  | 0=>rfl
  | 1=>rfl
  | 2=>rfl
  | 3=>rfl
  | n+4=>rfl
theorem patI_fin4 {I:Nat→Int} (h:I 5 > 0):patI (fin4 I) = finB (patI I):=by
  funext k
  match k with
  | 0=>rfl
  | 1=>rfl
  | 2=>rfl
  | 3=>exact decide_eq_true h
  | n+4=>rfl
noncomputable def osK (L:Lt) (g:Nat→Obj→Obj):List Obj:=(slK L g).map (·.2)
noncomputable def cdCan (x:Int) (os:List Obj) (k:Int):List Bool:=[Nat.blt (jI x) 16,hasI k (selN default os 0 (jI x)),Nat.ble (arrO (selN default os 0 (jI x))).size 1000,Nat.blt (jI x) 16,Nat.blt (jI x) 16,Nat.blt (jI x) 16,Nat.blt (jI x) 16,Nat.blt (jI x) 16,hasI k (selN default os 0 (jI x)),Nat.blt (jI x) 16,Nat.blt (jI x) 16,decide (0≤Int.fmod x 16),decide (Int.fmod x 16 < 2 ^ 63),Nat.blt (jI x) 16,true,true]
noncomputable def cdApp (x:Int) (os:List Obj):List Bool:=[Nat.blt (jI x) 16,Nat.ble (arrO (selN default os 0 (jI x))).size 1000,Nat.blt (jI x) 16,Nat.blt (jI x) 16,Nat.blt (jI x) 16,Nat.blt (jI x) 16,decide (0≤Int.fmod x 16),decide (Int.fmod x 16 < 2 ^ 63),Nat.blt (jI x) 16,true,true]
noncomputable def gRem (k:Int) (b:Bool) (j:Nat):Nat→Obj→Obj:=fun i o=>slotF (remA k) (b && Nat.beq j i) o
noncomputable def gPut (b:Bool) (j j5:Nat):Nat→Obj→Obj:=fun i o=>slotF (fun xs=>xs.push (.int 4 1730)) (Nat.beq j5 i) (gRem 4 b j i o)
noncomputable def gvK (L:Lt):Value:= .int (L.I 0) (L.U 6)
noncomputable def gv3 (L:Lt):Value:= .int (L.I 0) (L.U 7)
noncomputable def Xk3 (L:Lt) (y:Nat):Nat→Nat:=fun k=>match k with | 3=>y+10 | k=>L.X (k+1)
noncomputable def R26:List Nat:=[0,1,2,3,4,5,6,7,8,9,10,11,12,13,14,15,16,17,18,19,20,21,22,23,24,25]
noncomputable def RunK1 (w:World) (L:Lt) (u:Nat) (x:Int) (v:Nat) (f:Fm) (p:Pos) (ω:Nat→Nat) (sz tk:Nat) (P:Nat→Bool):Prop:=
  RunIs (simK w L f p ω sz tk 360 (cond (P 0) (hK1 (jI (L.I 1))) hK1n) (codK (up L) 1 1724) [1,0,0,0,0,1,0,2] (npK w (up L) (gvK L)++exK (up (vO1 L 1 (P 0) u x v)) P (Xk (up L)) (ep1 P) slIn))
    (.ok (.ret .none)) R26 (npK w (up L) (gvK L)++exK (up (vO1 L 1 (P 0) u x v)) (clrB1 P) (Xk (up L)) (ep2 P) (gRem 1 (P 0) (jI (L.I 1)))) (cond (P 0) (cdCan (L.I 1) (osK L slIn) 1) [])
noncomputable def RunK2 (w:World) (L:Lt) (u:Nat) (x:Int) (v:Nat) (f:Fm) (p:Pos) (ω:Nat→Nat) (sz tk:Nat) (P:Nat→Bool):Prop:=
  RunIs (simK w L f p ω sz tk 360 (cond (P 1) (hK2 (jI (L.I 2))) hK2n) (codK (up L) 2 1726) [1,0,0,0,0,1,0,2] (npK w (up L) (gvK L)++exK (up (vO1 L 2 (P 1) u x v)) (clrB1 P) (Xk (up L)) (ep2 P) slIn))
    (.ok (.ret .none)) R26 (npK w (up L) (gvK L)++exK (up (vO1 L 2 (P 1) u x v)) (clrB2 P) (Xk (up L)) (ep3 P) (gRem 2 (P 1) (jI (L.I 2)))) (cond (P 1) (cdCan (L.I 2) (osK L slIn) 2) [])
noncomputable def RunK3 (w:World) (L:Lt) (u:Nat) (x:Int) (v:Nat) (f:Fm) (p:Pos) (ω:Nat→Nat) (sz tk:Nat) (P:Nat→Bool):Prop:=
  RunIs (simK w L f p ω sz tk 650 (cond (P 3) (hK3 (jI (L.I 5)) (jI (L.I 4))) (hK3n (jI (L.I 5)))) (codP (up L)) [0,0,0,0,1,0,2] (npK3 w (up L) (gv3 L)++exK (up (vO1 L 4 (P 3) u x v)) (clrB2 P) (Xk (up L)) (ep3 P) slIn))
    (.ok (.ret .none)) (R26++[cond (P 3) 35 28]) (npK3 w (up L) (.int (L.I 0+1) (cond (P 3) (tk+19) (tk+9)))++exK (up (vO1 L 4 (P 3) u x v)) (finB P) (Xk3 (up L) (cond (P 3) (sz+9) (sz+2))) (ep4 P) (gPut (P 3) (jI (L.I 4)) (jI (L.I 5)))++
      [(cond (P 3) (sz+9) (sz+2)+10,(zT 0 [.int (L.I 5) (L.U 0),.int (L.I 0+1) (cond (P 3) (tk+19) (tk+9))]))])
    (cdApp (L.I 5) (osK L (gRem 4 (P 3) (jI (L.I 4))))++cond (P 3) (cdCan (L.I 4) (osK L slIn) 4) [])
theorem runK1 (w:World) (L:Lt) (u:Nat) (x:Int) (v:Nat) (f:Fm) (p:Pos) (ω:Nat→Nat) (sz tk:Nat):∀b1 b2 b3 b4,RunK1 w L u x v f p ω sz tk (bitsP [b1,b2,b3,b4])
  | false,false,false,false=>⟨by kernel_rfl⟩
  | false,false,false,true=>⟨by kernel_rfl⟩
  | false,false,true,false=>⟨by kernel_rfl⟩
  | false,false,true,true=>⟨by kernel_rfl⟩
  | false,true,false,false=>⟨by kernel_rfl⟩
  | false,true,false,true=>⟨by kernel_rfl⟩
  | false,true,true,false=>⟨by kernel_rfl⟩
  | false,true,true,true=>⟨by kernel_rfl⟩
  | true,false,false,false=>⟨by kernel_rfl⟩
  | true,false,false,true=>⟨by kernel_rfl⟩
  | true,false,true,false=>⟨by kernel_rfl⟩
  | true,false,true,true=>⟨by kernel_rfl⟩
  | true,true,false,false=>⟨by kernel_rfl⟩
  | true,true,false,true=>⟨by kernel_rfl⟩
  | true,true,true,false=>⟨by kernel_rfl⟩
  | true,true,true,true=>⟨by kernel_rfl⟩
theorem runK2 (w:World) (L:Lt) (u:Nat) (x:Int) (v:Nat) (f:Fm) (p:Pos) (ω:Nat→Nat) (sz tk:Nat):∀b1 b2 b3 b4,RunK2 w L u x v f p ω sz tk (bitsP [b1,b2,b3,b4])
  | false,false,false,false=>⟨by kernel_rfl⟩
  | false,false,false,true=>⟨by kernel_rfl⟩
  | false,false,true,false=>⟨by kernel_rfl⟩
  | false,false,true,true=>⟨by kernel_rfl⟩
  | false,true,false,false=>⟨by kernel_rfl⟩
  | false,true,false,true=>⟨by kernel_rfl⟩
  | false,true,true,false=>⟨by kernel_rfl⟩
  | false,true,true,true=>⟨by kernel_rfl⟩
  | true,false,false,false=>⟨by kernel_rfl⟩
  | true,false,false,true=>⟨by kernel_rfl⟩
  | true,false,true,false=>⟨by kernel_rfl⟩
  | true,false,true,true=>⟨by kernel_rfl⟩
  | true,true,false,false=>⟨by kernel_rfl⟩
  | true,true,false,true=>⟨by kernel_rfl⟩
  | true,true,true,false=>⟨by kernel_rfl⟩
  | true,true,true,true=>⟨by kernel_rfl⟩
theorem runK3 (w:World) (L:Lt) (u:Nat) (x:Int) (v:Nat) (f:Fm) (p:Pos) (ω:Nat→Nat) (sz tk:Nat):∀b1 b2 b3 b4,RunK3 w L u x v f p ω sz tk (bitsP [b1,b2,b3,b4])
  | false,false,false,false=>⟨by kernel_rfl⟩
  | false,false,false,true=>⟨by kernel_rfl⟩
  | false,false,true,false=>⟨by kernel_rfl⟩
  | false,false,true,true=>⟨by kernel_rfl⟩
  | false,true,false,false=>⟨by kernel_rfl⟩
  | false,true,false,true=>⟨by kernel_rfl⟩
  | false,true,true,false=>⟨by kernel_rfl⟩
  | false,true,true,true=>⟨by kernel_rfl⟩
  | true,false,false,false=>⟨by kernel_rfl⟩
  | true,false,false,true=>⟨by kernel_rfl⟩
  | true,false,true,false=>⟨by kernel_rfl⟩
  | true,false,true,true=>⟨by kernel_rfl⟩
  | true,true,false,false=>⟨by kernel_rfl⟩
  | true,true,false,true=>⟨by kernel_rfl⟩
  | true,true,true,false=>⟨by kernel_rfl⟩
  | true,true,true,true=>⟨by kernel_rfl⟩
end
end Mine
namespace Mine
open PySem PySem.W
noncomputable section
noncomputable def tup2B (t:Int) (o:Obj):Bool:=match o with
  | ⟨.type nm,none,.seq ⟨[.int t' _,.int _ _]⟩ 0,⟨[]⟩⟩=>Nat.beq (PySem.code nm) 439922816629 && decide (t' = t)
  | _=>false
noncomputable def allSm (os:List Obj):Bool:=os.all fun o=>Nat.ble (arrO o).size 900
theorem jI_lt (x:Int):jI x < 16:=by
  have f0:0≤Int.fmod x 16:=Int.fmod_nonneg_of_pos _ (by decide)
  have f1:Int.fmod x 16 < 16:=Int.fmod_lt_of_pos _ (by decide)
  show (Int.fmod x 16).toNat < 16
  omega
theorem jI_blt (x:Int):Nat.blt (jI x) 16 = true:=Nat.ble_eq_true_of_le (jI_lt x)
theorem fm_ge (x:Int):decide (0≤Int.fmod x 16) = true:=decide_eq_true (Int.fmod_nonneg_of_pos _ (by decide))
theorem fm_lt (x:Int):decide (Int.fmod x 16 < 2 ^ 63) = true:=decide_eq_true (by
  have f1:Int.fmod x 16 < 16:=Int.fmod_lt_of_pos _ (by decide)
  omega)
theorem selN_all {α:Type} {p:α→Prop} {d:α} (hd:p d):∀{l:List α} (i k:Nat),(∀o∈l,p o)→p (selN d l i k)
  | [],_,_,_=>hd
  | x::r,i,k,h=>by
    show p (cond (Nat.beq k i) x (selN d r (i+1) k))
    cases Nat.beq k i with
    | true=>exact h x (.head _)
    | false=>exact selN_all hd _ _ fun o ho=>h o (.tail _ ho)
theorem sm_sel {os:List Obj} {n:Nat} (h:∀o∈os,(arrO o).size≤n) (k:Nat):(arrO (selN default os 0 k)).size≤n:=
  selN_all (p:=fun o=>(arrO o).size≤n) (Nat.zero_le _) 0 k h
theorem allSm_is {os:List Obj} (h:allSm os = true):∀o∈os,(arrO o).size≤900:=fun o ho=>Nat.le_of_ble_eq_true (List.all_eq_true.mp h o ho)
theorem cdCan_ok {x k:Int} {os:List Obj} (h1:hasI k (selN default os 0 (jI x)) = true) (h2:allSm os = true):∀d∈cdCan x os k,d = true:=by
  have h3:Nat.ble (arrO (selN default os 0 (jI x))).size 1000 = true:=Nat.ble_eq_true_of_le (Nat.le_trans (sm_sel (allSm_is h2) _) (by decide))
  intro d hd
  unfold cdCan at hd
  rw [h1,h3,jI_blt,fm_ge,fm_lt] at hd
  simp only [List.mem_cons,List.not_mem_nil,or_false,or_self] at hd
  exact hd
theorem cdApp_ok {x:Int} {os:List Obj} (h2:∀o∈os,(arrO o).size≤900):∀d∈cdApp x os,d = true:=by
  have h3:Nat.ble (arrO (selN default os 0 (jI x))).size 1000 = true:=Nat.ble_eq_true_of_le (Nat.le_trans (sm_sel h2 _) (by decide))
  intro d hd
  unfold cdApp at hd
  rw [h3,jI_blt,fm_ge,fm_lt] at hd
  simp only [List.mem_cons,List.not_mem_nil,or_false,or_self] at hd
  exact hd
theorem osK_is (L:Lt) (g:Nat→Obj→Obj):osK L g = (List.range 16).map fun i=>g i (L.O (5+i)):=rfl
theorem rem_size (k:Int) (b:Bool) (j i:Nat) (o:Obj):(arrO (gRem k b j i o)).size≤(arrO o).size:=by
  show (arrO (slotF (remA k) (b && Nat.beq j i) o)).size≤_
  cases (b && Nat.beq j i) with
  | false=>exact Nat.le_refl _
  | true=>
    show (remA k (arrO o)).size≤_
    unfold remA Array.eraseIdxIfInBounds
    split
    · rw [Array.size_eraseIdx];omega
    · exact Nat.le_refl _
theorem sm_rem {L:Lt} (h:allSm (osK L slIn) = true) (k:Int) (b:Bool) (j:Nat):∀o∈osK L (gRem k b j),(arrO o).size≤900:=by
  intro o ho
  rw [osK_is] at ho
  obtain ⟨i,hi,rfl⟩:=List.mem_map.mp ho
  have z:=allSm_is h (slIn i (L.O (5+i))) (by rw [osK_is];exact List.mem_map.mpr ⟨i,hi,rfl⟩)
  exact Nat.le_trans (rem_size _ _ _ _ _) z
theorem vO1_is {L:Lt} {j:Nat} {b:Bool} (h:cond b (tup2B (L.I j) (L.O j)) true = true):∃u x v,vO1 L j b u x v = L:=by
  have key:∃u x v,bO b (zT 0 [.int (L.I j) u,.int x v]) (L.O j) = L.O j:=by
    cases b with
    | false=>exact ⟨0,0,0,rfl⟩
    | true=>
      have h:tup2B (L.I j) (L.O j) = true:=h
      unfold tup2B at h
      split at h
      · rename_i nm t' u x v e
        rw [Bool.and_eq_true] at h
        have h1:nm = "tuple":=PySem.code_inj _ _ ((Nat.eq_of_beq_eq_true h.1).trans (by decide+kernel))
        have h2:t' = L.I j:=of_decide_eq_true h.2
        subst h1
        rw [h2] at e
        exact ⟨u,x,v,e.symm⟩
      · cases h
  obtain ⟨u,x,v,e⟩:=key
  refine ⟨u,x,v,?_⟩
  have:(fun i=>cond (Nat.beq i j) (bO b (zT 0 [.int (L.I j) u,.int x v]) (L.O j)) (L.O i)) = L.O:=by
    funext i
    rw [e]
    cases q:Nat.beq i j with
    | false=>rfl
    | true=>rw [Nat.eq_of_beq_eq_true q];rfl
  show {L with O:=_} = L
  rw [this]
noncomputable def dsK (L:Lt) (j:Nat) (k:Int) (b:Bool):List Bool:=[cond b (hasI k (selN default (osK L slIn) 0 (jI (L.I j)))) true,cond b (tup2B (L.I j) (L.O j)) true,allSm (osK L slIn)]
noncomputable def ctK1:Ct2 where
  np:=5
  nx:=21
  aI:=[1,4,9,11,35]
  uI:=[6,8,10,12,14,15,16,36,37,38,39]
  iI:=[2,3,4,5,6]
  code _ L:=codK L 1 1724
  ents w L:=npK w L (gvK L)++exK L (patI L.I) (Xk L) (ep1 (patI L.I)) slIn
  posts w L _:=npK w L (gvK L)++exK L (patI (clr1 L.I)) (Xk L) (ep2 (patI L.I)) (gRem 1 (patI L.I 0) (jI (L.I 1)))
  news _ _ _:=[]
  nn:=0
  res _ _ _:= .ret .none
  ds L:=dsK L 1 1 (patI L.I 0)
  sh:=shapeB [1,0,0,0,0,1,0,2]
noncomputable def ctK2:Ct2 where
  np:=5
  nx:=21
  aI:=[1,4,9,11,35]
  uI:=[6,8,10,12,14,15,16,36,37,38,39]
  iI:=[2,3,4,5,6]
  code _ L:=codK L 2 1726
  ents w L:=npK w L (gvK L)++exK L (patI (clr1 L.I)) (Xk L) (ep2 (patI L.I)) slIn
  posts w L _:=npK w L (gvK L)++exK L (patI (clr2 L.I)) (Xk L) (ep3 (patI L.I)) (gRem 2 (patI L.I 1) (jI (L.I 2)))
  news _ _ _:=[]
  nn:=0
  res _ _ _:= .ret .none
  ds L:=dsK L 2 2 (patI L.I 1)
  sh:=shapeB [1,0,0,0,0,1,0,2]
noncomputable def ctK3:Ct2 where
  np:=5
  nx:=21
  aI:=[1,5,10,12,36]
  uI:=[3,7,9,11,13,15,16,17,37,38,39,40]
  iI:=[3,4,5,6,7,1]
  code _ L:=codP L
  ents w L:=npK3 w L (gv3 L)++exK L (patI (clr2 L.I)) (Xk L) (ep3 (patI L.I)) slIn
  posts w L Y:=npK3 w L (.int (L.I 0+1) (Y 1))++exK L (patI (fin4 L.I)) (Xk3 L (Y 0)) (ep4 (patI L.I)) (gPut (patI L.I 3) (jI (L.I 4)) (jI (L.I 5)))
  news _ L Y:=[(Y 0+10,(zT 0 [.int (L.I 5) (L.U 0),.int (L.I 0+1) (Y 1)]))]
  nn:=1
  res _ _ _:= .ret .none
  ds L:=decide (L.I 5 > 0)::dsK L 4 4 (patI L.I 3)
  sh:=shapeB [0,0,0,0,1,0,2]
theorem patI_bits (I:Nat→Int):patI I = bitsP [decide (I 1 > 0),decide (I 2 > 0),decide (I 3 > 0),decide (I 4 > 0)]:=rfl
end
end Mine
namespace Mine
open PySem PySem.W
noncomputable section
theorem npK_len (w:World) (L:Lt) (g:Value):(npK w L g).length = 5:=rfl
theorem npK3_len (w:World) (L:Lt) (g:Value):(npK3 w L g).length = 5:=rfl
theorem exK_len (L:Lt) (P:Nat→Bool) (X:Nat→Nat) (e:Nat) (g:Nat→Obj→Obj):(exK L P X e g).length = 21:=rfl
theorem castK {P Q:Prop} (h:P = Q) (z:P):Q:=h▸z
theorem runIs_nil {o:Out} {r:Result} {is:List Nat} {es:List Ent} {ds:List Bool} (h:RunIs o r is es ds):RunIs o r is (es++[]) ds:=by rw [List.append_nil];exact h
theorem okK1 (w:World):Ct2Ok w ctK1:=ct2_okc (own:=icK) (ks:=[1,0,0,0,0,1,0,2]) rfl icK_own (fun L Y=>by
  show (npK _ _ _++exK _ _ _ _ _).length = (npK _ _ _++exK _ _ _ _ _).length
  rw [List.length_append,List.length_append,npK_len,exK_len,exK_len]) (fun _ _=>rfl) (fun _=>by kernel_rfl) fun L hd=>by
  have h1:cond (patI L.I 0) (hasI 1 (selN default (osK L slIn) 0 (jI (L.I 1)))) true = true:=hd _ (.head _)
  have h2:cond (patI L.I 0) (tup2B (L.I 1) (L.O 1)) true = true:=hd _ (.tail _ (.head _))
  have h3:allSm (osK L slIn) = true:=hd _ (.tail _ (.tail _ (.head _)))
  obtain ⟨u,x,v,hv⟩:=vO1_is h2
  refine ⟨360,cond (patI L.I 0) (hK1 (jI (L.I 1))) hK1n,R26,fun _ _ _=>[],fun _ _ _=>cond (patI L.I 0) (cdCan (L.I 1) (osK L slIn) 1) [],rfl,fun _ _ _ d hd=>?_,fun f p ω sz tk=>?_⟩
  · cases q:patI L.I 0 with
    | false=>rw [q] at hd;cases hd
    | true=>
      rw [q] at hd h1
      exact cdCan_ok h1 h3 d hd
  · have z:=runK1 w L u x v f p ω sz tk (decide (L.I 1 > 0)) (decide (L.I 2 > 0)) (decide (L.I 3 > 0)) (decide (L.I 4 > 0))
    rw [←patI_bits] at z
    unfold RunK1 simK at z
    rw [hv,←patI_clr1] at z
    have z:=runIs_nil z
    exact castK (by kernel_rfl) z
theorem okK2 (w:World):Ct2Ok w ctK2:=ct2_okc (own:=icK) (ks:=[1,0,0,0,0,1,0,2]) rfl icK_own (fun L Y=>by
  show (npK _ _ _++exK _ _ _ _ _).length = (npK _ _ _++exK _ _ _ _ _).length
  rw [List.length_append,List.length_append,npK_len,exK_len,exK_len]) (fun _ _=>rfl) (fun _=>by kernel_rfl) fun L hd=>by
  have h1:cond (patI L.I 1) (hasI 2 (selN default (osK L slIn) 0 (jI (L.I 2)))) true = true:=hd _ (.head _)
  have h2:cond (patI L.I 1) (tup2B (L.I 2) (L.O 2)) true = true:=hd _ (.tail _ (.head _))
  have h3:allSm (osK L slIn) = true:=hd _ (.tail _ (.tail _ (.head _)))
  obtain ⟨u,x,v,hv⟩:=vO1_is h2
  refine ⟨360,cond (patI L.I 1) (hK2 (jI (L.I 2))) hK2n,R26,fun _ _ _=>[],fun _ _ _=>cond (patI L.I 1) (cdCan (L.I 2) (osK L slIn) 2) [],rfl,fun _ _ _ d hd=>?_,fun f p ω sz tk=>?_⟩
  · cases q:patI L.I 1 with
    | false=>rw [q] at hd;cases hd
    | true=>
      rw [q] at hd h1
      exact cdCan_ok h1 h3 d hd
  · have z:=runK2 w L u x v f p ω sz tk (decide (L.I 1 > 0)) (decide (L.I 2 > 0)) (decide (L.I 3 > 0)) (decide (L.I 4 > 0))
    rw [←patI_bits] at z
    unfold RunK2 simK at z
    rw [hv,←patI_clr2,←patI_clr1] at z
    have z:=runIs_nil z
    exact castK (by kernel_rfl) z
theorem okK3 (w:World):Ct2Ok w ctK3:=ct2_okc (own:=icK) (ks:=[0,0,0,0,1,0,2]) rfl icK_own (fun L Y=>by
  show (npK3 _ _ _++exK _ _ _ _ _).length = (npK3 _ _ _++exK _ _ _ _ _).length
  rw [List.length_append,List.length_append,npK3_len,npK3_len,exK_len,exK_len]) (fun _ _=>rfl) (fun _=>by kernel_rfl) fun L hd=>by
  have h0:L.I 5 > 0:=of_decide_eq_true (hd _ (.head _))
  have h1:cond (patI L.I 3) (hasI 4 (selN default (osK L slIn) 0 (jI (L.I 4)))) true = true:=hd _ (.tail _ (.head _))
  have h2:cond (patI L.I 3) (tup2B (L.I 4) (L.O 4)) true = true:=hd _ (.tail _ (.tail _ (.head _)))
  have h3:allSm (osK L slIn) = true:=hd _ (.tail _ (.tail _ (.tail _ (.head _))))
  obtain ⟨u,x,v,hv⟩:=vO1_is h2
  refine ⟨650,cond (patI L.I 3) (hK3 (jI (L.I 5)) (jI (L.I 4))) (hK3n (jI (L.I 5))),R26++[cond (patI L.I 3) 35 28],fun sz tk _=>[cond (patI L.I 3) (sz+9) (sz+2),cond (patI L.I 3) (tk+19) (tk+9)],
    fun _ _ _=>cdApp (L.I 5) (osK L (gRem 4 (patI L.I 3) (jI (L.I 4))))++cond (patI L.I 3) (cdCan (L.I 4) (osK L slIn) 4) [],?_,fun _ _ _ d hd=>?_,fun f p ω sz tk=>?_⟩
  · cases patI L.I 3 <;> rfl
  · rcases List.mem_append.mp hd with hd | hd
    · exact cdApp_ok (sm_rem h3 _ _ _) d hd
    · cases q:patI L.I 3 with
      | false=>rw [q] at hd;cases hd
      | true=>
        rw [q] at hd h1
        exact cdCan_ok h1 h3 d hd
  · have z:=runK3 w L u x v f p ω sz tk (decide (L.I 1 > 0)) (decide (L.I 2 > 0)) (decide (L.I 3 > 0)) (decide (L.I 4 > 0))
    rw [←patI_bits] at z
    unfold RunK3 simK at z
    rw [hv,←patI_fin4 h0,←patI_clr2] at z
    exact castK (by kernel_rfl) z
end
end Mine
namespace Mine
open PySem PySem.W
noncomputable section
noncomputable def hC2a:NL:=g39 (g97 (18::g257 (g136 (19::g257 (g94 (20::20::g257 (g188 (21::g419 (21::g17 (21::g420 (17::17::17::0::17::17::0::16::1::g96 (23::[]))))))))))))
noncomputable def hC2b:NL:=g39 (g97 (18::g257 (g136 (19::g257 (g94 (20::20::g419 (20::g17 (20::g420 (16::16::16::0::16::16::g64 (g188 (21::g419 (21::g17 (21::g420 (17::17::17::0::17::17::0::16::1::g96 (23::[])))))))))))))))
noncomputable def acc2 (I:Nat→Int) (P:Nat→Bool) (Y:Nat→Nat):Obj:=(zL 4 [.int 0 (Y 0),.int 0 (Y 1),.int (cond (P 2) (I 3) 0) (Y 2),.int (I 5) (Y 3)])
noncomputable def np2 (w:World) (L:Lt):List Ent:=[((L.A 0),⟨.type "list_iterator",none,.fields ⟨[.ref (L.A 5),.int 0 0]⟩,⟨[]⟩⟩),((L.A 5),(zL 0 [.int 1 1724,.int 2 1726,.int 3 1728,.int 4 1730])),((L.A 1),(zL 0 [])),((L.A 2),(zD 0 [])),((L.A 4),⟨.type "cell",none,.cell (some (.ref (L.A 6))),⟨[]⟩⟩),((L.A 6),(zI 1173 (L.A 7))),((L.A 7),(zD 14 [zW w r10 (L.U 0) (.ref (L.A 8)),zW w r11 (L.U 1) (.ref (L.A 9)),zW w r12 (L.U 2) (.ref (L.A 10)),zW w r13 (L.U 3) (L.V 0),zW w r14 (L.U 4) (.ref (L.A 11)),zW w r15 (L.U 5) (.ref (L.A 12)),zW w r16 (L.U 6) (.ref (L.A 13)),zW w r17 (L.U 7) (.ref (L.A 14)),zW w r18 (L.U 8) (.ref (L.A 15)),zW w r19 (L.U 9) (.ref (L.A 16)),zW w r20 (L.U 10) (.none),zW w r21 (L.U 11) (.int 0 (L.U 12)),zW w r22 (L.U 13) (.int 0 (L.U 14)),zW w r23 (L.U 15) (.bool true)])),((L.A 16),(zI 1109 (L.A 17))),((L.A 17),(zD 6 [zW w q319 (L.U 16) (.int 16 1642),zW w r43 (L.U 17) (.ref (L.A 18)),zW w r44 (L.U 18) (.ref (L.A 19)),zW w r45 (L.U 19) (.ref (L.X 0)),zW w r46 (L.U 20) (.none),zW w r47 (L.U 21) (.int (L.I 0) (L.U 22))])),((L.A 21),(zL 4 [.int (L.I 1) (L.U 23),.int (L.I 2) (L.U 24),.int (L.I 3) (L.U 25),.int (L.I 4) (L.U 26)])),((L.A 22),(zL 0 [.int 0 (L.U 27),.int 0 (L.U 28),.int (L.I 3) (L.U 25),.int (L.I 5) (L.U 29)]))]
noncomputable def np2' (w:World) (L:Lt) (P:Nat→Bool) (Y:Nat→Nat):List Ent:=[((L.A 0),⟨.type "list_iterator",none,.fields ⟨[.none,.int 4 0]⟩,⟨[]⟩⟩),((L.A 5),(zL 0 [.int 1 1724,.int 2 1726,.int 3 1728,.int 4 1730])),((L.A 1),acc2 L.I P Y),((L.A 2),(zD 1 [zW w ⟨⟨[107,101,121]⟩⟩ (Y 4) (.int 4 1730)])),((L.A 4),⟨.type "cell",none,.cell (some (.ref (L.A 6))),⟨[]⟩⟩),((L.A 6),(zI 1173 (L.A 7))),((L.A 7),(zD 14 [zW w r10 (L.U 0) (.ref (L.A 8)),zW w r11 (L.U 1) (.ref (L.A 9)),zW w r12 (L.U 2) (.ref (L.A 10)),zW w r13 (L.U 3) (L.V 0),zW w r14 (L.U 4) (.ref (L.A 11)),zW w r15 (L.U 5) (.ref (L.A 12)),zW w r16 (L.U 6) (.ref (L.A 13)),zW w r17 (L.U 7) (.ref (L.A 14)),zW w r18 (L.U 8) (.ref (L.A 15)),zW w r19 (L.U 9) (.ref (L.A 16)),zW w r20 (L.U 10) (.none),zW w r21 (L.U 11) (.int 0 (L.U 12)),zW w r22 (L.U 13) (.int 0 (L.U 14)),zW w r23 (L.U 15) (.bool true)])),((L.A 16),(zI 1109 (L.A 17))),((L.A 17),(zD 6 [zW w q319 (L.U 16) (.int 16 1642),zW w r43 (L.U 17) (.ref (L.A 18)),zW w r44 (L.U 18) (.ref (L.A 19)),zW w r45 (L.U 19) (.ref (L.X 0)),zW w r46 (L.U 20) (.none),zW w r47 (L.U 21) (.int (L.I 0) (L.U 22))])),((L.A 21),(zL 4 [.int (L.I 1) (L.U 23),.int (L.I 2) (L.U 24),.int (L.I 3) (L.U 25),.int (L.I 4) (L.U 26)])),((L.A 22),(zL 0 [.int 0 (L.U 27),.int 0 (L.U 28),.int (L.I 3) (L.U 25),.int (L.I 5) (L.U 29)]))]
noncomputable def vO2 (L:Lt) (b:Bool) (u3:Nat) (v3:Value) (u4:Nat) (v4:Value):Lt:={L with O:=fun i=>match i with | 3=>bO b (zT 0 [.int (L.I 3) u3,v3]) (L.O 3) | 4=>(zT 0 [.int (L.I 5) u4,v4]) | i=>L.O i}
noncomputable def ex2 (L:Lt) (P:Nat→Bool) (ep:Nat):List Ent:=[(L.X 0,dictK P (Xk L) ep),(L.X 1,L.O 1),(L.X 2,L.O 2),(L.X 3,L.O 3),(L.X 4,L.O 4)]
noncomputable def cd2 (L:Lt) (P:Nat→Bool):List Bool:=[true,L.I 5 != 0]++(cond (P 2) [true,L.I 3 != 0] [true]++[true,true])
noncomputable def y2 (P:Nat→Bool) (u3 u4 tk:Nat):List Nat:=[tk+6,tk+13,cond (P 2) u3 (tk+20),u4,tk]
noncomputable def R16:List Nat:=[0,1,2,3,4,5,6,7,8,9,10,11,12,13,14,15]
noncomputable def RunC2 (w:World) (L:Lt) (u3:Nat) (v3:Value) (u4:Nat) (v4:Value) (f:Fm) (ω:Nat→Nat) (sz tk:Nat) (P:Nat→Bool):Prop:=
  RunIs (sim (VW w icNil (mkSt f 0 [0,1,0,2])) 620 ω (cond (P 2) hC2b hC2a) (loopT (lopC (up L))) (lopC (up L)) (loopP (lopC (up L))) [] (sz+10) tk 16 (treeOf (np2 w (up L)++ex2 (up (vO2 L (P 2) u3 v3 u4 v4)) (finB P) (ep4 P))) [] [])
    (.ok .next) R16 (np2' w (up L) P (rd (y2 P u3 u4 tk))++ex2 (up (vO2 L (P 2) u3 v3 u4 v4)) (finB P) (ep4 P)) (cd2 L P)
theorem runC2 (w:World) (L:Lt) (u3:Nat) (v3:Value) (u4:Nat) (v4:Value) (f:Fm) (ω:Nat→Nat) (sz tk:Nat):∀b1 b2 b3 b4,RunC2 w L u3 v3 u4 v4 f ω sz tk (bitsP [b1,b2,b3,b4])
  | false,false,false,false=>⟨by kernel_rfl⟩
  | false,false,false,true=>⟨by kernel_rfl⟩
  | false,false,true,false=>⟨by kernel_rfl⟩
  | false,false,true,true=>⟨by kernel_rfl⟩
  | false,true,false,false=>⟨by kernel_rfl⟩
  | false,true,false,true=>⟨by kernel_rfl⟩
  | false,true,true,false=>⟨by kernel_rfl⟩
  | false,true,true,true=>⟨by kernel_rfl⟩
  | true,false,false,false=>⟨by kernel_rfl⟩
  | true,false,false,true=>⟨by kernel_rfl⟩
  | true,false,true,false=>⟨by kernel_rfl⟩
  | true,false,true,true=>⟨by kernel_rfl⟩
  | true,true,false,false=>⟨by kernel_rfl⟩
  | true,true,false,true=>⟨by kernel_rfl⟩
  | true,true,true,false=>⟨by kernel_rfl⟩
  | true,true,true,true=>⟨by kernel_rfl⟩
noncomputable def ctC2:Ct2 where
  np:=11
  nx:=5
  aI:=[0,1,2,3,4,6,16,18,21,23,25,29,31,33,35,37,39,47,52,54,56,60,65]
  uI:=[20,22,24,26,28,30,32,34,36,38,40,41,42,43,44,45,49,51,53,55,57,58,59,61,62,63,64,66,67,69]
  iI:=[8,9,10,11,12,16]
  vI:=[27]
  code _ L:=codC L
  ents w L:=np2 w L++ex2 L (patI (fin4 L.I)) (ep4 (patI L.I))
  posts w L Y:=np2' w L (patI L.I) Y++ex2 L (patI (fin4 L.I)) (ep4 (patI L.I))
  news _ _ _:=[]
  nn:=0
  res _ _ _:= .next
  ds L:=[decide (L.I 5 > 0),cond (patI L.I 2) (tupB (L.I 3) (L.O 3)) true,tupB (L.I 5) (L.O 4)]
  sh:=shapeB [0,1,0,2]
theorem np2_len (w:World) (L:Lt):(np2 w L).length = 11:=rfl
theorem np2'_len (w:World) (L:Lt) (P:Nat→Bool) (Y:Nat→Nat):(np2' w L P Y).length = 11:=rfl
theorem ex2_len (L:Lt) (P:Nat→Bool) (e:Nat):(ex2 L P e).length = 5:=rfl
theorem vO2_is {L:Lt} {b:Bool} (h3:cond b (tupB (L.I 3) (L.O 3)) true = true) (h4:tupB (L.I 5) (L.O 4) = true):∃u3 v3 u4 v4,vO2 L b u3 v3 u4 v4 = L:=by
  obtain ⟨u4,v4,e4⟩:=tupB_is h4
  have key:∃u v,bO b (zT 0 [.int (L.I 3) u,v]) (L.O 3) = L.O 3:=by
    cases b with
    | false=>exact ⟨0,.none,rfl⟩
    | true=>
      obtain ⟨u,v,e⟩:=tupB_is h3
      exact ⟨u,v,e.symm⟩
  obtain ⟨u3,v3,e3⟩:=key
  refine ⟨u3,v3,u4,v4,?_⟩
  have:(fun i=>match i with | 3=>bO b (zT 0 [.int (L.I 3) u3,v3]) (L.O 3) | 4=>(zT 0 [.int (L.I 5) u4,v4]) | i=>L.O i:Nat→Obj) = L.O:=by
    funext i
    match i with
    | 0=>rfl
    | 1=>rfl
    | 2=>rfl
    | 3=>exact e3
    | 4=>exact e4.symm
    | i+5=>rfl
  show {L with O:=_} = L
  rw [this]
theorem okC2 (w :World):Ct2Ok w ctC2 where
  plen:=fun L Y=>by
    show (np2' _ _ _ _++ex2 _ _ _).length = (np2 _ _++ex2 _ _ _).length
    rw [List.length_append,List.length_append,np2_len,np2'_len,ex2_len]
  nlen:=fun _ _=>rfl
  triple:=by
    intro L sz tk st hst hd _ _
    obtain ⟨f,rfl⟩:=shape_mk (ks:=[0,1,0,2]) 0 hst
    have h0:L.I 5 > 0:=of_decide_eq_true (hd _ (.head _))
    obtain ⟨u3,v3,u4,v4,hv⟩:=vO2_is (L:=L) (b:=patI L.I 2) (hd _ (.tail _ (.head _))) (hd _ (.tail _ (.tail _ (.head _))))
    have h1:insL 0 (ctC2.ents w (up L)) .nil = some (treeOf (ctC2.ents w (up L))):=by
      unfold treeOf
      cases e:insL 0 (ctC2.ents w (up L)) .nil with
      | none => have z:(insL 0 (ctC2.ents w (up L)) .nil).isSome = true:=by kernel_rfl
                rw [e] at z;cases z
      | some x=>rfl
    have hds:∀d∈cd2 L (patI L.I),d = true:=by
      intro d hd
      unfold cd2 at hd
      have e5:(L.I 5 != 0) = true:=bne_iff_ne.mpr (by omega)
      rw [e5] at hd
      cases q:patI L.I 2 with
      | false=>
        rw [q] at hd
        simp only [cond_false,List.cons_append,List.nil_append,List.mem_cons,List.not_mem_nil,or_false,or_self] at hd
        exact hd
      | true=>
        have e3:(L.I 3 != 0) = true:=bne_iff_ne.mpr (by have h:L.I 3 > 0:=patI_pos (k:=2) (by decide) q;omega)
        rw [q,e3] at hd
        simp only [cond_true,List.cons_append,List.nil_append,List.mem_cons,List.not_mem_nil,or_false,or_self] at hd
        exact hd
    refine triple2_of_comp (Y:=fun tk _=>rd (y2 (patI L.I) u3 u4 tk)) (own:=icNil) (is:=R16) (j:=0) (n:=620) (hs:=cond (patI L.I 2) hC2b hC2a) icNil_own h1 rfl rfl rfl (fun ω=>⟨_,hds,?_⟩) (nodupB_is rfl) (fun Y=>by
      show (np2' _ _ _ _++ex2 _ _ _).length = (np2 _ _++ex2 _ _ _).length
      rw [List.length_append,List.length_append,np2_len,np2'_len,ex2_len])
    have z:=runC2 w L u3 v3 u4 v4 f ω sz tk (decide (L.I 1 > 0)) (decide (L.I 2 > 0)) (decide (L.I 3 > 0)) (decide (L.I 4 > 0))
    rw [←patI_bits] at z
    unfold RunC2 at z
    rw [hv,←patI_fin4 h0] at z
    have z:=runIs_nil z
    exact castK (by kernel_rfl) z
end
end Mine
namespace Mine
noncomputable section
open PySem PySem.W
noncomputable def icF (w:World) (k:Nat):Icpt:=match k with
  | 4=>icOf2 w ctK1
  | 5=>icOf2 w ctK2
  | 6=>icOf2 w ctK3
  | 7=>icOf2 w ctC2
  | 8=>icListEq
  | k=>icS w k
theorem icF_own {w:World}:OwnOk w (icF w):=by
  intro b V j hkt hb hp hw hd
  unfold icF
  split
  · exact icOf2_ok (okK1 w) hkt hb
  · exact icOf2_ok (okK2 w) hkt hb
  · exact icOf2_ok (okK3 w) hkt hb
  · exact icOf2_ok (okC2 w) hkt hb
  · exact icListEq_ok
  · exact icS_own b V _ hkt hb hp hw hd
end
end Mine
namespace Mine
open PySem PySem.W
noncomputable section
noncomputable def hF:NL:=g338 (g412 (g53 (0::4::3::g9 (g414 (66::66::g168 (0::0::68::g172 (0::0::69::69::1::0::69::70::0::g421 (g169 (g239 (68::0::38::g294 (g421 (g169 (g239 (68::0::39::g294 (g421 (72::68::g239 (0::68::68::g36 (g25 (16::0::2::0::40::g294 (3::1::0::g144 (g268 (74::g289 (g253 (3::3::2::0::3::1::g6 (76::76::1::0::76::77::41::75::74::76::77::2::3::4::13::20::0::73::28::50::51::52::71::79::79::77::3::78::75::78::1::42::76::73::[])))))))))))))))))))))))))
noncomputable def hFW:NL:=g338 (4::g80 (3::g10 (64::g84 (g84 (g53 (0::64::62::64::64::64::g120 (64::g53 (2::g120 (64::64::64::64::g53 (1::10::0::64::g53 (0::1::12::0::64::g53 (64::64::g53 (2::64::g120 (g144 (g131 (g331 (65::g53 (65::g53 (65::g413 (66::64::0::66::64::0::0::66::66::g237 (0::67::g80 (g9 (68::66::0::0::68::g120 (67::g236 (67::67::g9 (69::67::0::69::67::0::0::69::g172 (0::0::70::70::1::0::70::71::0::g95 (0::69::67::69::g239 (69::0::38::g294 (g95 (0::69::67::69::g239 (69::0::39::g294 (g95 (73::69::g239 (0::69::69::g36 (g25 (16::0::2::0::40::g294 (3::1::0::g144 (g422 (g289 (g253 (3::3::2::0::3::1::g6 (77::77::1::0::77::78::41::76::75::77::78::2::3::4::13::20::0::74::28::50::51::52::72::80::80::78::3::79::76::79::1::42::77::74::[])))))))))))))))))))))))))))))))))))))))))))
def stF:Str:=q221
noncomputable def simF (w:World) (L:Lt) (f:Fm) (p:Pos) (ω:Nat→Nat) (sz tk n:Nat) (hs:List Nat) (b:Bool):Out:=
  sim (VW w (icF w) (mkSt f 0 [1,0,2])) n ω hs (denQ (codS (up L) stF (.bool b))) (codS (up L) stF (.bool b)) p [] (sz+10) tk 1 (treeOf [entS (up L)]) [] []
noncomputable def n5 (I:Nat→Int):Int:=I 5+I 0
noncomputable def dEqF (I:Nat→Int):Bool:=decide ((0:Int) = 0) && (decide ((0:Int) = 0) && (decide (cond (patI I 2) (I 3) 0 = I 3) && (decide (n5 I = n5 I) && true)))
noncomputable def phK (I:Nat→Int) (U v:Nat→Nat) (k:Nat):Obj:=phE (patI I k) (I (k+1)) (U (k+3)) (cntP (patI I) (k+1)) (v k)
noncomputable def dC2 (I:Nat→Int) (U v:Nat→Nat):List Bool:=[decide (n5 I > 0),cond (patI I 2) (tupB (I 3) (phK I U v 2)) true,decide (n5 I = n5 I)]
noncomputable def dKk (I:Nat→Int) (U v:Nat→Nat) (k:Nat) (x:Int) (os:List Obj):List Bool:=[cond (patI I k) (hasI x (selN default os 0 (jI (I (k+1))))) true,cond (patI I k) (tup2B (I (k+1)) (phK I U v k)) true,allSm os]
noncomputable def s1 (I:Nat→Int) (i:Nat):Obj:=slotP (patI I) I i
noncomputable def s2 (I:Nat→Int) (i:Nat):Obj:=gRem 1 (patI I 0) (jI (I 1)) i (s1 I i)
noncomputable def s3 (I:Nat→Int) (i:Nat):Obj:=gRem 2 (patI I 1) (jI (I 2)) i (s2 I i)
noncomputable def osF (s:Nat→Obj):List Obj:=(List.range 16).map fun i=>slotIn (s i)
noncomputable def dsF0 (I:Nat→Int) (U v:Nat→Nat) (tl:List Bool):List Bool:=dEqF I::(List.replicate 32 true++(dC2 I U v++(List.replicate 31 true++(decide (n5 I > 0)::(dKk I U v 3 4 (osF (s3 I))++(List.replicate 30 true++(dKk I U v 1 2 (osF (s2 I))++(List.replicate 30 true++(dKk I U v 0 1 (osF (s1 I))++tl)))))))))
noncomputable def dsF (L:Lt) (ω:Nat→Nat) (tl:List Bool):List Bool:=dsF0 L.I L.U (fun k=>ω (2*(6+k))) tl
noncomputable def tlW (L:Lt):List Bool:=(!decide (L.I 5+5≤L.I 5))::List.replicate 12 true
theorem rF (w:World) (L:Lt) (f:Fm) (p:Pos) (ω:Nat→Nat) (sz tk:Nat):
  RunIs (simF w L f p ω sz tk 969 hF false) (.ok (.ret (.bool true))) [0] [entS (up L)] (dsF L ω (List.replicate 10 true)):=⟨by kernel_rfl⟩
theorem rFW (w:World) (L:Lt) (f:Fm) (p:Pos) (ω:Nat→Nat) (sz tk:Nat):
  RunIs (simF w L f p ω sz tk 1298 hFW true) (.ok (.ret (.bool true))) [0] [entS (up L)] (dsF L ω (tlW L)):=⟨by kernel_rfl⟩
end
end Mine
namespace Mine
open PySem PySem.W
noncomputable section
noncomputable def hasA (x:Int) (a:Array Value):Bool:=a.toList.all isI && a.toList.any (eqI x)
theorem hasI_A (x:Int) (o:Obj):hasI x o = hasA x (arrO o):=rfl
theorem mem_rem {k:Int} {a:Array Value} {y:Value} (h:y∈(remA k a).toList):y∈a.toList:=by
  unfold remA Array.eraseIdxIfInBounds at h
  split at h
  · rw [Array.toList_eraseIdx] at h
    exact List.mem_of_mem_eraseIdx h
  · exact h
theorem rem_mem {k:Int} {a:Array Value} {y:Value} (h:y∈a.toList) (hy:eqI k y = false):y∈(remA k a).toList:=by
  unfold remA Array.eraseIdxIfInBounds
  split
  · rename_i hlt
    rw [Array.toList_eraseIdx,List.mem_eraseIdx_iff_getElem]
    obtain ⟨m,hm,e⟩:=List.getElem_of_mem h
    refine ⟨m,hm,?_,e⟩
    intro q
    have hj:a.toList.findIdx (eqI k) < a.toList.length:=by rw [Array.length_toList];exact hlt
    have z:=List.findIdx_getElem (p:=eqI k) (xs:=a.toList) (w:=hj)
    have:a.toList[m] = a.toList[a.toList.findIdx (eqI k)]:=by simp only [q]
    rw [←this,e,hy] at z
    cases z
  · exact h
theorem eqI_ne {x k:Int} {y:Value} (hne:x≠k) (h:eqI x y = true):eqI k y = false:=by
  unfold eqI at h ⊢
  split at h
  · rename_i v t
    have e:=beq_iff_eq.mp h
    subst e
    exact beq_eq_false_iff_ne.mpr hne
  · cases h
theorem hasA_rem {x k:Int} {a:Array Value} (hne:x≠k) (h:hasA x a = true):hasA x (remA k a) = true:=by
  unfold hasA at h ⊢
  rw [Bool.and_eq_true] at h ⊢
  refine ⟨List.all_eq_true.mpr fun y hy=>List.all_eq_true.mp h.1 y (mem_rem hy),?_⟩
  obtain ⟨y,hy,e⟩:=List.any_eq_true.mp h.2
  exact List.any_eq_true.mpr ⟨y,rem_mem hy (eqI_ne hne e),e⟩
theorem hasI_gRem {x k:Int} {b:Bool} {j i:Nat} {o:Obj} (hne:x≠k) (h:hasA x (arrO o) = true):hasA x (arrO (gRem k b j i o)) = true:=by
  show hasA x (cond (b && Nat.beq j i) (remA k (arrO o)) (arrO o)) = true
  cases (b && Nat.beq j i) with
  | false=>exact h
  | true=>exact hasA_rem hne h
structure SlI (P:Nat→Bool) (I:Nat→Int) (n:Nat):Prop where
  len:(slotsP P I n).length = 16
  its:∀o∈slotsP P I n,(arrO o).toList.all isI = true
  has:∀m,m < n→P m = true→∃o,(slotsP P I n)[jI (I (m+1))]? = some o∧(arrO o).toList.any (eqI ((m+1:Nat):Int)) = true
theorem slI (P:Nat→Bool) (I:Nat→Int):∀n,SlI P I n
  | 0=>⟨rfl,fun o h=>by rw [(List.mem_replicate.mp h).2];rfl,fun m h=>absurd h (Nat.not_lt_zero _)⟩
  | n + 1 =>by
    obtain ⟨h1,h2,h3⟩:=slI P I n
    cases hp:P n with
    | false=>
      have e:slotsP P I (n+1) = slotsP P I n:=by
        show cond (P n) _ _ = _
        rw [hp];rfl
      refine ⟨by rw [e];exact h1,by rw [e];exact h2,fun m hm hpm=>?_⟩
      rw [e]
      have:m < n:=by
        by_cases q:m = n
        · rw [q,hp] at hpm;cases hpm
        · omega
      exact h3 m this hpm
    | true=>
      have e:slotsP P I (n+1) = pushAt (.int ((n+1:Nat):Int) (keyTok n)) (jI (I (n+1))) 0 (slotsP P I n):=by
        show cond (P n) _ _ = _
        rw [hp];rfl
      have hget:∀j,(slotsP P I (n+1))[j]? = ((slotsP P I n)[j]?).map fun o=>if jI (I (n+1)) = 0+j then Obj.mapSeq (·.push (.int ((n+1:Nat):Int) (keyTok n))) (slotIn o) else slotIn o:=fun j=>by rw [e,pushAt_get]
      have arrP:∀(v:Value) (o:Obj),(arrO (Obj.mapSeq (·.push v) (slotIn o))).toList = (arrO o).toList++[v]:=fun v o=>by
        show ((arrO o).push v).toList = _
        rw [Array.toList_push]
      refine ⟨by rw [e,pushAt_len];exact h1,fun o ho=>?_,fun m hm hpm=>?_⟩
      · obtain ⟨j,hj⟩:=List.getElem?_of_mem ho
        rw [hget] at hj
        cases q:(slotsP P I n)[j]? with
        | none=>rw [q] at hj;cases hj
        | some o'=>
          rw [q] at hj
          have ho':=h2 o' (List.mem_of_getElem? q)
          simp only [Option.map_some,Option.some.injEq] at hj
          rw [←hj]
          split
          · rw [arrP,List.all_append,ho'];rfl
          · exact ho'
      · have hjl:=jI_lt (I (m+1))
        by_cases q:m = n
        · subst q
          obtain ⟨o,ho⟩:∃o,(slotsP P I m)[jI (I (m+1))]? = some o:=⟨_,List.getElem?_eq_getElem (by omega)⟩
          refine ⟨_,by rw [hget,ho,Option.map_some,if_pos (Nat.zero_add _).symm],?_⟩
          rw [arrP,List.any_append]
          have:eqI ((m+1:Nat):Int) (.int ((m+1:Nat):Int) (keyTok m)) = true:=beq_iff_eq.mpr rfl
          rw [List.any_cons,this,Bool.true_or,Bool.or_true]
        · obtain ⟨o,ho,ha⟩:=h3 m (by omega) hpm
          refine ⟨_,by rw [hget,ho,Option.map_some],?_⟩
          split
          · rw [arrP,List.any_append,ha];rfl
          · exact ha
theorem s1_has (P:Nat→Bool) (I:Nat→Int) {m:Nat} (hm:m < 4) (hp:P m = true):hasA ((m+1:Nat):Int) (arrO (slotP P I (jI (I (m+1))))) = true:=by
  obtain ⟨h1,h2,h3⟩:=slI P I 4
  obtain ⟨o,ho,ha⟩:=h3 m hm hp
  show hasA _ (arrO ((slotsP P I 4).getD _ default)) = true
  rw [List.getD_eq_getElem?_getD,ho]
  unfold hasA
  rw [Bool.and_eq_true]
  exact ⟨h2 o (List.mem_of_getElem? ho),ha⟩
theorem s1_size (P:Nat→Bool) (I:Nat→Int) (i:Nat):(arrO (slotP P I i)).size≤4:=by
  show (arrO ((slotsP P I 4).getD i default)).size≤4
  rw [List.getD_eq_getElem?_getD]
  cases q:(slotsP P I 4)[i]? with
  | none=>exact Nat.zero_le _
  | some o=>exact slotsP_bdd P I 4 o (List.mem_of_getElem? q)
theorem osF_sel (s:Nat→Obj) {j:Nat} (hj:j < 16):selN default (osF s) 0 j = slotIn (s j):=by
  have:=selN_at (d:=default) (i:=0) (show (osF s)[j]? = some (slotIn (s j)) by
    unfold osF
    rw [List.getElem?_map,List.getElem?_range hj];rfl)
  rwa [Nat.zero_add] at this
theorem osF_has {s:Nat→Obj} {x t:Int} (h:hasA x (arrO (s (jI t))) = true):hasI x (selN default (osF s) 0 (jI t)) = true:=by
  rw [osF_sel s (jI_lt t)]
  exact h
theorem osF_sm {s:Nat→Obj} (h:∀i,(arrO (s i)).size≤4):allSm (osF s) = true:=by
  unfold allSm
  refine List.all_eq_true.mpr fun o ho=>?_
  obtain ⟨i,_,rfl⟩:=List.mem_map.mp ho
  exact Nat.ble_eq_true_of_le (Nat.le_trans (h i) (by decide))
theorem phK_ok2 (I:Nat→Int) (U v:Nat→Nat) (k:Nat):cond (patI I k) (tup2B (I (k+1)) (phK I U v k)) true = true:=by
  unfold phK
  cases patI I k with
  | false=>rfl
  | true=>
    have e:(Nat.beq (PySem.code "tuple") 439922816629 && decide (I (k+1) = I (k+1))) = true:=by
      rw [decide_eq_true rfl]
      decide+kernel
    exact e
theorem phK_ok (I:Nat→Int) (U v:Nat→Nat) (k:Nat):cond (patI I k) (tupB (I (k+1)) (phK I U v k)) true = true:=dT1_ok I U v k
theorem dKk_ok {I:Nat→Int} {U v:Nat→Nat} {k:Nat} {x:Int} {s:Nat→Obj} (h:patI I k = true→hasA x (arrO (s (jI (I (k+1))))) = true) (hs:∀i,(arrO (s i)).size≤4):∀d∈dKk I U v k x (osF s),d = true:=by
  intro d hd
  unfold dKk at hd
  rcases List.mem_cons.mp hd with rfl | hd
  · cases q:patI I k with
    | false=>rfl
    | true=>exact osF_has (h q)
  · rcases List.mem_cons.mp hd with rfl | hd
    · exact phK_ok2 I U v k
    · rw [List.mem_singleton.mp hd]
      exact osF_sm hs
theorem dEqF_ok {I:Nat→Int} (h:∀d∈geS I,d = true):dEqF I = true:=by
  have h3:0≤I 3:=of_decide_eq_true (h _ (.tail _ (.tail _ (.head _))))
  have e3:cond (patI I 2) (I 3) 0 = I 3:=by
    show cond (decide (I 3 > 0)) (I 3) 0 = I 3
    by_cases q:I 3 > 0
    · rw [decide_eq_true q];rfl
    · rw [decide_eq_false q];show (0:Int) = I 3;omega
  unfold dEqF
  rw [e3,decide_eq_true rfl,decide_eq_true rfl,decide_eq_true rfl]
  rfl
theorem dsF_ok {I:Nat→Int} {U v:Nat→Nat} {tl:List Bool} (h:∀d∈geS I,d = true) (hn:n5 I > 0) (ht:∀d∈tl,d = true):∀d∈dsF0 I U v tl,d = true:=by
  have z1:∀i,(arrO (s1 I i)).size≤4:=fun i=>s1_size _ I i
  have z2:∀i,(arrO (s2 I i)).size≤4:=fun i=>Nat.le_trans (rem_size _ _ _ _ _) (z1 i)
  have z3:∀i,(arrO (s3 I i)).size≤4:=fun i=>Nat.le_trans (rem_size _ _ _ _ _) (z2 i)
  intro d hd
  unfold dsF0 at hd
  rcases List.mem_cons.mp hd with rfl | hd
  · exact dEqF_ok h
  rcases List.mem_append.mp hd with hd | hd
  · exact rep_ok hd
  rcases List.mem_append.mp hd with hd | hd
  · unfold dC2 at hd
    rcases List.mem_cons.mp hd with rfl | hd
    · exact decide_eq_true hn
    · rcases List.mem_cons.mp hd with rfl | hd
      · exact phK_ok I U v 2
      · rw [List.mem_singleton.mp hd]
        exact decide_eq_true rfl
  rcases List.mem_append.mp hd with hd | hd
  · exact rep_ok hd
  rcases List.mem_cons.mp hd with rfl | hd
  · exact decide_eq_true hn
  rcases List.mem_append.mp hd with hd | hd
  · exact dKk_ok (fun q=>hasI_gRem (by decide) (hasI_gRem (by decide) (s1_has (patI I) I (m:=3) (by decide) q))) z3 d hd
  rcases List.mem_append.mp hd with hd | hd
  · exact rep_ok hd
  rcases List.mem_append.mp hd with hd | hd
  · exact dKk_ok (fun q=>hasI_gRem (by decide) (s1_has (patI I) I (m:=1) (by decide) q)) z2 d hd
  rcases List.mem_append.mp hd with hd | hd
  · exact rep_ok hd
  rcases List.mem_append.mp hd with hd | hd
  · exact dKk_ok (fun q=>s1_has (patI I) I (m:=0) (by decide) q) z1 d hd
  exact ht d hd
noncomputable def ctF:Ct2 where
  np:=1
  aI:=[3]
  uI:=[1,2,4,6,7,8,9]
  iI:=[0,2,3,4,5,1]
  sI:=[0]
  vI:=[5]
  code _ L:=codS L (L.S 0) (L.V 0)
  ents _ L:=[entS L]
  posts _ L _:=[entS L]
  news _ _ _:=[]
  nn:=0
  res _ _ _:= .ret (.bool true)
  ds L:=eqS stF (L.S 0)::isB (L.V 0)::decide (n5 L.I > 0)::geS L.I
  sh:=shapeB [1,0,2]
theorem okF (w:World):Ct2Ok w ctF:=ct2_okc (own:=icF w) (ks:=[1,0,2]) rfl icF_own (fun _ _=>rfl) (fun _ _=>rfl) (fun _=>rfl) fun L hd=>by
  have h1:eqS stF (L.S 0) = true:=hd _ (.head _)
  have h2:isB (L.V 0) = true:=hd _ (.tail _ (.head _))
  have h4:n5 L.I > 0:=of_decide_eq_true (hd _ (.tail _ (.tail _ (.head _))))
  have h3:∀d∈geS L.I,d = true:=fun d h=>hd d (.tail _ (.tail _ (.tail _ h)))
  have hs:stF = L.S 0:=eqS_is.mp h1
  obtain ⟨b,hb⟩:∃b,L.V 0 = .bool b:=by
    unfold isB at h2
    split at h2
    · rename_i b e
      exact ⟨b,e⟩
    · cases h2
  have kn:∃(n:Nat) (hs:List Nat) (dsf:(Nat→Nat)→Nat→Nat→List Bool),(∀ω sz tk,∀d∈dsf ω sz tk,d = true)∧
      ∀f p ω sz tk,RunIs (simF w L f p ω sz tk n hs b) (.ok (.ret (.bool true))) [0] [entS (up L)] (dsf ω sz tk):=by
    cases b with
    | false=>exact ⟨_,hF,fun ω _ _=>dsF L ω (List.replicate 10 true),fun ω _ _=>dsF_ok h3 h4 fun _ hd=>rep_ok hd,fun f p ω sz tk=>rF w L f p ω sz tk⟩
    | true=>exact ⟨_,hFW,fun ω _ _=>dsF L ω (tlW L),fun ω _ _=>dsF_ok h3 h4 fun d hd=>by
        rcases List.mem_cons.mp hd with rfl | hd
        · rw [decide_eq_false (by omega)];rfl
        · exact rep_ok hd,fun f p ω sz tk=>rFW w L f p ω sz tk⟩
  obtain ⟨n,hh,dsf,hds,run⟩:=kn
  refine ⟨n,hh,[0],fun _ _ _=>[],dsf,rfl,hds,fun f p ω sz tk=>?_⟩
  have z:=run f p ω sz tk
  unfold simF at z
  rw [hs,←hb] at z
  exact z
end
end Mine
namespace Mine
noncomputable section
open PySem PySem.W PyProof.Rows
def nLen:Nat:=7300717
noncomputable def nBEq:Nat:=29827158059823676458666392163
noncomputable def nBNe:Nat:=29827101557446578686309792355
noncomputable def nBGet:Nat:=32795286342768305172929921614967408523875
noncomputable def icLenB:Icpt:=fun _ _ c hs sz tk m T=>match c with
  | .call (.builtin id) ⟨[.bytes b _],[]⟩=>match Nat.beq (PySem.code id) nLen with
    | true=>some ⟨.ok (.ret (.int ((b.size:Nat):Int) (tk+1))),hs,sz,tk+2,m,T,[],[Nat.ble b.size 1000]⟩
    | false=>none
  | _=>none
noncomputable def icCmpB (N:Nat) (neg:Bool):Icpt:=fun _ _ c hs sz tk m T=>match c with
  | .call (.builtin id) ⟨[.bytes b _,.bytes c _],[]⟩=>match Nat.beq (PySem.code id) N with
    | true=>match hs with
      | 0::hs=>some ⟨.ok (.ret (.bool neg)),hs,sz,tk,m,T,[],[!(b.toList == c.toList)]⟩
      | _::hs=>some ⟨.ok (.ret (.bool (!neg))),hs,sz,tk,m,T,[],[b.toList == c.toList]⟩
      | _=>none
    | false=>none
  | _=>none
noncomputable def icEqB:Icpt:=icCmpB nBEq false
noncomputable def icNeB:Icpt:=icCmpB nBNe true
noncomputable def loOk:Value→Bool
  | .none=>true
  | .int i _=>i == 0
  | _=>false
noncomputable def hiOk (n:Nat):Value→Bool
  | .none=>true
  | .int k _=>decide ((n:Int)≤k)
  | _=>false
noncomputable def icWholeB:Icpt:=fun _ _ c hs sz tk m T=>match c with
  | .call (.builtin id) ⟨[.bytes b t,.ref a],[]⟩=>match Nat.beq (PySem.code id) nBGet with
    | true=>match hs with
      | i ::hs=>match T.get i with
        | some e=>match e.2.data with
          | .fields ⟨[lo,hi,.none]⟩=>some ⟨.ok (.ret (.bytes b t)),hs,sz,tk,m,T,[(.n a,.n e.1),(.v e.2.cls,.v (.type "slice"))],[loOk lo,Nat.blt 0 b.size,hiOk b.size hi]⟩
          | _=>none
        | none=>none
      | _=>none
    | false=>none
  | _=>none
noncomputable def partB:Value→Bool
  | .none=>true
  | .int _ _=>true
  | _=>false
noncomputable def icEmptyB:Icpt:=fun _ _ c hs sz tk m T=>match c with
  | .call (.builtin id) ⟨[.bytes b _,.ref a],[]⟩=>match Nat.beq (PySem.code id) nBGet with
    | true=>match hs with
      | i ::hs=>match T.get i with
        | some e=>match e.2.data with
          | .fields ⟨[lo,hi,.none]⟩=>some ⟨.ok (.ret (.bytes ⟨[]⟩ tk)),hs,sz,tk+1,m,T,[(.n a,.n e.1),(.v e.2.cls,.v (.type "slice"))],[loOk lo,Nat.beq b.size 0,partB hi]⟩
          | _=>none
        | none=>none
      | _=>none
    | false=>none
  | _=>none
section
variable {V:Vw} {prog:Program} {w:World} {b:Bs}
theorem icLenB_ok:IcOk V (model prog w) b icLenB:=by
  intro Γ c hs sz tk m T p s R κ _ _ _ r H
  obtain ⟨y,e,hob,hd,hR⟩:=H fun _=>0
  unfold icLenB at e
  split at e <;> try cases e
  rename_i id bs t
  split at e <;> try cases e
  rename_i hid
  have hid':id = "len":=PySem.code_inj _ _ ((Nat.eq_of_beq_eq_true hid).trans (by decide+kernel))
  subst hid'
  have hz:bs.size≤1000:=Nat.le_of_ble_eq_true (hd _ (.head _))
  have hq:=hR {s with toks:=s.toks+1+1} ⟨r.size,by show s.toks+1+1 = tk+2;rw [r.toks],r.gens,r.drawn,r.os,r.own,r.inj,r.keep,r.grow⟩
  rw [←r.toks] at hq
  exact ic_call (len_bytes (by omega) hq)
theorem icCmpB_ok {N:Nat} {neg:Bool} {nm:String} {B:Builtin} {name:Str} (hN:N = PySem.code nm) (slot:Slot "bytes" name nm) (entry:entryFor table nm = some B) (args:∀a b,argsOk nm ⟨[a,b],[]⟩)
    (g:∀(b c:Array UInt8) (t u:Tok),Gives (B ⟨[.bytes b t,.bytes c u],[]⟩) (.val (.bool (if neg then b.toList != c.toList else b.toList == c.toList)))):IcOk V (model prog w) b (icCmpB N neg):=by
  intro Γ c hs sz tk m T p s R κ _ _ _ r H
  obtain ⟨y,e,hob,hd,hR⟩:=H fun _=>0
  unfold icCmpB at e
  split at e <;> try cases e
  rename_i id bs t cs u
  split at e <;> try cases e
  rename_i hid
  have hid':id = nm:=PySem.code_inj _ _ ((Nat.eq_of_beq_eq_true hid).trans hN)
  subst hid'
  refine ic_call (call_gv slot (typeIs_bytes s bs t) entry (args _ _) (g bs cs t u) ?_)
  split at e <;> try cases e
  · have q:(!(bs.toList == cs.toList)) = true:=hd _ (.head _)
    have q':(bs.toList == cs.toList) = false:=by simpa using q
    show R (.ok (.ret (.bool (if neg then bs.toList != cs.toList else bs.toList == cs.toList)))) s
    have:(if neg then bs.toList != cs.toList else bs.toList == cs.toList) = neg:=by
      cases neg with
      | true=>show (!(bs.toList == cs.toList)) = true;exact q
      | false=>exact q'
    rw [this]
    exact hR s r
  · have q:(bs.toList == cs.toList) = true:=hd _ (.head _)
    show R (.ok (.ret (.bool (if neg then bs.toList != cs.toList else bs.toList == cs.toList)))) s
    have:(if neg then bs.toList != cs.toList else bs.toList == cs.toList) = !neg:=by
      cases neg with
      | true=>show (!(bs.toList == cs.toList)) = false;rw [q];rfl
      | false=>exact q
    rw [this]
    exact hR s r
theorem icEqB_ok:IcOk V (model prog w) b icEqB:=icCmpB_ok (by decide+kernel) FB.slot_bytes_eq FB.entry_bytes_eq FB.args_bytes_eq_2 fun b c t u=>gives_bytes_eq b c t u
theorem icNeB_ok:IcOk V (model prog w) b icNeB:=icCmpB_ok (by decide+kernel) FB.slot_bytes_ne FB.entry_bytes_ne FB.args_bytes_ne_2 fun b c t u=>gives_bytes_ne b c t u
theorem wpAny_part {M:Model} {A:Around} {E:Value→Shared→Prop} {s:Shared} {v:Value} {k:Option Int} {Q:Value→Shared→Prop} (hv:IsPart v k) (h:Q (rawPart k) s):
    wpAny M A (do
      if v == .none then return .none
      if (←specialOf v "__index__").isNone then
        rule "bytes.slice.part-no-index";raiseError "TypeError" "slice indices must be integers or None or have an __index__ method"
      return rawInt (←asIndex v)) Q E s:=by
  cases hv with
  | none=>exact wpAny_pure h
  | int i t=>
    rw [if_neg (show ¬ ((Value.int i t == Value.none) = true) from Bool.false_ne_true)]
    refine wpAny_bind (wpAny_specialOf (T:="int") (typeIs_int s i t) int_index ?_)
    simp only [Option.isNone_some,Bool.false_eq_true,if_false]
    exact wpAny_bind (wpAny_of_eq (a:=i) rfl (wpAny_pure h))
theorem icWholeB_ok:IcOk V (model prog w) b icWholeB:=by
  intro Γ c hs sz tk m T p s R κ _ _ _ r H
  obtain ⟨y,e,hob,hd,hR⟩:=H fun _=>0
  unfold icWholeB at e
  split at e <;> try cases e
  rename_i id bs t a
  split at e <;> try cases e
  rename_i hid
  have hid':id = "bytes.__getitem__":=PySem.code_inj _ _ ((Nat.eq_of_beq_eq_true hid).trans (by decide+kernel))
  subst hid'
  split at e <;> try cases e
  rename_i i hs'
  split at e <;> try cases e
  rename_i e1 hT
  split at e <;> try cases e
  rename_i lo hi hdata
  have q1:a = e1.1:=by injection hob _ (.head _)
  have q2:e1.2.cls = .type "slice":=by injection hob _ (.tail _ (.head _))
  have c1:loOk lo = true:=hd _ (.head _)
  have c2:Nat.blt 0 bs.size = true:=hd _ (.tail _ (.head _))
  have c3:hiOk bs.size hi = true:=hd _ (.tail _ (.tail _ (.head _)))
  have hpos:0 < bs.size:=Nat.le_of_ble_eq_true c2
  have ho:s.heap.get? a = some e1.2:=by rw [q1];exact (r.own i e1.1 e1.2 hT).2.1
  have hTs:s.TypeIs (.ref a) "slice":=⟨_,ho,q2⟩
  obtain ⟨l,pl,hl⟩:∃l,IsPart lo l∧(l = none∨l = some 0):=by
    unfold loOk at c1
    split at c1
    · exact ⟨none,.none,.inl rfl⟩
    · rename_i i t
      have:i = 0:=by simpa using c1
      subst this
      exact ⟨some 0,.int 0 t,.inr rfl⟩
    · cases c1
  obtain ⟨h,ph,hh⟩:∃h,IsPart hi h∧(h = none∨∃k,h = some k∧(bs.size:Int)≤k):=by
    unfold hiOk at c3
    split at c3
    · exact ⟨none,.none,.inl rfl⟩
    · rename_i k t
      exact ⟨some k,.int k t,.inr ⟨k,rfl,of_decide_eq_true c3⟩⟩
    · cases c3
  refine ic_call (wpAny_call_entry FB.slot_bytes_getitem (typeIs_bytes s bs t) FB.entry_bytes_getitem ?_ (FB.args_bytes_getitem_2 _ _))
  show wpAny _ _ (Builtin.Bytes.subscript? (.ref a) >>= fun r=>_) _ _ s
  refine wpAny_bind ?_
  unfold Builtin.Bytes.subscript?
  refine wpAny_bind (wpAny_specialOf hTs slice_no_index ?_)
  simp only [Option.isNone_none,if_true]
  refine wpAny_pure ?_
  show wpAny _ _ (typeOf (.ref a) >>= fun r=>_) _ _ s
  refine wpAny_bind (wpAny_typeOf hTs ?_)
  rw [if_neg (by decide)]
  refine wpAny_bind ?_
  unfold Builtin.Bytes.sliceParts
  refine wpAny_bind (wpAny_field ho hdata (x:= .none) rfl ?_)
  refine wpAny_bind (wpAny_part (k:=none) .none ?_)
  rw [if_neg (by decide)]
  refine wpAny_bind (wpAny_field ho hdata (x:=lo) rfl ?_)
  refine wpAny_bind (wpAny_part pl ?_)
  refine wpAny_bind (wpAny_field ho hdata (x:=hi) rfl ?_)
  refine wpAny_bind (wpAny_part ph (wpAny_pure ?_))
  refine wpAny_bind (wpAny_of_eq (sliceIndices_raw l h none bs.size (by simp)) ?_)
  have e1:sliceBounds l h none bs.size = (0,(bs.size:Int),1):=by
    rcases hl with rfl | rfl <;> rcases hh with rfl | ⟨k,rfl,hk⟩
    · simp [sliceBounds]
    · simp [sliceBounds];omega
    · simp [sliceBounds];try omega
    · simp [sliceBounds];omega
  rw [e1]
  have e2:((0:Int) == 0 && (1:Int) == 1 && (bs.size:Int) == bs.size && !bs.isEmpty) = true:=by
    have:bs.isEmpty = false:=by
      rw [Array.isEmpty_eq_false_iff]
      intro q
      rw [q] at hpos
      exact absurd hpos (by decide)
    simp [this]
  show wpAny _ _ (if ((0:Int) == 0 && (1:Int) == 1 && (bs.size:Int) == bs.size && !bs.isEmpty) = true then _ else _) _ _ s
  rw [if_pos e2]
  refine wpAny_bind (wpAny_typeOf (typeIs_bytes s bs t) ?_)
  rw [if_pos (by decide)]
  refine wpAny_bind (wpAny_rule ?_)
  exact wpAny_pure ⟨_,rfl,hR s r⟩
theorem icEmptyB_ok:IcOk V (model prog w) b icEmptyB:=by
  intro Γ c hs sz tk m T p s R κ _ _ _ r H
  obtain ⟨y,e,hob,hd,hR⟩:=H fun _=>0
  unfold icEmptyB at e
  split at e <;> try cases e
  rename_i id bs t a
  split at e <;> try cases e
  rename_i hid
  have hid':id = "bytes.__getitem__":=PySem.code_inj _ _ ((Nat.eq_of_beq_eq_true hid).trans (by decide+kernel))
  subst hid'
  split at e <;> try cases e
  rename_i i hs'
  split at e <;> try cases e
  rename_i e1 hT
  split at e <;> try cases e
  rename_i lo hi hdata
  have q1:a = e1.1:=by injection hob _ (.head _)
  have q2:e1.2.cls = .type "slice":=by injection hob _ (.tail _ (.head _))
  have c1:loOk lo = true:=hd _ (.head _)
  have c2:bs.size = 0:=Nat.eq_of_beq_eq_true (hd _ (.tail _ (.head _)))
  have c3:partB hi = true:=hd _ (.tail _ (.tail _ (.head _)))
  have hbs:bs = #[]:=Array.eq_empty_of_size_eq_zero c2
  subst hbs
  have ho:s.heap.get? a = some e1.2:=by rw [q1];exact (r.own i e1.1 e1.2 hT).2.1
  have hTs:s.TypeIs (.ref a) "slice":=⟨_,ho,q2⟩
  obtain ⟨l,pl,hl⟩:∃l,IsPart lo l∧(l = none∨l = some 0):=by
    unfold loOk at c1
    split at c1
    · exact ⟨none,.none,.inl rfl⟩
    · rename_i i t
      have:i = 0:=by simpa using c1
      subst this
      exact ⟨some 0,.int 0 t,.inr rfl⟩
    · cases c1
  obtain ⟨h,ph⟩:∃h,IsPart hi h:=by
    unfold partB at c3
    split at c3
    · exact ⟨none,.none⟩
    · rename_i k t
      exact ⟨some k,.int k t⟩
    · cases c3
  refine ic_call (wpAny_call_entry FB.slot_bytes_getitem (typeIs_bytes s #[] t) FB.entry_bytes_getitem ?_ (FB.args_bytes_getitem_2 _ _))
  show wpAny _ _ (Builtin.Bytes.subscript? (.ref a) >>= fun r=>_) _ _ s
  refine wpAny_bind ?_
  unfold Builtin.Bytes.subscript?
  refine wpAny_bind (wpAny_specialOf hTs slice_no_index ?_)
  simp only [Option.isNone_none,if_true]
  refine wpAny_pure ?_
  show wpAny _ _ (typeOf (.ref a) >>= fun r=>_) _ _ s
  refine wpAny_bind (wpAny_typeOf hTs ?_)
  rw [if_neg (by decide)]
  refine wpAny_bind ?_
  unfold Builtin.Bytes.sliceParts
  refine wpAny_bind (wpAny_field ho hdata (x:= .none) rfl ?_)
  refine wpAny_bind (wpAny_part (k:=none) .none ?_)
  rw [if_neg (by decide)]
  refine wpAny_bind (wpAny_field ho hdata (x:=lo) rfl ?_)
  refine wpAny_bind (wpAny_part pl ?_)
  refine wpAny_bind (wpAny_field ho hdata (x:=hi) rfl ?_)
  refine wpAny_bind (wpAny_part ph (wpAny_pure ?_))
  refine wpAny_bind (wpAny_of_eq (sliceIndices_raw l h none 0 (by simp)) ?_)
  have e1:sliceBounds l h none 0 = (0,0,1):=by
    cases h with
    | none=>rcases hl with rfl | rfl <;> simp [sliceBounds]
    | some k=>
      rcases hl with rfl | rfl
      · simp [sliceBounds];omega
      · simp [sliceBounds];omega
  rw [e1]
  show wpAny _ _ (if ((0:Int) == 0 && (1:Int) == 1 && (0:Int) == ((0:Nat):Int) && !(#[]:Array UInt8).isEmpty) = true then _ else _) _ _ s
  rw [if_neg (by simp)]
  have e2:Builtin.Bytes.sliced #[] 0 0 1 = #[]:=by decide
  rw [e2]
  show wpAny _ _ (mkBytes #[] >>= fun v=>ret v) _ _ s
  unfold mkBytes
  rw [if_neg (by decide)]
  refine wpAny_bind ?_
  refine wpAny_bind (wpAny_fresh ?_)
  refine wpAny_pure ?_
  have hq:=hR {s with toks:=s.toks+1} ⟨r.size,by show s.toks+1 = tk+1;rw [r.toks],r.gens,r.drawn,r.os,r.own,r.inj,r.keep,r.grow⟩
  rw [←r.toks] at hq
  exact wpAny_pure ⟨_,rfl,hq⟩
end
end
end Mine
namespace Mine
noncomputable section
open PySem PySem.W PyProof.Rows
noncomputable def nListInit:Nat:=7635756109259221455878126594669
noncomputable def listO (xs:Array Value) (n:Nat):Obj:=⟨.type "list",none,.seq xs n,#[]⟩
noncomputable def icListInit:Icpt:=fun _ _ c hs sz tk m T=>match c with
  | .call (.builtin id) ⟨[.ref a,.ref b],[]⟩=>match Nat.beq (PySem.code id) nListInit with
    | true => match hs with
      | i :: j :: hs=>match T.get i with
        | some e=>match T.get j with
          | some f=>match f.2.data with
            | .seq xs n=>match (T.ins i (e.1,Obj.mapSeq (·++xs) (Obj.mapSeq (fun _=>#[]) (listO #[] 0)))).get i with
              | some _=>some ⟨.ok (.ret .none),hs,sz,tk,m,T.ins i (e.1,Obj.mapSeq (·++xs) (Obj.mapSeq (fun _=>#[]) (listO #[] 0))),
                  [(.n a,.n e.1),(.n b,.n f.1),(.o e.2,.o (listO #[] 0)),(.v f.2.cls,.v (.type "list"))],[!(Nat.beq i j),Nat.ble xs.size 1000]⟩
              | none=>none
            | _=>none
          | none=>none
        | none=>none
      | _=>none
    | false=>none
  | _=>none
section
variable {V:Vw} {prog:Program} {w:World} {b:Bs}
theorem meets_list_init (S it:Addr) (items:Array Value):Meets (Builtin.«list.__init__» ⟨[.ref S,.ref it],[]⟩)
    (fun _ R s=>it≠S∧items.size≤sizeLine∧s.heap.get? S = some {cls:= .type "list",data:= .seq #[]}∧(∃o n,s.heap.get? it = some o∧o.cls = .type "list"∧o.data = .seq items n)∧
      R (.ok (.ret .none)) {s with heap:=(s.heap.update S (Obj.mapSeq (fun _=>(#[]:Array Value)))).update S (Obj.mapSeq (·++items))}):=by
  intro prog w A R s h
  obtain ⟨h1,h2,h3,⟨o,n,h4,h5,h6⟩,h7⟩:=h
  exact wpAny_list_init_seq S it (.inl rfl) h1 h3 h4 h5 h6 h7 h2
theorem icListInit_ok:IcOk V (model prog w) b icListInit:=by
  intro Γ c hs sz tk m T p s R κ _ _ _ r H
  obtain ⟨y,e,hob,hd,hR⟩:=H fun _=>0
  unfold icListInit at e
  split at e <;> try cases e
  rename_i id a b2
  split at e <;> try cases e
  rename_i hid
  have hid':id = "list.__init__":=PySem.code_inj _ _ ((Nat.eq_of_beq_eq_true hid).trans (by decide+kernel))
  subst hid'
  split at e <;> try cases e
  rename_i i j hs'
  split at e <;> try cases e
  rename_i e1 hT
  split at e <;> try cases e
  rename_i e2 hT2
  split at e <;> try cases e
  rename_i xs n hdata
  split at e <;> try cases e
  rename_i e3 hg
  have q1:a = e1.1:=by injection hob _ (.head _)
  have q2:b2 = e2.1:=by injection hob _ (.tail _ (.head _))
  have q3:e1.2 = listO #[] 0:=by injection hob _ (.tail _ (.tail _ (.head _)))
  have q4:e2.2.cls = .type "list":=by injection hob _ (.tail _ (.tail _ (.tail _ (.head _))))
  have c1:(!(Nat.beq i j)) = true:=hd _ (.head _)
  have hsz:xs.size≤sizeLine:=Nat.le_trans (Nat.le_of_ble_eq_true (hd _ (.tail _ (.head _)))) (by decide)
  have hij:i≠j:=by
    intro q
    subst q
    rw [Nat.beq_refl] at c1
    cases c1
  obtain ⟨x1,x2⟩:=e1
  obtain ⟨y1,y2⟩:=e2
  dsimp only at q1 q2 q3 q4 hdata hg
  subst q1 q2 q3
  have hne:b2≠a:=by
    intro q
    subst q
    exact hij (r.inj i j _ _ _ hT hT2)
  have hS:=(r.own _ _ _ hT).2.1
  have hit:=(r.own _ _ _ hT2).2.1
  refine ic_call (call_meets F.slot_list_init (Heap.IsList.typeIs ⟨_,hS,rfl,_,rfl⟩) F.entry_list_init (F.args_list_init_2 _ _) (meets_list_init a b2 xs) ⟨hne,hsz,hS,⟨_,_,hit,q4,hdata⟩,?_⟩)
  have s1:=Tr.ins_some (a,Obj.mapSeq (fun _=>#[]) (listO #[] 0)) T i (by rw [hT];rfl)
  obtain ⟨z1,hz1⟩:=Option.isSome_iff_exists.mp s1
  have r1:=r.update (f:=Obj.mapSeq (fun _=>#[])) hT rfl hz1
  have hT1:(T.ins i (a,Obj.mapSeq (fun _=>#[]) (listO #[] 0))).get i = some (a,Obj.mapSeq (fun _=>#[]) (listO #[] 0)):=by
    rw [Tr.get_ins _ _ _ s1,if_pos rfl]
  have s2:=Tr.ins_some (a,Obj.mapSeq (·++xs) (Obj.mapSeq (fun _=>#[]) (listO #[] 0))) (T.ins i (a,Obj.mapSeq (fun _=>#[]) (listO #[] 0))) i (by rw [hT1];rfl)
  obtain ⟨z2,hz2⟩:=Option.isSome_iff_exists.mp s2
  have r2:=r1.update (f:=Obj.mapSeq (·++xs)) hT1 rfl hz2
  refine hR _ (r2.congr fun k=>?_)
  rw [Tr.get_ins _ _ _ (by rw [hg];rfl),Tr.get_ins _ _ _ s2,Tr.get_ins _ _ _ s1]
  by_cases q:k = i
  · rw [if_pos q,if_pos q]
  · rw [if_neg q,if_neg q,if_neg q]
end
end
end Mine
namespace Mine
noncomputable section
open PySem PySem.W
noncomputable def icO (k:Nat):Icpt:=match k with
  | 0=>icListHas
  | 1=>icTupHas
  | 2=>icGetS
  | 3=>icLenB
  | 4=>icEqB
  | 5=>icNeB
  | 6=>icWholeB
  | 7=>icListInit
  | 8=>icEmptyB
  | _=>fun _ _ _ _ _ _ _ _=>none
theorem icO_own {w:World}:OwnOk w icO:=by
  intro b V j hkt hb hp hw hd
  unfold icO
  split
  · exact icListHas_ok
  · exact icTupHas_ok
  · exact icGetS_ok
  · exact icLenB_ok
  · exact icEqB_ok
  · exact icNeB_ok
  · exact icWholeB_ok
  · exact icListInit_ok
  · exact icEmptyB_ok
  · exact icNone_ok
end
end Mine
namespace Mine
noncomputable section
open PySem PySem.W
noncomputable def bytesN (n:Nat):Array UInt8:=⟨(List.range n).map fun i=>UInt8.ofNat i⟩
noncomputable def cR (R:Int) (A:Array UInt8) (a b:Int):Nat:=(Int.fmod (a+b*((A.size:Nat):Int)) R).toNat
noncomputable def dom (R:Int) (A:Array UInt8):Bool:=(R == 128 || R == 4294967296) && (List.range 14).any fun k=>decide (A = bytesN (k+1))
theorem dom_is {R:Int} {A:Array UInt8} (h:dom R A = true):(R = 128∨R = 4294967296)∧∃k,k < 14∧A = bytesN (k+1):=by
  unfold dom at h
  rw [Bool.and_eq_true,Bool.or_eq_true] at h
  obtain ⟨h1,h2⟩:=h
  obtain ⟨k,hk,e⟩:=List.any_eq_true.mp h2
  refine ⟨h1.imp (fun h=>by simpa using h) (fun h=>by simpa using h),k,List.mem_range.mp hk,of_decide_eq_true e⟩
theorem dom_all {d:Int→Array UInt8→List Bool} (h:∀k,k < 14→((d 128 (bytesN (k+1))).all id && (d 4294967296 (bytesN (k+1))).all id) = true) {R:Int} {A:Array UInt8} (hd:dom R A = true):∀x∈d R A,x = true:=by
  obtain ⟨hR,k,hk,rfl⟩:=dom_is hd
  have z:=h k hk
  rw [Bool.and_eq_true] at z
  intro x hx
  rcases hR with rfl | rfl
  · exact List.all_eq_true.mp z.1 x hx
  · exact List.all_eq_true.mp z.2 x hx
end
end Mine
namespace Mine
open PySem PySem.W
noncomputable section
noncomputable def hARR1 (R:Int) (A:Array UInt8):NL:=g408 (6::0::0::g309 (g35 (g263 (9::7::0::9::9::g122 (8::6::8::g44 (3::8::8::g9 (g295 (g352 (g353 (g423 (15::16::0::11::g424 (1::9::1::0::10::10::g353 (g425 (15::16::0::g352 (40::12::g6 (8::6::g309 (g26 (8::1::39::0::8::g210 (8::8::8::g35 (g91 (g91 (15::g62 (15::g9 (16::14::0::16::14::0::0::16::g36 (7::17::7::1::0::7::17::7::17::7::17::7::17::15::g62 (15::15::g9 (g97 (16::0::0::18::18::18::g129 (g136 (17::0::0::19::19::19::g9 (g94 (20::18::0::20::20::3::20::g37 (19::17::19::g83 (18::18::18::g129 (g188 (19::0::21::21::3::21::g37 (15::13::15::1::9::0::15::g62 (15::15::15::g9 (g283 (g283 (22::0::0::22::37::2::0::22::20::22::24::24::24::1::0::24::25::g426 (g426 (g426 (27::0::22::20::0::22::20::22::g241 (28::0::28::0::28::28::28::7::28::26::30::22::22::1::9::1::22::23::23::23::23::22::22::22::22::3::40::29::18::21::22::0::15::13::15::23::33::23::1::0::23::33::23::33::15::g62 (15::g62 (15::15::g9 (g211 (32::g7 (34::0::0::36::36::41::34::21::37::37::37::1::0::37::38::38::0::38::38::g354 (g354 (38::37::38::36::40::0::34::32::0::34::32::34::g241 (41::0::41::0::41::41::41::7::41::39::43::34::34::35::36::35::0::35::36::35::36::15::g9 (45::43::0::45::43::0::45::43::0::47::47::47::1::0::47::48::48::g355 (g355 (0::48::48::48::47::48::46::50::0::45::43::0::45::43::45::44::44::1::0::44::51::0::51::0::51::51::51::44::51::49::51::32::32::32::1::0::32::52::52::0::52::52::52::32::52::50::52::0::52::52::52::32::52::50::52::0::52::52::52::32::52::50::54::0::45::43::0::45::43::45::45::1::0::1::0::45::46::46::46::46::0::45::45::45::g129 (g427 (2::55::15::(cR R A (-3) (0))::45::18::44::45::0::0::45::37::2::0::45::43::51::0::51::51::51::44::51::49::58::45::15::g172 (8::g44 (3::g9 (59::57::0::0::59::57::59::g26 (59::g210 (59::g35 (g217 (60::g62 (60::g9 (61::59::0::61::59::0::0::61::g36 (46::62::46::1::0::46::62::46::62::61::g36 (46::46::46::0::46::46::0::56::56::56::1::0::56::63::g428 (g428 (g428 (65::0::61::59::0::61::59::61::g62 (61::61::g205 (64::0::0::66::66::66::g129 (67::65::0::67::65::0::67::65::0::0::67::67::67::g168 (0::68::66::0::68::68::3::68::g37 (67::65::67::g83 (66::66::66::g129 (69::67::0::g143 (69::3::69::g37 (61::59::61::1::12::1::60::g36 (46::70::46::1::0::46::70::46::70::60::g36 (46::46::46::0::46::46::0::56::56::56::0::56::56::0::60::1::14::0::60::g36 (46::46::46::46::0::46::46::46::44::46::56::56::56::0::56::56::0::0::59::57::59::g26 (4::4::4::4::59::0::g356 (59::g26 (0::0::59::37::59::g35 (g315 (15::(cR R A (-3) (1))::59::g127 (59::g26 (59::g26 (1::0::1::g7 (59::37::0::8::6::8::8::[])))))))))))))))))))))))))))))))))))))))))))))))))))))))))))))))))))))))))))))))))))))))))))))
noncomputable def eARR1 (w:World) (L:Lt) (R:Int) (A:Array UInt8):List Ent:=[((L.A 0),(zI 289 (L.A 1))),((L.A 1),(zD 10 [zW w r0 (L.U 2) (.int R (L.U 3)),zW w r50 (L.U 4) (.int 16 (L.U 5)),zW w r1 (L.U 6) (.int 4 (L.U 7)),zW w q38 (L.U 8) (.int (((cR R A (-3) (0)):Nat):Int) (L.U 9)),zW w r53 (L.U 10) (.ref (L.A 2)),zW w r54 (L.U 11) (.ref (L.A 3)),zW w r55 (L.U 12) (.int 13 (L.U 13)),zW w r56 (L.U 14) (.none),zW w r57 (L.U 15) (.bool false),zW w r58 (L.U 16) (.none)])),((L.A 2),⟨.type "bytearray",none,.bytearray ⟨[]⟩ 0,⟨[]⟩⟩),((L.A 3),(zI 155 (L.A 4))),((L.A 4),(zD 2 [zW w r0 (L.U 17) (.int R (L.U 3)),zW w r59 (L.U 18) (.ref (L.A 5))])),((L.A 5),(zL 0 []))]
noncomputable def pARR1 (w:World) (L:Lt) (R:Int) (A:Array UInt8) (Y:Nat→Nat):List Ent:=zS (eARR1 w L R A) [(1,((L.A 1),(zD 10 [zW w r0 (L.U 2) (.int R (L.U 3)),zW w r50 (L.U 4) (.int 16 (L.U 5)),zW w r1 (L.U 6) (.int 4 (L.U 7)),zW w q38 (L.U 8) (.int (((cR R A (-3) (1)):Nat):Int) (Y 0)),zW w r53 (L.U 10) (.ref (L.A 2)),zW w r54 (L.U 11) (.ref (L.A 3)),zW w r55 (L.U 12) (.int 13 (L.U 13)),zW w r56 (L.U 14) (.none),zW w r57 (L.U 15) (.bool false),zW w r58 (L.U 16) (.none)]))),(2,((L.A 2),⟨.type "bytearray",none,.bytearray ((⟨[]⟩:Array UInt8)++A) 0,⟨[]⟩⟩)),(4,((L.A 4),(zD 2 [zW w r0 (L.U 17) (.int R (L.U 3)),zW w r59 (L.U 18) (.ref (Y 1+10))])))]
noncomputable def nARR1 (w:World) (L:Lt) (R:Int) (A:Array UInt8) (Y:Nat→Nat):List Ent:=[((Y 2+10),(zT 0 [.int ((A.size:Nat):Int) (Y 3),.bool true])),((Y 1+10),(zL 2 []))]
noncomputable def cARR1 (L:Lt) (R:Int) (A:Array UInt8):Code:=(.call (.ref 209) ⟨[.ref (L.A 0),.int (R - 3) (L.U 0),.bytes A (L.U 1),.bool false],[]⟩)
noncomputable def ctARR1:Ct2 where
  np:=6
  aI:=[1,5,16,18,26,31]
  uI:=[2,3,7,8,9,10,11,12,13,14,15,17,19,20,21,22,23,28,30]
  iI:=[1]
  bI:=[0]
  code _ L:=cARR1 L (L.I 0) (L.B 0)
  ents w L:=eARR1 w L (L.I 0) (L.B 0)
  posts w L Y:=pARR1 w L (L.I 0) (L.B 0) Y
  news w L Y:=nARR1 w L (L.I 0) (L.B 0) Y
  nn:=2
  res w L Y:=(.ret (.ref (Y 2+10)))
  ds L:=[dom (L.I 0) (L.B 0)]
  sh:=shapeB [0,0,0,0,1,0,2]
noncomputable def yARR1 (sz tk:Nat) (ω:Nat→Nat):List Nat:=[tk+162,sz+38,sz+64,tk+168]
noncomputable def dARR1 (R:Int) (A:Array UInt8):List Bool:=[Nat.ble A.size 1000,!(R == 0),Int.fmod ((((cR R A (-3) (0)):Nat):Int)+((A.size:Nat):Int)) R == (((cR R A (-3) (1)):Nat):Int),Nat.ble A.size 1000,true,Nat.ble ((⟨[]⟩:Array UInt8)++A).size 1000,!(((((cR R A (-3) (0)):Nat):Int) != (((cR R A (-3) (0)):Nat):Int))),true,!(R == 0),Int.fmod ((((cR R A (-3) (0)):Nat):Int) - (((cR R A (-3) (0)):Nat):Int)) R == ((0:Nat):Int),true,!(R == 0),Int.fmod ((((cR R A (-3) (0)):Nat):Int) - (((cR R A (-3) (0)):Nat):Int)) R == ((0:Nat):Int),Nat.ble A.size 1000,true,!(R == 0),Int.fmod ((((cR R A (-3) (0)):Nat):Int)+0) R == (((cR R A (-3) (0)):Nat):Int),true,true,true,true,Nat.blt 0 A.size,true,decide (0 < (0+((A.size:Nat):Int))),Nat.ble A.size 1000,true,!(R == 0),Int.fmod ((R - 3) - (((cR R A (-3) (0)):Nat):Int)) R == ((0:Nat):Int),true,!(R == 0),Int.fmod ((((cR R A (-3) (0)):Nat):Int) - (R - 3)) R == ((0:Nat):Int),!((A.toList == (⟨[]⟩:Array UInt8).toList)),true,Nat.blt 0 A.size,decide (((A.size:Nat):Int)≤16),!(R == 0),Int.fmod (13 - (R - 3)) R == ((16:Nat):Int),decide (32 < R),true,true,!(R == 0),Int.fmod (13 - (R - 3)) R == ((16:Nat):Int),((R - 3) == (((cR R A (-3) (0)):Nat):Int))]
theorem dARR1_all:∀k,k < 14→((dARR1 128 (bytesN (k+1))).all id && (dARR1 4294967296 (bytesN (k+1))).all id) = true:=by decide+kernel
theorem rARR1 (w:World) (L:Lt) (f:Fm) (p:Pos) (ω:Nat→Nat) (sz tk:Nat):
  RunIs (sim (VW w icO (mkSt f 0 [0,0,0,0,1,0,2])) 2584 ω (hARR1 (L.I 0) (L.B 0)) (denQ (ctARR1.code w (up L))) (ctARR1.code w (up L)) p [] (sz+10) tk 6 (treeOf (ctARR1.ents w (up L))) [] [])
   (.ok (ctARR1.res w (up L) (rd (yARR1 sz tk ω)))) [0,1,2,3,4,5,70,44] (ctARR1.posts w (up L) (rd (yARR1 sz tk ω))++ctARR1.news w (up L) (rd (yARR1 sz tk ω)))
   (dARR1 (L.I 0) (L.B 0)):=⟨by kernel_rfl⟩
theorem okARR1 (w:World):Ct2Ok w ctARR1:=ct2_okc (own:=icO) (ks:=[0,0,0,0,1,0,2]) rfl icO_own (fun _ _=>by kernel_rfl) (fun _ _=>by kernel_rfl) (fun _=>by kernel_rfl) fun L hd=>
  ⟨2584,hARR1 (L.I 0) (L.B 0),[0,1,2,3,4,5,70,44],yARR1,fun _ _ _=>dARR1 (L.I 0) (L.B 0),rfl,fun _ _ _=>dom_all dARR1_all (hd _ (.head _)),fun f p ω sz tk=>castK (by kernel_rfl) (rARR1 w L f p ω sz tk)⟩
noncomputable def hARR2 (R:Int) (A:Array UInt8):NL:=g7 (9::7::0::g263 (9::7::0::0::9::9::g26 (9::g35 (g295 (10::8::0::10::10::g122 (9::7::9::g357 (g278 (9::0::0::11::11::g26 (11::g35 (12::10::0::12::10::0::12::10::0::0::12::12::12::g9 (g425 (15::(cR R A (16) (-1))::0::12::10::12::g102 (12::4::12::1::9::1::0::11::11::g26 (11::g35 (14::12::0::14::12::0::14::12::0::14::14::3::14::15::(cR R A (16) (-1))::0::11::9::0::0::11::11::42::13::g6 (9::7::9::0::0::9::g6 (9::0::0::1::13::1::9::g44 (3::0::9::0::0::9::0::0::9::g429 (16::14::0::16::16::2::16::15::(cR R A (-3) (1))::g9 (17::15::0::17::15::0::17::g26 (0::17::17::g26 (17::g35 (g97 (16::0::0::18::18::18::g9 (19::17::0::g136 (19::3::19::g37 (18::16::18::g100 (17::17::g127 (17::g210 (17::17::g35 (g94 (20::18::0::20::g62 (20::20::g9 (g188 (19::0::0::21::21::21::g129 (g283 (22::20::0::0::22::22::22::g430 (23::21::0::23::23::3::23::g37 (22::20::22::g83 (21::21::21::g129 (g284 (24::22::0::24::24::3::24::g37 (20::18::0::20::18::20::g241 (26::0::26::0::26::26::26::7::26::24::28::20::20::g172 (9::g26 (9::g357 (g209 (27::0::0::29::29::g26 (29::g35 (g171 (30::28::0::0::g431 (31::3::31::g37 (30::28::30::g83 (9::7::9::g26 (9::1::0::9::g44 (3::g9 (32::30::0::0::32::30::32::g26 (32::g210 (32::g35 (g185 (33::g62 (33::g9 (34::32::0::34::32::0::0::34::g36 (25::35::25::1::0::25::35::25::35::25::35::25::35::33::g36 (25::36::25::1::0::25::36::25::36::25::36::25::36::0::32::30::32::g26 (4::4::4::4::32::0::g356 (32::g26 (0::0::32::0::0::32::g35 (g264 (37::37::2::37::15::(cR R A (-3) (1))::32::g127 (32::g26 (32::g26 (1::13::1::32::g26 (32::g127 (0::32::g26 (32::g35 (g432 (0::38::38::2::38::15::(cR R A (-2) (1))::32::g127 (0::0::32::g7 (9::7::9::9::[]))))))))))))))))))))))))))))))))))))))))))))))))))))))))))))))))))))))))))))))))
noncomputable def eARR2 (w:World) (L:Lt) (R:Int) (A:Array UInt8):List Ent:=[((L.A 0),(zI 289 (L.A 1))),((L.A 1),(zD 10 [zW w r0 (L.U 2) (.int R (L.U 3)),zW w r50 (L.U 4) (.int 16 (L.U 5)),zW w r1 (L.U 6) (.int 4 (L.U 7)),zW w q38 (L.U 8) (.int (((cR R A (-3) (1)):Nat):Int) (L.U 9)),zW w r53 (L.U 10) (.ref (L.A 2)),zW w r54 (L.U 11) (.ref (L.A 3)),zW w r55 (L.U 12) (.int 13 (L.U 13)),zW w r56 (L.U 14) (.none),zW w r57 (L.U 15) (.bool false),zW w r58 (L.U 16) (.none)])),((L.A 2),⟨.type "bytearray",none,.bytearray ((⟨[]⟩:Array UInt8)++A) 0,⟨[]⟩⟩),((L.A 3),(zI 155 (L.A 4))),((L.A 4),(zD 2 [zW w r0 (L.U 17) (.int R (L.U 3)),zW w r59 (L.U 18) (.ref (L.A 5))])),((L.A 5),(zL 2 [])),((L.A 6),(zD 9 [zW w r60 (L.U 19) (.int 90 (L.U 20)),zW w r61 (L.U 21) (.int 80 (L.U 22)),zW w r62 (L.U 23) (.int (R - 3) (L.U 24)),zW w r63 (L.U 25) (.int 21 (L.U 26)),zW w r64 (L.U 27) (.int 16 (L.U 28)),zW w q332 (L.U 29) (.int 30 (L.U 30)),zW w q351 (L.U 31) (.int 0 (L.U 32)),zW w r65 (L.U 33) (.bytes ⟨[]⟩ (L.U 34)),zW w r66 (L.U 35) (.bytes A (L.U 36))]))]
noncomputable def pARR2 (w:World) (L:Lt) (R:Int) (A:Array UInt8) (Y:Nat→Nat):List Ent:=zS (eARR2 w L R A) [(1,((L.A 1),(zD 10 [zW w r0 (L.U 2) (.int R (L.U 3)),zW w r50 (L.U 4) (.int 16 (L.U 5)),zW w r1 (L.U 6) (.int 4 (L.U 7)),zW w q38 (L.U 8) (.int (((cR R A (-2) (1)):Nat):Int) (Y 0)),zW w r53 (L.U 10) (.ref (L.A 2)),zW w r54 (L.U 11) (.ref (L.A 3)),zW w r55 (L.U 12) (.int 13 (L.U 13)),zW w r56 (L.U 14) (.int (((cR R A (-3) (1)):Nat):Int) (Y 1)),zW w r57 (L.U 15) (.bool true),zW w r58 (L.U 16) (.none)]))),(2,((L.A 2),⟨.type "bytearray",none,.bytearray (((⟨[]⟩:Array UInt8)++A)++(⟨[]⟩:Array UInt8)) 0,⟨[]⟩⟩)),(4,((L.A 4),(zD 2 [zW w r0 (L.U 17) (.int R (L.U 3)),zW w r59 (L.U 18) (.ref (Y 2+10))])))]
noncomputable def nARR2 (w:World) (L:Lt) (R:Int) (A:Array UInt8) (Y:Nat→Nat):List Ent:=[((Y 3+10),(zT 0 [.int 0 (Y 4),.bool true])),((Y 2+10),(zL 0 []))]
noncomputable def cARR2 (L:Lt) (R:Int) (A:Array UInt8):Code:=(.call (.ref 209) ⟨[.ref (L.A 0),.int (((cR R A (-3) (1)):Nat):Int) (L.U 0),.bytes ⟨[]⟩ (L.U 1),.bool true],[]⟩)
noncomputable def ctARR2:Ct2 where
  np:=7
  aI:=[1,5,16,18,26,31,33]
  uI:=[2,3,7,8,9,10,11,12,13,14,15,17,19,20,21,22,23,28,30,34,35,36,37,38,39,40,41,42,43,44,45,46,47,48,49,50,51]
  iI:=[1]
  bI:=[2]
  code _ L:=cARR2 L (L.I 0) (L.B 0)
  ents w L:=eARR2 w L (L.I 0) (L.B 0)
  posts w L Y:=pARR2 w L (L.I 0) (L.B 0) Y
  news w L Y:=nARR2 w L (L.I 0) (L.B 0) Y
  nn:=2
  res w L Y:=(.ret (.ref (Y 3+10)))
  ds L:=[dom (L.I 0) (L.B 0)]
  sh:=shapeB [0,0,0,0,1,0,2]
noncomputable def yARR2 (sz tk:Nat) (ω:Nat→Nat):List Nat:=[tk+154,tk+48,sz+16,sz+30,tk+158]
noncomputable def dARR2 (R:Int) (A:Array UInt8):List Bool:=[!(R == 0),Int.fmod ((((cR R A (-3) (1)):Nat):Int)+1) R == (((cR R A (-2) (1)):Nat):Int),((((cR R A (-3) (1)):Nat):Int) == (((cR R A (-3) (1)):Nat):Int)),!(R == 0),Int.fmod ((((cR R A (-3) (1)):Nat):Int)+0) R == (((cR R A (-3) (1)):Nat):Int),true,Nat.ble (((⟨[]⟩:Array UInt8)++A)++(⟨[]⟩:Array UInt8)).size 1000,true,!(R == 0),Int.fmod ((((cR R A (-3) (1)):Nat):Int) - (((cR R A (-3) (1)):Nat):Int)) R == ((0:Nat):Int),!(R == 0),Int.fmod ((((cR R A (-3) (1)):Nat):Int) - (((cR R A (-3) (1)):Nat):Int)) R == ((0:Nat):Int),true,!(R == 0),Int.fmod ((((cR R A (-3) (1)):Nat):Int) - (((cR R A (-3) (1)):Nat):Int)) R == ((0:Nat):Int),true,!(R == 0),Int.fmod ((((cR R A (-3) (1)):Nat):Int) - (((cR R A (-3) (1)):Nat):Int)) R == ((0:Nat):Int),!(R == 0),Int.fmod ((((cR R A (-3) (1)):Nat):Int)+0) R == (((cR R A (-3) (1)):Nat):Int),true,true,true,true,!(R == 0),Int.fmod (13 - (((cR R A (-3) (1)):Nat):Int)) R == (((cR R A (16) (-1)):Nat):Int),decide ((2*(((cR R A (16) (-1)):Nat):Int)) < R),mulOk 2 (((cR R A (16) (-1)):Nat):Int),decide ((((cR R A (16) (-1)):Nat):Int) > 0),!(R == 0),Int.fmod (13 - (((cR R A (-3) (1)):Nat):Int)) R == (((cR R A (16) (-1)):Nat):Int),((((cR R A (-3) (1)):Nat):Int) == (((cR R A (-3) (1)):Nat):Int))]
theorem dARR2_all:∀k,k < 14→((dARR2 128 (bytesN (k+1))).all id && (dARR2 4294967296 (bytesN (k+1))).all id) = true:=by decide+kernel
theorem rARR2 (w:World) (L:Lt) (f:Fm) (p:Pos) (ω:Nat→Nat) (sz tk:Nat):
  RunIs (sim (VW w icO (mkSt f 0 [0,0,0,0,1,0,2])) 2026 ω (hARR2 (L.I 0) (L.B 0)) (denQ (ctARR2.code w (up L))) (ctARR2.code w (up L)) p [] (sz+10) tk 7 (treeOf (ctARR2.ents w (up L))) [] [])
   (.ok (ctARR2.res w (up L) (rd (yARR2 sz tk ω)))) [0,1,2,3,4,5,6,37,23] (ctARR2.posts w (up L) (rd (yARR2 sz tk ω))++ctARR2.news w (up L) (rd (yARR2 sz tk ω)))
   (dARR2 (L.I 0) (L.B 0)):=⟨by kernel_rfl⟩
theorem okARR2 (w:World):Ct2Ok w ctARR2:=ct2_okc (own:=icO) (ks:=[0,0,0,0,1,0,2]) rfl icO_own (fun _ _=>by kernel_rfl) (fun _ _=>by kernel_rfl) (fun _=>by kernel_rfl) fun L hd=>
  ⟨2026,hARR2 (L.I 0) (L.B 0),[0,1,2,3,4,5,6,37,23],yARR2,fun _ _ _=>dARR2 (L.I 0) (L.B 0),rfl,fun _ _ _=>dom_all dARR2_all (hd _ (.head _)),fun f p ω sz tk=>castK (by kernel_rfl) (rARR2 w L f p ω sz tk)⟩
noncomputable def hARR3 (R:Int) (A:Array UInt8):NL:=g7 (9::7::0::g263 (9::7::0::0::9::9::g26 (9::g35 (g295 (10::8::0::10::10::g115 (10::10::10::g9 (g423 (15::(cR R A (0) (-1))::0::11::g424 (g146 (9::7::9::g357 (g314 (11::0::0::13::13::g26 (13::g35 (14::12::0::14::12::0::14::12::0::0::14::14::14::g9 (g91 (15::13::0::15::15::3::15::15::(cR R A (16) (-1))::0::14::12::14::g102 (14::4::14::1::9::1::0::13::13::g26 (13::g429 (16::14::0::16::16::3::16::15::(cR R A (16) (-1))::0::13::11::0::0::13::13::42::15::g6 (9::7::9::0::0::9::g6 (9::0::0::1::13::1::9::g44 (3::0::9::0::0::9::0::0::9::g35 (18::16::0::18::16::0::18::16::0::18::18::2::18::15::(cR R A (-3) (1))::g9 (g136 (g26 (0::19::19::g26 (19::g35 (g94 (20::18::0::0::20::20::20::g9 (g188 (19::0::21::21::3::21::15::(cR R A (0) (-1))::0::20::18::20::g102 (20::4::20::1::9::0::19::19::g127 (19::g210 (19::19::g35 (g283 (22::20::0::22::g62 (22::22::g430 (23::21::g358 (g284 (24::22::0::0::24::24::24::g9 (g433 (25::25::3::25::15::(cR R A (0) (-1))::0::24::22::24::g102 (24::4::24::1::9::g358 (g359 (26::3::26::15::(cR R A (0) (1))::0::22::20::0::22::20::22::g241 (28::0::28::0::28::28::28::7::28::26::30::22::22::g172 (9::g26 (9::g357 (g134 (29::0::0::31::31::g26 (31::g35 (g186 (32::30::0::0::32::32::32::g9 (g185 (33::31::0::33::33::3::33::g37 (32::30::32::g83 (9::7::9::g26 (9::1::0::9::g44 (3::g9 (34::32::0::0::34::32::34::g26 (34::g210 (34::g35 (g110 (35::g62 (35::g9 (36::34::0::36::34::0::0::36::g36 (27::37::27::1::0::27::37::27::37::27::37::27::37::35::g36 (27::38::27::1::0::27::38::27::38::27::38::27::38::0::34::32::34::g26 (4::4::4::4::34::0::g356 (34::g26 (0::0::34::0::0::34::g35 (g434 (2::39::15::(cR R A (-3) (0))::34::g127 (34::g26 (34::g26 (1::13::g7 (34::g7 (9::7::9::9::[]))))))))))))))))))))))))))))))))))))))))))))))))))))))))))))))))))))))))))))))
noncomputable def eARR3 (w:World) (L:Lt) (R:Int) (A:Array UInt8):List Ent:=[((L.A 0),(zI 289 (L.A 1))),((L.A 1),(zD 10 [zW w r0 (L.U 2) (.int R (L.U 3)),zW w r50 (L.U 4) (.int 16 (L.U 5)),zW w r1 (L.U 6) (.int 4 (L.U 7)),zW w q38 (L.U 8) (.int (((cR R A (-3) (0)):Nat):Int) (L.U 9)),zW w r53 (L.U 10) (.ref (L.A 2)),zW w r54 (L.U 11) (.ref (L.A 3)),zW w r55 (L.U 12) (.int 13 (L.U 13)),zW w r56 (L.U 14) (.none),zW w r57 (L.U 15) (.bool false),zW w r58 (L.U 16) (.none)])),((L.A 2),⟨.type "bytearray",none,.bytearray ⟨[]⟩ 0,⟨[]⟩⟩),((L.A 3),(zI 155 (L.A 4))),((L.A 4),(zD 2 [zW w r0 (L.U 17) (.int R (L.U 3)),zW w r59 (L.U 18) (.ref (L.A 5))])),((L.A 5),(zL 0 [])),((L.A 6),(zD 9 [zW w r60 (L.U 19) (.int 90 (L.U 20)),zW w r61 (L.U 21) (.int 80 (L.U 22)),zW w r62 (L.U 23) (.int (R - 3) (L.U 24)),zW w r63 (L.U 25) (.int 21 (L.U 26)),zW w r64 (L.U 27) (.int 16 (L.U 28)),zW w q332 (L.U 29) (.int 30 (L.U 30)),zW w q351 (L.U 31) (.int 0 (L.U 32)),zW w r65 (L.U 33) (.bytes ⟨[]⟩ (L.U 34)),zW w r66 (L.U 35) (.bytes A (L.U 36))]))]
noncomputable def pARR3 (w:World) (L:Lt) (R:Int) (A:Array UInt8) (Y:Nat→Nat):List Ent:=zS (eARR3 w L R A) [(1,((L.A 1),(zD 10 [zW w r0 (L.U 2) (.int R (L.U 3)),zW w r50 (L.U 4) (.int 16 (L.U 5)),zW w r1 (L.U 6) (.int 4 (L.U 7)),zW w q38 (L.U 8) (.int (((cR R A (-3) (0)):Nat):Int) (Y 0)),zW w r53 (L.U 10) (.ref (L.A 2)),zW w r54 (L.U 11) (.ref (L.A 3)),zW w r55 (L.U 12) (.int 13 (L.U 13)),zW w r56 (L.U 14) (.int (((cR R A (-3) (1)):Nat):Int) (Y 1)),zW w r57 (L.U 15) (.bool false),zW w r58 (L.U 16) (.none)]))),(4,((L.A 4),(zD 2 [zW w r0 (L.U 17) (.int R (L.U 3)),zW w r59 (L.U 18) (.ref (Y 2+10))])))]
noncomputable def nARR3 (w:World) (L:Lt) (R:Int) (A:Array UInt8) (Y:Nat→Nat):List Ent:=[((Y 3+10),(zT 0 [.int 0 (Y 4),.bool false])),((Y 2+10),(zL 0 []))]
noncomputable def cARR3 (L:Lt) (R:Int) (A:Array UInt8):Code:=(.call (.ref 209) ⟨[.ref (L.A 0),.int (((cR R A (-3) (1)):Nat):Int) (L.U 0),.bytes ⟨[]⟩ (L.U 1),.bool true],[]⟩)
noncomputable def ctARR3:Ct2 where
  np:=7
  aI:=[1,5,16,18,26,31,33]
  uI:=[2,3,7,8,9,10,11,12,13,14,15,17,19,20,21,22,23,28,30,34,35,36,37,38,39,40,41,42,43,44,45,46,47,48,49,50,51]
  iI:=[1]
  bI:=[2]
  code _ L:=cARR3 L (L.I 0) (L.B 0)
  ents w L:=eARR3 w L (L.I 0) (L.B 0)
  posts w L Y:=pARR3 w L (L.I 0) (L.B 0) Y
  news w L Y:=nARR3 w L (L.I 0) (L.B 0) Y
  nn:=2
  res w L Y:=(.ret (.ref (Y 3+10)))
  ds L:=[dom (L.I 0) (L.B 0)]
  sh:=shapeB [0,0,0,0,1,0,2]
noncomputable def yARR3 (sz tk:Nat) (ω:Nat→Nat):List Nat:=[tk+155,tk+60,sz+18,sz+31,tk+161]
noncomputable def dARR3 (R:Int) (A:Array UInt8):List Bool:=[!(((((cR R A (-3) (1)):Nat):Int) == (((cR R A (-3) (0)):Nat):Int))),!(R == 0),Int.fmod ((((cR R A (-3) (0)):Nat):Int)+0) R == (((cR R A (-3) (0)):Nat):Int),true,true,true,!(R == 0),Int.fmod ((((cR R A (-3) (1)):Nat):Int) - (((cR R A (-3) (1)):Nat):Int)) R == ((0:Nat):Int),!(R == 0),Int.fmod ((((cR R A (-3) (1)):Nat):Int) - (((cR R A (-3) (0)):Nat):Int)) R == (((cR R A (0) (1)):Nat):Int),!(decide ((2*(((cR R A (0) (-1)):Nat):Int)) < R)),mulOk 2 (((cR R A (0) (-1)):Nat):Int),decide ((((cR R A (0) (-1)):Nat):Int) > 0),!(R == 0),Int.fmod ((((cR R A (-3) (0)):Nat):Int) - (((cR R A (-3) (1)):Nat):Int)) R == (((cR R A (0) (-1)):Nat):Int),!(decide ((2*(((cR R A (0) (-1)):Nat):Int)) < R)),mulOk 2 (((cR R A (0) (-1)):Nat):Int),decide ((((cR R A (0) (-1)):Nat):Int) > 0),!(R == 0),Int.fmod ((((cR R A (-3) (0)):Nat):Int) - (((cR R A (-3) (1)):Nat):Int)) R == (((cR R A (0) (-1)):Nat):Int),!(R == 0),Int.fmod ((((cR R A (-3) (1)):Nat):Int)+0) R == (((cR R A (-3) (1)):Nat):Int),true,true,true,true,!(R == 0),Int.fmod (13 - (((cR R A (-3) (1)):Nat):Int)) R == (((cR R A (16) (-1)):Nat):Int),decide ((2*(((cR R A (16) (-1)):Nat):Int)) < R),mulOk 2 (((cR R A (16) (-1)):Nat):Int),decide ((((cR R A (16) (-1)):Nat):Int) > 0),!(R == 0),Int.fmod (13 - (((cR R A (-3) (1)):Nat):Int)) R == (((cR R A (16) (-1)):Nat):Int),!(decide ((2*(((cR R A (0) (-1)):Nat):Int)) < R)),mulOk 2 (((cR R A (0) (-1)):Nat):Int),decide ((((cR R A (0) (-1)):Nat):Int) > 0),!(R == 0),Int.fmod ((((cR R A (-3) (0)):Nat):Int) - (((cR R A (-3) (1)):Nat):Int)) R == (((cR R A (0) (-1)):Nat):Int),!(((((cR R A (-3) (1)):Nat):Int) == (((cR R A (-3) (0)):Nat):Int)))]
theorem dARR3_all:∀k,k < 14→((dARR3 128 (bytesN (k+1))).all id && (dARR3 4294967296 (bytesN (k+1))).all id) = true:=by decide+kernel
theorem rARR3 (w:World) (L:Lt) (f:Fm) (p:Pos) (ω:Nat→Nat) (sz tk:Nat):
  RunIs (sim (VW w icO (mkSt f 0 [0,0,0,0,1,0,2])) 1997 ω (hARR3 (L.I 0) (L.B 0)) (denQ (ctARR3.code w (up L))) (ctARR3.code w (up L)) p [] (sz+10) tk 7 (treeOf (ctARR3.ents w (up L))) [] [])
   (.ok (ctARR3.res w (up L) (rd (yARR3 sz tk ω)))) [0,1,2,3,4,5,6,38,25] (ctARR3.posts w (up L) (rd (yARR3 sz tk ω))++ctARR3.news w (up L) (rd (yARR3 sz tk ω)))
   (dARR3 (L.I 0) (L.B 0)):=⟨by kernel_rfl⟩
theorem okARR3 (w:World):Ct2Ok w ctARR3:=ct2_okc (own:=icO) (ks:=[0,0,0,0,1,0,2]) rfl icO_own (fun _ _=>by kernel_rfl) (fun _ _=>by kernel_rfl) (fun _=>by kernel_rfl) fun L hd=>
  ⟨1997,hARR3 (L.I 0) (L.B 0),[0,1,2,3,4,5,6,38,25],yARR3,fun _ _ _=>dARR3 (L.I 0) (L.B 0),rfl,fun _ _ _=>dom_all dARR3_all (hd _ (.head _)),fun f p ω sz tk=>castK (by kernel_rfl) (rARR3 w L f p ω sz tk)⟩
noncomputable def hARR4 (R:Int) (A:Array UInt8):NL:=g408 (6::0::0::g309 (g35 (g263 (9::7::0::9::9::g122 (8::6::8::g44 (3::8::8::g9 (g295 (g352 (g353 (g423 (15::16::0::11::g424 (1::9::1::0::10::10::g353 (g425 (15::16::0::g352 (40::12::g6 (8::6::g309 (g44 (3::8::8::g9 (g91 (15::13::0::0::15::15::g26 (15::g429 (16::14::0::0::16::16::16::g9 (17::15::0::17::15::0::17::15::0::17::17::3::17::15::(cR R A (0) (1))::0::16::14::16::g102 (16::4::16::1::9::1::15::0::15::15::g26 (15::g35 (18::16::0::18::16::0::18::16::0::18::18::3::18::15::(cR R A (0) (1))::40::17::0::8::6::8::g26 (8::1::39::0::8::g210 (8::8::8::g35 (g94 (g94 (20::g62 (20::g9 (21::19::0::21::19::0::0::21::g36 (7::22::7::1::0::7::22::7::22::7::22::7::22::20::g62 (20::20::g430 (23::21::g358 (g284 (24::22::0::0::24::24::24::g9 (g433 (25::25::3::25::g37 (24::22::24::1::11::g358 (g359 (26::3::26::g37 (20::18::20::1::9::0::20::g62 (20::20::20::g9 (g184 (g184 (27::0::0::27::37::2::0::g238 (29::29::29::1::0::29::30::30::0::30::30::30::29::g351 (29::g351 (29::30::28::32::0::27::25::0::g238 (g241 (33::0::33::0::33::33::33::7::33::31::35::27::27::1::9::1::27::28::28::28::28::27::27::27::27::3::40::34::18::26::27::0::20::18::20::28::38::28::1::0::28::38::28::38::20::g62 (20::g62 (20::20::g9 (g160 (39::37::g7 (39::0::0::41::41::41::39::26::42::42::42::1::0::42::43::43::0::43::43::43::42::43::41::43::0::43::43::43::42::43::41::43::0::43::43::43::42::43::41::45::0::39::37::0::39::37::39::g241 (46::0::46::0::46::46::46::7::46::44::48::39::39::40::41::40::0::40::41::40::41::20::g267 (g105 (0::53::53::53::52::53::51::55::0::50::48::0::50::48::50::49::49::1::0::49::56::0::56::0::56::56::56::49::56::54::56::37::37::37::1::0::37::57::57::0::57::57::57::37::57::55::57::0::57::57::57::37::57::55::57::0::57::57::57::37::57::55::59::0::50::48::0::50::48::50::50::1::0::1::0::50::51::51::51::51::0::50::50::50::g129 (g217 (60::58::0::60::60::2::60::15::(cR R A (-3) (0))::50::18::49::50::0::0::50::37::2::0::50::48::56::0::56::56::56::49::56::54::63::50::20::g172 (8::g44 (3::g9 (64::62::0::0::64::62::64::g26 (64::g210 (64::g35 (g131 (g62 (65::g9 (66::64::0::66::64::0::0::66::g36 (51::67::51::1::0::51::67::51::67::66::g36 (51::51::51::0::51::51::0::61::61::61::1::0::61::68::68::0::68::68::68::61::g360 (61::g360 (61::68::66::70::0::66::64::0::66::64::66::g62 (66::66::g9 (71::69::0::71::69::0::71::69::0::0::71::71::71::g129 (72::70::0::72::70::0::72::70::0::0::72::72::72::g9 (73::71::0::73::71::0::73::71::0::73::73::3::73::g37 (72::70::72::g83 (71::71::71::g129 (g268 (74::72::0::74::74::3::74::g37 (66::64::66::1::12::1::65::g36 (51::75::51::1::0::51::75::51::75::65::g36 (51::51::51::0::51::51::0::61::61::61::0::61::61::0::65::1::14::0::65::g36 (51::51::51::51::0::51::51::51::49::51::61::61::61::0::61::61::0::0::64::62::64::g26 (4::4::4::4::64::0::g356 (64::g26 (0::0::64::37::64::g35 (76::74::0::76::74::0::76::74::0::76::76::2::76::15::(cR R A (-3) (1))::64::g127 (64::g26 (64::g26 (1::13::1::64::g26 (64::g127 (0::64::g26 (64::g35 (77::75::0::77::75::0::77::75::0::77::77::2::77::15::(cR R A (-2) (1))::64::g54 (3::1::3::0::0::64::37::0::8::6::8::8::[]))))))))))))))))))))))))))))))))))))))))))))))))))))))))))))))))))))))))))))))))))))))))))))))))))))
noncomputable def eARR4 (w:World) (L:Lt) (R:Int) (A:Array UInt8):List Ent:=[((L.A 0),(zI 289 (L.A 1))),((L.A 1),(zD 10 [zW w r0 (L.U 2) (.int R (L.U 3)),zW w r50 (L.U 4) (.int 16 (L.U 5)),zW w r1 (L.U 6) (.int 4 (L.U 7)),zW w q38 (L.U 8) (.int (((cR R A (-3) (0)):Nat):Int) (L.U 9)),zW w r53 (L.U 10) (.ref (L.A 2)),zW w r54 (L.U 11) (.ref (L.A 3)),zW w r55 (L.U 12) (.int 13 (L.U 13)),zW w r56 (L.U 14) (.int (((cR R A (-3) (1)):Nat):Int) (L.U 15)),zW w r57 (L.U 16) (.bool false),zW w r58 (L.U 17) (.none)])),((L.A 2),⟨.type "bytearray",none,.bytearray ⟨[]⟩ 0,⟨[]⟩⟩),((L.A 3),(zI 155 (L.A 4))),((L.A 4),(zD 2 [zW w r0 (L.U 18) (.int R (L.U 3)),zW w r59 (L.U 19) (.ref (L.A 5))])),((L.A 5),(zL 0 []))]
noncomputable def pARR4 (w:World) (L:Lt) (R:Int) (A:Array UInt8) (Y:Nat→Nat):List Ent:=zS (eARR4 w L R A) [(1,((L.A 1),(zD 10 [zW w r0 (L.U 2) (.int R (L.U 3)),zW w r50 (L.U 4) (.int 16 (L.U 5)),zW w r1 (L.U 6) (.int 4 (L.U 7)),zW w q38 (L.U 8) (.int (((cR R A (-2) (1)):Nat):Int) (Y 0)),zW w r53 (L.U 10) (.ref (L.A 2)),zW w r54 (L.U 11) (.ref (L.A 3)),zW w r55 (L.U 12) (.int 13 (L.U 13)),zW w r56 (L.U 14) (.int (((cR R A (-3) (1)):Nat):Int) (L.U 15)),zW w r57 (L.U 16) (.bool true),zW w r58 (L.U 17) (.none)]))),(2,((L.A 2),⟨.type "bytearray",none,.bytearray ((⟨[]⟩:Array UInt8)++A) 0,⟨[]⟩⟩)),(4,((L.A 4),(zD 2 [zW w r0 (L.U 18) (.int R (L.U 3)),zW w r59 (L.U 19) (.ref (Y 1+10))])))]
noncomputable def nARR4 (w:World) (L:Lt) (R:Int) (A:Array UInt8) (Y:Nat→Nat):List Ent:=[((Y 2+10),(zT 0 [.int ((A.size:Nat):Int) (Y 3),.bool true])),((Y 1+10),(zL 2 []))]
noncomputable def cARR4 (L:Lt) (R:Int) (A:Array UInt8):Code:=(.call (.ref 209) ⟨[.ref (L.A 0),.int (R - 3) (L.U 0),.bytes A (L.U 1),.bool false],[]⟩)
noncomputable def ctARR4:Ct2 where
  np:=6
  aI:=[1,5,16,18,27,32]
  uI:=[2,3,7,8,9,10,11,12,13,14,15,17,19,20,21,22,23,24,29,31]
  iI:=[1]
  bI:=[0]
  code _ L:=cARR4 L (L.I 0) (L.B 0)
  ents w L:=eARR4 w L (L.I 0) (L.B 0)
  posts w L Y:=pARR4 w L (L.I 0) (L.B 0) Y
  news w L Y:=nARR4 w L (L.I 0) (L.B 0) Y
  nn:=2
  res w L Y:=(.ret (.ref (Y 2+10)))
  ds L:=[dom (L.I 0) (L.B 0)]
  sh:=shapeB [0,0,0,0,1,0,2]
noncomputable def yARR4 (sz tk:Nat) (ω:Nat→Nat):List Nat:=[tk+202,sz+43,sz+70,tk+206]
noncomputable def dARR4 (R:Int) (A:Array UInt8):List Bool:=[Nat.ble A.size 1000,!(R == 0),Int.fmod ((((cR R A (-3) (1)):Nat):Int)+1) R == (((cR R A (-2) (1)):Nat):Int),((((cR R A (-3) (1)):Nat):Int) == (((cR R A (-3) (1)):Nat):Int)),!(R == 0),Int.fmod ((((cR R A (-3) (0)):Nat):Int)+((A.size:Nat):Int)) R == (((cR R A (-3) (1)):Nat):Int),Nat.ble A.size 1000,true,Nat.ble ((⟨[]⟩:Array UInt8)++A).size 1000,!(((((cR R A (-3) (0)):Nat):Int) != (((cR R A (-3) (0)):Nat):Int))),true,!(R == 0),Int.fmod ((((cR R A (-3) (0)):Nat):Int) - (((cR R A (-3) (0)):Nat):Int)) R == ((0:Nat):Int),true,!(R == 0),Int.fmod ((((cR R A (-3) (0)):Nat):Int) - (((cR R A (-3) (0)):Nat):Int)) R == ((0:Nat):Int),Nat.ble A.size 1000,true,!(R == 0),Int.fmod ((((cR R A (-3) (0)):Nat):Int)+0) R == (((cR R A (-3) (0)):Nat):Int),true,true,true,true,Nat.blt 0 A.size,true,decide (0 < (0+((A.size:Nat):Int))),Nat.ble A.size 1000,true,!(R == 0),Int.fmod ((R - 3) - (((cR R A (-3) (0)):Nat):Int)) R == ((0:Nat):Int),true,!(R == 0),Int.fmod ((((cR R A (-3) (0)):Nat):Int) - (R - 3)) R == ((0:Nat):Int),!((A.toList == (⟨[]⟩:Array UInt8).toList)),true,Nat.blt 0 A.size,decide (((A.size:Nat):Int)≤(((cR R A (0) (1)):Nat):Int)),!(R == 0),Int.fmod ((((cR R A (-3) (1)):Nat):Int) - (R - 3)) R == (((cR R A (0) (1)):Nat):Int),decide ((2*(((cR R A (0) (1)):Nat):Int)) < R),mulOk 2 (((cR R A (0) (1)):Nat):Int),decide ((((cR R A (0) (1)):Nat):Int) > 0),!(R == 0),Int.fmod ((((cR R A (-3) (1)):Nat):Int) - (R - 3)) R == (((cR R A (0) (1)):Nat):Int),true,Nat.blt 0 A.size,decide (((A.size:Nat):Int)≤16),!(R == 0),Int.fmod (13 - (R - 3)) R == ((16:Nat):Int),decide (32 < R),true,true,!(R == 0),Int.fmod (13 - (R - 3)) R == ((16:Nat):Int),((R - 3) == (((cR R A (-3) (0)):Nat):Int))]
theorem dARR4_all:∀k,k < 14→((dARR4 128 (bytesN (k+1))).all id && (dARR4 4294967296 (bytesN (k+1))).all id) = true:=by decide+kernel
theorem rARR4 (w:World) (L:Lt) (f:Fm) (p:Pos) (ω:Nat→Nat) (sz tk:Nat):
  RunIs (sim (VW w icO (mkSt f 0 [0,0,0,0,1,0,2])) 3001 ω (hARR4 (L.I 0) (L.B 0)) (denQ (ctARR4.code w (up L))) (ctARR4.code w (up L)) p [] (sz+10) tk 6 (treeOf (ctARR4.ents w (up L))) [] [])
   (.ok (ctARR4.res w (up L) (rd (yARR4 sz tk ω)))) [0,1,2,3,4,5,76,49] (ctARR4.posts w (up L) (rd (yARR4 sz tk ω))++ctARR4.news w (up L) (rd (yARR4 sz tk ω)))
   (dARR4 (L.I 0) (L.B 0)):=⟨by kernel_rfl⟩
theorem okARR4 (w:World):Ct2Ok w ctARR4:=ct2_okc (own:=icO) (ks:=[0,0,0,0,1,0,2]) rfl icO_own (fun _ _=>by kernel_rfl) (fun _ _=>by kernel_rfl) (fun _=>by kernel_rfl) fun L hd=>
  ⟨3001,hARR4 (L.I 0) (L.B 0),[0,1,2,3,4,5,76,49],yARR4,fun _ _ _=>dARR4 (L.I 0) (L.B 0),rfl,fun _ _ _=>dom_all dARR4_all (hd _ (.head _)),fun f p ω sz tk=>castK (by kernel_rfl) (rARR4 w L f p ω sz tk)⟩
end
end Mine
namespace Mine
noncomputable section
open PySem PySem.W
noncomputable def icO1 (w:World) (k:Nat):Icpt:=match k with
  | 9=>icOf2 w ctARR1
  | 10=>icOf2 w ctARR2
  | 11=>icOf2 w ctARR3
  | 12=>icOf2 w ctARR4
  | k=>icO k
theorem icO1_own {w:World}:OwnOk w (icO1 w):=by
  intro b V j hkt hb hp hw hd
  unfold icO1
  split
  · exact icOf2_ok (okARR1 w) hkt hb
  · exact icOf2_ok (okARR2 w) hkt hb
  · exact icOf2_ok (okARR3 w) hkt hb
  · exact icOf2_ok (okARR4 w) hkt hb
  · exact icO_own b V _ hkt hb hp hw hd
end
end Mine
namespace Mine
open PySem PySem.W
noncomputable section
noncomputable def hARV1 (R:Int) (A:Array UInt8):NL:=g7 (g209 (27::0::29::g70 (29::g70 (29::g42 (29::29::29::g435 (30::g32 (12::0::0::30::28::30::g70 (g361 (g9 (g134 (g31 (31::29::31::g296 (14::g9 (32::30::0::0::32::g85 (14::32::g85 (14::32::g85 (14::g9 (g185 (33::31::0::0::33::33::33::g9 (g436 (34::34::3::34::15::(cR R A (-16) (0))::0::33::31::33::g102 (33::4::33::1::9::0::0::32::g85 (14::32::g85 (14::32::g85 (14::g9 (g437 (15::16::0::31::29::31::g115 (31::g19 (31::g67 (36::34::g7 (36::g174 (36::34::36::g29 (g297 (g19 (37::g107 (36::g362 (g107 (36::31::g85 (14::31::31::g32 (12::g10 (g160 (g160 (39::37::0::39::g90 (39::g90 (39::g115 (39::39::39::39::g9 (g363 (40::38::0::0::40::40::40::g438 (41::41::3::41::15::0::40::1::9::1::30::g29 (g364 (g365 (g366 (g365 (g367 (g109 (g361 (g114 (g368 (g31 (45::43::45::g32 (12::0::0::45::43::0::45::45::g48 (45::g269 (46::44::0::0::46::46::46::g439 (g37 (46::44::46::g83 (45::g48 (45::45::g369 (15::0::45::g135 (49::47::0::0::49::g48 (49::g48 (49::g48 (g267 (50::50::3::50::g243 (g242 (g440 (g32 (12::0::0::51::49::51::g212 (g298 (g48 (51::g244 (52::50::0::0::52::52::52::g441 (g37 (52::50::52::g100 (g298 (g48 (g122 (51::51::51::g442 (g31 (54::52::54::g67 (55::53::g7 (55::g174 (55::53::55::g29 (g190 (56::g19 (56::g107 (55::g29 (g443 (55::1::11::1::0::51::49::51::g99 (13::51::g19 (g298 (g114 (g219 (g219 (59::g48 (g189 (24::59::59::59::g9 (g217 (g217 (60::g189 (24::60::60::g444 (61::59::0::61::g101 (24::60::60::g213 (60::60::g213 (60::60::g213 (0::0::60::g101 (24::60::0::62::62::1::0::62::63::64::g445 (64::62::64::64::g445 (g102 (64::62::64::64::g445 (66::64::62::64::60::g213 (51::7::g6 (7::g8 (g10 (67::65::0::67::g48 (g101 (24::0::g90 (51::0::30::28::30::g42 (30::30::30::g168 (0::68::66::0::68::g31 (68::66::0::68::g76 (69::67::0::69::g7 (70::70::35::68::68::g370 (g107 (68::g67 (72::70::g7 (72::g174 (72::70::72::g29 (73::71::0::73::71::0::73::g19 (73::g107 (72::g446 (72::g90 (68::g85 (14::g169 (g296 (14::68::g19 (68::g19 (68::g29 (g422 (g19 (75::g173 (43::6::12::18::19::24::26::76::76::76::1::0::76::78::78::0::78::78::78::76::g214 (76::g214 (76::78::76::80::0::68::66::0::68::66::0::0::68::g371 (68::g13 (g45 (16::68::68::68::g296 (14::g9 (81::79::0::81::g85 (14::21::g7 (21::g7 (21::g6 (21::26::g9 (82::80::0::82::g92 (26::77::83::77::1::0::77::83::77::83::77::83::77::83::g10 (84::82::0::84::82::0::84::82::0::84::82::0::84::g33 (0::84::82::84::84::84::g447 (84::g33 (2::g447 (84::84::84::84::g33 (1::10::0::84::g33 (0::1::12::0::84::g33 (84::84::g33 (2::84::g447 (68::g90 (68::g29 (g448 (g19 (85::g107 (68::g85 (14::30::0::30::30::g9 (86::84::0::86::84::0::0::86::86::g9 (87::85::0::87::85::0::0::87::g9 (88::86::0::88::g13 (g48 (0::0::87::85::87::g130 (90::90::35::88::0::87::g76 (91::89::0::91::g9 (92::92::35::90::0::87::87::g9 (93::91::0::93::91::0::0::93::91::93::g32 (12::0::0::93::91::93::g13 (g48 (0::0::93::91::93::g13 (g99 (13::93::g226 (95::93::0::95::g22 (93::g13 (g10 (96::94::0::96::94::0::96::94::0::0::96::94::96::g48 (0::96::g135 (98::96::0::98::g299 (99::97::g7 (99::g300 (25::0::0::98::g135 (100::98::g7 (100::g299 (101::99::g7 (101::g372 (100::g135 (102::100::0::0::102::g48 (102::g48 (102::g48 (g9 (103::101::0::g345 (3::103::g16 (100::g48 (g6 (3::0::104::104::1::0::104::105::106::g161 (106::104::106::106::g161 (g100 (106::g161 (108::106::104::106::0::g416 (g449 (111::109::111::g449 (1::9::0::g449 (113::111::109::111::3::g100 (96::g135 (114::112::0::114::g299 (115::113::g7 (115::g372 (114::g48 (g6 (2::0::114::112::114::g48 (96::97::97::1::0::97::116::0::116::0::116::116::116::97::116::114::118::93::0::87::85::0::87::87::g9 (g256 (g256 (119::g13 (g7 (120::120::35::118::119::g13 (g135 (121::119::0::0::121::g48 (121::g48 (121::g48 (g9 (122::120::0::122::120::0::122::120::0::122::122::3::122::g245 (119::g317 (g10 (123::121::0::123::121::0::123::123::g147 (23::23::0::23::1::0::23::0::119::g76 (124::122::0::124::g9 (125::125::35::123::119::g13 (g135 (126::124::0::126::g135 (127::125::0::127::g48 (127::g135 (128::126::0::0::128::g48 (128::g48 (128::g48 (g9 (129::127::0::129::127::0::129::127::0::129::129::3::129::15::0::g100 (127::g135 (130::128::0::130::g299 (131::129::g7 (131::g300 (25::0::0::130::g135 (132::130::g7 (132::g299 (133::131::g7 (133::g372 (132::g135 (134::132::0::0::134::g48 (134::g48 (134::g48 (g9 (135::133::0::135::133::0::135::133::0::135::135::3::135::g16 (132::g48 (g6 (3::0::136::136::1::0::136::137::g450 (138::136::138::g450 (g100 (g450 (140::138::136::138::0::141::141::1::0::141::142::g301 (143::141::143::g301 (1::9::0::g301 (145::143::141::143::3::g100 (127::g135 (146::144::0::146::g299 (147::145::g7 (147::g372 (146::g48 (g6 (2::0::146::144::146::g48 (119::g317 (g10 (148::146::0::148::146::0::148::148::g147 (23::23::0::23::1::0::23::119::g175 (87::0::86::84::86::g13 (g45 (16::86::g9 (149::147::0::149::147::0::149::g33 (0::1::12::0::149::g33 (149::g33 (149::1::10::0::86::g13 (g137 (150::148::0::150::g33 (86::g13 (g93 (17::0::86::g13 (g137 (151::149::0::151::g103 (152::150::0::152::150::0::152::150::0::152::g93 (17::152::g9 (g451 (153::g147 (23::23::0::23::1::0::23::152::g147 (2::152::g23 (17::15::17::152::152::g147 (152::g147 (152::23::23::0::23::23::1::0::23::23::21::23::152::g93 (17::152::g9 (155::153::0::155::153::0::155::g147 (155::g147 (155::155::g147 (5::22::22::22::0::22::22::0::27::27::27::27::152::18::25::86::58::94::58::0::58::94::58::94::[])))))))))))))))))))))))))))))))))))))))))))))))))))))))))))))))))))))))))))))))))))))))))))))))))))))))))))))))))))))))))))))))))))))))))))))))))))))))))))))))))))))))))))))))))))))))))))))))))))))))))))))))))))))))))))))))))))))))))))))))))))))))))))))))))))))))))))))))))))))))))))))))))))))))))))))))))))))))))))))))))))
noncomputable def eARV1 (w:World) (L:Lt) (R:Int) (A:Array UInt8):List Ent:=[((L.A 0),(zI 1173 (L.A 2))),((L.A 1),(zI 979 (L.A 3))),((L.A 2),(zD 14 [zW w r10 (L.U 1) (.ref (L.A 4)),zW w r11 (L.U 2) (.ref (L.A 5)),zW w r12 (L.U 3) (.ref (L.A 6)),zW w r13 (L.U 4) (.str q217 (L.U 5)),zW w r14 (L.U 6) (.ref (L.A 7)),zW w r15 (L.U 7) (.ref (L.A 8)),zW w r16 (L.U 8) (.ref (L.A 9)),zW w r17 (L.U 9) (.ref (L.A 10)),zW w r18 (L.U 10) (.ref (L.A 11)),zW w r19 (L.U 11) (.ref (L.A 12)),zW w r20 (L.U 12) (.none),zW w r21 (L.U 13) (.int 0 (L.U 14)),zW w r22 (L.U 15) (.int 0 (L.U 16)),zW w r23 (L.U 17) (.bool true)])),((L.A 3),(zD 9 [zW w r60 (L.U 18) (.int 90 (L.U 19)),zW w r61 (L.U 20) (.int 80 (L.U 21)),zW w r62 (L.U 22) (.int (R - 3) (L.U 23)),zW w r63 (L.U 24) (.int 21 (L.U 25)),zW w r64 (L.U 26) (.int 16 (L.U 27)),zW w q332 (L.U 28) (.int 30 (L.U 29)),zW w q351 (L.U 30) (.int 0 (L.U 31)),zW w r65 (L.U 32) (.bytes ⟨[]⟩ (L.U 33)),zW w r66 (L.U 34) (.bytes A (L.U 35))])),((L.A 4),(zI 1130 (L.A 13))),((L.A 7),(zI 915 (L.A 14))),((L.A 8),(zI 289 (L.A 15))),((L.A 10),(zI 437 (L.A 16))),((L.A 11),(zI 346 (L.A 17))),((L.A 12),(zI 1109 (L.A 18))),((L.A 13),(zD 10 [zW w r0 (L.U 36) (.int R (L.U 37)),zW w r1 (L.U 38) (.int 4 (L.U 39)),zW w r2 (L.U 40) (.int 40 (L.U 41)),zW w r3 (L.U 42) (.int 16 (L.U 43)),zW w r4 (L.U 44) (.int 6 (L.U 45)),zW w r5 (L.U 46) (.int 4 (L.U 47)),zW w r6 (L.U 48) (.int 24 (L.U 49)),zW w r7 (L.U 50) (.int 3 (L.U 51)),zW w r8 (L.U 52) (.int 5 (L.U 53)),zW w r9 (L.U 54) (.int 9 (L.U 55))])),((L.A 14),(zD 11 [zW w r24 (L.U 56) (.int 20 (L.U 57)),zW w r0 (L.U 58) (.int R (L.U 37)),zW w r1 (L.U 59) (.int 4 (L.U 39)),zW w r25 (L.U 60) (.int 21 (L.U 61)),zW w q38 (L.U 62) (.int 21 (L.U 63)),zW w r26 (L.U 64) (.int 21 (L.U 65)),zW w r27 (L.U 66) (.ref (L.A 19)),zW w r28 (L.U 67) (.ref (L.A 20)),zW w r29 (L.U 68) (.bool false),zW w r30 (L.U 69) (.bool false),zW w r31 (L.U 70) (.bool false)])),((L.A 15),(zD 10 [zW w r0 (L.U 71) (.int R (L.U 37)),zW w r50 (L.U 72) (.int 16 (L.U 73)),zW w r1 (L.U 74) (.int 4 (L.U 75)),zW w q38 (L.U 76) (.int (((cR R A (-3) (0)):Nat):Int) (L.U 77)),zW w r53 (L.U 78) (.ref (L.A 21)),zW w r54 (L.U 79) (.ref (L.A 22)),zW w r55 (L.U 80) (.int 13 (L.U 81)),zW w r56 (L.U 82) (.none),zW w r57 (L.U 83) (.bool false),zW w r58 (L.U 84) (.none)])),((L.A 16),(zD 8 [zW w r1 (L.U 85) (.int 4 (L.U 39)),zW w r34 (L.U 86) (.int 44 (L.U 87)),zW w q319 (L.U 88) (.int 8 (L.U 89)),zW w r35 (L.U 90) (.int 44 (L.U 87)),zW w r36 (L.U 91) (.int 0 (L.U 92)),zW w r37 (L.U 93) (.int 0 (L.U 94)),zW w r38 (L.U 95) (.bool false),zW w r39 (L.U 96) (.bool false)])),((L.A 17),(zD 4 [zW w r40 (L.U 97) (.int 5 (L.U 53)),zW w r41 (L.U 98) (.int 0 (L.U 99)),zW w q457 (L.U 100) (.none),zW w r42 (L.U 101) (.bool false)])),((L.A 18),(zD 6 [zW w q319 (L.U 102) (.int 16 1642),zW w r43 (L.U 103) (.ref (L.A 23)),zW w r44 (L.U 104) (.ref (L.A 24)),zW w r45 (L.U 105) (.ref (L.A 25)),zW w r46 (L.U 106) (.none),zW w r47 (L.U 107) (.int 0 (L.U 108))])),((L.A 19),(zI 724 (L.A 26))),((L.A 20),(zI 682 (L.A 27))),((L.A 21),⟨.type "bytearray",none,.bytearray ⟨[]⟩ 0,⟨[]⟩⟩),((L.A 22),(zI 155 (L.A 28))),((L.A 23),(zL 16 [.ref (L.A 29),.ref (L.A 30),.ref (L.A 31),.ref (L.A 32),.ref (L.A 33),.ref (L.A 34),.ref (L.A 35),.ref (L.A 36),.ref (L.A 37),.ref (L.A 38),.ref (L.A 39),.ref (L.A 40),.ref (L.A 41),.ref (L.A 42),.ref (L.A 43),.ref (L.A 44)])),((L.A 25),(zD 0 [])),((L.A 26),(zD 5 [zW w r0 (L.U 109) (.int R (L.U 37)),zW w q319 (L.U 110) (.int 0 (L.U 111)),zW w r34 (L.U 112) (.int 0 (L.U 113)),zW w r48 (L.U 114) (.none),zW w r49 (L.U 115) (.int 0 (L.U 116))])),((L.A 27),(zD 2 [zW w r50 (L.U 117) (.int 40 (L.U 41)),zW w r51 (L.U 118) (.bytes ⟨[]⟩ (L.U 119))])),((L.A 28),(zD 2 [zW w r0 (L.U 120) (.int R (L.U 37)),zW w r59 (L.U 121) (.ref (L.A 45))])),((L.A 38),(zL 0 [])),((L.A 45),(zL 0 []))]
noncomputable def pARV1 (w:World) (L:Lt) (R:Int) (A:Array UInt8) (Y:Nat→Nat):List Ent:=zS (eARV1 w L R A) [(2,((L.A 2),(zD 14 [zW w r10 (L.U 1) (.ref (L.A 4)),zW w r11 (L.U 2) (.ref (L.A 5)),zW w r12 (L.U 3) (.ref (L.A 6)),zW w r13 (L.U 4) (.str q217 (L.U 5)),zW w r14 (L.U 6) (.ref (L.A 7)),zW w r15 (L.U 7) (.ref (L.A 8)),zW w r16 (L.U 8) (.ref (L.A 9)),zW w r17 (L.U 9) (.ref (L.A 10)),zW w r18 (L.U 10) (.ref (L.A 11)),zW w r19 (L.U 11) (.ref (L.A 12)),zW w r20 (L.U 12) (.none),zW w r21 (L.U 13) (.int 0 (Y 0)),zW w r22 (L.U 15) (.int 0 (Y 1)),zW w r23 (L.U 17) (.bool true)]))),(12,((L.A 15),(zD 10 [zW w r0 (L.U 71) (.int R (L.U 37)),zW w r50 (L.U 72) (.int 16 (L.U 73)),zW w r1 (L.U 74) (.int 4 (L.U 75)),zW w q38 (L.U 76) (.int (((cR R A (-3) (1)):Nat):Int) (Y 2)),zW w r53 (L.U 78) (.ref (L.A 21)),zW w r54 (L.U 79) (.ref (L.A 22)),zW w r55 (L.U 80) (.int 13 (L.U 81)),zW w r56 (L.U 82) (.none),zW w r57 (L.U 83) (.bool false),zW w r58 (L.U 84) (.none)]))),(14,((L.A 17),(zD 4 [zW w r40 (L.U 97) (.int 5 (L.U 53)),zW w r41 (L.U 98) (.int 1 (Y 3)),zW w q457 (L.U 100) (.int 9 (Y 4)),zW w r42 (L.U 101) (.bool false)]))),(15,((L.A 18),(zD 6 [zW w q319 (L.U 102) (.int 16 1642),zW w r43 (L.U 103) (.ref (L.A 23)),zW w r44 (L.U 104) (.ref (L.A 24)),zW w r45 (L.U 105) (.ref (L.A 25)),zW w r46 (L.U 106) (.none),zW w r47 (L.U 107) (.int 1 (Y 5))]))),(18,((L.A 21),⟨.type "bytearray",none,.bytearray ((⟨[]⟩:Array UInt8)++A) 0,⟨[]⟩⟩)),(21,((L.A 25),(zD 1 [⟨3,.int 3 1728,.ref (Y 6+10)⟩]))),(22,((L.A 26),(zD 5 [zW w r0 (L.U 109) (.int R (L.U 37)),zW w q319 (L.U 110) (.int 30 (L.U 29)),zW w r34 (L.U 112) (.int 30 (L.U 29)),zW w r48 (L.U 114) (.int (R - 3) (L.U 23)),zW w r49 (L.U 115) (.int 21 (L.U 25))]))),(24,((L.A 28),(zD 2 [zW w r0 (L.U 120) (.int R (L.U 37)),zW w r59 (L.U 121) (.ref (Y 7+10))]))),(25,((L.A 38),(zL 1 [.int 3 1728])))]
noncomputable def nARV1 (w:World) (L:Lt) (R:Int) (A:Array UInt8) (Y:Nat→Nat):List Ent:=[((Y 8+10),(zL 0 [])),((Y 6+10),(zT 0 [.int 9 (Y 4),.int 1 (Y 5)])),((Y 7+10),(zL 2 []))]
noncomputable def cARV1 (L:Lt) (R:Int) (A:Array UInt8):Code:=(.call (.ref 1296) ⟨[.ref (L.A 0),.ref (L.A 1),.int 4 (L.U 0)],[]⟩)
noncomputable def ctARV1:Ct2 where
  np:=27
  aI:=[1,2,5,7,10,12,14,18,20,22,24,26,28,55,57,59,61,63,65,101,103,117,119,151,153,155,160,162,165,167,168,169,170,171,172,173,174,175,176,177,178,179,180,181,182,203]
  uI:=[3,9,11,13,15,16,17,19,21,23,25,27,29,30,31,32,33,34,36,37,38,39,40,41,42,43,44,45,46,47,48,49,50,51,52,53,67,68,69,70,71,72,73,74,75,76,77,78,79,80,81,82,83,84,85,86,88,89,90,92,94,95,96,97,98,99,100,102,104,105,106,108,110,111,112,113,114,115,116,118,120,121,122,123,124,126,128,129,130,131,132,134,135,136,137,138,139,141,143,144,145,146,148,150,152,154,156,157,158,185,187,188,189,190,191,192,193,195,197,198,200,202]
  iI:=[10]
  bI:=[1]
  code _ L:=cARV1 L (L.I 0) (L.B 0)
  ents w L:=eARV1 w L (L.I 0) (L.B 0)
  posts w L Y:=pARV1 w L (L.I 0) (L.B 0) Y
  news w L Y:=nARV1 w L (L.I 0) (L.B 0) Y
  nn:=3
  res w L Y:=(.ret (.ref (Y 8+10)))
  ds L:=[dom (L.I 0) (L.B 0)]
  sh:=shapeB [0,1,0,2]
noncomputable def yARV1 (sz tk:Nat) (ω:Nat→Nat):List Nat:=[ω 216172782113783807+187,tk+138,ω 360287970189639679,ω 216172782113783807+21,ω 216172782113783807+29,ω 216172782113783807+213,ω 72057594037927935+76,ω 504403158265495551,ω 72057594037927935+78]
noncomputable def dARV1 (R:Int) (A:Array UInt8):List Bool:=[true,true,true,true,true,true,true,!(R == 0),Int.fmod 0 R == ((0:Nat):Int),true,!(R == 0),Int.fmod 0 R == ((0:Nat):Int),true,true,!(R == 0),Int.fmod 0 R == ((0:Nat):Int),true,true,true,true,!(R == 0),Int.fmod 0 R == ((0:Nat):Int),true,true,true,!((((A.size:Nat):Int) == 0)),true,true,decide (((A.size:Nat):Int) > 0),Nat.ble A.size 1000,true,true,true,true,true,true,true,true,true,true,dom R A,true,!((((A.size:Nat):Int) == 0)),true,true,Nat.ble A.size 1000,true,true,true,true,decide (((A.size:Nat):Int) > 0),true,true,Nat.ble A.size 1000,true,true,!(R == 0),Int.fmod 0 R == ((0:Nat):Int),true,!(R == 0),Int.fmod 0 R == ((0:Nat):Int),!(R == 0),Int.fmod 0 R == ((0:Nat):Int),true,!(R == 0),Int.fmod 0 R == ((0:Nat):Int),true,true,true,true,!(R == 0),Int.fmod ((R - 3) - (((cR R A (-3) (0)):Nat):Int)) R == ((0:Nat):Int),true,!((((A.size:Nat):Int) == 0)),!((((A.size:Nat):Int) == 0)),true,true,Nat.ble A.size 1000,true,!(R == 0),Int.fmod (13 - (((cR R A (-3) (0)):Nat):Int)) R == ((16:Nat):Int),!(decide ((2*(((cR R A (-16) (0)):Nat):Int)) < R)),mulOk 2 (((cR R A (-16) (0)):Nat):Int),decide ((((cR R A (-16) (0)):Nat):Int) > 0),!(R == 0),Int.fmod ((((cR R A (-3) (0)):Nat):Int) - 13) R == (((cR R A (-16) (0)):Nat):Int)]
theorem dARV1_all:∀k,k < 14→((dARV1 128 (bytesN (k+1))).all id && (dARV1 4294967296 (bytesN (k+1))).all id) = true:=by decide+kernel
theorem rARV1 (w:World) (L:Lt) (f:Fm) (p:Pos) (ω:Nat→Nat) (sz tk:Nat):
  RunIs (sim (VW w (icO1 w) (mkSt f 0 [0,1,0,2])) 7547 ω (hARV1 (L.I 0) (L.B 0)) (denQ (ctARV1.code w (up L))) (ctARV1.code w (up L)) p [] (sz+10) tk 27 (treeOf (ctARV1.ents w (up L))) [] [])
   (.ok (ctARV1.res w (up L) (rd (yARV1 sz tk ω)))) [0,1,2,3,4,5,6,7,8,9,10,11,12,13,14,15,16,17,18,19,20,21,22,23,24,25,26,154,152,75] (ctARV1.posts w (up L) (rd (yARV1 sz tk ω))++ctARV1.news w (up L) (rd (yARV1 sz tk ω)))
   (dARV1 (L.I 0) (L.B 0)):=⟨by kernel_rfl⟩
theorem okARV1 (w:World):Ct2Ok w ctARV1:=ct2_okc (own:=(icO1 w)) (ks:=[0,1,0,2]) rfl icO1_own (fun _ _=>by kernel_rfl) (fun _ _=>by kernel_rfl) (fun _=>by kernel_rfl) fun L hd=>
  ⟨7547,hARV1 (L.I 0) (L.B 0),[0,1,2,3,4,5,6,7,8,9,10,11,12,13,14,15,16,17,18,19,20,21,22,23,24,25,26,154,152,75],yARV1,fun _ _ _=>dARV1 (L.I 0) (L.B 0),rfl,fun _ _ _=>dom_all dARV1_all (hd _ (.head _)),fun f p ω sz tk=>castK (by kernel_rfl) (rARV1 w L f p ω sz tk)⟩
end
end Mine
namespace Mine
open PySem PySem.W
noncomputable section
noncomputable def hARV2 (R:Int) (A:Array UInt8):NL:=g7 (g436 (34::g70 (34::g70 (34::g42 (34::34::34::g9 (g110 (35::33::0::35::g32 (14::0::0::35::33::35::g70 (35::g42 (35::35::g9 (g178 (36::g31 (36::34::36::g137 (37::35::0::0::37::g33 (37::g33 (37::g103 (g432 (0::0::38::38::38::g9 (g434 (3::39::15::(cR R A (-16) (1))::0::38::36::38::g102 (38::4::38::g146 (37::g33 (37::g33 (37::g103 (g363 (40::40::3::40::15::(cR R A (16) (-1))::0::36::34::36::g115 (36::g19 (36::g67 (41::39::g7 (41::g149 (41::39::41::g29 (g364 (g107 (41::g29 (g366 (g109 (41::2::0::41::39::41::36::g33 (36::36::g32 (14::g10 (g208 (g208 (44::42::0::44::g90 (44::g90 (44::g115 (44::44::44::44::g452 (45::43::0::0::45::45::45::g269 (g453 (15::0::45::1::9::1::35::g29 (g216 (47::g19 (47::g107 (35::g29 (48::46::0::48::46::0::48::g19 (48::g107 (35::g29 (49::47::0::49::47::0::49::g19 (49::g109 (35::g42 (35::35::g114 (50::48::0::50::48::0::50::g31 (50::48::50::g163 (50::48::0::50::50::g22 (50::g9 (51::49::0::51::49::0::51::49::0::0::51::51::51::g244 (52::50::0::52::52::3::52::g37 (51::49::51::g83 (50::g22 (50::50::g441 (15::0::50::g34 (54::52::0::0::54::g22 (54::g22 (54::g123 (g427 (3::55::15::0::1::11::0::0::35::35::35::g9 (g190 (56::54::0::56::g31 (56::54::56::g163 (56::54::56::g212 (56::g19 (56::g22 (56::g454 (57::55::0::0::57::57::57::g9 (g318 (56::0::58::58::3::58::g37 (57::55::57::g100 (56::g19 (56::g22 (g122 (56::56::56::g9 (g219 (59::57::0::59::g31 (59::57::59::g67 (60::58::g7 (60::g149 (60::58::60::g29 (g455 (g19 (61::g107 (60::g29 (g215 (62::g19 (62::g109 (60::2::0::60::58::60::1::11::1::0::56::54::56::g27 (15::56::g19 (56::g19 (56::g114 (64::g84 (g84 (g22 (g227 (27::64::64::64::g9 (g131 (63::0::65::63::0::65::g227 (27::65::65::g205 (64::0::66::g124 (27::0::66::g124 (27::66::66::g124 (27::g237 (0::67::65::0::67::67::3::67::15::(cR R A (0) (1))::0::66::64::66::g90 (66::66::g124 (27::6::1::9::1::65::65::g73 (g238 (65::65::g73 (g238 (65::65::g73 (27::25::27::0::0::65::g124 (27::65::0::68::68::1::0::68::69::70::g456 (70::68::70::70::g456 (g100 (70::g456 (72::70::68::70::65::g73 (g238 (56::g246 (73::71::0::73::g22 (g124 (27::0::g90 (56::0::35::33::35::g42 (35::35::35::g9 (g268 (74::72::0::74::g31 (74::72::0::74::g76 (75::73::0::75::g7 (76::76::35::74::74::g29 (77::75::0::77::75::0::77::g19 (77::g107 (74::g67 (78::76::g7 (78::g149 (78::76::78::g29 (79::77::0::79::77::0::79::g19 (79::g107 (78::g29 (g373 (g19 (80::g109 (78::2::0::78::76::78::g90 (74::g33 (0::74::72::74::g45 (16::74::g19 (74::g19 (74::g457 (7::1::14::1::0::44::8::14::20::21::27::30::31::82::82::82::1::0::82::84::84::0::84::84::84::82::84::82::84::0::84::84::84::82::84::82::84::0::84::84::84::82::84::82::86::0::74::72::0::74::72::0::0::74::g19 (0::0::g100 (74::1::13::1::74::g228 (87::85::0::0::87::g138 (74::g33 (74::0::74::74::g9 (88::86::0::88::86::0::88::g228 (89::87::0::0::89::g138 (88::g42 (88::g9 (90::88::0::90::88::0::0::90::g13 (90::g9 (91::89::0::91::89::0::91::1::0::91::1::0::91::g157 (93::93::93::93::91::91::19::91::99::7::92::93::94::95::96::97::98::0::91::89::91::g158 (103::103::103::103::91::91::19::101::120::18::102::103::104::105::106::107::108::109::110::111::112::113::114::115::116::117::118::119::0::90::88::90::90::90::g175 (35::0::35::35::g9 (123::121::0::123::121::0::0::123::123::g9 (124::122::0::124::122::0::0::124::g9 (125::123::0::125::g247 (124::122::124::g130 (127::127::35::125::0::124::g76 (128::126::0::128::g9 (129::129::35::127::0::124::124::g9 (130::128::0::130::128::0::0::130::128::130::g163 (130::128::130::g247 (130::128::130::g13 (g27 (15::130::g317 (g9 (132::130::0::132::g147 (130::g13 (g10 (g177 (133::131::0::0::133::131::133::g22 (0::133::g34 (135::133::0::135::g248 (136::134::g7 (136::g92 (28::0::0::135::g34 (137::135::g7 (137::g248 (138::136::g7 (138::g374 (137::g34 (139::137::0::0::139::g22 (139::g22 (139::g123 (140::138::0::140::138::0::140::138::0::140::140::3::140::g16 (137::g249 (141::141::1::0::141::142::g301 (143::141::143::g301 (g100 (g301 (145::143::141::143::0::146::146::1::0::146::147::148::g458 (148::146::148::148::g458 (1::9::0::148::g458 (150::148::146::148::3::g100 (133::g34 (151::149::0::151::g248 (152::150::g7 (152::g374 (151::g271 (151::149::151::g22 (133::134::134::1::0::134::153::0::153::0::153::153::153::134::153::151::155::130::0::124::122::0::124::124::g9 (156::154::0::156::154::0::156::g229 (157::157::35::155::156::g226 (158::156::0::0::158::g22 (158::g22 (158::g123 (159::157::0::159::157::0::159::157::0::159::159::3::159::g245 (156::g191 (g459 (g139 (26::26::0::26::1::0::26::0::156::g76 (161::159::0::161::g9 (162::162::35::160::156::g226 (163::161::0::163::g34 (164::162::0::164::g22 (164::g34 (165::163::0::0::165::g22 (165::g22 (165::g123 (166::164::0::g460 (3::166::15::0::g100 (164::g34 (167::165::0::167::g248 (168::166::g7 (168::g92 (28::0::0::167::g34 (169::167::g7 (169::g248 (170::168::g7 (170::g374 (169::g34 (171::169::0::0::171::g22 (171::g22 (171::g123 (172::170::0::172::170::0::172::170::0::172::172::3::172::g16 (169::g249 (173::173::1::0::173::174::g461 (175::173::175::g461 (g100 (g461 (177::175::173::175::0::178::178::1::0::178::179::g462 (180::178::180::g462 (1::9::0::g462 (182::180::178::180::3::g100 (164::g34 (183::181::0::183::g248 (184::182::g7 (184::g374 (183::g271 (183::181::183::g22 (156::g191 (185::183::0::185::183::0::185::185::g139 (26::26::0::26::1::0::26::156::g175 (124::0::123::121::123::g78 (18::123::g9 (186::184::0::186::184::0::186::g47 (18::0::1::12::1::123::131::131::131::131::0::123::g9 (187::185::0::187::g44 (4::0::187::g463 (188::186::0::188::186::0::188::186::0::188::186::0::0::188::186::188::g13 (188::0::8::0::188::186::188::g13 (g33 (0::0::188::186::188::g228 (189::187::0::189::g138 (189::g138 (188::g191 (190::188::0::190::188::0::190::190::g139 (26::26::0::26::1::0::26::26::26::26::190::g139 (26::26::26::26::190::0::26::26::1::0::26::26::26::26::26::24::26::31::31::31::1::0::31::191::191::g464 (191::g464 (191::g464 (193::0::190::188::0::190::188::190::g139 (190::g139 (190::190::g139 (5::24::24::24::0::24::24::0::194::194::1::0::194::195::0::g465 (193::0::190::188::190::190::25::25::0::25::25::g465 (193::0::190::188::190::190::30::30::0::30::30::190::30::30::30::30::190::0::30::30::30::28::30::g465 (193::197::188::0::g173 (188::186::188::g250 (198::196::0::198::g130 (198::g13 (g137 (199::197::0::199::g45 (16::199::g103 (200::198::0::200::198::0::200::g33 (199::g137 (201::199::0::0::201::g33 (201::g33 (201::g103 (202::200::0::202::200::0::202::200::0::0::202::202::202::g9 (203::201::0::203::201::0::203::201::0::203::203::3::203::15::(cR R A (-15) (1))::0::202::200::202::g102 (202::4::202::g146 (201::g33 (201::g33 (201::g103 (204::202::0::204::202::0::204::202::0::204::204::3::204::15::(cR R A (15) (-1))::0::0::205::205::1::0::205::206::g466 (207::205::207::g466 (1::9::0::g466 (209::207::205::207::0::188::186::0::188::g302 (188::g303 (188::188::188::188::188::188::g15 (211::0::211::g8 (0::g258 (g258 (g258 (g258 (g258 (212::212::211::g6 (211::g272 (g272 (g272 (g272 (g272 (g272 (g272 (g272 (0::211::0::211::g7 (211::0::0::210::208::210::18::129::123::63::131::63::0::63::131::63::131::[]))))))))))))))))))))))))))))))))))))))))))))))))))))))))))))))))))))))))))))))))))))))))))))))))))))))))))))))))))))))))))))))))))))))))))))))))))))))))))))))))))))))))))))))))))))))))))))))))))))))))))))))))))))))))))))))))))))))))))))))))))))))))))))))))))))))))))))))))))))))))))))))))))))))))))))))))))))))))))))))))))))))))))))))))))))))
noncomputable def eARV2 (w:World) (L:Lt) (R:Int) (A:Array UInt8):List Ent:=[((L.A 0),(zI 1173 (L.A 2))),((L.A 1),(zI 979 (L.A 3))),((L.A 2),(zD 14 [zW w r10 (L.U 1) (.ref (L.A 4)),zW w r11 (L.U 2) (.ref (L.A 5)),zW w r12 (L.U 3) (.ref (L.A 6)),zW w r13 (L.U 4) (.str q217 (L.U 5)),zW w r14 (L.U 6) (.ref (L.A 7)),zW w r15 (L.U 7) (.ref (L.A 8)),zW w r16 (L.U 8) (.ref (L.A 9)),zW w r17 (L.U 9) (.ref (L.A 10)),zW w r18 (L.U 10) (.ref (L.A 11)),zW w r19 (L.U 11) (.ref (L.A 12)),zW w r20 (L.U 12) (.none),zW w r21 (L.U 13) (.int 0 (L.U 14)),zW w r22 (L.U 15) (.int 0 (L.U 16)),zW w r23 (L.U 17) (.bool true)])),((L.A 3),(zD 9 [zW w r60 (L.U 18) (.int 90 (L.U 19)),zW w r61 (L.U 20) (.int 80 (L.U 21)),zW w r62 (L.U 22) (.int (((cR R A (-3) (1)):Nat):Int) (L.U 23)),zW w r63 (L.U 24) (.int 21 (L.U 25)),zW w r64 (L.U 26) (.int 17 (L.U 27)),zW w q332 (L.U 28) (.int 30 (L.U 29)),zW w q351 (L.U 30) (.int 0 (L.U 31)),zW w r65 (L.U 32) (.bytes ⟨[]⟩ (L.U 33)),zW w r66 (L.U 34) (.bytes ⟨[]⟩ (L.U 35))])),((L.A 4),(zI 1130 (L.A 13))),((L.A 5),(zT 0 [.int 1 (L.U 36),.int 80 (L.U 37)])),((L.A 6),(zT 0 [.int 2 (L.U 38),.int 90 (L.U 39)])),((L.A 7),(zI 915 (L.A 14))),((L.A 8),(zI 289 (L.A 15))),((L.A 10),(zI 437 (L.A 16))),((L.A 11),(zI 346 (L.A 17))),((L.A 12),(zI 1109 (L.A 18))),((L.A 13),(zD 10 [zW w r0 (L.U 40) (.int R (L.U 41)),zW w r1 (L.U 42) (.int 4 (L.U 43)),zW w r2 (L.U 44) (.int 40 (L.U 45)),zW w r3 (L.U 46) (.int 16 (L.U 47)),zW w r4 (L.U 48) (.int 6 (L.U 49)),zW w r5 (L.U 50) (.int 4 (L.U 51)),zW w r6 (L.U 52) (.int 24 (L.U 53)),zW w r7 (L.U 54) (.int 3 (L.U 55)),zW w r8 (L.U 56) (.int 5 (L.U 57)),zW w r9 (L.U 58) (.int 9 (L.U 59))])),((L.A 14),(zD 11 [zW w r24 (L.U 60) (.int 20 (L.U 61)),zW w r0 (L.U 62) (.int R (L.U 41)),zW w r1 (L.U 63) (.int 4 (L.U 43)),zW w r25 (L.U 64) (.int 21 (L.U 65)),zW w q38 (L.U 66) (.int 21 (L.U 67)),zW w r26 (L.U 68) (.int 21 (L.U 69)),zW w r27 (L.U 70) (.ref (L.A 19)),zW w r28 (L.U 71) (.ref (L.A 20)),zW w r29 (L.U 72) (.bool false),zW w r30 (L.U 73) (.bool false),zW w r31 (L.U 74) (.bool false)])),((L.A 15),(zD 10 [zW w r0 (L.U 75) (.int R (L.U 41)),zW w r50 (L.U 76) (.int 16 (L.U 77)),zW w r1 (L.U 78) (.int 4 (L.U 79)),zW w q38 (L.U 80) (.int (((cR R A (-3) (1)):Nat):Int) (L.U 81)),zW w r53 (L.U 82) (.ref (L.A 21)),zW w r54 (L.U 83) (.ref (L.A 22)),zW w r55 (L.U 84) (.int 13 (L.U 85)),zW w r56 (L.U 86) (.none),zW w r57 (L.U 87) (.bool false),zW w r58 (L.U 88) (.none)])),((L.A 16),(zD 8 [zW w r1 (L.U 89) (.int 4 (L.U 43)),zW w r34 (L.U 90) (.int 44 (L.U 91)),zW w q319 (L.U 92) (.int 8 (L.U 93)),zW w r35 (L.U 94) (.int 44 (L.U 91)),zW w r36 (L.U 95) (.int 0 (L.U 96)),zW w r37 (L.U 97) (.int 0 (L.U 98)),zW w r38 (L.U 99) (.bool false),zW w r39 (L.U 100) (.bool false)])),((L.A 17),(zD 4 [zW w r40 (L.U 101) (.int 5 (L.U 57)),zW w r41 (L.U 102) (.int 1 (L.U 103)),zW w q457 (L.U 104) (.int 9 (L.U 105)),zW w r42 (L.U 106) (.bool false)])),((L.A 18),(zD 6 [zW w q319 (L.U 107) (.int 16 1642),zW w r43 (L.U 108) (.ref (L.A 23)),zW w r44 (L.U 109) (.ref (L.A 24)),zW w r45 (L.U 110) (.ref (L.A 25)),zW w r46 (L.U 111) (.none),zW w r47 (L.U 112) (.int 1 (L.U 113))])),((L.A 19),(zI 724 (L.A 26))),((L.A 20),(zI 682 (L.A 27))),((L.A 21),⟨.type "bytearray",none,.bytearray ((⟨[]⟩:Array UInt8)++A) 0,⟨[]⟩⟩),((L.A 22),(zI 155 (L.A 28))),((L.A 23),(zL 16 [.ref (L.A 29),.ref (L.A 30),.ref (L.A 31),.ref (L.A 32),.ref (L.A 33),.ref (L.A 34),.ref (L.A 35),.ref (L.A 36),.ref (L.A 37),.ref (L.A 38),.ref (L.A 39),.ref (L.A 40),.ref (L.A 41),.ref (L.A 42),.ref (L.A 43),.ref (L.A 44)])),((L.A 24),(zL 0 [])),((L.A 25),(zD 1 [⟨3,.int 3 1728,.ref (L.A 45)⟩])),((L.A 26),(zD 5 [zW w r0 (L.U 114) (.int R (L.U 41)),zW w q319 (L.U 115) (.int 30 (L.U 116)),zW w r34 (L.U 117) (.int 30 (L.U 116)),zW w r48 (L.U 118) (.int (R - 3) (L.U 119)),zW w r49 (L.U 120) (.int 21 (L.U 121))])),((L.A 27),(zD 2 [zW w r50 (L.U 122) (.int 40 (L.U 45)),zW w r51 (L.U 123) (.bytes ⟨[]⟩ (L.U 124))])),((L.A 28),(zD 2 [zW w r0 (L.U 125) (.int R (L.U 41)),zW w r59 (L.U 126) (.ref (L.A 46))])),((L.A 38),(zL 1 [.int 3 1728])),((L.A 45),(zT 0 [.int 9 (L.U 105),.int 1 (L.U 113)])),((L.A 46),(zL 2 [])),((L.A 47),(zD 9 [zW w r60 (L.U 127) (.int 90 (L.U 128)),zW w r61 (L.U 129) (.int 80 (L.U 130)),zW w r62 (L.U 131) (.int (R - 3) (L.U 119)),zW w r63 (L.U 132) (.int 21 (L.U 121)),zW w r64 (L.U 133) (.int 16 (L.U 134)),zW w q332 (L.U 135) (.int 30 (L.U 116)),zW w q351 (L.U 136) (.int 0 (L.U 137)),zW w r65 (L.U 138) (.bytes ⟨[]⟩ (L.U 139)),zW w r66 (L.U 140) (.bytes A (L.U 141))]))]
noncomputable def pARV2 (w:World) (L:Lt) (R:Int) (A:Array UInt8) (Y:Nat→Nat):List Ent:=zS (eARV2 w L R A) [(2,((L.A 2),(zD 14 [zW w r10 (L.U 1) (.ref (L.A 4)),zW w r11 (L.U 2) (.ref (L.A 5)),zW w r12 (L.U 3) (.ref (L.A 6)),zW w r13 (L.U 4) (.str q223 1578),zW w r14 (L.U 6) (.ref (L.A 7)),zW w r15 (L.U 7) (.ref (L.A 8)),zW w r16 (L.U 8) (.ref (L.A 9)),zW w r17 (L.U 9) (.ref (L.A 10)),zW w r18 (L.U 10) (.ref (L.A 11)),zW w r19 (L.U 11) (.ref (L.A 12)),zW w r20 (L.U 12) (.none),zW w r21 (L.U 13) (.int 0 (Y 0)),zW w r22 (L.U 15) (.int 0 (Y 1)),zW w r23 (L.U 17) (.bool true)]))),(14,((L.A 15),(zD 10 [zW w r0 (L.U 75) (.int R (L.U 41)),zW w r50 (L.U 76) (.int 16 (L.U 77)),zW w r1 (L.U 78) (.int 4 (L.U 79)),zW w q38 (L.U 80) (.int (((cR R A (-2) (1)):Nat):Int) (Y 2)),zW w r53 (L.U 82) (.ref (L.A 21)),zW w r54 (L.U 83) (.ref (L.A 22)),zW w r55 (L.U 84) (.int 13 (L.U 85)),zW w r56 (L.U 86) (.int (((cR R A (-3) (1)):Nat):Int) (Y 3)),zW w r57 (L.U 87) (.bool true),zW w r58 (L.U 88) (.none)]))),(16,((L.A 17),(zD 4 [zW w r40 (L.U 101) (.int 5 (L.U 57)),zW w r41 (L.U 102) (.int 0 (Y 4)),zW w q457 (L.U 104) (.none),zW w r42 (L.U 106) (.bool false)]))),(20,((L.A 21),⟨.type "bytearray",none,.bytearray (((⟨[]⟩:Array UInt8)++A)++(⟨[]⟩:Array UInt8)) 0,⟨[]⟩⟩)),(24,((L.A 25),(zD 2 []))),(25,((L.A 26),(zD 5 [zW w r0 (L.U 114) (.int R (L.U 41)),zW w q319 (L.U 115) (.int 30 (L.U 29)),zW w r34 (L.U 117) (.int 30 (L.U 116)),zW w r48 (L.U 118) (.int (((cR R A (-3) (1)):Nat):Int) (L.U 23)),zW w r49 (L.U 120) (.int 21 (L.U 25))]))),(27,((L.A 28),(zD 2 [zW w r0 (L.U 125) (.int R (L.U 41)),zW w r59 (L.U 126) (.ref (Y 5+10))]))),(28,((L.A 38),(zL 2 [])))]
noncomputable def nARV2 (w:World) (L:Lt) (R:Int) (A:Array UInt8) (Y:Nat→Nat):List Ent:=[((Y 6+10),(zL 0 [.ref (Y 7+10)])),((Y 7+10),(zI 979 (Y 8+10))),((Y 5+10),(zL 0 [])),((Y 8+10),(zD 9 [zW w r60 (Y 9) (.int 80 (L.U 37)),zW w r61 (Y 10) (.int 90 (L.U 39)),zW w r62 (Y 11) (.int 21 (L.U 67)),zW w r63 (Y 12) (.int (((cR R A (-2) (1)):Nat):Int) (Y 2)),zW w r64 (Y 13) (.int 16 (Y 14)),zW w q332 (Y 15) (.int (((cR R A (15) (-1)):Nat):Int) (Y 16)),zW w q351 (Y 17) (.int 0 (Y 18)),zW w r65 (Y 19) (.bytes ⟨[]⟩ (Y 20)),zW w r66 (Y 21) (.bytes ⟨[]⟩ 1819)]))]
noncomputable def cARV2 (L:Lt) (R:Int) (A:Array UInt8):Code:=(.call (.ref 1296) ⟨[.ref (L.A 0),.ref (L.A 1),.int 5 (L.U 0)],[]⟩)
noncomputable def ctARV2:Ct2 where
  np:=32
  aI:=[1,2,5,7,10,12,14,18,20,22,24,26,28,55,63,65,67,69,71,107,109,123,125,158,160,162,167,169,172,174,175,176,177,178,179,180,181,182,183,184,185,186,187,188,189,193,214,221]
  uI:=[3,9,11,13,15,16,17,19,21,23,25,27,29,30,31,32,33,34,36,37,38,39,40,41,42,43,44,45,46,47,48,49,50,51,52,53,57,58,60,61,73,74,75,76,77,78,79,80,81,82,83,84,85,86,87,88,89,90,91,92,94,95,96,98,100,101,102,103,104,105,106,108,110,111,112,114,116,117,118,119,120,121,122,124,126,127,128,129,130,132,134,135,136,137,138,140,141,142,143,144,145,147,149,150,151,152,153,155,157,159,161,163,164,165,195,197,198,199,201,202,203,204,206,208,209,211,213,222,223,224,225,226,228,230,231,232,234,235,236,237,238,239]
  iI:=[14]
  bI:=[4]
  code _ L:=cARV2 L (L.I 0) (L.B 0)
  ents w L:=eARV2 w L (L.I 0) (L.B 0)
  posts w L Y:=pARV2 w L (L.I 0) (L.B 0) Y
  news w L Y:=nARV2 w L (L.I 0) (L.B 0) Y
  nn:=4
  res w L Y:=(.ret (.ref (Y 6+10)))
  ds L:=[dom (L.I 0) (L.B 0)]
  sh:=shapeB [0,1,0,2]
noncomputable def yARV2 (sz tk:Nat) (ω:Nat→Nat):List Nat:=[ω 221360928884514619391+153,tk+141,ω 11529215046068469759,ω 16140901064495857663,ω 221360928884514619391+178,ω 20752587082923245567,ω 73786976294838206463+91,ω 73786976294838206463+89,ω 73786976294838206463+88,ω 221360928884514619391+251,ω 221360928884514619391+253,ω 221360928884514619391+255,ω 221360928884514619391+257,ω 221360928884514619391+259,ω 221360928884514619391+171,ω 221360928884514619391+261,ω 221360928884514619391+233,ω 221360928884514619391+263,ω 221360928884514619391+239,ω 221360928884514619391+265,ω 221360928884514619391+200,ω 221360928884514619391+267]
noncomputable def dARV2 (R:Int) (A:Array UInt8):List Bool:=[true,!(decide (65535 < (((cR R A (15) (-1)):Nat):Int))),!(R == 0),Int.fmod (13 - (((cR R A (-2) (1)):Nat):Int)) R == (((cR R A (15) (-1)):Nat):Int),!(decide ((2*(((cR R A (-15) (1)):Nat):Int)) < R)),mulOk 2 (((cR R A (-15) (1)):Nat):Int),decide ((((cR R A (-15) (1)):Nat):Int) > 0),!(R == 0),Int.fmod ((((cR R A (-2) (1)):Nat):Int) - 13) R == (((cR R A (-15) (1)):Nat):Int),true,true,true,true,true,true,!(R == 0),Int.fmod 0 R == ((0:Nat):Int),true,!(R == 0),Int.fmod 0 R == ((0:Nat):Int),true,true,!(R == 0),Int.fmod 0 R == ((0:Nat):Int),true,true,true,true,!(R == 0),Int.fmod 0 R == ((0:Nat):Int),true,true,true,true,true,true,true,true,true,true,true,true,true,true,true,true,true,true,true,true,true,true,true,true,true,true,true,dom R A,true,true,true,true,true,true,true,true,decide ((((cR R A (0) (1)):Nat):Int) < (Int.fdiv R 2)),divOk R 2,!(((((cR R A (0) (1)):Nat):Int) == 0)),!(R == 0),Int.fmod ((((cR R A (-3) (1)):Nat):Int) - (R - 3)) R == (((cR R A (0) (1)):Nat):Int),true,true,true,true,true,!(R == 0),Int.fmod 0 R == ((0:Nat):Int),true,!(R == 0),Int.fmod 0 R == ((0:Nat):Int),!(R == 0),Int.fmod 0 R == ((0:Nat):Int),true,!(R == 0),Int.fmod 0 R == ((0:Nat):Int),true,true,true,decide (0 < (((cR R A (16) (-1)):Nat):Int)),!(R == 0),Int.fmod ((((cR R A (-3) (1)):Nat):Int) - (((cR R A (-3) (1)):Nat):Int)) R == ((0:Nat):Int),!(((((cR R A (16) (-1)):Nat):Int) == 0)),true,true,true,true,!(((((cR R A (16) (-1)):Nat):Int) == 0)),!(R == 0),Int.fmod (13 - (((cR R A (-3) (1)):Nat):Int)) R == (((cR R A (16) (-1)):Nat):Int),!(decide ((2*(((cR R A (-16) (1)):Nat):Int)) < R)),mulOk 2 (((cR R A (-16) (1)):Nat):Int),decide ((((cR R A (-16) (1)):Nat):Int) > 0),!(R == 0),Int.fmod ((((cR R A (-3) (1)):Nat):Int) - 13) R == (((cR R A (-16) (1)):Nat):Int)]
theorem dARV2_all:∀k,k < 14→((dARV2 128 (bytesN (k+1))).all id && (dARV2 4294967296 (bytesN (k+1))).all id) = true:=by decide+kernel
theorem rARV2 (w:World) (L:Lt) (f:Fm) (p:Pos) (ω:Nat→Nat) (sz tk:Nat):
  RunIs (sim (VW w (icO1 w) (mkSt f 0 [0,1,0,2])) 8814 ω (hARV2 (L.I 0) (L.B 0)) (denQ (ctARV2.code w (up L))) (ctARV2.code w (up L)) p [] (sz+10) tk 32 (treeOf (ctARV2.ents w (up L))) [] [])
   (.ok (ctARV2.res w (up L) (rd (yARV2 sz tk ω)))) [0,1,2,3,4,5,6,7,8,9,10,11,12,13,14,15,16,17,18,19,20,21,22,23,24,25,26,27,28,29,30,31,211,209,81,208] (ctARV2.posts w (up L) (rd (yARV2 sz tk ω))++ctARV2.news w (up L) (rd (yARV2 sz tk ω)))
   (dARV2 (L.I 0) (L.B 0)):=⟨by kernel_rfl⟩
theorem okARV2 (w:World):Ct2Ok w ctARV2:=ct2_okc (own:=(icO1 w)) (ks:=[0,1,0,2]) rfl icO1_own (fun _ _=>by kernel_rfl) (fun _ _=>by kernel_rfl) (fun _=>by kernel_rfl) fun L hd=>
  ⟨8814,hARV2 (L.I 0) (L.B 0),[0,1,2,3,4,5,6,7,8,9,10,11,12,13,14,15,16,17,18,19,20,21,22,23,24,25,26,27,28,29,30,31,211,209,81,208],yARV2,fun _ _ _=>dARV2 (L.I 0) (L.B 0),rfl,fun _ _ _=>dom_all dARV2_all (hd _ (.head _)),fun f p ω sz tk=>castK (by kernel_rfl) (rARV2 w L f p ω sz tk)⟩
end
end Mine
namespace Mine
open PySem PySem.W
noncomputable section
noncomputable def hARV3 (R:Int) (A:Array UInt8):NL:=g7 (30::28::0::g171 (30::g70 (30::g70 (30::g42 (g431 (g163 (31::29::31::g70 (31::g42 (31::31::g9 (g186 (32::g31 (32::30::32::g137 (33::31::0::0::33::g33 (33::g33 (33::g103 (g211 (32::0::0::34::34::34::g9 (g437 (15::(cR R A (-16) (0))::0::34::32::34::g102 (34::4::34::g146 (33::g33 (33::g33 (33::g103 (g178 (36::34::0::36::36::3::36::15::16::0::32::30::32::g115 (32::g19 (32::g67 (37::35::g7 (37::g149 (37::35::37::g362 (g107 (37::g29 (g160 (39::g19 (39::g109 (37::2::0::37::35::37::32::g33 (32::32::g32 (14::g10 (40::38::0::40::38::0::g363 (40::g90 (40::g90 (40::g115 (40::40::40::40::g438 (41::39::0::0::41::41::41::g467 (42::40::0::42::42::3::42::15::(cR R A (0) (1))::41::1::9::1::31::g29 (g366 (g107 (31::g29 (g367 (g107 (31::g29 (g368 (g19 (45::g109 (31::g42 (31::31::g114 (46::44::0::46::44::0::46::g31 (46::44::46::g163 (46::44::0::46::46::g22 (46::g9 (g216 (47::45::0::0::47::47::47::g369 (g37 (47::45::47::g83 (46::g22 (46::46::g468 (15::0::46::g34 (50::48::0::0::50::g22 (50::g22 (50::g123 (g270 (51::51::3::51::g243 (31::31::31::g244 (52::50::0::52::g31 (52::50::52::g163 (52::50::52::g212 (52::g19 (52::g22 (52::g9 (53::51::0::53::51::0::53::51::0::0::53::53::53::g442 (54::3::54::g37 (53::51::53::g100 (52::g19 (52::g22 (g122 (52::52::52::g9 (g223 (55::53::0::55::g31 (55::53::55::g67 (56::54::g7 (56::g149 (56::54::56::g29 (g443 (56::g29 (g318 (g19 (58::g109 (56::2::0::56::54::56::1::11::1::0::52::50::52::g27 (15::52::g19 (52::g19 (52::g114 (g217 (g217 (60::g22 (g227 (25::60::60::60::g444 (g455 (g227 (25::61::61::g9 (g215 (62::60::0::62::g124 (g469 (g469 (g469 (25::0::0::61::g124 (25::61::0::63::63::1::0::63::64::65::g470 (65::63::65::65::g470 (g102 (65::63::65::65::g470 (67::65::63::65::61::g73 (25::23::25::52::g246 (68::66::0::68::g22 (g124 (25::0::g90 (52::0::31::29::31::g42 (31::31::31::g9 (69::67::0::g143 (g31 (69::67::0::69::g76 (70::68::0::70::g7 (71::71::35::69::69::g29 (72::70::0::72::70::0::72::g19 (72::g107 (69::g67 (73::71::g7 (73::g149 (73::71::73::g446 (73::g29 (g422 (g19 (75::g109 (73::2::0::73::71::73::g90 (69::g33 (0::69::67::69::g45 (16::69::g19 (69::g19 (69::g29 (76::74::0::76::74::0::76::g19 (76::7::1::14::1::0::45::8::14::20::21::25::26::27::77::77::77::1::0::77::79::79::0::79::79::79::77::g240 (77::g240 (77::79::77::81::0::69::67::0::69::67::0::0::69::g19 (0::0::g100 (69::1::13::1::69::g228 (82::80::0::0::82::g138 (69::g33 (31::0::31::31::g9 (83::81::0::83::81::0::0::83::83::g9 (84::82::0::84::82::0::0::84::g9 (85::83::0::85::g247 (84::82::84::g130 (87::87::35::85::0::84::g76 (88::86::0::88::g9 (89::89::35::87::0::84::84::g9 (90::88::0::90::88::0::0::90::88::90::g163 (90::88::90::g247 (90::88::90::g13 (g27 (15::90::g317 (g9 (92::90::0::92::g147 (90::g13 (g10 (93::91::0::93::91::0::93::91::0::0::93::91::93::g22 (0::93::g34 (95::93::0::95::g150 (96::94::g7 (96::g92 (26::0::0::95::g34 (97::95::g7 (97::g150 (98::96::g7 (98::g230 (97::g34 (99::97::0::0::99::g22 (99::g22 (99::g123 (100::98::0::g254 (100::3::100::g16 (97::g249 (101::101::1::0::101::102::103::g471 (103::101::103::103::g471 (g100 (103::g471 (105::103::101::103::0::106::106::1::0::106::107::g472 (108::106::108::g472 (1::9::0::g472 (110::108::106::108::3::g100 (93::g34 (111::109::0::111::g150 (112::110::g7 (112::g230 (111::g22 (g6 (2::g1 (g22 (93::94::94::1::0::94::113::0::113::0::113::113::113::94::113::111::115::90::0::84::82::0::84::84::g9 (116::114::0::116::114::0::116::g229 (117::117::35::115::116::g226 (118::116::0::0::118::g22 (118::g22 (118::g123 (g256 (g256 (g256 (119::119::3::119::g245 (116::g191 (120::118::0::120::118::0::120::120::g304 (0::116::g76 (121::119::0::121::g9 (122::122::35::120::116::g226 (123::121::0::123::g34 (124::122::0::124::g22 (124::g34 (125::123::0::0::125::g22 (125::g22 (125::g123 (126::124::0::126::124::0::126::124::0::126::126::3::126::15::0::g100 (124::g34 (127::125::0::127::g150 (128::126::g7 (128::g92 (26::0::0::127::g34 (129::127::g7 (129::g150 (130::128::g7 (130::g230 (129::g34 (131::129::0::0::131::g22 (131::g22 (131::g123 (132::130::0::132::130::0::132::130::0::132::132::3::132::g16 (129::g249 (133::133::1::0::133::134::135::134::g473 (135::133::135::135::134::g473 (g100 (135::134::g473 (137::135::133::135::0::138::138::1::0::138::139::g474 (140::138::140::g474 (1::9::0::g474 (142::140::138::140::3::g100 (124::g34 (143::141::0::143::g150 (144::142::g7 (144::g230 (143::g271 (143::141::143::g22 (116::g191 (145::143::0::145::143::0::145::145::g304 (116::g175 (84::0::83::81::83::g78 (18::83::g9 (146::144::0::146::144::0::146::g47 (18::0::1::12::1::83::91::91::91::91::0::83::g9 (147::145::0::147::g44 (4::0::147::g463 (148::146::0::148::146::0::148::146::0::148::146::0::0::148::146::148::g13 (148::0::8::0::148::146::148::g13 (g33 (0::0::148::146::148::g228 (149::147::0::149::g138 (149::g138 (148::g191 (150::148::0::150::148::0::150::150::g304 (148::0::g173 (148::146::148::g250 (151::149::0::151::g130 (151::g13 (g137 (152::150::0::152::g45 (16::152::g103 (g451 (g33 (0::153::g33 (153::g137 (154::152::0::0::154::g33 (154::g33 (0::0::154::g33 (0::22::0::22::22::3::154::g103 (155::153::0::155::153::0::155::153::0::155::155::2::155::15::13::153::g103 (156::154::0::156::154::0::156::154::0::0::156::156::156::g9 (157::155::0::157::155::0::157::155::0::157::157::3::157::g37 (156::154::156::g100 (152::g137 (158::156::0::0::158::g33 (158::g33 (158::g103 (159::157::0::159::157::0::159::157::0::0::159::159::159::g9 (160::158::0::g459 (3::160::15::(cR R A (-16) (0))::0::159::157::159::g102 (159::4::159::g146 (158::g33 (158::g33 (158::g103 (161::159::0::161::159::0::161::159::0::161::161::3::161::15::16::0::0::162::162::1::0::162::163::g475 (164::162::164::g475 (1::9::0::g475 (166::164::162::164::0::148::146::0::148::g302 (148::g303 (148::148::148::148::148::148::g15 (168::0::168::g8 (0::g179 (g179 (g179 (g179 (g179 (169::169::168::g6 (168::0::168::g273 (g273 (g273 (g273 (g273 (g273 (g273 (g273 (0::168::g7 (168::0::0::167::165::167::18::89::83::59::91::59::0::59::91::59::91::[]))))))))))))))))))))))))))))))))))))))))))))))))))))))))))))))))))))))))))))))))))))))))))))))))))))))))))))))))))))))))))))))))))))))))))))))))))))))))))))))))))))))))))))))))))))))))))))))))))))))))))))))))))))))))))))))))))))))))))))))))))))))))))))))))))))))))))))))))))))))))))))))))))))))))))))))))))))))))))))))))))))))
noncomputable def eARV3 (w:World) (L:Lt) (R:Int) (A:Array UInt8):List Ent:=[((L.A 0),(zI 1173 (L.A 2))),((L.A 1),(zI 979 (L.A 3))),((L.A 2),(zD 14 [zW w r10 (L.U 1) (.ref (L.A 4)),zW w r11 (L.U 2) (.ref (L.A 5)),zW w r12 (L.U 3) (.ref (L.A 6)),zW w r13 (L.U 4) (.str q217 (L.U 5)),zW w r14 (L.U 6) (.ref (L.A 7)),zW w r15 (L.U 7) (.ref (L.A 8)),zW w r16 (L.U 8) (.ref (L.A 9)),zW w r17 (L.U 9) (.ref (L.A 10)),zW w r18 (L.U 10) (.ref (L.A 11)),zW w r19 (L.U 11) (.ref (L.A 12)),zW w r20 (L.U 12) (.none),zW w r21 (L.U 13) (.int 0 (L.U 14)),zW w r22 (L.U 15) (.int 0 (L.U 16)),zW w r23 (L.U 17) (.bool true)])),((L.A 3),(zD 9 [zW w r60 (L.U 18) (.int 90 (L.U 19)),zW w r61 (L.U 20) (.int 80 (L.U 21)),zW w r62 (L.U 22) (.int (((cR R A (-3) (1)):Nat):Int) (L.U 23)),zW w r63 (L.U 24) (.int 21 (L.U 25)),zW w r64 (L.U 26) (.int 17 (L.U 27)),zW w q332 (L.U 28) (.int 30 (L.U 29)),zW w q351 (L.U 30) (.int 0 (L.U 31)),zW w r65 (L.U 32) (.bytes ⟨[]⟩ (L.U 33)),zW w r66 (L.U 34) (.bytes ⟨[]⟩ (L.U 35))])),((L.A 4),(zI 1130 (L.A 13))),((L.A 5),(zT 0 [.int 1 (L.U 36),.int 80 (L.U 37)])),((L.A 6),(zT 0 [.int 2 (L.U 38),.int 90 (L.U 39)])),((L.A 7),(zI 915 (L.A 14))),((L.A 8),(zI 289 (L.A 15))),((L.A 10),(zI 437 (L.A 16))),((L.A 11),(zI 346 (L.A 17))),((L.A 12),(zI 1109 (L.A 18))),((L.A 13),(zD 10 [zW w r0 (L.U 40) (.int R (L.U 41)),zW w r1 (L.U 42) (.int 4 (L.U 43)),zW w r2 (L.U 44) (.int 40 (L.U 45)),zW w r3 (L.U 46) (.int 16 (L.U 47)),zW w r4 (L.U 48) (.int 6 (L.U 49)),zW w r5 (L.U 50) (.int 4 (L.U 51)),zW w r6 (L.U 52) (.int 24 (L.U 53)),zW w r7 (L.U 54) (.int 3 (L.U 55)),zW w r8 (L.U 56) (.int 5 (L.U 57)),zW w r9 (L.U 58) (.int 9 (L.U 59))])),((L.A 14),(zD 11 [zW w r24 (L.U 60) (.int 20 (L.U 61)),zW w r0 (L.U 62) (.int R (L.U 41)),zW w r1 (L.U 63) (.int 4 (L.U 43)),zW w r25 (L.U 64) (.int 21 (L.U 65)),zW w q38 (L.U 66) (.int 21 (L.U 67)),zW w r26 (L.U 68) (.int 21 (L.U 69)),zW w r27 (L.U 70) (.ref (L.A 19)),zW w r28 (L.U 71) (.ref (L.A 20)),zW w r29 (L.U 72) (.bool false),zW w r30 (L.U 73) (.bool false),zW w r31 (L.U 74) (.bool false)])),((L.A 15),(zD 10 [zW w r0 (L.U 75) (.int R (L.U 41)),zW w r50 (L.U 76) (.int 16 (L.U 77)),zW w r1 (L.U 78) (.int 4 (L.U 79)),zW w q38 (L.U 80) (.int (((cR R A (-3) (0)):Nat):Int) (L.U 81)),zW w r53 (L.U 82) (.ref (L.A 21)),zW w r54 (L.U 83) (.ref (L.A 22)),zW w r55 (L.U 84) (.int 13 (L.U 85)),zW w r56 (L.U 86) (.none),zW w r57 (L.U 87) (.bool false),zW w r58 (L.U 88) (.none)])),((L.A 16),(zD 8 [zW w r1 (L.U 89) (.int 4 (L.U 43)),zW w r34 (L.U 90) (.int 44 (L.U 91)),zW w q319 (L.U 92) (.int 8 (L.U 93)),zW w r35 (L.U 94) (.int 44 (L.U 91)),zW w r36 (L.U 95) (.int 0 (L.U 96)),zW w r37 (L.U 97) (.int 0 (L.U 98)),zW w r38 (L.U 99) (.bool false),zW w r39 (L.U 100) (.bool false)])),((L.A 17),(zD 4 [zW w r40 (L.U 101) (.int 5 (L.U 57)),zW w r41 (L.U 102) (.int 0 (L.U 103)),zW w q457 (L.U 104) (.none),zW w r42 (L.U 105) (.bool false)])),((L.A 18),(zD 6 [zW w q319 (L.U 106) (.int 16 1642),zW w r43 (L.U 107) (.ref (L.A 23)),zW w r44 (L.U 108) (.ref (L.A 24)),zW w r45 (L.U 109) (.ref (L.A 25)),zW w r46 (L.U 110) (.none),zW w r47 (L.U 111) (.int 0 (L.U 112))])),((L.A 19),(zI 724 (L.A 26))),((L.A 20),(zI 682 (L.A 27))),((L.A 21),⟨.type "bytearray",none,.bytearray ⟨[]⟩ 0,⟨[]⟩⟩),((L.A 22),(zI 155 (L.A 28))),((L.A 25),(zD 0 [])),((L.A 26),(zD 5 [zW w r0 (L.U 113) (.int R (L.U 41)),zW w q319 (L.U 114) (.int 0 (L.U 115)),zW w r34 (L.U 116) (.int 0 (L.U 117)),zW w r48 (L.U 118) (.none),zW w r49 (L.U 119) (.int 0 (L.U 120))])),((L.A 27),(zD 2 [zW w r50 (L.U 121) (.int 40 (L.U 45)),zW w r51 (L.U 122) (.bytes ⟨[]⟩ (L.U 123))])),((L.A 28),(zD 2 [zW w r0 (L.U 124) (.int R (L.U 41)),zW w r59 (L.U 125) (.ref (L.A 29))])),((L.A 29),(zL 0 [])),((L.A 30),(zD 9 [zW w r60 (L.U 126) (.int 90 (L.U 127)),zW w r61 (L.U 128) (.int 80 (L.U 129)),zW w r62 (L.U 130) (.int (R - 3) (L.U 131)),zW w r63 (L.U 132) (.int 21 (L.U 133)),zW w r64 (L.U 134) (.int 16 (L.U 135)),zW w q332 (L.U 136) (.int 30 (L.U 137)),zW w q351 (L.U 138) (.int 0 (L.U 139)),zW w r65 (L.U 140) (.bytes ⟨[]⟩ (L.U 141)),zW w r66 (L.U 142) (.bytes A (L.U 143))]))]
noncomputable def pARV3 (w:World) (L:Lt) (R:Int) (A:Array UInt8) (Y:Nat→Nat):List Ent:=zS (eARV3 w L R A) [(2,((L.A 2),(zD 14 [zW w r10 (L.U 1) (.ref (L.A 4)),zW w r11 (L.U 2) (.ref (L.A 5)),zW w r12 (L.U 3) (.ref (L.A 6)),zW w r13 (L.U 4) (.str q217 (L.U 5)),zW w r14 (L.U 6) (.ref (L.A 7)),zW w r15 (L.U 7) (.ref (L.A 8)),zW w r16 (L.U 8) (.ref (L.A 9)),zW w r17 (L.U 9) (.ref (L.A 10)),zW w r18 (L.U 10) (.ref (L.A 11)),zW w r19 (L.U 11) (.ref (L.A 12)),zW w r20 (L.U 12) (.none),zW w r21 (L.U 13) (.int 0 (Y 0)),zW w r22 (L.U 15) (.int 0 (Y 1)),zW w r23 (L.U 17) (.bool true)]))),(14,((L.A 15),(zD 10 [zW w r0 (L.U 75) (.int R (L.U 41)),zW w r50 (L.U 76) (.int 16 (L.U 77)),zW w r1 (L.U 78) (.int 4 (L.U 79)),zW w q38 (L.U 80) (.int (((cR R A (-3) (0)):Nat):Int) (Y 2)),zW w r53 (L.U 82) (.ref (L.A 21)),zW w r54 (L.U 83) (.ref (L.A 22)),zW w r55 (L.U 84) (.int 13 (L.U 85)),zW w r56 (L.U 86) (.int (((cR R A (-3) (1)):Nat):Int) (Y 3)),zW w r57 (L.U 87) (.bool false),zW w r58 (L.U 88) (.none)]))),(16,((L.A 17),(zD 4 [zW w r40 (L.U 101) (.int 5 (L.U 57)),zW w r41 (L.U 102) (.int 0 (Y 4)),zW w q457 (L.U 104) (.none),zW w r42 (L.U 105) (.bool false)]))),(23,((L.A 26),(zD 5 [zW w r0 (L.U 113) (.int R (L.U 41)),zW w q319 (L.U 114) (.int 30 (L.U 29)),zW w r34 (L.U 116) (.int 30 (L.U 29)),zW w r48 (L.U 118) (.int (((cR R A (-3) (1)):Nat):Int) (L.U 23)),zW w r49 (L.U 119) (.int 21 (L.U 25))]))),(25,((L.A 28),(zD 2 [zW w r0 (L.U 124) (.int R (L.U 41)),zW w r59 (L.U 125) (.ref (Y 5+10))])))]
noncomputable def nARV3 (w:World) (L:Lt) (R:Int) (A:Array UInt8) (Y:Nat→Nat):List Ent:=[((Y 6+10),(zL 0 [.ref (Y 7+10)])),((Y 7+10),(zI 979 (Y 8+10))),((Y 5+10),(zL 0 [])),((Y 8+10),(zD 9 [zW w r60 (Y 9) (.int 80 (L.U 37)),zW w r61 (Y 10) (.int 90 (L.U 39)),zW w r62 (Y 11) (.int 21 (L.U 67)),zW w r63 (Y 12) (.int (((cR R A (-3) (0)):Nat):Int) (Y 2)),zW w r64 (Y 13) (.int 16 (Y 14)),zW w q332 (Y 15) (.int 16 (Y 16)),zW w q351 (Y 17) (.int 0 (Y 18)),zW w r65 (Y 19) (.bytes ⟨[]⟩ (Y 20)),zW w r66 (Y 21) (.bytes ⟨[]⟩ 1819)]))]
noncomputable def cARV3 (L:Lt) (R:Int) (A:Array UInt8):Code:=(.call (.ref 1296) ⟨[.ref (L.A 0),.ref (L.A 1),.int 4 (L.U 0)],[]⟩)
noncomputable def ctARV3:Ct2 where
  np:=28
  aI:=[1,2,5,7,10,12,14,18,20,22,24,26,28,55,63,65,67,69,71,107,109,123,125,157,159,161,166,168,171,192,194]
  uI:=[3,9,11,13,15,16,17,19,21,23,25,27,29,30,31,32,33,34,36,37,38,39,40,41,42,43,44,45,46,47,48,49,50,51,52,53,57,58,60,61,73,74,75,76,77,78,79,80,81,82,83,84,85,86,87,88,89,90,91,92,94,95,96,98,100,101,102,103,104,105,106,108,110,111,112,114,116,117,118,119,120,121,122,124,126,127,128,129,130,132,134,135,136,137,138,140,141,142,143,144,145,147,149,150,151,152,154,156,158,160,162,163,164,174,176,177,178,179,180,181,182,184,186,187,189,191,195,196,197,198,199,200,201,202,203,204,205,206,207,208,209,210,211,212]
  iI:=[14]
  bI:=[4]
  code _ L:=cARV3 L (L.I 0) (L.B 0)
  ents w L:=eARV3 w L (L.I 0) (L.B 0)
  posts w L Y:=pARV3 w L (L.I 0) (L.B 0) Y
  news w L Y:=nARV3 w L (L.I 0) (L.B 0) Y
  nn:=4
  res w L Y:=(.ret (.ref (Y 6+10)))
  ds L:=[dom (L.I 0) (L.B 0)]
  sh:=shapeB [0,1,0,2]
noncomputable def yARV3 (sz tk:Nat) (ω:Nat→Nat):List Nat:=[ω 216172782113783807+159,tk+141,ω 360287970189639679,ω 504403158265495551,ω 216172782113783807+184,ω 648518346341351423,ω 72057594037927935+91,ω 72057594037927935+89,ω 72057594037927935+88,ω 216172782113783807+272,ω 216172782113783807+274,ω 216172782113783807+276,ω 216172782113783807+278,ω 216172782113783807+280,ω 216172782113783807+177,ω 216172782113783807+282,ω 216172782113783807+254,ω 216172782113783807+284,ω 216172782113783807+260,ω 216172782113783807+286,ω 216172782113783807+196,ω 216172782113783807+288]
noncomputable def dARV3 (R:Int) (A:Array UInt8):List Bool:=[true,true,!(R == 0),Int.fmod (13 - (((cR R A (-3) (0)):Nat):Int)) R == ((16:Nat):Int),!(decide ((2*(((cR R A (-16) (0)):Nat):Int)) < R)),mulOk 2 (((cR R A (-16) (0)):Nat):Int),decide ((((cR R A (-16) (0)):Nat):Int) > 0),!(R == 0),Int.fmod ((((cR R A (-3) (0)):Nat):Int) - 13) R == (((cR R A (-16) (0)):Nat):Int),true,!(R == 0),Int.fmod 0 R == ((0:Nat):Int),!(R == 0),Int.fmod ((((cR R A (-3) (0)):Nat):Int)+16) R == ((13:Nat):Int),true,true,true,true,true,!(R == 0),Int.fmod 0 R == ((0:Nat):Int),true,!(R == 0),Int.fmod 0 R == ((0:Nat):Int),true,true,!(R == 0),Int.fmod 0 R == ((0:Nat):Int),true,true,true,true,!(R == 0),Int.fmod 0 R == ((0:Nat):Int),true,true,true,true,true,true,true,true,true,true,true,true,true,true,true,dom R A,true,true,true,true,true,true,true,true,true,true,true,true,true,!(R == 0),Int.fmod 0 R == ((0:Nat):Int),true,!(R == 0),Int.fmod 0 R == ((0:Nat):Int),!(R == 0),Int.fmod 0 R == ((0:Nat):Int),true,!(R == 0),Int.fmod 0 R == ((0:Nat):Int),true,true,true,decide ((((cR R A (0) (1)):Nat):Int) < 16),!(R == 0),Int.fmod ((((cR R A (-3) (1)):Nat):Int) - (((cR R A (-3) (0)):Nat):Int)) R == (((cR R A (0) (1)):Nat):Int),true,true,true,true,true,true,!(R == 0),Int.fmod (13 - (((cR R A (-3) (0)):Nat):Int)) R == ((16:Nat):Int),!(decide ((2*(((cR R A (-16) (0)):Nat):Int)) < R)),mulOk 2 (((cR R A (-16) (0)):Nat):Int),decide ((((cR R A (-16) (0)):Nat):Int) > 0),!(R == 0),Int.fmod ((((cR R A (-3) (0)):Nat):Int) - 13) R == (((cR R A (-16) (0)):Nat):Int)]
theorem dARV3_all:∀k,k < 14→((dARV3 128 (bytesN (k+1))).all id && (dARV3 4294967296 (bytesN (k+1))).all id) = true:=by decide+kernel
theorem rARV3 (w:World) (L:Lt) (f:Fm) (p:Pos) (ω:Nat→Nat) (sz tk:Nat):
  RunIs (sim (VW w (icO1 w) (mkSt f 0 [0,1,0,2])) 8335 ω (hARV3 (L.I 0) (L.B 0)) (denQ (ctARV3.code w (up L))) (ctARV3.code w (up L)) p [] (sz+10) tk 28 (treeOf (ctARV3.ents w (up L))) [] [])
   (.ok (ctARV3.res w (up L) (rd (yARV3 sz tk ω)))) [0,1,2,3,4,5,6,7,8,9,10,11,12,13,14,15,16,17,18,19,20,21,22,23,24,25,26,27,168,166,76,165] (ctARV3.posts w (up L) (rd (yARV3 sz tk ω))++ctARV3.news w (up L) (rd (yARV3 sz tk ω)))
   (dARV3 (L.I 0) (L.B 0)):=⟨by kernel_rfl⟩
theorem okARV3 (w:World):Ct2Ok w ctARV3:=ct2_okc (own:=(icO1 w)) (ks:=[0,1,0,2]) rfl icO1_own (fun _ _=>by kernel_rfl) (fun _ _=>by kernel_rfl) (fun _=>by kernel_rfl) fun L hd=>
  ⟨8335,hARV3 (L.I 0) (L.B 0),[0,1,2,3,4,5,6,7,8,9,10,11,12,13,14,15,16,17,18,19,20,21,22,23,24,25,26,27,168,166,76,165],yARV3,fun _ _ _=>dARV3 (L.I 0) (L.B 0),rfl,fun _ _ _=>dom_all dARV3_all (hd _ (.head _)),fun f p ω sz tk=>castK (by kernel_rfl) (rARV3 w L f p ω sz tk)⟩
end
end Mine
namespace Mine
open PySem PySem.W
noncomputable section
noncomputable def hARV4 (R:Int) (A:Array UInt8):NL:=g7 (g209 (27::0::29::g70 (29::g70 (29::g42 (29::29::29::g435 (30::g163 (30::28::30::g70 (g361 (g9 (g134 (g31 (31::29::31::g137 (32::30::0::0::32::g33 (32::g33 (32::g103 (g185 (33::31::0::0::33::33::33::g9 (g436 (34::34::3::34::15::(cR R A (-16) (0))::0::33::31::33::g102 (33::4::33::1::9::0::0::32::g33 (32::g33 (32::g103 (g437 (15::16::0::31::29::31::g115 (31::g19 (31::g67 (36::34::g7 (36::g174 (36::34::36::g29 (g297 (g19 (37::g107 (36::g362 (g107 (36::31::g33 (31::31::g32 (14::g10 (g160 (g160 (39::37::0::39::g90 (39::g90 (39::g115 (39::39::39::39::g9 (g363 (40::38::0::0::40::40::40::g438 (41::41::3::41::15::0::40::1::9::1::30::g29 (g364 (g365 (g366 (g365 (g367 (g109 (g361 (g114 (g368 (g31 (45::43::45::g163 (45::43::0::45::45::g22 (45::g269 (46::44::0::0::46::46::46::g439 (g37 (46::44::46::g83 (45::g22 (45::45::g369 (15::0::45::g34 (49::47::0::0::49::g22 (49::g22 (49::g123 (50::48::0::50::48::0::50::48::0::50::50::3::50::g243 (g242 (g440 (g163 (51::49::51::g212 (g298 (g22 (51::g244 (52::50::0::0::52::52::52::g441 (g37 (52::50::52::g100 (g298 (g22 (g122 (51::51::51::g442 (g31 (54::52::54::g67 (55::53::g7 (55::g174 (55::53::55::g29 (g190 (56::g19 (56::g107 (55::g29 (g443 (55::1::11::1::0::51::49::51::g27 (15::51::g19 (g298 (g114 (g219 (g219 (59::g22 (g227 (25::59::59::59::g9 (g217 (g217 (60::g227 (25::60::60::g444 (61::59::0::61::g124 (25::0::61::g124 (25::61::61::g124 (25::g9 (g215 (62::60::0::62::62::3::62::15::(cR R A (0) (-1))::0::61::59::61::g90 (61::61::g124 (25::6::1::9::0::51::g246 (63::61::0::63::g22 (g124 (25::0::g90 (51::0::30::28::30::g42 (g242 (64::g84 (62::0::64::g31 (64::62::0::64::g76 (65::63::0::65::g7 (66::66::35::64::64::g476 (7::1::14::0::64::g67 (68::66::g7 (68::g19 (37::g169 (g477 (g107 (68::g478 (g107 (68::1::13::0::64::g33 (0::64::62::64::g45 (16::64::g19 (64::g19 (64::g370 (g173 (46::8::14::20::21::25::26::72::72::72::1::0::72::74::74::0::74::74::g375 (g375 (74::72::74::72::76::0::64::62::0::64::62::0::0::64::g371 (64::g78 (18::64::64::64::g137 (77::75::0::77::g33 (23::g7 (23::g7 (23::g6 (23::27::g9 (78::76::0::78::23::g6 (23::g7 (23::23::0::27::73::79::73::1::0::73::79::73::79::73::79::73::79::g10 (g373 (78::0::80::78::0::80::g47 (18::0::80::78::80::80::80::g138 (80::g47 (18::2::g138 (80::80::80::80::g47 (18::1::10::0::80::g47 (18::0::1::12::0::80::g47 (18::80::80::g47 (18::2::80::g138 (64::1::13::0::64::g457 (7::1::14::0::64::g33 (64::0::64::64::g9 (82::80::0::82::80::0::82::g228 (83::81::0::0::83::g138 (82::g42 (82::g9 (84::82::0::84::82::0::0::84::g13 (84::g9 (g448 (1::0::85::1::0::85::g157 (87::87::87::87::85::85::19::85::93::7::86::87::88::89::90::91::92::0::85::83::85::g158 (97::97::97::97::85::85::19::95::114::18::96::97::98::99::100::101::102::103::104::105::106::107::108::109::110::111::112::113::0::84::82::84::84::84::g175 (30::0::30::30::g9 (117::115::0::117::115::0::0::117::117::g9 (118::116::0::118::116::0::0::118::g9 (g256 (119::g247 (118::116::118::g130 (121::121::35::119::0::118::g76 (122::120::0::122::g9 (123::123::35::121::0::118::118::g9 (124::122::0::124::122::0::0::124::122::124::g163 (124::122::124::g247 (124::122::124::g13 (g27 (15::124::g317 (g9 (126::124::0::126::g147 (124::g13 (g10 (127::125::0::127::125::0::127::125::0::0::127::125::127::g22 (0::127::g34 (129::127::0::129::g150 (130::128::g7 (130::g92 (26::0::0::129::g34 (131::129::g7 (131::g150 (132::130::g7 (132::g92 (26::g6 (131::g34 (133::131::0::0::133::g22 (133::g22 (133::g123 (134::132::0::134::132::0::134::132::0::134::134::3::134::g16 (131::g249 (135::135::1::0::135::136::137::136::g479 (137::135::137::137::136::g479 (g100 (137::136::g479 (139::137::135::137::0::140::140::1::0::140::141::142::g480 (142::140::142::142::g480 (1::9::0::142::g480 (144::142::140::142::3::g100 (127::g34 (145::143::0::145::g150 (146::144::g7 (146::g230 (145::g271 (145::143::145::g22 (127::128::128::1::0::128::147::0::147::0::147::147::147::128::147::145::149::124::0::118::116::0::118::118::g9 (150::148::0::150::148::0::150::g229 (151::151::35::149::150::g226 (152::150::0::0::152::g22 (152::g22 (152::g123 (g451 (151::0::153::153::3::153::g245 (150::g191 (154::152::0::154::152::0::154::154::g304 (0::150::g76 (155::153::0::155::g9 (156::156::35::154::150::g226 (157::155::0::157::g34 (158::156::0::158::g22 (158::g34 (159::157::0::0::159::g22 (159::g22 (159::g123 (160::158::0::g459 (3::160::15::0::g100 (158::g34 (161::159::0::161::g150 (162::160::g7 (162::g92 (26::0::0::161::g34 (163::161::g7 (163::g150 (164::162::g7 (164::g230 (163::g34 (165::163::0::0::165::g22 (165::g22 (165::g123 (166::164::0::g460 (3::166::g16 (163::g249 (167::167::1::0::167::168::g481 (169::167::169::g481 (g100 (g481 (171::169::167::169::0::172::172::1::0::172::173::174::g482 (174::172::174::174::g482 (1::9::0::174::g482 (176::174::172::174::3::g100 (158::g34 (177::175::0::177::g150 (178::176::g7 (178::g230 (177::g271 (177::175::177::g22 (150::g191 (179::177::0::179::177::0::179::179::g304 (150::g175 (118::0::117::115::117::g78 (18::117::g9 (180::178::0::180::178::0::180::g47 (18::0::1::12::1::117::125::125::125::125::0::117::g9 (181::179::0::181::g44 (4::0::181::g463 (182::180::0::182::180::0::182::180::0::182::180::0::0::182::180::182::g13 (182::0::8::0::182::180::182::g13 (g33 (0::0::182::180::182::g228 (183::181::0::183::g138 (183::g138 (182::g191 (184::182::0::184::182::0::184::184::g304 (182::0::g173 (182::180::182::g250 (185::183::0::185::g130 (185::g13 (g137 (186::184::0::186::g45 (16::186::g103 (187::185::0::187::185::0::187::g33 (186::g137 (188::186::0::0::188::g33 (188::g33 (188::g103 (189::187::0::189::187::0::189::187::0::0::189::189::189::g9 (190::188::0::190::188::0::190::188::0::190::190::3::190::15::(cR R A (-15) (1))::0::189::187::189::g102 (189::4::189::g146 (188::g33 (188::g33 (188::g103 (191::189::0::191::189::0::191::189::0::191::191::3::191::15::(cR R A (15) (-1))::0::0::192::192::1::0::192::193::g483 (194::192::194::g483 (1::9::0::g483 (196::194::192::194::0::182::180::0::182::g302 (182::g303 (182::182::182::182::182::182::g15 (198::0::198::g8 (0::g259 (g259 (g259 (g259 (g259 (199::199::198::g6 (198::g274 (g274 (g274 (g274 (g274 (g274 (g274 (g274 (0::198::0::198::g7 (198::0::0::197::195::197::18::123::117::58::125::58::0::58::125::58::125::[]))))))))))))))))))))))))))))))))))))))))))))))))))))))))))))))))))))))))))))))))))))))))))))))))))))))))))))))))))))))))))))))))))))))))))))))))))))))))))))))))))))))))))))))))))))))))))))))))))))))))))))))))))))))))))))))))))))))))))))))))))))))))))))))))))))))))))))))))))))))))))))))))))))))))))))))))))))))))))))))))))))))))))))
noncomputable def eARV4 (w:World) (L:Lt) (R:Int) (A:Array UInt8):List Ent:=[((L.A 0),(zI 1173 (L.A 2))),((L.A 1),(zI 979 (L.A 3))),((L.A 2),(zD 14 [zW w r10 (L.U 1) (.ref (L.A 4)),zW w r11 (L.U 2) (.ref (L.A 5)),zW w r12 (L.U 3) (.ref (L.A 6)),zW w r13 (L.U 4) (.str q217 (L.U 5)),zW w r14 (L.U 6) (.ref (L.A 7)),zW w r15 (L.U 7) (.ref (L.A 8)),zW w r16 (L.U 8) (.ref (L.A 9)),zW w r17 (L.U 9) (.ref (L.A 10)),zW w r18 (L.U 10) (.ref (L.A 11)),zW w r19 (L.U 11) (.ref (L.A 12)),zW w r20 (L.U 12) (.none),zW w r21 (L.U 13) (.int 0 (L.U 14)),zW w r22 (L.U 15) (.int 0 (L.U 16)),zW w r23 (L.U 17) (.bool true)])),((L.A 3),(zD 9 [zW w r60 (L.U 18) (.int 90 (L.U 19)),zW w r61 (L.U 20) (.int 80 (L.U 21)),zW w r62 (L.U 22) (.int (R - 3) (L.U 23)),zW w r63 (L.U 24) (.int 21 (L.U 25)),zW w r64 (L.U 26) (.int 16 (L.U 27)),zW w q332 (L.U 28) (.int 30 (L.U 29)),zW w q351 (L.U 30) (.int 0 (L.U 31)),zW w r65 (L.U 32) (.bytes ⟨[]⟩ (L.U 33)),zW w r66 (L.U 34) (.bytes A (L.U 35))])),((L.A 4),(zI 1130 (L.A 13))),((L.A 5),(zT 0 [.int 1 (L.U 36),.int 80 (L.U 37)])),((L.A 6),(zT 0 [.int 2 (L.U 38),.int 90 (L.U 39)])),((L.A 7),(zI 915 (L.A 14))),((L.A 8),(zI 289 (L.A 15))),((L.A 10),(zI 437 (L.A 16))),((L.A 11),(zI 346 (L.A 17))),((L.A 12),(zI 1109 (L.A 18))),((L.A 13),(zD 10 [zW w r0 (L.U 40) (.int R (L.U 41)),zW w r1 (L.U 42) (.int 4 (L.U 43)),zW w r2 (L.U 44) (.int 40 (L.U 45)),zW w r3 (L.U 46) (.int 16 (L.U 47)),zW w r4 (L.U 48) (.int 6 (L.U 49)),zW w r5 (L.U 50) (.int 4 (L.U 51)),zW w r6 (L.U 52) (.int 24 (L.U 53)),zW w r7 (L.U 54) (.int 3 (L.U 55)),zW w r8 (L.U 56) (.int 5 (L.U 57)),zW w r9 (L.U 58) (.int 9 (L.U 59))])),((L.A 14),(zD 11 [zW w r24 (L.U 60) (.int 20 (L.U 61)),zW w r0 (L.U 62) (.int R (L.U 41)),zW w r1 (L.U 63) (.int 4 (L.U 43)),zW w r25 (L.U 64) (.int 21 (L.U 65)),zW w q38 (L.U 66) (.int 21 (L.U 67)),zW w r26 (L.U 68) (.int 21 (L.U 69)),zW w r27 (L.U 70) (.ref (L.A 19)),zW w r28 (L.U 71) (.ref (L.A 20)),zW w r29 (L.U 72) (.bool false),zW w r30 (L.U 73) (.bool false),zW w r31 (L.U 74) (.bool false)])),((L.A 15),(zD 10 [zW w r0 (L.U 75) (.int R (L.U 41)),zW w r50 (L.U 76) (.int 16 (L.U 77)),zW w r1 (L.U 78) (.int 4 (L.U 79)),zW w q38 (L.U 80) (.int (((cR R A (-3) (0)):Nat):Int) (L.U 81)),zW w r53 (L.U 82) (.ref (L.A 21)),zW w r54 (L.U 83) (.ref (L.A 22)),zW w r55 (L.U 84) (.int 13 (L.U 85)),zW w r56 (L.U 86) (.int (((cR R A (-3) (1)):Nat):Int) (L.U 87)),zW w r57 (L.U 88) (.bool false),zW w r58 (L.U 89) (.none)])),((L.A 16),(zD 8 [zW w r1 (L.U 90) (.int 4 (L.U 43)),zW w r34 (L.U 91) (.int 44 (L.U 92)),zW w q319 (L.U 93) (.int 8 (L.U 94)),zW w r35 (L.U 95) (.int 44 (L.U 92)),zW w r36 (L.U 96) (.int 0 (L.U 97)),zW w r37 (L.U 98) (.int 0 (L.U 99)),zW w r38 (L.U 100) (.bool false),zW w r39 (L.U 101) (.bool false)])),((L.A 17),(zD 4 [zW w r40 (L.U 102) (.int 5 (L.U 57)),zW w r41 (L.U 103) (.int 0 (L.U 104)),zW w q457 (L.U 105) (.none),zW w r42 (L.U 106) (.bool false)])),((L.A 18),(zD 6 [zW w q319 (L.U 107) (.int 16 1642),zW w r43 (L.U 108) (.ref (L.A 23)),zW w r44 (L.U 109) (.ref (L.A 24)),zW w r45 (L.U 110) (.ref (L.A 25)),zW w r46 (L.U 111) (.none),zW w r47 (L.U 112) (.int 0 (L.U 113))])),((L.A 19),(zI 724 (L.A 26))),((L.A 20),(zI 682 (L.A 27))),((L.A 21),⟨.type "bytearray",none,.bytearray ⟨[]⟩ 0,⟨[]⟩⟩),((L.A 22),(zI 155 (L.A 28))),((L.A 25),(zD 0 [])),((L.A 26),(zD 5 [zW w r0 (L.U 114) (.int R (L.U 41)),zW w q319 (L.U 115) (.int 30 (L.U 116)),zW w r34 (L.U 117) (.int 30 (L.U 116)),zW w r48 (L.U 118) (.int (((cR R A (-3) (1)):Nat):Int) (L.U 119)),zW w r49 (L.U 120) (.int 21 (L.U 121))])),((L.A 27),(zD 2 [zW w r50 (L.U 122) (.int 40 (L.U 45)),zW w r51 (L.U 123) (.bytes ⟨[]⟩ (L.U 124))])),((L.A 28),(zD 2 [zW w r0 (L.U 125) (.int R (L.U 41)),zW w r59 (L.U 126) (.ref (L.A 29))])),((L.A 29),(zL 0 []))]
noncomputable def pARV4 (w:World) (L:Lt) (R:Int) (A:Array UInt8) (Y:Nat→Nat):List Ent:=zS (eARV4 w L R A) [(2,((L.A 2),(zD 14 [zW w r10 (L.U 1) (.ref (L.A 4)),zW w r11 (L.U 2) (.ref (L.A 5)),zW w r12 (L.U 3) (.ref (L.A 6)),zW w r13 (L.U 4) (.str q223 1578),zW w r14 (L.U 6) (.ref (L.A 7)),zW w r15 (L.U 7) (.ref (L.A 8)),zW w r16 (L.U 8) (.ref (L.A 9)),zW w r17 (L.U 9) (.ref (L.A 10)),zW w r18 (L.U 10) (.ref (L.A 11)),zW w r19 (L.U 11) (.ref (L.A 12)),zW w r20 (L.U 12) (.none),zW w r21 (L.U 13) (.int 0 (Y 0)),zW w r22 (L.U 15) (.int 0 (Y 1)),zW w r23 (L.U 17) (.bool true)]))),(14,((L.A 15),(zD 10 [zW w r0 (L.U 75) (.int R (L.U 41)),zW w r50 (L.U 76) (.int 16 (L.U 77)),zW w r1 (L.U 78) (.int 4 (L.U 79)),zW w q38 (L.U 80) (.int (((cR R A (-2) (1)):Nat):Int) (Y 2)),zW w r53 (L.U 82) (.ref (L.A 21)),zW w r54 (L.U 83) (.ref (L.A 22)),zW w r55 (L.U 84) (.int 13 (L.U 85)),zW w r56 (L.U 86) (.int (((cR R A (-3) (1)):Nat):Int) (L.U 87)),zW w r57 (L.U 88) (.bool true),zW w r58 (L.U 89) (.none)]))),(16,((L.A 17),(zD 4 [zW w r40 (L.U 102) (.int 5 (L.U 57)),zW w r41 (L.U 103) (.int 0 (Y 3)),zW w q457 (L.U 105) (.none),zW w r42 (L.U 106) (.bool false)]))),(20,((L.A 21),⟨.type "bytearray",none,.bytearray ((⟨[]⟩:Array UInt8)++A) 0,⟨[]⟩⟩)),(25,((L.A 28),(zD 2 [zW w r0 (L.U 125) (.int R (L.U 41)),zW w r59 (L.U 126) (.ref (Y 4+10))])))]
noncomputable def nARV4 (w:World) (L:Lt) (R:Int) (A:Array UInt8) (Y:Nat→Nat):List Ent:=[((Y 5+10),(zL 0 [.ref (Y 6+10)])),((Y 6+10),(zI 979 (Y 7+10))),((Y 4+10),(zL 2 [])),((Y 7+10),(zD 9 [zW w r60 (Y 8) (.int 80 (L.U 37)),zW w r61 (Y 9) (.int 90 (L.U 39)),zW w r62 (Y 10) (.int 21 (L.U 67)),zW w r63 (Y 11) (.int (((cR R A (-2) (1)):Nat):Int) (Y 2)),zW w r64 (Y 12) (.int 16 (Y 13)),zW w q332 (Y 14) (.int (((cR R A (15) (-1)):Nat):Int) (Y 15)),zW w q351 (Y 16) (.int 0 (Y 17)),zW w r65 (Y 18) (.bytes ⟨[]⟩ (Y 19)),zW w r66 (Y 20) (.bytes ⟨[]⟩ 1819)]))]
noncomputable def cARV4 (L:Lt) (R:Int) (A:Array UInt8):Code:=(.call (.ref 1296) ⟨[.ref (L.A 0),.ref (L.A 1),.int 5 (L.U 0)],[]⟩)
noncomputable def ctARV4:Ct2 where
  np:=27
  aI:=[1,2,5,7,10,12,14,18,20,22,24,26,28,55,63,65,67,69,71,107,109,123,125,158,160,162,167,169,172,194]
  uI:=[3,9,11,13,15,16,17,19,21,23,25,27,29,30,31,32,33,34,36,37,38,39,40,41,42,43,44,45,46,47,48,49,50,51,52,53,57,58,60,61,73,74,75,76,77,78,79,80,81,82,83,84,85,86,87,88,89,90,91,92,94,95,96,98,100,101,102,103,104,105,106,108,110,111,112,114,116,117,118,119,120,121,122,124,126,127,128,129,130,131,133,135,136,137,138,139,141,142,143,144,145,146,148,150,151,152,153,155,157,159,161,163,164,165,175,177,178,179,181,182,183,184,186,188,189,191,193]
  iI:=[14]
  bI:=[1]
  code _ L:=cARV4 L (L.I 0) (L.B 0)
  ents w L:=eARV4 w L (L.I 0) (L.B 0)
  posts w L Y:=pARV4 w L (L.I 0) (L.B 0) Y
  news w L Y:=nARV4 w L (L.I 0) (L.B 0) Y
  nn:=4
  res w L Y:=(.ret (.ref (Y 5+10)))
  ds L:=[dom (L.I 0) (L.B 0)]
  sh:=shapeB [0,1,0,2]
noncomputable def yARV4 (sz tk:Nat) (ω:Nat→Nat):List Nat:=[ω 14167099448608935641087+153,tk+138,ω 5764607523034234879,ω 14167099448608935641087+178,ω 8070450532247928831,ω 4722366482869645213695+84,ω 4722366482869645213695+82,ω 4722366482869645213695+81,ω 14167099448608935641087+241,ω 14167099448608935641087+243,ω 14167099448608935641087+245,ω 14167099448608935641087+247,ω 14167099448608935641087+249,ω 14167099448608935641087+171,ω 14167099448608935641087+251,ω 14167099448608935641087+223,ω 14167099448608935641087+253,ω 14167099448608935641087+229,ω 14167099448608935641087+255,ω 14167099448608935641087+190,ω 14167099448608935641087+257]
noncomputable def dARV4 (R:Int) (A:Array UInt8):List Bool:=[true,!(decide (65535 < (((cR R A (15) (-1)):Nat):Int))),!(R == 0),Int.fmod (13 - (((cR R A (-2) (1)):Nat):Int)) R == (((cR R A (15) (-1)):Nat):Int),!(decide ((2*(((cR R A (-15) (1)):Nat):Int)) < R)),mulOk 2 (((cR R A (-15) (1)):Nat):Int),decide ((((cR R A (-15) (1)):Nat):Int) > 0),!(R == 0),Int.fmod ((((cR R A (-2) (1)):Nat):Int) - 13) R == (((cR R A (-15) (1)):Nat):Int),true,true,true,true,true,!(R == 0),Int.fmod 0 R == ((0:Nat):Int),true,!(R == 0),Int.fmod 0 R == ((0:Nat):Int),true,true,!(R == 0),Int.fmod 0 R == ((0:Nat):Int),true,true,true,true,!(R == 0),Int.fmod 0 R == ((0:Nat):Int),true,true,true,true,true,true,true,true,true,true,true,true,true,true,true,!((((A.size:Nat):Int) == 0)),true,true,decide (((A.size:Nat):Int) > 0),Nat.ble A.size 1000,true,true,true,true,true,true,true,true,true,true,dom R A,true,!((((A.size:Nat):Int) == 0)),true,true,Nat.ble A.size 1000,true,true,true,!(decide ((((cR R A (0) (-1)):Nat):Int) < (Int.fdiv R 2))),divOk R 2,!(((((cR R A (0) (-1)):Nat):Int) == 0)),!(R == 0),Int.fmod ((R - 3) - (((cR R A (-3) (1)):Nat):Int)) R == (((cR R A (0) (-1)):Nat):Int),decide (((A.size:Nat):Int) > 0),true,true,Nat.ble A.size 1000,true,true,!(R == 0),Int.fmod 0 R == ((0:Nat):Int),true,!(R == 0),Int.fmod 0 R == ((0:Nat):Int),!(R == 0),Int.fmod 0 R == ((0:Nat):Int),true,!(R == 0),Int.fmod 0 R == ((0:Nat):Int),true,true,true,true,!(R == 0),Int.fmod ((R - 3) - (((cR R A (-3) (0)):Nat):Int)) R == ((0:Nat):Int),true,!((((A.size:Nat):Int) == 0)),!((((A.size:Nat):Int) == 0)),true,true,Nat.ble A.size 1000,true,!(R == 0),Int.fmod (13 - (((cR R A (-3) (0)):Nat):Int)) R == ((16:Nat):Int),!(decide ((2*(((cR R A (-16) (0)):Nat):Int)) < R)),mulOk 2 (((cR R A (-16) (0)):Nat):Int),decide ((((cR R A (-16) (0)):Nat):Int) > 0),!(R == 0),Int.fmod ((((cR R A (-3) (0)):Nat):Int) - 13) R == (((cR R A (-16) (0)):Nat):Int)]
theorem dARV4_all:∀k,k < 14→((dARV4 128 (bytesN (k+1))).all id && (dARV4 4294967296 (bytesN (k+1))).all id) = true:=by decide+kernel
theorem rARV4 (w:World) (L:Lt) (f:Fm) (p:Pos) (ω:Nat→Nat) (sz tk:Nat):
  RunIs (sim (VW w (icO1 w) (mkSt f 0 [0,1,0,2])) 8655 ω (hARV4 (L.I 0) (L.B 0)) (denQ (ctARV4.code w (up L))) (ctARV4.code w (up L)) p [] (sz+10) tk 27 (treeOf (ctARV4.ents w (up L))) [] [])
   (.ok (ctARV4.res w (up L) (rd (yARV4 sz tk ω)))) [0,1,2,3,4,5,6,7,8,9,10,11,12,13,14,15,16,17,18,19,20,21,22,23,24,25,26,198,196,71,195] (ctARV4.posts w (up L) (rd (yARV4 sz tk ω))++ctARV4.news w (up L) (rd (yARV4 sz tk ω)))
   (dARV4 (L.I 0) (L.B 0)):=⟨by kernel_rfl⟩
theorem okARV4 (w:World):Ct2Ok w ctARV4:=ct2_okc (own:=(icO1 w)) (ks:=[0,1,0,2]) rfl icO1_own (fun _ _=>by kernel_rfl) (fun _ _=>by kernel_rfl) (fun _=>by kernel_rfl) fun L hd=>
  ⟨8655,hARV4 (L.I 0) (L.B 0),[0,1,2,3,4,5,6,7,8,9,10,11,12,13,14,15,16,17,18,19,20,21,22,23,24,25,26,198,196,71,195],yARV4,fun _ _ _=>dARV4 (L.I 0) (L.B 0),rfl,fun _ _ _=>dom_all dARV4_all (hd _ (.head _)),fun f p ω sz tk=>castK (by kernel_rfl) (rARV4 w L f p ω sz tk)⟩
end
end Mine
namespace Mine
open PySem PySem.W
noncomputable section
noncomputable def hARV5 (R:Int) (A:Array UInt8):NL:=g7 (g433 (25::g70 (25::g70 (25::g42 (25::25::25::g9 (g359 (g32 (11::0::0::26::24::26::g70 (26::g42 (26::26::g9 (g184 (27::g31 (g238 (g296 (13::g9 (28::26::0::0::28::g85 (13::28::g85 (13::28::g85 (13::g9 (g209 (27::0::0::29::29::29::g435 (30::30::3::30::15::(cR R A (-16) (0))::0::29::27::29::g102 (29::4::29::g146 (28::g85 (13::28::g85 (13::28::g85 (13::g9 (g134 (29::0::31::31::3::31::15::16::0::g238 (g115 (27::g19 (27::g67 (32::30::g7 (32::g174 (32::30::32::g29 (g185 (33::g19 (33::g107 (32::g29 (g211 (g19 (34::g107 (32::27::g85 (13::27::27::g32 (11::g10 (g110 (g110 (35::33::0::35::g90 (35::g90 (35::g115 (35::35::35::35::g9 (g178 (36::34::0::36::34::0::0::36::36::36::g9 (g264 (37::37::3::37::15::0::36::1::9::1::26::g362 (g107 (26::g484 (26::g376 (g109 (26::g42 (26::26::g114 (g485 (g31 (41::39::41::g32 (11::0::0::41::39::0::41::41::g25 (12::41::g467 (42::40::0::0::42::42::42::g486 (43::41::0::43::43::3::43::g37 (42::40::42::g83 (41::g25 (12::41::41::g9 (g208 (44::42::0::44::44::3::44::15::0::41::g99 (12::g9 (45::43::0::0::45::g25 (12::45::g25 (12::45::g25 (12::g269 (g453 (g243 (26::26::26::g9 (g216 (47::45::0::47::g31 (47::45::47::g32 (11::0::0::47::45::47::g212 (47::g19 (47::g25 (12::47::g225 (48::46::0::0::48::48::48::g468 (g37 (48::46::48::g100 (47::g19 (47::g25 (12::g122 (47::47::47::g267 (50::g31 (50::48::50::g67 (51::49::g7 (51::g174 (51::49::51::g29 (52::50::0::52::50::0::52::g19 (52::g107 (51::g29 (53::51::0::53::51::0::53::g19 (53::g107 (51::1::11::1::0::47::45::47::g99 (12::47::g19 (47::g19 (47::g114 (g223 (g223 (55::g25 (12::16::g7 (16::g7 (16::g6 (16::21::55::55::55::g9 (g190 (g190 (56::16::g7 (16::g7 (16::g6 (16::21::56::56::g454 (57::55::0::57::g487 (g488 (g488 (g488 (21::0::0::56::g487 (21::56::0::58::58::1::0::58::59::60::g489 (60::58::60::60::g489 (g102 (60::58::60::60::g489 (62::60::58::60::56::g234 (21::19::21::47::7::g6 (7::g8 (g10 (63::61::0::63::g25 (12::g487 (21::0::g90 (47::0::26::24::26::g42 (26::26::26::g9 (64::g84 (62::0::64::g31 (64::62::0::64::g76 (65::63::0::65::g7 (66::66::35::64::64::g476 (7::1::14::0::64::g67 (68::66::g7 (68::g19 (37::g169 (g477 (g107 (68::g478 (g107 (68::1::13::0::64::g85 (13::0::64::62::64::g296 (13::64::g19 (64::g19 (64::g370 (g173 (43::6::11::15::16::20::22::72::72::72::1::0::72::74::74::0::74::74::g375 (g375 (74::72::74::72::76::0::64::62::0::64::62::0::0::64::g371 (64::g13 (g27 (14::64::64::64::g296 (13::g9 (77::75::0::77::g85 (13::g189 (22::g9 (78::76::0::78::g101 (22::73::79::73::1::0::73::79::73::79::73::79::73::79::g10 (g373 (78::0::80::78::0::80::g43 (0::80::78::80::80::80::g490 (80::g43 (2::g490 (80::80::80::80::g43 (1::10::0::80::g43 (0::1::12::0::80::g43 (80::80::g43 (2::80::g490 (64::1::13::0::64::g457 (7::1::14::0::64::g85 (13::26::0::26::26::g9 (82::80::0::82::80::0::0::82::82::g9 (83::81::0::83::81::0::0::83::g9 (84::82::0::84::g13 (g25 (12::0::0::83::81::83::g130 (86::86::35::84::0::83::g76 (87::85::0::87::g9 (88::88::35::86::0::83::83::g9 (89::87::0::89::87::0::89::g229 (90::90::35::88::89::g13 (g99 (12::g9 (91::89::0::0::91::g25 (12::91::g25 (12::91::g25 (12::g491 (92::90::0::92::92::3::92::g245 (89::g13 (g45 (15::g10 (93::91::0::93::91::0::93::93::g492 (0::89::g76 (94::92::0::94::g9 (95::95::35::93::89::g13 (g45 (15::g10 (96::94::0::96::94::0::96::96::g492 (89::g175 (83::0::82::80::82::g13 (g27 (14::82::g9 (97::95::0::97::95::0::97::g43 (0::1::12::0::97::g43 (97::g43 (97::1::10::0::82::g493 (98::96::0::98::g43 (82::g13 (g45 (15::0::82::g493 (99::97::0::99::g43 (g9 (100::98::0::g254 (g45 (15::100::g9 (g337 (101::g492 (100::g40 (2::100::g141 (15::13::15::100::100::g40 (100::g40 (100::20::20::0::20::20::1::0::20::20::18::20::100::g45 (15::100::g9 (103::101::0::103::101::0::103::g40 (103::g40 (103::103::g40 (5::19::19::19::0::19::19::0::23::23::23::23::100::18::21::82::54::85::54::0::54::85::54::85::[]))))))))))))))))))))))))))))))))))))))))))))))))))))))))))))))))))))))))))))))))))))))))))))))))))))))))))))))))))))))))))))))))))))))))))))))))))))))))))))))))))))))))))))))))))))))))))))))))))))))))))))))))))))))))))))))))))))))))))))))))
noncomputable def eARV5 (w:World) (L:Lt) (R:Int) (A:Array UInt8):List Ent:=[((L.A 0),(zI 1173 (L.A 2))),((L.A 1),(zI 979 (L.A 3))),((L.A 2),(zD 14 [zW w r10 (L.U 1) (.ref (L.A 4)),zW w r11 (L.U 2) (.ref (L.A 5)),zW w r12 (L.U 3) (.ref (L.A 6)),zW w r13 (L.U 4) (.str q221 (L.U 5)),zW w r14 (L.U 6) (.ref (L.A 7)),zW w r15 (L.U 7) (.ref (L.A 8)),zW w r16 (L.U 8) (.ref (L.A 9)),zW w r17 (L.U 9) (.ref (L.A 10)),zW w r18 (L.U 10) (.ref (L.A 11)),zW w r19 (L.U 11) (.ref (L.A 12)),zW w r20 (L.U 12) (.none),zW w r21 (L.U 13) (.int 0 (L.U 14)),zW w r22 (L.U 15) (.int 0 (L.U 16)),zW w r23 (L.U 17) (.bool true)])),((L.A 3),(zD 9 [zW w r60 (L.U 18) (.int 90 (L.U 19)),zW w r61 (L.U 20) (.int 80 (L.U 21)),zW w r62 (L.U 22) (.int (R - 3) (L.U 23)),zW w r63 (L.U 24) (.int 21 (L.U 25)),zW w r64 (L.U 26) (.int 16 (L.U 27)),zW w q332 (L.U 28) (.int 30 (L.U 29)),zW w q351 (L.U 30) (.int 0 (L.U 31)),zW w r65 (L.U 32) (.bytes ⟨[]⟩ (L.U 33)),zW w r66 (L.U 34) (.bytes A (L.U 35))])),((L.A 4),(zI 1130 (L.A 13))),((L.A 7),(zI 915 (L.A 14))),((L.A 8),(zI 289 (L.A 15))),((L.A 11),(zI 346 (L.A 16))),((L.A 12),(zI 1109 (L.A 17))),((L.A 13),(zD 10 [zW w r0 (L.U 36) (.int R (L.U 37)),zW w r1 (L.U 38) (.int 4 (L.U 39)),zW w r2 (L.U 40) (.int 40 (L.U 41)),zW w r3 (L.U 42) (.int 16 (L.U 43)),zW w r4 (L.U 44) (.int 6 (L.U 45)),zW w r5 (L.U 46) (.int 4 (L.U 47)),zW w r6 (L.U 48) (.int 24 (L.U 49)),zW w r7 (L.U 50) (.int 3 (L.U 51)),zW w r8 (L.U 52) (.int 5 (L.U 53)),zW w r9 (L.U 54) (.int 9 (L.U 55))])),((L.A 14),(zD 11 [zW w r24 (L.U 56) (.int 20 (L.U 57)),zW w r0 (L.U 58) (.int R (L.U 37)),zW w r1 (L.U 59) (.int 4 (L.U 39)),zW w r25 (L.U 60) (.int 21 (L.U 61)),zW w q38 (L.U 62) (.int 21 (L.U 63)),zW w r26 (L.U 64) (.int 21 (L.U 65)),zW w r27 (L.U 66) (.ref (L.A 18)),zW w r28 (L.U 67) (.ref (L.A 19)),zW w r29 (L.U 68) (.bool false),zW w r30 (L.U 69) (.bool false),zW w r31 (L.U 70) (.bool false)])),((L.A 15),(zD 10 [zW w r0 (L.U 71) (.int R (L.U 37)),zW w r50 (L.U 72) (.int 16 (L.U 73)),zW w r1 (L.U 74) (.int 4 (L.U 75)),zW w q38 (L.U 76) (.int (((cR R A (-3) (0)):Nat):Int) (L.U 77)),zW w r53 (L.U 78) (.ref (L.A 20)),zW w r54 (L.U 79) (.ref (L.A 21)),zW w r55 (L.U 80) (.int 13 (L.U 81)),zW w r56 (L.U 82) (.none),zW w r57 (L.U 83) (.bool false),zW w r58 (L.U 84) (.none)])),((L.A 16),(zD 4 [zW w r40 (L.U 85) (.int 5 (L.U 53)),zW w r41 (L.U 86) (.int 0 (L.U 87)),zW w q457 (L.U 88) (.none),zW w r42 (L.U 89) (.bool false)])),((L.A 17),(zD 6 [zW w q319 (L.U 90) (.int 16 1642),zW w r43 (L.U 91) (.ref (L.A 22)),zW w r44 (L.U 92) (.ref (L.A 23)),zW w r45 (L.U 93) (.ref (L.A 24)),zW w r46 (L.U 94) (.none),zW w r47 (L.U 95) (.int 0 (L.U 96))])),((L.A 18),(zI 724 (L.A 25))),((L.A 20),⟨.type "bytearray",none,.bytearray ⟨[]⟩ 0,⟨[]⟩⟩),((L.A 21),(zI 155 (L.A 26))),((L.A 22),(zL 16 [.ref (L.A 27),.ref (L.A 28),.ref (L.A 29),.ref (L.A 30),.ref (L.A 31),.ref (L.A 32),.ref (L.A 33),.ref (L.A 34),.ref (L.A 35),.ref (L.A 36),.ref (L.A 37),.ref (L.A 38),.ref (L.A 39),.ref (L.A 40),.ref (L.A 41),.ref (L.A 42)])),((L.A 24),(zD 0 [])),((L.A 25),(zD 5 [zW w r0 (L.U 97) (.int R (L.U 37)),zW w q319 (L.U 98) (.int 0 (L.U 99)),zW w r34 (L.U 100) (.int 0 (L.U 101)),zW w r48 (L.U 102) (.none),zW w r49 (L.U 103) (.int 0 (L.U 104))])),((L.A 26),(zD 2 [zW w r0 (L.U 105) (.int R (L.U 37)),zW w r59 (L.U 106) (.ref (L.A 43))])),((L.A 36),(zL 0 [])),((L.A 43),(zL 0 []))]
noncomputable def pARV5 (w:World) (L:Lt) (R:Int) (A:Array UInt8) (Y:Nat→Nat):List Ent:=zS (eARV5 w L R A) [(2,((L.A 2),(zD 14 [zW w r10 (L.U 1) (.ref (L.A 4)),zW w r11 (L.U 2) (.ref (L.A 5)),zW w r12 (L.U 3) (.ref (L.A 6)),zW w r13 (L.U 4) (.str q221 (L.U 5)),zW w r14 (L.U 6) (.ref (L.A 7)),zW w r15 (L.U 7) (.ref (L.A 8)),zW w r16 (L.U 8) (.ref (L.A 9)),zW w r17 (L.U 9) (.ref (L.A 10)),zW w r18 (L.U 10) (.ref (L.A 11)),zW w r19 (L.U 11) (.ref (L.A 12)),zW w r20 (L.U 12) (.none),zW w r21 (L.U 13) (.int 0 (Y 0)),zW w r22 (L.U 15) (.int 0 (Y 1)),zW w r23 (L.U 17) (.bool true)]))),(11,((L.A 15),(zD 10 [zW w r0 (L.U 71) (.int R (L.U 37)),zW w r50 (L.U 72) (.int 16 (L.U 73)),zW w r1 (L.U 74) (.int 4 (L.U 75)),zW w q38 (L.U 76) (.int (((cR R A (-3) (1)):Nat):Int) (Y 2)),zW w r53 (L.U 78) (.ref (L.A 20)),zW w r54 (L.U 79) (.ref (L.A 21)),zW w r55 (L.U 80) (.int 13 (L.U 81)),zW w r56 (L.U 82) (.none),zW w r57 (L.U 83) (.bool false),zW w r58 (L.U 84) (.none)]))),(12,((L.A 16),(zD 4 [zW w r40 (L.U 85) (.int 5 (L.U 53)),zW w r41 (L.U 86) (.int 1 (Y 3)),zW w q457 (L.U 88) (.int 9 (Y 4)),zW w r42 (L.U 89) (.bool false)]))),(13,((L.A 17),(zD 6 [zW w q319 (L.U 90) (.int 16 1642),zW w r43 (L.U 91) (.ref (L.A 22)),zW w r44 (L.U 92) (.ref (L.A 23)),zW w r45 (L.U 93) (.ref (L.A 24)),zW w r46 (L.U 94) (.none),zW w r47 (L.U 95) (.int 1 (Y 5))]))),(15,((L.A 20),⟨.type "bytearray",none,.bytearray ((⟨[]⟩:Array UInt8)++A) 0,⟨[]⟩⟩)),(18,((L.A 24),(zD 1 [⟨3,.int 3 1728,.ref (Y 6+10)⟩]))),(19,((L.A 25),(zD 5 [zW w r0 (L.U 97) (.int R (L.U 37)),zW w q319 (L.U 98) (.int 30 (L.U 29)),zW w r34 (L.U 100) (.int 30 (L.U 29)),zW w r48 (L.U 102) (.int (R - 3) (L.U 23)),zW w r49 (L.U 103) (.int 21 (L.U 25))]))),(20,((L.A 26),(zD 2 [zW w r0 (L.U 105) (.int R (L.U 37)),zW w r59 (L.U 106) (.ref (Y 7+10))]))),(21,((L.A 36),(zL 1 [.int 3 1728])))]
noncomputable def nARV5 (w:World) (L:Lt) (R:Int) (A:Array UInt8) (Y:Nat→Nat):List Ent:=[((Y 8+10),(zL 0 [])),((Y 6+10),(zT 0 [.int 9 (Y 4),.int 1 (Y 5)])),((Y 7+10),(zL 2 []))]
noncomputable def cARV5 (L:Lt) (R:Int) (A:Array UInt8):Code:=(.call (.ref 1296) ⟨[.ref (L.A 0),.ref (L.A 1),.int 4 (L.U 0)],[]⟩)
noncomputable def ctARV5:Ct2 where
  np:=23
  aI:=[1,2,5,7,10,12,14,18,20,22,24,26,28,55,57,59,61,63,99,101,115,117,134,136,138,143,146,148,149,150,151,152,153,154,155,156,157,158,159,160,161,162,163,179]
  uI:=[3,9,11,13,15,16,17,19,21,23,25,27,29,30,31,32,33,34,36,37,38,39,40,41,42,43,44,45,46,47,48,49,50,51,52,53,65,66,67,68,69,70,71,72,73,74,75,76,77,78,79,80,81,82,83,84,86,87,88,90,92,93,94,95,96,97,98,100,102,103,104,106,108,109,110,111,112,113,114,116,118,119,120,121,122,124,126,127,128,129,131,133,135,137,139,140,141,166,168,169,170,171,172,173,174,176,178]
  iI:=[10]
  bI:=[1]
  code _ L:=cARV5 L (L.I 0) (L.B 0)
  ents w L:=eARV5 w L (L.I 0) (L.B 0)
  posts w L Y:=pARV5 w L (L.I 0) (L.B 0) Y
  news w L Y:=nARV5 w L (L.I 0) (L.B 0) Y
  nn:=3
  res w L Y:=(.ret (.ref (Y 8+10)))
  ds L:=[dom (L.I 0) (L.B 0)]
  sh:=shapeB [0,1,0,2]
noncomputable def yARV5 (sz tk:Nat) (ω:Nat→Nat):List Nat:=[ω 216172782113783807+77,tk+138,ω 360287970189639679,ω 216172782113783807+21,ω 216172782113783807+29,ω 216172782113783807+103,ω 72057594037927935+28,ω 504403158265495551,ω 72057594037927935+30]
noncomputable def dARV5 (R:Int) (A:Array UInt8):List Bool:=[true,true,true,true,true,true,!(R == 0),Int.fmod 0 R == ((0:Nat):Int),true,true,true,true,!((((A.size:Nat):Int) == 0)),true,true,decide (((A.size:Nat):Int) > 0),Nat.ble A.size 1000,true,true,true,true,true,true,true,true,true,true,dom R A,true,!((((A.size:Nat):Int) == 0)),true,true,Nat.ble A.size 1000,true,true,true,true,decide (((A.size:Nat):Int) > 0),true,true,Nat.ble A.size 1000,true,true,!(R == 0),Int.fmod 0 R == ((0:Nat):Int),true,!(R == 0),Int.fmod 0 R == ((0:Nat):Int),!(R == 0),Int.fmod 0 R == ((0:Nat):Int),true,!(R == 0),Int.fmod 0 R == ((0:Nat):Int),true,true,true,true,!(R == 0),Int.fmod ((R - 3) - (((cR R A (-3) (0)):Nat):Int)) R == ((0:Nat):Int),true,!((((A.size:Nat):Int) == 0)),!((((A.size:Nat):Int) == 0)),true,true,Nat.ble A.size 1000,true,!(R == 0),Int.fmod (13 - (((cR R A (-3) (0)):Nat):Int)) R == ((16:Nat):Int),!(decide ((2*(((cR R A (-16) (0)):Nat):Int)) < R)),mulOk 2 (((cR R A (-16) (0)):Nat):Int),decide ((((cR R A (-16) (0)):Nat):Int) > 0),!(R == 0),Int.fmod ((((cR R A (-3) (0)):Nat):Int) - 13) R == (((cR R A (-16) (0)):Nat):Int)]
theorem dARV5_all:∀k,k < 14→((dARV5 128 (bytesN (k+1))).all id && (dARV5 4294967296 (bytesN (k+1))).all id) = true:=by decide+kernel
theorem rARV5 (w:World) (L:Lt) (f:Fm) (p:Pos) (ω:Nat→Nat) (sz tk:Nat):
  RunIs (sim (VW w (icO1 w) (mkSt f 0 [0,1,0,2])) 5429 ω (hARV5 (L.I 0) (L.B 0)) (denQ (ctARV5.code w (up L))) (ctARV5.code w (up L)) p [] (sz+10) tk 23 (treeOf (ctARV5.ents w (up L))) [] [])
   (.ok (ctARV5.res w (up L) (rd (yARV5 sz tk ω)))) [0,1,2,3,4,5,6,7,8,9,10,11,12,13,14,15,16,17,18,19,20,21,22,102,100,71] (ctARV5.posts w (up L) (rd (yARV5 sz tk ω))++ctARV5.news w (up L) (rd (yARV5 sz tk ω)))
   (dARV5 (L.I 0) (L.B 0)):=⟨by kernel_rfl⟩
theorem okARV5 (w:World):Ct2Ok w ctARV5:=ct2_okc (own:=(icO1 w)) (ks:=[0,1,0,2]) rfl icO1_own (fun _ _=>by kernel_rfl) (fun _ _=>by kernel_rfl) (fun _=>by kernel_rfl) fun L hd=>
  ⟨5429,hARV5 (L.I 0) (L.B 0),[0,1,2,3,4,5,6,7,8,9,10,11,12,13,14,15,16,17,18,19,20,21,22,102,100,71],yARV5,fun _ _ _=>dARV5 (L.I 0) (L.B 0),rfl,fun _ _ _=>dom_all dARV5_all (hd _ (.head _)),fun f p ω sz tk=>castK (by kernel_rfl) (rARV5 w L f p ω sz tk)⟩
end
end Mine
namespace Mine
open PySem PySem.W
noncomputable section
noncomputable def hARV6 (R:Int) (A:Array UInt8):NL:=g7 (g134 (29::0::31::g70 (31::g70 (31::g42 (31::31::31::g9 (g186 (32::30::0::32::g192 (32::30::32::g70 (32::g42 (32::32::g9 (g185 (33::g31 (33::31::33::g180 (34::32::0::0::34::g40 (34::g40 (34::g116 (g110 (35::33::0::0::35::35::35::g9 (g178 (36::34::0::36::36::3::36::15::(cR R A (-16) (1))::0::35::33::35::g102 (35::4::35::g146 (34::g40 (34::g40 (34::g116 (g264 (37::37::3::37::15::(cR R A (16) (-1))::0::33::31::33::g115 (33::g19 (33::g67 (38::36::g7 (38::g149 (38::36::38::g484 (38::g376 (g109 (38::2::0::38::36::38::33::g40 (33::33::g32 (13::g10 (41::39::0::41::39::0::41::39::0::41::39::0::41::39::0::41::g90 (41::g90 (41::g115 (41::41::41::41::g467 (42::40::0::42::40::0::0::42::42::42::g486 (43::41::0::43::43::3::43::15::0::42::1::9::1::32::g29 (g367 (g107 (32::g29 (g368 (g19 (45::g107 (32::g29 (46::44::0::46::44::0::46::g19 (46::g109 (32::g42 (32::32::g114 (g216 (47::g31 (47::45::47::g192 (47::45::0::47::47::g43 (47::g225 (48::46::0::0::48::48::48::g468 (g37 (48::46::48::g83 (47::g43 (47::47::g267 (50::50::3::50::15::0::47::g27 (14::g9 (51::49::0::0::51::g43 (51::g43 (51::g43 (g244 (52::50::0::52::52::3::52::15::0::1::11::0::0::32::32::32::g9 (53::51::0::53::51::0::53::51::0::53::g31 (53::51::53::g192 (53::51::53::g212 (53::g19 (53::g43 (53::g9 (54::52::0::54::52::0::54::52::0::0::54::54::54::g9 (g427 (3::55::g37 (54::52::54::g100 (53::g19 (53::g43 (g122 (53::53::53::g9 (g190 (56::54::0::56::g31 (56::54::56::g67 (57::55::g7 (57::g149 (57::55::57::g29 (g318 (g19 (58::g107 (57::g29 (g219 (59::g19 (59::g109 (57::2::0::57::55::57::1::11::1::0::53::51::53::g27 (14::53::g19 (53::g19 (53::g114 (61::59::0::61::59::0::g455 (g43 (g189 (24::61::61::61::g9 (g215 (g215 (62::g189 (24::62::62::g9 (g156 (63::61::0::63::g101 (24::0::63::g101 (24::63::63::g101 (24::g9 (64::g84 (62::0::64::64::3::64::15::(cR R A (0) (1))::0::63::61::63::g90 (63::63::g101 (24::6::1::9::1::62::62::g213 (62::62::g213 (62::62::g213 (0::0::62::g101 (24::62::0::65::65::1::0::65::66::67::g494 (67::65::67::67::g494 (g100 (67::g494 (69::67::65::67::62::g213 (53::g246 (70::68::0::70::g43 (g101 (24::0::g90 (53::0::32::30::32::g42 (32::32::32::g9 (71::69::0::71::69::0::71::69::0::71::g31 (71::69::0::71::g76 (72::70::0::72::g7 (73::73::35::71::71::g446 (71::g67 (75::73::g7 (75::g149 (75::73::75::g29 (76::74::0::76::74::0::76::g19 (76::g107 (75::g29 (77::75::0::77::75::0::77::g19 (77::g109 (75::2::0::75::73::75::g90 (71::g40 (0::71::69::71::g45 (15::71::g19 (71::g19 (71::g29 (78::76::0::78::76::0::78::g19 (78::7::1::14::1::0::44::8::13::17::18::23::27::28::79::79::79::1::0::79::81::81::0::81::81::81::79::81::79::81::0::81::81::81::79::81::79::81::0::81::81::81::79::81::79::83::0::71::69::0::71::69::0::0::71::g19 (0::0::g100 (71::1::13::1::71::g251 (84::82::0::0::84::g30 (71::g40 (71::0::71::71::g9 (g448 (g251 (86::84::0::0::86::g30 (85::g42 (85::85::g9 (87::85::0::87::85::0::0::87::g175 (0::0::88::88::1::0::88::89::0::89::0::89::89::89::88::89::87::0::87::85::87::g78 (17::87::g9 (90::88::0::90::88::0::90::90::g377 (89::0::89::89::89::88::89::87::0::87::85::87::g78 (17::87::g9 (91::89::0::91::89::0::91::91::g377 (89::0::89::89::89::88::89::87::93::87::g78 (17::0::87::87::g32 (13::0::2::g9 (94::92::0::g495 (g378 (94::g9 (95::93::0::95::93::0::95::95::g377 (94::g55 (2::94::g58 (17::15::17::94::94::g55 (94::g55 (94::23::23::0::23::23::1::0::23::23::21::23::94::g378 (94::g9 (97::95::0::97::95::0::97::g55 (97::g55 (97::97::g496 (27::27::27::27::94::18::25::32::0::32::32::g9 (98::96::0::98::96::0::0::98::98::g9 (99::97::0::99::97::0::0::99::g9 (100::98::0::100::g13 (g43 (0::0::99::97::99::g130 (102::102::35::100::0::99::g76 (103::101::0::103::g9 (104::104::35::102::0::99::99::g9 (105::103::0::105::103::0::105::g229 (106::106::35::104::99::0::98::96::98::g164 (98::g9 (g292 (107::g50 (16::0::1::12::1::98::101::101::101::101::0::98::g9 (g159 (108::g44 (4::0::108::g497 (g260 (g260 (g260 (109::107::0::0::109::107::109::g13 (109::0::8::0::109::107::109::g13 (g24 (g37 (109::107::109::g164 (g6 (0::110::108::0::110::g30 (110::g30 (109::g279 (111::109::0::111::109::0::111::111::g377 (23::23::23::111::g55 (23::23::23::23::111::0::23::23::1::0::23::23::23::23::23::21::23::28::28::28::1::0::28::112::112::0::112::112::112::28::g379 (112::28::g379 (112::28::112::110::114::0::111::109::g1 (g55 (111::g55 (111::111::g496 (115::115::1::0::115::116::0::g498 (g1 (111::22::22::0::22::22::g498 (g1 (111::26::26::0::26::26::111::26::26::26::26::111::0::26::26::26::24::26::g498 (118::109::0::g173 (109::107::109::g250 (g256 (119::g130 (119::g13 (g180 (120::118::0::120::g45 (15::120::g116 (g181 (121::g40 (120::g180 (122::120::0::0::122::g40 (122::g40 (122::g116 (123::121::0::123::121::0::123::121::0::0::123::123::123::g9 (124::122::0::g499 (124::3::124::15::(cR R A (-15) (1))::0::123::121::123::g102 (123::4::123::g146 (122::g40 (122::g40 (122::g116 (125::123::0::125::123::0::125::123::0::125::125::3::125::15::(cR R A (15) (-1))::0::0::126::126::1::0::126::127::128::g500 (128::126::128::128::g500 (1::9::0::128::g500 (130::128::126::128::0::g260 (109::g302 (109::g303 (109::109::109::109::109::109::g15 (132::0::132::g8 (0::g177 (g177 (g177 (g177 (g177 (133::133::132::g6 (132::0::132::g275 (g275 (g275 (g275 (g275 (g275 (g275 (g275 (0::132::g7 (132::0::0::131::129::131::18::99::98::60::101::60::0::60::101::60::101::[]))))))))))))))))))))))))))))))))))))))))))))))))))))))))))))))))))))))))))))))))))))))))))))))))))))))))))))))))))))))))))))))))))))))))))))))))))))))))))))))))))))))))))))))))))))))))))))))))))))))))))))))))))))))))))))))))))))))))))))))))))))))))))))))))))))))))))))))))))
noncomputable def eARV6 (w:World) (L:Lt) (R:Int) (A:Array UInt8):List Ent:=[((L.A 0),(zI 1173 (L.A 2))),((L.A 1),(zI 979 (L.A 3))),((L.A 2),(zD 14 [zW w r10 (L.U 1) (.ref (L.A 4)),zW w r11 (L.U 2) (.ref (L.A 5)),zW w r12 (L.U 3) (.ref (L.A 6)),zW w r13 (L.U 4) (.str q221 (L.U 5)),zW w r14 (L.U 6) (.ref (L.A 7)),zW w r15 (L.U 7) (.ref (L.A 8)),zW w r16 (L.U 8) (.ref (L.A 9)),zW w r17 (L.U 9) (.ref (L.A 10)),zW w r18 (L.U 10) (.ref (L.A 11)),zW w r19 (L.U 11) (.ref (L.A 12)),zW w r20 (L.U 12) (.none),zW w r21 (L.U 13) (.int 0 (L.U 14)),zW w r22 (L.U 15) (.int 0 (L.U 16)),zW w r23 (L.U 17) (.bool true)])),((L.A 3),(zD 9 [zW w r60 (L.U 18) (.int 90 (L.U 19)),zW w r61 (L.U 20) (.int 80 (L.U 21)),zW w r62 (L.U 22) (.int (((cR R A (-3) (1)):Nat):Int) (L.U 23)),zW w r63 (L.U 24) (.int 21 (L.U 25)),zW w r64 (L.U 26) (.int 17 (L.U 27)),zW w q332 (L.U 28) (.int 30 (L.U 29)),zW w q351 (L.U 30) (.int 0 (L.U 31)),zW w r65 (L.U 32) (.bytes ⟨[]⟩ (L.U 33)),zW w r66 (L.U 34) (.bytes ⟨[]⟩ (L.U 35))])),((L.A 4),(zI 1130 (L.A 13))),((L.A 5),(zT 0 [.int 1 (L.U 36),.int 80 (L.U 37)])),((L.A 6),(zT 0 [.int 2 (L.U 38),.int 90 (L.U 39)])),((L.A 7),(zI 915 (L.A 14))),((L.A 8),(zI 289 (L.A 15))),((L.A 11),(zI 346 (L.A 16))),((L.A 12),(zI 1109 (L.A 17))),((L.A 13),(zD 10 [zW w r0 (L.U 40) (.int R (L.U 41)),zW w r1 (L.U 42) (.int 4 (L.U 43)),zW w r2 (L.U 44) (.int 40 (L.U 45)),zW w r3 (L.U 46) (.int 16 (L.U 47)),zW w r4 (L.U 48) (.int 6 (L.U 49)),zW w r5 (L.U 50) (.int 4 (L.U 51)),zW w r6 (L.U 52) (.int 24 (L.U 53)),zW w r7 (L.U 54) (.int 3 (L.U 55)),zW w r8 (L.U 56) (.int 5 (L.U 57)),zW w r9 (L.U 58) (.int 9 (L.U 59))])),((L.A 14),(zD 11 [zW w r24 (L.U 60) (.int 20 (L.U 61)),zW w r0 (L.U 62) (.int R (L.U 41)),zW w r1 (L.U 63) (.int 4 (L.U 43)),zW w r25 (L.U 64) (.int 21 (L.U 65)),zW w q38 (L.U 66) (.int 21 (L.U 67)),zW w r26 (L.U 68) (.int 21 (L.U 69)),zW w r27 (L.U 70) (.ref (L.A 18)),zW w r28 (L.U 71) (.ref (L.A 19)),zW w r29 (L.U 72) (.bool false),zW w r30 (L.U 73) (.bool false),zW w r31 (L.U 74) (.bool false)])),((L.A 15),(zD 10 [zW w r0 (L.U 75) (.int R (L.U 41)),zW w r50 (L.U 76) (.int 16 (L.U 77)),zW w r1 (L.U 78) (.int 4 (L.U 79)),zW w q38 (L.U 80) (.int (((cR R A (-3) (1)):Nat):Int) (L.U 81)),zW w r53 (L.U 82) (.ref (L.A 20)),zW w r54 (L.U 83) (.ref (L.A 21)),zW w r55 (L.U 84) (.int 13 (L.U 85)),zW w r56 (L.U 86) (.none),zW w r57 (L.U 87) (.bool false),zW w r58 (L.U 88) (.none)])),((L.A 16),(zD 4 [zW w r40 (L.U 89) (.int 5 (L.U 57)),zW w r41 (L.U 90) (.int 1 (L.U 91)),zW w q457 (L.U 92) (.int 9 (L.U 93)),zW w r42 (L.U 94) (.bool false)])),((L.A 17),(zD 6 [zW w q319 (L.U 95) (.int 16 1642),zW w r43 (L.U 96) (.ref (L.A 22)),zW w r44 (L.U 97) (.ref (L.A 23)),zW w r45 (L.U 98) (.ref (L.A 24)),zW w r46 (L.U 99) (.none),zW w r47 (L.U 100) (.int 1 (L.U 101))])),((L.A 18),(zI 724 (L.A 25))),((L.A 20),⟨.type "bytearray",none,.bytearray ((⟨[]⟩:Array UInt8)++A) 0,⟨[]⟩⟩),((L.A 21),(zI 155 (L.A 26))),((L.A 22),(zL 16 [.ref (L.A 27),.ref (L.A 28),.ref (L.A 29),.ref (L.A 30),.ref (L.A 31),.ref (L.A 32),.ref (L.A 33),.ref (L.A 34),.ref (L.A 35),.ref (L.A 36),.ref (L.A 37),.ref (L.A 38),.ref (L.A 39),.ref (L.A 40),.ref (L.A 41),.ref (L.A 42)])),((L.A 23),(zL 0 [])),((L.A 24),(zD 1 [⟨3,.int 3 1728,.ref (L.A 43)⟩])),((L.A 25),(zD 5 [zW w r0 (L.U 102) (.int R (L.U 41)),zW w q319 (L.U 103) (.int 30 (L.U 104)),zW w r34 (L.U 105) (.int 30 (L.U 104)),zW w r48 (L.U 106) (.int (R - 3) (L.U 107)),zW w r49 (L.U 108) (.int 21 (L.U 109))])),((L.A 26),(zD 2 [zW w r0 (L.U 110) (.int R (L.U 41)),zW w r59 (L.U 111) (.ref (L.A 44))])),((L.A 36),(zL 1 [.int 3 1728])),((L.A 41),(zL 0 [])),((L.A 43),(zT 0 [.int 9 (L.U 93),.int 1 (L.U 101)])),((L.A 44),(zL 2 [])),((L.A 45),(zD 9 [zW w r60 (L.U 112) (.int 90 (L.U 113)),zW w r61 (L.U 114) (.int 80 (L.U 115)),zW w r62 (L.U 116) (.int (R - 3) (L.U 107)),zW w r63 (L.U 117) (.int 21 (L.U 109)),zW w r64 (L.U 118) (.int 16 (L.U 119)),zW w q332 (L.U 120) (.int 30 (L.U 104)),zW w q351 (L.U 121) (.int 0 (L.U 122)),zW w r65 (L.U 123) (.bytes ⟨[]⟩ (L.U 124)),zW w r66 (L.U 125) (.bytes A (L.U 126))]))]
noncomputable def pARV6 (w:World) (L:Lt) (R:Int) (A:Array UInt8) (Y:Nat→Nat):List Ent:=zS (eARV6 w L R A) [(2,((L.A 2),(zD 14 [zW w r10 (L.U 1) (.ref (L.A 4)),zW w r11 (L.U 2) (.ref (L.A 5)),zW w r12 (L.U 3) (.ref (L.A 6)),zW w r13 (L.U 4) (.str q229 1584),zW w r14 (L.U 6) (.ref (L.A 7)),zW w r15 (L.U 7) (.ref (L.A 8)),zW w r16 (L.U 8) (.ref (L.A 9)),zW w r17 (L.U 9) (.ref (L.A 10)),zW w r18 (L.U 10) (.ref (L.A 11)),zW w r19 (L.U 11) (.ref (L.A 12)),zW w r20 (L.U 12) (.none),zW w r21 (L.U 13) (.int 0 (L.U 14)),zW w r22 (L.U 15) (.int 0 (Y 0)),zW w r23 (L.U 17) (.bool true)]))),(13,((L.A 15),(zD 10 [zW w r0 (L.U 75) (.int R (L.U 41)),zW w r50 (L.U 76) (.int 16 (L.U 77)),zW w r1 (L.U 78) (.int 4 (L.U 79)),zW w q38 (L.U 80) (.int (((cR R A (-2) (1)):Nat):Int) (Y 1)),zW w r53 (L.U 82) (.ref (L.A 20)),zW w r54 (L.U 83) (.ref (L.A 21)),zW w r55 (L.U 84) (.int 13 (L.U 85)),zW w r56 (L.U 86) (.int (((cR R A (-3) (1)):Nat):Int) (Y 2)),zW w r57 (L.U 87) (.bool true),zW w r58 (L.U 88) (.none)]))),(14,((L.A 16),(zD 4 [zW w r40 (L.U 89) (.int 5 (L.U 57)),zW w r41 (L.U 90) (.int 0 (Y 3)),zW w q457 (L.U 92) (.none),zW w r42 (L.U 94) (.bool false)]))),(15,((L.A 17),(zD 6 [zW w q319 (L.U 95) (.int 16 1642),zW w r43 (L.U 96) (.ref (L.A 22)),zW w r44 (L.U 97) (.ref (L.A 23)),zW w r45 (L.U 98) (.ref (L.A 24)),zW w r46 (L.U 99) (.none),zW w r47 (L.U 100) (.int 2 (Y 4))]))),(17,((L.A 20),⟨.type "bytearray",none,.bytearray (((⟨[]⟩:Array UInt8)++A)++(⟨[]⟩:Array UInt8)) 0,⟨[]⟩⟩)),(21,((L.A 24),(zD 3 [⟨4,.int 4 1730,.ref (Y 5+10)⟩]))),(22,((L.A 25),(zD 5 [zW w r0 (L.U 102) (.int R (L.U 41)),zW w q319 (L.U 103) (.int 30 (L.U 29)),zW w r34 (L.U 105) (.int 30 (L.U 104)),zW w r48 (L.U 106) (.int (((cR R A (-3) (1)):Nat):Int) (L.U 23)),zW w r49 (L.U 108) (.int 21 (L.U 25))]))),(23,((L.A 26),(zD 2 [zW w r0 (L.U 110) (.int R (L.U 41)),zW w r59 (L.U 111) (.ref (Y 6+10))]))),(24,((L.A 36),(zL 2 []))),(25,((L.A 41),(zL 1 [.int 4 1730])))]
noncomputable def nARV6 (w:World) (L:Lt) (R:Int) (A:Array UInt8) (Y:Nat→Nat):List Ent:=[((Y 7+10),(zL 0 [.ref (Y 8+10)])),((Y 8+10),(zI 979 (Y 9+10))),((Y 5+10),(zT 0 [.int 14 (Y 10),.int 2 (Y 4)])),((Y 6+10),(zL 0 [])),((Y 9+10),(zD 9 [zW w r60 (Y 11) (.int 80 (L.U 37)),zW w r61 (Y 12) (.int 90 (L.U 39)),zW w r62 (Y 13) (.int 21 (L.U 67)),zW w r63 (Y 14) (.int (((cR R A (-2) (1)):Nat):Int) (Y 1)),zW w r64 (Y 15) (.int 16 (Y 16)),zW w q332 (Y 17) (.int (((cR R A (15) (-1)):Nat):Int) (Y 18)),zW w q351 (Y 19) (.int 0 (Y 20)),zW w r65 (Y 21) (.bytes ⟨[]⟩ (Y 22)),zW w r66 (Y 23) (.bytes ⟨[]⟩ 1819)]))]
noncomputable def cARV6 (L:Lt) (R:Int) (A:Array UInt8):Code:=(.call (.ref 1296) ⟨[.ref (L.A 0),.ref (L.A 1),.int 5 (L.U 0)],[]⟩)
noncomputable def ctARV6:Ct2 where
  np:=29
  aI:=[1,2,5,7,10,12,14,18,20,22,24,26,28,55,63,65,67,69,105,107,121,123,141,143,145,150,153,155,156,157,158,159,160,161,162,163,164,165,166,167,168,169,170,174,190,198]
  uI:=[3,9,11,13,15,16,17,19,21,23,25,27,29,30,31,32,33,34,36,37,38,39,40,41,42,43,44,45,46,47,48,49,50,51,52,53,57,58,60,61,71,72,73,74,75,76,77,78,79,80,81,82,83,84,85,86,87,88,89,90,92,93,94,96,98,99,100,101,102,103,104,106,108,109,110,112,114,115,116,117,118,119,120,122,124,125,126,127,128,130,132,133,134,135,136,138,140,142,144,146,147,148,176,178,179,180,182,183,184,185,187,189,199,200,201,202,203,205,207,208,209,211,212,213,214,215,216]
  iI:=[14]
  bI:=[3]
  code _ L:=cARV6 L (L.I 0) (L.B 0)
  ents w L:=eARV6 w L (L.I 0) (L.B 0)
  posts w L Y:=pARV6 w L (L.I 0) (L.B 0) Y
  news w L Y:=nARV6 w L (L.I 0) (L.B 0) Y
  nn:=5
  res w L Y:=(.ret (.ref (Y 7+10)))
  ds L:=[dom (L.I 0) (L.B 0)]
  sh:=shapeB [0,1,0,2]
noncomputable def yARV6 (sz tk:Nat) (ω:Nat→Nat):List Nat:=[tk+141,ω 11529215046068469759,ω 16140901064495857663,ω 6917529027641081855+96,ω 6917529027641081855+48,ω 2305843009213693951+15,ω 20752587082923245567,ω 2305843009213693951+53,ω 2305843009213693951+51,ω 2305843009213693951+50,ω 6917529027641081855+38,ω 6917529027641081855+169,ω 6917529027641081855+171,ω 6917529027641081855+173,ω 6917529027641081855+175,ω 6917529027641081855+177,ω 6917529027641081855+89,ω 6917529027641081855+179,ω 6917529027641081855+151,ω 6917529027641081855+181,ω 6917529027641081855+157,ω 6917529027641081855+183,ω 6917529027641081855+118,ω 6917529027641081855+185]
noncomputable def dARV6 (R:Int) (A:Array UInt8):List Bool:=[true,!(decide (65535 < (((cR R A (15) (-1)):Nat):Int))),!(R == 0),Int.fmod (13 - (((cR R A (-2) (1)):Nat):Int)) R == (((cR R A (15) (-1)):Nat):Int),!(decide ((2*(((cR R A (-15) (1)):Nat):Int)) < R)),mulOk 2 (((cR R A (-15) (1)):Nat):Int),decide ((((cR R A (-15) (1)):Nat):Int) > 0),!(R == 0),Int.fmod ((((cR R A (-2) (1)):Nat):Int) - 13) R == (((cR R A (-15) (1)):Nat):Int),true,true,true,true,true,true,true,true,true,true,true,true,true,true,true,true,true,true,true,true,true,dom R A,true,true,true,true,true,true,true,true,decide ((((cR R A (0) (1)):Nat):Int) < (Int.fdiv R 2)),divOk R 2,!(((((cR R A (0) (1)):Nat):Int) == 0)),!(R == 0),Int.fmod ((((cR R A (-3) (1)):Nat):Int) - (R - 3)) R == (((cR R A (0) (1)):Nat):Int),true,true,true,true,true,!(R == 0),Int.fmod 0 R == ((0:Nat):Int),true,!(R == 0),Int.fmod 0 R == ((0:Nat):Int),!(R == 0),Int.fmod 0 R == ((0:Nat):Int),true,!(R == 0),Int.fmod 0 R == ((0:Nat):Int),true,true,true,decide (0 < (((cR R A (16) (-1)):Nat):Int)),!(R == 0),Int.fmod ((((cR R A (-3) (1)):Nat):Int) - (((cR R A (-3) (1)):Nat):Int)) R == ((0:Nat):Int),!(((((cR R A (16) (-1)):Nat):Int) == 0)),true,true,true,true,!(((((cR R A (16) (-1)):Nat):Int) == 0)),!(R == 0),Int.fmod (13 - (((cR R A (-3) (1)):Nat):Int)) R == (((cR R A (16) (-1)):Nat):Int),!(decide ((2*(((cR R A (-16) (1)):Nat):Int)) < R)),mulOk 2 (((cR R A (-16) (1)):Nat):Int),decide ((((cR R A (-16) (1)):Nat):Int) > 0),!(R == 0),Int.fmod ((((cR R A (-3) (1)):Nat):Int) - 13) R == (((cR R A (-16) (1)):Nat):Int)]
theorem dARV6_all:∀k,k < 14→((dARV6 128 (bytesN (k+1))).all id && (dARV6 4294967296 (bytesN (k+1))).all id) = true:=by decide+kernel
theorem rARV6 (w:World) (L:Lt) (f:Fm) (p:Pos) (ω:Nat→Nat) (sz tk:Nat):
  RunIs (sim (VW w (icO1 w) (mkSt f 0 [0,1,0,2])) 6805 ω (hARV6 (L.I 0) (L.B 0)) (denQ (ctARV6.code w (up L))) (ctARV6.code w (up L)) p [] (sz+10) tk 29 (treeOf (ctARV6.ents w (up L))) [] [])
   (.ok (ctARV6.res w (up L) (rd (yARV6 sz tk ω)))) [0,1,2,3,4,5,6,7,8,9,10,11,12,13,14,15,16,17,18,19,20,21,22,23,24,25,26,27,28,132,130,94,78,129] (ctARV6.posts w (up L) (rd (yARV6 sz tk ω))++ctARV6.news w (up L) (rd (yARV6 sz tk ω)))
   (dARV6 (L.I 0) (L.B 0)):=⟨by kernel_rfl⟩
theorem okARV6 (w:World):Ct2Ok w ctARV6:=ct2_okc (own:=(icO1 w)) (ks:=[0,1,0,2]) rfl icO1_own (fun _ _=>by kernel_rfl) (fun _ _=>by kernel_rfl) (fun _=>by kernel_rfl) fun L hd=>
  ⟨6805,hARV6 (L.I 0) (L.B 0),[0,1,2,3,4,5,6,7,8,9,10,11,12,13,14,15,16,17,18,19,20,21,22,23,24,25,26,27,28,132,130,94,78,129],yARV6,fun _ _ _=>dARV6 (L.I 0) (L.B 0),rfl,fun _ _ _=>dom_all dARV6_all (hd _ (.head _)),fun f p ω sz tk=>castK (by kernel_rfl) (rARV6 w L f p ω sz tk)⟩
end
end Mine
namespace Mine
open PySem PySem.W
noncomputable section
noncomputable def hARV7 (R:Int) (A:Array UInt8):NL:=g7 (g359 (g70 (26::g70 (26::g42 (26::26::26::g9 (g184 (27::25::0::27::g192 (g238 (g70 (27::g42 (27::27::g9 (g145 (g31 (28::26::28::g180 (29::27::0::0::29::g40 (29::g40 (29::g116 (g171 (30::28::0::0::g431 (31::3::31::15::(cR R A (-16) (0))::0::30::28::30::g102 (30::4::30::1::9::0::0::29::g40 (29::g40 (29::g116 (g186 (32::30::0::32::32::3::32::15::16::0::28::26::28::g115 (28::g19 (28::g67 (33::31::g7 (33::g149 (33::31::33::g29 (g211 (g19 (34::g107 (33::g29 (g110 (35::g19 (35::g109 (33::2::0::33::31::33::28::g40 (28::28::g32 (13::g10 (g178 (g178 (36::34::0::36::g90 (36::g90 (36::g115 (36::36::36::36::g9 (g264 (37::35::0::0::37::37::37::g9 (g432 (0::38::38::3::38::15::(cR R A (0) (1))::37::1::9::1::27::g484 (27::g376 (g107 (27::g29 (g485 (g19 (41::g109 (27::g42 (27::27::g114 (42::40::0::42::40::0::42::g31 (42::40::42::g192 (42::40::0::42::42::g43 (42::g486 (43::41::0::0::43::43::43::g9 (g208 (44::42::0::44::44::3::44::g37 (43::41::43::g83 (42::g43 (42::42::g452 (45::45::3::45::15::0::42::g27 (14::g9 (46::44::0::0::46::g43 (46::g43 (46::g43 (g439 (g243 (27::27::27::g225 (48::46::0::48::g31 (48::46::48::g192 (48::46::48::g212 (48::g19 (48::g43 (48::g9 (49::47::0::49::47::0::49::47::0::0::49::49::49::g267 (50::50::3::50::g37 (49::47::49::g100 (48::g19 (48::g43 (g122 (48::48::48::g9 (g440 (g67 (52::50::g7 (52::g149 (52::50::52::g29 (53::51::0::53::51::0::53::g19 (53::g107 (52::g29 (54::52::0::54::52::0::54::g19 (54::g109 (52::2::0::52::50::52::1::11::1::0::48::46::48::g27 (14::48::g19 (48::g19 (48::g114 (g190 (g190 (56::g43 (g189 (22::56::56::56::g454 (g316 (g189 (22::57::57::g9 (g318 (56::0::58::g101 (22::g501 (g501 (g501 (0::0::57::g101 (22::57::0::59::59::1::0::59::60::61::g133 (61::59::61::61::g133 (g102 (61::59::61::61::g133 (63::61::59::61::57::g108 (22::20::22::48::g246 (64::62::0::64::g43 (g101 (22::0::g90 (48::0::g238 (g42 (27::27::27::g9 (g131 (63::0::65::g31 (65::63::0::65::g76 (66::64::0::66::g7 (67::67::35::65::65::g29 (68::66::0::68::66::0::68::g19 (68::g107 (65::g67 (69::67::g7 (69::g149 (69::67::69::g478 (g107 (69::g370 (g109 (69::2::0::69::67::69::g90 (65::g40 (0::65::63::65::g45 (15::65::g19 (65::g19 (65::g29 (72::70::0::72::70::0::72::g19 (72::7::1::14::1::0::45::8::13::17::18::21::22::23::73::73::73::1::0::73::75::75::0::75::75::75::73::75::73::75::0::75::75::75::73::75::73::75::0::75::75::75::73::75::73::77::0::65::63::0::65::63::0::0::65::g19 (0::0::g100 (65::1::13::1::65::g251 (78::76::0::0::78::g30 (65::g40 (27::0::27::27::g9 (79::77::0::79::77::0::0::79::79::g9 (80::78::0::80::78::0::0::80::g9 (81::79::0::81::g13 (g43 (0::0::80::78::80::g130 (83::83::35::81::0::80::g76 (84::82::0::84::g9 (85::85::35::83::0::80::80::g9 (86::84::0::86::84::0::86::g229 (87::87::35::85::86::g493 (88::86::0::0::88::g43 (88::g43 (88::g43 (g9 (89::87::0::89::87::0::89::87::0::89::89::3::89::g245 (86::g279 (90::88::0::90::88::0::90::90::g502 (21::0::86::g76 (91::89::0::91::g9 (92::92::35::90::86::g279 (93::91::0::93::91::0::93::93::g502 (21::86::g175 (80::0::79::77::79::g164 (79::g9 (g495 (g50 (16::0::1::12::1::79::82::82::82::82::0::79::g9 (95::93::0::95::g44 (4::0::95::g497 (96::94::0::96::94::0::96::94::0::96::94::0::0::96::94::96::g13 (96::0::8::0::96::94::96::g13 (g24 (g37 (96::94::96::g251 (97::95::0::97::g30 (97::g30 (96::g279 (98::96::0::98::96::0::98::98::g502 (21::96::0::g173 (96::94::96::g250 (99::97::0::99::g130 (99::g13 (g180 (100::98::0::100::g45 (15::100::g116 (g337 (g40 (0::101::g40 (101::g180 (102::100::0::0::102::g40 (102::g24 (g37 (102::g40 (0::19::0::19::19::3::102::g116 (103::101::0::g345 (2::103::15::13::101::g116 (104::102::0::104::102::0::104::102::0::0::104::104::104::g9 (105::103::0::105::103::0::105::103::0::105::105::3::105::g37 (g187 (g100 (100::g180 (106::104::0::0::106::g40 (106::g40 (106::g116 (g292 (107::105::0::0::107::107::107::g9 (g159 (g159 (g159 (108::108::3::108::15::(cR R A (-16) (0))::0::107::105::107::g102 (107::4::107::g146 (106::g40 (106::g40 (106::g116 (g260 (g260 (g260 (109::109::3::109::15::16::0::0::110::110::1::0::110::111::112::111::g503 (112::110::112::112::111::g503 (1::9::0::112::111::g503 (114::112::110::112::0::96::94::0::96::g302 (96::g303 (96::96::96::96::96::96::g15 (116::0::116::g8 (0::g261 (g261 (g261 (g261 (g261 (117::117::116::g6 (116::g276 (g276 (g276 (g276 (g276 (g276 (g276 (g276 (0::116::0::116::g7 (116::0::0::115::113::115::18::80::79::55::82::55::0::55::82::55::82::[]))))))))))))))))))))))))))))))))))))))))))))))))))))))))))))))))))))))))))))))))))))))))))))))))))))))))))))))))))))))))))))))))))))))))))))))))))))))))))))))))))))))))))))))))))))))))))))))))))))))))))))))))))))))))))))))))))))))))))))))))))))))))))))))))
noncomputable def eARV7 (w:World) (L:Lt) (R:Int) (A:Array UInt8):List Ent:=[((L.A 0),(zI 1173 (L.A 2))),((L.A 1),(zI 979 (L.A 3))),((L.A 2),(zD 14 [zW w r10 (L.U 1) (.ref (L.A 4)),zW w r11 (L.U 2) (.ref (L.A 5)),zW w r12 (L.U 3) (.ref (L.A 6)),zW w r13 (L.U 4) (.str q221 (L.U 5)),zW w r14 (L.U 6) (.ref (L.A 7)),zW w r15 (L.U 7) (.ref (L.A 8)),zW w r16 (L.U 8) (.ref (L.A 9)),zW w r17 (L.U 9) (.ref (L.A 10)),zW w r18 (L.U 10) (.ref (L.A 11)),zW w r19 (L.U 11) (.ref (L.A 12)),zW w r20 (L.U 12) (.none),zW w r21 (L.U 13) (.int 0 (L.U 14)),zW w r22 (L.U 15) (.int 0 (L.U 16)),zW w r23 (L.U 17) (.bool true)])),((L.A 3),(zD 9 [zW w r60 (L.U 18) (.int 90 (L.U 19)),zW w r61 (L.U 20) (.int 80 (L.U 21)),zW w r62 (L.U 22) (.int (((cR R A (-3) (1)):Nat):Int) (L.U 23)),zW w r63 (L.U 24) (.int 21 (L.U 25)),zW w r64 (L.U 26) (.int 17 (L.U 27)),zW w q332 (L.U 28) (.int 30 (L.U 29)),zW w q351 (L.U 30) (.int 0 (L.U 31)),zW w r65 (L.U 32) (.bytes ⟨[]⟩ (L.U 33)),zW w r66 (L.U 34) (.bytes ⟨[]⟩ (L.U 35))])),((L.A 4),(zI 1130 (L.A 13))),((L.A 5),(zT 0 [.int 1 (L.U 36),.int 80 (L.U 37)])),((L.A 6),(zT 0 [.int 2 (L.U 38),.int 90 (L.U 39)])),((L.A 7),(zI 915 (L.A 14))),((L.A 8),(zI 289 (L.A 15))),((L.A 11),(zI 346 (L.A 16))),((L.A 12),(zI 1109 (L.A 17))),((L.A 13),(zD 10 [zW w r0 (L.U 40) (.int R (L.U 41)),zW w r1 (L.U 42) (.int 4 (L.U 43)),zW w r2 (L.U 44) (.int 40 (L.U 45)),zW w r3 (L.U 46) (.int 16 (L.U 47)),zW w r4 (L.U 48) (.int 6 (L.U 49)),zW w r5 (L.U 50) (.int 4 (L.U 51)),zW w r6 (L.U 52) (.int 24 (L.U 53)),zW w r7 (L.U 54) (.int 3 (L.U 55)),zW w r8 (L.U 56) (.int 5 (L.U 57)),zW w r9 (L.U 58) (.int 9 (L.U 59))])),((L.A 14),(zD 11 [zW w r24 (L.U 60) (.int 20 (L.U 61)),zW w r0 (L.U 62) (.int R (L.U 41)),zW w r1 (L.U 63) (.int 4 (L.U 43)),zW w r25 (L.U 64) (.int 21 (L.U 65)),zW w q38 (L.U 66) (.int 21 (L.U 67)),zW w r26 (L.U 68) (.int 21 (L.U 69)),zW w r27 (L.U 70) (.ref (L.A 18)),zW w r28 (L.U 71) (.ref (L.A 19)),zW w r29 (L.U 72) (.bool false),zW w r30 (L.U 73) (.bool false),zW w r31 (L.U 74) (.bool false)])),((L.A 15),(zD 10 [zW w r0 (L.U 75) (.int R (L.U 41)),zW w r50 (L.U 76) (.int 16 (L.U 77)),zW w r1 (L.U 78) (.int 4 (L.U 79)),zW w q38 (L.U 80) (.int (((cR R A (-3) (0)):Nat):Int) (L.U 81)),zW w r53 (L.U 82) (.ref (L.A 20)),zW w r54 (L.U 83) (.ref (L.A 21)),zW w r55 (L.U 84) (.int 13 (L.U 85)),zW w r56 (L.U 86) (.none),zW w r57 (L.U 87) (.bool false),zW w r58 (L.U 88) (.none)])),((L.A 16),(zD 4 [zW w r40 (L.U 89) (.int 5 (L.U 57)),zW w r41 (L.U 90) (.int 0 (L.U 91)),zW w q457 (L.U 92) (.none),zW w r42 (L.U 93) (.bool false)])),((L.A 17),(zD 6 [zW w q319 (L.U 94) (.int 16 1642),zW w r43 (L.U 95) (.ref (L.A 22)),zW w r44 (L.U 96) (.ref (L.A 23)),zW w r45 (L.U 97) (.ref (L.A 24)),zW w r46 (L.U 98) (.none),zW w r47 (L.U 99) (.int 0 (L.U 100))])),((L.A 18),(zI 724 (L.A 25))),((L.A 20),⟨.type "bytearray",none,.bytearray ⟨[]⟩ 0,⟨[]⟩⟩),((L.A 21),(zI 155 (L.A 26))),((L.A 24),(zD 0 [])),((L.A 25),(zD 5 [zW w r0 (L.U 101) (.int R (L.U 41)),zW w q319 (L.U 102) (.int 0 (L.U 103)),zW w r34 (L.U 104) (.int 0 (L.U 105)),zW w r48 (L.U 106) (.none),zW w r49 (L.U 107) (.int 0 (L.U 108))])),((L.A 26),(zD 2 [zW w r0 (L.U 109) (.int R (L.U 41)),zW w r59 (L.U 110) (.ref (L.A 27))])),((L.A 27),(zL 0 [])),((L.A 28),(zD 9 [zW w r60 (L.U 111) (.int 90 (L.U 112)),zW w r61 (L.U 113) (.int 80 (L.U 114)),zW w r62 (L.U 115) (.int (R - 3) (L.U 116)),zW w r63 (L.U 117) (.int 21 (L.U 118)),zW w r64 (L.U 119) (.int 16 (L.U 120)),zW w q332 (L.U 121) (.int 30 (L.U 122)),zW w q351 (L.U 123) (.int 0 (L.U 124)),zW w r65 (L.U 125) (.bytes ⟨[]⟩ (L.U 126)),zW w r66 (L.U 127) (.bytes A (L.U 128))]))]
noncomputable def pARV7 (w:World) (L:Lt) (R:Int) (A:Array UInt8) (Y:Nat→Nat):List Ent:=zS (eARV7 w L R A) [(2,((L.A 2),(zD 14 [zW w r10 (L.U 1) (.ref (L.A 4)),zW w r11 (L.U 2) (.ref (L.A 5)),zW w r12 (L.U 3) (.ref (L.A 6)),zW w r13 (L.U 4) (.str q221 (L.U 5)),zW w r14 (L.U 6) (.ref (L.A 7)),zW w r15 (L.U 7) (.ref (L.A 8)),zW w r16 (L.U 8) (.ref (L.A 9)),zW w r17 (L.U 9) (.ref (L.A 10)),zW w r18 (L.U 10) (.ref (L.A 11)),zW w r19 (L.U 11) (.ref (L.A 12)),zW w r20 (L.U 12) (.none),zW w r21 (L.U 13) (.int 0 (Y 0)),zW w r22 (L.U 15) (.int 0 (Y 1)),zW w r23 (L.U 17) (.bool true)]))),(13,((L.A 15),(zD 10 [zW w r0 (L.U 75) (.int R (L.U 41)),zW w r50 (L.U 76) (.int 16 (L.U 77)),zW w r1 (L.U 78) (.int 4 (L.U 79)),zW w q38 (L.U 80) (.int (((cR R A (-3) (0)):Nat):Int) (Y 2)),zW w r53 (L.U 82) (.ref (L.A 20)),zW w r54 (L.U 83) (.ref (L.A 21)),zW w r55 (L.U 84) (.int 13 (L.U 85)),zW w r56 (L.U 86) (.int (((cR R A (-3) (1)):Nat):Int) (Y 3)),zW w r57 (L.U 87) (.bool false),zW w r58 (L.U 88) (.none)]))),(14,((L.A 16),(zD 4 [zW w r40 (L.U 89) (.int 5 (L.U 57)),zW w r41 (L.U 90) (.int 0 (Y 4)),zW w q457 (L.U 92) (.none),zW w r42 (L.U 93) (.bool false)]))),(20,((L.A 25),(zD 5 [zW w r0 (L.U 101) (.int R (L.U 41)),zW w q319 (L.U 102) (.int 30 (L.U 29)),zW w r34 (L.U 104) (.int 30 (L.U 29)),zW w r48 (L.U 106) (.int (((cR R A (-3) (1)):Nat):Int) (L.U 23)),zW w r49 (L.U 107) (.int 21 (L.U 25))]))),(21,((L.A 26),(zD 2 [zW w r0 (L.U 109) (.int R (L.U 41)),zW w r59 (L.U 110) (.ref (Y 5+10))])))]
noncomputable def nARV7 (w:World) (L:Lt) (R:Int) (A:Array UInt8) (Y:Nat→Nat):List Ent:=[((Y 6+10),(zL 0 [.ref (Y 7+10)])),((Y 7+10),(zI 979 (Y 8+10))),((Y 5+10),(zL 0 [])),((Y 8+10),(zD 9 [zW w r60 (Y 9) (.int 80 (L.U 37)),zW w r61 (Y 10) (.int 90 (L.U 39)),zW w r62 (Y 11) (.int 21 (L.U 67)),zW w r63 (Y 12) (.int (((cR R A (-3) (0)):Nat):Int) (Y 2)),zW w r64 (Y 13) (.int 16 (Y 14)),zW w q332 (Y 15) (.int 16 (Y 16)),zW w q351 (Y 17) (.int 0 (Y 18)),zW w r65 (Y 19) (.bytes ⟨[]⟩ (Y 20)),zW w r66 (Y 21) (.bytes ⟨[]⟩ 1819)]))]
noncomputable def cARV7 (L:Lt) (R:Int) (A:Array UInt8):Code:=(.call (.ref 1296) ⟨[.ref (L.A 0),.ref (L.A 1),.int 4 (L.U 0)],[]⟩)
noncomputable def ctARV7:Ct2 where
  np:=24
  aI:=[1,2,5,7,10,12,14,18,20,22,24,26,28,55,63,65,67,69,105,107,121,123,140,142,144,149,152,168,170]
  uI:=[3,9,11,13,15,16,17,19,21,23,25,27,29,30,31,32,33,34,36,37,38,39,40,41,42,43,44,45,46,47,48,49,50,51,52,53,57,58,60,61,71,72,73,74,75,76,77,78,79,80,81,82,83,84,85,86,87,88,89,90,92,93,94,96,98,99,100,101,102,103,104,106,108,109,110,112,114,115,116,117,118,119,120,122,124,125,126,127,128,130,132,133,134,135,137,139,141,143,145,146,147,155,157,158,159,160,161,162,163,165,167,171,172,173,174,175,176,177,178,179,180,181,182,183,184,185,186,187,188]
  iI:=[14]
  bI:=[3]
  code _ L:=cARV7 L (L.I 0) (L.B 0)
  ents w L:=eARV7 w L (L.I 0) (L.B 0)
  posts w L Y:=pARV7 w L (L.I 0) (L.B 0) Y
  news w L Y:=nARV7 w L (L.I 0) (L.B 0) Y
  nn:=4
  res w L Y:=(.ret (.ref (Y 6+10)))
  ds L:=[dom (L.I 0) (L.B 0)]
  sh:=shapeB [0,1,0,2]
noncomputable def yARV7 (sz tk:Nat) (ω:Nat→Nat):List Nat:=[ω 216172782113783807+49,tk+141,ω 360287970189639679,ω 504403158265495551,ω 216172782113783807+74,ω 648518346341351423,ω 72057594037927935+43,ω 72057594037927935+41,ω 72057594037927935+40,ω 216172782113783807+162,ω 216172782113783807+164,ω 216172782113783807+166,ω 216172782113783807+168,ω 216172782113783807+170,ω 216172782113783807+67,ω 216172782113783807+172,ω 216172782113783807+144,ω 216172782113783807+174,ω 216172782113783807+150,ω 216172782113783807+176,ω 216172782113783807+86,ω 216172782113783807+178]
noncomputable def dARV7 (R:Int) (A:Array UInt8):List Bool:=[true,true,!(R == 0),Int.fmod (13 - (((cR R A (-3) (0)):Nat):Int)) R == ((16:Nat):Int),!(decide ((2*(((cR R A (-16) (0)):Nat):Int)) < R)),mulOk 2 (((cR R A (-16) (0)):Nat):Int),decide ((((cR R A (-16) (0)):Nat):Int) > 0),!(R == 0),Int.fmod ((((cR R A (-3) (0)):Nat):Int) - 13) R == (((cR R A (-16) (0)):Nat):Int),true,!(R == 0),Int.fmod 0 R == ((0:Nat):Int),!(R == 0),Int.fmod ((((cR R A (-3) (0)):Nat):Int)+16) R == ((13:Nat):Int),true,true,true,true,!(R == 0),Int.fmod 0 R == ((0:Nat):Int),true,true,true,true,true,true,true,true,true,true,true,true,true,true,true,true,dom R A,true,true,true,true,true,true,true,true,true,true,true,true,true,!(R == 0),Int.fmod 0 R == ((0:Nat):Int),true,!(R == 0),Int.fmod 0 R == ((0:Nat):Int),!(R == 0),Int.fmod 0 R == ((0:Nat):Int),true,!(R == 0),Int.fmod 0 R == ((0:Nat):Int),true,true,true,decide ((((cR R A (0) (1)):Nat):Int) < 16),!(R == 0),Int.fmod ((((cR R A (-3) (1)):Nat):Int) - (((cR R A (-3) (0)):Nat):Int)) R == (((cR R A (0) (1)):Nat):Int),true,true,true,true,true,true,!(R == 0),Int.fmod (13 - (((cR R A (-3) (0)):Nat):Int)) R == ((16:Nat):Int),!(decide ((2*(((cR R A (-16) (0)):Nat):Int)) < R)),mulOk 2 (((cR R A (-16) (0)):Nat):Int),decide ((((cR R A (-16) (0)):Nat):Int) > 0),!(R == 0),Int.fmod ((((cR R A (-3) (0)):Nat):Int) - 13) R == (((cR R A (-16) (0)):Nat):Int)]
theorem dARV7_all:∀k,k < 14→((dARV7 128 (bytesN (k+1))).all id && (dARV7 4294967296 (bytesN (k+1))).all id) = true:=by decide+kernel
theorem rARV7 (w:World) (L:Lt) (f:Fm) (p:Pos) (ω:Nat→Nat) (sz tk:Nat):
  RunIs (sim (VW w (icO1 w) (mkSt f 0 [0,1,0,2])) 6217 ω (hARV7 (L.I 0) (L.B 0)) (denQ (ctARV7.code w (up L))) (ctARV7.code w (up L)) p [] (sz+10) tk 24 (treeOf (ctARV7.ents w (up L))) [] [])
   (.ok (ctARV7.res w (up L) (rd (yARV7 sz tk ω)))) [0,1,2,3,4,5,6,7,8,9,10,11,12,13,14,15,16,17,18,19,20,21,22,23,116,114,72,113] (ctARV7.posts w (up L) (rd (yARV7 sz tk ω))++ctARV7.news w (up L) (rd (yARV7 sz tk ω)))
   (dARV7 (L.I 0) (L.B 0)):=⟨by kernel_rfl⟩
theorem okARV7 (w:World):Ct2Ok w ctARV7:=ct2_okc (own:=(icO1 w)) (ks:=[0,1,0,2]) rfl icO1_own (fun _ _=>by kernel_rfl) (fun _ _=>by kernel_rfl) (fun _=>by kernel_rfl) fun L hd=>
  ⟨6217,hARV7 (L.I 0) (L.B 0),[0,1,2,3,4,5,6,7,8,9,10,11,12,13,14,15,16,17,18,19,20,21,22,23,116,114,72,113],yARV7,fun _ _ _=>dARV7 (L.I 0) (L.B 0),rfl,fun _ _ _=>dom_all dARV7_all (hd _ (.head _)),fun f p ω sz tk=>castK (by kernel_rfl) (rARV7 w L f p ω sz tk)⟩
end
end Mine
namespace Mine
open PySem PySem.W
noncomputable section
noncomputable def hARV8 (R:Int) (A:Array UInt8):NL:=g7 (g184 (27::25::0::27::g70 (27::g70 (27::g42 (27::27::27::g9 (g145 (26::0::28::g192 (28::26::28::g70 (28::g42 (28::28::g9 (g209 (g31 (29::27::29::g180 (30::28::0::0::30::g40 (30::g40 (30::g116 (g134 (29::0::0::31::31::31::g9 (g186 (32::30::0::32::32::3::32::15::(cR R A (-16) (0))::0::31::29::31::g102 (31::4::31::g146 (30::g40 (30::g40 (30::g116 (g185 (33::31::0::33::33::3::33::15::16::0::29::27::29::1::13::0::0::29::g19 (29::g67 (34::32::g7 (34::g174 (34::32::34::g29 (g110 (35::g19 (35::g107 (34::g29 (g178 (36::g19 (36::g107 (34::29::g40 (29::29::g32 (13::g10 (37::35::0::37::35::0::g264 (37::g90 (37::g90 (37::g115 (37::37::37::37::g9 (38::36::0::38::36::0::38::36::0::38::36::0::0::38::38::38::g9 (g434 (3::39::15::0::38::1::9::1::28::g376 (g107 (28::g29 (g485 (g19 (41::g107 (28::g29 (g364 (g109 (28::g42 (28::28::g114 (43::41::0::43::41::0::43::g31 (43::41::43::g192 (43::41::0::43::43::g43 (43::g9 (g208 (44::42::0::0::44::44::44::g452 (45::45::3::45::g37 (44::42::44::g83 (43::g43 (43::43::g269 (g453 (15::0::43::g27 (14::g9 (47::45::0::0::47::g43 (47::g43 (47::g43 (g369 (g243 (28::28::28::g9 (49::47::0::49::47::0::49::47::0::49::g31 (49::47::49::g192 (49::47::49::g212 (49::g19 (49::g43 (49::g9 (50::48::0::50::48::0::50::48::0::0::50::50::50::g9 (g270 (51::51::3::51::g37 (50::48::50::g100 (49::g19 (49::g43 (g122 (49::49::49::g244 (52::50::0::52::g31 (52::50::52::g67 (53::51::g7 (53::g174 (53::51::53::g29 (54::52::0::54::52::0::54::g19 (54::g107 (53::g29 (g223 (55::g19 (55::g107 (53::1::11::1::0::49::47::49::g27 (14::49::g19 (49::g19 (49::g114 (57::55::0::57::55::0::g316 (g43 (g189 (23::57::57::57::g9 (g318 (56::0::58::56::0::58::g189 (23::58::58::g9 (g219 (59::57::0::59::g101 (23::0::59::g101 (23::59::59::g101 (23::g9 (g217 (60::58::0::60::60::3::60::15::(cR R A (0) (-1))::0::59::57::59::g90 (59::59::g101 (23::6::1::9::0::49::g246 (61::59::0::61::g43 (g101 (23::0::g90 (49::0::28::26::28::g42 (28::28::28::g9 (g215 (62::60::0::62::g31 (62::60::0::62::g76 (63::61::0::63::g7 (64::64::35::62::62::g29 (g131 (g19 (65::g107 (62::g67 (66::64::g7 (66::g174 (66::64::66::g476 (g107 (66::g29 (68::66::0::68::66::0::68::g19 (68::g107 (66::g90 (62::g40 (0::62::60::62::g45 (15::62::g19 (62::g19 (62::g477 (g173 (46::8::13::17::18::22::24::70::70::70::1::0::70::72::72::0::72::72::72::70::72::70::72::0::72::72::72::70::72::70::72::0::72::72::72::70::72::70::74::0::62::60::0::62::60::0::0::62::g371 (62::g164 (62::62::62::g180 (75::73::0::75::g40 (g227 (24::g9 (76::74::0::76::g124 (24::71::77::71::1::0::71::77::71::77::71::77::71::77::g10 (78::76::0::78::76::0::78::76::0::78::76::0::78::g50 (16::0::78::76::78::78::78::g30 (78::g50 (16::2::g30 (78::78::78::78::g50 (16::1::10::0::78::g50 (16::0::1::12::0::78::g50 (16::78::78::g50 (16::2::78::g30 (62::g90 (62::g29 (79::77::0::79::77::0::79::g19 (79::g107 (62::g40 (62::0::62::62::g9 (g373 (g251 (81::79::0::0::81::g30 (80::g42 (80::80::g9 (82::80::0::82::80::0::0::82::g175 (0::0::83::83::1::0::83::84::0::g504 (0::82::80::82::g78 (17::82::g9 (85::83::0::85::83::0::85::85::g380 (g504 (0::82::80::82::g78 (17::82::g9 (86::84::0::86::84::0::86::86::g380 (g504 (88::82::g78 (17::0::82::82::g32 (13::0::2::g9 (89::87::0::89::87::0::89::87::0::89::g378 (89::g9 (90::88::0::90::88::0::90::90::g380 (89::g55 (2::89::g58 (17::15::17::89::89::g55 (89::g55 (89::22::22::0::22::22::1::0::22::22::20::22::89::g378 (89::g491 (92::g55 (92::g55 (92::92::g496 (25::25::25::25::89::18::23::28::0::28::28::g9 (93::91::0::93::91::0::0::93::93::g9 (94::92::0::94::92::0::0::94::g9 (95::93::0::95::g13 (g43 (0::0::94::92::94::g130 (97::97::35::95::0::94::g76 (98::96::0::98::g9 (99::99::35::97::0::94::94::g9 (g254 (g229 (101::101::35::99::94::0::93::91::93::g164 (93::g9 (g415 (g50 (16::0::1::12::1::93::96::96::96::96::0::93::g9 (103::101::0::103::g44 (4::0::103::g497 (104::102::0::104::102::0::104::102::0::104::102::0::0::g187 (g13 (104::0::8::0::g187 (g13 (g24 (g37 (g187 (g251 (105::103::0::105::g30 (105::g30 (104::g279 (106::104::0::106::104::0::106::106::g380 (104::0::g173 (g187 (g250 (107::105::0::107::g130 (107::g13 (g180 (g159 (108::g45 (15::108::g116 (g260 (g260 (109::g40 (108::g45 (15::g6 (0::110::108::0::0::110::g40 (110::g40 (110::g116 (111::109::0::111::109::0::111::109::0::0::111::111::111::g9 (112::110::0::112::110::0::112::110::0::112::112::3::112::15::(cR R A (-15) (1))::g1 (g102 (111::4::111::g146 (110::g40 (110::g40 (110::g24 (15::g6 (g5 (0::113::111::0::113::113::3::113::15::(cR R A (15) (-1))::0::0::114::114::1::0::114::115::116::115::g505 (116::114::116::116::115::g505 (1::9::0::116::115::g505 (118::116::114::116::0::104::102::0::104::g302 (104::g303 (104::104::104::104::104::104::g15 (120::0::120::g8 (0::g181 (g181 (g181 (g181 (g181 (121::121::120::g6 (120::g277 (g277 (g277 (g277 (g277 (g277 (g277 (g277 (0::120::0::120::g7 (120::0::0::119::117::119::18::94::93::56::96::56::0::56::96::56::96::[]))))))))))))))))))))))))))))))))))))))))))))))))))))))))))))))))))))))))))))))))))))))))))))))))))))))))))))))))))))))))))))))))))))))))))))))))))))))))))))))))))))))))))))))))))))))))))))))))))))))))))))))))))))))))))))))))))))))))))))))))))))))))))))))))))))))))))))))))))))))))))
noncomputable def eARV8 (w:World) (L:Lt) (R:Int) (A:Array UInt8):List Ent:=[((L.A 0),(zI 1173 (L.A 2))),((L.A 1),(zI 979 (L.A 3))),((L.A 2),(zD 14 [zW w r10 (L.U 1) (.ref (L.A 4)),zW w r11 (L.U 2) (.ref (L.A 5)),zW w r12 (L.U 3) (.ref (L.A 6)),zW w r13 (L.U 4) (.str q221 (L.U 5)),zW w r14 (L.U 6) (.ref (L.A 7)),zW w r15 (L.U 7) (.ref (L.A 8)),zW w r16 (L.U 8) (.ref (L.A 9)),zW w r17 (L.U 9) (.ref (L.A 10)),zW w r18 (L.U 10) (.ref (L.A 11)),zW w r19 (L.U 11) (.ref (L.A 12)),zW w r20 (L.U 12) (.none),zW w r21 (L.U 13) (.int 0 (L.U 14)),zW w r22 (L.U 15) (.int 0 (L.U 16)),zW w r23 (L.U 17) (.bool true)])),((L.A 3),(zD 9 [zW w r60 (L.U 18) (.int 90 (L.U 19)),zW w r61 (L.U 20) (.int 80 (L.U 21)),zW w r62 (L.U 22) (.int (R - 3) (L.U 23)),zW w r63 (L.U 24) (.int 21 (L.U 25)),zW w r64 (L.U 26) (.int 16 (L.U 27)),zW w q332 (L.U 28) (.int 30 (L.U 29)),zW w q351 (L.U 30) (.int 0 (L.U 31)),zW w r65 (L.U 32) (.bytes ⟨[]⟩ (L.U 33)),zW w r66 (L.U 34) (.bytes A (L.U 35))])),((L.A 4),(zI 1130 (L.A 13))),((L.A 5),(zT 0 [.int 1 (L.U 36),.int 80 (L.U 37)])),((L.A 6),(zT 0 [.int 2 (L.U 38),.int 90 (L.U 39)])),((L.A 7),(zI 915 (L.A 14))),((L.A 8),(zI 289 (L.A 15))),((L.A 11),(zI 346 (L.A 16))),((L.A 12),(zI 1109 (L.A 17))),((L.A 13),(zD 10 [zW w r0 (L.U 40) (.int R (L.U 41)),zW w r1 (L.U 42) (.int 4 (L.U 43)),zW w r2 (L.U 44) (.int 40 (L.U 45)),zW w r3 (L.U 46) (.int 16 (L.U 47)),zW w r4 (L.U 48) (.int 6 (L.U 49)),zW w r5 (L.U 50) (.int 4 (L.U 51)),zW w r6 (L.U 52) (.int 24 (L.U 53)),zW w r7 (L.U 54) (.int 3 (L.U 55)),zW w r8 (L.U 56) (.int 5 (L.U 57)),zW w r9 (L.U 58) (.int 9 (L.U 59))])),((L.A 14),(zD 11 [zW w r24 (L.U 60) (.int 20 (L.U 61)),zW w r0 (L.U 62) (.int R (L.U 41)),zW w r1 (L.U 63) (.int 4 (L.U 43)),zW w r25 (L.U 64) (.int 21 (L.U 65)),zW w q38 (L.U 66) (.int 21 (L.U 67)),zW w r26 (L.U 68) (.int 21 (L.U 69)),zW w r27 (L.U 70) (.ref (L.A 18)),zW w r28 (L.U 71) (.ref (L.A 19)),zW w r29 (L.U 72) (.bool false),zW w r30 (L.U 73) (.bool false),zW w r31 (L.U 74) (.bool false)])),((L.A 15),(zD 10 [zW w r0 (L.U 75) (.int R (L.U 41)),zW w r50 (L.U 76) (.int 16 (L.U 77)),zW w r1 (L.U 78) (.int 4 (L.U 79)),zW w q38 (L.U 80) (.int (((cR R A (-3) (0)):Nat):Int) (L.U 81)),zW w r53 (L.U 82) (.ref (L.A 20)),zW w r54 (L.U 83) (.ref (L.A 21)),zW w r55 (L.U 84) (.int 13 (L.U 85)),zW w r56 (L.U 86) (.int (((cR R A (-3) (1)):Nat):Int) (L.U 87)),zW w r57 (L.U 88) (.bool false),zW w r58 (L.U 89) (.none)])),((L.A 16),(zD 4 [zW w r40 (L.U 90) (.int 5 (L.U 57)),zW w r41 (L.U 91) (.int 0 (L.U 92)),zW w q457 (L.U 93) (.none),zW w r42 (L.U 94) (.bool false)])),((L.A 17),(zD 6 [zW w q319 (L.U 95) (.int 16 1642),zW w r43 (L.U 96) (.ref (L.A 22)),zW w r44 (L.U 97) (.ref (L.A 23)),zW w r45 (L.U 98) (.ref (L.A 24)),zW w r46 (L.U 99) (.none),zW w r47 (L.U 100) (.int 0 (L.U 101))])),((L.A 18),(zI 724 (L.A 25))),((L.A 20),⟨.type "bytearray",none,.bytearray ⟨[]⟩ 0,⟨[]⟩⟩),((L.A 21),(zI 155 (L.A 26))),((L.A 22),(zL 16 [.ref (L.A 27),.ref (L.A 28),.ref (L.A 29),.ref (L.A 30),.ref (L.A 31),.ref (L.A 32),.ref (L.A 33),.ref (L.A 34),.ref (L.A 35),.ref (L.A 36),.ref (L.A 37),.ref (L.A 38),.ref (L.A 39),.ref (L.A 40),.ref (L.A 41),.ref (L.A 42)])),((L.A 24),(zD 0 [])),((L.A 25),(zD 5 [zW w r0 (L.U 102) (.int R (L.U 41)),zW w q319 (L.U 103) (.int 30 (L.U 104)),zW w r34 (L.U 105) (.int 30 (L.U 104)),zW w r48 (L.U 106) (.int (((cR R A (-3) (1)):Nat):Int) (L.U 107)),zW w r49 (L.U 108) (.int 21 (L.U 109))])),((L.A 26),(zD 2 [zW w r0 (L.U 110) (.int R (L.U 41)),zW w r59 (L.U 111) (.ref (L.A 43))])),((L.A 41),(zL 0 [])),((L.A 43),(zL 0 []))]
noncomputable def pARV8 (w:World) (L:Lt) (R:Int) (A:Array UInt8) (Y:Nat→Nat):List Ent:=zS (eARV8 w L R A) [(2,((L.A 2),(zD 14 [zW w r10 (L.U 1) (.ref (L.A 4)),zW w r11 (L.U 2) (.ref (L.A 5)),zW w r12 (L.U 3) (.ref (L.A 6)),zW w r13 (L.U 4) (.str q229 1584),zW w r14 (L.U 6) (.ref (L.A 7)),zW w r15 (L.U 7) (.ref (L.A 8)),zW w r16 (L.U 8) (.ref (L.A 9)),zW w r17 (L.U 9) (.ref (L.A 10)),zW w r18 (L.U 10) (.ref (L.A 11)),zW w r19 (L.U 11) (.ref (L.A 12)),zW w r20 (L.U 12) (.none),zW w r21 (L.U 13) (.int 0 (L.U 14)),zW w r22 (L.U 15) (.int 0 (Y 0)),zW w r23 (L.U 17) (.bool true)]))),(13,((L.A 15),(zD 10 [zW w r0 (L.U 75) (.int R (L.U 41)),zW w r50 (L.U 76) (.int 16 (L.U 77)),zW w r1 (L.U 78) (.int 4 (L.U 79)),zW w q38 (L.U 80) (.int (((cR R A (-2) (1)):Nat):Int) (Y 1)),zW w r53 (L.U 82) (.ref (L.A 20)),zW w r54 (L.U 83) (.ref (L.A 21)),zW w r55 (L.U 84) (.int 13 (L.U 85)),zW w r56 (L.U 86) (.int (((cR R A (-3) (1)):Nat):Int) (L.U 87)),zW w r57 (L.U 88) (.bool true),zW w r58 (L.U 89) (.none)]))),(14,((L.A 16),(zD 4 [zW w r40 (L.U 90) (.int 5 (L.U 57)),zW w r41 (L.U 91) (.int 0 (Y 2)),zW w q457 (L.U 93) (.none),zW w r42 (L.U 94) (.bool false)]))),(15,((L.A 17),(zD 6 [zW w q319 (L.U 95) (.int 16 1642),zW w r43 (L.U 96) (.ref (L.A 22)),zW w r44 (L.U 97) (.ref (L.A 23)),zW w r45 (L.U 98) (.ref (L.A 24)),zW w r46 (L.U 99) (.none),zW w r47 (L.U 100) (.int 1 (Y 3))]))),(17,((L.A 20),⟨.type "bytearray",none,.bytearray ((⟨[]⟩:Array UInt8)++A) 0,⟨[]⟩⟩)),(20,((L.A 24),(zD 1 [⟨4,.int 4 1730,.ref (Y 4+10)⟩]))),(22,((L.A 26),(zD 2 [zW w r0 (L.U 110) (.int R (L.U 41)),zW w r59 (L.U 111) (.ref (Y 5+10))]))),(23,((L.A 41),(zL 1 [.int 4 1730])))]
noncomputable def nARV8 (w:World) (L:Lt) (R:Int) (A:Array UInt8) (Y:Nat→Nat):List Ent:=[((Y 6+10),(zL 0 [.ref (Y 7+10)])),((Y 7+10),(zI 979 (Y 8+10))),((Y 4+10),(zT 0 [.int 14 (Y 9),.int 1 (Y 3)])),((Y 5+10),(zL 2 [])),((Y 8+10),(zD 9 [zW w r60 (Y 10) (.int 80 (L.U 37)),zW w r61 (Y 11) (.int 90 (L.U 39)),zW w r62 (Y 12) (.int 21 (L.U 67)),zW w r63 (Y 13) (.int (((cR R A (-2) (1)):Nat):Int) (Y 1)),zW w r64 (Y 14) (.int 16 (Y 15)),zW w q332 (Y 16) (.int (((cR R A (15) (-1)):Nat):Int) (Y 17)),zW w q351 (Y 18) (.int 0 (Y 19)),zW w r65 (Y 20) (.bytes ⟨[]⟩ (Y 21)),zW w r66 (Y 22) (.bytes ⟨[]⟩ 1819)]))]
noncomputable def cARV8 (L:Lt) (R:Int) (A:Array UInt8):Code:=(.call (.ref 1296) ⟨[.ref (L.A 0),.ref (L.A 1),.int 5 (L.U 0)],[]⟩)
noncomputable def ctARV8:Ct2 where
  np:=25
  aI:=[1,2,5,7,10,12,14,18,20,22,24,26,28,55,63,65,67,69,105,107,121,123,141,143,145,150,153,155,156,157,158,159,160,161,162,163,164,165,166,167,168,169,170,187]
  uI:=[3,9,11,13,15,16,17,19,21,23,25,27,29,30,31,32,33,34,36,37,38,39,40,41,42,43,44,45,46,47,48,49,50,51,52,53,57,58,60,61,71,72,73,74,75,76,77,78,79,80,81,82,83,84,85,86,87,88,89,90,92,93,94,96,98,99,100,101,102,103,104,106,108,109,110,112,114,115,116,117,118,119,120,122,124,125,126,127,128,129,131,133,134,135,136,138,140,142,144,146,147,148,173,175,176,177,179,180,181,182,184,186]
  iI:=[14]
  bI:=[1]
  code _ L:=cARV8 L (L.I 0) (L.B 0)
  ents w L:=eARV8 w L (L.I 0) (L.B 0)
  posts w L Y:=pARV8 w L (L.I 0) (L.B 0) Y
  news w L Y:=nARV8 w L (L.I 0) (L.B 0) Y
  nn:=5
  res w L Y:=(.ret (.ref (Y 6+10)))
  ds L:=[dom (L.I 0) (L.B 0)]
  sh:=shapeB [0,1,0,2]
noncomputable def yARV8 (sz tk:Nat) (ω:Nat→Nat):List Nat:=[tk+138,ω 5764607523034234879,ω 3458764513820540927+124,ω 3458764513820540927+76,ω 1152921504606846975+19,ω 8070450532247928831,ω 1152921504606846975+50,ω 1152921504606846975+48,ω 1152921504606846975+47,ω 3458764513820540927+66,ω 3458764513820540927+187,ω 3458764513820540927+189,ω 3458764513820540927+191,ω 3458764513820540927+193,ω 3458764513820540927+195,ω 3458764513820540927+117,ω 3458764513820540927+197,ω 3458764513820540927+169,ω 3458764513820540927+199,ω 3458764513820540927+175,ω 3458764513820540927+201,ω 3458764513820540927+136,ω 3458764513820540927+203]
noncomputable def dARV8 (R:Int) (A:Array UInt8):List Bool:=[true,!(decide (65535 < (((cR R A (15) (-1)):Nat):Int))),!(R == 0),Int.fmod (13 - (((cR R A (-2) (1)):Nat):Int)) R == (((cR R A (15) (-1)):Nat):Int),!(decide ((2*(((cR R A (-15) (1)):Nat):Int)) < R)),mulOk 2 (((cR R A (-15) (1)):Nat):Int),decide ((((cR R A (-15) (1)):Nat):Int) > 0),!(R == 0),Int.fmod ((((cR R A (-2) (1)):Nat):Int) - 13) R == (((cR R A (-15) (1)):Nat):Int),true,true,true,true,true,true,true,true,!((((A.size:Nat):Int) == 0)),true,true,decide (((A.size:Nat):Int) > 0),Nat.ble A.size 1000,true,true,true,true,true,true,true,true,true,true,dom R A,true,!((((A.size:Nat):Int) == 0)),true,true,Nat.ble A.size 1000,true,true,true,!(decide ((((cR R A (0) (-1)):Nat):Int) < (Int.fdiv R 2))),divOk R 2,!(((((cR R A (0) (-1)):Nat):Int) == 0)),!(R == 0),Int.fmod ((R - 3) - (((cR R A (-3) (1)):Nat):Int)) R == (((cR R A (0) (-1)):Nat):Int),decide (((A.size:Nat):Int) > 0),true,true,Nat.ble A.size 1000,true,true,!(R == 0),Int.fmod 0 R == ((0:Nat):Int),true,!(R == 0),Int.fmod 0 R == ((0:Nat):Int),!(R == 0),Int.fmod 0 R == ((0:Nat):Int),true,!(R == 0),Int.fmod 0 R == ((0:Nat):Int),true,true,true,true,!(R == 0),Int.fmod ((R - 3) - (((cR R A (-3) (0)):Nat):Int)) R == ((0:Nat):Int),true,!((((A.size:Nat):Int) == 0)),!((((A.size:Nat):Int) == 0)),true,true,Nat.ble A.size 1000,true,!(R == 0),Int.fmod (13 - (((cR R A (-3) (0)):Nat):Int)) R == ((16:Nat):Int),!(decide ((2*(((cR R A (-16) (0)):Nat):Int)) < R)),mulOk 2 (((cR R A (-16) (0)):Nat):Int),decide ((((cR R A (-16) (0)):Nat):Int) > 0),!(R == 0),Int.fmod ((((cR R A (-3) (0)):Nat):Int) - 13) R == (((cR R A (-16) (0)):Nat):Int)]
theorem dARV8_all:∀k,k < 14→((dARV8 128 (bytesN (k+1))).all id && (dARV8 4294967296 (bytesN (k+1))).all id) = true:=by decide+kernel
theorem rARV8 (w:World) (L:Lt) (f:Fm) (p:Pos) (ω:Nat→Nat) (sz tk:Nat):
  RunIs (sim (VW w (icO1 w) (mkSt f 0 [0,1,0,2])) 6646 ω (hARV8 (L.I 0) (L.B 0)) (denQ (ctARV8.code w (up L))) (ctARV8.code w (up L)) p [] (sz+10) tk 25 (treeOf (ctARV8.ents w (up L))) [] [])
   (.ok (ctARV8.res w (up L) (rd (yARV8 sz tk ω)))) [0,1,2,3,4,5,6,7,8,9,10,11,12,13,14,15,16,17,18,19,20,21,22,23,24,120,118,89,69,117] (ctARV8.posts w (up L) (rd (yARV8 sz tk ω))++ctARV8.news w (up L) (rd (yARV8 sz tk ω)))
   (dARV8 (L.I 0) (L.B 0)):=⟨by kernel_rfl⟩
theorem okARV8 (w:World):Ct2Ok w ctARV8:=ct2_okc (own:=(icO1 w)) (ks:=[0,1,0,2]) rfl icO1_own (fun _ _=>by kernel_rfl) (fun _ _=>by kernel_rfl) (fun _=>by kernel_rfl) fun L hd=>
  ⟨6646,hARV8 (L.I 0) (L.B 0),[0,1,2,3,4,5,6,7,8,9,10,11,12,13,14,15,16,17,18,19,20,21,22,23,24,120,118,89,69,117],yARV8,fun _ _ _=>dARV8 (L.I 0) (L.B 0),rfl,fun _ _ _=>dom_all dARV8_all (hd _ (.head _)),fun f p ω sz tk=>castK (by kernel_rfl) (rARV8 w L f p ω sz tk)⟩
end
end Mine
namespace Mine
noncomputable section
open PySem PySem.W
noncomputable def icO2 (w:World) (k:Nat):Icpt:=match k with
  | 13=>icOf2 w ctARV1
  | 14=>icOf2 w ctARV2
  | 15=>icOf2 w ctARV3
  | 16=>icOf2 w ctARV4
  | 17=>icOf2 w ctARV5
  | 18=>icOf2 w ctARV6
  | 19=>icOf2 w ctARV7
  | 20=>icOf2 w ctARV8
  | k=>icO1 w k
theorem icO2_own {w:World}:OwnOk w (icO2 w):=by
  intro b V j hkt hb hp hw hd
  unfold icO2
  split
  · exact icOf2_ok (okARV1 w) hkt hb
  · exact icOf2_ok (okARV2 w) hkt hb
  · exact icOf2_ok (okARV3 w) hkt hb
  · exact icOf2_ok (okARV4 w) hkt hb
  · exact icOf2_ok (okARV5 w) hkt hb
  · exact icOf2_ok (okARV6 w) hkt hb
  · exact icOf2_ok (okARV7 w) hkt hb
  · exact icOf2_ok (okARV8 w) hkt hb
  · exact icO1_own b V _ hkt hb hp hw hd
end
end Mine
namespace Mine
open PySem PySem.W
noncomputable section
noncomputable def hRD1 (R:Int) (A:Array UInt8):NL:=g7 (6::4::0::6::4::g7 (6::g26 (6::4::4::4::0::4::7::7::7::7::7::4::g7 (8::8::8::8::8::8::8::8::8::8::0::0::6::4::6::g26 (0::0::6::0::0::4::4::4::0::4::9::9::9::9::9::4::0::6::g127 (6::[]))))))
noncomputable def eRD1x0 (w:World) (L:Lt) (R:Int) (A:Array UInt8):Ent:=((L.A 0),(zI 289 (L.A 1)))
noncomputable def eRD1x1 (w:World) (L:Lt) (R:Int) (A:Array UInt8):Ent:=((L.A 1),(zD 10 [zW w r0 (L.U 1) (.int R (L.U 2)),zW w r50 (L.U 3) (.int 16 (L.U 4)),zW w r1 (L.U 5) (.int 4 (L.U 6)),zW w q38 (L.U 7) (.int (((cR R A (-2) (1)):Nat):Int) (L.U 8)),zW w r53 (L.U 9) (.ref (L.A 2)),zW w r54 (L.U 10) (.ref (L.A 3)),zW w r55 (L.U 11) (.int 13 (L.U 12)),zW w r56 (L.U 13) (.int (((cR R A (-3) (1)):Nat):Int) (L.U 14)),zW w r57 (L.U 15) (.bool true),zW w r58 (L.U 16) (.none)]))
noncomputable def eRD1x2 (w:World) (L:Lt) (R:Int) (A:Array UInt8):Ent:=((L.A 2),⟨.type "bytearray",none,.bytearray (((⟨[]⟩:Array UInt8)++A)++(⟨[]⟩:Array UInt8)) 0,⟨[]⟩⟩)
noncomputable def eRD1x3 (w:World) (L:Lt) (R:Int) (A:Array UInt8):Ent:=((L.A 4),(zD 9 [zW w r60 (L.U 17) (.int 90 (L.U 18)),zW w r61 (L.U 19) (.int 80 (L.U 20)),zW w r62 (L.U 21) (.int (R - 3) (L.U 22)),zW w r63 (L.U 23) (.int 21 (L.U 24)),zW w r64 (L.U 25) (.int 16 (L.U 26)),zW w q332 (L.U 27) (.int 30 (L.U 28)),zW w q351 (L.U 29) (.int 0 (L.U 30)),zW w r65 (L.U 31) (.bytes ⟨[]⟩ (L.U 32)),zW w r66 (L.U 33) (.bytes A (L.U 34))]))
noncomputable def pRD1x1 (w:World) (L:Lt) (R:Int) (A:Array UInt8) (Y:Nat→Nat):Ent:=((L.A 1),(zD 10 [zW w r0 (L.U 1) (.int R (L.U 2)),zW w r50 (L.U 3) (.int 16 (L.U 4)),zW w r1 (L.U 5) (.int 4 (L.U 6)),zW w q38 (L.U 7) (.int (((cR R A (-2) (1)):Nat):Int) (L.U 8)),zW w r53 (L.U 9) (.ref (Y 0+10)),zW w r54 (L.U 10) (.ref (L.A 3)),zW w r55 (L.U 11) (.int 13 (L.U 12)),zW w r56 (L.U 13) (.int (((cR R A (-3) (1)):Nat):Int) (L.U 14)),zW w r57 (L.U 15) (.bool true),zW w r58 (L.U 16) (.none)]))
noncomputable def nRD1 (w:World) (L:Lt) (R:Int) (A:Array UInt8) (Y:Nat→Nat):List Ent:=[((Y 0+10),⟨.type "bytearray",none,.bytearray ⟨[]⟩ 0,⟨[]⟩⟩)]
noncomputable def cRD1 (L:Lt) (R:Int) (A:Array UInt8):Code:=(.call (.ref 258) ⟨[.ref (L.A 0),.int 20 (L.U 0)],[]⟩)
noncomputable def ctRD1:Ct2 where
  np:=4
  aI:=[1,4,15,17,25]
  uI:=[2,6,7,8,9,10,11,12,13,14,16,18,19,20,21,22,23,26,27,28,29,30,31,32,33,34,35,36,37,38,39,40,41,42,43]
  iI:=[1]
  bI:=[1]
  code _ L:=cRD1 L (L.I 0) (L.B 0)
  ents w L:=[eRD1x0 w L (L.I 0) (L.B 0),eRD1x1 w L (L.I 0) (L.B 0),eRD1x2 w L (L.I 0) (L.B 0),eRD1x3 w L (L.I 0) (L.B 0)]
  posts w L Y:=[eRD1x0 w L (L.I 0) (L.B 0),pRD1x1 w L (L.I 0) (L.B 0) Y,eRD1x2 w L (L.I 0) (L.B 0),eRD1x3 w L (L.I 0) (L.B 0)]
  news w L Y:=nRD1 w L (L.I 0) (L.B 0) Y
  nn:=1
  res w L Y:=(.ret (.bytes (L.B 0) (Y 1)))
  ds L:=[dom (L.I 0) (L.B 0)]
  sh:=shapeB [0,1,0,2]
noncomputable def yRD1 (sz tk:Nat) (ω:Nat→Nat):List Nat:=[sz+4,tk+3]
noncomputable def RunRD1 (w:World) (L:Lt) (f:Fm) (p:Pos) (ω:Nat→Nat) (sz tk:Nat) (A:Array UInt8):Prop:=
  RunIs (sim (VW w (icO2 w) (mkSt f 0 [0,1,0,2])) 180 ω (hRD1 (L.I 0) A) (denQ (cRD1 (up L) (L.I 0) A)) (cRD1 (up L) (L.I 0) A) p [] (sz+10) tk 4 (treeOf [eRD1x0 w (up L) (L.I 0) A,eRD1x1 w (up L) (L.I 0) A,eRD1x2 w (up L) (L.I 0) A,eRD1x3 w (up L) (L.I 0) A]) [] [])
    (.ok (.ret (.bytes A ((rd (yRD1 sz tk ω)) 1)))) [0,1,2,3,8] ([eRD1x0 w (up L) (L.I 0) A,pRD1x1 w (up L) (L.I 0) A (rd (yRD1 sz tk ω)),eRD1x2 w (up L) (L.I 0) A,eRD1x3 w (up L) (L.I 0) A]++nRD1 w (up L) (L.I 0) A (rd (yRD1 sz tk ω))) []
theorem runRD1 (w:World) (L:Lt) (f:Fm) (p:Pos) (ω:Nat→Nat) (sz tk:Nat):∀k,k < 14→RunRD1 w L f p ω sz tk (bytesN (k+1))
  | 0,_=>⟨by kernel_rfl⟩
  | 1,_=>⟨by kernel_rfl⟩
  | 2,_=>⟨by kernel_rfl⟩
  | 3,_=>⟨by kernel_rfl⟩
  | 4,_=>⟨by kernel_rfl⟩
  | 5,_=>⟨by kernel_rfl⟩
  | 6,_=>⟨by kernel_rfl⟩
  | 7,_=>⟨by kernel_rfl⟩
  | 8,_=>⟨by kernel_rfl⟩
  | 9,_=>⟨by kernel_rfl⟩
  | 10,_=>⟨by kernel_rfl⟩
  | 11,_=>⟨by kernel_rfl⟩
  | 12,_=>⟨by kernel_rfl⟩
  | 13,_=>⟨by kernel_rfl⟩
  | n+14,h=>absurd h (by omega)
theorem okRD1 (w:World):Ct2Ok w ctRD1:=ct2_okc (own:=icO2 w) (ks:=[0,1,0,2]) rfl icO2_own (fun _ _=>by kernel_rfl) (fun _ _=>by kernel_rfl) (fun _=>by kernel_rfl) fun L hd=>by
  obtain ⟨_,k,hk,hA⟩:=dom_is (hd _ (.head _))
  have hA:L.B 0 = bytesN (k+1):=hA
  refine ⟨180,hRD1 (L.I 0) (L.B 0),[0,1,2,3,8],yRD1,fun _ _ _=>[],rfl,(fun _ _ _ _ h=>nomatch h),fun f p ω sz tk=>?_⟩
  have z:=runRD1 w L f p ω sz tk k hk
  rw [←hA] at z
  unfold RunRD1 at z
  exact castK (by kernel_rfl) z
noncomputable def hRD2 (R:Int) (A:Array UInt8):NL:=g7 (6::4::0::6::4::g7 (6::g26 (6::4::4::4::0::4::7::7::7::7::7::4::g7 (8::8::8::8::8::8::8::8::8::8::0::0::6::4::6::g26 (0::0::6::0::0::4::4::4::0::4::9::9::9::9::9::4::0::6::g127 (6::[]))))))
noncomputable def eRD2x0 (w:World) (L:Lt) (R:Int) (A:Array UInt8):Ent:=((L.A 0),(zI 289 (L.A 1)))
noncomputable def eRD2x1 (w:World) (L:Lt) (R:Int) (A:Array UInt8):Ent:=((L.A 1),(zD 10 [zW w r0 (L.U 1) (.int R (L.U 2)),zW w r50 (L.U 3) (.int 16 (L.U 4)),zW w r1 (L.U 5) (.int 4 (L.U 6)),zW w q38 (L.U 7) (.int (((cR R A (-2) (1)):Nat):Int) (L.U 8)),zW w r53 (L.U 9) (.ref (L.A 2)),zW w r54 (L.U 10) (.ref (L.A 3)),zW w r55 (L.U 11) (.int 13 (L.U 12)),zW w r56 (L.U 13) (.int (((cR R A (-3) (1)):Nat):Int) (L.U 14)),zW w r57 (L.U 15) (.bool true),zW w r58 (L.U 16) (.none)]))
noncomputable def eRD2x2 (w:World) (L:Lt) (R:Int) (A:Array UInt8):Ent:=((L.A 2),⟨.type "bytearray",none,.bytearray ((⟨[]⟩:Array UInt8)++A) 0,⟨[]⟩⟩)
noncomputable def eRD2x3 (w:World) (L:Lt) (R:Int) (A:Array UInt8):Ent:=((L.A 4),(zD 9 [zW w r60 (L.U 17) (.int 90 (L.U 18)),zW w r61 (L.U 19) (.int 80 (L.U 20)),zW w r62 (L.U 21) (.int (R - 3) (L.U 22)),zW w r63 (L.U 23) (.int 21 (L.U 24)),zW w r64 (L.U 25) (.int 16 (L.U 26)),zW w q332 (L.U 27) (.int 30 (L.U 28)),zW w q351 (L.U 29) (.int 0 (L.U 30)),zW w r65 (L.U 31) (.bytes ⟨[]⟩ (L.U 32)),zW w r66 (L.U 33) (.bytes A (L.U 34))]))
noncomputable def pRD2x1 (w:World) (L:Lt) (R:Int) (A:Array UInt8) (Y:Nat→Nat):Ent:=((L.A 1),(zD 10 [zW w r0 (L.U 1) (.int R (L.U 2)),zW w r50 (L.U 3) (.int 16 (L.U 4)),zW w r1 (L.U 5) (.int 4 (L.U 6)),zW w q38 (L.U 7) (.int (((cR R A (-2) (1)):Nat):Int) (L.U 8)),zW w r53 (L.U 9) (.ref (Y 0+10)),zW w r54 (L.U 10) (.ref (L.A 3)),zW w r55 (L.U 11) (.int 13 (L.U 12)),zW w r56 (L.U 13) (.int (((cR R A (-3) (1)):Nat):Int) (L.U 14)),zW w r57 (L.U 15) (.bool true),zW w r58 (L.U 16) (.none)]))
noncomputable def nRD2 (w:World) (L:Lt) (R:Int) (A:Array UInt8) (Y:Nat→Nat):List Ent:=[((Y 0+10),⟨.type "bytearray",none,.bytearray ⟨[]⟩ 0,⟨[]⟩⟩)]
noncomputable def cRD2 (L:Lt) (R:Int) (A:Array UInt8):Code:=(.call (.ref 258) ⟨[.ref (L.A 0),.int 20 (L.U 0)],[]⟩)
noncomputable def ctRD2:Ct2 where
  np:=4
  aI:=[1,4,15,17,25]
  uI:=[2,6,7,8,9,10,11,12,13,14,16,18,19,20,21,22,23,26,27,28,29,30,31,32,33,34,35,36,37,38,39,40,41,42,43]
  iI:=[1]
  bI:=[1]
  code _ L:=cRD2 L (L.I 0) (L.B 0)
  ents w L:=[eRD2x0 w L (L.I 0) (L.B 0),eRD2x1 w L (L.I 0) (L.B 0),eRD2x2 w L (L.I 0) (L.B 0),eRD2x3 w L (L.I 0) (L.B 0)]
  posts w L Y:=[eRD2x0 w L (L.I 0) (L.B 0),pRD2x1 w L (L.I 0) (L.B 0) Y,eRD2x2 w L (L.I 0) (L.B 0),eRD2x3 w L (L.I 0) (L.B 0)]
  news w L Y:=nRD2 w L (L.I 0) (L.B 0) Y
  nn:=1
  res w L Y:=(.ret (.bytes (L.B 0) (Y 1)))
  ds L:=[dom (L.I 0) (L.B 0)]
  sh:=shapeB [0,1,0,2]
noncomputable def yRD2 (sz tk:Nat) (ω:Nat→Nat):List Nat:=[sz+4,tk+3]
noncomputable def RunRD2 (w:World) (L:Lt) (f:Fm) (p:Pos) (ω:Nat→Nat) (sz tk:Nat) (A:Array UInt8):Prop:=
  RunIs (sim (VW w (icO2 w) (mkSt f 0 [0,1,0,2])) 180 ω (hRD2 (L.I 0) A) (denQ (cRD2 (up L) (L.I 0) A)) (cRD2 (up L) (L.I 0) A) p [] (sz+10) tk 4 (treeOf [eRD2x0 w (up L) (L.I 0) A,eRD2x1 w (up L) (L.I 0) A,eRD2x2 w (up L) (L.I 0) A,eRD2x3 w (up L) (L.I 0) A]) [] [])
    (.ok (.ret (.bytes A ((rd (yRD2 sz tk ω)) 1)))) [0,1,2,3,8] ([eRD2x0 w (up L) (L.I 0) A,pRD2x1 w (up L) (L.I 0) A (rd (yRD2 sz tk ω)),eRD2x2 w (up L) (L.I 0) A,eRD2x3 w (up L) (L.I 0) A]++nRD2 w (up L) (L.I 0) A (rd (yRD2 sz tk ω))) []
theorem runRD2 (w:World) (L:Lt) (f:Fm) (p:Pos) (ω:Nat→Nat) (sz tk:Nat):∀k,k < 14→RunRD2 w L f p ω sz tk (bytesN (k+1))
  | 0,_=>⟨by kernel_rfl⟩
  | 1,_=>⟨by kernel_rfl⟩
  | 2,_=>⟨by kernel_rfl⟩
  | 3,_=>⟨by kernel_rfl⟩
  | 4,_=>⟨by kernel_rfl⟩
  | 5,_=>⟨by kernel_rfl⟩
  | 6,_=>⟨by kernel_rfl⟩
  | 7,_=>⟨by kernel_rfl⟩
  | 8,_=>⟨by kernel_rfl⟩
  | 9,_=>⟨by kernel_rfl⟩
  | 10,_=>⟨by kernel_rfl⟩
  | 11,_=>⟨by kernel_rfl⟩
  | 12,_=>⟨by kernel_rfl⟩
  | 13,_=>⟨by kernel_rfl⟩
  | n+14,h=>absurd h (by omega)
theorem okRD2 (w:World):Ct2Ok w ctRD2:=ct2_okc (own:=icO2 w) (ks:=[0,1,0,2]) rfl icO2_own (fun _ _=>by kernel_rfl) (fun _ _=>by kernel_rfl) (fun _=>by kernel_rfl) fun L hd=>by
  obtain ⟨_,k,hk,hA⟩:=dom_is (hd _ (.head _))
  have hA:L.B 0 = bytesN (k+1):=hA
  refine ⟨180,hRD2 (L.I 0) (L.B 0),[0,1,2,3,8],yRD2,fun _ _ _=>[],rfl,(fun _ _ _ _ h=>nomatch h),fun f p ω sz tk=>?_⟩
  have z:=runRD2 w L f p ω sz tk k hk
  rw [←hA] at z
  unfold RunRD2 at z
  exact castK (by kernel_rfl) z
end
end Mine
namespace Mine
noncomputable section
open PySem PySem.W PyProof.Rows
noncomputable def nListNe:Nat:=116512115458775698011089517
noncomputable def eqVV (x y:Value):Bool:=match x with
  | .int a _=>match y with
    | .int b _=>a == b
    | _=>false
  | .bytes a _=>match y with
    | .bytes b _=>a.toList == b.toList
    | _=>false
  | _=>false
noncomputable def eqVs:List Value→List Value→Bool:=eqLs eqVV
noncomputable def unitsB (st:List (Code×Pos)):Bool:=Nat.blt ((st.map (·.1.cUnits)).sum) 9000
noncomputable def icListNeT:Icpt:=fun _ st c hs sz tk m T=>match c with
  | .call (.builtin id) ⟨[.ref l,.ref b],[]⟩=>match Nat.beq (PySem.code id) nListNe with
    | true => match hs with
      | i :: j :: k::n::hs=>match T.get i with
        | some e=>match T.get j with
          | some f => match T.get k with
            | some g=>match T.get n with
              | some h=>match g.2.data with
                | .seq xs c1=>match h.2.data with
                  | .seq ys c2=>some ⟨.ok (.ret (.bool false)),hs,sz,tk,m,T,
                      [(.n l,.n e.1),(.n b,.n f.1),(.o e.2,.o ⟨.type "list",none,.seq ⟨[.ref g.1]⟩ (cntL e.2),⟨[]⟩⟩),(.o f.2,.o ⟨.type "list",none,.seq ⟨[.ref h.1]⟩ (cntL f.2),⟨[]⟩⟩),(.o g.2,.o ⟨.type "tuple",none,.seq xs c1,⟨[]⟩⟩),(.o h.2,.o ⟨.type "tuple",none,.seq ys c2,⟨[]⟩⟩)],
                      [!(Nat.beq k n),unitsB st,eqVs xs.toList ys.toList]⟩
                  | _=>none
                | _=>none
              | none=>none
            | none=>none
          | none=>none
        | none=>none
      | _=>none
    | false=>none
  | _=>none
where cntL (o:Obj):Nat:=match o.data with
  | .seq _ n=>n
  | _=>0
theorem eqVV_is (x y:Value) (h:eqVV x y = true):MeetsSeq.EqGives x y true:=by
  cases x <;> try exact Bool.noConfusion h
  · rename_i a t
    cases y <;> try exact Bool.noConfusion h
    rename_i b u
    have:=MeetsSeq.EqGives.int a b t u
    rw [show (a == b) = true from h] at this
    exact this
  · rename_i a t
    cases y <;> try exact Bool.noConfusion h
    rename_i b u
    intro prog w A E s Q hq
    refine eqBool_bytes ?_
    have e:a.toList = b.toList:=beq_iff_eq.mp h
    rw [decide_eq_true e]
    exact hq
section
variable {V:Vw} {prog:Program} {w:World} {b:Bs}
theorem icListNeT_ok:IcOk V (model prog w) b icListNeT:=by
  intro Γ c hs sz tk m T p s R κ hst _ _ r H
  obtain ⟨y,e,hob,hd,hR⟩:=H fun _=>0
  unfold icListNeT at e
  split at e <;> try cases e
  rename_i id l b2
  split at e <;> try cases e
  rename_i hid
  have hid':id = "list.__ne__":=PySem.code_inj _ _ ((Nat.eq_of_beq_eq_true hid).trans (by decide+kernel))
  subst hid'
  split at e <;> try cases e
  rename_i i j k n hs'
  split at e <;> try cases e
  rename_i e1 hT1
  split at e <;> try cases e
  rename_i e2 hT2
  split at e <;> try cases e
  rename_i e3 hT3
  split at e <;> try cases e
  rename_i e4 hT4
  split at e <;> try cases e
  rename_i xs c1 hd1
  split at e <;> try cases e
  rename_i ys c2 hd2
  have q1:l = e1.1:=by injection hob _ (.head _)
  have q2:b2 = e2.1:=by injection hob _ (.tail _ (.head _))
  have q3:=hob _ (.tail _ (.tail _ (.head _)))
  have q3:e1.2 = ⟨.type "list",none,.seq ⟨[.ref e3.1]⟩ (icListNeT.cntL e1.2),⟨[]⟩⟩:=by injection q3
  have q4:=hob _ (.tail _ (.tail _ (.tail _ (.head _))))
  have q4:e2.2 = ⟨.type "list",none,.seq ⟨[.ref e4.1]⟩ (icListNeT.cntL e2.2),⟨[]⟩⟩:=by injection q4
  have q5:e3.2 = ⟨.type "tuple",none,.seq xs c1,⟨[]⟩⟩:=by injection hob _ (.tail _ (.tail _ (.tail _ (.tail _ (.head _)))))
  have q6:e4.2 = ⟨.type "tuple",none,.seq ys c2,⟨[]⟩⟩:=by injection hob _ (.tail _ (.tail _ (.tail _ (.tail _ (.tail _ (.head _))))))
  have k1:(!(Nat.beq k n)) = true:=hd _ (.head _)
  have k2:unitsB (stk κ V.B) = true:=hd _ (.tail _ (.head _))
  have k3:eqVs xs.toList ys.toList = true:=hd _ (.tail _ (.tail _ (.head _)))
  have hkn:k≠n:=by
    intro q
    subst q
    rw [Nat.beq_refl] at k1
    cases k1
  have hne:e3.1≠e4.1:=fun q=>hkn (r.inj k n e3.1 e3.2 e4.2 hT3 (q▸hT4))
  have hl:s.heap.get? l = some ⟨.type "list",none,.seq ⟨[.ref e3.1]⟩ (icListNeT.cntL e1.2),⟨[]⟩⟩:=by rw [q1,←q3];exact (r.own i e1.1 e1.2 hT1).2.1
  have hb:s.heap.get? b2 = some ⟨.type "list",none,.seq ⟨[.ref e4.1]⟩ (icListNeT.cntL e2.2),⟨[]⟩⟩:=by rw [q2,←q4];exact (r.own j e2.1 e2.2 hT2).2.1
  have ht1:s.heap.get? e3.1 = some ⟨.type "tuple",none,.seq xs c1,⟨[]⟩⟩:=by rw [←q5];exact (r.own k e3.1 e3.2 hT3).2.1
  have ht2:s.heap.get? e4.1 = some ⟨.type "tuple",none,.seq ys c2,⟨[]⟩⟩:=by rw [←q6];exact (r.own n e4.1 e4.2 hT4).2.1
  have hlen:xs.size = ys.size:=by
    have:=eqLs_len k3
    rw [Array.length_toList,Array.length_toList] at this
    exact this
  have hu:(A0 Γ).units < 9000:=by
    have e:Γ.units = ((stk κ V.B).map (·.1.cUnits)).sum:=by
      rw [←hst]
      rfl
    show Γ.units < 9000
    rw [e]
    exact Nat.le_of_ble_eq_true k2
  refine ic_call (call_meets F.slot_list_ne (Heap.IsList.typeIs ⟨_,hl,rfl,_,rfl⟩) F.entry_list_ne (F.args_list_ne_2 _ _) (SeqAt.list_neAt l b2 ⟨[.ref e3.1]⟩ ⟨[.ref e4.1]⟩ (icListNeT.cntL e1.2) (icListNeT.cntL e2.2) none none ⟨[]⟩ ⟨[]⟩ rfl (fun _=>true)) ⟨hl,hb,fun j h1 h2=>?_,?_⟩)
  · have hj:j = 0:=by
      have:j < 1:=h1
      omega
    subst hj
    refine SeqAt.EqAt.of_refs hne ?_
    have z:=SeqAt.RcAt.tuples (A:=(A0 Γ).in1) (s:=s) (l:=e3.1) (b:=e4.1) (items:=xs) (items2:=ys) (e:=fun _=>true) ⟨_,ht1,rfl,_,rfl⟩ ⟨_,ht2,rfl,_,rfl⟩ (by
      show (A0 Γ).units+1 < 9900
      omega) (fun j h1 h2=>by
        have:=eqLs_at eqVV_is k3 j (by rw [Array.length_toList];exact h1) (by rw [Array.length_toList];exact h2)
        rw [Array.getElem_toList,Array.getElem_toList] at this
        exact this.at _ _)
    have e:((List.range (min xs.size ys.size)).all (fun _=>true) && xs.size == ys.size) = true:=by simp [hlen]
    rw [e] at z
    exact z
  · exact hR s r
end
end
end Mine
namespace Mine
noncomputable section
open PySem PySem.W PyProof.Rows
noncomputable def eqVG (x y:Value):Bool:=match x with
  | .str a _=>match y with
    | .str b _=>eqS a b
    | _=>false
  | .bytes a _=>match y with
    | .bytes b _=>a.toList == b.toList
    | _=>false
  | .bool a=>match y with
    | .bool b=>a == b
    | _=>false
  | _=>false
theorem eqVG_is (x y:Value) (h:eqVG x y = true):MeetsSeq.EqGives x y true:=by
  cases x <;> try exact Bool.noConfusion h
  · rename_i a
    cases y <;> try exact Bool.noConfusion h
    rename_i b
    intro prog w A E s Q hq
    have z:=SeqAt.EqAt.bool_bool (A:=A) (s:=s) a b
    rw [show (a == b) = true from h] at z
    exact z prog w E Q hq
  · rename_i a t
    cases y <;> try exact Bool.noConfusion h
    rename_i b u
    have e:a = b:=eqS_is.mp h
    intro prog w A E s Q hq
    have z:=SeqAt.EqAt.str_str (A:=A) (s:=s) a t b u
    rw [beq_iff_eq.mpr e] at z
    exact z prog w E Q hq
  · rename_i a t
    cases y <;> try exact Bool.noConfusion h
    rename_i b u
    intro prog w A E s Q hq
    refine eqBool_bytes ?_
    have e:a.toList = b.toList:=beq_iff_eq.mp h
    rw [decide_eq_true e]
    exact hq
noncomputable def eqGs:List Value→List Value→Bool:=eqLs eqVG
noncomputable def icListEqG:Icpt:=fun _ _ c hs sz tk m T=>match c with
  | .call (.builtin id) ⟨[.ref l,.ref b],[]⟩=>match Nat.beq (PySem.code id) nListEq with
    | true => match hs with
      | i ::j::hs=>match T.get i with
        | some e=>match T.get j with
          | some f=>match e.2.data with
            | .seq xs n=>match f.2.data with
              | .seq ys n2=>some ⟨.ok (.ret (.bool true)),hs,sz,tk,m,T,[(.n l,.n e.1),(.n b,.n f.1),(.o e.2,.o ⟨.type "list",none,.seq xs n,#[]⟩),(.o f.2,.o ⟨.type "list",none,.seq ys n2,#[]⟩)],[eqGs xs.toList ys.toList]⟩
              | _=>none
            | _=>none
          | none=>none
        | none=>none
      | _=>none
    | false=>none
  | _=>none
section
variable {V:Vw} {prog:Program} {w:World} {b:Bs}
theorem icListEqG_ok:IcOk V (model prog w) b icListEqG:=by
  intro Γ c hs sz tk m T p s R κ _ _ _ r H
  obtain ⟨y,e,hob,hd,hR⟩:=H fun _=>0
  unfold icListEqG at e
  split at e <;> try cases e
  rename_i id l b2
  split at e <;> try cases e
  rename_i hid
  have hid':id = "list.__eq__":=PySem.code_inj _ _ ((Nat.eq_of_beq_eq_true hid).trans (by decide+kernel))
  subst hid'
  split at e <;> try cases e
  rename_i i j hs'
  split at e <;> try cases e
  rename_i e1 hT
  split at e <;> try cases e
  rename_i e2 hT2
  split at e <;> try cases e
  rename_i xs n hdata
  split at e <;> try cases e
  rename_i ys n2 hdata2
  have q1:l = e1.1:=by injection hob _ (.head _)
  have q2:b2 = e2.1:=by injection hob _ (.tail _ (.head _))
  have q3:e1.2 = ⟨.type "list",none,.seq xs n,#[]⟩:=by injection hob _ (.tail _ (.tail _ (.head _)))
  have q4:e2.2 = ⟨.type "list",none,.seq ys n2,#[]⟩:=by injection hob _ (.tail _ (.tail _ (.tail _ (.head _))))
  have hall:eqGs xs.toList ys.toList = true:=hd _ (.head _)
  have hl:s.heap.get? l = some {cls:= .type "list",dict:=none,data:= .seq xs n,slots:=#[]}:=by rw [q1,←q3];exact (r.own i e1.1 e1.2 hT).2.1
  have hb:s.heap.get? b2 = some {cls:= .type "list",dict:=none,data:= .seq ys n2,slots:=#[]}:=by rw [q2,←q4];exact (r.own j e2.1 e2.2 hT2).2.1
  have hsz:xs.size = ys.size:=by
    have:=eqLs_len hall
    rw [Array.length_toList,Array.length_toList] at this
    exact this
  refine ic_call (call_meets F.slot_list_eq (Heap.IsList.typeIs ⟨_,hl,rfl,n,rfl⟩) F.entry_list_eq (F.args_list_eq_2 _ _) (MeetsSeq3.list_eq l b2 xs ys n n2 hsz (fun _=>true) fun j h1 h2=>?_) ⟨hl,hb,?_⟩)
  · have:=eqLs_at eqVG_is hall j (by rw [Array.length_toList];exact h1) (by rw [Array.length_toList];exact h2)
    rw [Array.getElem_toList,Array.getElem_toList] at this
    exact this
  · have:((List.range xs.size).all fun _=>true) = true:=by simp
    rw [this]
    exact hR s r
end
end
end Mine
namespace Mine
noncomputable section
open PySem PySem.W
noncomputable def icO3 (w:World) (k:Nat):Icpt:=match k with
  | 21=>icOf2 w ctRD1
  | 22=>icOf2 w ctRD2
  | 23=>icListNeT
  | 24=>icListEqG
  | k=>icO2 w k
theorem icO3_own {w:World}:OwnOk w (icO3 w):=by
  intro b V j hkt hb hp hw hd
  unfold icO3
  split
  · exact icOf2_ok (okRD1 w) hkt hb
  · exact icOf2_ok (okRD2 w) hkt hb
  · exact icListNeT_ok
  · exact icListEqG_ok
  · exact icO2_own b V _ hkt hb hp hw hd
end
end Mine
namespace Mine
open PySem PySem.W
noncomputable section
noncomputable def hOR1 (R:Int) (A:Array UInt8):NL:=g381 ((cR R A (-3) (0))::g382 ((cR R A (-3) (1))::g383 (47::9::107::8::106::4::12::61::g384 (64::66::38::59::14::17::65::49::68::0::g385 (118::1::116::g386 (114::118::116::122::120::g387 (123::0::123::123::0::123::123::119::124::119::1::0::g305 (g305 (g388 (48::g389 (g384 (64::66::38::58::59::14::17::65::49::113::114::106::0::2::0::2::125::125::1::0::125::129::1::127::129::0::129::129::129::125::129::127::0::131::129::131::126::g7 (126::g7 (126::g6 (126::128::g9 (132::130::0::g193 (g193 (g193 (g193 (g193 (g193 (g193 (0::132::130::132::0::0::g193 (g9 (g193 (g7 (133::134::133::0::133::134::133::134::18::128::129::0::129::129::129::125::129::127::137::131::131::129::2::2::2::2::2::15::(cR R A (-2) (1))::2::3::130::139::130::1::57::128::137::133::136::g390 (55::g391 (141::139::0::141::g151 (0::0::141::g151 (0::140::0::140::140::g122 (2::g9 (143::141::0::143::144::144::34::142::143::145::145::34::143::2::142::146::142::1::58::140::144::[])))))))))))))))))))))))))))))))))
noncomputable def nOR1 (w:World) (L:Lt) (R:Int) (A:Array UInt8) (Y:Nat→Nat):List Ent:=[]
noncomputable def cOR1 (L:Lt) (R:Int) (A:Array UInt8):Code:=(.call (.ref 1503) ⟨[.int R (L.U 0),.str q217 (L.U 1),.bytes A (L.U 2),.bool false],[]⟩)
noncomputable def ctOR1:Ct2 where
  np:=0
  aI:=[]
  uI:=[1,2,3]
  iI:=[0]
  bI:=[0]
  code _ L:=cOR1 L (L.I 0) (L.B 0)
  ents w L:=[]
  posts w L Y:=[]
  news w L Y:=nOR1 w L (L.I 0) (L.B 0) Y
  nn:=0
  res w L Y:=(.ret (.bool true))
  ds L:=[dom (L.I 0) (L.B 0)]
  sh:=shapeB [1,0,2]
noncomputable def yOR1 (sz tk:Nat) (ω:Nat→Nat):List Nat:=[]
noncomputable def dOR1 (R:Int) (A:Array UInt8):List Bool:=[(true && ((A.toList == A.toList) && (true && true))),true,true,true,true,true,true,true,true,true,true,true,true,dom R A,true,true,(((80:Int) == 80) && (((90:Int) == 90) && (((21:Int) == 21) && ((((((cR R A (-2) (1)):Nat):Int):Int) == (((cR R A (-2) (1)):Nat):Int)) && (((16:Int) == 16) && ((((((cR R A (15) (-1)):Nat):Int):Int) == (15 - ((A.size:Nat):Int))) && (((0:Int) == 0) && (((⟨[]⟩:Array UInt8).toList == (⟨[]⟩:Array UInt8).toList) && (((⟨[]⟩:Array UInt8).toList == (⟨[]⟩:Array UInt8).toList) && true))))))))),!(R == 0),Int.fmod (((R - 3)+((A.size:Nat):Int))+1) R == (((cR R A (-2) (1)):Nat):Int),true,true,true,true,true,true,true,true,true,true,true,true,true,true,true,true,true,true,true,true,true,true,true,true,true,true,true,true,true,true,true,true,true,true,true,true,true,true,true,true,true,true,true,true,true,true,true,true,true,true,true,true,true,dom R A,true,true,true,true,true,true,true,true,true,true,true,true,true,true,true,true,true,true,true,true,true,true,true,true,true,true,true,true,true,true,true,true,true,true,true,true,true,true,true,true,true,true,true,true,true,true,true,true,true,true,dom R A,!(R == 0),Int.fmod ((R - 3)+((A.size:Nat):Int)) R == (((cR R A (-3) (1)):Nat):Int),Nat.ble A.size 1000,true,true,true,true,!(R == 0),Int.fmod ((((cR R A (-3) (0)):Nat):Int)+16) R == ((13:Nat):Int),true,!(R == 0),Int.fmod ((R - 4)+1) R == (((cR R A (-3) (0)):Nat):Int),true,true,true,true,true,true,true,true,true,true,true,true,true,true,true,true,true,true]
theorem dOR1_all:∀k,k < 14→((dOR1 128 (bytesN (k+1))).all id && (dOR1 4294967296 (bytesN (k+1))).all id) = true:=by decide+kernel
theorem rOR1 (w:World) (L:Lt) (f:Fm) (p:Pos) (ω:Nat→Nat) (sz tk:Nat):
  RunIs (sim (VW w (icO3 w) (mkSt f 0 [1,0,2])) 6699 ω (hOR1 (L.I 0) (L.B 0)) (denQ (ctOR1.code w (up L))) (ctOR1.code w (up L)) p [] (sz+10) tk 0 (treeOf (ctOR1.ents w (up L))) [] [])
   (.ok (ctOR1.res w (up L) (rd (yOR1 sz tk ω)))) [] (ctOR1.posts w (up L) (rd (yOR1 sz tk ω))++ctOR1.news w (up L) (rd (yOR1 sz tk ω)))
   (dOR1 (L.I 0) (L.B 0)):=⟨by kernel_rfl⟩
theorem okOR1 (w:World):Ct2Ok w ctOR1:=ct2_okc (own:=(icO3 w)) (ks:=[1,0,2]) rfl icO3_own (fun _ _=>by kernel_rfl) (fun _ _=>by kernel_rfl) (fun _=>by kernel_rfl) fun L hd=>
  ⟨6699,hOR1 (L.I 0) (L.B 0),[],yOR1,fun _ _ _=>dOR1 (L.I 0) (L.B 0),rfl,fun _ _ _=>dom_all dOR1_all (hd _ (.head _)),fun f p ω sz tk=>castK (by kernel_rfl) (rOR1 w L f p ω sz tk)⟩
end
end Mine
namespace Mine
open PySem PySem.W
noncomputable section
noncomputable def hOR2 (R:Int) (A:Array UInt8):NL:=g381 ((cR R A (-3) (0))::g382 ((cR R A (-3) (1))::g383 (49::g389 (g384 (64::66::59::14::17::65::68::106::0::g385 (119::1::117::g392 (g256 (121::119::121::115::g7 (115::g7 (115::g6 (115::117::g9 (122::120::0::g153 (g153 (g153 (g106 (0::122::120::122::0::0::g106 (g9 (g106 (g7 (123::124::123::0::123::124::123::124::18::118::g392 (119::117::127::121::121::119::g387 (128::0::128::128::0::128::128::120::129::120::1::57::118::127::123::116::g388 (50::9::107::8::106::4::6::7::12::61::g384 (64::66::59::14::17::65::114::0::2::0::2::130::130::1::0::130::134::1::132::134::0::134::134::134::130::134::132::0::136::134::136::131::g7 (131::g7 (131::g6 (131::133::g9 (137::135::0::g194 (g194 (g194 (g194 (g194 (g194 (g194 (0::137::135::137::0::0::g194 (g9 (g194 (g7 (138::139::138::0::138::139::138::139::18::133::134::0::134::134::134::130::134::132::142::136::136::134::2::2::2::2::2::15::(cR R A (-2) (1))::2::3::135::144::135::1::57::133::142::138::141::g390 (56::g391 (146::144::0::146::g151 (0::0::146::g151 (0::145::0::145::145::g122 (2::g9 (148::146::0::148::149::149::34::147::148::150::150::34::148::2::147::151::147::1::58::145::149::[])))))))))))))))))))))))))))))))))))))))))))))
noncomputable def nOR2 (w:World) (L:Lt) (R:Int) (A:Array UInt8) (Y:Nat→Nat):List Ent:=[]
noncomputable def cOR2 (L:Lt) (R:Int) (A:Array UInt8):Code:=(.call (.ref 1503) ⟨[.int R (L.U 0),.str q217 (L.U 1),.bytes A (L.U 2),.bool true],[]⟩)
noncomputable def ctOR2:Ct2 where
  np:=0
  aI:=[]
  uI:=[1,2,3]
  iI:=[0]
  bI:=[0]
  code _ L:=cOR2 L (L.I 0) (L.B 0)
  ents w L:=[]
  posts w L Y:=[]
  news w L Y:=nOR2 w L (L.I 0) (L.B 0) Y
  nn:=0
  res w L Y:=(.ret (.bool true))
  ds L:=[dom (L.I 0) (L.B 0)]
  sh:=shapeB [1,0,2]
noncomputable def yOR2 (sz tk:Nat) (ω:Nat→Nat):List Nat:=[]
noncomputable def dOR2 (R:Int) (A:Array UInt8):List Bool:=[(true && ((A.toList == A.toList) && (true && true))),true,true,true,true,true,true,true,true,true,true,true,true,dom R A,true,true,(((80:Int) == 80) && (((90:Int) == 90) && (((21:Int) == 21) && ((((((cR R A (-2) (1)):Nat):Int):Int) == (((cR R A (-2) (1)):Nat):Int)) && (((16:Int) == 16) && ((((((cR R A (15) (-1)):Nat):Int):Int) == (15 - ((A.size:Nat):Int))) && (((0:Int) == 0) && (((⟨[]⟩:Array UInt8).toList == (⟨[]⟩:Array UInt8).toList) && (((⟨[]⟩:Array UInt8).toList == (⟨[]⟩:Array UInt8).toList) && true))))))))),!(R == 0),Int.fmod (((R - 3)+((A.size:Nat):Int))+1) R == (((cR R A (-2) (1)):Nat):Int),true,true,true,true,true,true,true,true,true,true,true,true,true,true,true,true,true,true,true,true,true,true,true,true,true,true,true,true,true,true,true,true,true,true,true,dom R A,true,true,(((80:Int) == 80) && (((90:Int) == 90) && (((21:Int) == 21) && ((((((cR R A (-3) (0)):Nat):Int):Int) == (R - 3)) && (((16:Int) == 16) && (((16:Int) == 16) && (((0:Int) == 0) && (((⟨[]⟩:Array UInt8).toList == (⟨[]⟩:Array UInt8).toList) && (((⟨[]⟩:Array UInt8).toList == (⟨[]⟩:Array UInt8).toList) && true))))))))),true,true,true,true,true,true,true,true,true,true,true,true,true,true,true,true,true,true,true,true,true,true,true,true,true,true,true,true,true,true,true,true,true,true,true,true,dom R A,!(R == 0),Int.fmod ((R - 3)+((A.size:Nat):Int)) R == (((cR R A (-3) (1)):Nat):Int),Nat.ble A.size 1000,true,true,true,true,!(R == 0),Int.fmod ((((cR R A (-3) (0)):Nat):Int)+16) R == ((13:Nat):Int),true,!(R == 0),Int.fmod ((R - 4)+1) R == (((cR R A (-3) (0)):Nat):Int),true,true,true,true,true,true,true,true,true,true,true,true,true,true,true,true,true,true]
theorem dOR2_all:∀k,k < 14→((dOR2 128 (bytesN (k+1))).all id && (dOR2 4294967296 (bytesN (k+1))).all id) = true:=by decide+kernel
theorem rOR2 (w:World) (L:Lt) (f:Fm) (p:Pos) (ω:Nat→Nat) (sz tk:Nat):
  RunIs (sim (VW w (icO3 w) (mkSt f 0 [1,0,2])) 6977 ω (hOR2 (L.I 0) (L.B 0)) (denQ (ctOR2.code w (up L))) (ctOR2.code w (up L)) p [] (sz+10) tk 0 (treeOf (ctOR2.ents w (up L))) [] [])
   (.ok (ctOR2.res w (up L) (rd (yOR2 sz tk ω)))) [] (ctOR2.posts w (up L) (rd (yOR2 sz tk ω))++ctOR2.news w (up L) (rd (yOR2 sz tk ω)))
   (dOR2 (L.I 0) (L.B 0)):=⟨by kernel_rfl⟩
theorem okOR2 (w:World):Ct2Ok w ctOR2:=ct2_okc (own:=(icO3 w)) (ks:=[1,0,2]) rfl icO3_own (fun _ _=>by kernel_rfl) (fun _ _=>by kernel_rfl) (fun _=>by kernel_rfl) fun L hd=>
  ⟨6977,hOR2 (L.I 0) (L.B 0),[],yOR2,fun _ _ _=>dOR2 (L.I 0) (L.B 0),rfl,fun _ _ _=>dom_all dOR2_all (hd _ (.head _)),fun f p ω sz tk=>castK (by kernel_rfl) (rOR2 w L f p ω sz tk)⟩
end
end Mine
namespace Mine
open PySem PySem.W
noncomputable section
noncomputable def hOR3 (R:Int) (A:Array UInt8):NL:=g381 ((cR R A (-3) (0))::g382 ((cR R A (-3) (1))::g383 (51::9::107::8::106::4::12::61::g506 (59::14::65::49::68::0::g385 (118::1::116::g386 (114::118::116::122::120::g387 (123::0::123::123::0::123::123::119::124::119::1::0::g305 (g305 (g388 (52::g389 (g506 (58::59::14::65::49::54::113::114::106::0::2::0::2::125::125::1::0::125::130::1::128::130::0::130::130::130::125::130::128::0::132::130::132::126::g7 (126::g7 (126::g6 (126::129::g9 (133::131::0::g195 (g195 (g195 (g195 (g195 (g195 (g195 (0::133::131::133::0::0::g195 (g9 (g195 (g7 (134::135::134::0::134::135::134::135::18::129::130::0::130::130::130::125::130::128::138::132::132::130::2::2::2::2::2::15::(cR R A (-2) (1))::2::3::131::140::131::1::57::129::138::134::137::g390 (55::g391 (142::140::0::142::g151 (0::0::142::g151 (0::141::0::141::141::g122 (2::g9 (144::142::0::144::145::145::34::143::144::146::146::34::144::1::g7 (147::147::145::147::1::g7 (147::147::145::147::147::147::147::147::144::144::36::145::2::143::148::143::1::58::141::146::[])))))))))))))))))))))))))))))))))))
noncomputable def nOR3 (w:World) (L:Lt) (R:Int) (A:Array UInt8) (Y:Nat→Nat):List Ent:=[]
noncomputable def cOR3 (L:Lt) (R:Int) (A:Array UInt8):Code:=(.call (.ref 1503) ⟨[.int R (L.U 0),.str q221 (L.U 1),.bytes A (L.U 2),.bool false],[]⟩)
noncomputable def ctOR3:Ct2 where
  np:=0
  aI:=[]
  uI:=[1,2,3]
  iI:=[0]
  bI:=[0]
  code _ L:=cOR3 L (L.I 0) (L.B 0)
  ents w L:=[]
  posts w L Y:=[]
  news w L Y:=nOR3 w L (L.I 0) (L.B 0) Y
  nn:=0
  res w L Y:=(.ret (.bool true))
  ds L:=[dom (L.I 0) (L.B 0)]
  sh:=shapeB [1,0,2]
noncomputable def yOR3 (sz tk:Nat) (ω:Nat→Nat):List Nat:=[]
noncomputable def dOR3 (R:Int) (A:Array UInt8):List Bool:=[(true && ((A.toList == A.toList) && (true && true))),true,true,true,true,true,true,true,true,true,true,true,true,true,true,dom R A,true,true,(((80:Int) == 80) && (((90:Int) == 90) && (((21:Int) == 21) && ((((((cR R A (-2) (1)):Nat):Int):Int) == (((cR R A (-2) (1)):Nat):Int)) && (((16:Int) == 16) && ((((((cR R A (15) (-1)):Nat):Int):Int) == (15 - ((A.size:Nat):Int))) && (((0:Int) == 0) && (((⟨[]⟩:Array UInt8).toList == (⟨[]⟩:Array UInt8).toList) && (((⟨[]⟩:Array UInt8).toList == (⟨[]⟩:Array UInt8).toList) && true))))))))),!(R == 0),Int.fmod (((R - 3)+((A.size:Nat):Int))+1) R == (((cR R A (-2) (1)):Nat):Int),true,true,true,true,true,true,true,true,true,true,true,true,true,true,true,true,true,true,true,true,true,true,true,true,true,true,true,true,true,true,true,true,true,true,true,true,true,true,true,true,true,true,true,true,true,true,true,true,true,true,true,dom R A,true,true,true,true,true,true,true,true,true,true,true,true,true,true,true,true,true,true,true,true,true,true,true,true,true,true,true,true,true,true,true,true,true,true,true,true,true,true,true,true,true,true,true,true,true,true,true,true,dom R A,!(R == 0),Int.fmod ((R - 3)+((A.size:Nat):Int)) R == (((cR R A (-3) (1)):Nat):Int),Nat.ble A.size 1000,true,true,true,true,!(R == 0),Int.fmod ((((cR R A (-3) (0)):Nat):Int)+16) R == ((13:Nat):Int),true,!(R == 0),Int.fmod ((R - 4)+1) R == (((cR R A (-3) (0)):Nat):Int),true,true,true,true,true,true,true,true,true,true,true,true,true,true,true,true,true,true]
theorem dOR3_all:∀k,k < 14→((dOR3 128 (bytesN (k+1))).all id && (dOR3 4294967296 (bytesN (k+1))).all id) = true:=by decide+kernel
theorem rOR3 (w:World) (L:Lt) (f:Fm) (p:Pos) (ω:Nat→Nat) (sz tk:Nat):
  RunIs (sim (VW w (icO3 w) (mkSt f 0 [1,0,2])) 6743 ω (hOR3 (L.I 0) (L.B 0)) (denQ (ctOR3.code w (up L))) (ctOR3.code w (up L)) p [] (sz+10) tk 0 (treeOf (ctOR3.ents w (up L))) [] [])
   (.ok (ctOR3.res w (up L) (rd (yOR3 sz tk ω)))) [] (ctOR3.posts w (up L) (rd (yOR3 sz tk ω))++ctOR3.news w (up L) (rd (yOR3 sz tk ω)))
   (dOR3 (L.I 0) (L.B 0)):=⟨by kernel_rfl⟩
theorem okOR3 (w:World):Ct2Ok w ctOR3:=ct2_okc (own:=(icO3 w)) (ks:=[1,0,2]) rfl icO3_own (fun _ _=>by kernel_rfl) (fun _ _=>by kernel_rfl) (fun _=>by kernel_rfl) fun L hd=>
  ⟨6743,hOR3 (L.I 0) (L.B 0),[],yOR3,fun _ _ _=>dOR3 (L.I 0) (L.B 0),rfl,fun _ _ _=>dom_all dOR3_all (hd _ (.head _)),fun f p ω sz tk=>castK (by kernel_rfl) (rOR3 w L f p ω sz tk)⟩
end
end Mine
namespace Mine
open PySem PySem.W
noncomputable section
noncomputable def hOR4 (R:Int) (A:Array UInt8):NL:=g381 ((cR R A (-3) (0))::g382 ((cR R A (-3) (1))::g383 (53::g389 (31::34::3::11::60::30::33::15::64::66::59::14::65::68::106::0::g385 (119::1::117::g392 (g256 (121::119::121::115::g7 (115::g7 (115::g6 (115::117::g9 (122::120::0::g153 (g153 (g153 (g106 (0::122::120::122::0::0::g106 (g9 (g106 (g7 (123::124::123::0::123::124::123::124::18::118::g392 (119::117::127::121::121::119::g387 (128::0::128::128::0::128::128::120::129::120::1::57::118::127::123::116::g388 (54::9::107::8::106::4::6::7::12::61::g506 (59::14::65::54::114::0::2::0::2::130::130::1::0::130::135::1::133::135::0::135::135::135::130::135::133::0::137::135::137::131::g7 (131::g7 (131::g6 (131::134::g9 (138::136::0::g196 (g196 (g196 (g196 (g196 (g196 (g196 (0::138::136::138::0::0::g196 (g9 (g196 (g7 (139::140::139::0::139::140::139::140::18::134::135::0::135::135::135::130::135::133::143::137::137::135::2::2::2::2::2::15::(cR R A (-2) (1))::2::3::136::145::136::1::57::134::143::139::142::g390 (56::g391 (147::145::0::147::g151 (0::0::147::g151 (0::146::0::146::146::g122 (2::g9 (149::147::0::149::150::150::34::148::149::151::151::34::149::1::g7 (152::152::150::152::1::g7 (152::152::150::152::152::152::152::152::149::149::36::150::2::148::153::148::1::58::146::151::[]))))))))))))))))))))))))))))))))))))))))))))))
noncomputable def nOR4 (w:World) (L:Lt) (R:Int) (A:Array UInt8) (Y:Nat→Nat):List Ent:=[]
noncomputable def cOR4 (L:Lt) (R:Int) (A:Array UInt8):Code:=(.call (.ref 1503) ⟨[.int R (L.U 0),.str q221 (L.U 1),.bytes A (L.U 2),.bool true],[]⟩)
noncomputable def ctOR4:Ct2 where
  np:=0
  aI:=[]
  uI:=[1,2,3]
  iI:=[0]
  bI:=[0]
  code _ L:=cOR4 L (L.I 0) (L.B 0)
  ents w L:=[]
  posts w L Y:=[]
  news w L Y:=nOR4 w L (L.I 0) (L.B 0) Y
  nn:=0
  res w L Y:=(.ret (.bool true))
  ds L:=[dom (L.I 0) (L.B 0)]
  sh:=shapeB [1,0,2]
noncomputable def yOR4 (sz tk:Nat) (ω:Nat→Nat):List Nat:=[]
noncomputable def dOR4 (R:Int) (A:Array UInt8):List Bool:=[(true && ((A.toList == A.toList) && (true && true))),true,true,true,true,true,true,true,true,true,true,true,true,true,true,dom R A,true,true,(((80:Int) == 80) && (((90:Int) == 90) && (((21:Int) == 21) && ((((((cR R A (-2) (1)):Nat):Int):Int) == (((cR R A (-2) (1)):Nat):Int)) && (((16:Int) == 16) && ((((((cR R A (15) (-1)):Nat):Int):Int) == (15 - ((A.size:Nat):Int))) && (((0:Int) == 0) && (((⟨[]⟩:Array UInt8).toList == (⟨[]⟩:Array UInt8).toList) && (((⟨[]⟩:Array UInt8).toList == (⟨[]⟩:Array UInt8).toList) && true))))))))),!(R == 0),Int.fmod (((R - 3)+((A.size:Nat):Int))+1) R == (((cR R A (-2) (1)):Nat):Int),true,true,true,true,true,true,true,true,true,true,true,true,true,true,true,true,true,true,true,true,true,true,true,true,true,true,true,true,true,true,true,true,true,true,true,true,true,true,true,true,true,true,true,true,true,true,true,true,true,dom R A,true,true,(((80:Int) == 80) && (((90:Int) == 90) && (((21:Int) == 21) && ((((((cR R A (-3) (0)):Nat):Int):Int) == (R - 3)) && (((16:Int) == 16) && (((16:Int) == 16) && (((0:Int) == 0) && (((⟨[]⟩:Array UInt8).toList == (⟨[]⟩:Array UInt8).toList) && (((⟨[]⟩:Array UInt8).toList == (⟨[]⟩:Array UInt8).toList) && true))))))))),true,true,true,true,true,true,true,true,true,true,true,true,true,true,true,true,true,true,true,true,true,true,true,true,true,true,true,true,true,true,true,true,true,true,dom R A,!(R == 0),Int.fmod ((R - 3)+((A.size:Nat):Int)) R == (((cR R A (-3) (1)):Nat):Int),Nat.ble A.size 1000,true,true,true,true,!(R == 0),Int.fmod ((((cR R A (-3) (0)):Nat):Int)+16) R == ((13:Nat):Int),true,!(R == 0),Int.fmod ((R - 4)+1) R == (((cR R A (-3) (0)):Nat):Int),true,true,true,true,true,true,true,true,true,true,true,true,true,true,true,true,true,true]
theorem dOR4_all:∀k,k < 14→((dOR4 128 (bytesN (k+1))).all id && (dOR4 4294967296 (bytesN (k+1))).all id) = true:=by decide+kernel
theorem rOR4 (w:World) (L:Lt) (f:Fm) (p:Pos) (ω:Nat→Nat) (sz tk:Nat):
  RunIs (sim (VW w (icO3 w) (mkSt f 0 [1,0,2])) 7021 ω (hOR4 (L.I 0) (L.B 0)) (denQ (ctOR4.code w (up L))) (ctOR4.code w (up L)) p [] (sz+10) tk 0 (treeOf (ctOR4.ents w (up L))) [] [])
   (.ok (ctOR4.res w (up L) (rd (yOR4 sz tk ω)))) [] (ctOR4.posts w (up L) (rd (yOR4 sz tk ω))++ctOR4.news w (up L) (rd (yOR4 sz tk ω)))
   (dOR4 (L.I 0) (L.B 0)):=⟨by kernel_rfl⟩
theorem okOR4 (w:World):Ct2Ok w ctOR4:=ct2_okc (own:=(icO3 w)) (ks:=[1,0,2]) rfl icO3_own (fun _ _=>by kernel_rfl) (fun _ _=>by kernel_rfl) (fun _=>by kernel_rfl) fun L hd=>
  ⟨7021,hOR4 (L.I 0) (L.B 0),[],yOR4,fun _ _ _=>dOR4 (L.I 0) (L.B 0),rfl,fun _ _ _=>dom_all dOR4_all (hd _ (.head _)),fun f p ω sz tk=>castK (by kernel_rfl) (rOR4 w L f p ω sz tk)⟩
end
end Mine
namespace Mine
open PySem PySem.W
noncomputable section
noncomputable def codO (L:Lt) (st:Str) (v:Value):Code:= .call (.ref 1503) ⟨[.int (L.I 0) (L.U 0),.str st (L.U 1),.bytes (L.B 0) (L.U 2),v],[]⟩
noncomputable def ctO0 (st:Str):Ct2 where
  np:=0
  aI:=[]
  uI:=[1,2,3]
  iI:=[0]
  bI:=[0]
  vI:=[4]
  code _ L:=codO L st (L.V 0)
  ents _ _:=[]
  posts _ _ _:=[]
  news _ _ _:=[]
  nn:=0
  res _ _ _:= .ret (.bool true)
  ds L:=[dom (L.I 0) (L.B 0),isB (L.V 0)]
  sh:=shapeB [1,0,2]
def stE:Str:=q217
def ctOe:Ct2:=ctO0 stE
def ctOf:Ct2:=ctO0 stF
theorem okO0 (w:World) (st:Str) (a b:Ct2) (ha:Ct2Ok w a) (hb:Ct2Ok w b)
    (ea:∀L,L.V 0 = .bool false→(∀d∈(ctO0 st).ds (up L),d = true)→(a.sh = (ctO0 st).sh∧(∀d∈a.ds (up L),d = true)∧(∀x∈a.obs (up L),x.1 = x.2)∧a.code w (up L) = (ctO0 st).code w (up L)∧a.ents w (up L) = []∧(∀Y,a.posts w (up L) Y = [])∧(∀Y,a.news w (up L) Y = [])∧a.nn = 0∧(∀Y,a.res w (up L) Y = .ret (.bool true))))
    (eb:∀L,L.V 0 = .bool true→(∀d∈(ctO0 st).ds (up L),d = true)→(b.sh = (ctO0 st).sh∧(∀d∈b.ds (up L),d = true)∧(∀x∈b.obs (up L),x.1 = x.2)∧b.code w (up L) = (ctO0 st).code w (up L)∧b.ents w (up L) = []∧(∀Y,b.posts w (up L) Y = [])∧(∀Y,b.news w (up L) Y = [])∧b.nn = 0∧(∀Y,b.res w (up L) Y = .ret (.bool true)))):Ct2Ok w (ctO0 st) where
  plen:=fun _ _=>rfl
  nlen:=fun _ _=>rfl
  triple:=by
    intro L sz tk stk hst hd he ho
    have h2:isB (L.V 0) = true:=hd _ (.tail _ (.head _))
    obtain ⟨v,hv⟩:∃v,L.V 0 = .bool v:=by
      unfold isB at h2
      split at h2
      · rename_i v e
        exact ⟨v,e⟩
      · cases h2
    have key:∀c:Ct2,Ct2Ok w c→(c.sh = (ctO0 st).sh∧(∀d∈c.ds (up L),d = true)∧(∀x∈c.obs (up L),x.1 = x.2)∧c.code w (up L) = (ctO0 st).code w (up L)∧c.ents w (up L) = []∧(∀Y,c.posts w (up L) Y = [])∧(∀Y,c.news w (up L) Y = [])∧c.nn = 0∧(∀Y,c.res w (up L) Y = .ret (.bool true)))→
        Triple2 w ((ctO0 st).code w (up L)) stk ((ctO0 st).ents w (up L)) ((ctO0 st).posts w (up L)) ((ctO0 st).news w (up L)) (ctO0 st).nn (sz+10) tk (fun Y=> .ok ((ctO0 st).res w (up L) Y)):=by
      rintro c hc ⟨h1,h2,h3,h4,h5,h6,h7,h8,h9⟩
      have z:=hc.triple L sz tk stk (by rw [h1];exact hst) h2 he h3
      rw [h4,h5,h8,show c.posts w (up L) = fun _=>[] from funext h6,show c.news w (up L) = fun _=>[] from funext h7,show c.res w (up L) = fun _=> .ret (.bool true) from funext h9] at z
      exact z
    cases v with
    | false=>exact key a ha (ea L hv hd)
    | true=>exact key b hb (eb L hv hd)
theorem codO_v {L:Lt} {st:Str} {v:Value} (h:L.V 0 = v):codO (up L) st v = codO (up L) st ((up L).V 0):=by rw [←h];rfl
theorem okOe (w:World):Ct2Ok w ctOe:=okO0 w stE ctOR1 ctOR2 (okOR1 w) (okOR2 w)
  (fun L hv hd=>⟨rfl,(fun d h=>by rw [List.mem_singleton.mp h];exact hd _ (.head _)),(fun _ h=>nomatch h),codO_v hv,rfl,fun _=>rfl,fun _=>rfl,rfl,fun _=>rfl⟩)
  (fun L hv hd=>⟨rfl,(fun d h=>by rw [List.mem_singleton.mp h];exact hd _ (.head _)),(fun _ h=>nomatch h),codO_v hv,rfl,fun _=>rfl,fun _=>rfl,rfl,fun _=>rfl⟩)
theorem okOf (w:World):Ct2Ok w ctOf:=okO0 w stF ctOR3 ctOR4 (okOR3 w) (okOR4 w)
  (fun L hv hd=>⟨rfl,(fun d h=>by rw [List.mem_singleton.mp h];exact hd _ (.head _)),(fun _ h=>nomatch h),codO_v hv,rfl,fun _=>rfl,fun _=>rfl,rfl,fun _=>rfl⟩)
  (fun L hv hd=>⟨rfl,(fun d h=>by rw [List.mem_singleton.mp h];exact hd _ (.head _)),(fun _ h=>nomatch h),codO_v hv,rfl,fun _=>rfl,fun _=>rfl,rfl,fun _=>rfl⟩)
end
end Mine
namespace Mine
open PySem PySem.W
noncomputable section
noncomputable def decZ (n:Nat):Int:=if n % 2 = 0 then ((n / 2:Nat):Int) else -((n / 2:Nat):Int) - 1
noncomputable def encZ (z:Int):Nat:=if 0≤z then 2*z.toNat else 2*(-z - 1).toNat+1
theorem decZ_enc (z:Int):decZ (encZ z) = z:=by
  unfold decZ encZ
  by_cases h:0≤z
  · rw [if_pos h,if_pos (by omega)]
    omega
  · rw [if_neg h,if_neg (by omega)]
    omega
noncomputable def codTk (L:Lt):Code:= .call (.ref 1465) ⟨[.ref (L.A 0),.int (L.I 2) (L.U 0)],[]⟩
noncomputable def lstTk (a:Nat) (x:Int) (u:Nat) (y:Int) (v:Nat):Ent:=(a,(zL 0 [.int x u,.int y v]))
noncomputable def simTk (w:World) (L:Lt) (st:List (Code×Pos)) (p:Pos) (ω:Nat→Nat) (sz tk:Nat) (hs:List Nat):Out:=
  sim (VW w icO st) 110 ω hs (denQ (codTk (up L))) (codTk (up L)) p [] (sz+10) tk 1 (treeOf [lstTk (L.A 0+10) (L.I 0) (L.U 1) (L.I 1) (L.U 2)]) [] []
noncomputable def hTa:NL:=g63 (g253 (g102 (3::g253 (3::5::0::3::1::3::g253 (3::6::3::2::2::0::2::2::2::0::3::[])))))
noncomputable def hTb:NL:=g63 (g253 (g100 (3::g253 (4::2::5::3::2::2::0::2::2::2::0::3::g253 (3::g253 (4::5::6::3::5::[]))))))
noncomputable def yTk (y:Int):Int:=Int.fmod (y*39373+7) 2147483647
noncomputable def rTk (y t:Int):Int:=Int.fmod (Int.fdiv (Int.fmod (yTk y*yTk y) 2147483629) 32) t
noncomputable def RunTa (w:World) (L:Lt) (st:List (Code×Pos)) (p:Pos) (ω:Nat→Nat) (sz tk:Nat):Prop:=
  RunIs (simTk w L st p ω sz tk hTa) (.ok (.ret (.int (Int.fmod (L.I 0) (L.I 2)) (tk+5)))) [0] [lstTk (L.A 0+10) (Int.fdiv (L.I 0) (L.I 2)) (tk+8) (L.I 1) (L.U 2)]
    [divOk (L.I 0) (L.I 2),!(L.I 2 == 0),decide (L.I 0 > 0)]
noncomputable def RunTb (w:World) (L:Lt) (st:List (Code×Pos)) (p:Pos) (ω:Nat→Nat) (sz tk:Nat):Prop:=
  RunIs (simTk w L st p ω sz tk hTb) (.ok (.ret (.int (rTk (L.I 1) (L.I 2)) (tk+19)))) [0] [lstTk (L.A 0+10) (L.I 0) (L.U 1) (yTk (L.I 1)) (tk+10)]
    [!(L.I 2 == 0),divOk (Int.fmod (yTk (L.I 1)*yTk (L.I 1)) 2147483629) 32,true,mulOk (yTk (L.I 1)) (yTk (L.I 1)),true,mulOk (L.I 1) 39373,!(decide (L.I 0 > 0))]
noncomputable def stC (e:PySem.Expr) (g:List Comprehension) (s:Scope) (q:Pos) (d:Nat) (it acc:Value) (env:PySem.Env) (p:Pos) (st:List (Code×Pos)):List (Code×Pos):=(.compLoop (.ListComp e g s q) d it acc env,p)::st
theorem runTa1 (w:World) (L:Lt) (f:Fm) (p:Pos) (ω:Nat→Nat) (sz tk:Nat):RunTa w L (mkSt f 0 [1,0,2]) p ω sz tk:=⟨by kernel_rfl⟩
theorem runTb1 (w:World) (L:Lt) (f:Fm) (p:Pos) (ω:Nat→Nat) (sz tk:Nat):RunTb w L (mkSt f 0 [1,0,2]) p ω sz tk:=⟨by kernel_rfl⟩
theorem runTa2 (w:World) (L:Lt) (f:Fm) (p:Pos) (ω:Nat→Nat) (sz tk:Nat):RunTa w L (mkSt f 0 [0,0,2]) p ω sz tk:=⟨by kernel_rfl⟩
theorem runTb2 (w:World) (L:Lt) (f:Fm) (p:Pos) (ω:Nat→Nat) (sz tk:Nat):RunTb w L (mkSt f 0 [0,0,2]) p ω sz tk:=⟨by kernel_rfl⟩
theorem runTa3 (w:World) (L:Lt) (f:Fm) (e:PySem.Expr) (g:List Comprehension) (s:Scope) (q:Pos) (d:Nat) (it acc:Value) (env:PySem.Env) (p0 p:Pos) (ω:Nat→Nat) (sz tk:Nat):RunTa w L (stC e g s q d it acc env p0 (mkSt f 0 [1,0,2])) p ω sz tk:=⟨by kernel_rfl⟩
theorem runTb3 (w:World) (L:Lt) (f:Fm) (e:PySem.Expr) (g:List Comprehension) (s:Scope) (q:Pos) (d:Nat) (it acc:Value) (env:PySem.Env) (p0 p:Pos) (ω:Nat→Nat) (sz tk:Nat):RunTb w L (stC e g s q d it acc env p0 (mkSt f 0 [1,0,2])) p ω sz tk:=⟨by kernel_rfl⟩
end
end Mine
namespace Mine
open PySem PySem.W
noncomputable section
theorem fmod_told {x t:Int} (h:0 < t):Int.fmod x t = ((((Int.fmod x t).toNat % t.toNat:Nat)):Int):=by
  have f0:0≤Int.fmod x t:=Int.fmod_nonneg_of_pos _ h
  have f1:Int.fmod x t < t:=Int.fmod_lt_of_pos _ h
  rw [Nat.mod_eq_of_lt (by omega)]
  omega
theorem div_ok {x t:Int} (h1:0 < t) (h2:t≤100):divOk x t = true:=by
  unfold divOk
  have e1:(t == 0) = false:=beq_eq_false_iff_ne.mpr (by omega)
  have e2:Builtin.divisionGoesByPylong x t = false:=by
    unfold Builtin.divisionGoesByPylong
    have:t.natAbs.log2 < 7:=(Nat.log2_lt (by omega)).mpr (by omega)
    have e:(t.natAbs.log2 / 30+1 > 300) = False:=by
      simp only [eq_iff_iff,iff_false]
      omega
    simp [e1,e]
  rw [e1,e2]
  rfl
theorem mul_ok {x y:Int} (h:y.natAbs < 2 ^ 63):mulOk x y = true:=by
  unfold mulOk
  have:Nat.blt y.natAbs (2 ^ 63) = true:=Nat.ble_eq_true_of_le h
  rw [this,Bool.or_true]
theorem yTk_bd (y:Int):0≤yTk y∧yTk y < 2147483647:=⟨Int.fmod_nonneg_of_pos _ (by decide),Int.fmod_lt_of_pos _ (by decide)⟩
theorem tkTriple (w:World) (L:Lt) (sz tk:Nat) (st:List (Code×Pos)) (ra:∀p ω sz tk,RunTa w L st p ω sz tk) (rb:∀p ω sz tk,RunTb w L st p ω sz tk) (h1:0 < L.I 2) (h2:L.I 2≤100):
    Triple2 w (codTk (up L)) st [lstTk (L.A 0+10) (L.I 0) (L.U 1) (L.I 1) (L.U 2)] (fun Y=>[lstTk (L.A 0+10) (decZ (Y 2)) (Y 0) (decZ (Y 3)) (Y 4)]) (fun _=>[]) 0 (sz+10) tk
      (fun Y=> .ok (.ret (.int (((Y 5 % (L.I 2).toNat:Nat)):Int) (Y 1)))):=by
  have c0:(L.I 2 == 0) = false:=beq_eq_false_iff_ne.mpr (by omega)
  have hT:insL 0 [lstTk (L.A 0+10) (L.I 0) (L.U 1) (L.I 1) (L.U 2)] .nil = some (treeOf [lstTk (L.A 0+10) (L.I 0) (L.U 1) (L.I 1) (L.U 2)]):=rfl
  by_cases hx:L.I 0 > 0
  · refine triple2_of_run (own:=icO) (is:=[0]) (n:=110) (hs:=hTa) (Y:=fun tk _=>rd [tk+8,tk+5,encZ (Int.fdiv (L.I 0) (L.I 2)),encZ (L.I 1),L.U 2,(Int.fmod (L.I 0) (L.I 2)).toNat]) icO_own hT (fun p ω=>⟨[divOk (L.I 0) (L.I 2),!(L.I 2 == 0),decide (L.I 0 > 0)],?_,?_⟩) (nodupB_is rfl) (fun _=>rfl)
    · intro d hd
      simp only [List.mem_cons,List.not_mem_nil,or_false] at hd
      rcases hd with rfl | rfl | rfl
      · exact div_ok h1 h2
      · rw [c0];rfl
      · exact decide_eq_true hx
    · have z:=ra p ω sz tk
      unfold RunTa simTk at z
      have e1:decZ (encZ (Int.fdiv (L.I 0) (L.I 2))) = Int.fdiv (L.I 0) (L.I 2):=decZ_enc _
      have e2:decZ (encZ (L.I 1)) = L.I 1:=decZ_enc _
      show RunIs _ (.ok (.ret (.int ((((Int.fmod (L.I 0) (L.I 2)).toNat % (L.I 2).toNat:Nat)):Int) (tk+5)))) [0] ([lstTk (L.A 0+10) (decZ (encZ (Int.fdiv (L.I 0) (L.I 2)))) (tk+8) (decZ (encZ (L.I 1))) (L.U 2)]++[]) _
      rw [e1,e2,←fmod_told h1,List.append_nil]
      exact z
  · refine triple2_of_run (own:=icO) (is:=[0]) (n:=110) (hs:=hTb) (Y:=fun tk _=>rd [L.U 1,tk+19,encZ (L.I 0),encZ (yTk (L.I 1)),tk+10,(rTk (L.I 1) (L.I 2)).toNat]) icO_own hT (fun p ω=>⟨[!(L.I 2 == 0),divOk (Int.fmod (yTk (L.I 1)*yTk (L.I 1)) 2147483629) 32,true,mulOk (yTk (L.I 1)) (yTk (L.I 1)),true,mulOk (L.I 1) 39373,!(decide (L.I 0 > 0))],?_,?_⟩) (nodupB_is rfl) (fun _=>rfl)
    · intro d hd
      simp only [List.mem_cons,List.not_mem_nil,or_false] at hd
      have hb:=yTk_bd (L.I 1)
      rcases hd with rfl | rfl | rfl | rfl | rfl | rfl | rfl
      · rw [c0];rfl
      · exact div_ok (by decide) (by decide)
      · rfl
      · exact mul_ok (by omega)
      · rfl
      · exact mul_ok (by decide)
      · rw [decide_eq_false hx];rfl
    · have z:=rb p ω sz tk
      unfold RunTb simTk at z
      have e1:decZ (encZ (L.I 0)) = L.I 0:=decZ_enc _
      have e2:decZ (encZ (yTk (L.I 1))) = yTk (L.I 1):=decZ_enc _
      have e3:((((rTk (L.I 1) (L.I 2)).toNat % (L.I 2).toNat:Nat)):Int) = rTk (L.I 1) (L.I 2):=(fmod_told h1).symm
      show RunIs _ (.ok (.ret (.int ((((rTk (L.I 1) (L.I 2)).toNat % (L.I 2).toNat:Nat)):Int) (tk+19)))) [0] ([lstTk (L.A 0+10) (decZ (encZ (L.I 0))) (L.U 1) (decZ (encZ (yTk (L.I 1)))) (tk+10)]++[]) _
      rw [e1,e2,e3,List.append_nil]
      exact z
noncomputable def isLC:Code→Bool
  | .compLoop (.ListComp ..) .. =>true
  | _=>false
noncomputable def shapeT (st:List (Code×Pos)):Bool:=match st with
  | x::r=>isLC x.1 && shapeB [1,0,2] r
  | []=>false
theorem shapeT_is {st:List (Code×Pos)} (h:shapeT st = true):∃e g s q d it acc env p f,st = stC e g s q d it acc env p (mkSt f 0 [1,0,2]):=by
  unfold shapeT at h
  split at h
  · rename_i x r
    rw [Bool.and_eq_true] at h
    obtain ⟨h1,h2⟩:=h
    obtain ⟨f,rfl⟩:=shape_mk (ks:=[1,0,2]) 0 h2
    obtain ⟨c,p⟩:=x
    cases c <;> try exact Bool.noConfusion h1
    rename_i e d it acc env
    cases e <;> try exact Bool.noConfusion h1
    exact ⟨_,_,_,_,_,_,_,_,_,f,rfl⟩
  · cases h
noncomputable def ctTk (sh:List (Code×Pos)→Bool):Ct2 where
  np:=1
  aI:=[1]
  uI:=[2,4,5]
  iI:=[1,2,0]
  code _ L:=codTk L
  ents _ L:=[lstTk (L.A 0) (L.I 0) (L.U 1) (L.I 1) (L.U 2)]
  posts _ L Y:=[lstTk (L.A 0) (decZ (Y 2)) (Y 0) (decZ (Y 3)) (Y 4)]
  news _ _ _:=[]
  nn:=0
  res _ L Y:= .ret (.int (((Y 5 % (L.I 2).toNat:Nat)):Int) (Y 1))
  ds L:=[decide (0 < L.I 2),decide (L.I 2≤100)]
  sh:=sh
theorem okTk (w:World) (sh:List (Code×Pos)→Bool) (h:∀L st,sh st = true→(∀p ω sz tk,RunTa w L st p ω sz tk)∧(∀p ω sz tk,RunTb w L st p ω sz tk)):Ct2Ok w (ctTk sh) where
  plen:=fun _ _=>rfl
  nlen:=fun _ _=>rfl
  triple:=fun L sz tk st hst hd _ _=>tkTriple w L sz tk st (h L st hst).1 (h L st hst).2 (of_decide_eq_true (hd _ (.head _))) (of_decide_eq_true (hd _ (.tail _ (.head _))))
noncomputable def ctTk1:Ct2:=ctTk (shapeB [1,0,2])
noncomputable def ctTk2:Ct2:=ctTk (shapeB [0,0,2])
def ctTk3:Ct2:=ctTk shapeT
theorem okTk1 (w:World):Ct2Ok w ctTk1:=okTk w _ fun L st h=>by
  obtain ⟨f,rfl⟩:=shape_mk (ks:=[1,0,2]) 0 h
  exact ⟨fun p ω sz tk=>runTa1 w L f p ω sz tk,fun p ω sz tk=>runTb1 w L f p ω sz tk⟩
theorem okTk2 (w:World):Ct2Ok w ctTk2:=okTk w _ fun L st h=>by
  obtain ⟨f,rfl⟩:=shape_mk (ks:=[0,0,2]) 0 h
  exact ⟨fun p ω sz tk=>runTa2 w L f p ω sz tk,fun p ω sz tk=>runTb2 w L f p ω sz tk⟩
theorem okTk3 (w:World):Ct2Ok w ctTk3:=okTk w _ fun L st h=>by
  obtain ⟨e,g,s,q,d,it,acc,env,p0,f,rfl⟩:=shapeT_is h
  exact ⟨fun p ω sz tk=>runTa3 w L f e g s q d it acc env p0 p ω sz tk,fun p ω sz tk=>runTb3 w L f e g s q d it acc env p0 p ω sz tk⟩
end
end Mine
namespace Mine
open PySem PySem.W
noncomputable section
noncomputable def codPl (L:Lt):Code:= .call (.ref 1458) ⟨[.ref (L.X 0)],[]⟩
noncomputable def hPlE:NL:=g7 (3::1::0::3::2::4::2::1::0::2::4::2::4::2::4::2::4::0::3::1::0::0::3::0::3::3::0::5::5::1::0::5::6::7::6::0::6::6::6::5::6::4::7::5::7::7::6::0::6::6::6::5::6::4::g100 (7::6::0::6::6::6::5::6::4::9::7::5::7::0::3::1::3::0::0::3::0::1::12::g9 (4::3::5::2::4::5::[])))
noncomputable def hPl (neg big:Bool):List Nat:=[0,0,0,3,1,0,3,2,4,2,1,0,2,4,2,4,3,2,2,2,0,2,2,0,3,1,0,0,3,0,3,3,0,5,5,1,0,5,6,7,6,0,6,6,6,5,6,4,7,5,7,7,6,0,6,6,6,5,6,4,1,11]++cond neg [1,7,5,7] [0]++[7,6,0,6,6,6,5,6,4,9,7,5,7,0,3,1,3,0,0,3,0,1,12]++[cond big 1 0]++[0,0,0,0,4,3,5,2,4,5]
noncomputable def gPl (neg:Bool) (c:Int):Int:=cond neg (-1 - c) c
noncomputable def zPl (g:Int):Int:=Int.fmod ((Int.fmod g 2147483629+17)*48271) 2147483647
noncomputable def oPl (l:List Value) (n:Nat):Obj:=⟨.type "list",none,.seq ⟨l⟩ n,⟨[]⟩⟩
noncomputable def simPl (w:World) (L:Lt) (f:Fm) (p:Pos) (ω:Nat→Nat) (sz tk:Nat) (hs:List Nat) (o:Obj):Out:=
  sim (VW w icO (mkSt f 0 [0,2])) 205 ω hs (denQ (codPl (up L))) (codPl (up L)) p [] (sz+10) tk 1 (treeOf [(L.X 0+10,o)]) [] []
noncomputable def RunPlE (w:World) (L:Lt) (f:Fm) (p:Pos) (ω:Nat→Nat) (sz tk n:Nat):Prop:=
  RunIs (simPl w L f p ω sz tk hPlE (oPl [] n)) (.ok (.ret (.ref (sz+7+10)))) [0,8] [(L.X 0+10,oPl [] n),lstTk (sz+7+10) 0 (tk+11) 820607 (tk+19)] [true,true,true,true,true,true]
noncomputable def RunPl (w:World) (L:Lt) (f:Fm) (p:Pos) (ω:Nat→Nat) (sz tk n:Nat) (c:Int) (t:Nat) (r:List Value) (neg big:Bool):Prop:=
  RunIs (simPl w L f p ω sz tk (hPl neg big) (oPl (.int c t::r) n)) (.ok (.ret (.ref (sz+7+10)))) [0,8] [(L.X 0+10,oPl (.int c t::r) n),lstTk (sz+7+10) (gPl neg c*cond big 1 0) (tk+11) (zPl (gPl neg c)) (tk+19)]
    [true,mulOk (Int.fmod (gPl neg c) 2147483629+17) 48271,true,mulOk (gPl neg c) (cond big 1 0),cond big (decide (gPl neg c≥1000000000000000000)) (!(decide (gPl neg c≥1000000000000000000))),cond neg (decide (-1 - c > c)) (!(decide (-1 - c > c)))]
theorem runPlE (w:World) (L:Lt) (f:Fm) (p:Pos) (ω:Nat→Nat) (sz tk n:Nat):RunPlE w L f p ω sz tk n:=⟨by kernel_rfl⟩
theorem runPl (w:World) (L:Lt) (f:Fm) (p:Pos) (ω:Nat→Nat) (sz tk n:Nat) (c:Int) (t:Nat) (r:List Value):∀neg big,RunPl w L f p ω sz tk n c t r neg big
  | false,false=>⟨by kernel_rfl⟩
  | false,true=>⟨by kernel_rfl⟩
  | true,false=>⟨by kernel_rfl⟩
  | true,true=>⟨by kernel_rfl⟩
noncomputable def scB (o:Obj):Bool:=match o with
  | ⟨.type nm,none,.seq ⟨[]⟩ _,⟨[]⟩⟩=>Nat.beq (PySem.code nm) nList
  | ⟨.type nm,none,.seq ⟨.int _ _::_⟩ _,⟨[]⟩⟩=>Nat.beq (PySem.code nm) nList
  | _=>false
theorem scB_is {o:Obj} (h:scB o = true):(∃n,o = oPl [] n)∨∃c t r n,o = oPl (.int c t::r) n:=by
  unfold scB at h
  split at h
  · rename_i nm n
    have h1:nm = "list":=PySem.code_inj _ _ ((Nat.eq_of_beq_eq_true h).trans (by decide+kernel))
    subst h1
    exact .inl ⟨n,rfl⟩
  · rename_i nm c t r n
    have h1:nm = "list":=PySem.code_inj _ _ ((Nat.eq_of_beq_eq_true h).trans (by decide+kernel))
    subst h1
    exact .inr ⟨c,t,r,n,rfl⟩
  · cases h
noncomputable def ctPl:Ct2 where
  np:=0
  nx:=1
  aI:=[]
  uI:=[]
  iI:=[]
  code _ L:=codPl L
  ents _ L:=[(L.X 0,L.O 0)]
  posts _ L _:=[(L.X 0,L.O 0)]
  news _ _ Y:=[lstTk (Y 0+10) (decZ (Y 1)) (Y 2) (decZ (Y 3)) (Y 4)]
  nn:=1
  res _ _ Y:= .ret (.ref (Y 0+10))
  ds L:=[scB (L.O 0)]
  sh:=shapeB [0,2]
theorem plOk (w:World) (L:Lt) (f:Fm) (p:Pos) (ω:Nat→Nat) (sz tk:Nat) (hs:List Nat) (ds:List Bool) (x z:Int)
    (h:RunIs (simPl w L f p ω sz tk hs (L.O 0)) (.ok (.ret (.ref (sz+7+10)))) [0,8] [(L.X 0+10,L.O 0),lstTk (sz+7+10) x (tk+11) z (tk+19)] ds):
    RunIs (sim (VW w icO (mkSt f 0 [0,2])) 205 ω hs (denQ (ctPl.code w (up L))) (ctPl.code w (up L)) p [] (sz+10) tk (ctPl.ents w (up L)).length (treeOf (ctPl.ents w (up L))) [] [])
      (.ok (ctPl.res w (up L) (rd [sz+7,encZ x,tk+11,encZ z,tk+19]))) [0,8] (ctPl.posts w (up L) (rd [sz+7,encZ x,tk+11,encZ z,tk+19])++ctPl.news w (up L) (rd [sz+7,encZ x,tk+11,encZ z,tk+19])) ds:=by
  show RunIs _ _ _ [(L.X 0+10,L.O 0),lstTk (sz+7+10) (decZ (encZ x)) (tk+11) (decZ (encZ z)) (tk+19)] _
  rw [decZ_enc,decZ_enc]
  exact h
theorem okPl (w:World):Ct2Ok w ctPl:=ct2_okc (own:=icO) (ks:=[0,2]) rfl icO_own (fun _ _=>rfl) (fun _ _=>rfl) (fun _=>rfl) fun L hd=>by
  have h:scB (L.O 0) = true:=hd _ (.head _)
  rcases scB_is h with ⟨n,ho⟩ | ⟨c,t,r,n,ho⟩
  · refine ⟨205,hPlE,[0,8],fun sz tk _=>[sz+7,encZ 0,tk+11,encZ 820607,tk+19],fun _ _ _=>[true,true,true,true,true,true],rfl,(fun _ _ _ d hd=>by
      simp only [List.mem_cons,List.not_mem_nil,or_false,or_self] at hd
      exact hd),fun f p ω sz tk=>?_⟩
    have z:=runPlE w L f p ω sz tk n
    unfold RunPlE at z
    rw [←ho] at z
    exact plOk w L f p ω sz tk hPlE _ 0 820607 z
  · have neg:∃neg,(cond neg (decide (-1 - c > c)) (!(decide (-1 - c > c)))) = true:=by
      by_cases q: -1 - c > c
      · exact ⟨true,decide_eq_true q⟩
      · exact ⟨false,by rw [decide_eq_false q];rfl⟩
    obtain ⟨neg,hneg⟩:=neg
    have big:∃big,(cond big (decide (gPl neg c≥1000000000000000000)) (!(decide (gPl neg c≥1000000000000000000)))) = true:=by
      by_cases q:gPl neg c≥1000000000000000000
      · exact ⟨true,decide_eq_true q⟩
      · exact ⟨false,by rw [decide_eq_false q];rfl⟩
    obtain ⟨big,hbig⟩:=big
    refine ⟨205,hPl neg big,[0,8],fun sz tk _=>[sz+7,encZ (gPl neg c*cond big 1 0),tk+11,encZ (zPl (gPl neg c)),tk+19],
      fun _ _ _=>[true,mulOk (Int.fmod (gPl neg c) 2147483629+17) 48271,true,mulOk (gPl neg c) (cond big 1 0),cond big (decide (gPl neg c≥1000000000000000000)) (!(decide (gPl neg c≥1000000000000000000))),cond neg (decide (-1 - c > c)) (!(decide (-1 - c > c)))],rfl,(fun _ _ _ d hd=>by
      simp only [List.mem_cons,List.not_mem_nil,or_false] at hd
      rcases hd with rfl | rfl | rfl | rfl | rfl | rfl
      · rfl
      · exact mul_ok (by decide)
      · rfl
      · exact mul_ok (by cases big <;> decide)
      · exact hbig
      · exact hneg),fun f p ω sz tk=>?_⟩
    have z:=runPl w L f p ω sz tk n c t r neg big
    unfold RunPl at z
    rw [←ho] at z
    exact plOk w L f p ω sz tk (hPl neg big) _ _ _ z
end
end Mine
namespace Mine
open PySem PySem.W
noncomputable section
noncomputable def codBR (L:Lt):Code:= .call (.type "bytes") ⟨[.ref (L.A 0)],[]⟩
noncomputable def entBR (L:Lt) (k:Int):Ent:=(L.A 0,⟨.type "range",none,.fields ⟨[.int 0 (L.U 0),.int k (L.U 1),.int 1 (L.U 2)]⟩,⟨[]⟩⟩)
noncomputable def hBR (k:Nat):List Nat:=[0,2,2,2,2,2,2,2,1,0,2,2,2,2,3,2,2,0,2,0,2,2,2,2]++(List.replicate (k+1) [3,0,3,3,3,3,3,1,3,1,4,2,4]).flatten++[3,0,3,3,3,3,6,4,0]
noncomputable def RunBR (w:World) (L:Lt) (f:Fm) (p:Pos) (ω:Nat→Nat) (sz tk k:Nat):Prop:=
  RunIs (sim (VW w icO (mkSt f 0 [1,0,2])) 330 ω (hBR k) (denQ (codBR (up L))) (codBR (up L)) p [] (sz+10) tk 1 (treeOf [entBR (up L) ((k+1:Nat):Int)]) [] []) (.ok (.ret (.bytes (bytesN (k+1)) (tk+(3+1*k))))) [0] [entBR (up L) ((k+1:Nat):Int)] []
theorem runBR (w:World) (L:Lt) (f:Fm) (p:Pos) (ω:Nat→Nat) (sz tk:Nat):∀k,k < 14→RunBR w L f p ω sz tk k
  | 0,_=>⟨by kernel_rfl⟩
  | 1,_=>⟨by kernel_rfl⟩
  | 2,_=>⟨by kernel_rfl⟩
  | 3,_=>⟨by kernel_rfl⟩
  | 4,_=>⟨by kernel_rfl⟩
  | 5,_=>⟨by kernel_rfl⟩
  | 6,_=>⟨by kernel_rfl⟩
  | 7,_=>⟨by kernel_rfl⟩
  | 8,_=>⟨by kernel_rfl⟩
  | 9,_=>⟨by kernel_rfl⟩
  | 10,_=>⟨by kernel_rfl⟩
  | 11,_=>⟨by kernel_rfl⟩
  | 12,_=>⟨by kernel_rfl⟩
  | 13,_=>⟨by kernel_rfl⟩
  | n+14,h=>absurd h (by omega)
noncomputable def kBR (x:Int):Bool:=(List.range 14).any fun k=>x == ((k+1:Nat):Int)
noncomputable def ctBR:Ct2 where
  np:=1
  aI:=[0]
  uI:=[2,3,4]
  iI:=[1]
  code _ L:=codBR L
  ents _ L:=[entBR L (L.I 0)]
  posts _ L _:=[entBR L (L.I 0)]
  news _ _ _:=[]
  nn:=0
  res _ L Y:= .ret (.bytes (bytesN (L.I 0).toNat) (Y 0))
  ds L:=[kBR (L.I 0)]
  sh:=shapeB [1,0,2]
theorem okBR (w:World):Ct2Ok w ctBR:=ct2_okc (own:=icO) (ks:=[1,0,2]) rfl icO_own (fun _ _=>rfl) (fun _ _=>rfl) (fun _=>rfl) fun L hd=>by
  have h:kBR (L.I 0) = true:=hd _ (.head _)
  obtain ⟨k,hk,e⟩:=List.any_eq_true.mp h
  have hk:k < 14:=List.mem_range.mp hk
  have e:L.I 0 = ((k+1:Nat):Int):=beq_iff_eq.mp e
  refine ⟨330,hBR k,[0],fun sz tk _=>[tk+(3+1*k)],fun _ _ _=>[],rfl,(fun _ _ _ d h=>nomatch h),fun f p ω sz tk=>?_⟩
  have z:=runBR w L f p ω sz tk k hk
  unfold RunBR at z
  show RunIs (sim _ _ _ _ _ _ _ _ _ _ _ (treeOf [entBR (up L) (L.I 0)]) _ _) (.ok (.ret (.bytes (bytesN (L.I 0).toNat) (tk+(3+1*k))))) [0] ([entBR (up L) (L.I 0)]++[]) []
  rw [e,List.append_nil]
  exact z
end
end Mine
namespace Mine
noncomputable section
open PySem PySem.W PyProof.Rows
noncomputable def intOfV:Value→Int
  | .int x _=>x
  | _=>0
noncomputable def tokOfV:Value→Nat
  | .int _ t=>t
  | _=>0
theorem ints_at:∀{l:List Value} {j i:Nat},l.all isI = true→j < l.length→l[j]? = some (.int (selN 0 (l.map intOfV) i (i+j)) (selN 0 (l.map tokOfV) i (i+j)))
  | [],j,i,_,h=>absurd h (Nat.not_lt_zero _)
  | v ::r,j,i,h,hj=>by
    have hj':j < (v::r).length:=hj
    have e1:((v::r).map intOfV)[j]? = some (intOfV (v::r)[j]):=by rw [List.getElem?_map,List.getElem?_eq_getElem hj'];rfl
    have e2:((v::r).map tokOfV)[j]? = some (tokOfV (v::r)[j]):=by rw [List.getElem?_map,List.getElem?_eq_getElem hj'];rfl
    rw [selN_at e1,selN_at e2,List.getElem?_eq_getElem hj']
    have:=List.all_eq_true.mp h _ (List.getElem_mem hj')
    unfold isI at this
    split at this
    · rename_i x t hx
      rw [hx];rfl
    · cases this
noncomputable def icGetI:Icpt:=fun _ _ c hs sz tk m T=>match c with
  | .call (.builtin id) ⟨[.ref a,.int k _],[]⟩=>match Nat.beq (PySem.code id) nGet with
    | true=>match hs with
      | i ::hs=>match T.get i with
        | some e=>match e with
          | ⟨a',⟨.type nm,_,.seq arr _,_⟩⟩=>match Nat.beq (PySem.code nm) nList with
            | true=>some ⟨.ok (.ret (.int (selN 0 (arr.toList.map intOfV) 0 k.toNat) (selN 0 (arr.toList.map tokOfV) 0 k.toNat))),hs,sz,tk,m,T,[(.n a,.n a')],[decide (0≤k),decide (k < 2 ^ 63),Nat.blt k.toNat arr.toList.length,arr.toList.all isI]⟩
            | false=>none
          | _=>none
        | none=>none
      | _=>none
    | false=>none
  | _=>none
section
variable {V:Vw} {prog:Program} {w:World} {b:Bs}
theorem icGetI_ok:IcOk V (model prog w) b icGetI:=by
  intro Γ c hs sz tk m T p s R κ _ _ _ r H
  obtain ⟨y,e,hob,hd,hR⟩:=H fun _=>0
  unfold icGetI at e
  split at e <;> try cases e
  rename_i id a k kt
  split at e <;> try cases e
  rename_i hid
  have hid':id = "list.__getitem__":=PySem.code_inj _ _ ((Nat.eq_of_beq_eq_true hid).trans (by decide+kernel))
  subst hid'
  split at e <;> try cases e
  rename_i i hs'
  split at e <;> try cases e
  rename_i e1 hT
  split at e <;> try cases e
  rename_i a' nm d arr n sl
  split at e <;> try cases e
  rename_i hnm
  have hnm':nm = "list":=PySem.code_inj _ _ ((Nat.eq_of_beq_eq_true hnm).trans (by decide+kernel))
  subst hnm'
  have q0:=hob _ (.head _)
  have qa:a = a':=by injection q0
  subst qa
  have q1:decide (0≤k) = true:=hd _ (.head _)
  have q2:decide (k < 2 ^ 63) = true:=hd _ (.tail _ (.head _))
  have q3:Nat.blt k.toNat arr.toList.length = true:=hd _ (.tail _ (.tail _ (.head _)))
  have q4:arr.toList.all isI = true:=hd _ (.tail _ (.tail _ (.tail _ (.head _))))
  have q5:=ints_at (i:=0) q4 (Nat.le_of_ble_eq_true q3)
  rw [Nat.zero_add,Array.getElem?_toList] at q5
  exact ic_call (get_call ⟨_,(r.own _ _ _ hT).2.1,rfl,n,rfl⟩ (of_decide_eq_true q1) (of_decide_eq_true q2) q5 (hR s r))
end
end
end Mine
namespace Mine
noncomputable section
open PySem PySem.W
noncomputable def icZ (k:Nat):Icpt:=match k with
  | 9=>icListEq
  | k=>icO k
theorem icZ_own {w:World}:OwnOk w icZ:=by
  intro b V j hkt hb hp hw hd
  unfold icZ
  split
  · exact icListEq_ok
  · exact icO_own b V _ hkt hb hp hw hd
end
end Mine
namespace Mine
open PySem PySem.W
noncomputable section
noncomputable def hSZ:NL:=g63 (1::0::3::1::0::3::1::0::0::3::3::3::g9 (5::3::0::5::3::0::5::3::0::5::3::g7 (5::5::g15 (7::0::7::g8 (8::g176 (g176 (g176 (g176 (g176 (6::0::g154 (g154 (g154 (g154 (g154 (g15 (12::0::12::g8 (g314 (11::0::13::11::0::13::11::0::13::g132 (13::g132 (13::g132 (0::g132 (0::13::g221 (g221 (g221 (g15 (15::0::15::g8 (16::14::0::16::14::0::16::14::0::16::14::0::16::14::0::g306 (g306 (g306 (g306 (g306 (g306 (0::16::g15 (18::0::18::g8 (g136 (19::g393 (g393 (g393 (g393 (g108 (17::15::17::16::g125 (0::16::g15 (21::0::21::g8 (g283 (22::1::9::0::22::22::21::g6 (21::0::21::0::21::g7 (21::0::0::20::18::20::22::21::g6 (21::0::21::0::21::g7 (21::0::0::20::18::20::16::g125 (16::g125 (16::g125 (16::g125 (g132 (g132 (0::13::g9 (23::21::0::0::23::g25 (6::23::g25 (6::23::g25 (6::g15 (25::0::25::g8 (26::24::0::26::24::0::26::24::0::26::24::0::26::26::g252 (26::26::g252 (26::26::g252 (26::g252 (26::g252 (26::g252 (0::23::21::0::23::23::g25 (6::g15 (28::0::28::g8 (g209 (27::0::29::29::g319 (29::29::g319 (29::g319 (29::g319 (29::g319 (g132 (0::g221 (g221 (4::g221 (g221 (2::g15 (31::0::31::g8 (g186 (g186 (32::32::g222 (32::32::g222 (32::32::g222 (32::32::g222 (32::g222 (32::g222 (32::g222 (32::g222 (g132 (0::g221 (g15 (34::0::34::g8 (g110 (35::35::g281 (35::g281 (35::g281 (35::g281 (g132 (g14 (0::0::37::0::37::g8 (0::38::36::0::38::36::0::38::38::g262 (0::0::38::0::0::39::39::0::39::39::39::39::1::0::39::39::39::39::40::1::38::40::0::40::40::40::40::40::38::40::38::g307 (g307 (g307 (g128 (g128 (g128 (0::42::40::18::39::40::0::40::40::40::40::60::42::42::40::38::g262 (38::g262 (38::g262 (38::g262 (38::g262 (g132 (g132 (g132 (g132 (g132 (0::5::3::0::5::3::5::g15 (64::0::64::g8 (0::g131 (63::0::65::63::0::65::63::0::65::65::g232 (65::65::g232 (65::65::g232 (0::65::65::g205 (64::0::66::66::2::66::5::65::g182 (63::61::63::g6 (67::67::0::67::1::1000000::65::65::g182 (63::61::63::0::65::g15 (69::0::69::g8 (70::68::0::70::68::0::70::70::69::g6 (69::0::69::0::69::g7 (69::0::0::68::66::68::70::69::g6 (69::0::69::0::69::g7 (69::0::0::68::66::68::65::g182 (63::61::63::0::65::64::g6 (64::g7 (64::64::0::63::65::65::g9 (72::70::0::72::70::0::72::70::0::72::72::2::72::5::65::g232 (65::g232 (65::g232 (65::g232 (5::5::g47 (11::73::73::73::1::0::73::74::74::0::74::74::g507 (g507 (g507 (74::73::74::72::76::5::g58 (11::9::11::5::g58 (11::9::11::0::5::3::77::77::77::1::0::77::78::78::0::78::78::78::77::g214 (77::g214 (77::g214 (77::g214 (77::78::76::80::5::g125 (5::g125 (5::g125 (5::g125 (g10 (5::0::0::81::81::1::0::81::82::2::2::1::0::2::83::86::86::0::86::86::86::86::1::0::86::86::0::g394 (85::87::87::87::1::0::87::88::g308 (g308 (g308 (90::0::g508 (91::89::0::91::89::0::91::89::0::91::g140 (91::g491 (92::92::g233 (91::g60 (2::91::g262 (91::91::g60 (91::g60 (91::g509 (91::g140 (91::g9 (g495 (g60 (94::g60 (94::94::g510 (52::52::52::52::91::18::50::g394 (93::95::95::95::1::0::95::96::96::0::96::96::96::95::96::94::96::0::96::96::96::95::96::94::96::0::96::96::96::95::96::94::98::0::g508 (99::97::0::99::97::0::99::97::0::99::g140 (99::g9 (g254 (100::g233 (99::g60 (2::99::g262 (99::99::g60 (99::g60 (99::g509 (99::g140 (99::g9 (g415 (g60 (102::g60 (102::102::g510 (51::51::51::51::99::18::49::g394 (101::103::103::103::1::0::103::104::104::0::104::104::104::103::g187 (0::104::104::104::103::g187 (0::104::104::104::103::104::102::106::0::g508 (g292 (107::105::0::107::g140 (107::g9 (g159 (g159 (108::108::g233 (107::g60 (2::107::g262 (107::107::g60 (107::g60 (107::g509 (107::g140 (107::g6 (g4 (0::110::g60 (110::g60 (110::110::g510 (47::47::47::47::107::18::45::g394 (109::111::111::111::1::0::111::112::112::0::112::112::112::111::g379 (112::111::g379 (112::111::112::110::114::0::5::3::0::5::3::5::g100 (g282 (86::84::116::5::0::3::g9 (117::115::0::117::118::118::34::116::117::119::119::34::117::120::120::120::1::0::120::121::121::0::121::121::121::120::121::119::121::0::121::121::121::120::121::119::121::0::121::121::121::120::121::119::123::4::2::0::3::1::3::4::g511 (3::g9 (g499 (g512 (1::12::0::124::g512 (4::3::g9 (125::123::0::125::123::0::0::125::125::g9 (126::124::0::126::124::0::126::g511 (g9 (127::125::0::0::127::g281 (126::g47 (11::0::1::0::0::126::g9 (128::126::0::128::126::0::0::128::g47 (11::128::g9 (129::127::0::129::127::0::129::1::0::129::1::0::129::g157 (131::131::131::131::129::129::19::129::137::7::130::131::132::133::134::135::136::0::129::127::129::g158 (141::141::141::141::129::129::19::139::158::18::140::141::142::143::144::145::146::147::148::149::150::151::152::153::154::155::156::157::0::128::126::128::128::128::g58 (11::9::11::3::1::0::4::g511 (3::g9 (161::159::0::161::159::0::161::g512 (1::12::1::4::g47 (11::3::3::1::0::3::1::0::3::0::3::1::g6 (162::162::1::0::162::163::1::161::163::0::163::163::163::162::163::161::g395 (g460 (g233 (62::62::62::166::g60 (166::g513 (62::62::62::0::93::93::93::0::93::93::0::16::1::g396 (g395 (167::165::0::167::165::0::167::167::g233 (62::62::62::167::g60 (167::g513 (62::62::62::0::101::101::g224 (101::0::16::1::g396 (g395 (168::166::0::168::166::0::168::168::g233 (62::62::62::168::g60 (168::g513 (62::62::62::0::109::109::109::0::109::109::0::16::1::g396 (g395 (g179 (169::169::g233 (g396 (171::165::165::163::3::164::2::164::1::43::162::0::[])))))))))))))))))))))))))))))))))))))))))))))))))))))))))))))))))))))))))))))))))))))))))))))))))))))))))))))))))))))))))))))))))))))))))))))))))))))))))))))))))))))))))))))))))))))))))))))))))))))))))))))))))))))))))))))))))))))))))))))))))))))))))))))))))))))))))))
noncomputable def eSZx0 (w:World) (L:Lt):Ent:=((L.A 0),(zL 0 [.int 9 (L.U 3),.int 8 (L.U 4),.int 4 (L.U 5),.int 0 (L.U 6)]))
noncomputable def ctSZ:Ct2 where
  np:=1
  aI:=[3]
  uI:=[1,2,4,6,7,8,9]
  iI:=[]
  sI:=[]
  bI:=[]
  code w L:=(.call (.ref 1498) ⟨[.str q217 (L.U 0),.int 7 (L.U 1),.ref (L.A 0),.int 5 (L.U 2),.bool false],[]⟩)
  ents w L:=[eSZx0 w L]
  posts w L Y:=[eSZx0 w L]
  news w L Y:=[]
  nn:=0
  res w L Y:=(.ret (.bool true))
  ds L:=[]
  sh:=shapeB [0,2]
noncomputable def ySZ (sz tk:Nat) (ω:Nat→Nat):List Nat:=[]
noncomputable def dSZ (w:World) (L:Lt) (ω:Nat→Nat) (sz tk:Nat):List Bool:=List.replicate 55 true
theorem rSZ (w:World) (L:Lt) (f:Fm) (p:Pos) (ω:Nat→Nat) (sz tk:Nat):
  RunIs (sim (VW w icZ (mkSt f 0 [0,2])) 7647 ω hSZ (denQ (ctSZ.code w (up L))) (ctSZ.code w (up L)) p [] (sz+10) tk (ctSZ.ents w (up L)).length (treeOf (ctSZ.ents w (up L))) [] [])
   (.ok (ctSZ.res w (up L) (rd (ySZ sz tk ω)))) [0] (ctSZ.posts w (up L) (rd (ySZ sz tk ω))++ctSZ.news w (up L) (rd (ySZ sz tk ω)))
   (dSZ w L ω sz tk):=⟨by kernel_rfl⟩
theorem okSZ (w:World):Ct2Ok w ctSZ:=ct2_ok (own:=icZ) (ks:=[0,2]) rfl icZ_own (fun _ _=>rfl) (fun _ _=>rfl) (fun _=>rfl) rfl (fun _ _ _ _ _ d hd=>rep_ok hd) (rSZ w)
end
end Mine
namespace Mine
noncomputable section
open PySem PySem.W PyProof.Rows
noncomputable def icEqV:Icpt:=fun _ _ c hs sz tk m T=>match c with
  | .call (.builtin id) ⟨[.int x _,.int y _],[]⟩=>match Nat.beq (PySem.code id) nEq with
    | true=>some ⟨.ok (.ret (.bool (x == y))),hs,sz,tk,m,T,[],[]⟩
    | false=>none
  | _=>none
theorem icEqV_ok {V:Vw} {prog:Program} {w:World} {b:Bs}:IcOk V (model prog w) b icEqV:=by
  intro Γ c hs sz tk m T p s R κ _ _ _ r H
  obtain ⟨y,e,_,hd,hR⟩:=H fun _=>0
  unfold icEqV at e
  split at e
  · rename_i id' x tx z tz
    split at e
    · rename_i hid
      have hid':id' = "int.__eq__":=PySem.code_inj _ _ ((Nat.eq_of_beq_eq_true hid).trans (by decide+kernel))
      subst hid'
      cases e
      exact ic_call (call_gv F.slot_int_eq (typeIs_int s x tx) F.entry_int_eq (F.args_int_eq_2 _ _) (gives_int_eq x z tx tz) (hR s r))
    · cases e
  · cases e
noncomputable def icL (w:World) (k:Nat):Icpt:=match k with
  | 0=>icOf2 w ctSZ
  | 1=>icOf2 w ctPl
  | 2=>icOf2 w ctTk1
  | 3=>icOf2 w ctTk2
  | 4=>icOf2 w ctTk3
  | 5=>icOf2 w ctS
  | 6=>icOf2 w ctCl
  | 7=>icOf2 w ctLi
  | 8=>icOf2 w ctF
  | 9=>icGetI
  | 10=>icOf2 w ctBR
  | 11=>icOf2 w ctOe
  | 12=>icOf2 w ctOf
  | 13=>icEqV
  | _=>fun _ _ _ _ _ _ _ _=>none
theorem icL_own {w:World}:OwnOk w (icL w):=by
  intro b V j hkt hb hp hw hd
  unfold icL
  split
  · exact icOf2_ok (okSZ w) hkt hb
  · exact icOf2_ok (okPl w) hkt hb
  · exact icOf2_ok (okTk1 w) hkt hb
  · exact icOf2_ok (okTk2 w) hkt hb
  · exact icOf2_ok (okTk3 w) hkt hb
  · exact icOf2_ok (okS w) hkt hb
  · exact icOf2_ok (okCl w) hkt hb
  · exact icOf2_ok (okLi w) hkt hb
  · exact icOf2_ok (okF w) hkt hb
  · exact icGetI_ok
  · exact icOf2_ok (okBR w) hkt hb
  · exact icOf2_ok (okOe w) hkt hb
  · exact icOf2_ok (okOf w) hkt hb
  · exact icEqV_ok
  · exact icNone_ok
end
end Mine
namespace Mine
open PySem PySem.W
noncomputable section
noncomputable def AllT (l:List Bool):Prop:=∀d∈l,d = true
theorem allT_nil:AllT []:=fun _ h=>nomatch h
theorem allT_one {n:Nat}:AllT (List.replicate n true):=fun _ h=>(List.mem_replicate.mp h).2
theorem allT_rep {n:Nat} {l:List Bool} (h:AllT l):AllT (List.replicate n true++l):=fun d hd=>(List.mem_append.mp hd).elim (allT_one d) (h d)
theorem allT_cons {c:Bool} {l:List Bool} (h1:c = true) (h:AllT l):AllT (c::l):=fun d hd=>(List.mem_cons.mp hd).elim (fun e=>e.trans h1) (h d)
theorem c_mul (x:Int) (b:Nat):mulOk x (1+((b % 50:Nat):Int)) = true:=mul_ok (by omega)
theorem c_ge (a b:Nat):decide (0≤((a % 2:Nat):Int)*(1+((b % 50:Nat):Int))) = true:=decide_eq_true (Int.mul_nonneg (by omega) (by omega))
theorem c_ge1 (a:Nat):decide (0≤((a % 2:Nat):Int)) = true:=decide_eq_true (by omega)
theorem c_lt (a:Nat):decide (((a % 2:Nat):Int) < 2 ^ 63) = true:=decide_eq_true (by omega)
theorem c_bl (a:Nat):Nat.blt (Int.toNat ((a % 2:Nat):Int)) 2 = true:=Nat.ble_eq_true_of_le (by show (Int.toNat ((a % 2:Nat):Int))+1≤2;omega)
theorem c_fin (a b:Nat):decide (((1+((a % 60:Nat):Int))+(1+((b % 40:Nat):Int))) > 0) = true:=decide_eq_true (by omega)
theorem c_br (a:Nat):kBR (1+((a % 14:Nat):Int)) = true:=List.any_eq_true.mpr ⟨a % 14,List.mem_range.mpr (Nat.mod_lt _ (by decide)),beq_iff_eq.mpr (by omega)⟩
theorem c_dom (a b:Nat):dom (selN (0:Int) [128,4294967296] 0 (Int.toNat ((a % 2:Nat):Int))) (bytesN (Int.toNat (1+((b % 14:Nat):Int)))) = true:=by
  have h1:a % 2 = 0∨a % 2 = 1:=by omega
  have e:Int.toNat (1+((b % 14:Nat):Int)) = b % 14+1:=by omega
  unfold dom
  rw [e,Bool.and_eq_true]
  refine ⟨?_,List.any_eq_true.mpr ⟨b % 14,List.mem_range.mpr (Nat.mod_lt _ (by decide)),decide_eq_true rfl⟩⟩
  rcases h1 with h1 | h1 <;> rw [h1] <;> rfl
theorem allT_app {a b:List Bool} (h:AllT a) (h':AllT b):AllT (a++b):=fun d hd=>(List.mem_append.mp hd).elim (h d) (h' d)
noncomputable def hLaw:NL:=g7 (3::1::g7 (34::3::0::3::0::35::0::4::2::0::3::1::3::7::8::7::0::7::8::7::8::9::9::1::0::9::10::0::10::0::10::10::10::9::10::8::0::3::1::g6 (11::11::0::11::11::11::11::1::0::11::11::11::11::12::1::10::g397 (g397 (g397 (g397 (12::0::12::12::12::12::16::0::3::1::14::14::12::g165 (17::17::17::1::0::17::18::g514 (g514 (g514 (20::g166 (40::11::1::g183 (21::21::0::21::21::21::21::1::0::21::21::21::21::22::1::20::g398 (g398 (g398 (g398 (22::0::22::22::22::22::26::0::3::1::24::24::22::g165 (27::27::27::1::0::27::28::28::0::28::28::28::27::28::26::28::0::28::28::28::27::28::26::28::0::28::28::28::27::28::26::30::g166 (41::21::1::g183 (31::31::0::31::31::31::31::1::0::31::31::31::31::32::1::30::g399 (g399 (g399 (g399 (32::0::32::32::32::32::36::0::3::1::34::34::32::g165 (37::37::37::1::0::37::38::38::0::38::38::g354 (g354 (38::37::38::36::40::g166 (41::31::1::g183 (41::41::0::41::41::41::41::1::0::41::41::41::41::42::1::40::42::g400 (g400 (g400 (g400 (0::42::42::42::42::46::0::3::1::44::44::42::g165 (47::47::47::1::0::47::48::48::g355 (g355 (0::48::48::48::47::48::46::50::g166 (39::41::g183 (51::51::0::51::51::51::51::1::0::51::51::51::51::52::1::50::52::g401 (g401 (g401 (g401 (0::52::52::52::52::56::0::3::1::54::54::52::g165 (57::57::57::1::0::57::58::58::0::58::58::58::57::58::56::58::0::58::58::58::57::58::56::58::0::58::58::58::57::58::56::60::g166 (39::51::g183 (61::61::0::61::61::61::61::1::0::61::61::61::61::62::1::60::g402 (g402 (g402 (g402 (62::0::62::62::62::62::66::0::3::1::64::64::62::g165 (67::67::67::1::0::67::68::68::0::68::68::68::67::g360 (67::g360 (67::68::66::70::g166 (39::61::g183 (71::71::0::71::71::71::71::1::0::71::71::71::71::72::1::70::72::g403 (g403 (g403 (g403 (0::72::72::72::72::76::0::3::1::74::74::72::g165 (77::77::77::1::0::77::78::78::0::78::78::78::77::g214 (77::g214 (77::78::76::80::g166 (42::71::g183 (81::81::0::81::81::81::81::1::0::81::81::81::81::82::1::80::82::g404 (g404 (g404 (g404 (0::82::82::82::82::86::0::3::1::84::84::82::g165 (87::87::87::1::0::87::88::g308 (g308 (g308 (90::g166 (39::81::g183 (91::91::0::91::91::91::91::1::0::91::91::91::91::92::1::90::g405 (g405 (g405 (g405 (92::0::92::92::92::92::96::0::3::1::94::94::92::g165 (97::97::97::1::0::97::98::g515 (g515 (g515 (100::g166 (39::91::g183 (101::g224 (101::101::101::1::0::101::101::101::101::102::1::100::g406 (g406 (g406 (g406 (102::0::102::102::102::102::106::0::3::1::104::104::102::g165 (107::107::107::1::0::107::108::108::0::108::108::108::107::108::106::108::0::108::108::108::107::108::106::108::0::108::108::108::107::108::106::110::g166 (39::101::g183 (111::111::0::111::111::111::111::1::0::111::111::111::111::112::1::110::g407 (g407 (g407 (g407 (112::0::112::112::112::112::116::0::3::1::114::114::112::g165 (117::117::117::1::0::117::118::118::0::118::118::118::117::118::116::g386 (117::118::116::g386 (117::118::116::120::g166 (39::111::10::0::10::10::10::9::10::8::122::0::4::g10 (g499 (0::124::0::0::124::0::123::0::123::123::0::37::4::123::123::123::43::121::0::3::1::125::125::1::0::125::126::0::126::g516 (0::3::1::g9 (4::0::36::4::2::0::0::127::127::0::127::127::44::125::0::3::1::0::3::3::g142 (45::126::g516 (0::3::1::g9 (4::0::36::4::2::0::0::128::128::0::128::128::44::126::0::3::1::0::3::3::g142 (46::126::g516 (130::[]))))))))))))))))))))))))))))))))))))))))))))))))))))))))))))))))))))))))))))))))))))))))))))))))))))))))))))
noncomputable def dLaw0 (ω:Nat→Nat) (L:Lt):List Bool:=List.replicate 4 true++(dom (selN (0:Int) [128,4294967296] 0 (Int.toNat (((ω 15277769822508645647013342663070336207886012952494521879771053370157859748225025296375480319 % 2):Nat):Int))) (bytesN (Int.toNat (1+(((ω 3911109074562213285635415721746006069218819315838597601221389662760412095545606475872122961919 % 14):Nat):Int))))::(List.replicate 13 true++(kBR (1+(((ω 3911109074562213285635415721746006069218819315838597601221389662760412095545606475872122961919 % 14):Nat):Int))::(List.replicate 11 true++(dom (selN (0:Int) [128,4294967296] 0 (Int.toNat (((ω 15277769822508645647013342663070336207886012952494521879771053370157859748225025296375480319 % 2):Nat):Int))) (bytesN (Int.toNat (1+(((ω 61111079290034582588053370652281344831544051809978087519084213480631438992900101185501921279 % 14):Nat):Int))))::(List.replicate 13 true++(kBR (1+(((ω 61111079290034582588053370652281344831544051809978087519084213480631438992900101185501921279 % 14):Nat):Int))::(List.replicate 7 true++(decide (0≤(((ω 15277769822508645647013342663070336207886012952494521879771053370157859748225025296375480319 % 2):Nat):Int))::(decide ((((ω 15277769822508645647013342663070336207886012952494521879771053370157859748225025296375480319 % 2):Nat):Int) < 2 ^ 63)::(Nat.blt (Int.toNat (((ω 15277769822508645647013342663070336207886012952494521879771053370157859748225025296375480319 % 2):Nat):Int)) 2::(List.replicate 15 true++(decide (0≤((((ω 113828255403851312749187221102940560936078525725711300073348383383138922961242685439 % 2):Nat):Int)*(1+(((ω 227656510807702625498374442205881121872157051451422600146696766766277845922485370879 % 50):Nat):Int))))::(decide (0≤((((ω 3642504172923242007973991075294097949954512823222761602347148268260445534759765934079 % 2):Nat):Int)*(1+(((ω 7285008345846484015947982150588195899909025646445523204694296536520891069519531868159 % 50):Nat):Int))))::(decide (0≤((((ω 116560133533543744255167714409411134398544410343128371275108744584334257112312509890559 % 2):Nat):Int)*(1+(((ω 233120267067087488510335428818822268797088820686256742550217489168668514224625019781119 % 50):Nat):Int))))::(decide (0≤((((ω 3729924273073399816165366861101156300753421130980107880803479826698696227594000316497919 % 2):Nat):Int)*(1+(((ω 7459848546146799632330733722202312601506842261960215761606959653397392455188000632995839 % 50):Nat):Int))))::(List.replicate 22 true++(mulOk (((ω 3729924273073399816165366861101156300753421130980107880803479826698696227594000316497919 % 2):Nat):Int) (1+(((ω 7459848546146799632330733722202312601506842261960215761606959653397392455188000632995839 % 50):Nat):Int))::(List.replicate 3 true)))))))))))))))))))
noncomputable def dLaw1 (ω:Nat→Nat) (L:Lt):List Bool:=List.replicate 12 true++(mulOk (((ω 116560133533543744255167714409411134398544410343128371275108744584334257112312509890559 % 2):Nat):Int) (1+(((ω 233120267067087488510335428818822268797088820686256742550217489168668514224625019781119 % 50):Nat):Int))::(List.replicate 15 true++(mulOk (((ω 3642504172923242007973991075294097949954512823222761602347148268260445534759765934079 % 2):Nat):Int) (1+(((ω 7285008345846484015947982150588195899909025646445523204694296536520891069519531868159 % 50):Nat):Int))::(List.replicate 15 true++(mulOk (((ω 113828255403851312749187221102940560936078525725711300073348383383138922961242685439 % 2):Nat):Int) (1+(((ω 227656510807702625498374442205881121872157051451422600146696766766277845922485370879 % 50):Nat):Int))::(List.replicate 21 true++(decide (0≤((((ω 848086591093624478199982800356600887597192270500297099898370976620457492479 % 2):Nat):Int)*(1+(((ω 1696173182187248956399965600713201775194384541000594199796741953240914984959 % 50):Nat):Int))))::(decide (0≤((((ω 27138770914995983302399449611411228403110152656009507196747871251854639759359 % 2):Nat):Int)*(1+(((ω 54277541829991966604798899222822456806220305312019014393495742503709279518719 % 50):Nat):Int))))::(decide (0≤((((ω 868440669279871465676782387565159308899524884992304230295931880059348472299519 % 2):Nat):Int)*(1+(((ω 1736881338559742931353564775130318617799049769984608460591863760118696944599039 % 50):Nat):Int))))::(decide (0≤((((ω 27790101416955886901657036402085097884784796319753735369469820161899151113584639 % 2):Nat):Int)*(1+(((ω 55580202833911773803314072804170195769569592639507470738939640323798302227169279 % 50):Nat):Int))))::(List.replicate 22 true++(mulOk (((ω 27790101416955886901657036402085097884784796319753735369469820161899151113584639 % 2):Nat):Int) (1+(((ω 55580202833911773803314072804170195769569592639507470738939640323798302227169279 % 50):Nat):Int))::(List.replicate 7 true)))))))))))))
noncomputable def dLaw2 (ω:Nat→Nat) (L:Lt):List Bool:=List.replicate 8 true++(mulOk (((ω 868440669279871465676782387565159308899524884992304230295931880059348472299519 % 2):Nat):Int) (1+(((ω 1736881338559742931353564775130318617799049769984608460591863760118696944599039 % 50):Nat):Int))::(List.replicate 15 true++(mulOk (((ω 27138770914995983302399449611411228403110152656009507196747871251854639759359 % 2):Nat):Int) (1+(((ω 54277541829991966604798899222822456806220305312019014393495742503709279518719 % 50):Nat):Int))::(List.replicate 15 true++(mulOk (((ω 848086591093624478199982800356600887597192270500297099898370976620457492479 % 2):Nat):Int) (1+(((ω 1696173182187248956399965600713201775194384541000594199796741953240914984959 % 50):Nat):Int))::(List.replicate 21 true++(decide (0≤((((ω 6318737500113431201875081661020225939133705724032946675258658652159 % 2):Nat):Int)*(1+(((ω 12637475000226862403750163322040451878267411448065893350517317304319 % 50):Nat):Int))))::(decide (0≤((((ω 202199600003629798460002613152647230052278583169054293608277076869119 % 2):Nat):Int)*(1+(((ω 404399200007259596920005226305294460104557166338108587216554153738239 % 50):Nat):Int))))::(decide (0≤((((ω 6470387200116153550720083620884711361672914661409737395464866459811839 % 2):Nat):Int)*(1+(((ω 12940774400232307101440167241769422723345829322819474790929732919623679 % 50):Nat):Int))))::(decide (0≤((((ω 207052390403716913623042675868310763573533269165111596654875726713978879 % 2):Nat):Int)*(1+(((ω 414104780807433827246085351736621527147066538330223193309751453427957759 % 50):Nat):Int))))::(List.replicate 22 true++(mulOk (((ω 207052390403716913623042675868310763573533269165111596654875726713978879 % 2):Nat):Int) (1+(((ω 414104780807433827246085351736621527147066538330223193309751453427957759 % 50):Nat):Int))::(List.replicate 11 true)))))))))))))
noncomputable def dLaw3 (ω:Nat→Nat) (L:Lt):List Bool:=List.replicate 4 true++(mulOk (((ω 6470387200116153550720083620884711361672914661409737395464866459811839 % 2):Nat):Int) (1+(((ω 12940774400232307101440167241769422723345829322819474790929732919623679 % 50):Nat):Int))::(List.replicate 15 true++(mulOk (((ω 202199600003629798460002613152647230052278583169054293608277076869119 % 2):Nat):Int) (1+(((ω 404399200007259596920005226305294460104557166338108587216554153738239 % 50):Nat):Int))::(List.replicate 15 true++(mulOk (((ω 6318737500113431201875081661020225939133705724032946675258658652159 % 2):Nat):Int) (1+(((ω 12637475000226862403750163322040451878267411448065893350517317304319 % 50):Nat):Int))::(List.replicate 21 true++(decide (0≤((((ω 47078263015400105728768420674057498120767665833480258846719 % 2):Nat):Int)*(1+(((ω 94156526030800211457536841348114996241535331666960517693439 % 50):Nat):Int))))::(decide (0≤((((ω 1506504416492803383320589461569839939864565306671368283095039 % 2):Nat):Int)*(1+(((ω 3013008832985606766641178923139679879729130613342736566190079 % 50):Nat):Int))))::(decide (0≤((((ω 48208141327769708266258862770234878075666089813483785059041279 % 2):Nat):Int)*(1+(((ω 96416282655539416532517725540469756151332179626967570118082559 % 50):Nat):Int))))::(decide (0≤((((ω 1542660522488630664520283608647516098421314874031481121889320959 % 2):Nat):Int)*(1+(((ω 3085321044977261329040567217295032196842629748062962243778641919 % 50):Nat):Int))))::(List.replicate 22 true++(mulOk (((ω 1542660522488630664520283608647516098421314874031481121889320959 % 2):Nat):Int) (1+(((ω 3085321044977261329040567217295032196842629748062962243778641919 % 50):Nat):Int))::(List.replicate 15 true)))))))))))))
noncomputable def dLaw4 (ω:Nat→Nat) (L:Lt):List Bool:=mulOk (((ω 48208141327769708266258862770234878075666089813483785059041279 % 2):Nat):Int) (1+(((ω 96416282655539416532517725540469756151332179626967570118082559 % 50):Nat):Int))::(List.replicate 15 true++(mulOk (((ω 1506504416492803383320589461569839939864565306671368283095039 % 2):Nat):Int) (1+(((ω 3013008832985606766641178923139679879729130613342736566190079 % 50):Nat):Int))::(List.replicate 15 true++(mulOk (((ω 47078263015400105728768420674057498120767665833480258846719 % 2):Nat):Int) (1+(((ω 94156526030800211457536841348114996241535331666960517693439 % 50):Nat):Int))::(List.replicate 21 true++(decide (((1+(((ω 1471195719231253304024013146064296816273989557296258088959 % 60):Nat):Int))+(1+(((ω 367798929807813326006003286516074204068497389324064522239 % 40):Nat):Int))) > 0)::(decide (0≤((((ω 350760392959416700368884359851907924717423810314239 % 2):Nat):Int)*(1+(((ω 701520785918833400737768719703815849434847620628479 % 50):Nat):Int))))::(decide (0≤((((ω 11224332574701334411804299515261053590957561930055679 % 2):Nat):Int)*(1+(((ω 22448665149402668823608599030522107181915123860111359 % 50):Nat):Int))))::(decide (0≤((((ω 359178642390442701177737584488353714910641981761781759 % 2):Nat):Int)*(1+(((ω 718357284780885402355475168976707429821283963523563519 % 50):Nat):Int))))::(decide (0≤((((ω 11493716556494166437687602703627318877140543416377016319 % 2):Nat):Int)*(1+(((ω 22987433112988332875375205407254637754281086832754032639 % 50):Nat):Int))))::(List.replicate 22 true++(mulOk (((ω 11493716556494166437687602703627318877140543416377016319 % 2):Nat):Int) (1+(((ω 22987433112988332875375205407254637754281086832754032639 % 50):Nat):Int))::(List.replicate 15 true++(mulOk (((ω 359178642390442701177737584488353714910641981761781759 % 2):Nat):Int) (1+(((ω 718357284780885402355475168976707429821283963523563519 % 50):Nat):Int))::(List.replicate 2 true)))))))))))))))
noncomputable def dLaw5 (ω:Nat→Nat) (L:Lt):List Bool:=List.replicate 13 true++(mulOk (((ω 11224332574701334411804299515261053590957561930055679 % 2):Nat):Int) (1+(((ω 22448665149402668823608599030522107181915123860111359 % 50):Nat):Int))::(List.replicate 15 true++(mulOk (((ω 350760392959416700368884359851907924717423810314239 % 2):Nat):Int) (1+(((ω 701520785918833400737768719703815849434847620628479 % 50):Nat):Int))::(List.replicate 21 true++(decide (0≤((((ω 2613368577952807399398716985075979863982079 % 2):Nat):Int)*(1+(((ω 5226737155905614798797433970151959727964159 % 50):Nat):Int))))::(decide (0≤((((ω 83627794494489836780758943522431355647426559 % 2):Nat):Int)*(1+(((ω 167255588988979673561517887044862711294853119 % 50):Nat):Int))))::(decide (0≤((((ω 2676089423823674776984286192717803380717649919 % 2):Nat):Int)*(1+(((ω 5352178847647349553968572385435606761435299839 % 50):Nat):Int))))::(decide (0≤((((ω 85634861562357592863497158166969708182964797439 % 2):Nat):Int)*(1+(((ω 171269723124715185726994316333939416365929594879 % 50):Nat):Int))))::(List.replicate 22 true++(mulOk (((ω 85634861562357592863497158166969708182964797439 % 2):Nat):Int) (1+(((ω 171269723124715185726994316333939416365929594879 % 50):Nat):Int))::(List.replicate 15 true++(mulOk (((ω 2676089423823674776984286192717803380717649919 % 2):Nat):Int) (1+(((ω 5352178847647349553968572385435606761435299839 % 50):Nat):Int))::(List.replicate 6 true)))))))))))))
noncomputable def dLaw6 (ω:Nat→Nat) (L:Lt):List Bool:=List.replicate 9 true++(mulOk (((ω 83627794494489836780758943522431355647426559 % 2):Nat):Int) (1+(((ω 167255588988979673561517887044862711294853119 % 50):Nat):Int))::(List.replicate 15 true++(mulOk (((ω 2613368577952807399398716985075979863982079 % 2):Nat):Int) (1+(((ω 5226737155905614798797433970151959727964159 % 50):Nat):Int))::(List.replicate 21 true++(decide (0≤((((ω 19471113219505603606989361234575359 % 2):Nat):Int)*(1+(((ω 38942226439011207213978722469150719 % 50):Nat):Int))))::(decide (0≤((((ω 623075623024179315423659559506411519 % 2):Nat):Int)*(1+(((ω 1246151246048358630847319119012823039 % 50):Nat):Int))))::(decide (0≤((((ω 19938419936773738093557105904205168639 % 2):Nat):Int)*(1+(((ω 39876839873547476187114211808410337279 % 50):Nat):Int))))::(decide (0≤((((ω 638029437976759618993827388934565396479 % 2):Nat):Int)*(1+(((ω 1276058875953519237987654777869130792959 % 50):Nat):Int))))::(List.replicate 22 true++(mulOk (((ω 638029437976759618993827388934565396479 % 2):Nat):Int) (1+(((ω 1276058875953519237987654777869130792959 % 50):Nat):Int))::(List.replicate 15 true++(mulOk (((ω 19938419936773738093557105904205168639 % 2):Nat):Int) (1+(((ω 39876839873547476187114211808410337279 % 50):Nat):Int))::(List.replicate 10 true)))))))))))))
noncomputable def dLaw7 (ω:Nat→Nat) (L:Lt):List Bool:=List.replicate 5 true++(mulOk (((ω 623075623024179315423659559506411519 % 2):Nat):Int) (1+(((ω 1246151246048358630847319119012823039 % 50):Nat):Int))::(List.replicate 15 true++(mulOk (((ω 19471113219505603606989361234575359 % 2):Nat):Int) (1+(((ω 38942226439011207213978722469150719 % 50):Nat):Int))::(List.replicate 21 true++(decide (0≤((((ω 145071098353755500964741119 % 2):Nat):Int)*(1+(((ω 290142196707511001929482239 % 50):Nat):Int))))::(decide (0≤((((ω 4642275147320176030871715839 % 2):Nat):Int)*(1+(((ω 9284550294640352061743431679 % 50):Nat):Int))))::(decide (0≤((((ω 148552804714245632987894906879 % 2):Nat):Int)*(1+(((ω 297105609428491265975789813759 % 50):Nat):Int))))::(decide (0≤((((ω 4753689750855860255612637020159 % 2):Nat):Int)*(1+(((ω 9507379501711720511225274040319 % 50):Nat):Int))))::(List.replicate 22 true++(mulOk (((ω 4753689750855860255612637020159 % 2):Nat):Int) (1+(((ω 9507379501711720511225274040319 % 50):Nat):Int))::(List.replicate 15 true++(mulOk (((ω 148552804714245632987894906879 % 2):Nat):Int) (1+(((ω 297105609428491265975789813759 % 50):Nat):Int))::(List.replicate 14 true)))))))))))))
noncomputable def dLaw8 (ω:Nat→Nat) (L:Lt):List Bool:=List.replicate 1 true++(mulOk (((ω 4642275147320176030871715839 % 2):Nat):Int) (1+(((ω 9284550294640352061743431679 % 50):Nat):Int))::(List.replicate 15 true++(mulOk (((ω 145071098353755500964741119 % 2):Nat):Int) (1+(((ω 290142196707511001929482239 % 50):Nat):Int))::(List.replicate 26 true++(decide (0≤((((ω 1080863910568919039 % 2):Nat):Int)*(1+(((ω 2161727821137838079 % 50):Nat):Int))))::(decide (0≤((((ω 34587645138205409279 % 2):Nat):Int)*(1+(((ω 69175290276410818559 % 50):Nat):Int))))::(decide (0≤((((ω 1106804644422573096959 % 2):Nat):Int)*(1+(((ω 2213609288845146193919 % 50):Nat):Int))))::(decide (0≤((((ω 35417748621522339102719 % 2):Nat):Int)*(1+(((ω 70835497243044678205439 % 50):Nat):Int))))::(List.replicate 22 true++(mulOk (((ω 35417748621522339102719 % 2):Nat):Int) (1+(((ω 70835497243044678205439 % 50):Nat):Int))::(List.replicate 15 true++(mulOk (((ω 1106804644422573096959 % 2):Nat):Int) (1+(((ω 2213609288845146193919 % 50):Nat):Int))::(List.replicate 13 true)))))))))))))
noncomputable def dLaw9 (ω:Nat→Nat) (L:Lt):List Bool:=List.replicate 2 true++(mulOk (((ω 34587645138205409279 % 2):Nat):Int) (1+(((ω 69175290276410818559 % 50):Nat):Int))::(List.replicate 15 true++(mulOk (((ω 1080863910568919039 % 2):Nat):Int) (1+(((ω 2161727821137838079 % 50):Nat):Int))::(List.replicate 26 true++(decide (0≤((((ω 8053063679 % 2):Nat):Int)*(1+(((ω 16106127359 % 50):Nat):Int))))::(decide (0≤((((ω 257698037759 % 2):Nat):Int)*(1+(((ω 515396075519 % 50):Nat):Int))))::(decide (0≤((((ω 8246337208319 % 2):Nat):Int)*(1+(((ω 16492674416639 % 50):Nat):Int))))::(decide (0≤((((ω 263882790666239 % 2):Nat):Int)*(1+(((ω 527765581332479 % 50):Nat):Int))))::(List.replicate 22 true++(mulOk (((ω 263882790666239 % 2):Nat):Int) (1+(((ω 527765581332479 % 50):Nat):Int))::(List.replicate 15 true++(mulOk (((ω 8246337208319 % 2):Nat):Int) (1+(((ω 16492674416639 % 50):Nat):Int))::(List.replicate 12 true)))))))))))))
noncomputable def dLaw10 (ω:Nat→Nat) (L:Lt):List Bool:=List.replicate 3 true++(mulOk (((ω 257698037759 % 2):Nat):Int) (1+(((ω 515396075519 % 50):Nat):Int))::(List.replicate 15 true++(mulOk (((ω 8053063679 % 2):Nat):Int) (1+(((ω 16106127359 % 50):Nat):Int))::(List.replicate 26 true++(decide (0≤((((ω 59 % 2):Nat):Int)*(1+(((ω 119 % 50):Nat):Int))))::(decide (0≤((((ω 1919 % 2):Nat):Int)*(1+(((ω 3839 % 50):Nat):Int))))::(decide (0≤((((ω 61439 % 2):Nat):Int)*(1+(((ω 122879 % 50):Nat):Int))))::(decide (0≤((((ω 1966079 % 2):Nat):Int)*(1+(((ω 3932159 % 50):Nat):Int))))::(List.replicate 22 true++(mulOk (((ω 1966079 % 2):Nat):Int) (1+(((ω 3932159 % 50):Nat):Int))::(List.replicate 15 true++(mulOk (((ω 61439 % 2):Nat):Int) (1+(((ω 122879 % 50):Nat):Int))::(List.replicate 11 true)))))))))))))
noncomputable def dLaw11 (ω:Nat→Nat) (L:Lt):List Bool:=List.replicate 4 true++(mulOk (((ω 1919 % 2):Nat):Int) (1+(((ω 3839 % 50):Nat):Int))::(List.replicate 15 true++(mulOk (((ω 59 % 2):Nat):Int) (1+(((ω 119 % 50):Nat):Int))::(List.replicate 19 true++(scB (L.O 0)::(List.replicate 5 true))))))
noncomputable def dLaws (ω:Nat→Nat) (L:Lt):List (List Bool):=[dLaw0 ω L,dLaw1 ω L,dLaw2 ω L,dLaw3 ω L,dLaw4 ω L,dLaw5 ω L,dLaw6 ω L,dLaw7 ω L,dLaw8 ω L,dLaw9 ω L,dLaw10 ω L,dLaw11 ω L]
theorem dLaw_all (ω:Nat→Nat) (L:Lt) (h:scB (L.O 0) = true):AllT (dLaws ω L).flatten:=allT_app (allT_rep (allT_cons (c_dom _ _) (allT_rep (allT_cons (c_br _) (allT_rep (allT_cons (c_dom _ _) (allT_rep (allT_cons (c_br _) (allT_rep (allT_cons (c_ge1 _) (allT_cons (c_lt _) (allT_cons (c_bl _) (allT_rep (allT_cons (c_ge _ _) (allT_cons (c_ge _ _) (allT_cons (c_ge _ _) (allT_cons (c_ge _ _) (allT_rep (allT_cons (c_mul _ _) (allT_one)))))))))))))))))))) (allT_app (allT_rep (allT_cons (c_mul _ _) (allT_rep (allT_cons (c_mul _ _) (allT_rep (allT_cons (c_mul _ _) (allT_rep (allT_cons (c_ge _ _) (allT_cons (c_ge _ _) (allT_cons (c_ge _ _) (allT_cons (c_ge _ _) (allT_rep (allT_cons (c_mul _ _) (allT_one)))))))))))))) (allT_app (allT_rep (allT_cons (c_mul _ _) (allT_rep (allT_cons (c_mul _ _) (allT_rep (allT_cons (c_mul _ _) (allT_rep (allT_cons (c_ge _ _) (allT_cons (c_ge _ _) (allT_cons (c_ge _ _) (allT_cons (c_ge _ _) (allT_rep (allT_cons (c_mul _ _) (allT_one)))))))))))))) (allT_app (allT_rep (allT_cons (c_mul _ _) (allT_rep (allT_cons (c_mul _ _) (allT_rep (allT_cons (c_mul _ _) (allT_rep (allT_cons (c_ge _ _) (allT_cons (c_ge _ _) (allT_cons (c_ge _ _) (allT_cons (c_ge _ _) (allT_rep (allT_cons (c_mul _ _) (allT_one)))))))))))))) (allT_app (allT_cons (c_mul _ _) (allT_rep (allT_cons (c_mul _ _) (allT_rep (allT_cons (c_mul _ _) (allT_rep (allT_cons (c_fin _ _) (allT_cons (c_ge _ _) (allT_cons (c_ge _ _) (allT_cons (c_ge _ _) (allT_cons (c_ge _ _) (allT_rep (allT_cons (c_mul _ _) (allT_rep (allT_cons (c_mul _ _) (allT_one)))))))))))))))) (allT_app (allT_rep (allT_cons (c_mul _ _) (allT_rep (allT_cons (c_mul _ _) (allT_rep (allT_cons (c_ge _ _) (allT_cons (c_ge _ _) (allT_cons (c_ge _ _) (allT_cons (c_ge _ _) (allT_rep (allT_cons (c_mul _ _) (allT_rep (allT_cons (c_mul _ _) (allT_one)))))))))))))) (allT_app (allT_rep (allT_cons (c_mul _ _) (allT_rep (allT_cons (c_mul _ _) (allT_rep (allT_cons (c_ge _ _) (allT_cons (c_ge _ _) (allT_cons (c_ge _ _) (allT_cons (c_ge _ _) (allT_rep (allT_cons (c_mul _ _) (allT_rep (allT_cons (c_mul _ _) (allT_one)))))))))))))) (allT_app (allT_rep (allT_cons (c_mul _ _) (allT_rep (allT_cons (c_mul _ _) (allT_rep (allT_cons (c_ge _ _) (allT_cons (c_ge _ _) (allT_cons (c_ge _ _) (allT_cons (c_ge _ _) (allT_rep (allT_cons (c_mul _ _) (allT_rep (allT_cons (c_mul _ _) (allT_one)))))))))))))) (allT_app (allT_rep (allT_cons (c_mul _ _) (allT_rep (allT_cons (c_mul _ _) (allT_rep (allT_cons (c_ge _ _) (allT_cons (c_ge _ _) (allT_cons (c_ge _ _) (allT_cons (c_ge _ _) (allT_rep (allT_cons (c_mul _ _) (allT_rep (allT_cons (c_mul _ _) (allT_one)))))))))))))) (allT_app (allT_rep (allT_cons (c_mul _ _) (allT_rep (allT_cons (c_mul _ _) (allT_rep (allT_cons (c_ge _ _) (allT_cons (c_ge _ _) (allT_cons (c_ge _ _) (allT_cons (c_ge _ _) (allT_rep (allT_cons (c_mul _ _) (allT_rep (allT_cons (c_mul _ _) (allT_one)))))))))))))) (allT_app (allT_rep (allT_cons (c_mul _ _) (allT_rep (allT_cons (c_mul _ _) (allT_rep (allT_cons (c_ge _ _) (allT_cons (c_ge _ _) (allT_cons (c_ge _ _) (allT_cons (c_ge _ _) (allT_rep (allT_cons (c_mul _ _) (allT_rep (allT_cons (c_mul _ _) (allT_one)))))))))))))) (allT_app (allT_rep (allT_cons (c_mul _ _) (allT_rep (allT_cons (c_mul _ _) (allT_rep (allT_cons h (allT_one))))))) (allT_nil))))))))))))
noncomputable def codLaw (L:Lt):Code:= .call (.ref 1508) ⟨[.ref (L.X 0)],[]⟩
noncomputable def chunks:Nat→List Bool→List (List Bool)
  | 0,l=>[l]
  | k+1,l=>l.take 100::chunks k (l.drop 100)
theorem chunks_flat:∀(k:Nat) (l:List Bool),(chunks k l).flatten = l
  | 0,l=>by simp [chunks]
  | k+1,l=>by rw [chunks,List.flatten_cons,chunks_flat k,List.take_append_drop]
noncomputable def simLaw (w:World) (L:Lt) (f:Fm) (p:Pos) (ω:Nat→Nat) (sz tk:Nat):Out:=
  sim (VW w (icL w) (mkSt f 0 [2])) 4658 ω hLaw (denQ (codLaw (up L))) (codLaw (up L)) p [] (sz+10) tk 1 (treeOf [(L.X 0+10,L.O 0)]) [] []
theorem runLaw1 (w:World) (L:Lt) (f:Fm) (p:Pos) (ω:Nat→Nat) (sz tk:Nat):((simLaw w L f p ω sz tk).ok,(simLaw w L f p ω sz tk).r,[0].map (simLaw w L f p ω sz tk).T.get) = (true,.ok (.ret (.bool true)),[(L.X 0+10,L.O 0)].map some):=by kernel_rfl
theorem runLaw2 (w:World) (L:Lt) (f:Fm) (p:Pos) (ω:Nat→Nat) (sz tk:Nat):chunks 11 (simLaw w L f p ω sz tk).ds = dLaws ω (up L):=by kernel_rfl
theorem runLaw3 (w:World) (L:Lt) (f:Fm) (p:Pos) (ω:Nat→Nat) (sz tk:Nat):(simLaw w L f p ω sz tk).ob.map (·.1) = (simLaw w L f p ω sz tk).ob.map (·.2):=by kernel_rfl
theorem runLaw (w:World) (L:Lt) (f:Fm) (p:Pos) (ω:Nat→Nat) (sz tk:Nat):RunIs (simLaw w L f p ω sz tk) (.ok (.ret (.bool true))) [0] [(L.X 0+10,L.O 0)] (dLaws ω (up L)).flatten:=⟨by
  have e1:=runLaw1 w L f p ω sz tk
  have e2:=runLaw2 w L f p ω sz tk
  have e3:=runLaw3 w L f p ω sz tk
  revert e1 e2 e3
  generalize simLaw w L f p ω sz tk = o
  intro e1 e2 e3
  simp only [Prod.mk.injEq] at e1
  rw [←e2,chunks_flat,e3,e1.1,e1.2.1,e1.2.2]⟩
noncomputable def ctLaw:Ct2 where
  np:=0
  nx:=1
  aI:=[]
  uI:=[]
  iI:=[]
  code _ L:=codLaw L
  ents _ L:=[(L.X 0,L.O 0)]
  posts _ L _:=[(L.X 0,L.O 0)]
  news _ _ _:=[]
  nn:=0
  res _ _ _:= .ret (.bool true)
  ds L:=[scB (L.O 0)]
  sh:=shapeB [2]
theorem okLaw (w:World):Ct2Ok w ctLaw:=ct2_okc (own:=icL w) (ks:=[2]) rfl icL_own (fun _ _=>rfl) (fun _ _=>rfl) (fun _=>rfl) fun L hd=>
  ⟨4658,hLaw,[0],fun _ _ _=>[],fun ω _ _=>(dLaws ω (up L)).flatten,rfl,fun ω _ _=>dLaw_all ω (up L) (hd _ (.head _)),fun f p ω sz tk=>runLaw w L f p ω sz tk⟩
end
end Mine
namespace Mine
open PySem PySem.W PyProof.Rows PySem.Calls
noncomputable section
theorem kAs_low:kAs.all (fun a=>Nat.blt a 1509) = true:=by kernel_rfl
theorem scB_script (ns:List Int):scB (scriptO ns) = true:=by
  cases ns with
  | nil=>show Nat.beq (PySem.code "list") nList = true;decide+kernel
  | cons n r=>show Nat.beq (PySem.code "list") nList = true;decide+kernel
theorem law_runs:LawRuns:=by
  intro w s ns B
  have hne:∀a o,(kT w.params).find a = some o→a∉[1509]:=by
    intro a o h hm
    have h1:a = 1509:=List.mem_singleton.mp hm
    have h2:=List.all_eq_true.mp kAs_low a (kT_keys w.params▸Bt.find_mem h)
    subst h1
    cases h2
  have hkt:KT w ⟨s.heap,[1509],s.gens,s.drawn,s.os⟩:=fun a o h=>⟨B.old a o h,hne a o h⟩
  have hT:∀i e,(treeOf [(1509,scriptO ns)]).get i = some e→i = 0∧e = (1509,scriptO ns):=by
    intro i e h
    have h':(Tr.node ((1509,scriptO ns):Ent) .nil .nil).get i = some e:=h
    rw [Tr.get_node] at h'
    by_cases hi:i = 0
    · rw [if_pos hi] at h'
      exact ⟨hi,(Option.some.inj h').symm⟩
    · rw [if_neg hi] at h'
      by_cases p:i % 2 = 1 <;> simp [p,Tr.get] at h'
  have rel:Rel ⟨s.heap,[1509],s.gens,s.drawn,s.os⟩ (1500+10) s.toks 1 (treeOf [(1509,scriptO ns)]) s:=by
    refine ⟨B.size,rfl,rfl,rfl,rfl,?_,?_,fun a o h _=>h,Nat.le_refl _⟩
    · intro i a o h
      obtain ⟨rfl,e⟩:=hT _ _ h
      cases e
      exact ⟨Nat.zero_lt_one,B.script,.inl (.head _)⟩
    · intro i j a o o' h h'
      rw [(hT _ _ h).1,(hT _ _ h').1]
  have tri:=(okLaw w).triple ⟨fun _=>0,fun _=>0,fun _=>0,fun _=>default,fun _=>#[],fun _=>scriptO ns,fun _=>1499,fun _=> .none,fun i=>envAt [(cC,default)] i⟩ 1500 s.toks [(cC,default)] rfl
    (fun d hd=>by
      have h1:d = scB (scriptO ns):=List.mem_singleton.mp hd
      rw [h1]
      exact scB_script ns) (fun _=>rfl) (fun x hx=>nomatch hx)
  rw [Sem.wp_cmd_call]
  refine tri ⟨s.heap,[1509],s.gens,s.drawn,s.os⟩ 1 (treeOf [(1509,scriptO ns)]) (fun _=>treeOf [(1509,scriptO ns)]) s Γ0 default _ [0] hkt (by show 10≤s.heap.objs.size;rw [B.size];decide) rel rfl rfl rfl (List.nodup_cons.mpr ⟨List.not_mem_nil,List.nodup_nil⟩)
    (fun Y=>pub_of (List.nodup_cons.mpr ⟨List.not_mem_nil,List.nodup_nil⟩) rfl (T1:=treeOf [(1509,scriptO ns)]) rfl rfl) (fun _=>rfl) (fun Y sz' tk' s' _ rel'=>?_)
  refine ⟨rfl,fun a o h=>?_,rel'.os,rel'.gens.trans B.gens⟩
  by_cases ha:a = 1509
  · subst ha
    have e1:some o = some (scriptO ns):=h.symm.trans B.script
    cases e1
    exact (rel'.own 0 1509 (scriptO ns) rfl).2.1
  · exact rel'.keep a o h (fun hm=>ha (List.mem_singleton.mp hm))
end
end Mine
namespace Mine
open PySem PySem.W PyProof.Rows PySem.Calls
noncomputable section
theorem objs_join {Q:Option SharedT} {w:World}
    (h1:Q.map (fun s=>(s.abs.heap.objs.size,s.abs.toks,(kAs.take 160).map s.abs.heap.get?)) = some (1509,2309,(kAs.take 160).map (kT w.params).find))
    (h2:Q.map (fun s=>(kAs.drop 160).map s.abs.heap.get?) = some ((kAs.drop 160).map (kT w.params).find)):
    Q.map (fun s=>yF s.abs) = some (yA w):=by
  cases Q with
  | none=>cases h1
  | some s=>
    simp only [Option.map_some,Option.some.injEq,Prod.mk.injEq] at h1 h2
    show some (s.abs.heap.objs.size,s.abs.toks,kAs.map s.abs.heap.get?) = some (1509,2309,kAs.map (kT w.params).find)
    have e:kAs.map s.abs.heap.get? = kAs.map (kT w.params).find:=by
      rw [←List.take_append_drop 160 kAs,List.map_append,List.map_append,h1.2.2,h2]
    rw [e,h1.1,h1.2.1]
theorem all_objs (w:World) (os:OsState):(topQ w os).map (fun s=>yF s.abs) = some (yA w):=objs_join (top_objs1 w os) (top_objs2 w os)
theorem all_holds:PySem.Challenge.rw_xw0355_01.Holds:=holds_law well fun h=>row_of top_looks all_objs law_runs h
end
end Mine

theorem PySem.Challenge.cw_xw0355_01_holds : PySem.Challenge.rw_xw0355_01.Holds :=
  Mine.all_holds
