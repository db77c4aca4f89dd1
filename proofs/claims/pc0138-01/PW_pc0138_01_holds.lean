import PyProof.Rows.All
import Wide.All
import OpenK.AllK
import Wide.FinOn
import KE.KLam
import KE.KNestM
import KE.KPar
import KE.KRevIter
import KE.KStopIter
import KE.KTops
import PySem.Challenge.RW_pc0138_01
set_option maxRecDepth 100000
set_option Elab.async false
set_option autoImplicit false
set_option linter.unusedVariables false
set_option linter.unusedSimpArgs false
set_option compiler.extract_closed false
set_option genSizeOf false
set_option maxHeartbeats 4000000
namespace Mine
open PySem PySem.Spec PySem.Calls PyProof.Rows PySem.W
local macro_rules
 | `(tactic| omega)=>`(tactic| first
  | assumption
  | decide
  | with_reducible exact Nat.le_add_right _ _
  | with_reducible exact Nat.le_add_left _ _
  | lia)
inductive D where
 | none
 | bool (b:Bool)
 | int (i:Int)
 | str (s:Str)
 | tup (l:List D)
 | obj (i:Nat)
 | val (v:Value)
 | aref
 | any
mutual
noncomputable def Rep (th:List Addr) (h:Heap):D → Value → Prop
 | .none,v=>v = .none
 | .bool b,v=>v = .bool b
 | .int i,v=>∃t,v = .int i t
 | .str s,v=>∃t,v = .str s t
 | .tup l,v=>∃a vs,v = .ref a ∧ h.TupAt a vs ∧ RepL th h l vs
 | .obj i,v=>∃a,th[i]? = some a ∧ v = .ref a
 | .val w,v=>v = w
 | .aref,v=>∃a,v = .ref a
 | .any,_=>True
noncomputable def RepL (th:List Addr) (h:Heap):List D → List Value → Prop
 | [],vs=>vs = []
 | d :: ds,vs=>∃v r,vs = v :: r ∧ Rep th h d v ∧ RepL th h ds r
end
inductive Cell where
 | list (l:List D)
 | inst (C:Addr) (dl:Nat)
 | dict (es:List (Str × D))
 | liter (src:Nat) (i:Nat)
 | enum (it:Nat) (i:Nat)
 | siter (s:Str) (i:Nat)
 | riter (x left:Int)
 | range (x y:Int)
 | exc (Cc:Addr) (od:Option Nat)
 | dead
set_option genInjectivity false in
structure Cx where
 prog:Program
 w:World
 H0:Heap
 K:Frag
 mg:Str → Option Value
 mb:Str → Option Value
 P:Addr
 cP:Addr
 GF:Addr
 KH:K.In H0
 kP:K.lookup P = none
 G:H0.Ns mainGlobals mg
 B:H0.Ns builtinsNs mb
 blt:∀x:Str,x ≠ "__name__" → mb x = bootBuiltins x
 nolim:H0.NoLimit
 bmain:∃bm ob,mg "__builtins__" = some (.ref bm) ∧ bm ≠ builtinsNs ∧ H0.get? bm = some ob ∧ ob.cls = .type "module" ∧ ob.dict = some builtinsNs ∧ ob.data = .plain
 hd:CodeHd H0 cP P
 hP:H0.get? P = some (tabObj #[])
noncomputable def EntOk (P:Params) (th:List Addr) (h:Heap):List (Str × D) → List DictEntry → Prop
 | [],es=>es = []
 | p :: r,es=>∃t v q,es = ⟨PyData.keyHash P p.1,.str p.1 t,v⟩ :: q ∧ Rep th h p.2 v ∧ EntOk P th h r q
noncomputable abbrev excObj (C:Addr) (t:Addr) (dv:Option Addr):Obj:={ cls:=.ref C,dict:=dv,data:=.fields #[.ref t,.none,.none,.none,.bool false,.none] }
noncomputable def CellOk (P:Params) (th:List Addr) (h:Heap) (a:Addr):Cell → Prop
 | .list l=>∃vs n,h.get? a = some { cls:=.type "list",dict:=none,data:=.seq (List.toArray vs) n,slots:=#[] } ∧ RepL th h l vs
 | .inst C dl=>∃dx,th[dl]? = some dx ∧ h.get? a = some (instObj C dx)
 | .dict es=>∃en n,h.get? a = some (dictOf en n) ∧ EntOk P th h es en
 | .liter src i=>∃l,th[src]? = some l ∧ h.IsListIter a l i
 | .enum it i=>∃b old,th[it]? = some b ∧ IsEnum h a b i old
 | .siter s i=>∃t,h.IsStrIter a "str_ascii_iterator" s t i
 | .riter x left=>IsRangeIter h a x left 1
 | .range x y=>∃t u v,IsRange h a x y 1 t u v
 | .exc Cc od=>∃t dv,h.get? a = some (excObj Cc t dv) ∧ (match od with | none=>dv = none | some dl=>∃x,th[dl]? = some x ∧ dv = some x)
 | .dead=>∃o,h.get? a = some o ∧ o.cls ≠ .type "tuple"
structure FrOk (C:Cx) (th:List Addr) (env:Env) (h:Heap):Prop where
 kind:env.scope.kind = .function
 at_:∃L o es n,env.frame = some L ∧ C.H0.get? L = none ∧ L ∉ th ∧ h.get? L = some o ∧ o.data = .dict es n
structure HI (C:Cx) (th:List Addr) (sg:List Cell) (fs:List Env) (h:Heap):Prop where
 stays:∀b o,b ≠ C.P → C.H0.get? b = some o → h.get? b = some o
 tab:∃ps,h.get? C.P = some (tabObj ps) ∧ TriplesOk ps.toList
 len:th.length = sg.length
 nd:th.Nodup
 high:∀a ∈ th,C.H0.get? a = none
 cells:∀(i:Nat) (c:Cell) (a:Addr),sg[i]? = some c → th[i]? = some a → CellOk C.w.params th h a c
 fr:∀env ∈ fs,FrOk C th env h
structure Kp (C:Cx) (th:List Addr) (fs:List Env) (h h':Heap):Prop where
 dom:∀b o,h.get? b = some o → ∃o',h'.get? b = some o'
 keep:∀b o,h.get? b = some o → b ∉ th → b ≠ C.P → (∀env ∈ fs,env.frame ≠ some b) → h'.get? b = some o
 frames:∀env ∈ fs,∀L,env.frame = some L → ∀o,h.get? L = some o → ∃sl,h'.get? L = some { o with slots:=sl }
section
variable {C:Cx} {th th':List Addr} {sg:List Cell} {fs:List Env} {h h' h'':Heap}
theorem Kp.refl:Kp C th fs h h:=⟨fun _ o e=>⟨o,e⟩,fun _ _ e _ _ _=>e,fun _ _ _ _ o e=>⟨o.slots,e⟩⟩
theorem Kp.of_ext (k:∀b o,h.get? b = some o → h'.get? b = some o):Kp C th fs h h':=
 ⟨fun b o e=>⟨o,k b o e⟩,fun b o e _ _ _=>k b o e,fun _ _ L _ o e=>⟨o.slots,k _ _ e⟩⟩
mutual
theorem Rep.mono (k1:∀(i:Nat) (a:Addr),th[i]? = some a → th'[i]? = some a) (k2:∀a vs,h.TupAt a vs → h'.TupAt a vs):∀{d:D} {v:Value},Rep th h d v → Rep th' h' d v
 | .none,_,e=>by simpa only [Rep] using e
 | .bool _,_,e=>by simpa only [Rep] using e
 | .int _,_,e=>by simpa only [Rep] using e
 | .str _,_,e=>by simpa only [Rep] using e
 | .tup l,v,e=>by
  simp only [Rep] at e ⊢
  obtain ⟨a,vs,rfl,ht,hl⟩:=e
  exact ⟨a,vs,rfl,k2 _ _ ht,RepL.mono k1 k2 hl⟩
 | .obj i,v,e=>by
  simp only [Rep] at e ⊢
  obtain ⟨a,ha,rfl⟩:=e
  exact ⟨a,k1 _ _ ha,rfl⟩
 | .val _,_,e=>by simpa only [Rep] using e
 | .aref,_,e=>by simpa only [Rep] using e
 | .any,_,_=>by simp only [Rep]
theorem RepL.mono (k1:∀(i:Nat) (a:Addr),th[i]? = some a → th'[i]? = some a) (k2:∀a vs,h.TupAt a vs → h'.TupAt a vs):∀{l:List D} {vs:List Value},RepL th h l vs → RepL th' h' l vs
 | [],vs,e=>by simpa only [RepL] using e
 | d :: l,vs,e=>by
  simp only [RepL] at e ⊢
  obtain ⟨v,r,rfl,h1,h2⟩:=e
  exact ⟨v,r,rfl,Rep.mono k1 k2 h1,RepL.mono k1 k2 h2⟩
end
theorem EntOk.mono {P:Params} (k1:∀(i:Nat) (a:Addr),th[i]? = some a → th'[i]? = some a) (k2:∀a vs,h.TupAt a vs → h'.TupAt a vs):∀{l:List (Str × D)} {es:List DictEntry},EntOk P th h l es → EntOk P th' h' l es
 | [],_,e=>e
 | p :: l,es,e=>by
  obtain ⟨t,v,q,rfl,h1,h2⟩:=e
  exact ⟨t,v,q,rfl,h1.mono k1 k2,EntOk.mono k1 k2 h2⟩
theorem CellOk.mono {P:Params} {a:Addr} {c:Cell} (k1:∀(i:Nat) (a:Addr),th[i]? = some a → th'[i]? = some a) (k2:∀a vs,h.TupAt a vs → h'.TupAt a vs) (k3:∀o,h.get? a = some o → h'.get? a = some o)
  (x:CellOk P th h a c):CellOk P th' h' a c:=by
 cases c with
 | list l=>obtain ⟨vs,n,ho,hl⟩:=x;exact ⟨vs,n,k3 _ ho,hl.mono k1 k2⟩
 | inst C dl=>obtain ⟨dx,e,ho⟩:=x;exact ⟨dx,k1 _ _ e,k3 _ ho⟩
 | dict es=>obtain ⟨en,n,ho,he⟩:=x;exact ⟨en,n,k3 _ ho,he.mono k1 k2⟩
 | liter src i=>obtain ⟨l,e,o,ho,r⟩:=x;exact ⟨l,k1 _ _ e,o,k3 _ ho,r⟩
 | enum it i=>obtain ⟨b,old,e,ho⟩:=x;exact ⟨b,old,k1 _ _ e,k3 _ ho⟩
 | siter s i=>obtain ⟨t,o,ho,r⟩:=x;exact ⟨t,o,k3 _ ho,r⟩
 | riter x' l=>exact k3 _ x
 | range x' y=>obtain ⟨t,u,v,ho⟩:=x;exact ⟨t,u,v,k3 _ ho⟩
 | exc Cc od=>
  obtain ⟨t,dv,ho,r⟩:=x
  refine ⟨t,dv,k3 _ ho,?_⟩
  cases od with
  | none=>exact r
  | some dl=>obtain ⟨y,e,q⟩:=r;exact ⟨y,k1 _ _ e,q⟩
 | dead=>obtain ⟨o,ho,hc⟩:=x;exact ⟨o,k3 _ ho,hc⟩
theorem CellOk.get {P:Params} {a:Addr} {c:Cell} (x:CellOk P th h a c):∃o,h.get? a = some o ∧ o.cls ≠ .type "tuple":=by
 cases c with
 | list l=>obtain ⟨vs,n,ho,hl⟩:=x;exact ⟨_,ho,by show Value.type "list" ≠ _;decide⟩
 | inst C dl=>obtain ⟨dx,e,ho⟩:=x;exact ⟨_,ho,by intro q;cases q⟩
 | dict es=>obtain ⟨en,n,ho,he⟩:=x;exact ⟨_,ho,by show Value.type "dict" ≠ _;decide⟩
 | liter src i=>obtain ⟨l,e,o,ho,r,_⟩:=x;exact ⟨o,ho,by rw [r];decide⟩
 | enum it i=>obtain ⟨b,old,e,ho⟩:=x;exact ⟨_,ho,by show Value.type "enumerate" ≠ _;decide⟩
 | siter s i=>obtain ⟨t,o,ho,r,_⟩:=x;exact ⟨o,ho,by rw [r];decide⟩
 | riter x' l=>exact ⟨_,x,by show Value.type "range_iterator" ≠ _;decide⟩
 | range x' y=>obtain ⟨t,u,v,ho⟩:=x;exact ⟨_,ho,by show Value.type "range" ≠ _;decide⟩
 | exc Cc od=>obtain ⟨t,dv,ho,r⟩:=x;exact ⟨_,ho,by intro q;cases q⟩
 | dead=>exact x
theorem HI.cellAt (I:HI C th sg fs h) {a:Addr} (ha:a ∈ th):∃(i:Nat) (c:Cell),sg[i]? = some c ∧ th[i]? = some a ∧ CellOk C.w.params th h a c:=by
 obtain ⟨i,hi⟩:=List.getElem?_of_mem ha
 have hl:i < sg.length:=by rw [←I.len];exact (List.getElem?_eq_some_iff.mp hi).1
 exact ⟨i,sg[i],List.getElem?_eq_getElem hl,hi,I.cells i _ a (List.getElem?_eq_getElem hl) hi⟩
theorem HI.noTup (I:HI C th sg fs h) {a:Addr} {vs:List Value} (ht:h.TupAt a vs):a ∉ th ∧ a ≠ C.P ∧ ∀env ∈ fs,env.frame ≠ some a:=by
 obtain ⟨o,n,ho,hc,hd⟩:=ht
 refine ⟨fun ha=>?_,fun q=>?_,fun env he q=>?_⟩
 ·obtain ⟨i,c,_,_,x⟩:=I.cellAt ha
  obtain ⟨o',ho',hn⟩:=x.get
  rw [ho] at ho';cases ho';exact hn hc
 ·obtain ⟨ps,hp,_⟩:=I.tab
  rw [q,hp] at ho;cases ho;cases hc
 ·obtain ⟨L,o',es,m,hf,_,_,hL,hD⟩:=(I.fr env he).at_
  rw [hf] at q;cases q
  rw [ho] at hL;cases hL
  rw [hd] at hD;cases hD
theorem Kp.tup (I:HI C th sg fs h) (k:Kp C th fs h h') {a:Addr} {vs:List Value} (ht:h.TupAt a vs):h'.TupAt a vs:=by
 obtain ⟨n1,n2,n3⟩:=I.noTup ht
 obtain ⟨o,n,ho,r⟩:=ht
 exact ⟨o,n,k.keep a o ho n1 n2 n3,r⟩
theorem Rep.step (I:HI C th sg fs h) (k:Kp C th fs h h') {tl:List Addr} {d:D} {v:Value} (r:Rep th h d v):Rep (th ++ tl) h' d v:=
 r.mono (fun i a e=>by rw [List.getElem?_append_left (List.getElem?_eq_some_iff.mp e).1];exact e) fun _ _=>k.tup I
theorem RepL.step (I:HI C th sg fs h) (k:Kp C th fs h h') {tl:List Addr} {d:List D} {v:List Value} (r:RepL th h d v):RepL (th ++ tl) h' d v:=
 r.mono (fun i a e=>by rw [List.getElem?_append_left (List.getElem?_eq_some_iff.mp e).1];exact e) fun _ _=>k.tup I
theorem HI.K (I:HI C th sg fs h):C.K.In h:=fun a o e=>I.stays a o (fun q=>by rw [q,C.kP] at e;cases e) (C.KH a o e)
theorem HI.g (I:HI C th sg fs h) {a:Addr} {m:Str → Option Value} (n:C.H0.Ns a m):h.Ns a m:=by
 obtain ⟨o,es,ep,ho,hd,r⟩:=n
 exact ⟨o,es,ep,I.stays a o (fun q=>by rw [q,C.hP] at ho;cases ho;cases hd) ho,hd,r⟩
theorem HI.nolim (I:HI C th sg fs h):h.NoLimit:=let ⟨mc,a,b⟩:=C.nolim;⟨mc,I.g a,b⟩
theorem HI.fresh (I:HI C th sg fs h) {a:Addr} (e:h.get? a = none):C.H0.get? a = none:=by
 cases q:C.H0.get? a with
 | none=>rfl
 | some o=>
  by_cases z:a = C.P
  ·obtain ⟨ps,hp,_⟩:=I.tab
   rw [z,hp] at e;cases e
  ·rw [I.stays a o z q] at e;cases e
theorem Kp.fresh (k:Kp C th fs h h') {a:Addr} (e:h'.get? a = none):h.get? a = none:=by
 cases q:h.get? a with
 | none=>rfl
 | some o=>
  obtain ⟨o',z⟩:=k.dom a o q
  rw [e] at z;cases z
theorem HI.ext (I:HI C th sg fs h) (k:∀b o,h.get? b = some o → h'.get? b = some o):HI C th sg fs h' where
 stays:=fun b o n e=>k b o (I.stays b o n e)
 tab:=let ⟨ps,e,r⟩:=I.tab;⟨ps,k _ _ e,r⟩
 len:=I.len
 nd:=I.nd
 high:=I.high
 cells:=fun i c a e1 e2=>(I.cells i c a e1 e2).mono (fun _ _ e=>e) (fun a vs ⟨o,n,e,r⟩=>⟨o,n,k _ _ e,r⟩) fun o e=>k _ _ e
 fr:=fun env he=>⟨(I.fr env he).kind,let ⟨L,o,es,n,a,b,c,d,e⟩:=(I.fr env he).at_;⟨L,o,es,n,a,b,c,k _ _ d,e⟩⟩
theorem push_ext {h:Heap} {o:Obj}:∀b x,h.get? b = some x → (h.push o).get? b = some x:=fun _ _ e=>Heap.get?_push_of_some _ e
theorem HI.push (I:HI C th sg fs h) (o:Obj):HI C th sg fs (h.push o):=I.ext push_ext
theorem Kp.push (o:Obj):Kp C th fs h (h.push o):=.of_ext push_ext
theorem HI.more (I:HI C th sg fs h) {a:Addr} {c:Cell} (ha:a ∉ th) (hi:C.H0.get? a = none) (hf:∀env ∈ fs,env.frame ≠ some a) (x:CellOk C.w.params (th ++ [a]) h a c):HI C (th ++ [a]) (sg ++ [c]) fs h where
 stays:=I.stays
 tab:=I.tab
 len:=by simp [I.len]
 nd:=by
  rw [List.nodup_append]
  exact ⟨I.nd,by simp,fun x hx y hy q=>by rw [List.mem_singleton] at hy;subst hy;subst q;exact ha hx⟩
 high:=fun b hb=>by
  rcases List.mem_append.mp hb with hb | hb
  ·exact I.high b hb
  ·rw [List.mem_singleton] at hb;subst hb;exact hi
 cells:=fun i c' b e1 e2=>by
  by_cases hl:i < th.length
  ·rw [List.getElem?_append_left hl] at e2
   rw [List.getElem?_append_left (by rw [←I.len];exact hl)] at e1
   exact (I.cells i c' b e1 e2).mono (fun i a e=>by rw [List.getElem?_append_left (List.getElem?_eq_some_iff.mp e).1];exact e) (fun _ _ e=>e) fun _ e=>e
  ·have hl:th.length ≤ i:=Nat.le_of_not_lt hl
   rw [List.getElem?_append_right hl] at e2
   rw [List.getElem?_append_right (by rw [←I.len];exact hl),←I.len] at e1
   cases hz:i - th.length with
   | zero=>rw [hz] at e1 e2;simp at e1 e2;subst e1;subst e2;exact x
   | succ n=>rw [hz] at e2;simp at e2
 fr:=fun env he=>⟨(I.fr env he).kind,by
  obtain ⟨L,o,es,n,p,q,r,s,t⟩:=(I.fr env he).at_
  refine ⟨L,o,es,n,p,q,fun hm=>?_,s,t⟩
  rcases List.mem_append.mp hm with hm | hm
  ·exact r hm
  ·rw [List.mem_singleton] at hm;subst hm;exact hf env he p⟩
theorem HI.turn (I:HI C th sg fs h) {a:Addr} {i:Nat} {c:Cell} (hi:th[i]? = some a) (k:∀b o,b ≠ a → h.get? b = some o → h'.get? b = some o)
  (x:CellOk C.w.params th h' a c):HI C th (sg.set i c) fs h':=by
 have ha:a ∈ th:=List.mem_of_getElem? hi
 have high:=I.high a ha
 have tk:∀b vs,h.TupAt b vs → h'.TupAt b vs:=fun b vs ht=>by
  have q:b ≠ a:=fun q=>(I.noTup ht).1 (q ▸ ha)
  obtain ⟨o,n,ho,r⟩:=ht
  exact ⟨o,n,k b o q ho,r⟩
 refine ⟨fun b o n e=>k b o (fun q=>?_) (I.stays b o n e),?_,by simpa using I.len,I.nd,I.high,fun j c' b e1 e2=>?_,fun env he=>⟨(I.fr env he).kind,?_⟩⟩
 ·subst q;rw [high] at e;cases e
 ·obtain ⟨ps,e,r⟩:=I.tab
  refine ⟨ps,k _ _ (fun q=>?_) e,r⟩
  have:=C.hP
  rw [q,high] at this;cases this
 ·by_cases hj:j = i
  ·subst hj
   rw [hi] at e2;cases e2
   rw [List.getElem?_set] at e1
   simp at e1
   obtain ⟨_,rfl⟩:=e1
   exact x
  ·rw [List.getElem?_set_ne (Ne.symm hj)] at e1
   have hb:b ≠ a:=fun q=>hj (by
    subst q
    have l1:=(List.getElem?_eq_some_iff.mp e2).1
    exact (List.getElem?_inj l1 I.nd).mp (e2.trans hi.symm))
   exact (I.cells j c' b e1 e2).mono (fun _ _ e=>e) tk fun o e=>k _ _ hb e
 ·obtain ⟨L,o,es,n,p,q,r,s,t⟩:=(I.fr env he).at_
  exact ⟨L,o,es,n,p,q,r,k _ _ (fun z=>r (z ▸ ha)) s,t⟩
theorem Kp.turn {a:Addr} (ha:a ∈ th) (I:HI C th sg fs h) (k:∀b o,b ≠ a → h.get? b = some o → h'.get? b = some o) (s:∃o,h'.get? a = some o):Kp C th fs h h':=
 ⟨fun b o e=>by
    by_cases q:b = a
    ·exact q ▸ s
    ·exact ⟨o,k b o q e⟩,fun b o e n _ _=>k b o (fun q=>n (q ▸ ha)) e,fun env he L hf o e=>by
  obtain ⟨L',o',es,n,p,q,r,_⟩:=(I.fr env he).at_
  rw [hf] at p;cases p
  exact ⟨o.slots,k _ _ (fun z=>r (z ▸ ha)) e⟩⟩
theorem Kp.trans {tl:List Addr} (hn:∀a ∈ tl,h.get? a = none) (x:Kp C th fs h h') (y:Kp C (th ++ tl) fs h' h''):Kp C th fs h h'' where
 dom:=fun b o e=>let ⟨o',e'⟩:=x.dom b o e;y.dom b o' e'
 keep:=fun b o e n1 n2 n3=>y.keep b o (x.keep b o e n1 n2 n3) (fun hm=>by
  rcases List.mem_append.mp hm with hm | hm
  ·exact n1 hm
  ·rw [hn b hm] at e;cases e) n2 n3
 frames:=fun env he L hf o e=>by
  obtain ⟨sl,e1⟩:=x.frames env he L hf o e
  obtain ⟨sl',e2⟩:=y.frames env he L hf _ e1
  exact ⟨sl',e2⟩
theorem Kp.trans0 (x:Kp C th fs h h') (y:Kp C th fs h' h''):Kp C th fs h h'':=x.trans (tl:=[]) (fun _ m=>nomatch m) (by rw [List.append_nil];exact y)
theorem Kp.drop {env:Env} (x:Kp C th (env :: fs) h h') (hL:∀L,env.frame = some L → h.get? L = none):Kp C th fs h h':=
 ⟨x.dom,fun b o e n1 n2 n3=>x.keep b o e n1 n2 fun env' he=>by
  rcases List.mem_cons.mp he with rfl | he
  ·intro q;rw [hL b q] at e;cases e
  ·exact n3 _ he,fun env' he=>x.frames env' (.tail _ he)⟩
end
set_option genInjectivity false in
structure FI where
 qual:Str
 scope:Scope
 L:Addr
 a:Addr
 cd:Value
 cl:List (Str × Addr)
 cv:List (Str × D)
noncomputable abbrev FI.env (f:FI):Env:=envX f.qual f.scope f.L f.a f.cd f.cl
structure AOk (A:Around) (k:Nat) (l:List Env):Prop where
 frames:A.frames = some l
 hd:A.handled = none
 depth:A.depth + k < recursionLimit
 units:A.units + 8 * k + 20 < cLine
structure InF (C:Cx) (fi:FI) (outer:List Env) (h₀:Heap) (th₀ th:List Addr) (sg:List Cell) (ro:List (Str × D)) (h:Heap):Prop where
 hi:HI C th sg outer h
 kp:Kp C th₀ outer h₀ h
 pre:∃tl,th = th₀ ++ tl ∧ ∀a ∈ tl,h₀.get? a = none
 base:∀b,h₀.get? b = none → C.H0.get? b = none
 basP:h₀.get? C.P ≠ none
 lo:h₀.get? fi.L = none
 lth:fi.L ∉ th
 lf:∀env ∈ outer,env.frame ≠ some fi.L
 lk:fi.scope.kind = .function
 ns:∃m,h.Ns fi.L m ∧ ∀(x:Str) (d:D),ro.lookup x = some d → ∃v,m x = some v ∧ Rep th h d v
 cl:∀(x:Str) (d:D),fi.cv.lookup x = some d → ∃c v,fi.cl.lookup x = some c ∧ h.IsCell c (some v) ∧ Rep th h d v ∧ c ∉ th ∧ h₀.get? c = none ∧ c ≠ fi.L ∧ ∀env ∈ outer,env.frame ≠ some c
section
variable {C:Cx} {fi:FI} {outer:List Env} {h₀ h h':Heap} {th₀ th tl:List Addr} {sg sg':List Cell} {ro:List (Str × D)}
theorem InF.below (I:InF C fi outer h₀ th₀ th sg ro h):HI C th sg (fi.env :: outer) h:=
 ⟨I.hi.stays,I.hi.tab,I.hi.len,I.hi.nd,I.hi.high,I.hi.cells,fun env he=>by
   rcases List.mem_cons.mp he with rfl | he
   ·obtain ⟨m,⟨o,es,n,ho,hd,_⟩,_⟩:=I.ns
    exact ⟨I.lk,fi.L,o,es,n,rfl,I.base _ I.lo,I.lth,ho,hd⟩
   ·exact I.hi.fr env he⟩
theorem HI.tail {fs:List Env} {env:Env} (I:HI C th sg (env :: fs) h):HI C th sg fs h:=⟨I.stays,I.tab,I.len,I.nd,I.high,I.cells,fun e he=>I.fr e (.tail _ he)⟩
theorem ns_slots {L:Addr} {m:Str → Option Value} (n:h.Ns L m) (k:∀o,h.get? L = some o → ∃sl,h'.get? L = some { o with slots:=sl }):h'.Ns L m:=by
 obtain ⟨o,es,ep,ho,hd,r⟩:=n
 obtain ⟨sl,hs⟩:=k o ho
 exact ⟨_,es,ep,hs,hd,r⟩
theorem InF.step (I:InF C fi outer h₀ th₀ th sg ro h) (J:HI C (th ++ tl) sg' (fi.env :: outer) h') (k:Kp C th (fi.env :: outer) h h') (hn:∀a ∈ tl,h.get? a = none):
  InF C fi outer h₀ th₀ (th ++ tl) sg' ro h':=by
 have B:=I.below
 obtain ⟨tl₀,e0,l0⟩:=I.pre
 have up:∀a ∈ tl,h₀.get? a = none:=fun a ha=>I.kp.fresh (hn a ha)
 obtain ⟨m,hm,hv⟩:=I.ns
 refine ⟨J.tail,?_,⟨tl₀ ++ tl,by rw [e0,List.append_assoc],fun a ha=>(List.mem_append.mp ha).elim (l0 a) (up a)⟩,I.base,I.basP,I.lo,fun q=>?_,I.lf,I.lk,⟨m,ns_slots hm (k.frames _ (.head _) _ rfl),fun x d e=>?_⟩,fun x d e=>?_⟩
 · -- from the entry to here
  refine ⟨fun b o e=>let ⟨o',e'⟩:=I.kp.dom b o e;k.dom b o' e',fun b o e n1 n2 n3=>?_,fun env he L hf o e=>?_⟩
  ·refine k.keep b o (I.kp.keep b o e n1 n2 n3) (fun q=>?_) n2 fun env he=>?_
   ·rw [e0] at q
    exact (List.mem_append.mp q).elim n1 fun q=>by rw [l0 b q] at e;cases e
   ·rcases List.mem_cons.mp he with rfl | he
    ·intro q
     cases q
     rw [I.lo] at e;cases e
    ·exact n3 env he
  ·obtain ⟨sl,e1⟩:=I.kp.frames env he L hf o e
   obtain ⟨sl',e2⟩:=k.frames env (.tail _ he) L hf _ e1
   exact ⟨sl',e2⟩
 ·obtain ⟨o,es,ep,ho,_⟩:=hm
  exact (List.mem_append.mp q).elim I.lth fun q=>by rw [hn _ q] at ho;cases ho
 ·obtain ⟨v,a,b⟩:=hv x d e
  exact ⟨v,a,Rep.step B k b⟩
 ·obtain ⟨c,v,a,⟨oc,ho,hd⟩,r,n1,n2,n3,n4⟩:=I.cl x d e
  have cP:c ≠ C.P:=fun q=>I.basP (q ▸ n2)
  exact ⟨c,v,a,⟨oc,k.keep c oc ho n1 cP (fun env he=>by
   rcases List.mem_cons.mp he with rfl | he
   ·intro q;cases q;exact n3 rfl
   ·exact n4 env he),hd⟩,Rep.step B k r,fun q=>(List.mem_append.mp q).elim n1 fun q=>(by rw [hn c q] at ho;cases ho),n2,n3,n4⟩
theorem InF.step0 (I:InF C fi outer h₀ th₀ th sg ro h) (J:HI C th sg' (fi.env :: outer) h') (k:Kp C th (fi.env :: outer) h h'):InF C fi outer h₀ th₀ th sg' ro h':=by
 have:=I.step (tl:=[]) (sg':=sg') (h':=h') (by rw [List.append_nil];exact J) k (fun _ m=>nomatch m)
 rwa [List.append_nil] at this
theorem InF.ext (I:InF C fi outer h₀ th₀ th sg ro h) (k:∀b o,h.get? b = some o → h'.get? b = some o):InF C fi outer h₀ th₀ th sg ro h':=
 I.step0 (I.below.ext k) (.of_ext k)
theorem InF.push (I:InF C fi outer h₀ th₀ th sg ro h) (o:Obj):InF C fi outer h₀ th₀ th sg ro (h.push o):=I.ext push_ext
theorem Rep.ext {d:D} {v:Value} (r:Rep th h d v) (k:∀b o,h.get? b = some o → h'.get? b = some o):Rep th h' d v:=r.mono (fun _ _ e=>e) fun _ _ ⟨o,n,e,x⟩=>⟨o,n,k _ _ e,x⟩
theorem RepL.ext {d:List D} {v:List Value} (r:RepL th h d v) (k:∀b o,h.get? b = some o → h'.get? b = some o):RepL th h' d v:=r.mono (fun _ _ e=>e) fun _ _ ⟨o,n,e,x⟩=>⟨o,n,k _ _ e,x⟩
noncomputable def put (x:Str) (d:D):List (Str × D) → List (Str × D)
 | []=>[(x,d)]
 | p :: r=>if x == p.1 then (x,d) :: r else p :: put x d r
theorem put_lookup (x:Str) (d:D):∀(ro:List (Str × D)) (y:Str),(put x d ro).lookup y = if y == x then some d else ro.lookup y
 | [],y=>by simp only [put,List.lookup_cons,List.lookup_nil];split <;> simp_all
 | p :: r,y=>by
  unfold put
  by_cases h:(x == p.1) = true
  ·rw [if_pos h]
   have:x = p.1:=beq_iff_eq.mp h
   obtain ⟨p1,p2⟩:=p
   simp only at this
   subst this
   simp only [List.lookup_cons]
   by_cases q:(y == x) = true <;> simp [q]
  ·rw [if_neg h]
   obtain ⟨p1,p2⟩:=p
   simp only [List.lookup_cons,put_lookup x d r]
   by_cases q:(y == p1) = true
   ·have:y = p1:=beq_iff_eq.mp q
    subst this
    have:(y == x) = false:=by
     cases z:(y == x) with
     | false=>rfl
     | true=>exact absurd (by rw [beq_iff_eq.mp z];simp) h
    simp [this]
   ·simp only [q]
theorem InF.store (I:InF C fi outer h₀ th₀ th sg ro h) {m':Str → Option Value} {x:Str} {d:D} {v:Value} (hs:Heap.SameBut fi.L h h')
  (hm:∃m,h.Ns fi.L m ∧ (∀(x:Str) (d:D),ro.lookup x = some d → ∃v,m x = some v ∧ Rep th h d v) ∧ m' = fun y=>if y = x then some v else m y)
  (hn:h'.Ns fi.L m') (r:Rep th h d v):InF C fi outer h₀ th₀ th sg (put x d ro) h':=by
 have B:=I.below
 have up:∀b o,b ≠ fi.L → h.get? b = some o → h'.get? b = some o:=fun b o n e=>(hs.2 b n).trans e
 have tup:∀a vs,h.TupAt a vs → h'.TupAt a vs:=fun a vs ht=>by
  have:=(B.noTup ht).2.2 _ (.head _)
  obtain ⟨o,n,ho,q⟩:=ht
  exact ⟨o,n,up a o (fun z=>this (by rw [z])) ho,q⟩
 have hP:C.P ≠ fi.L:=fun q=>I.basP (q ▸ I.lo)
 obtain ⟨m,hm1,hm2,rfl⟩:=hm
 refine ⟨⟨fun b o n e=>up b o (fun q=>?_) (I.hi.stays b o n e),?_,I.hi.len,I.hi.nd,I.hi.high,fun i c a e1 e2=>?_,fun env he=>⟨(I.hi.fr env he).kind,?_⟩⟩,?_,I.pre,I.base,I.basP,I.lo,I.lth,I.lf,I.lk,⟨_,hn,fun y d' e=>?_⟩,fun y d' e=>?_⟩
 ·rw [q,I.base _ I.lo] at e;cases e
 ·obtain ⟨ps,e,q⟩:=I.hi.tab
  exact ⟨ps,up _ _ hP e,q⟩
 ·exact (I.hi.cells i c a e1 e2).mono (fun _ _ e=>e) tup fun o e=>up a o (fun q=>I.lth (q ▸ List.mem_of_getElem? e2)) e
 ·obtain ⟨L,o,es,n,p,q,r',s,t⟩:=(I.hi.fr env he).at_
  exact ⟨L,o,es,n,p,q,r',up L o (fun z=>I.lf env he (by rw [p,z])) s,t⟩
 ·exact ⟨fun b o e=>by
   by_cases q:b = fi.L
   ·rw [q,I.lo] at e;cases e
   ·obtain ⟨o',e'⟩:=I.kp.dom b o e
    exact ⟨o',up b o' q e'⟩,fun b o e n1 n2 n3=>up b o (fun q=>by rw [q,I.lo] at e;cases e) (I.kp.keep b o e n1 n2 n3),fun env he L hf o e=>by
   obtain ⟨sl,e1⟩:=I.kp.frames env he L hf o e
   exact ⟨sl,up L _ (fun z=>I.lf env he (by rw [hf,z])) e1⟩⟩
 ·rw [put_lookup] at e
  by_cases q:(y == x) = true
  ·rw [if_pos q] at e
   cases e
   exact ⟨v,if_pos (beq_iff_eq.mp q),r.mono (fun _ _ e=>e) tup⟩
  ·rw [if_neg q] at e
   obtain ⟨v',a,b⟩:=hm2 y d' e
   exact ⟨v',(if_neg fun z=>q (beq_iff_eq.mpr z)).trans a,b.mono (fun _ _ e=>e) tup⟩
 ·obtain ⟨c,v',a,⟨oc,ho,hd⟩,r',n1,n2,n3,n4⟩:=I.cl y d' e
  exact ⟨c,v',a,⟨oc,up c oc n3 ho,hd⟩,r'.mono (fun _ _ e=>e) tup,n1,n2,n3,n4⟩
end
structure Flt (C:Cx) (th:List Addr) (h₀ h:Heap) (e:Addr) (noted:Bool):Prop where
 new:h₀.get? e = none
 out:e ∉ th
 obj:∃oe vs,h.get? e = some oe ∧ oe.cls = .ref C.GF ∧ oe.data = .fields vs ∧
  ((noted = false ∧ vs[1]? = some .none) ∨ ∃T oT ts fl,vs[1]? = some (.ref T) ∧ T ∉ th ∧ T ≠ e ∧ h₀.get? T = none ∧ h.get? T = some oT ∧ oT.data = .fields ts ∧ ts[3]? = some fl)
noncomputable abbrev AfterE (C:Cx) (fi:FI) (outer:List Env) (h₀:Heap) (th₀ th:List Addr) (s:Shared) (Q E:Value → Shared → Prop) (ro:List (Str × D)) (r:Option D) (sg':List Cell):Prop:=
 match r with
 | some d=>∀v h' tk tl,InF C fi outer h₀ th₀ (th ++ tl) sg' ro h' → Kp C th (fi.env :: outer) s.heap h' → (∀a ∈ tl,s.heap.get? a = none) → Rep (th ++ tl) h' d v → Q v { s with heap:=h',toks:=tk }
 | none=>∀e h' tk tl n,InF C fi outer h₀ th₀ (th ++ tl) sg' ro h' → Flt C (th ++ tl) h₀ h' e n → E (.ref e) { s with heap:=h',toks:=tk }
section
variable (C:Cx) (fi:FI) (k:Nat)
noncomputable def TE (e:Expr) (ro:List (Str × D)) (sg:List Cell) (r:Option D) (sg':List Cell):Prop:=
 ∀(A:Around) (outer:List Env) (h₀:Heap) (th₀ th:List Addr) (s:Shared) (Q E:Value → Shared → Prop),AOk A k (fi.env :: outer) → InF C fi outer h₀ th₀ th sg ro s.heap →
  AfterE C fi outer h₀ th₀ th s Q E ro r sg' → wpAny (model C.prog C.w) A (eval e fi.env) Q E s
noncomputable def TEs (es:List Expr) (ro:List (Str × D)) (sg:List Cell) (r:Option (List D)) (sg':List Cell):Prop:=
 ∀(A:Around) (outer:List Env) (h₀:Heap) (th₀ th:List Addr) (s:Shared) (pos:Pos) (Q:List Value → Shared → Prop) (E:Value → Shared → Prop),AOk A k (fi.env :: outer) → InF C fi outer h₀ th₀ th sg ro s.heap →
  (match r with
   | some d=>∀v h' tk tl,InF C fi outer h₀ th₀ (th ++ tl) sg' ro h' → Kp C th (fi.env :: outer) s.heap h' → (∀a ∈ tl,s.heap.get? a = none) → RepL (th ++ tl) h' d v → Q v { s with heap:=h',toks:=tk }
   | none=>∀e h' tk tl n,InF C fi outer h₀ th₀ (th ++ tl) sg' ro h' → Flt C (th ++ tl) h₀ h' e n → E (.ref e) { s with heap:=h',toks:=tk }) →
  wpAny (model C.prog C.w) A (spliced (backTo pos (starEach es fi.env))) Q E s
noncomputable def TB (e:Expr) (ro:List (Str × D)) (sg:List Cell) (r:Option Bool) (sg':List Cell):Prop:=
 ∀(A:Around) (outer:List Env) (h₀:Heap) (th₀ th:List Addr) (s:Shared) (Q:Bool → Shared → Prop) (E:Value → Shared → Prop),AOk A k (fi.env :: outer) → InF C fi outer h₀ th₀ th sg ro s.heap →
  (match r with
   | some d=>∀h' tk tl,InF C fi outer h₀ th₀ (th ++ tl) sg' ro h' → Kp C th (fi.env :: outer) s.heap h' → (∀a ∈ tl,s.heap.get? a = none) → Q d { s with heap:=h',toks:=tk }
   | none=>∀e h' tk tl n,InF C fi outer h₀ th₀ (th ++ tl) sg' ro h' → Flt C (th ++ tl) h₀ h' e n → E (.ref e) { s with heap:=h',toks:=tk }) →
  wpAny (model C.prog C.w) A (isTrue e fi.env (eval e fi.env)) Q E s
inductive Out where
 | next | brk | cont
 | ret (d:D)
 | exc
noncomputable def AfterS (C:Cx) (fi:FI) (outer:List Env) (h₀:Heap) (th₀ th:List Addr) (s:Shared) (Q:Flow → Shared → Prop) (E:Value → Shared → Prop) (o:Out) (ro':List (Str × D)) (sg':List Cell):Prop:=
 match o with
 | .next=>∀h' tk tl,InF C fi outer h₀ th₀ (th ++ tl) sg' ro' h' → Q .next { s with heap:=h',toks:=tk }
 | .brk=>∀h' tk tl,InF C fi outer h₀ th₀ (th ++ tl) sg' ro' h' → Q .brk { s with heap:=h',toks:=tk }
 | .cont=>∀h' tk tl,InF C fi outer h₀ th₀ (th ++ tl) sg' ro' h' → Q .cont { s with heap:=h',toks:=tk }
 | .ret d=>∀v h' tk tl,InF C fi outer h₀ th₀ (th ++ tl) sg' ro' h' → Rep (th ++ tl) h' d v → Q (.ret v) { s with heap:=h',toks:=tk }
 | .exc=>∀e h' tk tl n,InF C fi outer h₀ th₀ (th ++ tl) sg' ro' h' → Flt C (th ++ tl) h₀ h' e n → E (.ref e) { s with heap:=h',toks:=tk }
noncomputable def TS (ss:List Stmt) (ro:List (Str × D)) (sg:List Cell) (o:Out) (ro':List (Str × D)) (sg':List Cell):Prop:=
 ∀(A:Around) (outer:List Env) (h₀:Heap) (th₀ th:List Addr) (s:Shared) (Q:Flow → Shared → Prop) (E:Value → Shared → Prop),AOk A k (fi.env :: outer) → InF C fi outer h₀ th₀ th sg ro s.heap →
  AfterS C fi outer h₀ th₀ th s Q E o ro' sg' → wpAny (model C.prog C.w) A (execs ss fi.env) Q E s
noncomputable def TX (st:Stmt) (ro:List (Str × D)) (sg:List Cell) (o:Out) (ro':List (Str × D)) (sg':List Cell):Prop:=
 ∀(A:Around) (outer:List Env) (h₀:Heap) (th₀ th:List Addr) (s:Shared) (Q:Flow → Shared → Prop) (E:Value → Shared → Prop),AOk A k (fi.env :: outer) → InF C fi outer h₀ th₀ th sg ro s.heap →
  AfterS C fi outer h₀ th₀ th s Q E o ro' sg' → wpAny (model C.prog C.w) A (exec st fi.env) Q E s
noncomputable def CallOk (f:Value) (args:List D) (sg:List Cell) (r:Option D) (sg':List Cell):Prop:=
 ∀(A:Around) (l:List Env) (th:List Addr) (s:Shared) (vs:List Value) (Q E:Value → Shared → Prop),AOk A k l → HI C th sg l s.heap → RepL th s.heap args vs →
  (match r with
   | some d=>∀v h' tk tl,HI C (th ++ tl) sg' l h' → Kp C th l s.heap h' → (∀a ∈ tl,s.heap.get? a = none) → Rep (th ++ tl) h' d v → Q v { s with heap:=h',toks:=tk }
   | none=>∀e h' tk,HI C th sg' l h' → Kp C th l s.heap h' → Flt C th s.heap h' e true → E (.ref e) { s with heap:=h',toks:=tk }) →
  wpAny (model C.prog C.w) A (call f vs) Q E s
noncomputable def CodeOk (f:Value) (args:List D) (sg:List Cell) (r:Option D) (sg':List Cell):Prop:=
 ∀(A:Around) (l:List Env) (th:List Addr) (s:Shared) (vs:List Value) (R:Result → Shared → Prop),AOk A k l → HI C th sg l s.heap → RepL th s.heap args vs →
  (match r with
   | some d=>∀v h' tk tl,HI C (th ++ tl) sg' l h' → Kp C th l s.heap h' → (∀a ∈ tl,s.heap.get? a = none) → Rep (th ++ tl) h' d v → R (.ok (.ret v)) { s with heap:=h',toks:=tk }
   | none=>∀e h' tk,HI C th sg' l h' → Kp C th l s.heap h' → Flt C th s.heap h' e true → R (.error (.ref e)) { s with heap:=h',toks:=tk }) →
  codeAny (model C.prog C.w) A (.call f ⟨vs,[]⟩) R s
variable {C k}
theorem CodeOk.call {f:Value} {args:List D} {sg sg':List Cell} {r:Option D} (h:CodeOk C k f args sg r sg'):CallOk C k f args sg r sg':=by
 intro A l th s vs Q E a I R post
 refine wpAny_call (h A l th s vs _ a I R ?_)
 cases r with
 | some d=>exact post
 | none=>exact post
end
structure Xs (S:List Addr) (fs:List Env) (h h':Heap):Prop where
 keep:∀b o,h.get? b = some o → b ∉ S → (∀env ∈ fs,env.frame ≠ some b) → h'.get? b = some o
 frames:∀env ∈ fs,∀L,env.frame = some L → ∀o,h.get? L = some o → L ∉ S → ∃sl,h'.get? L = some { o with slots:=sl }
section
variable {C:Cx} {fi:FI} {outer fs:List Env} {h₀ h h' h'':Heap} {th₀ th tl S S':List Addr} {sg sg':List Cell} {ro:List (Str × D)} {e:Addr} {n:Bool}
theorem InF.xs (I:InF C fi outer h₀ th₀ th sg ro h) (x:Xs S (fi.env :: outer) h h') (hS:∀a ∈ S,a ∉ th ∧ h₀.get? a = none ∧ ∃o vs,h.get? a = some o ∧ o.data = .fields vs):InF C fi outer h₀ th₀ th sg ro h':=by
 have B:=I.below
 have base:=I.base
 have notD:∀a o,a ∈ S → h.get? a = some o → ∃vs,o.data = .fields vs:=fun a o m q=>by
  obtain ⟨_,_,o',vs,q',hd⟩:=hS a m
  rw [q] at q';cases q';exact ⟨vs,hd⟩
 have fr:∀env ∈ (fi.env :: outer),∀L,env.frame = some L → L ∉ S:=fun env he L hf m=>by
  obtain ⟨L',o,es,k,p,_,_,q,r⟩:=(B.fr env he).at_
  rw [hf] at p;cases p
  obtain ⟨vs,hd⟩:=notD _ _ m q
  rw [r] at hd;cases hd
 have tup:∀a vs,h.TupAt a vs → h'.TupAt a vs:=fun a vs ht=>by
  have n3:=(B.noTup ht).2.2
  obtain ⟨o,k,ho,hc,hd⟩:=ht
  exact ⟨o,k,x.keep a o ho (fun m=>by obtain ⟨vs,q⟩:=notD _ _ m ho;rw [hd] at q;cases q) n3,hc,hd⟩
 have hP:C.P ∉ S:=fun m=>I.basP (hS _ m).2.1
 have fH:∀env ∈ (fi.env :: outer),∀b o,C.H0.get? b = some o → env.frame ≠ some b:=fun env he b o q z=>by
  obtain ⟨L',o',es,k,p,a,_⟩:=(B.fr env he).at_
  rw [z] at p;cases p
  rw [a] at q;cases q
 have J:HI C th sg (fi.env :: outer) h':=by
  refine ⟨fun b o nP q=>x.keep b o (B.stays b o nP q) (fun m=>?_) (fun env he=>fH env he b o q),?_,B.len,B.nd,B.high,fun i c a e1 e2=>?_,fun env he=>⟨(B.fr env he).kind,?_⟩⟩
  ·rw [base _ (hS _ m).2.1] at q;cases q
  ·obtain ⟨ps,q,r⟩:=B.tab
   exact ⟨ps,x.keep _ _ q hP fun env he=>fH env he _ _ C.hP,r⟩
  ·have ha:a ∈ th:=List.mem_of_getElem? e2
   refine (B.cells i c a e1 e2).mono (fun _ _ e=>e) tup fun o q=>x.keep a o q (fun m=>(hS a m).1 ha) fun env he z=>?_
   obtain ⟨L',o',es,k,p,_,r,_⟩:=(B.fr env he).at_
   rw [z] at p;cases p
   exact r ha
  ·obtain ⟨L',o',es,k,p,a,r,q,t⟩:=(B.fr env he).at_
   obtain ⟨sl,z⟩:=x.frames env he L' p o' q (fr env he L' p)
   exact ⟨L',_,es,k,p,a,r,z,t⟩
 obtain ⟨m,hm,hv⟩:=I.ns
 refine ⟨J.tail,⟨fun b o q=>?_,fun b o q n1 n2 n3=>?_,fun env he L hf o q=>?_⟩,I.pre,base,I.basP,I.lo,I.lth,I.lf,I.lk,⟨m,ns_slots hm fun o q=>x.frames _ (.head _) _ rfl o q (fr _ (.head _) _ rfl),fun y d q=>?_⟩,fun y d q=>?_⟩
 ·obtain ⟨o',q'⟩:=I.kp.dom b o q
  have mS:b ∉ S:=fun m=>by rw [(hS b m).2.1] at q;cases q
  by_cases z:∀env ∈ (fi.env :: outer),env.frame ≠ some b
  ·exact ⟨o',x.keep b o' q' mS z⟩
  ·have z:∃env,env ∈ (fi.env :: outer) ∧ env.frame = some b:=Classical.byContradiction fun y=>z fun env he hf=>y ⟨env,he,hf⟩
   obtain ⟨env,he,hf⟩:=z
   obtain ⟨sl,e2⟩:=x.frames env he b hf _ q' mS
   exact ⟨_,e2⟩
 ·exact x.keep b o (I.kp.keep b o q n1 n2 n3) (fun m=>by rw [(hS b m).2.1] at q;cases q) fun env he=>by
   rcases List.mem_cons.mp he with rfl | he
   ·intro z;cases z;rw [I.lo] at q;cases q
   ·exact n3 env he
 ·obtain ⟨sl,e1⟩:=I.kp.frames env he L hf o q
  obtain ⟨sl',e2⟩:=x.frames env (.tail _ he) L hf _ e1 (fr env (.tail _ he) L hf)
  exact ⟨sl',e2⟩
 ·obtain ⟨v,a,b⟩:=hv y d q
  exact ⟨v,a,b.mono (fun _ _ e=>e) tup⟩
 ·obtain ⟨c,v,a,⟨oc,ho,hd⟩,r,n1,n2,n3,n4⟩:=I.cl y d q
  exact ⟨c,v,a,⟨oc,x.keep c oc ho (fun m=>by obtain ⟨vs,z⟩:=notD _ _ m ho;rw [hd] at z;cases z) (fun env he=>by
   rcases List.mem_cons.mp he with rfl | he
   ·intro z;cases z;exact n3 rfl
   ·exact n4 env he),hd⟩,r.mono (fun _ _ e=>e) tup,n1,n2,n3,n4⟩
theorem upd_other {h:Heap} {a:Addr} {f:Obj → Obj}:∀b o,b ≠ a → h.get? b = some o → (h.update a f).get? b = some o:=fun b o n e=>(Heap.get?_update_other _ _ (Ne.symm n)).trans e
theorem InF.field (I:InF C fi outer h₀ th₀ th sg ro h) {a:Addr} {o:Obj} {vs:Array Value} (ho:h.get? a = some o) (hd:o.data = .fields vs) (n1:a ∉ th) (n2:h₀.get? a = none) (f:Obj → Obj):InF C fi outer h₀ th₀ th sg ro (h.update a f):=by
 refine I.xs (S:=[a]) ⟨fun b x q n _=>upd_other b x (fun z=>n (by rw [z];exact .head _)) q,fun env he L hf x q n=>⟨x.slots,upd_other L x (fun z=>n (by rw [z];exact .head _)) q⟩⟩ fun b m=>?_
 rw [List.mem_singleton] at m
 subst m
 exact ⟨n1,n2,o,vs,ho,hd⟩
theorem funFrames_hideL {l:List Addr} {s:Heap}:∀{fs:List Env},(∀env ∈ fs,FrOk C th env s) → (∀env ∈ fs,∀L,env.frame = some L → L ∈ l) → s.FunFrames (hideAll s l) fs
 | [],_,_=>trivial
 | env :: r,h1,h2=>by
  obtain ⟨L,o,es,k,p,_,_,q,z⟩:=(h1 env (.head _)).at_
  exact ⟨by rw [(h1 env (.head _)).kind];decide,⟨L,o,p,hideAll_none _ (h2 env (.head _) L p),q,fun ws y=>by rw [z] at y;cases y⟩,funFrames_hideL (fun e m=>h1 e (.tail _ m)) fun e m=>h2 e (.tail _ m)⟩
theorem entry_flt {A:Around} {s:Shared} {Q:Unit → Shared → Prop} {E:Value → Shared → Prop} {M:Model} {oe:Obj} {vs:Array Value} {head:Value} {b:Bool} (hA:A.frames = some (fi.env :: outer)) (I:InF C fi outer h₀ th₀ th sg ro s.heap)
  (new:h₀.get? e = none) (out:e ∉ th) (he:s.heap.get? e = some oe) (hc:oe.cls = .ref C.GF) (hd:oe.data = .fields vs) (sz:1 < vs.size)
  (h:∀h',InF C fi outer h₀ th₀ th sg ro h' → Flt C th h₀ h' e true → Q () { s with heap:=h' }):
  wpAny M A (do let a ←frameOf fi.env;let pl ←entryPlaceOf fi.L b;let b ←EntryCells.newEntry head a .none (rawInt fi.L) .none pl;setField (.ref e) 1 b) Q E s:=by
 have B:=I.below
 have frm:∀env ∈ (fi.env :: outer),∀L,env.frame = some L → L ∈ (fi.env :: outer).filterMap (·.frame):=fun env he' L hf=>List.mem_filterMap.mpr ⟨env,he',hf⟩
 have nf:∀env ∈ (fi.env :: outer),∀a,env.frame = some a → ∃o,s.heap.get? a = some o ∧ ∀ws,o.data ≠ .fields ws:=fun env he' a y=>by
  obtain ⟨L',o',es,k,p,_,_,q',z'⟩:=(B.fr env he').at_
  rw [y] at p;cases p
  exact ⟨o',q',fun ws z=>by rw [z'] at z;cases z⟩
 obtain ⟨a0,h0⟩:∃a0,vs[0]? = some a0:=⟨vs[0],Array.getElem?_eq_getElem (by omega)⟩
 refine wpAny_entryW (base:=hideAll s.heap (e :: (fi.env :: outer).filterMap (·.frame))) hA (funFrames_hideL B.fr fun env he' L hf=>.tail _ (frm env he' L hf)) rfl he (fun b o q=>of_hideAll _ q) (hideAll_none _ (.head _)) hd sz h0 fun h' hN=>?_
 obtain ⟨k1,k2,k3,k4⟩:=hN
 have x:Xs [e] (fi.env :: outer) s.heap h':=by
  refine ⟨fun b o q n1 n2=>k1 b o (hideAll_get _ q fun m=>?_),fun env he' L hf o q n1=>?_⟩
  ·rcases List.mem_cons.mp m with rfl | m
   ·exact n1 (.head _)
   ·obtain ⟨env,he',hf⟩:=List.mem_filterMap.mp m
    exact n2 env he' hf
  ·refine k4 L o q fun ws z=>?_
   obtain ⟨o',q',w'⟩:=nf env he' L hf
   rw [q] at q';cases q'
   exact w' ws z
 refine h h' (I.xs x fun a m=>?_) ⟨new,out,?_⟩
 ·rw [List.mem_singleton] at m
  subst m
  exact ⟨out,new,oe,vs,he,hd⟩
 ·obtain ⟨oe',vs',T,oT,ts,g1,⟨g2,_⟩,g3,g4,g5,g6,g7,g8,g9⟩:=k3
  have hT:s.heap.get? T = none:=by
   cases q:s.heap.get? T with
   | none=>rfl
   | some o=>
    exfalso
    rcases hideAll_cases (e :: (fi.env :: outer).filterMap (·.frame)) _ _ _ q with m | m
    ·rcases List.mem_cons.mp m with m | m
     ·exact g6 m
     ·obtain ⟨env,he',hf⟩:=List.mem_filterMap.mp m
      obtain ⟨o',q',w'⟩:=nf env he' T hf
      obtain ⟨sl,z⟩:=k4 T o' q' w'
      rw [g7] at z;cases z
      exact w' _ g8
    ·rw [g5] at m;cases m
  refine ⟨oe',vs',g1,g2.trans hc,g3,.inr ⟨T,oT,ts,_,g4,fun m=>?_,g6,I.kp.fresh hT,g7,g8,g9⟩⟩
  obtain ⟨_,_,_,_,z⟩:=I.hi.cellAt m
  obtain ⟨o',z',_⟩:=z.get
  rw [hT] at z';cases z'
where
 hideAll_cases (l:List Addr) (h:Heap) (b:Addr) (o:Obj) (e:h.get? b = some o):b ∈ l ∨ (hideAll h l).get? b = some o:=by
  by_cases m:b ∈ l
  ·exact .inl m
  ·exact .inr (hideAll_get l e m)
theorem noteFrame_flt {A:Around} {s:Shared} {Q:Unit → Shared → Prop} {E:Value → Shared → Prop} {M:Model} (hA:A.frames = some (fi.env :: outer)) (I:InF C fi outer h₀ th₀ th sg ro s.heap) (X:Flt C th h₀ s.heap e n)
  (h:∀h',InF C fi outer h₀ th₀ th sg ro h' → Flt C th h₀ h' e true → Q () { s with heap:=h' }):wpAny M A (noteFrame (.ref e) fi.env) Q E s:=by
 obtain ⟨new,out,oe,vs,he,hc,hd,hT⟩:=X
 unfold noteFrame
 rcases hT with ⟨_,h1⟩ | ⟨T,oT,ts,fl,h1,tn,tne,tnew,hT,hdT,h3⟩
 ·refine wpAny_bind (wpAny_field he hd h1 ?_)
  rw [if_neg (by decide)]
  exact entry_flt hA I new out he hc hd (Array.getElem?_eq_some_iff.mp h1).1 h
 ·refine wpAny_bind (wpAny_field he hd h1 ?_)
  rw [if_pos (show (Value.ref T != Value.none) = true from by simp)]
  refine wpAny_bind (wpAny_field hT hdT h3 ?_)
  by_cases q:(fl == rawInt fi.L) = true
  ·rw [if_pos q]
   exact wpAny_pure (h _ I ⟨new,out,oe,vs,he,hc,hd,.inr ⟨T,oT,ts,fl,h1,tn,tne,tnew,hT,hdT,h3⟩⟩)
  ·rw [if_neg q]
   refine wpAny_bind (wpAny_setField hT hdT (Array.getElem?_eq_some_iff.mp h3).1 ?_)
   exact entry_flt hA (I.field hT hdT tn tnew _) new out (upd_other e _ (Ne.symm tne) he) hc hd (Array.getElem?_eq_some_iff.mp h1).1 h
theorem setFlight_flt {A:Around} {s:Shared} {Q:Unit → Shared → Prop} {E:Value → Shared → Prop} {M:Model} {f:Option Addr} (I:InF C fi outer h₀ th₀ th sg ro s.heap) (X:Flt C th h₀ s.heap e n)
  (h:∀h',InF C fi outer h₀ th₀ th sg ro h' → Flt C th h₀ h' e n → Q () { s with heap:=h' }):wpAny M A (setFlight (.ref e) f) Q E s:=by
 obtain ⟨new,out,oe,vs,he,hc,hd,hT⟩:=X
 unfold setFlight
 rcases hT with ⟨hn,h1⟩ | ⟨T,oT,ts,fl,h1,tn,tne,tnew,hT,hdT,h3⟩
 ·refine wpAny_bind (wpAny_field he hd h1 ?_)
  rw [if_neg (by decide)]
  exact wpAny_pure (h _ I ⟨new,out,oe,vs,he,hc,hd,.inl ⟨hn,h1⟩⟩)
 ·refine wpAny_bind (wpAny_field he hd h1 ?_)
  rw [if_pos (show (Value.ref T != Value.none) = true from by simp)]
  have sz:=(Array.getElem?_eq_some_iff.mp h3).1
  refine wpAny_setField hT hdT sz (h _ (I.field hT hdT tn tnew _) ⟨new,out,oe,vs,upd_other e _ (Ne.symm tne) he,hc,hd,.inr ⟨T,_,_,_,h1,tn,tne,tnew,Heap.get?_update_self _ hT (Obj.isFreed_of_fields (Obj.data_mapFields hdT _)),Obj.data_mapFields hdT _,Array.getElem?_setIfInBounds_self_of_lt sz⟩⟩)
theorem leaving_flt {A:Around} {s:Shared} {Q:Unit → Shared → Prop} {E:Value → Shared → Prop} {M:Model} (hA:A.frames = some (fi.env :: outer)) (I:InF C fi outer h₀ th₀ th sg ro s.heap) (X:Flt C th h₀ s.heap e n)
  (h:∀h',InF C fi outer h₀ th₀ th sg ro h' → Flt C th h₀ h' e true → Q () { s with heap:=h' }):wpAny M A (leaving fi.env (.ref e)) Q E s:=by
 unfold leaving
 exact wpAny_bind (noteFrame_flt hA I X fun h' I' X'=>setFlight_flt I' X' fun h'' I'' X''=>h h'' I'' X'')
theorem noted_flt {A:Around} {s:Shared} {E:Value → Shared → Prop} {M:Model} (hA:A.frames = some (fi.env :: outer)) (I:InF C fi outer h₀ th₀ th sg ro s.heap) (X:Flt C th h₀ s.heap e n)
  (h:∀h',InF C fi outer h₀ th₀ th sg ro h' → Flt C th h₀ h' e true → E (.ref e) { s with heap:=h' }):notedBy M A fi.env E (.ref e) s:=noteFrame_flt hA I X h
theorem cameBack_flt {A:Around} {s:Shared} {E:Value → Shared → Prop} {M:Model} (I:InF C fi outer h₀ th₀ th sg ro s.heap) (X:Flt C th h₀ s.heap e true)
  (h:∀h',InF C fi outer h₀ th₀ th sg ro h' → Flt C th h₀ h' e true → E (.ref e) { s with heap:=h' }):cameBackBy M A fi.env E (.ref e) s:=by
 have X':=X
 obtain ⟨new,out,oe,vs,he,hc,hd,hT⟩:=X'
 rcases hT with ⟨hn,_⟩ | ⟨T,oT,ts,fl,h1,tn,tne,tnew,hT,hdT,h3⟩
 ·cases hn
 ·show wpAny M A (do
   if (←field (.ref e) 1) == .none then unsupported "frame.own-activation:exception-without-traceback"
   setFlight (.ref e) fi.env.frame) _ _ _
  refine wpAny_bind (wpAny_field he hd h1 ?_)
  rw [if_neg (by simp)]
  exact setFlight_flt I X h
end
mutual
noncomputable def D.under (n:Nat):D → Bool
 | .tup l=>D.unders n l
 | .obj i=>decide (i < n)
 | _=>true
noncomputable def D.unders (n:Nat):List D → Bool
 | []=>true
 | d :: l=>D.under n d && D.unders n l
end
noncomputable def Cell.under (n:Nat):Cell → Bool
 | .list l=>D.unders n l
 | .inst _ dl=>decide (dl < n)
 | .dict es=>D.unders n (es.map (·.2))
 | .liter s _=>decide (s < n)
 | .enum s _=>decide (s < n)
 | .exc _ (some d)=>decide (d < n)
 | _=>true
section
variable {C:Cx} {fi:FI} {outer fs:List Env} {h₀ h h' h'':Heap} {th₀ th tl:List Addr} {sg sg':List Cell} {ro:List (Str × D)} {e:Addr} {n:Nat}
mutual
theorem Rep.take:∀{d:D} {v:Value},d.under n = true → Rep th h d v → Rep (th.take n) h d v
 | .none,_,_,e=>by simpa only [Rep] using e
 | .bool _,_,_,e=>by simpa only [Rep] using e
 | .int _,_,_,e=>by simpa only [Rep] using e
 | .str _,_,_,e=>by simpa only [Rep] using e
 | .tup l,v,u,e=>by
  simp only [Rep,D.under] at e u ⊢
  obtain ⟨a,vs,rfl,ht,hl⟩:=e
  exact ⟨a,vs,rfl,ht,RepL.take u hl⟩
 | .obj i,v,u,e=>by
  simp only [Rep,D.under,decide_eq_true_eq] at e u ⊢
  obtain ⟨a,ha,rfl⟩:=e
  exact ⟨a,by rw [List.getElem?_take_of_lt u];exact ha,rfl⟩
 | .val _,_,_,e=>by simpa only [Rep] using e
 | .aref,_,_,e=>by simpa only [Rep] using e
 | .any,_,_,_=>by simp only [Rep]
theorem RepL.take:∀{l:List D} {vs:List Value},D.unders n l = true → RepL th h l vs → RepL (th.take n) h l vs
 | [],vs,_,e=>by simpa only [RepL] using e
 | d :: l,vs,u,e=>by
  simp only [RepL,D.unders,Bool.and_eq_true] at e u ⊢
  obtain ⟨v,r,rfl,h1,h2⟩:=e
  exact ⟨v,r,rfl,Rep.take u.1 h1,RepL.take u.2 h2⟩
end
theorem EntOk.take {P:Params}:∀{l:List (Str × D)} {es:List DictEntry},D.unders n (l.map (·.2)) = true → EntOk P th h l es → EntOk P (th.take n) h l es
 | [],_,_,e=>e
 | p :: l,es,u,e=>by
  simp only [List.map_cons,D.unders,Bool.and_eq_true] at u
  obtain ⟨t,v,q,rfl,h1,h2⟩:=e
  exact ⟨t,v,q,rfl,h1.take u.1,h2.take u.2⟩
theorem CellOk.take {P:Params} {a:Addr} {c:Cell} (u:c.under n = true) (x:CellOk P th h a c):CellOk P (th.take n) h a c:=by
 have lt:∀(i:Nat) (b:Addr),decide (i < n) = true → th[i]? = some b → (th.take n)[i]? = some b:=fun i b u e=>by rw [List.getElem?_take_of_lt (by simpa using u)];exact e
 cases c with
 | list l=>obtain ⟨vs,n,r,hl⟩:=x;exact ⟨vs,n,r,hl.take u⟩
 | inst C dl=>obtain ⟨dx,e,ho⟩:=x;exact ⟨dx,lt _ _ u e,ho⟩
 | dict es=>obtain ⟨en,n,ho,he⟩:=x;exact ⟨en,n,ho,he.take u⟩
 | liter src i=>obtain ⟨l,e,r⟩:=x;exact ⟨l,lt _ _ u e,r⟩
 | enum it i=>obtain ⟨b,old,e,ho⟩:=x;exact ⟨b,old,lt _ _ u e,ho⟩
 | siter s i=>exact x
 | riter x' l=>exact x
 | range x' y=>exact x
 | exc Cc od=>
  obtain ⟨t,dv,ho,r⟩:=x
  refine ⟨t,dv,ho,?_⟩
  cases od with
  | none=>exact r
  | some dl=>obtain ⟨y,e,q⟩:=r;exact ⟨y,lt _ _ u e,q⟩
 | dead=>exact x
theorem HI.take (I:HI C th sg fs h) (u:(sg.take n).all (Cell.under n) = true):HI C (th.take n) (sg.take n) fs h where
 stays:=I.stays
 tab:=I.tab
 len:=by rw [List.length_take,List.length_take,I.len]
 nd:=I.nd.sublist (List.take_sublist ..)
 high:=fun a m=>I.high a (List.mem_of_mem_take m)
 cells:=fun i c a e1 e2=>by
  have l1:=(List.getElem?_eq_some_iff.mp e1).1
  rw [List.length_take] at l1
  have m:=List.mem_of_getElem? e1
  rw [List.getElem?_take_of_lt (by omega)] at e1 e2
  exact (I.cells i c a e1 e2).take (List.all_eq_true.mp u c m)
 fr:=fun env he=>⟨(I.fr env he).kind,let ⟨L,o,es,n,a,b,c,d⟩:=(I.fr env he).at_;⟨L,o,es,n,a,b,fun m=>c (List.mem_of_mem_take m),d⟩⟩
noncomputable def AllRep (th:List Addr) (h:Heap):List (Str × D) → List (Str × Value) → Prop
 | [],bs=>bs = []
 | p :: r,bs=>∃v q,bs = (p.1,v) :: q ∧ Rep th h p.2 v ∧ AllRep th h r q
theorem AllRep.look:∀{ro:List (Str × D)} {bs:List (Str × Value)},AllRep th h ro bs → ∀(x:Str) (d:D),ro.lookup x = some d → ∃v,bs.lookup x = some v ∧ Rep th h d v
 | [],_,_,_,_,e=>nomatch e
 | (y,d') :: r,_,⟨v,q,rfl,h1,h2⟩,x,d,e=>by
  simp only [List.lookup_cons] at e ⊢
  by_cases z:(x == y) = true
  ·simp only [z] at e ⊢;cases e;exact ⟨v,rfl,h1⟩
  ·simp only [z] at e ⊢;exact AllRep.look h2 x d e
theorem AllRep.keys:∀{ro:List (Str × D)} {bs:List (Str × Value)},AllRep th h ro bs → bs.map (·.1) = ro.map (·.1)
 | [],_,e=>by cases e;rfl
 | _ :: r,_,⟨v,q,rfl,h1,h2⟩=>by simp only [List.map_cons,AllRep.keys h2]
theorem lookup_rev:∀{bs:List (Str × Value)},(bs.map (·.1)).Nodup → ∀(x:Str) (v:Value),bs.lookup x = some v → bs.reverse.lookup x = some v
 | [],_,_,_,e=>nomatch e
 | (y,u) :: r,nd,x,v,e=>by
  simp only [List.map_cons,List.nodup_cons] at nd
  rw [List.reverse_cons,List.lookup_append]
  simp only [List.lookup_cons] at e
  by_cases z:(x == y) = true
  ·simp only [z] at e
   cases e
   have:r.reverse.lookup x = none:=by
    rw [List.lookup_eq_none_iff]
    intro p hp
    have hp:=List.mem_reverse.mp hp
    have:x ≠ p.1:=fun q=>nd.1 (by rw [←beq_iff_eq.mp z,q];exact List.mem_map_of_mem hp)
    simpa using this
   rw [this]
   simp [List.lookup_cons,z]
  ·simp only [z] at e
   rw [lookup_rev nd.2 x v e]
   rfl
theorem AOk.deeper {A:Around} {k:Nat} {l:List Env} (a:AOk A (k + 1) l) (env:Env):AOk (A.deeper env) k (env :: l):=
 ⟨Around.frames_deeper a.frames,a.hd,by have:=a.depth;show A.depth + 1 + k < _;omega,by have:=a.units;show A.units + 3 + 8 * k + 20 < _;omega⟩
theorem AOk.room {A:Around} {k:Nat} {l:List Env} (a:AOk A k l):A.depth < recursionLimit:=by have:=a.depth;omega
theorem AOk.line {A:Around} {k:Nat} {l:List Env} (a:AOk A k l):A.units < cLine:=by have:=a.units;omega
theorem InF.enter {l:List Env} (I:HI C th sg l h) (k:∀b o,h.get? b = some o → h'.get? b = some o) (hL:fi.L = h.objs.size) (hk:fi.scope.kind = .function) (hcv:fi.cv = [])
  (ns:∃m,h'.Ns fi.L m ∧ ∀(x:Str) (d:D),ro.lookup x = some d → ∃v,m x = some v ∧ Rep th h' d v):InF C fi l h th th sg ro h':=by
 have hn:h.get? fi.L = none:=by rw [hL];exact Heap.get?_none_of_le (Nat.le_refl _)
 refine ⟨I.ext k,.of_ext k,⟨[],by rw [List.append_nil],fun _ m=>nomatch m⟩,fun b=>I.fresh,fun q=>?_,hn,fun m=>?_,fun env he q=>?_,hk,ns,fun x d e=>?_⟩
 ·obtain ⟨ps,e,_⟩:=I.tab
  rw [e] at q;cases q
 ·obtain ⟨_,_,_,_,x⟩:=I.cellAt m
  obtain ⟨o,e,_⟩:=x.get
  rw [hn] at e;cases e
 ·obtain ⟨L,o,es,n,p,_,_,e,_⟩:=(I.fr env he).at_
  rw [q] at p;cases p
  rw [hn] at e;cases e
 ·rw [hcv] at e;cases e
noncomputable def retOf:Out → Option (Option D)
 | .next=>some (some .none)
 | .ret d=>some (some d)
 | .exc=>some none
 | _=>none
theorem Flt.take {e:Addr} {b:Bool} (X:Flt C th h₀ h e b):Flt C (th.take n) h₀ h e b:=
 ⟨X.new,fun m=>X.out (List.mem_of_mem_take m),let ⟨oe,vs,a,b',c,d⟩:=X.obj;⟨oe,vs,a,b',c,d.imp id fun ⟨T,oT,ts,fl,x1,x2,x3,x4⟩=>⟨T,oT,ts,fl,x1,fun m=>x2 (List.mem_of_mem_take m),x3,x4⟩⟩⟩
theorem CodeOk.of_def {k:Nat} {f:Addr} {args:List D} {o:Out} {r:Option D} {ro':List (Str × D)} {n:Nat}
  {name qual:Str} {params:Arguments} {body:List Stmt} {scope:Scope} {dV kV doc pm cdv ct oc:Value} {an od:Option Addr} {osl:Array (Option Value)}
  (ho:C.K.lookup f = some ⟨oc,od,.func (fnOf name qual params body scope dV kV doc pm an cdv ct),osl⟩) (hcd:codeIn C.K cdv qual = true)
  (hb:∀(th:List Addr) (s:Shared) (vs:List Value),C.K.In s.heap → RepL th s.heap args vs → ∃bs,BindsTo s (fnOf name qual params body scope dV kV doc pm an cdv ct) ⟨vs,[]⟩ bs ∧ AllRep th s.heap ro bs)
  (hnd:decide (ro.map (·.1)).Nodup = true) (hloc:((ro.map (·.1)).all fun x=>scope.names.lookup x == some .local) = true) (hcell:(scope.names.all fun x=>x.2 != .cell) = true)
  (hs:(scope.isCoroutine == false && scope.isGenerator == false && scope.kind == .function) = true) (hro:retOf o = some r) (hn:sg.length ≤ n) (hu:((sg'.take n).all (Cell.under n) && (r.all (D.under n))) = true) (hx:r = none → n = sg.length)
  (hbody:∀L,TS C ⟨qual,scope,L,f,cdv,[],[]⟩ k body ro sg o ro' sg'):CodeOk C (k + 1) (.ref f) args sg r (sg'.take n):=by
 intro A l th s vs Rr a I R post
 simp only [Bool.and_eq_true,beq_iff_eq] at hs hu
 obtain ⟨bs,hbs,hA⟩:=hb th s vs I.K R
 have keys:=hA.keys
 refine (codeAny_call_def (fd:=fnOf name qual params body scope dV kV doc pm an cdv ct) (body:=body) (binds:=bs) a.room (I.K _ _ ho) rfl I.nolim (codeRec_of I.K hcd) rfl hbs
  (fun x hx=>by have:=List.all_eq_true.mp hcell x hx;simpa using this) (fun x hx=>by
   have m:x.1 ∈ ro.map (·.1):=by rw [←keys];exact List.mem_map_of_mem hx
   have:=List.all_eq_true.mp hloc _ m
   simpa using this) (fun h₁ hns hk₁=>?_) hs.1.1 hs.1.2 hs.2)
 have ns:∃m,h₁.Ns s.heap.objs.size m ∧ ∀(x:Str) (d:D),ro.lookup x = some d → ∃v,m x = some v ∧ Rep th h₁ d v:=⟨_,hns,fun x d e=>by
  obtain ⟨v,a,b⟩:=hA.look x d e
  exact ⟨v,lookup_rev (by rw [keys];exact of_decide_eq_true hnd) x v a,b.ext hk₁⟩⟩
 have J:InF C ⟨qual,scope,s.heap.objs.size,f,cdv,[],[]⟩ l s.heap th th sg ro h₁:=InF.enter (fi:=⟨qual,scope,s.heap.objs.size,f,cdv,[],[]⟩) I hk₁ rfl hs.2 rfl ns
 have pre:∀{tl:List Addr} {sg':List Cell} {ro':List (Str × D)} {h':Heap},InF C ⟨qual,scope,s.heap.objs.size,f,cdv,[],[]⟩ l s.heap th (th ++ tl) sg' ro' h' → ∀a ∈ tl,s.heap.get? a = none:=fun J=>by
  obtain ⟨tl',e,q⟩:=J.pre
  rw [List.append_cancel_left e];exact q
 have lt:th.length ≤ n:=by rw [I.len];exact hn
 have tk:∀tl:List Addr,(th ++ tl).take n = th ++ tl.take (n - th.length):=fun tl=>by rw [List.take_append,List.take_of_length_le lt]
 have fin:∀(d:D) (h':Heap) (t:Tok) (tl:List Addr) (v:Value),r = some d → InF C ⟨qual,scope,s.heap.objs.size,f,cdv,[],[]⟩ l s.heap th (th ++ tl) sg' ro' h' → Rep (th ++ tl) h' d v → Rr (.ok (.ret v)) { s with heap:=h',toks:=t }:=fun d h' t tl v e J' r'=>by
  subst e
  have J2:=J'.hi.take (n:=n) hu.1
  have r2:=r'.take (n:=n) hu.2
  rw [tk] at J2 r2
  exact post v h' t _ J2 J'.kp (fun a m=>pre J' a (List.mem_of_mem_take m)) r2
 refine hbody s.heap.objs.size _ _ _ _ _ _ _ _ (a.deeper _) J ?_
 cases o with
 | next=>
  cases hro
  exact fun h' t tl J'=>fin .none h' t tl .none rfl J' (by simp only [Rep])
 | ret d=>
  cases hro
  exact fun v h' t tl J' r'=>fin d h' t tl v rfl J' r'
 | brk=>cases hro
 | cont=>cases hro
 | exc=>
  cases hro
  have hx:=hx rfl
  subst hx
  refine fun e h' t tl b J' X=>leaving_flt (fi:=⟨qual,scope,s.heap.objs.size,f,cdv,[],[]⟩) (Around.frames_deeper a.frames) J' X fun h'' J'' X''=>?_
  have J2:=J''.hi.take (n:=sg.length) hu.1
  have X2:=X''.take (n:=sg.length)
  rw [tk,←I.len,Nat.sub_self,List.take_zero,List.append_nil] at J2
  rw [tk,←I.len,Nat.sub_self,List.take_zero,List.append_nil] at X2
  have J3:HI C th (sg'.take sg.length) l h'':=by rw [←I.len];exact J2
  exact post e h'' t J3 J''.kp X2
end
section
variable {C:Cx} {fi:FI} {k:Nat} {outer fs:List Env} {h₀ h h' h'':Heap} {th₀ th tl tl':List Addr} {sg sg' sg1 sg2 sg3:List Cell} {ro ro':List (Str × D)} {s:Shared} {d d1 d2 d3:D}
theorem pv0 {Q:Value → Shared → Prop} (post:∀v h' tk tl,InF C fi outer h₀ th₀ (th ++ tl) sg' ro h' → Kp C th (fi.env :: outer) s.heap h' → (∀a ∈ tl,s.heap.get? a = none) → Rep (th ++ tl) h' d v → Q v { s with heap:=h',toks:=tk })
  {v:Value} {tk:Tok} (I:InF C fi outer h₀ th₀ th sg' ro h') (kp:Kp C th (fi.env :: outer) s.heap h') (r:Rep th h' d v):Q v { s with heap:=h',toks:=tk }:=
 post v h' tk [] (by rw [List.append_nil];exact I) kp (fun _ m=>nomatch m) (by rw [List.append_nil];exact r)
theorem pv {Q:Value → Shared → Prop} (post:∀v h' tk tl,InF C fi outer h₀ th₀ (th ++ tl) sg' ro h' → Kp C th (fi.env :: outer) s.heap h' → (∀a ∈ tl,s.heap.get? a = none) → Rep (th ++ tl) h' d v → Q v { s with heap:=h',toks:=tk })
  {v:Value} {tk:Tok} (I:InF C fi outer h₀ th₀ th sg' ro s.heap) (r:Rep th s.heap d v):Q v { s with toks:=tk }:=pv0 (h':=s.heap) post I .refl r
theorem fresh_app (n1:∀a ∈ tl,h.get? a = none) (k1:Kp C th fs h h') (n2:∀a ∈ tl',h'.get? a = none):∀a ∈ tl ++ tl',h.get? a = none:=fun a m=>(List.mem_append.mp m).elim (n1 a) fun m=>k1.fresh (n2 a m)
theorem TE.name {x:Str} {pos:Pos} (hk:fi.scope.names.lookup x = some .local) (hr:ro.lookup x = some d) (hd:(x == ("__debug__":Str)) = false):TE C fi k (.Name x pos) ro sg (some d) sg:=by
 intro A outer h₀ th₀ th s Q E a I post
 obtain ⟨m,hm,hv⟩:=I.ns
 obtain ⟨v,e,r⟩:=hv x d hr
 exact wpAny_Name (wpAny_loadName_local (env:=fi.env) I.lk hk hm e (pv (s:=s) (tk:=s.toks) post I r)) hd
theorem TE.nameC {x:Str} {pos:Pos} (hk:fi.scope.names.lookup x = some .cell) (hr:fi.cv.lookup x = some d) (hd:(x == ("__debug__":Str)) = false):TE C fi k (.Name x pos) ro sg (some d) sg:=by
 intro A outer h₀ th₀ th s Q E a I post
 obtain ⟨c,v,e,hc,r,_⟩:=I.cl x d hr
 exact wpAny_Name (wpAny_loadName_cell (env:=fi.env) I.lk hk e hc (pv (s:=s) (tk:=s.toks) post I r)) hd
noncomputable def gD:Value → D
 | .none=>.none
 | .bool b=>.bool b
 | .int i _=>.int i
 | .str x _=>.str x
 | v=>.val v
theorem gD_rep (v:Value):Rep th h (gD v) v:=by cases v <;> simp [gD,Rep]
theorem TE.glob {x:Str} {pos:Pos} {v:Value} (hk:fi.scope.names.lookup x = some .globalImplicit) (hr:nsIn C.K mainGlobals x = some (some v)) (hd:(x == ("__debug__":Str)) = false):TE C fi k (.Name x pos) ro sg (some (gD v)) sg:=by
 intro A outer h₀ th₀ th s Q E a I post
 exact Name_function_global (env:=fi.env) I.lk hk (loadGlobal_global (env:=fi.env) (I.hi.g C.G) (mg_of C.KH C.G hr) (pv (s:=s) (tk:=s.toks) post I (gD_rep v))) hd
theorem TE.blt {x:Str} {pos:Pos} {v:Value} (hk:fi.scope.names.lookup x = some .globalImplicit) (hr:nsIn C.K mainGlobals x = some none) (hb:bootBuiltins x = some v) (hn:(x == "__name__") = false) (hd:(x == ("__debug__":Str)) = false):TE C fi k (.Name x pos) ro sg (some (.val v)) sg:=by
 intro A outer h₀ th₀ th s Q E a I post
 exact Name_function_global (env:=fi.env) I.lk hk (loadGlobal_builtin (env:=fi.env) (I.hi.g C.G) (mg_none_of C.KH C.G hr) (I.hi.g C.B) ((C.blt x (by simpa using hn)).trans hb) (pv (s:=s) (tk:=s.toks) post I (by simp only [Rep]))) hd
theorem TE.cint {i:Int} {n:Nat} {pos:Pos}:TE C fi k (.Constant (.int i) n pos) ro sg (some (.int i)) sg:=by
 intro A outer h₀ th₀ th s Q E a I post
 exact wpAny_Constant_int (pv (s:=s) post I (by simp only [Rep];exact ⟨_,rfl⟩))
theorem TE.cstr {x:Str} {n:Nat} {pos:Pos}:TE C fi k (.Constant (.str x) n pos) ro sg (some (.str x)) sg:=by
 intro A outer h₀ th₀ th s Q E a I post
 show wpAny _ _ (mkText x) _ _ _
 exact wpAny_mkText (pv (s:=s) post I (by simp only [Rep];exact ⟨_,rfl⟩))
theorem TE.cbool {b:Bool} {n:Nat} {pos:Pos}:TE C fi k (.Constant (.bool b) n pos) ro sg (some (.bool b)) sg:=by
 intro A outer h₀ th₀ th s Q E a I post
 exact wpAny_pure (pv (s:=s) (tk:=s.toks) post I (by simp only [Rep]))
theorem TE.cnone {n:Nat} {pos:Pos}:TE C fi k (.Constant .none n pos) ro sg (some .none) sg:=by
 intro A outer h₀ th₀ th s Q E a I post
 exact wpAny_pure (pv (s:=s) (tk:=s.toks) post I (by simp only [Rep]))
noncomputable def OpOk (C:Cx) (t:Value → Value → Sem Value) (d1 d2 d:D):Prop:=
 ∀(A:Around) (k:Nat) (l:List Env) (th:List Addr) (sg:List Cell) (s:Shared) (v1 v2:Value) (Q E:Value → Shared → Prop),AOk A k l → HI C th sg l s.heap → Rep th s.heap d1 v1 → Rep th s.heap d2 v2 → (∀v tk,Rep th s.heap d v → Q v { s with toks:=tk }) → wpAny (model C.prog C.w) A (t v1 v2) Q E s
theorem seq2 {l r:Expr} {r2:Option D} {A:Around} {Q E:Value → Shared → Prop} {t:Value → Value → Sem Value} (h1:TE C fi k l ro sg (some d1) sg1) (h2:TE C fi k r ro sg1 (some d2) sg2) (a:AOk A k (fi.env :: outer)) (I:InF C fi outer h₀ th₀ th sg ro s.heap)
  (fin:∀(v1 v2:Value) (h':Heap) (tk:Tok) (tl:List Addr),InF C fi outer h₀ th₀ (th ++ tl) sg2 ro h' → Kp C th (fi.env :: outer) s.heap h' → (∀a ∈ tl,s.heap.get? a = none) → Rep (th ++ tl) h' d1 v1 → Rep (th ++ tl) h' d2 v2 → wpAny (model C.prog C.w) A (t v1 v2) Q E { s with heap:=h',toks:=tk }):
  wpAny (model C.prog C.w) A (eval l fi.env) (fun v1 s₁=>wpAny (model C.prog C.w) A (eval r fi.env) (fun v2 s₂=>wpAny (model C.prog C.w) A (t v1 v2) Q E s₂) E s₁) E s:=by
 refine h1 _ _ _ _ _ _ _ _ a I fun v1 h' tk tl I1 k1 n1 r1=>?_
 refine h2 _ _ _ _ _ _ _ _ a I1 fun v2 h'' tk' tl' I2 k2 n2 r2=>?_
 rw [List.append_assoc] at I2 r2
 have r1':=r1.step (tl:=tl') I1.below k2
 rw [List.append_assoc] at r1'
 exact fin v1 v2 h'' tk' _ I2 (k1.trans n1 k2) (fresh_app n1 k1 n2) r1' r2
theorem TE.binop {l r:Expr} {o:Operator} {pos:Pos} (h1:TE C fi k l ro sg (some d1) sg1) (h2:TE C fi k r ro sg1 (some d2) sg2) (op:OpOk C (binaryOp o) d1 d2 d):TE C fi k (.BinOp l o r pos) ro sg (some d) sg2:=by
 intro A outer h₀ th₀ th s Q E a I post
 refine wpAny_BinOp (seq2 (r2:=none) h1 h2 a I fun v1 v2 h' tk tl J kp n r1 r2=>?_)
 exact op A k _ _ _ _ _ _ _ _ a J.below r1 r2 fun v tk' r=>post v h' tk' tl J kp n r
theorem TE.cmp {l r:Expr} {o:CmpOp} {pos:Pos} (h1:TE C fi k l ro sg (some d1) sg1) (h2:TE C fi k r ro sg1 (some d2) sg2) (op:OpOk C (compareOp o) d1 d2 d) (hm:behindInMarks o r = false):TE C fi k (.Compare l [o] [r] pos) ro sg (some d) sg2:=by
 intro A outer h₀ th₀ th s Q E a I post
 refine wpAny_Compare1 (seq2 (r2:=none) h1 h2 a I fun v1 v2 h' tk tl J kp n r1 r2=>?_) hm
 exact op A k _ _ _ _ _ _ _ _ a J.below r1 r2 fun v tk' r=>post v h' tk' tl J kp n r
theorem TB.cmp {l r:Expr} {o:CmpOp} {pos:Pos} {b:Bool} (h1:TE C fi k l ro sg (some d1) sg1) (h2:TE C fi k r ro sg1 (some d2) sg2) (op:OpOk C (compareOp o) d1 d2 (.bool b)) (hm:behindInMarks o r = false):TB C fi k (.Compare l [o] [r] pos) ro sg (some b) sg2:=by
 intro A outer h₀ th₀ th s Q E a I post
 refine wpAny_isTrue_Compare1 (seq2 (r2:=none) (t:=fun v1 v2=>compareOp o v1 v2) (Q:=fun c s₃=>wpAny _ A (truthy c) Q E s₃) h1 h2 a I fun v1 v2 h' tk tl J kp n r1 r2=>?_) hm
 refine op A k _ _ _ _ _ _ _ _ a J.below r1 r2 fun v tk' r=>?_
 simp only [Rep] at r
 subst r
 exact wpAny_truthy_bool (post h' tk' tl J kp n)
theorem op_add_int {a b:Int}:OpOk C (binaryOp .Add) (.int a) (.int b) (.int (a + b)):=by
 intro A k l th sg s v1 v2 Q E _ I r1 r2 post
 simp only [Rep] at r1 r2;obtain ⟨t,rfl⟩:=r1;obtain ⟨u,rfl⟩:=r2
 exact PyProof.Rows.add_int (post _ _ (by simp only [Rep];exact ⟨_,rfl⟩))
theorem op_sub_int {a b:Int}:OpOk C (binaryOp .Sub) (.int a) (.int b) (.int (a - b)):=by
 intro A k l th sg s v1 v2 Q E _ I r1 r2 post
 simp only [Rep] at r1 r2;obtain ⟨t,rfl⟩:=r1;obtain ⟨u,rfl⟩:=r2
 exact PyProof.Rows.sub_int (post _ _ (by simp only [Rep];exact ⟨_,rfl⟩))
theorem op_mod_int {a b:Int} (hb:b ≠ 0):OpOk C (binaryOp .Mod) (.int a) (.int b) (.int (a.fmod b)):=by
 intro A k l th sg s v1 v2 Q E _ I r1 r2 post
 simp only [Rep] at r1 r2;obtain ⟨t,rfl⟩:=r1;obtain ⟨u,rfl⟩:=r2
 exact PyProof.Rows.mod_int hb (post _ _ (by simp only [Rep];exact ⟨_,rfl⟩))
theorem op_mul_int {a b:Int} (hm:IntMulOk a b):OpOk C (binaryOp .Mult) (.int a) (.int b) (.int (a * b)):=by
 intro A k l th sg s v1 v2 Q E _ I r1 r2 post
 simp only [Rep] at r1 r2;obtain ⟨t,rfl⟩:=r1;obtain ⟨u,rfl⟩:=r2
 exact PyProof.Rows.mul_int (post _ _ (by simp only [Rep];exact ⟨_,rfl⟩)) hm
theorem op_div_int {a b:Int} (hb:b ≠ 0) (hp:Builtin.divisionGoesByPylong a b = false):OpOk C (binaryOp .FloorDiv) (.int a) (.int b) (.int (a.fdiv b)):=by
 intro A k l th sg s v1 v2 Q E _ I r1 r2 post
 simp only [Rep] at r1 r2;obtain ⟨t,rfl⟩:=r1;obtain ⟨u,rfl⟩:=r2
 exact PyProof.Rows.floordiv_int hb (post _ _ (by simp only [Rep];exact ⟨_,rfl⟩)) (.inl hp)
theorem op_add_str {a b:Str} (hz:a.length + b.length ≤ sizeLine):OpOk C (binaryOp .Add) (.str a) (.str b) (.str (a ++ b)):=by
 intro A k l th sg s v1 v2 Q E _ I r1 r2 post
 simp only [Rep] at r1 r2;obtain ⟨t,rfl⟩:=r1;obtain ⟨u,rfl⟩:=r2
 exact PyProof.Rows.add_str (fun t' tk=>post _ _ (by simp only [Rep];exact ⟨_,rfl⟩)) hz
theorem op_eq_int {a b:Int}:OpOk C (compareOp .Eq) (.int a) (.int b) (.bool (a == b)):=by
 intro A k l th sg s v1 v2 Q E _ I r1 r2 post
 simp only [Rep] at r1 r2;obtain ⟨t,rfl⟩:=r1;obtain ⟨u,rfl⟩:=r2
 exact PyProof.Rows.eq_int (post _ s.toks (by simp only [Rep]))
theorem op_lt_int {a b:Int}:OpOk C (compareOp .Lt) (.int a) (.int b) (.bool (decide (a < b))):=by
 intro A k l th sg s v1 v2 Q E _ I r1 r2 post
 simp only [Rep] at r1 r2;obtain ⟨t,rfl⟩:=r1;obtain ⟨u,rfl⟩:=r2
 exact PyProof.Rows.lt_int (post _ s.toks (by simp only [Rep]))
theorem op_gt_int {a b:Int}:OpOk C (compareOp .Gt) (.int a) (.int b) (.bool (decide (b < a))):=by
 intro A k l th sg s v1 v2 Q E _ I r1 r2 post
 simp only [Rep] at r1 r2;obtain ⟨t,rfl⟩:=r1;obtain ⟨u,rfl⟩:=r2
 exact PyProof.Rows.gt_int (post _ s.toks (by simp only [Rep]))
theorem op_ge_int {a b:Int}:OpOk C (compareOp .GtE) (.int a) (.int b) (.bool (decide (b ≤ a))):=by
 intro A k l th sg s v1 v2 Q E _ I r1 r2 post
 simp only [Rep] at r1 r2;obtain ⟨t,rfl⟩:=r1;obtain ⟨u,rfl⟩:=r2
 exact PyProof.Rows.ge_int (post _ s.toks (by simp only [Rep]))
theorem op_eq_str {a b:Str}:OpOk C (compareOp .Eq) (.str a) (.str b) (.bool (a == b)):=by
 intro A k l th sg s v1 v2 Q E _ I r1 r2 post
 simp only [Rep] at r1 r2;obtain ⟨t,rfl⟩:=r1;obtain ⟨u,rfl⟩:=r2
 exact PyProof.Rows.eq_str (post _ s.toks (by simp only [Rep]))
theorem op_ne_str {a b:Str}:OpOk C (compareOp .NotEq) (.str a) (.str b) (.bool (a != b)):=by
 intro A k l th sg s v1 v2 Q E _ I r1 r2 post
 simp only [Rep] at r1 r2;obtain ⟨t,rfl⟩:=r1;obtain ⟨u,rfl⟩:=r2
 exact PyProof.Rows.ne_str (post _ s.toks (by simp only [Rep]))
end
section
variable {C:Cx} {fi:FI} {k:Nat} {outer fs:List Env} {h₀ h h' h'':Heap} {th₀ th tl tl':List Addr} {sg sg' sg1 sg2 sg3:List Cell} {ro ro':List (Str × D)} {s:Shared} {d d1 d2 d3:D} {r:Option D}
theorem TB.plain {e:Expr} {b:Bool} (h:TE C fi k e ro sg (some (.bool b)) sg') (he:∀env whole,isTrue e env whole = (do let v ←whole;standAt e.pos;holding [v] (truthy v))):TB C fi k e ro sg (some b) sg':=by
 intro A outer h₀ th₀ th s Q E a I post
 refine isTrue_plain (h _ _ _ _ _ _ _ _ a I fun v h' tk tl J kp n r=>?_) (he _ _)
 simp only [Rep] at r
 subst r
 exact wpAny_truthy_bool (post h' tk tl J kp n)
theorem TB.not {e:Expr} {pos:Pos} {b:Bool} (h:TB C fi k e ro sg (some b) sg'):TB C fi k (.UnaryOp .Not e pos) ro sg (some (!b)) sg':=by
 intro A outer h₀ th₀ th s Q E a I post
 exact isTrue_not (h _ _ _ _ _ _ _ _ a I fun h' tk tl J kp n=>post h' tk tl J kp n)
theorem tb0 {Q:Bool → Shared → Prop} {b:Bool} (post:∀h' tk tl,InF C fi outer h₀ th₀ (th ++ tl) sg' ro h' → Kp C th (fi.env :: outer) s.heap h' → (∀a ∈ tl,s.heap.get? a = none) → Q b { s with heap:=h',toks:=tk })
  (I:InF C fi outer h₀ th₀ th sg' ro s.heap):Q b s:=post s.heap s.toks [] (by rw [List.append_nil];exact I) .refl (fun _ m=>nomatch m)
theorem TB.and0 {pos:Pos}:TB C fi k (.BoolOp .And [] pos) ro sg (some true) sg:=fun A outer h₀ th₀ th s Q E a I post=>isTrue_and_nil (tb0 post I)
theorem TB.or0 {pos:Pos}:TB C fi k (.BoolOp .Or [] pos) ro sg (some false) sg:=fun A outer h₀ th₀ th s Q E a I post=>isTrue_or_nil (tb0 post I)
theorem TB.andF {e:Expr} {es:List Expr} {pos:Pos} (h:TB C fi k e ro sg (some false) sg'):TB C fi k (.BoolOp .And (e :: es) pos) ro sg (some false) sg':=
 fun A outer h₀ th₀ th s Q E a I post=>isTrue_and (h _ _ _ _ _ _ _ _ a I fun h' tk tl J kp n=>by simpa using post h' tk tl J kp n)
theorem TB.orT {e:Expr} {es:List Expr} {pos:Pos} (h:TB C fi k e ro sg (some true) sg'):TB C fi k (.BoolOp .Or (e :: es) pos) ro sg (some true) sg':=
 fun A outer h₀ th₀ th s Q E a I post=>isTrue_or (h _ _ _ _ _ _ _ _ a I fun h' tk tl J kp n=>by simpa using post h' tk tl J kp n)
theorem TB.andT {e:Expr} {es:List Expr} {pos:Pos} {b:Bool} (h:TB C fi k e ro sg (some true) sg1) (h2:TB C fi k (.BoolOp .And es pos) ro sg1 (some b) sg'):TB C fi k (.BoolOp .And (e :: es) pos) ro sg (some b) sg':=by
 intro A outer h₀ th₀ th s Q E a I post
 refine isTrue_and (h _ _ _ _ _ _ _ _ a I fun h' tk tl J kp n=>?_)
 rw [if_pos rfl]
 refine h2 _ _ _ _ _ _ _ _ a J fun h'' tk' tl' J' kp' n'=>?_
 rw [List.append_assoc] at J'
 exact post h'' tk' _ J' (kp.trans n kp') (fresh_app n kp n')
theorem TB.orF {e:Expr} {es:List Expr} {pos:Pos} {b:Bool} (h:TB C fi k e ro sg (some false) sg1) (h2:TB C fi k (.BoolOp .Or es pos) ro sg1 (some b) sg'):TB C fi k (.BoolOp .Or (e :: es) pos) ro sg (some b) sg':=by
 intro A outer h₀ th₀ th s Q E a I post
 refine isTrue_or (h _ _ _ _ _ _ _ _ a I fun h' tk tl J kp n=>?_)
 rw [if_neg (by decide)]
 refine h2 _ _ _ _ _ _ _ _ a J fun h'' tk' tl' J' kp' n'=>?_
 rw [List.append_assoc] at J'
 exact post h'' tk' _ J' (kp.trans n kp') (fresh_app n kp n')
theorem boolOp_def (pos:Pos) (op:BoolOp) (x y:Sem Value) (rest:List (Sem Value)):boolOp pos op (x :: y :: rest) = (do
  let v ←x
  standAt pos
  let t ←holding [v] (truthy v)
  match op,t with
  | .And,false | .Or,true=>pure v
  | _,_=>boolOp pos op (y :: rest)):=rfl
theorem TE.bool1 {o:BoolOp} {e:Expr} {pos:Pos} (h:TE C fi k e ro sg r sg'):TE C fi k (.BoolOp o [e] pos) ro sg r sg':=fun A outer h₀ th₀ th s Q E a I post=>h A outer h₀ th₀ th s Q E a I post
theorem TE.andF {e e2:Expr} {es:List Expr} {pos:Pos} (h:TE C fi k e ro sg (some (.bool false)) sg'):TE C fi k (.BoolOp .And (e :: e2 :: es) pos) ro sg (some (.bool false)) sg':=by
 intro A outer h₀ th₀ th s Q E a I post
 rw [arm_eval_BoolOp,arm_evalEach_cons,arm_evalEach_cons,boolOp_def]
 refine wpAny_bind (h _ _ _ _ _ _ _ _ a I fun v h' tk tl J kp n r=>wpAny_bind (wpAny_standAt (wpAny_bind (wpAny_holding ?_))))
 have r':=r
 simp only [Rep] at r
 subst r
 exact wpAny_truthy_bool (wpAny_pure (post _ h' tk tl J kp n r'))
theorem TE.orT {e e2:Expr} {es:List Expr} {pos:Pos} (h:TE C fi k e ro sg (some (.bool true)) sg'):TE C fi k (.BoolOp .Or (e :: e2 :: es) pos) ro sg (some (.bool true)) sg':=by
 intro A outer h₀ th₀ th s Q E a I post
 rw [arm_eval_BoolOp,arm_evalEach_cons,arm_evalEach_cons,boolOp_def]
 refine wpAny_bind (h _ _ _ _ _ _ _ _ a I fun v h' tk tl J kp n r=>wpAny_bind (wpAny_standAt (wpAny_bind (wpAny_holding ?_))))
 have r':=r
 simp only [Rep] at r
 subst r
 exact wpAny_truthy_bool (wpAny_pure (post _ h' tk tl J kp n r'))
theorem TE.andT {e e2:Expr} {es:List Expr} {pos:Pos} (h:TE C fi k e ro sg (some (.bool true)) sg1) (h2:TE C fi k (.BoolOp .And (e2 :: es) pos) ro sg1 (some d) sg'):TE C fi k (.BoolOp .And (e :: e2 :: es) pos) ro sg (some d) sg':=by
 intro A outer h₀ th₀ th s Q E a I post
 rw [arm_eval_BoolOp,arm_evalEach_cons,arm_evalEach_cons,boolOp_def]
 refine wpAny_bind (h _ _ _ _ _ _ _ _ a I fun v h' tk tl J kp n r=>wpAny_bind (wpAny_standAt (wpAny_bind (wpAny_holding ?_))))
 simp only [Rep] at r
 subst r
 refine wpAny_truthy_bool (h2 _ _ _ _ _ _ _ _ a J fun v' h'' tk' tl' J' kp' n' r'=>?_)
 rw [List.append_assoc] at J' r'
 exact post v' h'' tk' _ J' (kp.trans n kp') (fresh_app n kp n') r'
theorem TE.orF {e e2:Expr} {es:List Expr} {pos:Pos} (h:TE C fi k e ro sg (some (.bool false)) sg1) (h2:TE C fi k (.BoolOp .Or (e2 :: es) pos) ro sg1 (some d) sg'):TE C fi k (.BoolOp .Or (e :: e2 :: es) pos) ro sg (some d) sg':=by
 intro A outer h₀ th₀ th s Q E a I post
 rw [arm_eval_BoolOp,arm_evalEach_cons,arm_evalEach_cons,boolOp_def]
 refine wpAny_bind (h _ _ _ _ _ _ _ _ a I fun v h' tk tl J kp n r=>wpAny_bind (wpAny_standAt (wpAny_bind (wpAny_holding ?_))))
 simp only [Rep] at r
 subst r
 refine wpAny_truthy_bool (h2 _ _ _ _ _ _ _ _ a J fun v' h'' tk' tl' J' kp' n' r'=>?_)
 rw [List.append_assoc] at J' r'
 exact post v' h'' tk' _ J' (kp.trans n kp') (fresh_app n kp n') r'
theorem TE.ifT {t b o:Expr} {pos:Pos} (h:TB C fi k t ro sg (some true) sg1) (h2:TE C fi k b ro sg1 (some d) sg'):TE C fi k (.IfExp t b o pos) ro sg (some d) sg':=by
 intro A outer h₀ th₀ th s Q E a I post
 refine wpAny_IfExp (h _ _ _ _ _ _ _ _ a I fun h' tk tl J kp n=>?_)
 rw [if_pos rfl]
 refine h2 _ _ _ _ _ _ _ _ a J fun v' h'' tk' tl' J' kp' n' r'=>?_
 rw [List.append_assoc] at J' r'
 exact post v' h'' tk' _ J' (kp.trans n kp') (fresh_app n kp n') r'
theorem TE.ifF {t b o:Expr} {pos:Pos} (h:TB C fi k t ro sg (some false) sg1) (h2:TE C fi k o ro sg1 (some d) sg'):TE C fi k (.IfExp t b o pos) ro sg (some d) sg':=by
 intro A outer h₀ th₀ th s Q E a I post
 refine wpAny_IfExp (h _ _ _ _ _ _ _ _ a I fun h' tk tl J kp n=>?_)
 rw [if_neg (by decide)]
 refine h2 _ _ _ _ _ _ _ _ a J fun v' h'' tk' tl' J' kp' n' r'=>?_
 rw [List.append_assoc] at J' r'
 exact post v' h'' tk' _ J' (kp.trans n kp') (fresh_app n kp n') r'
theorem TE.not {e:Expr} {pos:Pos} {b:Bool} (h:TE C fi k e ro sg (some (.bool b)) sg'):TE C fi k (.UnaryOp .Not e pos) ro sg (some (.bool (!b))) sg':=by
 intro A outer h₀ th₀ th s Q E a I post
 refine wpAny_UnaryOp (h _ _ _ _ _ _ _ _ a I fun v h' tk tl J kp n r=>?_)
 simp only [Rep] at r
 subst r
 exact not_of (wpAny_truthy_bool (post _ h' tk tl J kp n (by simp only [Rep])))
theorem TE.neg {e:Expr} {pos:Pos} {i:Int} (h:TE C fi k e ro sg (some (.int i)) sg'):TE C fi k (.UnaryOp .USub e pos) ro sg (some (.int (-i))) sg':=by
 intro A outer h₀ th₀ th s Q E a I post
 refine wpAny_UnaryOp (h _ _ _ _ _ _ _ _ a I fun v h' tk tl J kp n r=>?_)
 simp only [Rep] at r
 obtain ⟨t,rfl⟩:=r
 exact PyProof.Rows.neg_int (post _ h' _ tl J kp n (by simp only [Rep];exact ⟨_,rfl⟩))
theorem TEs.nil:TEs C fi k [] ro sg (some []) sg:=fun A outer h₀ th₀ th s pos Q E a I post=>
 Calls.spliced_nil (post [] s.heap s.toks [] (by rw [List.append_nil];exact I) .refl (fun _ m=>nomatch m) (by simp only [RepL]))
noncomputable def plainE:Expr → Bool
 | .Starred ..=>false
 | _=>true
theorem starEach_plain {e:Expr} {es:List Expr} {env:Env} (h:plainE e = true):starEach (e :: es) env = (false,eval e env) :: starEach es env:=by cases e <;> first | rfl | cases h
theorem TEs.cons {e:Expr} {es:List Expr} {ds:List D} (hp:plainE e = true) (h1:TE C fi k e ro sg (some d) sg1) (h2:TEs C fi k es ro sg1 (some ds) sg'):TEs C fi k (e :: es) ro sg (some (d :: ds)) sg':=by
 intro A outer h₀ th₀ th s pos Q E a I post
 rw [starEach_plain hp]
 refine Calls.spliced_cons (h1 _ _ _ _ _ _ _ _ a I fun v h' tk tl J kp n r=>?_)
 refine h2 _ _ _ _ _ _ pos _ _ a J fun vs h'' tk' tl' J' kp' n' r'=>?_
 have r1:=r.step (tl:=tl') J.below kp'
 rw [List.append_assoc] at J' r' r1
 exact post _ h'' tk' _ J' (kp.trans n kp') (fresh_app n kp n') (by simp only [RepL];exact ⟨v,vs,rfl,r1,r'⟩)
theorem TEs.consX {e:Expr} {es:List Expr} (hp:plainE e = true) (h1:TE C fi k e ro sg none sg'):TEs C fi k (e :: es) ro sg none sg':=by
 intro A outer h₀ th₀ th s pos Q E a I post
 rw [starEach_plain hp]
 exact Calls.spliced_cons (h1 _ _ _ _ _ _ _ _ a I post)
theorem TEs.consY {e:Expr} {es:List Expr} (hp:plainE e = true) (h1:TE C fi k e ro sg (some d) sg1) (h2:TEs C fi k es ro sg1 none sg'):TEs C fi k (e :: es) ro sg none sg':=by
 intro A outer h₀ th₀ th s pos Q E a I post
 rw [starEach_plain hp]
 refine Calls.spliced_cons (h1 _ _ _ _ _ _ _ _ a I fun v h' tk tl J kp n r=>?_)
 refine h2 _ _ _ _ _ _ pos _ _ a J fun e' h'' tk' tl' n' J' X=>?_
 rw [List.append_assoc] at J' X
 exact post e' h'' tk' _ n' J' X
theorem RepL.len {l:List D} {vs:List Value} (r:RepL th h l vs):vs.length = l.length:=by
 induction l generalizing vs with
 | nil=>simp only [RepL] at r;subst r;rfl
 | cons d l ih=>simp only [RepL] at r;obtain ⟨v,q,rfl,_,r2⟩:=r;simp [ih r2]
theorem tup_push {vs:List Value}:(h.push { cls:=.type "tuple",data:=.seq vs.toArray }).TupAt h.objs.size vs:=⟨_,0,Heap.get?_push_size _ rfl,rfl,rfl⟩
theorem new_none:h.get? h.objs.size = none:=Heap.get?_none_of_le (Nat.le_refl _)
theorem TE.tup {es:List Expr} {n:Nat} {pos:Pos} {ds:List D} (h:TEs C fi k es ro sg (some ds) sg') (hz:ds.length ≤ sizeLine):TE C fi k (.Tuple es n pos) ro sg (some (.tup ds)) sg':=by
 intro A outer h₀ th₀ th s Q E a I post
 refine PyProof.Rows.Tuple_ (h _ _ _ _ _ _ pos _ _ a I fun vs h' tk tl J kp n r=>?_)
 refine wpAny_newTuple (post _ _ tk tl (J.push _) (kp.trans n (.push _)) n ?_) (by rw [r.len];exact hz)
 simp only [Rep]
 exact ⟨_,vs,rfl,tup_push,r.ext push_ext⟩
theorem TE.tupX {es:List Expr} {n:Nat} {pos:Pos} (h:TEs C fi k es ro sg none sg'):TE C fi k (.Tuple es n pos) ro sg none sg':=
 fun A outer h₀ th₀ th s Q E a I post=>PyProof.Rows.Tuple_ (h _ _ _ _ _ _ pos _ _ a I post)
theorem InF.grow (J:InF C fi outer h₀ th₀ th sg ro h) {a:Addr} {c:Cell} (ha:h.get? a = none) (k:∀b o,h.get? b = some o → h'.get? b = some o) (x:CellOk C.w.params (th ++ [a]) h' a c):
  InF C fi outer h₀ th₀ (th ++ [a]) (sg ++ [c]) ro h':=by
 have B:=J.below
 refine J.step (tl:=[a]) ((B.ext k).more (fun m=>?_) (B.fresh ha) (fun env he q=>?_) x) (.of_ext k) (fun b m=>by rw [List.mem_singleton] at m;subst m;exact ha)
 ·obtain ⟨_,_,_,_,x⟩:=B.cellAt m
  obtain ⟨o,e,_⟩:=x.get
  rw [ha] at e;cases e
 ·obtain ⟨L,o,es,n,p,_,_,e,_⟩:=(B.fr env he).at_
  rw [q] at p;cases p
  rw [ha] at e;cases e
theorem TE.list {es:List Expr} {pos:Pos} {ds:List D} (h:TEs C fi k es ro sg (some ds) sg') (hz:ds.length ≤ sizeLine):TE C fi k (.List es pos) ro sg (some (.obj sg'.length)) (sg' ++ [.list ds]):=by
 intro A outer h₀ th₀ th s Q E a I post
 refine PyProof.Rows.List_ (h _ _ _ _ _ _ pos _ _ a I fun vs h' tk tl J kp n r=>?_)
 refine wpAny_newObj_type ?_ (by show vs.toArray.size ≤ sizeLine;rw [List.size_toArray,r.len];exact hz)
 have len:=J.hi.len
 have J2:=J.grow (a:=h'.objs.size) (h':=h'.push { cls:=.type "list",data:=.seq vs.toArray }) (c:=.list ds) new_none push_ext
  ⟨vs,0,Heap.get?_push_size _ rfl,(r.ext push_ext).mono (fun i b e=>by rw [List.getElem?_append_left (List.getElem?_eq_some_iff.mp e).1];exact e) fun _ _ x=>x⟩
 rw [List.append_assoc] at J2
 refine post _ _ tk _ J2 (kp.trans n (.push _)) (fresh_app n kp fun b m=>by rw [List.mem_singleton] at m;subst m;exact new_none) ?_
 simp only [Rep]
 exact ⟨_,by rw [←List.append_assoc,←len];simp,rfl⟩
theorem evalArgs_none {M:Model} {f:Value} {A:Around} {Q:Args → Shared → Prop} {E:Value → Shared → Prop} (h:wpAny M A (spliced []) (fun vs s₁=>Q ⟨vs,[]⟩ s₁) E s):wpAny M A (evalArgs f true [] []) Q E s:=by
 unfold evalArgs
 show wpAny M A (spliced [] >>= _) Q E s
 refine wpAny_bind (wpAny_mono h (fun vs s' h'=>?_) fun _ _ x=>x)
 refine wpAny_holding ?_
 exact wpAny_bind (wpAny_pure (wpAny_bind (wpAny_pure (wpAny_pure h'))))
theorem evalArgs_uni {M:Model} {pos:Pos} {f:Value} {es:List Expr} {env:Env} {A:Around} {Q:Args → Shared → Prop} {E:Value → Shared → Prop} (hp:es.all plainE = true)
  (h:wpAny M A (spliced (backTo pos (starEach es env))) (fun vs s₁=>Q ⟨vs,[]⟩ s₁) E s):wpAny M A (evalArgs f true (backTo pos (starEach es env)) []) Q E s:=by
 cases es with
 | nil=>exact evalArgs_none h
 | cons e r=>
  have hp1:plainE e = true:=by rw [List.all_cons,Bool.and_eq_true] at hp;exact hp.1
  have he:=starEach_plain (es:=r) (env:=env) hp1
  rw [he] at h ⊢
  exact evalArgs_plain h
theorem star_any {pos:Pos} {env:Env}:∀{es:List Expr},es.all plainE = true → (backTo pos (starEach es env)).any (·.1) = false
 | [],_=>rfl
 | e :: r,h=>by
  rw [List.all_cons,Bool.and_eq_true] at h
  rw [starEach_plain h.1]
  show (false || (backTo pos (starEach r env)).any (·.1)) = false
  rw [star_any h.2];rfl
theorem callWith_ok {pos:Pos} {f:Value} {first:List Value} {es:List Expr} {A:Around} {Q E:Value → Shared → Prop} (hk:keepIn C.K f = true) (hp:es.all plainE = true)
  (h:wpAny (model C.prog C.w) A (spliced (backTo pos (starEach es fi.env))) (fun vs s₁=>C.K.In s₁.heap ∧ wpAny (model C.prog C.w) A (call f (first ++ vs)) Q E s₁) E s):
  wpAny (model C.prog C.w) A (callWith pos f first (backTo pos (starEach es fi.env)) []) Q E s:=
 callWith_of (by rw [star_any hp];rfl) (keeps_K hk) (evalArgs_uni hp h)
theorem callWith_mach {pos:Pos} {f:Value} {first:List Value} {es:List Expr} {A:Around} {M:Model} {Q E:Value → Shared → Prop} (hk:keeperOf f = pure .machine) (hp:es.all plainE = true) {env:Env}
  (h:wpAny M A (spliced (backTo pos (starEach es env))) (fun vs s₁=>wpAny M A (call f (first ++ vs)) Q E s₁) E s):
  wpAny M A (callWith pos f first (backTo pos (starEach es env)) []) Q E s:=
 callWith_of (P:=fun _=>True) (by rw [star_any hp];rfl) (fun h _=>⟨.machine,.inr (.inl rfl),Looks.of_pure hk⟩) (evalArgs_uni hp (wpAny_mono h (fun _ _ x=>⟨trivial,x⟩) fun _ _ x=>x))
noncomputable def plainF:Expr → Bool
 | .Attribute ..=>false
 | _=>true
theorem eval_call {f:Expr} {es:List Expr} {pos:Pos} {env:Env} (h:plainF f = true):eval (.Call f es [] pos) env = (do callWith pos (←eval f env) [] (backTo pos (starEach es env)) (backToKw pos (keywordEach [] env))):=by
 cases f <;> first | rfl | cases h
theorem call_tail {A:Around} {Q E:Value → Shared → Prop} {f:Value} {ds:List D} {vs:List Value} {r:Option D} (hc:CallOk C k f ds sg1 r sg') (a:AOk A k (fi.env :: outer)) {tk:Tok} (J:InF C fi outer h₀ th₀ (th ++ tl) sg1 ro h)
  (kp:Kp C th (fi.env :: outer) s.heap h) (n:∀a ∈ tl,s.heap.get? a = none) (R:RepL (th ++ tl) h ds vs)
  (post:AfterE C fi outer h₀ th₀ th s Q E ro r sg'):
  wpAny (model C.prog C.w) A (call f vs) Q E { s with heap:=h,toks:=tk }:=by
 refine hc A _ _ { s with heap:=h,toks:=tk } _ _ _ a J.below R ?_
 cases r with
 | some d=>
  intro v h'' tk' tl' I' kp' n' r'
  have J':=J.step I' kp' n'
  rw [List.append_assoc] at J' r'
  exact post v h'' tk' _ J' (kp.trans n kp') (fresh_app n kp n') r'
 | none=>
  intro e h'' tk' I' kp' X
  exact post e h'' tk' tl true (J.step0 I' kp') ⟨J.kp.fresh X.new,X.out,let ⟨oe,vs,a,b,c,d⟩:=X.obj;⟨oe,vs,a,b,c,d.imp id fun ⟨T,oT,ts,fl,x1,x2,x3,x4,x5⟩=>⟨T,oT,ts,fl,x1,x2,x3,J.kp.fresh x4,x5⟩⟩⟩
theorem TE.call {f:Expr} {es:List Expr} {pos:Pos} {v:Value} {ds:List D} (hf:plainF f = true) (hp:es.all plainE = true) (h1:TE C fi k f ro sg (some (.val v)) sg1) (hk:keepIn C.K v = true) (h2:TEs C fi k es ro sg1 (some ds) sg2) (hc:CallOk C k v ds sg2 r sg'):
  TE C fi k (.Call f es [] pos) ro sg r sg':=by
 intro A outer h₀ th₀ th s Q E a I post
 rw [eval_call hf]
 refine wpAny_bind (h1 _ _ _ _ _ _ _ _ a I fun v' h' tk tl J kp n r=>?_)
 simp only [Rep] at r
 subst r
 refine callWith_ok hk hp (h2 _ _ _ _ _ _ pos _ _ a J fun vs h'' tk' tl' J' kp' n' r'=>⟨J'.hi.K,?_⟩)
 rw [List.append_assoc] at J' r'
 exact call_tail (s:=s) hc a J' (kp.trans n kp') (fresh_app n kp n') r' post
theorem TE.callM {f:Expr} {es:List Expr} {pos:Pos} {v:Value} {ds:List D} (hf:plainF f = true) (hp:es.all plainE = true) (h1:TE C fi k f ro sg (some (.val v)) sg1) (hk:keeperOf v = pure .machine) (h2:TEs C fi k es ro sg1 (some ds) sg2) (hc:CallOk C k v ds sg2 r sg'):
  TE C fi k (.Call f es [] pos) ro sg r sg':=by
 intro A outer h₀ th₀ th s Q E a I post
 rw [eval_call hf]
 refine wpAny_bind (h1 _ _ _ _ _ _ _ _ a I fun v' h' tk tl J kp n r=>?_)
 simp only [Rep] at r
 subst r
 refine callWith_mach hk hp (h2 _ _ _ _ _ _ pos _ _ a J fun vs h'' tk' tl' J' kp' n' r'=>?_)
 rw [List.append_assoc] at J' r'
 exact call_tail (s:=s) hc a J' (kp.trans n kp') (fresh_app n kp n') r' post
theorem EntOk.look {P:Params}:∀{es:List (Str × D)} {en:List DictEntry},EntOk P th h es en → ∀(x:Str),(match es.lookup x with | some d=>∃v,getL x en = some (some v) ∧ Rep th h d v | none=>getL x en = some none)
 | [],_,e,x=>by cases e;rfl
 | (y,d) :: r,_,⟨t,v,q,rfl,h1,h2⟩,x=>by
  have ih:=EntOk.look h2 x
  unfold getL at ih ⊢
  have isx:(Value.str y t).isStr x = (y == x):=rfl
  simp only [List.lookup_cons,List.find?_cons,isx,List.any_cons]
  by_cases z:(x == y) = true
  ·have z2:(y == x) = true:=by rw [beq_iff_eq] at z ⊢;exact z.symm
   simp only [z,z2]
   exact ⟨v,rfl,h1⟩
  ·have z1:(x == y) = false:=by simpa using z
   have z2:(y == x) = false:=by cases w:(y == x) with
    | false=>rfl
    | true=>exact absurd (by rw [beq_iff_eq] at w ⊢;exact w.symm) z
   simp only [z1,z2]
   have rk:DictEntry.refKey ⟨PyData.keyHash P y,.str y t,v⟩ = false:=rfl
   simp only [rk,Bool.false_or]
   exact ih
noncomputable def baseOk:Expr → Bool
 | .Call (.Name ..) [] [] _=>false
 | _=>true
theorem attributeBase_ok {o:Expr} {name:Str} {env:Env} {whole:Sem Value} (h:baseOk o = true):attributeBase o name env whole = whole:=by
 cases o with
 | Call f a k p=>
  cases f with
  | Name x q=>
   cases a with
   | nil=>
    cases k with
    | nil=>cases h
    | cons _ _=>rfl
   | cons _ _=>rfl
  | _=>rfl
 | _=>rfl
structure IsInst (sg:List Cell) (i:Nat) (Cc:Addr) (dl:Nat) (es:List (Str × D)):Prop where
 at_:sg[i]? = some (.inst Cc dl)
 dict:sg[dl]? = some (.dict es)
theorem HI.inst {Cc:Addr} {i dl:Nat} {es:List (Str × D)} {x:Addr} (I:HI C th sg fs h) (X:IsInst sg i Cc dl es) (hx:th[i]? = some x):
  ∃dx en n,th[dl]? = some dx ∧ EntOk C.w.params th h es en ∧ h.get? dx = some (dictOf en n) ∧ InstAt h x (instObj Cc dx) Cc (some (dictOf en n)):=by
 obtain ⟨dx,e,ho⟩:=I.cells i _ x X.at_ hx
 obtain ⟨en,n,hd,hE⟩:=I.cells dl _ dx X.dict e
 exact ⟨dx,en,n,e,hE,hd,⟨ho,rfl,rfl,hd⟩⟩
noncomputable def D.handed:D → Bool
 | .val _=>false
 | .any=>false
 | _=>true
theorem Rep.handed {v:Value} (hd:d.handed = true) (r:Rep th h d v):handedIn v = true:=by
 cases d <;> first | (simp only [Rep] at r;subst r;rfl) | (simp only [Rep] at r;obtain ⟨_,rfl⟩:=r;rfl) | (simp only [Rep] at r;obtain ⟨_,_,rfl,_⟩:=r;rfl) | (simp only [Rep] at r;obtain ⟨_,_,rfl⟩:=r;rfl) | cases hd
theorem TE.attr {o:Expr} {name:Str} {pos:Pos} {i dl:Nat} {Cc:Addr} {es:List (Str × D)} {at':Option Value} (hb:baseOk o = true) (h1:TE C fi k o ro sg (some (.obj i)) sg') (X:IsInst sg' i Cc dl es) (hl:es.lookup name = some d) (hd:d.handed = true)
  (hg:plainGet C.K Cc name = true) (hh:hasDictIn C.K Cc = true) (ha:findIn C.K (.ref Cc) name = some at') (hn:noGet C.K at' = true):TE C fi k (.Attribute o name pos) ro sg (some d) sg':=by
 intro A outer h₀ th₀ th s Q E a I post
 refine Attribute_any_ (h1 _ _ _ _ _ _ _ _ a I fun v h' tk tl J kp n r=>?_) (by rw [arm_eval_Attribute,attributeBase_ok hb])
 simp only [Rep] at r
 obtain ⟨x,hx,rfl⟩:=r
 obtain ⟨dx,en,m,e,hE,_,II⟩:=J.hi.inst X hx
 have look:=hE.look name
 rw [hl] at look
 obtain ⟨v,hv,r⟩:=look
 exact get_value (s:={ s with heap:=h',toks:=tk }) J.hi.K II (plainGet_of hg).1 (findObj_own hh ha hn hv) (r.handed hd) (post v h' _ tl J kp n r)
theorem TE.meth {o:Expr} {name:Str} {apos pos:Pos} {es:List Expr} {ds:List D} {i dl:Nat} {Cc f:Addr} {ents:List (Str × D)} (hb:baseOk o = true) (hl:(apos.endLine == pos.line) = true) (hp:es.all plainE = true) (hz:decide (es.length < 30) = true)
  (h1:TE C fi k o ro sg (some (.obj i)) sg1) (X:IsInst sg1 i Cc dl ents) (hno:ents.lookup name = none) (hg:plainGet C.K Cc name = true) (hf:findIn C.K (.ref Cc) name = some (some (.ref f))) (ht:isFn C.K (.ref f) = true) (hk:keepIn C.K (.ref f) = true)
  (h2:TEs C fi k es ro sg1 (some ds) sg2) (hc:CallOk C k (.ref f) (.obj i :: ds) sg2 r sg'):TE C fi k (.Call (.Attribute o name apos) es [] pos) ro sg r sg':=by
 intro A outer h₀ th₀ th s Q E a I post
 have few:methodCallForm (es.length + ([]:List Keyword).length) (backTo pos (starEach es fi.env)) (backToKw pos (keywordEach [] fi.env)) = true:=by
  have:=star_any (pos:=pos) (env:=fi.env) hp
  unfold methodCallForm
  rw [show (backTo pos (starEach es fi.env)).all (fun x=>!x.1) = true from by
   rw [List.all_eq_not_any_not]
   simp only [Bool.not_not,this,Bool.not_false]]
  show (true && true && decide (es.length + 0 + 0 < 30)) = true
  simpa using hz
 rw [arm_eval_Call,attributeBase_ok hb]
 refine wpAny_bind (h1 _ _ _ _ _ _ _ _ a I fun v h' tk tl J kp n r=>wpAny_bind (wpAny_standAt ?_))
 simp only [Rep] at r
 obtain ⟨x,hx,rfl⟩:=r
 obtain ⟨dx,en,m,e,hE,_,II⟩:=J.hi.inst X hx
 have look:=hE.look name
 rw [hno] at look
 unfold methodCall
 rw [few]
 refine wpAny_bind (wpAny_holding ?_)
 show wpAny _ _ (getMethod _ _ _) _ _ _
 refine method_fn (s:={ s with heap:=h',toks:=tk }) J.hi.K II (plainGet_of hg).1 (plainGet_of hg).2 hf (beq_iff_eq.mp ht) (by show (lookIn name (dictOf en m)).map _ = _;rw [lookIn_dict,look];rfl) ?_
 have hpos:methodCallPos true o fi.env apos pos = pure pos:=by
  unfold methodCallPos
  rw [hl];rfl
 show wpAny _ _ (methodCallPos true o fi.env apos pos >>= _) _ _ _
 rw [hpos]
 refine wpAny_bind (wpAny_pure ?_)
 refine callWith_ok (first:=[Value.ref x]) hk hp (h2 _ _ _ _ _ _ pos _ _ a J fun vs h'' tk' tl' J' kp' n' r'=>⟨J'.hi.K,?_⟩)
 rw [List.append_assoc] at J' r'
 refine call_tail (s:=s) hc a J' (kp.trans n kp') (fresh_app n kp n') ?_ post
 simp only [RepL]
 refine ⟨.ref x,vs,rfl,?_,r'⟩
 simp only [Rep]
 exact ⟨x,by rw [←List.append_assoc,List.getElem?_append_left (List.getElem?_eq_some_iff.mp hx).1];exact hx,rfl⟩
end
section
variable {C:Cx} {fi:FI} {k:Nat} {outer fs:List Env} {h₀ h h' h'':Heap} {th₀ th tl tl':List Addr} {sg sg' sg1 sg2 sg3:List Cell} {ro ro' ro1 ro2:List (Str × D)} {s:Shared} {d d1 d2 d3:D} {o o':Out}
theorem AfterS.shift {Q:Flow → Shared → Prop} {E:Value → Shared → Prop} {tk:Tok} (x:AfterS C fi outer h₀ th₀ th s Q E o ro' sg'):AfterS C fi outer h₀ th₀ (th ++ tl) { s with heap:=h',toks:=tk } Q E o ro' sg':=by
 cases o with
 | next=>intro h'' tk' tl' J;rw [List.append_assoc] at J;exact x h'' tk' _ J
 | brk=>intro h'' tk' tl' J;rw [List.append_assoc] at J;exact x h'' tk' _ J
 | cont=>intro h'' tk' tl' J;rw [List.append_assoc] at J;exact x h'' tk' _ J
 | ret d=>intro v h'' tk' tl' J r;rw [List.append_assoc] at J r;exact x v h'' tk' _ J r
 | exc=>intro e h'' tk' tl' n J X;rw [List.append_assoc] at J X;exact x e h'' tk' _ n J X
theorem TS.nil:TS C fi k [] ro sg .next ro sg:=fun A outer h₀ th₀ th s Q E a I post=>wpAny_execs_nil (post s.heap s.toks [] (by rw [List.append_nil];exact I))
theorem TS.cons {st:Stmt} {rest:List Stmt} (h1:TX C fi k st ro sg .next ro1 sg1) (h2:TS C fi k rest ro1 sg1 o ro2 sg2):TS C fi k (st :: rest) ro sg o ro2 sg2:=
 fun A outer h₀ th₀ th s Q E a I post=>wpAny_execs_cons (h1 _ _ _ _ _ _ _ _ a I fun h' tk tl J=>h2 _ _ _ _ _ _ _ _ a J post.shift)
theorem TS.stop {st:Stmt} {rest:List Stmt} (h1:TX C fi k st ro sg o ro1 sg1) (ho:(match o with | .next=>false | _=>true) = true):TS C fi k (st :: rest) ro sg o ro1 sg1:=
 fun A outer h₀ th₀ th s Q E a I post=>wpAny_execs_cons (h1 _ _ _ _ _ _ _ _ a I (by
  cases o with
  | next=>cases ho
  | brk=>exact post
  | cont=>exact post
  | ret d=>exact post
  | exc=>exact post))
theorem store_ok2 {M:Model} {A:Around} {Q:Unit → Shared → Prop} {E:Value → Shared → Prop} {x:Str} {v:Value} (hk:fi.scope.names.lookup x = some .local) (I:InF C fi outer h₀ th₀ th sg ro s.heap) (r:Rep th s.heap d v)
  (post:∀h' tk,InF C fi outer h₀ th₀ th sg (put x d ro) h' → (∀d v,Rep th s.heap d v → Rep th h' d v) → Q () { s with heap:=h',toks:=tk }):wpAny M A (storeName fi.env x v) Q E s:=by
 obtain ⟨m,hm,hv⟩:=I.ns
 refine wpAny_storeName_local (env:=fi.env) hk hm (fun h' hn hs=>post h' _ (I.store hs ⟨m,hm,hv,rfl⟩ hn r) fun d v q=>q.mono (fun _ _ e=>e) fun a vs ht=>?_) ?_
 ·have:=(I.below.noTup ht).2.2 _ (.head _)
  obtain ⟨o,n,ho,q⟩:=ht
  exact ⟨o,n,(hs.2 a fun z=>this (by rw [z])).trans ho,q⟩
 ·show (fi.scope.kind == .class || (fi.scope.kind == .module && _)) = false
  rw [I.lk];rfl
theorem store_ok {M:Model} {A:Around} {Q:Unit → Shared → Prop} {E:Value → Shared → Prop} {x:Str} {v:Value} (hk:fi.scope.names.lookup x = some .local) (I:InF C fi outer h₀ th₀ th sg ro s.heap) (r:Rep th s.heap d v)
  (post:∀h' tk,InF C fi outer h₀ th₀ th sg (put x d ro) h' → Q () { s with heap:=h',toks:=tk }):wpAny M A (storeName fi.env x v) Q E s:=store_ok2 hk I r fun h' tk J _=>post h' tk J
theorem TX.assign {x:Str} {pos pos':Pos} {value:Expr} (h:TE C fi k value ro sg (some d) sg1) (hk:fi.scope.names.lookup x = some .local) (hs:swapsWith value (some (.Name x pos')) pos.line fi.env = pure false):TX C fi k (.Assign [.Name x pos'] value pos) ro sg .next (put x d ro) sg1:=
 fun A outer h₀ th₀ th s Q E a I post=>wpAny_Assign_Name (h _ _ _ _ _ _ _ _ a I fun v h' tk tl J kp n r=>store_ok (s:={ s with heap:=h',toks:=tk }) hk J r fun h'' tk' J'=>post h'' tk' tl J') hs
theorem TX.assignX {x:Str} {pos pos':Pos} {value:Expr} (h:TE C fi k value ro sg none sg1) (hs:swapsWith value (some (.Name x pos')) pos.line fi.env = pure false):TX C fi k (.Assign [.Name x pos'] value pos) ro sg .exc ro sg1:=
 fun A outer h₀ th₀ th s Q E a I post=>wpAny_Assign_Name (h _ _ _ _ _ _ _ _ a I post) hs
theorem TX.ret {e:Expr} {pos:Pos} (h:TE C fi k e ro sg (some d) sg1):TX C fi k (.Return (some e) pos) ro sg (.ret d) ro sg1:=
 fun A outer h₀ th₀ th s Q E a I post=>wpAny_Return_some (h _ _ _ _ _ _ _ _ a I fun v h' tk tl J kp n r=>post v h' tk tl J r)
theorem TX.retX {e:Expr} {pos:Pos} (h:TE C fi k e ro sg none sg1):TX C fi k (.Return (some e) pos) ro sg .exc ro sg1:=
 fun A outer h₀ th₀ th s Q E a I post=>wpAny_Return_some (h _ _ _ _ _ _ _ _ a I post)
theorem TX.expr {e:Expr} {pos:Pos} (h:TE C fi k e ro sg (some d) sg1) (hi:interactive fi.env = false) (hs:swapsWith e none pos.line fi.env = pure false):TX C fi k (.Expr e pos) ro sg .next ro sg1:=
 fun A outer h₀ th₀ th s Q E a I post=>wpAny_Expr_any (h _ _ _ _ _ _ _ _ a I fun v h' tk tl J kp n r=>post h' tk tl J) hi hs
theorem TX.exprX {e:Expr} {pos:Pos} (h:TE C fi k e ro sg none sg1) (hi:interactive fi.env = false) (hs:swapsWith e none pos.line fi.env = pure false):TX C fi k (.Expr e pos) ro sg .exc ro sg1:=
 fun A outer h₀ th₀ th s Q E a I post=>wpAny_Expr_any (h _ _ _ _ _ _ _ _ a I post) hi hs
theorem TX.ifT {test:Expr} {body orelse:List Stmt} {pos:Pos} (h:TB C fi k test ro sg (some true) sg1) (h2:TS C fi k body ro sg1 o ro2 sg2):TX C fi k (.If test body orelse pos) ro sg o ro2 sg2:=
 fun A outer h₀ th₀ th s Q E a I post=>wpAny_If (h _ _ _ _ _ _ _ _ a I fun h' tk tl J kp n=>by
  rw [if_pos rfl];exact h2 _ _ _ _ _ _ _ _ a J post.shift)
theorem TX.ifF {test:Expr} {body orelse:List Stmt} {pos:Pos} (h:TB C fi k test ro sg (some false) sg1) (h2:TS C fi k orelse ro sg1 o ro2 sg2):TX C fi k (.If test body orelse pos) ro sg o ro2 sg2:=
 fun A outer h₀ th₀ th s Q E a I post=>wpAny_If (h _ _ _ _ _ _ _ _ a I fun h' tk tl J kp n=>by
  rw [if_neg Bool.false_ne_true];exact h2 _ _ _ _ _ _ _ _ a J post.shift)
noncomputable def Out.fin:Out → Bool
 | .brk=>false
 | .cont=>false
 | _=>true
noncomputable def AfterL (C:Cx) (fi:FI) (outer:List Env) (h₀:Heap) (th₀ th:List Addr) (s:Shared) (R:Result → Shared → Prop) (o:Out) (ro':List (Str × D)) (sg':List Cell):Prop:=
 match o with
 | .next=>∀h' tk tl,InF C fi outer h₀ th₀ (th ++ tl) sg' ro' h' → R (.ok .next) { s with heap:=h',toks:=tk }
 | .ret d=>∀v h' tk tl,InF C fi outer h₀ th₀ (th ++ tl) sg' ro' h' → Rep (th ++ tl) h' d v → R (.ok (.ret v)) { s with heap:=h',toks:=tk }
 | .exc=>∀e h' tk tl,InF C fi outer h₀ th₀ (th ++ tl) sg' ro' h' → Flt C (th ++ tl) h₀ h' e true → R (.error (.ref e)) { s with heap:=h',toks:=tk }
 | .brk=>False
 | .cont=>False
theorem AfterL.shift {R:Result → Shared → Prop} {tk:Tok} (x:AfterL C fi outer h₀ th₀ th s R o ro' sg'):AfterL C fi outer h₀ th₀ (th ++ tl) { s with heap:=h',toks:=tk } R o ro' sg':=by
 cases o with
 | next=>intro h'' tk' tl' J;rw [List.append_assoc] at J;exact x h'' tk' _ J
 | brk=>exact x
 | cont=>exact x
 | ret d=>intro v h'' tk' tl' J r;rw [List.append_assoc] at J r;exact x v h'' tk' _ J r
 | exc=>intro e h'' tk' tl' J X;rw [List.append_assoc] at J X;exact x e h'' tk' _ J X
noncomputable def TW (C:Cx) (fi:FI) (k:Nat) (test:Expr) (body:List Stmt) (ro:List (Str × D)) (sg:List Cell) (o:Out) (ro':List (Str × D)) (sg':List Cell):Prop:=
 ∀(A:Around) (outer:List Env) (h₀:Heap) (th₀ th:List Addr) (s:Shared) (R:Result → Shared → Prop),AOk A k (fi.env :: outer) → InF C fi outer h₀ th₀ th sg ro s.heap →
  AfterL C fi outer h₀ th₀ th s R o ro' sg' → codeAny (model C.prog C.w) A (.whileLoop test body [] fi.env) R s
theorem while_turn {A:Around} {M:Program} {w:World} {env:Env} {test:Expr} {body:List Stmt} {R:Result → Shared → Prop}
  (h:wpAny (model M w) A (isTrue test env (eval test env)) (fun b s₂=>if b = true then wpAny (model M w) A (execs body env) (fun f s₃=>match f with
     | .next=>codeAny (model M w) A (.whileLoop test body [] env) R s₃
     | .cont=>codeAny (model M w) A (.whileLoop test body [] env) R s₃
     | .brk=>R (.ok .next) s₃
     | .ret v=>R (.ok (.ret v)) s₃) (notedBy (model M w) A env fun e s'=>R (.error e) s') s₂ else R (.ok .next) s₂) (notedBy (model M w) A env fun e s'=>R (.error e) s') s):
  codeAny (model M w) A (.whileLoop test body [] env) R s:=by
 refine codeAny_of_tree ?_
 show wpAny _ A ((whileTurn test body [] env).onRaise (fun x=>do noteFrame x env;theTreesLotGoes x)) _ _ s
 refine wpAny_noted ?_
 simp only [whileTurn]
 refine wpAny_bind (wpAny_mono h (fun b s₂ h₂=>?_) fun _ _ e=>e)
 cases b with
 | false=>
  simp only [Bool.false_eq_true,if_false] at h₂ ⊢
  exact wpAny_bind (wpAny_execs_nil (wpAny_pure h₂))
 | true=>
  simp only [if_true] at h₂ ⊢
  refine wpAny_bind (wpAny_mono h₂ (fun f s₃ h₄=>?_) fun _ _ e=>e)
  cases f with
  | next=>exact wpAny_pure ⟨rfl,h₄⟩
  | cont=>exact wpAny_pure ⟨rfl,h₄⟩
  | brk=>exact wpAny_pure h₄
  | ret v=>exact wpAny_pure h₄
theorem noteX {A:Around} {M:Model} {R:Result → Shared → Prop} (hA:A.frames = some (fi.env :: outer)) (x:AfterL C fi outer h₀ th₀ th s R .exc ro' sg'):
  ∀(e:Addr) (h':Heap) (tk:Tok) (tl:List Addr) (n:Bool),InF C fi outer h₀ th₀ (th ++ tl) sg' ro' h' → Flt C (th ++ tl) h₀ h' e n → notedBy M A fi.env (fun e s'=>R (.error e) s') (.ref e) { s with heap:=h',toks:=tk }:=
 fun e h' tk tl n J X=>noted_flt hA J X fun h'' J' X'=>x e h'' tk tl J' X'
variable {test:Expr} {body:List Stmt}
theorem TW.done (h:TB C fi k test ro sg (some false) sg1):TW C fi k test body ro sg .next ro sg1:=
 fun A outer h₀ th₀ th s R a I post=>while_turn (h _ _ _ _ _ _ _ _ a I fun h' tk tl J kp n=>by
  rw [if_neg Bool.false_ne_true];exact post h' tk tl J)
theorem TW.step (h:TB C fi k test ro sg (some true) sg1) (h2:TS C fi k body ro sg1 .next ro2 sg2) (h3:TW C fi k test body ro2 sg2 o ro' sg'):TW C fi k test body ro sg o ro' sg':=
 fun A outer h₀ th₀ th s R a I post=>while_turn (h _ _ _ _ _ _ _ _ a I fun h' tk tl J kp n=>by
  rw [if_pos rfl]
  exact h2 _ _ _ _ _ _ _ _ a J fun h'' tk' tl' J'=>by
   have:=post.shift (tl:=tl) (h':=h') (tk:=tk)
   exact h3 _ _ _ _ _ _ _ a J' this.shift)
theorem TW.ret (h:TB C fi k test ro sg (some true) sg1) (h2:TS C fi k body ro sg1 (.ret d) ro2 sg2):TW C fi k test body ro sg (.ret d) ro2 sg2:=
 fun A outer h₀ th₀ th s R a I post=>while_turn (h _ _ _ _ _ _ _ _ a I fun h' tk tl J kp n=>by
  rw [if_pos rfl]
  have:=post.shift (tl:=tl) (h':=h') (tk:=tk)
  exact h2 _ _ _ _ _ _ _ _ a J fun v h'' tk' tl' J' r=>this v h'' tk' tl' J' r)
theorem TW.exc (h:TB C fi k test ro sg (some true) sg1) (h2:TS C fi k body ro sg1 .exc ro2 sg2):TW C fi k test body ro sg .exc ro2 sg2:=
 fun A outer h₀ th₀ th s R a I post=>while_turn (h _ _ _ _ _ _ _ _ a I fun h' tk tl J kp n=>by
  rw [if_pos rfl]
  exact h2 _ _ _ _ _ _ _ _ a J (noteX a.frames (post.shift (tl:=tl) (h':=h') (tk:=tk))))
theorem afterL_of {A:Around} {M:Model} {Q:Flow → Shared → Prop} {E:Value → Shared → Prop} (ho:o.fin = true) (post:AfterS C fi outer h₀ th₀ th s Q E o ro' sg'):
  AfterL C fi outer h₀ th₀ th s (fun r s'=>match r with | .ok f=>Q f s' | .error e=>cameBackBy M A fi.env E e s') o ro' sg':=by
 cases o with
 | next=>exact post
 | ret d=>exact post
 | exc=>exact fun e h' tk tl J X=>cameBack_flt (s:={ s with heap:=h',toks:=tk }) J X fun h'' J' X'=>post e h'' tk tl true J' X'
 | brk=>cases ho
 | cont=>cases ho
theorem TX.while {pos:Pos} (h:TW C fi k test body ro sg o ro' sg') (ho:o.fin = true):TX C fi k (.While test body [] pos) ro sg o ro' sg':=
 fun A outer h₀ th₀ th s Q E a I post=>wpAny_While (h _ _ _ _ _ _ _ a I (afterL_of ho post))
noncomputable def TN (C:Cx) (fi:FI) (k:Nat) (target:Expr) (j:Nat) (ro:List (Str × D)) (sg:List Cell) (r:Option D) (sg':List Cell):Prop:=
 ∀(A:Around) (outer:List Env) (h₀:Heap) (th₀ th:List Addr) (s:Shared) (Q:Option Value → Shared → Prop) (E:Value → Shared → Prop) (a:Addr),AOk A k (fi.env :: outer) → InF C fi outer h₀ th₀ th sg ro s.heap → th[j]? = some a →
  (match r with
   | some d=>∀v h' tk,InF C fi outer h₀ th₀ th sg' ro h' → Rep th h' d v → Q (some v) { s with heap:=h',toks:=tk }
   | none=>∀h' tk,InF C fi outer h₀ th₀ th sg' ro h' → Q none { s with heap:=h',toks:=tk }) →
  wpAny (model C.prog C.w) A (pyNext (.ref a)) (fun r s₁=>match r with | none=>Q none s₁ | some v=>wpAny (model C.prog C.w) A (letOwnedTupleGo target (.ref a) v) (fun _ s₁'=>Q (some v) s₁') E s₁) E s
noncomputable def TA (C:Cx) (fi:FI) (target:Expr) (d:D) (ro ro':List (Str × D)):Prop:=
 ∀(A:Around) (k:Nat) (sg:List Cell) (outer:List Env) (h₀:Heap) (th₀ th:List Addr) (s:Shared) (Q:Unit → Shared → Prop) (E:Value → Shared → Prop) (v:Value),AOk A k (fi.env :: outer) → InF C fi outer h₀ th₀ th sg ro s.heap → Rep th s.heap d v →
  (∀h' tk,InF C fi outer h₀ th₀ th sg ro' h' → Q () { s with heap:=h',toks:=tk }) → wpAny (model C.prog C.w) A (PySem.assign target fi.env v) Q E s
noncomputable def TF (C:Cx) (fi:FI) (k:Nat) (target:Expr) (j:Nat) (body:List Stmt) (ro:List (Str × D)) (sg:List Cell) (o:Out) (ro':List (Str × D)) (sg':List Cell):Prop:=
 ∀(A:Around) (outer:List Env) (h₀:Heap) (th₀ th:List Addr) (s:Shared) (R:Result → Shared → Prop) (a:Addr),AOk A k (fi.env :: outer) → InF C fi outer h₀ th₀ th sg ro s.heap → th[j]? = some a →
  AfterL C fi outer h₀ th₀ th s R o ro' sg' → codeAny (model C.prog C.w) A (.forLoop target (.ref a) body [] fi.env) R s
theorem for_turn {A:Around} {M:Program} {w:World} {env:Env} {target:Expr} {it:Value} {body:List Stmt} {R:Result → Shared → Prop}
  (h:wpAny (model M w) A (pyNext it) (fun r s₁=>match r with
   | none=>R (.ok .next) s₁
   | some v=>wpAny (model M w) A (letOwnedTupleGo target it v) (fun _ s₁'=>wpAny (model M w) A (PySem.assign target env v) (fun _ s₂=>wpAny (model M w) A (execs body env) (fun f s₃=>match f with
      | .next=>codeAny (model M w) A (.forLoop target it body [] env) R s₃
      | .cont=>codeAny (model M w) A (.forLoop target it body [] env) R s₃
      | .brk=>R (.ok .next) s₃
      | .ret v=>R (.ok (.ret v)) s₃) (notedBy (model M w) A env fun e s'=>R (.error e) s') s₂) (notedBy (model M w) A env fun e s'=>R (.error e) s') s₁') (notedBy (model M w) A env fun e s'=>R (.error e) s') s₁) (notedBy (model M w) A env fun e s'=>R (.error e) s') s):
  codeAny (model M w) A (.forLoop target it body [] env) R s:=by
 refine codeAny_of_tree ?_
 show wpAny _ A ((forTurn target it body [] env).onRaise (fun x=>do noteFrame x env;theTreesLotGoes x)) _ _ s
 refine wpAny_noted ?_
 simp only [forTurn]
 refine wpAny_bind (wpAny_standAt (wpAny_bind (wpAny_onRaise (wpAny_mono h (fun r s₁ h₁=>?_) fun _ _ h'=>wpAny_standAt h'))))
 cases r with
 | none=>exact wpAny_pure ⟨rfl,codeAny_block (wpAny_execs_nil h₁)⟩
 | some v=>
  refine wpAny_bind (wpAny_mono h₁ (fun _ s₁' h₁'=>?_) fun _ _ h'=>h')
  refine wpAny_bind (wpAny_mono h₁' (fun _ s₂ h₂=>wpAny_bind (wpAny_mono h₂ (fun f s₃ h₃=>?_) fun _ _ h'=>h')) fun _ _ h'=>h')
  cases f with
  | next=>exact wpAny_pure ⟨rfl,h₃⟩
  | cont=>exact wpAny_pure ⟨rfl,h₃⟩
  | brk=>exact wpAny_pure h₃
  | ret v=>exact wpAny_pure h₃
variable {target:Expr} {j:Nat}
theorem TF.done (h:TN C fi k target j ro sg none sg1):TF C fi k target j body ro sg .next ro sg1:=
 fun A outer h₀ th₀ th s R b a I hb post=>for_turn (wpAny_mono (h _ _ _ _ _ _ (fun r s₁=>r = none ∧ R (.ok .next) s₁) _ b a I hb fun h' tk J=>⟨rfl,post h' tk [] (by rw [List.append_nil];exact J)⟩)
  (fun r s₁ x=>by
   cases r with
   | none=>exact x.2
   | some v=>exact wpAny_mono x (fun _ _ y=>nomatch y.1) fun _ _ e=>e) fun _ _ e=>e)
theorem for_body {A:Around} {R:Result → Shared → Prop} {b:Addr} (a:AOk A k (fi.env :: outer)) (I:InF C fi outer h₀ th₀ th sg ro s.heap) (hb:th[j]? = some b) (h:TN C fi k target j ro sg (some d) sg1) (hT:TA C fi target d ro ro1)
  (fin:∀h' tk,InF C fi outer h₀ th₀ th sg1 ro1 h' → wpAny (model C.prog C.w) A (execs body fi.env) (fun f s₃=>match f with
      | .next=>codeAny (model C.prog C.w) A (.forLoop target (.ref b) body [] fi.env) R s₃
      | .cont=>codeAny (model C.prog C.w) A (.forLoop target (.ref b) body [] fi.env) R s₃
      | .brk=>R (.ok .next) s₃
      | .ret v=>R (.ok (.ret v)) s₃) (notedBy (model C.prog C.w) A fi.env fun e s'=>R (.error e) s') { s with heap:=h',toks:=tk }):codeAny (model C.prog C.w) A (.forLoop target (.ref b) body [] fi.env) R s:=by
 refine for_turn (wpAny_mono (h _ _ _ _ _ _ (fun r s₁=>∃v,r = some v ∧ wpAny (model C.prog C.w) A (PySem.assign target fi.env v) (fun _ s₂=>wpAny (model C.prog C.w) A (execs body fi.env) (fun f s₃=>match f with
      | .next=>codeAny (model C.prog C.w) A (.forLoop target (.ref b) body [] fi.env) R s₃
      | .cont=>codeAny (model C.prog C.w) A (.forLoop target (.ref b) body [] fi.env) R s₃
      | .brk=>R (.ok .next) s₃
      | .ret v=>R (.ok (.ret v)) s₃) (notedBy (model C.prog C.w) A fi.env fun e s'=>R (.error e) s') s₂) (notedBy (model C.prog C.w) A fi.env fun e s'=>R (.error e) s') s₁) _ b a I hb fun v h' tk J r=>⟨v,rfl,hT _ _ _ _ _ _ _ _ _ _ _ a J r fun h'' tk' J'=>fin h'' tk' J'⟩) (fun r s₁ x=>?_) fun _ _ e=>e)
 cases r with
 | none=>obtain ⟨_,y,_⟩:=x;cases y
 | some v=>exact wpAny_mono x (fun _ _ ⟨v',y,z⟩=>by cases y;exact z) fun _ _ e=>e
theorem keep_at {b:Addr} (hb:th[j]? = some b):(th ++ tl)[j]? = some b:=by rw [List.getElem?_append_left (List.getElem?_eq_some_iff.mp hb).1];exact hb
theorem TF.step (h:TN C fi k target j ro sg (some d) sg1) (hT:TA C fi target d ro ro1) (h2:TS C fi k body ro1 sg1 .next ro2 sg2) (h3:TF C fi k target j body ro2 sg2 o ro' sg'):TF C fi k target j body ro sg o ro' sg':=
 fun A outer h₀ th₀ th s R b a I hb post=>for_body a I hb h hT fun h' tk J=>h2 _ _ _ _ _ _ _ _ a J fun h'' tk' tl' J'=>h3 _ _ _ _ _ _ _ b a J' (keep_at hb) post.shift
theorem TF.ret (h:TN C fi k target j ro sg (some d1) sg1) (hT:TA C fi target d1 ro ro1) (h2:TS C fi k body ro1 sg1 (.ret d) ro2 sg2):TF C fi k target j body ro sg (.ret d) ro2 sg2:=
 fun A outer h₀ th₀ th s R b a I hb post=>for_body a I hb h hT fun h' tk J=>h2 _ _ _ _ _ _ _ _ a J fun v h'' tk' tl' J' r=>post v h'' tk' tl' J' r
theorem TF.exc (h:TN C fi k target j ro sg (some d1) sg1) (hT:TA C fi target d1 ro ro1) (h2:TS C fi k body ro1 sg1 .exc ro2 sg2):TF C fi k target j body ro sg .exc ro2 sg2:=
 fun A outer h₀ th₀ th s R b a I hb post=>for_body a I hb h hT fun h' tk J=>h2 _ _ _ _ _ _ _ _ a J (noteX a.frames (by
  have:=post.shift (tl:=[]) (h':=h') (tk:=tk)
  rwa [List.append_nil] at this))
theorem TA.name {x:Str} {pos:Pos} (hk:fi.scope.names.lookup x = some .local):TA C fi (.Name x pos) d ro (put x d ro):=
 fun A k sg outer h₀ th₀ th s Q E v a I r post=>wpAny_assign_Name (store_ok hk I r post)
theorem TA.tup2 {x y:Str} {p1 p2 pos:Pos} {n:Nat} (hx:fi.scope.names.lookup x = some .local) (hy:fi.scope.names.lookup y = some .local):TA C fi (.Tuple [.Name x p1,.Name y p2] n pos) (.tup [d1,d2]) ro (put y d2 (put x d1 ro)):=by
 intro A k sg outer h₀ th₀ th s Q E v a I r post
 simp only [Rep,RepL] at r
 obtain ⟨t,vs,rfl,ht,v1,r1,rfl,q1,v2,r2,rfl,q2,rfl⟩:=r
 obtain ⟨ob,n',ho,hc,hd⟩:=ht
 refine wpAny_assign_Tuple (items:=#[v1,v2]) a.hd ⟨ob,ho,hc,n',hd⟩ rfl rfl fun h' hE=>?_
 have up:∀b o,s.heap.get? b = some o → h'.get? b = some o:=fun b o e=>hE b o (Nat.ne_of_lt (Heap.lt_size e)) e
 show wpAny _ _ (assignInOrder [PySem.assign (.Name x p1) fi.env,PySem.assign (.Name y p2) fi.env] [v1,v2]) _ _ _
 simp only [assignInOrder]
 have I1:=I.ext up
 refine wpAny_bind (wpAny_holding (wpAny_assign_Name (store_ok2 (s:={ s with heap:=h' }) (d:=d1) hx I1 (q1.ext up) fun h'' tk' J' K'=>?_)))
 refine wpAny_bind (wpAny_holding (wpAny_assign_Name (store_ok (s:={ s with heap:=h'',toks:=tk' }) (d:=d2) hy J' (K' _ _ (q2.ext up)) fun h3 tk3 J3=>wpAny_pure (post h3 tk3 J3))))
end
section
variable {prog:Program} {w:World} {A:Around} {E:Value → Shared → Prop} {s:Shared}
noncomputable def EndAt (it:Addr) (h h':Heap):Prop:=Heap.ExtBut it h h' ∧ ∃o,h'.get? it = some o ∧ o.cls ≠ .type "tuple"
theorem stop_tail {it:Addr} {h₀:Heap} (hh:A.handled = none) (hx:EndAt it h₀ s.heap)
  (hQ:∀h' e,EndAt it h₀ h' → (∃o,h'.get? e = some o ∧ o.cls = .type "StopIteration") → E (.ref e) { s with heap:=h' }) {α:Type} {Q':α → Shared → Prop}:
  wpAny (model prog w) A (do let e ←newExc (.type "StopIteration") [];raiseNew e) Q' E s:=by
 refine wpAny_bind ?_
 simp only [newExc,newTuple]
 refine wpAny_bind (wpAny_newObj_type ?_ (by size_fits))
 refine wpAny_bind (m:=firstArgMember _ _) (wpAny_of_eq (a:=Value.none) (by first | rfl | (simp only [firstArgMember];rfl)) ?_)
 refine wpAny_newObj_type ?_ (by size_fits)
 simp only [raiseNew]
 refine wpAny_bind (wpAny_handled ?_)
 first | rw [show A.in1.handled = none from hh] | rw [hh]
 refine wpAny_bind (wpAny_pure (wpAny_throw ?_))
 obtain ⟨o,ho,hc⟩:=hx.2
 exact hQ _ _ ⟨(hx.1.push _).push _,o,Heap.get?_push_of_some _ (Heap.get?_push_of_some _ ho),hc⟩ ⟨_,Heap.get?_push_size _ rfl,rfl⟩
theorem upd_end {h:Heap} {it:Addr} {o:Obj} {vs:Array Value} {f:Array Value → Array Value} (ho:h.get? it = some o) (hd:o.data = .fields vs) (hc:o.cls ≠ .type "tuple"):EndAt it h (h.update it (Obj.mapFields f)):=
 ⟨(Heap.SameBut.update ..).extBut,_,Heap.get?_update_self _ ho (Obj.isFreed_of_fields (Obj.data_mapFields hd _)),by rw [Obj.cls_mapFields];exact hc⟩
theorem next_list_end {it l:Addr} {i:Nat} {items} {Q:Option Value → Shared → Prop} (hh:A.handled = none)
  (hit:s.heap.IsListIter it l i) (hl:s.heap.IsList l items) (hx:items[i]? = none)
  (hQ:∀h',EndAt it s.heap h' → Q none { s with heap:=h' }):wpAny (model prog w) A (pyNext (.ref it)) Q E s:=by
 obtain ⟨o,ho,hc,hd⟩:=id hit
 obtain ⟨ol,hol,_,nl,hdl⟩:=hl
 unfold pyNext
 refine wpAny_bind (wpAny_attempt (wpAny_callSpecial?_slot (name:=Str.ofString "__next__") hit.typeIs slot_listiter_next
  (wpAny_call_entry slot_listiter_next hit.typeIs entry_listiter_next ?_ (args_listiter_next _))))
 show wpAny _ _ (field (.ref it) 0 >>= _) _ _ s
 refine wpAny_bind (wpAny_field ho hd (x:=.ref l) rfl ?_)
 show wpAny _ _ (if (Value.ref l == Value.none) = true then _ else _) _ _ s
 rw [if_neg (show ¬ ((Value.ref l == Value.none) = true) from Bool.false_ne_true)]
 show wpAny _ _ (field (.ref it) 1 >>= _) _ _ s
 refine wpAny_bind (wpAny_field ho hd (x:=.int i 0) rfl ?_)
 show wpAny _ _ (seqItems? (.ref l) >>= _) _ _ s
 refine wpAny_bind (wpAny_seqItems hol hdl ?_)
 simp only [Int.toNat_natCast,hx]
 refine wpAny_bind (wpAny_rule (wpAny_bind (wpAny_setField ho hd (by simp) ?_)))
 refine stop_tail (A:=A.in1) (it:=it) (h₀:=s.heap) (show A.in1.handled = none from hh) ?_ fun h' e hE he=>?_
 ·exact upd_end ho hd (by rw [hc];decide)
 ·obtain ⟨oe,he,hce⟩:=he
  refine wpAny_bind (wpAny_isInstance (T:="StopIteration") (b:=true) ⟨_,he,hce⟩ isSubtype_stop ?_)
  exact wpAny_pure (hQ _ hE)
theorem nextOf_list_end {it l:Addr} {i:Nat} {items} {Q:Value → Shared → Prop} (hh:A.handled = none)
  (hit:s.heap.IsListIter it l i) (hl:s.heap.IsList l items) (hx:items[i]? = none)
  (hE:∀h' e,EndAt it s.heap h' → (∃o,h'.get? e = some o ∧ o.cls = .type "StopIteration") → E (.ref e) { s with heap:=h' }):wpAny (model prog w) A (Builtin.SmallTypes.nextOf (.ref it)) Q E s:=by
 obtain ⟨o,ho,hc,hd⟩:=id hit
 obtain ⟨ol,hol,_,nl,hdl⟩:=hl
 unfold Builtin.SmallTypes.nextOf
 refine wpAny_bind (wpAny_callSpecial?_slot (name:=Str.ofString "__next__") hit.typeIs slot_listiter_next
  (wpAny_call_entry slot_listiter_next hit.typeIs entry_listiter_next ?_ (args_listiter_next _)))
 show wpAny _ _ (field (.ref it) 0 >>= _) _ _ s
 refine wpAny_bind (wpAny_field ho hd (x:=.ref l) rfl ?_)
 show wpAny _ _ (if (Value.ref l == Value.none) = true then _ else _) _ _ s
 rw [if_neg (show ¬ ((Value.ref l == Value.none) = true) from Bool.false_ne_true)]
 show wpAny _ _ (field (.ref it) 1 >>= _) _ _ s
 refine wpAny_bind (wpAny_field ho hd (x:=.int i 0) rfl ?_)
 show wpAny _ _ (seqItems? (.ref l) >>= _) _ _ s
 refine wpAny_bind (wpAny_seqItems hol hdl ?_)
 simp only [Int.toNat_natCast,hx]
 refine wpAny_bind (wpAny_rule (wpAny_bind (wpAny_setField ho hd (by simp) ?_)))
 refine stop_tail (A:=A.in1) (it:=it) (h₀:=s.heap) (show A.in1.handled = none from hh) ?_ ?_
 ·exact upd_end ho hd (by rw [hc];decide)
 ·exact hE
theorem next_enum_end {e it l:Addr} {i:Nat} {items:Array Value} {old:Value} {Q:Option Value → Shared → Prop} (hh:A.handled = none)
  (he:IsEnum s.heap e it i old) (hit:s.heap.IsListIter it l i) (hl:s.heap.IsList l items) (hx:items[i]? = none)
  (hQ:∀h',EndAt it s.heap h' → Q none { s with heap:=h' }):wpAny (model prog w) A (pyNext (.ref e)) Q E s:=by
 have hT:s.TypeIs (.ref e) "enumerate":=⟨_,he,rfl⟩
 unfold pyNext
 refine wpAny_bind (wpAny_attempt (wpAny_callSpecial?_slot (name:=Str.ofString "__next__") hT F.slot_enumerate_next
  (wpAny_call_entry F.slot_enumerate_next hT F.entry_enumerate_next ?_ (F.args_enumerate_next_1 _))))
 show wpAny _ _ (field (.ref e) 2 >>= _) _ _ _
 refine wpAny_bind (wpAny_field he rfl (x:=.ref it) rfl ?_)
 refine wpAny_bind (nextOf_list_end hh hit hl hx fun h' x he' hx'=>?_)
 obtain ⟨o,ho,hc⟩:=hx'
 refine wpAny_bind (wpAny_isInstance (T:="StopIteration") (b:=true) ⟨o,ho,hc⟩ isSubtype_stop ?_)
 exact wpAny_pure (hQ _ he')
theorem next_str_end {it:Addr} {x:Str} {t:Tok} {i:Nat} {Q:Option Value → Shared → Prop} (hh:A.handled = none)
  (hit:s.heap.IsStrIter it "str_ascii_iterator" x t i) (hx:x.cps[i]? = none)
  (hQ:∀h',EndAt it s.heap h' → Q none { s with heap:=h' }):wpAny (model prog w) A (pyNext (.ref it)) Q E s:=by
 obtain ⟨o,ho,hc,hd⟩:=id hit
 unfold pyNext
 refine wpAny_bind (wpAny_attempt (wpAny_callSpecial?_slot (name:=Str.ofString "__next__") hit.typeIs F.slot_str_ascii_iterator_next
  (wpAny_call_entry F.slot_str_ascii_iterator_next hit.typeIs F.entry_str_ascii_iterator_next ?_ (F.args_str_ascii_iterator_next_1 _))))
 show wpAny _ _ (field (.ref it) 0 >>= _) _ _ s
 refine wpAny_bind (wpAny_field ho hd (x:=.str x t) rfl ?_)
 show wpAny _ _ (field (.ref it) 1 >>= _) _ _ s
 refine wpAny_bind (wpAny_field ho hd (x:=.int i 0) rfl ?_)
 simp only [Int.toNat_natCast,hx]
 refine wpAny_bind (wpAny_rule (wpAny_bind (wpAny_setField ho hd (by simp) (wpAny_bind (wpAny_letGo ?_)))))
 refine stop_tail (A:=A.in1) (it:=it) (h₀:=s.heap) (show A.in1.handled = none from hh) ?_ fun h' e hE he=>?_
 ·exact upd_end ho hd (by rw [hc];decide)
 obtain ⟨oe,he,hce⟩:=he
 refine wpAny_bind (wpAny_isInstance (T:="StopIteration") (b:=true) ⟨_,he,hce⟩ isSubtype_stop ?_)
 exact wpAny_pure (hQ _ hE)
theorem next_range_end {it:Addr} {x left step:Int} {Q:Option Value → Shared → Prop} (hh:A.handled = none) (hit:IsRangeIter s.heap it x left step) (hleft:left ≤ 0)
  (hQ:∀h',EndAt it s.heap h' → Q none { s with heap:=h' }):wpAny (model prog w) A (pyNext (.ref it)) Q E s:=by
 have hT:s.TypeIs (.ref it) "range_iterator":=⟨_,hit,rfl⟩
 unfold pyNext
 refine wpAny_bind (wpAny_attempt (wpAny_callSpecial?_slot (name:=Str.ofString "__next__") hT F.slot_range_iterator_next
  (wpAny_call_entry F.slot_range_iterator_next hT F.entry_range_iterator_next ?_ (F.args_range_iterator_next_1 _))))
 show wpAny _ _ (field (.ref it) 0 >>= _) _ _ s
 refine wpAny_bind (wpAny_field hit rfl (x:=rawInt x) rfl ?_)
 show wpAny _ _ (field (.ref it) 1 >>= _) _ _ s
 refine wpAny_bind (wpAny_field hit rfl (x:=rawInt left) rfl ?_)
 show wpAny _ _ (field (.ref it) 2 >>= _) _ _ s
 refine wpAny_bind (wpAny_field hit rfl (x:=rawInt step) rfl ?_)
 show wpAny _ _ (if left ≤ 0 then _ else _) _ _ s
 rw [if_pos hleft]
 refine wpAny_bind (wpAny_rule ?_)
 refine wpAny_bind ?_
 refine stop_tail (A:=A.in1) (it:=it) (h₀:=s.heap) (show A.in1.handled = none from hh) ?_ fun h' e hE he=>?_
 ·exact ⟨fun _ _ _ e=>e,_,hit,by show Value.type "range_iterator" ≠ _;decide⟩
 obtain ⟨oe,he,hce⟩:=he
 refine wpAny_bind (wpAny_isInstance (T:="StopIteration") (b:=true) ⟨_,he,hce⟩ isSubtype_stop ?_)
 exact wpAny_pure (hQ _ hE)
end
section
variable {C:Cx} {fi:FI} {k:Nat} {outer fs:List Env} {h₀ h h' h'':Heap} {th₀ th tl tl':List Addr} {sg sg' sg1 sg2 sg3:List Cell} {ro ro' ro1 ro2:List (Str × D)} {s:Shared} {d d1 d2 d3:D} {o o':Out}
theorem InF.turn (I:InF C fi outer h₀ th₀ th sg ro h) {a:Addr} {i:Nat} {c:Cell} (hi:th[i]? = some a) (k:∀b o,b ≠ a → h.get? b = some o → h'.get? b = some o)
  (x:CellOk C.w.params th h' a c):InF C fi outer h₀ th₀ th (sg.set i c) ro h':=
 I.step0 (I.below.turn hi k x) (Kp.turn (List.mem_of_getElem? hi) I.below k (let ⟨o,e,_⟩:=x.get;⟨o,e⟩))
theorem HI.rep (I:HI C th sg fs h) {a:Addr} (ha:a ∈ th) (k:∀b o,b ≠ a → h.get? b = some o → h'.get? b = some o) {v:Value} (r:Rep th h d v):Rep th h' d v:=
 r.mono (fun _ _ e=>e) fun b vs ht=>by
  have q:b ≠ a:=fun q=>(I.noTup ht).1 (q ▸ ha)
  obtain ⟨o,n,ho,r⟩:=ht
  exact ⟨o,n,k b o q ho,r⟩
theorem HI.repL (I:HI C th sg fs h) {a:Addr} (ha:a ∈ th) (k:∀b o,b ≠ a → h.get? b = some o → h'.get? b = some o) {l:List D} {v:List Value} (r:RepL th h l v):RepL th h' l v:=
 r.mono (fun _ _ e=>e) fun b vs ht=>by
  have q:b ≠ a:=fun q=>(I.noTup ht).1 (q ▸ ha)
  obtain ⟨o,n,ho,r⟩:=ht
  exact ⟨o,n,k b o q ho,r⟩
theorem RepL.get {l:List D} {vs:List Value} (r:RepL th h l vs) {i:Nat} (hi:l[i]? = some d):∃v,vs[i]? = some v ∧ Rep th h d v:=by
 induction l generalizing vs i with
 | nil=>simp at hi
 | cons x l ih=>
  simp only [RepL] at r
  obtain ⟨v,q,rfl,h1,h2⟩:=r
  cases i with
  | zero=>simp at hi;subst hi;exact ⟨v,rfl,h1⟩
  | succ i=>simp only [List.getElem?_cons_succ] at hi ⊢;exact ih h2 hi
theorem ne_of_nd (I:HI C th sg fs h) {a b:Addr} {i j:Nat} (hi:th[i]? = some a) (hj:th[j]? = some b) (hne:i ≠ j):a ≠ b:=fun q=>by
 subst q
 exact hne ((List.getElem?_inj (List.getElem?_eq_some_iff.mp hi).1 I.nd).mp (hi.trans hj.symm))
theorem TN.list {target:Expr} {j src i:Nat} {l:List D} (hj:sg[j]? = some (.liter src i)) (hs:sg[src]? = some (.list l)) (hl:l[i]? = some d):TN C fi k target j ro sg (some d) (sg.set j (.liter src (i + 1))):=by
 intro A outer h₀ th₀ th s Q E a ak I ha post
 obtain ⟨la,hla,hit⟩:=I.hi.cells j _ a hj ha
 obtain ⟨vs,n,hL0,hR⟩:=I.hi.cells src _ la hs hla
 have hL:s.heap.IsList la vs.toArray:=⟨_,hL0,rfl,n,rfl⟩
 obtain ⟨v,hv,r⟩:=hR.get hl
 refine wpAny_pyNext_list_item hit hL (x:=v) (by simpa using hv) fun h' hit' hsb=>?_
 have k:∀b o,b ≠ a → s.heap.get? b = some o → h'.get? b = some o:=fun b o n e=>(hsb.2 b n).trans e
 refine letGo_listiter hit' (post v h' s.toks (I.turn ha k ⟨la,hla,hit'⟩) (I.hi.rep (List.mem_of_getElem? ha) k r))
theorem TN.listEnd {target:Expr} {j src i:Nat} {l:List D} (hj:sg[j]? = some (.liter src i)) (hs:sg[src]? = some (.list l)) (hl:l[i]? = none):TN C fi k target j ro sg none (sg.set j .dead):=by
 intro A outer h₀ th₀ th s Q E a ak I ha post
 obtain ⟨la,hla,hit⟩:=I.hi.cells j _ a hj ha
 obtain ⟨vs,n,hL0,hR⟩:=I.hi.cells src _ la hs hla
 have hL:s.heap.IsList la vs.toArray:=⟨_,hL0,rfl,n,rfl⟩
 refine next_list_end ak.hd hit hL (by simpa [hR.len] using hl) fun h' hE=>post h' s.toks (I.turn ha (fun b o n e=>hE.1 b o n e) hE.2)
theorem TN.str {x:Str} {p:Pos} {j i c:Nat} {y:Str} (hj:sg[j]? = some (.siter y i)) (hl:y.cps[i]? = some c):TN C fi k (.Name x p) j ro sg (some (.str ⟨#[c]⟩)) (sg.set j (.siter y (i + 1))):=by
 intro A outer h₀ th₀ th s Q E a ak I ha post
 obtain ⟨t,hit⟩:=I.hi.cells j _ a hj ha
 refine wpAny_pyNext_ascii_item hit hl fun h' hit' hsb=>?_
 have k:∀b o,b ≠ a → s.heap.get? b = some o → h'.get? b = some o:=fun b o n e=>(hsb.2 b n).trans e
 exact wpAny_pure (post _ h' _ (I.turn ha k ⟨t,hit'⟩) (by simp only [Rep];exact ⟨_,rfl⟩))
theorem TN.strEnd {target:Expr} {j i:Nat} {y:Str} (hj:sg[j]? = some (.siter y i)) (hl:y.cps[i]? = none):TN C fi k target j ro sg none (sg.set j .dead):=by
 intro A outer h₀ th₀ th s Q E a ak I ha post
 obtain ⟨t,hit⟩:=I.hi.cells j _ a hj ha
 exact next_str_end ak.hd hit hl fun h' hE=>post h' s.toks (I.turn ha (fun b o n e=>hE.1 b o n e) hE.2)
theorem TN.range {x:Str} {p:Pos} {j:Nat} {y left:Int} (hj:sg[j]? = some (.riter y left)) (hl:0 < left):TN C fi k (.Name x p) j ro sg (some (.int y)) (sg.set j (.riter (y + 1) (left - 1))):=by
 intro A outer h₀ th₀ th s Q E a ak I ha post
 have hit:IsRangeIter s.heap a y left 1:=I.hi.cells j _ a hj ha
 refine wpAny_pyNext_range_item hit hl fun h' hit' hsb=>?_
 have k:∀b o,b ≠ a → s.heap.get? b = some o → h'.get? b = some o:=fun b o n e=>(hsb.2 b n).trans e
 exact wpAny_pure (post _ h' _ (I.turn ha k hit') (by simp only [Rep];exact ⟨_,rfl⟩))
theorem TN.rangeEnd {target:Expr} {j:Nat} {y left:Int} (hj:sg[j]? = some (.riter y left)) (hl:left ≤ 0):TN C fi k target j ro sg none (sg.set j .dead):=by
 intro A outer h₀ th₀ th s Q E a ak I ha post
 have hit:IsRangeIter s.heap a y left 1:=I.hi.cells j _ a hj ha
 exact next_range_end ak.hd hit hl fun h' hE=>post h' s.toks (I.turn ha (fun b o n e=>hE.1 b o n e) hE.2)
theorem TN.enum {elts:List Expr} {x1:Nat} {pos:Pos} {j it src i:Nat} {l:List D} (hj:sg[j]? = some (.enum it i)) (hi:sg[it]? = some (.liter src i)) (hs:sg[src]? = some (.list l)) (hl:l[i]? = some d) (hne:j ≠ it) (hne2:src ≠ it):
  TN C fi k (.Tuple elts x1 pos) j ro sg (some (.tup [.int i,d])) ((sg.set it (.liter src (i + 1))).set j (.enum it (i + 1))):=by
 intro A outer h₀ th₀ th s Q E a ak I ha post
 obtain ⟨b,old,hb,he⟩:=I.hi.cells j _ a hj ha
 obtain ⟨la,hla,hit⟩:=I.hi.cells it _ b hi hb
 obtain ⟨vs,n,hL0,hR⟩:=I.hi.cells src _ la hs hla
 have hL:s.heap.IsList la vs.toArray:=⟨_,hL0,rfl,n,rfl⟩
 obtain ⟨v,hv,r⟩:=hR.get hl
 have hab:a ≠ b:=ne_of_nd I.hi ha hb hne
 have hma:=List.mem_of_getElem? ha
 have hmb:=List.mem_of_getElem? hb
 refine wpAny_pyNext_enum_item he hit hL (x:=v) (by simpa using hv) hab fun h' he' hit' ht' hsz kk=>?_
 refine wpAny_letOwnedTupleGo_enum he' fun h'' he'' hsb=>?_
 have kp:∀c o,c ≠ a → c ≠ b → s.heap.get? c = some o → h''.get? c = some o:=fun c o n1 n2 e=>(hsb.2 c n1).trans (kk c o n1 n2 e)
 have ht'':h''.TupAt s.heap.objs.size [.int i s.toks,v]:=⟨_,_,(hsb.2 _ fun q=>by
  have:s.heap.get? a = none:=by rw [←q];exact Heap.get?_none_of_le (Nat.le_refl _)
  rw [he] at this;cases this).trans ht',rfl,rfl⟩
 have tup:∀c ws,s.heap.TupAt c ws → h''.TupAt c ws:=fun c ws ht=>by
  have q:=(I.hi.noTup ht).1
  obtain ⟨o,n,ho,r⟩:=ht
  exact ⟨o,n,kp c o (fun z=>q (z ▸ hma)) (fun z=>q (z ▸ hmb)) ho,r⟩
 have hit'':h''.IsListIter b la (i + 1):=hit'.extBut hsb.extBut (Ne.symm hab)
 have J:InF C fi outer h₀ th₀ th ((sg.set it (.liter src (i + 1))).set j (.enum it (i + 1))) ro h'':=by
  have B:=I.below
  have one:HI C th ((sg.set it (.liter src (i + 1))).set j (.enum it (i + 1))) (fi.env :: outer) h'':=by
   have hi_a:=B.high a hma
   have hi_b:=B.high b hmb
   refine ⟨fun c o n e=>kp c o (fun q=>by rw [q,hi_a] at e;cases e) (fun q=>by rw [q,hi_b] at e;cases e) (B.stays c o n e),?_,by simpa using B.len,B.nd,B.high,fun m c x e1 e2=>?_,fun env he=>⟨(B.fr env he).kind,?_⟩⟩
   ·obtain ⟨ps,e,q⟩:=B.tab
    have hP:=C.hP
    exact ⟨ps,kp _ _ (fun z=>by rw [z,hi_a] at hP;cases hP) (fun z=>by rw [z,hi_b] at hP;cases hP) e,q⟩
   ·by_cases mj:m = j
    ·subst mj
     rw [ha] at e2;cases e2
     rw [List.getElem?_set] at e1
     simp at e1
     obtain ⟨_,rfl⟩:=e1
     exact ⟨b,v,hb,he''⟩
    ·rw [List.getElem?_set_ne (Ne.symm mj)] at e1
     by_cases mi:m = it
     ·subst mi
      rw [hb] at e2;cases e2
      rw [List.getElem?_set] at e1
      simp at e1
      obtain ⟨_,rfl⟩:=e1
      exact ⟨la,hla,hit''⟩
     ·rw [List.getElem?_set_ne (Ne.symm mi)] at e1
      have n1:x ≠ a:=ne_of_nd B e2 ha mj
      have n2:x ≠ b:=ne_of_nd B e2 hb mi
      exact (B.cells m c x e1 e2).mono (fun _ _ e=>e) tup fun o e=>kp x o n1 n2 e
   ·obtain ⟨L,o,es,n,p,q,r,s',t⟩:=(B.fr env he).at_
    exact ⟨L,o,es,n,p,q,r,kp _ _ (fun z=>r (z ▸ hma)) (fun z=>r (z ▸ hmb)) s',t⟩
  refine I.step0 one ⟨fun c o e=>?_,fun c o e n _ _=>kp c o (fun q=>n (q ▸ hma)) (fun q=>n (q ▸ hmb)) e,fun env he L hf o e=>?_⟩
  ·by_cases q:c = a
   ·exact ⟨_,q ▸ he''⟩
   ·by_cases q':c = b
    ·obtain ⟨o',e',_⟩:=hit''
     exact ⟨o',q' ▸ e'⟩
    ·exact ⟨o,kp c o q q' e⟩
  ·obtain ⟨L',o',es,n,p,q,r,_⟩:=(B.fr env he).at_
   rw [hf] at p;cases p
   exact ⟨o.slots,kp _ _ (fun z=>r (z ▸ hma)) (fun z=>r (z ▸ hmb)) e⟩
 refine post _ h'' _ J ?_
 simp only [Rep,RepL]
 exact ⟨_,_,rfl,ht'',_,_,rfl,⟨_,rfl⟩,_,_,rfl,r.mono (fun _ _ e=>e) tup,rfl⟩
theorem TN.enumEnd {target:Expr} {j it src i:Nat} {l:List D} (hj:sg[j]? = some (.enum it i)) (hi:sg[it]? = some (.liter src i)) (hs:sg[src]? = some (.list l)) (hl:l[i]? = none):TN C fi k target j ro sg none (sg.set it .dead):=by
 intro A outer h₀ th₀ th s Q E a ak I ha post
 obtain ⟨b,old,hb,he⟩:=I.hi.cells j _ a hj ha
 obtain ⟨la,hla,hit⟩:=I.hi.cells it _ b hi hb
 obtain ⟨vs,n,hL0,hR⟩:=I.hi.cells src _ la hs hla
 have hL:s.heap.IsList la vs.toArray:=⟨_,hL0,rfl,n,rfl⟩
 exact next_enum_end ak.hd he hit hL (by simpa [hR.len] using hl) fun h' hE=>post h' s.toks (I.turn hb (fun b o n e=>hE.1 b o n e) hE.2)
variable {target iter:Expr} {body:List Stmt} {pos:Pos}
theorem for_grow {A:Around} {R:Result → Shared → Prop} {c:Cell} {ob:Obj} (h:TF C fi k target sg.length body ro (sg ++ [c]) o ro' sg') (a:AOk A k (fi.env :: outer)) (J:InF C fi outer h₀ th₀ th sg ro s.heap)
  (x:CellOk C.w.params (th ++ [s.heap.objs.size]) (s.heap.push ob) s.heap.objs.size c) (post:AfterL C fi outer h₀ th₀ th s R o ro' sg'):
  codeAny (model C.prog C.w) A (.forLoop target (.ref s.heap.objs.size) body [] fi.env) R { s with heap:=s.heap.push ob }:=by
 have J2:=J.grow (a:=s.heap.objs.size) (h':=s.heap.push ob) (c:=c) new_none push_ext x
 exact h _ _ _ _ _ _ _ _ a J2 (by rw [←J.hi.len];simp) post.shift
theorem TX.forList {src:Nat} {l:List D} (h1:TE C fi k iter ro sg (some (.obj src)) sg1) (hs:sg1[src]? = some (.list l)) (h:TF C fi k target sg1.length body ro (sg1 ++ [.liter src 0]) o ro' sg') (hf:∀x,foldedSetIterable iter fi.env x = pure x) (ho:o.fin = true):
  TX C fi k (.For target iter body [] pos) ro sg o ro' sg':=by
 intro A outer h₀ th₀ th s Q E a I post
 refine wpAny_For (h1 _ _ _ _ _ _ _ _ a I fun v h' tk tl J kp n r=>?_) hf
 simp only [Rep] at r
 obtain ⟨la,hla,rfl⟩:=r
 obtain ⟨vs,n,hL0,hR⟩:=J.hi.cells src _ la hs hla
 have hL:h'.IsList la vs.toArray:=⟨_,hL0,rfl,n,rfl⟩
 refine wpAny_pyIter_list (s:={ s with heap:=h',toks:=tk }) hL ?_
 refine for_grow (s:={ s with heap:=h',toks:=tk }) h a J ⟨la,keep_at hla,_,Heap.get?_push_size _ rfl,rfl,rfl⟩ (afterL_of ho post.shift)
theorem TX.forStr {y:Str} (h1:TE C fi k iter ro sg (some (.str y)) sg1) (hy:y.cps.all (· < 128) = true) (h:TF C fi k target sg1.length body ro (sg1 ++ [.siter y 0]) o ro' sg') (hf:∀x,foldedSetIterable iter fi.env x = pure x) (ho:o.fin = true):
  TX C fi k (.For target iter body [] pos) ro sg o ro' sg':=by
 intro A outer h₀ th₀ th s Q E a I post
 refine wpAny_For (h1 _ _ _ _ _ _ _ _ a I fun v h' tk tl J kp n r=>?_) hf
 simp only [Rep] at r
 obtain ⟨t,rfl⟩:=r
 refine wpAny_pyIter_ascii (s:={ s with heap:=h',toks:=tk }) hy ?_
 refine for_grow (s:={ s with heap:=h',toks:=tk }) h a J ⟨t,_,Heap.get?_push_size _ rfl,rfl,rfl⟩ (afterL_of ho post.shift)
theorem TX.forRange {r:Nat} {x y:Int} (h1:TE C fi k iter ro sg (some (.obj r)) sg1) (hs:sg1[r]? = some (.range x y)) (hsm:Builtin.Range.small x y 1 = true) (h:TF C fi k target sg1.length body ro (sg1 ++ [.riter x (Builtin.Range.rangeSize x y 1)]) o ro' sg') (hf:∀x,foldedSetIterable iter fi.env x = pure x) (ho:o.fin = true):
  TX C fi k (.For target iter body [] pos) ro sg o ro' sg':=by
 intro A outer h₀ th₀ th s Q E a I post
 refine wpAny_For (h1 _ _ _ _ _ _ _ _ a I fun v h' tk tl J kp n r=>?_) hf
 simp only [Rep] at r
 obtain ⟨la,hla,rfl⟩:=r
 obtain ⟨t,u,v,hR⟩:=J.hi.cells _ _ la hs hla
 refine wpAny_pyIter_range (s:={ s with heap:=h',toks:=tk }) hR hsm ?_
 refine for_grow (s:={ s with heap:=h',toks:=tk }) (c:=.riter x (Builtin.Range.rangeSize x y 1)) h a J (Heap.get?_push_size _ rfl) (afterL_of ho post.shift)
theorem TX.forEnum {e it i:Nat} (h1:TE C fi k iter ro sg (some (.obj e)) sg1) (hs:sg1[e]? = some (.enum it i)) (h:TF C fi k target e body ro sg1 o ro' sg') (hf:∀x,foldedSetIterable iter fi.env x = pure x) (ho:o.fin = true):
  TX C fi k (.For target iter body [] pos) ro sg o ro' sg':=by
 intro A outer h₀ th₀ th s Q E a I post
 refine wpAny_For (h1 _ _ _ _ _ _ _ _ a I fun v h' tk tl J kp n r=>?_) hf
 simp only [Rep] at r
 obtain ⟨la,hla,rfl⟩:=r
 obtain ⟨b,old,hb,he⟩:=J.hi.cells e _ la hs hla
 refine wpAny_pyIter_enum (s:={ s with heap:=h',toks:=tk }) he ?_
 exact h _ _ _ _ _ _ _ _ a J hla (afterL_of ho post.shift)
end
section
variable {C:Cx} {fi:FI} {k:Nat} {outer fs:List Env} {h₀ h h' h'':Heap} {th₀ th tl tl':List Addr} {sg sg' sg1 sg2 sg3:List Cell} {ro ro' ro1 ro2:List (Str × D)} {s:Shared} {d d1 d2 d3:D} {o o':Out}
noncomputable def OpG (C:Cx) (t:Value → Value → Sem Value) (d1 d2:D) (sg:List Cell) (d:D) (sg':List Cell):Prop:=
 ∀(A:Around) (k:Nat) (l:List Env) (th:List Addr) (s:Shared) (v1 v2:Value) (Q E:Value → Shared → Prop),AOk A k l → HI C th sg l s.heap → Rep th s.heap d1 v1 → Rep th s.heap d2 v2 →
  (∀v h' tk tl,HI C (th ++ tl) sg' l h' → Kp C th l s.heap h' → (∀a ∈ tl,s.heap.get? a = none) → Rep (th ++ tl) h' d v → Q v { s with heap:=h',toks:=tk }) → wpAny (model C.prog C.w) A (t v1 v2) Q E s
theorem pg0 {l:List Env} {Q:Value → Shared → Prop} (post:∀v h' tk tl,HI C (th ++ tl) sg' l h' → Kp C th l s.heap h' → (∀a ∈ tl,s.heap.get? a = none) → Rep (th ++ tl) h' d v → Q v { s with heap:=h',toks:=tk })
  {v:Value} {tk:Tok} (I:HI C th sg' l h') (kp:Kp C th l s.heap h') (r:Rep th h' d v):Q v { s with heap:=h',toks:=tk }:=
 post v h' tk [] (by rw [List.append_nil];exact I) kp (fun _ m=>nomatch m) (by rw [List.append_nil];exact r)
theorem HI.grow {l:List Env} (B:HI C th sg l h) {a:Addr} {c:Cell} (ha:h.get? a = none) (k:∀b o,h.get? b = some o → h'.get? b = some o) (x:CellOk C.w.params (th ++ [a]) h' a c):HI C (th ++ [a]) (sg ++ [c]) l h':=by
 refine (B.ext k).more (fun m=>?_) (B.fresh ha) (fun env he q=>?_) x
 ·obtain ⟨_,_,_,_,x⟩:=B.cellAt m
  obtain ⟨o,e,_⟩:=x.get
  rw [ha] at e;cases e
 ·obtain ⟨L,o,es,n,p,_,_,e,_⟩:=(B.fr env he).at_
  rw [q] at p;cases p
  rw [ha] at e;cases e
theorem pg1 {l:List Env} {Q:Value → Shared → Prop} {c:Cell} (post:∀v h' tk tl,HI C (th ++ tl) (sg ++ [c]) l h' → Kp C th l s.heap h' → (∀a ∈ tl,s.heap.get? a = none) → Rep (th ++ tl) h' (.obj sg.length) v → Q v { s with heap:=h',toks:=tk })
  {a:Addr} {tk:Tok} (I:HI C th sg l s.heap) (ha:s.heap.get? a = none) (kp:∀b o,s.heap.get? b = some o → h'.get? b = some o) (x:CellOk C.w.params (th ++ [a]) h' a c):Q (.ref a) { s with heap:=h',toks:=tk }:=
 post (.ref a) h' tk [a] (I.grow ha kp x) (.of_ext kp) (fun b m=>by rw [List.mem_singleton] at m;subst m;exact ha) (by
  simp only [Rep]
  exact ⟨a,by rw [←I.len];simp,rfl⟩)
theorem repL_grow {l:List D} {vs:List Value} (r:RepL th h l vs) (kp:∀b o,h.get? b = some o → h'.get? b = some o):RepL (th ++ tl) h' l vs:=
 (r.ext kp).mono (fun i b e=>by rw [List.getElem?_append_left (List.getElem?_eq_some_iff.mp e).1];exact e) fun _ _ x=>x
theorem listCell {a:Addr} {l:List D} {vs:List Value} {n:Nat} (ho:h'.get? a = some { cls:=.type "list",dict:=none,data:=.seq (List.toArray vs) n,slots:=#[] }) (r:RepL th h l vs) (kp:∀b o,h.get? b = some o → h'.get? b = some o) {P:Params}:CellOk P (th ++ tl) h' a (.list l):=
 ⟨vs,n,ho,repL_grow r kp⟩
theorem opg_tail {A:Around} {Q E:Value → Shared → Prop} {t:Value → Value → Sem Value} {v1 v2:Value} {tk:Tok} (op:OpG C t d1 d2 sg2 d sg3) (a:AOk A k (fi.env :: outer)) (J:InF C fi outer h₀ th₀ (th ++ tl) sg2 ro h') (kp:Kp C th (fi.env :: outer) s.heap h') (n:∀a ∈ tl,s.heap.get? a = none)
  (r1:Rep (th ++ tl) h' d1 v1) (r2:Rep (th ++ tl) h' d2 v2)
  (post:∀v h' tk tl,InF C fi outer h₀ th₀ (th ++ tl) sg3 ro h' → Kp C th (fi.env :: outer) s.heap h' → (∀a ∈ tl,s.heap.get? a = none) → Rep (th ++ tl) h' d v → Q v { s with heap:=h',toks:=tk }):
  wpAny (model C.prog C.w) A (t v1 v2) Q E { s with heap:=h',toks:=tk }:=
 op A k _ _ _ _ _ _ _ a J.below r1 r2 fun v h'' tk' tl' I' kp' n' r=>by
  have J':=J.step I' kp' n'
  rw [List.append_assoc] at J' r
  exact post v h'' tk' _ J' (kp.trans n kp') (fresh_app n kp n') r
theorem TE.binopG {l r:Expr} {o:Operator} {pos:Pos} (h1:TE C fi k l ro sg (some d1) sg1) (h2:TE C fi k r ro sg1 (some d2) sg2) (op:OpG C (binaryOp o) d1 d2 sg2 d sg3):TE C fi k (.BinOp l o r pos) ro sg (some d) sg3:=by
 intro A outer h₀ th₀ th s Q E a I post
 exact wpAny_BinOp (seq2 (r2:=none) h1 h2 a I fun v1 v2 h' tk tl J kp n r1 r2=>opg_tail op a J kp n r1 r2 post)
theorem TE.cmpG {l r:Expr} {o:CmpOp} {pos:Pos} (h1:TE C fi k l ro sg (some d1) sg1) (h2:TE C fi k r ro sg1 (some d2) sg2) (op:OpG C (compareOp o) d1 d2 sg2 d sg3) (hm:behindInMarks o r = false):TE C fi k (.Compare l [o] [r] pos) ro sg (some d) sg3:=by
 intro A outer h₀ th₀ th s Q E a I post
 exact wpAny_Compare1 (seq2 (r2:=none) h1 h2 a I fun v1 v2 h' tk tl J kp n r1 r2=>opg_tail op a J kp n r1 r2 post) hm
theorem TB.cmpG {l r:Expr} {o:CmpOp} {pos:Pos} {b:Bool} (h1:TE C fi k l ro sg (some d1) sg1) (h2:TE C fi k r ro sg1 (some d2) sg2) (op:OpG C (compareOp o) d1 d2 sg2 (.bool b) sg3) (hm:behindInMarks o r = false):TB C fi k (.Compare l [o] [r] pos) ro sg (some b) sg3:=by
 intro A outer h₀ th₀ th s Q E a I post
 refine wpAny_isTrue_Compare1 (seq2 (r2:=none) (t:=fun v1 v2=>compareOp o v1 v2) (Q:=fun c s₃=>wpAny _ A (truthy c) Q E s₃) h1 h2 a I fun v1 v2 h' tk tl J kp n r1 r2=>?_) hm
 refine opg_tail (sg3:=sg3) op a J kp n r1 r2 fun v h'' tk' tl' J' kp' n' r=>?_
 simp only [Rep] at r
 subst r
 exact wpAny_truthy_bool (post h'' tk' tl' J' kp' n')
theorem TE.sub {value slice:Expr} {pos:Pos} (h1:TE C fi k value ro sg (some d1) sg1) (h2:TE C fi k slice ro sg1 (some d2) sg2) (op:OpG C (subscriptTail value slice) d1 d2 sg2 d sg3):TE C fi k (.Subscript value slice pos) ro sg (some d) sg3:=by
 intro A outer h₀ th₀ th s Q E a I post
 exact Subscript_ (seq2 (r2:=none) h1 h2 a I fun v1 v2 h' tk tl J kp n r1 r2=>opg_tail op a J kp n r1 r2 post)
theorem sub_tup {value slice:Expr} {l:List D} {i:Int} {j:Nat} (hs:∀o i,subscripted slice false o i = operate [o,i] (getItem o i)) (hlo:-(2 ^ 63) ≤ i) (hhi:i < 2 ^ 63) (hj:seqIndex? i l.length = some j) (hd:l[j]? = some d):
  OpG C (subscriptTail value slice) (.tup l) (.int i) sg d sg:=by
 intro A k l' th s v1 v2 Q E a I r1 r2 post
 simp only [Rep] at r1 r2
 obtain ⟨t,vs,rfl,ht,hl⟩:=r1
 obtain ⟨u,rfl⟩:=r2
 obtain ⟨v,hv,r⟩:=hl.get hd
 obtain ⟨ob,n,ho,hc,hdt⟩:=ht
 have hT:IsTup s.heap t vs.toArray:=⟨ob,ho,hc,n,hdt⟩
 exact tail_any hT.typeIs slot_tuple_getitem.lookup (PyProof.Rows.getItem_tuple hT hlo hhi (by rw [List.size_toArray,hl.len];exact hj) (by simpa using hv) (pg0 (h':=s.heap) (tk:=s.toks) post I .refl r)) (hs _ _)
theorem sub_list {value slice:Expr} {m:Nat} {l:List D} {i:Int} (hm:sg[m]? = some (.list l)) (hs:∀o i,subscripted slice false o i = operate [o,i] (getItem o i)) (h0:0 ≤ i) (hhi:i < 2 ^ 63) (hd:l[i.toNat]? = some d):
  OpG C (subscriptTail value slice) (.obj m) (.int i) sg d sg:=by
 intro A k l' th s v1 v2 Q E a I r1 r2 post
 simp only [Rep] at r1 r2
 obtain ⟨t,ht,rfl⟩:=r1
 obtain ⟨u,rfl⟩:=r2
 obtain ⟨vs,n,ho,hl⟩:=I.cells m _ t hm ht
 obtain ⟨v,hv,r⟩:=hl.get hd
 have hL:s.heap.IsList t vs.toArray:=⟨_,ho,rfl,n,rfl⟩
 exact tail_any hL.typeIs slot_list_getitem.lookup (wpAny_getItem_list hL h0 hhi (by simpa using hv) (pg0 (h':=s.heap) (tk:=s.toks) post I .refl r)) (hs _ _)
theorem sub_str {value slice:Expr} {x:Str} {i:Int} {c:Nat} (hs:∀o i,subscripted slice false o i = operate [o,i] (getItem o i)) (hr:(decide (i < -(2 ^ 63:Int)) || decide (i ≥ 2 ^ 63)) = false) (hc:(seqIndex? i x.length).bind (x.cps[·]?) = some c):
  OpG C (subscriptTail value slice) (.str x) (.int i) sg (.str ⟨#[c]⟩) sg:=by
 intro A k l' th s v1 v2 Q E a I r1 r2 post
 simp only [Rep] at r1 r2
 obtain ⟨t,rfl⟩:=r1
 obtain ⟨u,rfl⟩:=r2
 exact tail_any (typeIs_str s x t) slot_str_getitem.lookup (PyProof.Rows.getItem_str hr hc (pg0 (h':=s.heap) post I .refl (by simp only [Rep];exact ⟨_,rfl⟩))) (hs _ _)
noncomputable def TP (C:Cx) (fi:FI) (k:Nat) (p:Option Expr) (ro:List (Str × D)) (sg:List Cell) (x:Option Int) (sg':List Cell):Prop:=
 ∀(A:Around) (outer:List Env) (h₀:Heap) (th₀ th:List Addr) (s:Shared) (Q E:Value → Shared → Prop),AOk A k (fi.env :: outer) → InF C fi outer h₀ th₀ th sg ro s.heap →
  (∀v h' tk tl,InF C fi outer h₀ th₀ (th ++ tl) sg' ro h' → Kp C th (fi.env :: outer) s.heap h' → (∀a ∈ tl,s.heap.get? a = none) → (∃t,v = partValue (x.map fun i=>(i,t))) → Q v { s with heap:=h',toks:=tk }) → wpAny (model C.prog C.w) A (evalPart p fi.env) Q E s
theorem TP.none:TP C fi k none ro sg none sg:=fun A outer h₀ th₀ th s Q E a I post=>wpAny_pure (post .none s.heap s.toks [] (by rw [List.append_nil];exact I) .refl (fun _ m=>nomatch m) ⟨0,rfl⟩)
theorem TP.some {e:Expr} {i:Int} (h1:TE C fi k e ro sg (some (.int i)) sg'):TP C fi k (some e) ro sg (some i) sg':=fun A outer h₀ th₀ th s Q E a I post=>h1 _ _ _ _ _ _ _ _ a I fun v h' tk tl J kp n r=>by
 simp only [Rep] at r
 obtain ⟨t,rfl⟩:=r
 exact post _ h' tk tl J kp n ⟨t,rfl⟩
noncomputable def cutList (l:List D) (lo hi:Option Int):List D:=(l.drop (lo.elim 0 (clipAt l.length))).take (hi.elim l.length (clipAt l.length) - lo.elim 0 (clipAt l.length))
theorem RepL.drop {l:List D} {vs:List Value} (r:RepL th h l vs):∀n,RepL th h (l.drop n) (vs.drop n):=by
 induction l generalizing vs with
 | nil=>intro n;simp only [RepL] at r;subst r;simp [RepL]
 | cons x l ih=>
  intro n
  cases n with
  | zero=>exact r
  | succ n=>
   simp only [RepL] at r
   obtain ⟨v,q,rfl,h1,h2⟩:=r
   exact ih h2 n
theorem RepL.takeN {l:List D} {vs:List Value} (r:RepL th h l vs):∀n,RepL th h (l.take n) (vs.take n):=by
 induction l generalizing vs with
 | nil=>intro n;simp only [RepL] at r;subst r;simp [RepL]
 | cons x l ih=>
  intro n
  cases n with
  | zero=>simp [RepL]
  | succ n=>
   simp only [RepL] at r
   obtain ⟨v,q,rfl,h1,h2⟩:=r
   simp only [List.take_succ_cons,RepL]
   exact ⟨v,_,rfl,h1,ih h2 n⟩
theorem RepL.append {l l2:List D} {vs vs2:List Value} (r:RepL th h l vs) (r2:RepL th h l2 vs2):RepL th h (l ++ l2) (vs ++ vs2):=by
 induction l generalizing vs with
 | nil=>simp only [RepL] at r;subst r;exact r2
 | cons x l ih=>
  simp only [RepL,List.cons_append] at r ⊢
  obtain ⟨v,q,rfl,h1,h2⟩:=r
  exact ⟨v,_,rfl,h1,ih h2⟩
theorem IsPart_of (x:Option Int) (t:Tok):IsPart (partValue (x.map fun i=>(i,t))) x:=by
 cases x with
 | none=>exact IsPart.none
 | some i=>exact IsPart.int i t
theorem TE.sliceList {value:Expr} {lower upper:Option Expr} {p pos:Pos} {m:Nat} {l:List D} {lo hi:Option Int} (h1:TE C fi k value ro sg (some (.obj m)) sg1) (h2:TP C fi k lower ro sg1 lo sg2) (h3:TP C fi k upper ro sg2 hi sg3) (hm:sg3[m]? = some (.list l)) (hz:l.length ≤ sizeLine)
  (ht:∀o r,letTemporaryGo value o r = pure ()):TE C fi k (.Subscript value (.Slice lower upper none p) pos) ro sg (some (.obj sg3.length)) (sg3 ++ [.list (cutList l lo hi)]):=by
 intro A outer h₀ th₀ th s Q E a I post
 refine wpAny_Subscript_list_slice (h1 _ _ _ _ _ _ _ _ a I fun v1 h1' tk1 tl1 J1 kp1 n1 r1=>h2 _ _ _ _ _ _ _ _ a J1 fun v2 h2' tk2 tl2 J2 kp2 n2 r2=>h3 _ _ _ _ _ _ _ _ a J2 fun v3 h3' tk3 tl3 J3 kp3 n3 r3=>?_) ht
 obtain ⟨t2,rfl⟩:=r2
 obtain ⟨t3,rfl⟩:=r3
 have r1':=(r1.step (tl:=tl2) J1.below kp2).step (tl:=tl3) J2.below kp3
 simp only [Rep] at r1'
 obtain ⟨la,hla,rfl⟩:=r1'
 obtain ⟨vs,n,ho,hl⟩:=J3.hi.cells m _ la hm hla
 have hL:h3'.IsList la vs.toArray:=⟨_,ho,rfl,n,rfl⟩
 have len:=J3.hi.len
 refine ⟨la,vs.toArray,lo,hi,rfl,hL,by rw [List.size_toArray,hl.len];exact hz,IsPart_of _ _,IsPart_of _ _,?_⟩
 have hp:(slicePick vs.toArray lo hi none) = ((vs.drop (lo.elim 0 (clipAt l.length))).take (hi.elim l.length (clipAt l.length) - lo.elim 0 (clipAt l.length))).toArray:=by
  rw [slicePick_plain,List.size_toArray,hl.len]
 rw [hp]
 show Q (.ref (h3'.objs.size + 1)) _
 have e0:h3'.objs.size + 1 = (h3'.push { cls:=.type "slice",data:=.fields #[partValue (lo.map fun i=>(i,t2)),partValue (hi.map fun i=>(i,t3)),.none] }).objs.size:=by rw [Heap.size_push]
 rw [e0]
 have J4:=J3.push { cls:=.type "slice",data:=.fields #[partValue (lo.map fun i=>(i,t2)),partValue (hi.map fun i=>(i,t3)),.none] }
 have J5:=J4.grow (h':=(h3'.push { cls:=.type "slice",data:=.fields #[partValue (lo.map fun i=>(i,t2)),partValue (hi.map fun i=>(i,t3)),.none] }).push { cls:=.type "list",data:=.seq ((vs.drop (lo.elim 0 (clipAt l.length))).take (hi.elim l.length (clipAt l.length) - lo.elim 0 (clipAt l.length))).toArray }) (c:=.list (cutList l lo hi)) new_none push_ext
  (listCell (Heap.get?_push_size _ rfl) (((hl.ext push_ext).drop _).takeN _) push_ext)
 rw [List.append_assoc,List.append_assoc,List.append_assoc] at J5
 have K23:=(kp1.trans n1 kp2).trans (fresh_app n1 kp1 n2) (by rw [←List.append_assoc];exact kp3)
 refine post _ _ tk3 _ J5 (K23.trans0 (.of_ext fun b o e=>push_ext b o (push_ext b o e))) ?_ ?_
 ·have f3:=fresh_app (fresh_app n1 kp1 n2) (kp1.trans n1 kp2) n3
  have f4:=fresh_app f3 K23 (tl':=[(h3'.push { cls:=.type "slice",data:=.fields #[partValue (lo.map fun i=>(i,t2)),partValue (hi.map fun i=>(i,t3)),.none] }).objs.size]) fun b m=>by
   rw [List.mem_singleton] at m;subst m
   exact Heap.get?_none_of_le (by rw [Heap.size_push];omega)
  rw [List.append_assoc,List.append_assoc] at f4
  exact f4
 ·simp only [Rep]
  refine ⟨_,?_,rfl⟩
  rw [←List.append_assoc,←List.append_assoc,←List.append_assoc,←len]
  simp
theorem sliceMade_str {x:Str} {t:Tok} {lo hi:Option Int} {t2 t3:Tok} {Q:Value → Shared → Prop} (hz:x.length ≤ sizeLine) (h:∀t' tk,Q (.str (Txt.slice x lo hi) t') { s with toks:=tk }):(sliceMade x t (lo.map fun i=>(i,t2)) (hi.map fun i=>(i,t3)) none).post Q s:=by
 have e:slicePicked x (lo.map fun i=>(i,t2)) (hi.map fun i=>(i,t3)) none = Builtin.Str.strSliceIndices lo hi 1 x.length:=by
  unfold slicePicked
  cases lo <;> cases hi <;> rfl
 have hl:=Txt.slice_le x lo hi
 unfold sliceMade
 rw [e]
 unfold Txt.slice at h hl
 simp only [Option.map_none,Option.getD_none] at h hl ⊢
 split
 ·rename_i q
  rw [if_pos q] at h
  exact h t s.toks
 ·rename_i q
  rw [if_neg q] at h hl
  exact ⟨Nat.le_trans hl hz,h _ _⟩
theorem TE.sliceStr {value:Expr} {lower upper:Option Expr} {p pos:Pos} {x:Str} {lo hi:Option Int} (h1:TE C fi k value ro sg (some (.str x)) sg1) (h2:TP C fi k lower ro sg1 lo sg2) (h3:TP C fi k upper ro sg2 hi sg3) (hz:x.length ≤ sizeLine)
  (ht:∀o r,letTemporaryGo value o r = pure ()):TE C fi k (.Subscript value (.Slice lower upper none p) pos) ro sg (some (.str (Txt.slice x lo hi))) sg3:=by
 intro A outer h₀ th₀ th s Q E a I post
 refine wpAny_Subscript_str_slice (h1 _ _ _ _ _ _ _ _ a I fun v1 h1' tk1 tl1 J1 kp1 n1 r1=>h2 _ _ _ _ _ _ _ _ a J1 fun v2 h2' tk2 tl2 J2 kp2 n2 r2=>h3 _ _ _ _ _ _ _ _ a J2 fun v3 h3' tk3 tl3 J3 kp3 n3 r3=>?_) ht
 obtain ⟨t2,rfl⟩:=r2
 obtain ⟨t3,rfl⟩:=r3
 simp only [Rep] at r1
 obtain ⟨t,rfl⟩:=r1
 refine ⟨x,t,_,_,rfl,rfl,rfl,sliceMade_str hz fun t' tk=>?_⟩
 have J4:=J3.push { cls:=.type "slice",data:=.fields #[partValue (lo.map fun i=>(i,t2)),partValue (hi.map fun i=>(i,t3)),.none] }
 rw [List.append_assoc,List.append_assoc] at J4
 have K23:=(kp1.trans n1 kp2).trans (fresh_app n1 kp1 n2) (by rw [←List.append_assoc];exact kp3)
 have f3:=fresh_app (fresh_app n1 kp1 n2) (kp1.trans n1 kp2) n3
 rw [List.append_assoc] at f3
 exact post _ _ tk _ J4 (K23.trans0 (.push _)) f3 (by simp only [Rep];exact ⟨_,rfl⟩)
end
section
variable {C:Cx} {fi:FI} {k:Nat} {outer fs:List Env} {h₀ h h' h'':Heap} {th₀ th tl tl':List Addr} {sg sg' sg1 sg2 sg3:List Cell} {ro ro' ro1 ro2:List (Str × D)} {s:Shared} {d d1 d2 d3:D} {o o':Out}
theorem rb {b:Bool}:Rep th h (.bool b) (.bool b):=by simp only [Rep]
theorem ri {i:Int} {t:Tok}:Rep th h (.int i) (.int i t):=by simp only [Rep];exact ⟨_,rfl⟩
theorem rs {x:Str} {t:Tok}:Rep th h (.str x) (.str x t):=by simp only [Rep];exact ⟨_,rfl⟩
noncomputable def D.isNone:D → Bool
 | .none=>true
 | _=>false
theorem Rep.none_eq {v:Value} (hd:d.handed = true) (r:Rep th h d v):(v == .none) = d.isNone:=by
 cases d <;> first | (simp only [Rep] at r;subst r;rfl) | (simp only [Rep] at r;obtain ⟨_,rfl⟩:=r;rfl) | (simp only [Rep] at r;obtain ⟨_,_,rfl,_⟩:=r;rfl) | (simp only [Rep] at r;obtain ⟨_,_,rfl⟩:=r;rfl) | cases hd
theorem op_is_none (hd:d.handed = true):OpOk C (compareOp .Is) d .none (.bool d.isNone):=by
 intro A k l th sg s v1 v2 Q E _ I r1 r2 post
 simp only [Rep] at r2;subst r2
 exact is_none_gen (by rw [r1.none_eq hd];exact post _ s.toks rb)
theorem op_isnot_none (hd:d.handed = true):OpOk C (compareOp .IsNot) d .none (.bool (!d.isNone)):=by
 intro A k l th sg s v1 v2 Q E _ I r1 r2 post
 simp only [Rep] at r2;subst r2
 exact isnot_none_gen (by rw [r1.none_eq hd];exact post _ s.toks rb)
theorem RepL.strs {ys:List Str} {vs:List Value} (r:RepL th h (ys.map .str) vs):StrsAre vs ys:=by
 induction ys generalizing vs with
 | nil=>simp only [List.map_nil,RepL] at r;subst r;exact .nil
 | cons y ys ih=>
  simp only [List.map_cons,RepL,Rep] at r
  obtain ⟨_,q,rfl,⟨t,rfl⟩,h2⟩:=r
  exact .cons y t (ih h2)
theorem op_in_tup {x:Str} {ys:List Str}:OpOk C (compareOp .In) (.str x) (.tup (ys.map .str)) (.bool (ys.any (· == x))):=by
 intro A k l th sg s v1 v2 Q E _ I r1 r2 post
 simp only [Rep] at r1 r2;obtain ⟨t,rfl⟩:=r1;obtain ⟨a,vs,rfl,⟨ob,n,ho,hc,hd⟩,hl⟩:=r2
 exact in_tuple_strs (items:=vs.toArray) ⟨ob,ho,hc,n,hd⟩ (by simpa using hl.strs) (post _ s.toks rb)
theorem op_notin_tup {x:Str} {ys:List Str}:OpOk C (compareOp .NotIn) (.str x) (.tup (ys.map .str)) (.bool (!(ys.any (· == x)))):=by
 intro A k l th sg s v1 v2 Q E _ I r1 r2 post
 simp only [Rep] at r1 r2;obtain ⟨t,rfl⟩:=r1;obtain ⟨a,vs,rfl,⟨ob,n,ho,hc,hd⟩,hl⟩:=r2
 exact notin_tuple_strs (items:=vs.toArray) ⟨ob,ho,hc,n,hd⟩ (by simpa using hl.strs) (post _ s.toks rb)
noncomputable def inStr (y x:Str):Bool:=!(Builtin.Str.occurrences x y 0 x.length 1).isEmpty
theorem op_in_str {x y:Str}:OpOk C (compareOp .In) (.str y) (.str x) (.bool (inStr y x)):=by
 intro A k l th sg s v1 v2 Q E _ I r1 r2 post
 simp only [Rep] at r1 r2;obtain ⟨t,rfl⟩:=r1;obtain ⟨u,rfl⟩:=r2
 exact PyProof.Rows.in_str (post _ s.toks rb)
theorem op_notin_str {x y:Str}:OpOk C (compareOp .NotIn) (.str y) (.str x) (.bool (!inStr y x)):=by
 intro A k l th sg s v1 v2 Q E _ I r1 r2 post
 simp only [Rep] at r1 r2;obtain ⟨t,rfl⟩:=r1;obtain ⟨u,rfl⟩:=r2
 exact PySem.P.notIn_str (post _ s.toks rb)
theorem op_le_str {x y:Str}:OpOk C (compareOp .LtE) (.str x) (.str y) (.bool (!decide (y.cps.toList < x.cps.toList))):=by
 intro A k l th sg s v1 v2 Q E _ I r1 r2 post
 simp only [Rep] at r1 r2;obtain ⟨t,rfl⟩:=r1;obtain ⟨u,rfl⟩:=r2
 exact PySem.P.le_str (post _ s.toks rb)
theorem op_ne_int {a b:Int}:OpOk C (compareOp .NotEq) (.int a) (.int b) (.bool (a != b)):=by
 intro A k l th sg s v1 v2 Q E _ I r1 r2 post
 simp only [Rep] at r1 r2;obtain ⟨t,rfl⟩:=r1;obtain ⟨u,rfl⟩:=r2
 exact PySem.P.ne_int (post _ s.toks rb)
theorem op_pow_int {a n:Int} (hn:0 ≤ n) (hn2:n ≤ 1000000) (ha:a.natAbs < 2 ^ 64):OpOk C (binaryOp .Pow) (.int a) (.int n) (.int (a ^ n.toNat)):=by
 intro A k l th sg s v1 v2 Q E _ I r1 r2 post
 simp only [Rep] at r1 r2;obtain ⟨t,rfl⟩:=r1;obtain ⟨u,rfl⟩:=r2
 exact pow_int_small hn hn2 ha (post _ _ ri)
theorem op_mul_str {x:Str} {n:Int} (hn:¬ n < 1) (hx:x.length = 1) (hb:n ≤ 1000):OpOk C (binaryOp .Mult) (.str x) (.int n) (.str (if n == 1 then x else ⟨(List.replicate n.toNat x.cps).foldl (· ++ ·) #[]⟩)):=by
 intro A k l th sg s v1 v2 Q E _ I r1 r2 post
 simp only [Rep] at r1 r2;obtain ⟨t,rfl⟩:=r1;obtain ⟨u,rfl⟩:=r2
 have hlen:(Str.length ⟨(List.replicate n.toNat x.cps).foldl (· ++ ·) #[]⟩) = n.toNat:=by
  have:∀(m:Nat) (acc:Array Nat),((List.replicate m x.cps).foldl (· ++ ·) acc).size = acc.size + m:=by
   intro m
   induction m with
   | zero=>intro acc;simp
   | succ m ih=>intro acc;rw [List.replicate_succ,List.foldl_cons,ih,Array.size_append,show x.cps.size = 1 from hx];omega
  show ((List.replicate n.toNat x.cps).foldl (· ++ ·) #[]).size = _
  rw [this];simp
 refine PySem.P.mul_str (by
   have h2:¬ n ≥ 2 ^ 63:=by omega
   have h1:¬ n < -(2 ^ 63:Int):=by omega
   rw [decide_eq_false h1,decide_eq_false h2];rfl) (fun _ _=>?_) (fun _ _=>?_) ?_
 ·rw [hx]
  have:(2 ^ 63 - 1:Int) / n ≥ 1:=by
   have hp:0 < n:=by omega
   exact (Int.le_ediv_iff_mul_le hp).mpr (by omega)
  omega
 ·unfold Builtin.Str.tooLong
  rw [hx]
  have:sizeLine = 16777216:=by decide
  exact decide_eq_false (by show ¬ _ > _;omega)
 ·rw [if_neg hn]
  have h0:(x.length == 0) = false:=by rw [hx];rfl
  rw [h0,Bool.or_false]
  by_cases q:(n == 1) = true
  ·rw [if_pos q] at post ⊢
   exact post _ s.toks rs
  ·rw [if_neg q] at post ⊢
   exact ⟨by rw [hlen];unfold sizeLine;omega,post _ _ rs⟩
theorem op_add_list {i j:Nat} {l l2:List D} (hi:sg[i]? = some (.list l)) (hj:sg[j]? = some (.list l2)) (hz:l.length + l2.length ≤ sizeLine):OpG C (binaryOp .Add) (.obj i) (.obj j) sg (.obj sg.length) (sg ++ [.list (l ++ l2)]):=by
 intro A k ls th s v1 v2 Q E _ I r1 r2 post
 simp only [Rep] at r1 r2;obtain ⟨a,ha,rfl⟩:=r1;obtain ⟨b,hb,rfl⟩:=r2
 obtain ⟨vs,n,ho,hl⟩:=I.cells i _ a hi ha
 obtain ⟨vs2,n2,ho2,hl2⟩:=I.cells j _ b hj hb
 refine PySem.P.add_list ho ho2 ?_ (by rw [List.size_toArray,List.size_toArray,hl.len,hl2.len];exact hz)
 rw [List.append_toArray]
 exact pg1 post I new_none push_ext (listCell (Heap.get?_push_size _ rfl) (hl.append hl2) push_ext)
mutual
noncomputable def D.py:D → Option PyData
 | .none=>some PyData.none
 | .bool b=>some (.bool b)
 | .int i=>some (.int i)
 | .str x=>some (.str x)
 | .tup l=>(D.pys l).map .tuple
 | _=>Option.none
noncomputable def D.pys:List D → Option (List PyData)
 | []=>some []
 | d :: l=>do let x ←D.py d;let y ←D.pys l;pure (x :: y)
end
mutual
theorem Rep.reads:∀{d:D} {v:Value} {p:PyData},d.py = some p → Rep th h d v → ∃as,Reads h v p as
 | .none,_,_,e,r=>by simp only [D.py,Option.some.injEq] at e;subst e;simp only [Rep] at r;subst r;exact ⟨_,.none⟩
 | .bool b,_,_,e,r=>by simp only [D.py,Option.some.injEq] at e;subst e;simp only [Rep] at r;subst r;exact ⟨_,.bool b⟩
 | .int i,_,_,e,r=>by simp only [D.py,Option.some.injEq] at e;subst e;simp only [Rep] at r;obtain ⟨t,rfl⟩:=r;exact ⟨_,.int i t⟩
 | .str x,_,_,e,r=>by simp only [D.py,Option.some.injEq] at e;subst e;simp only [Rep] at r;obtain ⟨t,rfl⟩:=r;exact ⟨_,.str x t⟩
 | .tup l,_,_,e,r=>by
  simp only [D.py,Option.map_eq_some_iff] at e
  obtain ⟨xs,hx,rfl⟩:=e
  simp only [Rep] at r
  obtain ⟨a,vs,rfl,⟨ob,n,ho,hc,hd⟩,hl⟩:=r
  obtain ⟨as,ha⟩:=RepL.reads hx hl
  exact ⟨as,.tuple ho hc hd (by simpa using ha)⟩
 | .obj _,_,_,e,_=>by simp [D.py] at e
 | .val _,_,_,e,_=>by simp [D.py] at e
 | .aref,_,_,e,_=>by simp [D.py] at e
 | .any,_,_,e,_=>by simp [D.py] at e
theorem RepL.reads:∀{l:List D} {vs:List Value} {p:List PyData},D.pys l = some p → RepL th h l vs → ∃as,ReadsAll h vs p as
 | [],_,_,e,r=>by simp only [D.pys,Option.some.injEq] at e;subst e;simp only [RepL] at r;subst r;exact ⟨_,.nil⟩
 | d :: l,_,_,e,r=>by
  simp only [D.pys,Option.bind_eq_bind,Option.bind_eq_some_iff,Option.pure_def,Option.some.injEq] at e
  obtain ⟨x,hx,y,hy,rfl⟩:=e
  simp only [RepL] at r
  obtain ⟨v,q,rfl,h1,h2⟩:=r
  obtain ⟨as,ha⟩:=Rep.reads hx h1
  obtain ⟨bs,hb⟩:=RepL.reads hy h2
  exact ⟨_,.cons ha hb⟩
end
theorem op_eq_deep {p q:PyData} (h1:d1.py = some p) (h2:d2.py = some q) (hp:p.canLay0 = true) (hq:q.canLay0 = true) (hz:min p.depth q.depth ≤ 20):OpOk C (compareOp .Eq) d1 d2 (.bool (p.eqv q)):=by
 intro A k l th sg s v1 v2 Q E a I r1 r2 post
 obtain ⟨as,ra⟩:=r1.reads h1
 obtain ⟨bs,rb'⟩:=r2.reads h2
 have:=a.units
 exact PySem.SeqAt.compareEq_reads ra rb' hp hq (by omega) (post _ s.toks rb)
theorem op_ne_deep {p q:PyData} (h1:d1.py = some p) (h2:d2.py = some q) (hp:p.canLay0 = true) (hq:q.canLay0 = true) (hz:min p.depth q.depth ≤ 20):OpOk C (compareOp .NotEq) d1 d2 (.bool (!p.eqv q)):=by
 intro A k l th sg s v1 v2 Q E a I r1 r2 post
 obtain ⟨as,ra⟩:=r1.reads h1
 obtain ⟨bs,rb'⟩:=r2.reads h2
 have:=a.units
 exact PySem.SeqAt.compareNe_reads ra rb' hp hq (by omega) (post _ s.toks rb)
theorem HI.listReads {l:List Env} (I:HI C th sg l h) {i:Nat} {a:Addr} {ds:List D} {ps:List PyData} (hi:sg[i]? = some (.list ds)) (ha:th[i]? = some a) (hp:D.pys ds = some ps):∃as,Reads h (.ref a) (.list ps) as:=by
 obtain ⟨vs,n,ho,hl⟩:=I.cells i _ a hi ha
 obtain ⟨as,hr⟩:=hl.reads hp
 exact ⟨_,.list ho rfl rfl (by simpa using hr)⟩
theorem op_eq_list {i j:Nat} {l l2:List D} {p q:List PyData} (hi:sg[i]? = some (.list l)) (hj:sg[j]? = some (.list l2)) (h1:D.pys l = some p) (h2:D.pys l2 = some q) (hp:(PyData.list p).canLay0 = true) (hq:(PyData.list q).canLay0 = true) (hz:min (PyData.list p).depth (PyData.list q).depth ≤ 20):
  OpG C (compareOp .Eq) (.obj i) (.obj j) sg (.bool ((PyData.list p).eqv (.list q))) sg:=by
 intro A k ls th s v1 v2 Q E a I r1 r2 post
 simp only [Rep] at r1 r2;obtain ⟨x,hx,rfl⟩:=r1;obtain ⟨y,hy,rfl⟩:=r2
 obtain ⟨as,ra⟩:=I.listReads hi hx h1
 obtain ⟨bs,rb'⟩:=I.listReads hj hy h2
 have:=a.units
 exact PySem.SeqAt.compareEq_reads ra rb' hp hq (by omega) (pg0 (h':=s.heap) (tk:=s.toks) post I .refl rb)
theorem op_ne_list {i j:Nat} {l l2:List D} {p q:List PyData} (hi:sg[i]? = some (.list l)) (hj:sg[j]? = some (.list l2)) (h1:D.pys l = some p) (h2:D.pys l2 = some q) (hp:(PyData.list p).canLay0 = true) (hq:(PyData.list q).canLay0 = true) (hz:min (PyData.list p).depth (PyData.list q).depth ≤ 20):
  OpG C (compareOp .NotEq) (.obj i) (.obj j) sg (.bool (!(PyData.list p).eqv (.list q))) sg:=by
 intro A k ls th s v1 v2 Q E a I r1 r2 post
 simp only [Rep] at r1 r2;obtain ⟨x,hx,rfl⟩:=r1;obtain ⟨y,hy,rfl⟩:=r2
 obtain ⟨as,ra⟩:=I.listReads hi hx h1
 obtain ⟨bs,rb'⟩:=I.listReads hj hy h2
 have:=a.units
 exact PySem.SeqAt.compareNe_reads ra rb' hp hq (by omega) (pg0 (h':=s.heap) (tk:=s.toks) post I .refl rb)
end
section
variable {C:Cx} {fi:FI} {k:Nat} {outer fs:List Env} {h₀ h h' h'':Heap} {th₀ th tl tl':List Addr} {sg sg' sg1 sg2 sg3:List Cell} {ro ro' ro1 ro2:List (Str × D)} {s:Shared} {d d1 d2 d3:D} {o o':Out}
theorem repL1 {vs:List Value} (r:RepL th h [d] vs):∃v,vs = [v] ∧ Rep th h d v:=by
 simp only [RepL] at r
 obtain ⟨v,_,rfl,r1,rfl⟩:=r
 exact ⟨v,rfl,r1⟩
theorem repL2 {vs:List Value} (r:RepL th h [d,d2] vs):∃v w,vs = [v,w] ∧ Rep th h d v ∧ Rep th h d2 w:=by
 simp only [RepL] at r
 obtain ⟨v,_,rfl,r1,w,_,rfl,r2,rfl⟩:=r
 exact ⟨v,w,rfl,r1,r2⟩
theorem repL3 {vs:List Value} (r:RepL th h [d,d2,d3] vs):∃v w x,vs = [v,w,x] ∧ Rep th h d v ∧ Rep th h d2 w ∧ Rep th h d3 x:=by
 simp only [RepL] at r
 obtain ⟨v,_,rfl,r1,w,_,rfl,r2,x,_,rfl,r3,rfl⟩:=r
 exact ⟨v,w,x,rfl,r1,r2,r3⟩
theorem call_len_l {i:Nat} {l:List D} (hi:sg[i]? = some (.list l)) (hz:l.length ≤ sizeLine):CallOk C k (.builtin "len") [.obj i] sg (some (.int l.length)) sg:=by
 intro A ls th s vs Q E a I R post
 obtain ⟨v,rfl,r⟩:=repL1 R
 simp only [Rep] at r;obtain ⟨x,hx,rfl⟩:=r
 obtain ⟨vs,n,ho,hl⟩:=I.cells i _ x hi hx
 have e:vs.toArray.size = l.length:=by rw [List.size_toArray,hl.len]
 have:sizeLine = 16777216:=by decide
 refine call_len_list (items:=vs.toArray) ⟨_,ho,rfl,n,rfl⟩ (by rw [e];omega) ?_
 exact pg0 (h':=s.heap) post I .refl (by rw [e];exact ri)
theorem call_len_s {x:Str} (hz:x.length ≤ sizeLine):CallOk C k (.builtin "len") [.str x] sg (some (.int x.length)) sg:=by
 intro A ls th s vs Q E a I R post
 obtain ⟨v,rfl,r⟩:=repL1 R
 simp only [Rep] at r;obtain ⟨t,rfl⟩:=r
 have:sizeLine = 16777216:=by decide
 exact PySem.P.len_str (by omega) (pg0 (h':=s.heap) post I .refl ri)
theorem call_abs {i:Int}:CallOk C k (.builtin "abs") [.int i] sg (some (.int (if i < 0 then -i else i))) sg:=by
 intro A ls th s vs Q E a I R post
 obtain ⟨v,rfl,r⟩:=repL1 R
 simp only [Rep] at r;obtain ⟨t,rfl⟩:=r
 exact call_abs_int fun u tk=>pg0 (h':=s.heap) post I .refl ri
theorem call_min2 {i j:Int}:CallOk C k (.builtin "min") [.int i,.int j] sg (some (.int (if j < i then j else i))) sg:=by
 intro A ls th s vs Q E a I R post
 obtain ⟨v,w,rfl,r,r2⟩:=repL2 R
 simp only [Rep] at r r2;obtain ⟨t,rfl⟩:=r;obtain ⟨u,rfl⟩:=r2
 refine min_two_ints a.hd fun h' tk kp=>?_
 by_cases q:j < i
 ·simp only [q,if_true] at post ⊢
  exact pg0 post (I.ext kp) (.of_ext kp) ri
 ·simp only [q,if_false] at post ⊢
  exact pg0 post (I.ext kp) (.of_ext kp) ri
theorem RepL.ints {ns:List Int} {vs:List Value} (r:RepL th h (ns.map .int) vs):∃xs:Array (Int × Tok),vs.toArray = intItems xs ∧ xs.toList.map (·.1) = ns:=by
 induction ns generalizing vs with
 | nil=>simp only [List.map_nil,RepL] at r;subst r;exact ⟨#[],by simp [intItems],rfl⟩
 | cons y ys ih=>
  simp only [List.map_cons,RepL,Rep] at r
  obtain ⟨_,q,rfl,⟨t,rfl⟩,h2⟩:=r
  obtain ⟨xs,e1,e2⟩:=ih h2
  refine ⟨((y,t) :: xs.toList).toArray,?_,by simp [e2]⟩
  unfold intItems at e1 ⊢
  have:q = xs.toList.map (fun p=>Value.int p.1 p.2):=by simpa using congrArg Array.toList e1
  subst this
  simp
theorem call_sum {i:Nat} {ns:List Int} (hi:sg[i]? = some (.list (ns.map .int))):∃n:Int,CallOk C k (.builtin "sum") [.obj i] sg (some (.int n)) sg:=by
 refine ⟨preSum (fun i=>ns.getD i 0) ns.length,?_⟩
 intro A ls th s vs Q E a I R post
 obtain ⟨v,rfl,r⟩:=repL1 R
 simp only [Rep] at r;obtain ⟨x,hx,rfl⟩:=r
 obtain ⟨vs,n,ho,hl⟩:=I.cells i _ x hi hx
 obtain ⟨xs,e1,e2⟩:=hl.ints
 refine sum_intListG (xs:=xs) a.hd ⟨_,ho,rfl,n,by rw [e1]⟩ fun h' tk t' kp=>?_
 have e3:preSum (numAt xs) xs.size = preSum (fun i=>ns.getD i 0) ns.length:=by
  have:xs.size = ns.length:=by rw [←e2];simp
  rw [this]
  congr 1
  funext j
  subst e2
  unfold numAt
  simp [List.getD]
 rw [e3]
 exact pg0 post (I.ext kp) (.of_ext kp) ri
theorem call_list_l {i:Nat} {l:List D} (hi:sg[i]? = some (.list l)) (hz:l.length ≤ sizeLine):CallOk C k (.type "list") [.obj i] sg (some (.obj sg.length)) (sg ++ [.list l]):=by
 intro A ls th s vs Q E a I R post
 obtain ⟨v,rfl,r⟩:=repL1 R
 simp only [Rep] at r;obtain ⟨x,hx,rfl⟩:=r
 obtain ⟨vs,n,ho,hl⟩:=I.cells i _ x hi hx
 refine call_list_seq x (items:=vs.toArray) (.inl rfl) ho rfl rfl (fun h' c' kp hn=>?_) (by rw [List.size_toArray,hl.len];exact hz)
 exact pg1 post I new_none kp (listCell hn hl kp)
theorem call_list_t {l:List D} (hz:l.length ≤ sizeLine):CallOk C k (.type "list") [.tup l] sg (some (.obj sg.length)) (sg ++ [.list l]):=by
 intro A ls th s vs Q E a I R post
 obtain ⟨v,rfl,r⟩:=repL1 R
 simp only [Rep] at r;obtain ⟨x,vs,rfl,⟨ob,n,ho,hc,hd⟩,hl⟩:=r
 refine call_list_seq x (items:=vs.toArray) (.inr rfl) ho hc hd (fun h' c' kp hn=>?_) (by rw [List.size_toArray,hl.len];exact hz)
 exact pg1 post I new_none kp (listCell hn hl kp)
theorem call_tuple_l {i:Nat} {l:List D} (hi:sg[i]? = some (.list l)) (hz:l.length ≤ sizeLine):CallOk C k (.type "tuple") [.obj i] sg (some (.tup l)) sg:=by
 intro A ls th s vs Q E a I R post
 obtain ⟨v,rfl,r⟩:=repL1 R
 simp only [Rep] at r;obtain ⟨x,hx,rfl⟩:=r
 obtain ⟨vs,n,ho,hl⟩:=I.cells i _ x hi hx
 refine call_tuple_list (items:=vs.toArray) ⟨_,ho,rfl,n,rfl⟩ (fun h' kp=>?_) (by rw [List.size_toArray,hl.len];exact hz)
 have kp2:∀b o,s.heap.get? b = some o → (h'.push { cls:=.type "tuple",data:=.seq vs.toArray }).get? b = some o:=fun b o e=>push_ext b o (kp b o e)
 refine pg0 post (I.ext kp2) (.of_ext kp2) ?_
 simp only [Rep]
 exact ⟨_,vs,rfl,tup_push,hl.ext kp2⟩
theorem call_range {x y:Int}:CallOk C k (.type "range") [.int x,.int y] sg (some (.obj sg.length)) (sg ++ [.range x y]):=by
 intro A ls th s vs Q E a I R post
 obtain ⟨v,w,rfl,r,r2⟩:=repL2 R
 simp only [Rep] at r r2;obtain ⟨t,rfl⟩:=r;obtain ⟨u,rfl⟩:=r2
 exact call_range_2 (pg1 post I new_none push_ext ⟨t,u,_,Heap.get?_push_size _ rfl⟩)
theorem call_enum {i:Nat} {l:List D} (hi:sg[i]? = some (.list l)):CallOk C k (.type "enumerate") [.obj i] sg (some (.obj (sg.length + 1))) (sg ++ [.liter i 0,.enum sg.length 0]):=by
 intro A ls th s vs Q E a I R post
 obtain ⟨v,rfl,r⟩:=repL1 R
 simp only [Rep] at r;obtain ⟨x,hx,rfl⟩:=r
 obtain ⟨vs,n,ho,hl⟩:=I.cells i _ x hi hx
 refine call_enumerate_list (items:=vs.toArray) ⟨_,ho,rfl,n,rfl⟩ fun h' he hit hz kp=>?_
 have none1:s.heap.get? (s.heap.objs.size + 1) = none:=Heap.get?_none_of_le (Nat.le_succ _)
 have len:=I.len
 have I1:HI C (th ++ [s.heap.objs.size]) (sg ++ [.liter i 0]) ls h':=I.grow (c:=.liter i 0) new_none kp ⟨x,keep_at hx,hit⟩
 have I2:=I1.more (a:=s.heap.objs.size + 1) (c:=.enum sg.length 0) (fun m=>by
   rcases List.mem_append.mp m with m | m
   ·obtain ⟨_,_,_,_,z⟩:=I.cellAt m
    obtain ⟨o,e,_⟩:=z.get
    rw [none1] at e;cases e
   ·rw [List.mem_singleton] at m;exact absurd m (Nat.succ_ne_self _)) (I.fresh none1) (fun env hen q=>by
   obtain ⟨L,o,es,n,p,_,_,e,_⟩:=(I.fr env hen).at_
   rw [q] at p;cases p
   rw [none1] at e;cases e) ⟨s.heap.objs.size,.none,by rw [←len];simp,he⟩
 rw [List.append_assoc,List.append_assoc] at I2
 refine post _ h' s.toks [s.heap.objs.size,s.heap.objs.size + 1] I2 (.of_ext kp) (fun b m=>?_) ?_
 ·simp only [List.mem_cons,List.not_mem_nil,or_false] at m
  rcases m with rfl | rfl
  ·exact new_none
  ·exact none1
 ·simp only [Rep]
  exact ⟨_,by rw [←len];simp,rfl⟩
theorem call_str_i {i:Int} (hz:i.natAbs.log2 < 1920):CallOk C k (.type "str") [.int i] sg (some (.str (Str.ofString (toString i)))) sg:=by
 intro A ls th s vs Q E a I R post
 obtain ⟨v,rfl,r⟩:=repL1 R
 simp only [Rep] at r;obtain ⟨t,rfl⟩:=r
 exact PySem.P.str_of_int hz (pg0 (h':=s.heap) post I .refl rs)
theorem hi_turn {l:List Env} {Q:Value → Shared → Prop} {i:Nat} {c:Cell} {x:Addr} (post:∀v h' tk tl,HI C (th ++ tl) (sg.set i c) l h' → Kp C th l s.heap h' → (∀a ∈ tl,s.heap.get? a = none) → Rep (th ++ tl) h' d v → Q v { s with heap:=h',toks:=tk })
  {v:Value} {tk:Tok} (I:HI C th sg l s.heap) (hx:th[i]? = some x) (kp:∀b o,b ≠ x → s.heap.get? b = some o → h'.get? b = some o) (z:CellOk C.w.params th h' x c) (r:Rep th h' d v):Q v { s with heap:=h',toks:=tk }:=
 pg0 post (I.turn hx kp z) (.turn (List.mem_of_getElem? hx) I kp (let ⟨o,e,_⟩:=z.get;⟨o,e⟩)) r
theorem call_append {i:Nat} {l:List D} (hi:sg[i]? = some (.list l)) (hz:l.length ≤ sizeLine):CallOk C k (.builtin "list.append") [.obj i,d] sg (some .none) (sg.set i (.list (l ++ [d]))):=by
 intro A ls th s vs Q E a I R post
 obtain ⟨v,w,rfl,r,r2⟩:=repL2 R
 simp only [Rep] at r;obtain ⟨x,hx,rfl⟩:=r
 obtain ⟨vs,n,ho,hl⟩:=I.cells i _ x hi hx
 refine call_meets F.slot_list_append ⟨_,ho,rfl⟩ F.entry_list_append (F.args_list_append_2 _ _) (AutoListH.list_append_list_val_0 x vs.toArray n w (by rw [List.size_toArray,hl.len];exact hz)) ⟨ho,?_⟩
 have kp:∀b o,b ≠ x → s.heap.get? b = some o → (s.heap.update x (Obj.mapSeq fun xs=>xs.push w)).get? b = some o:=fun b o n e=>upd_other b o n e
 have mem:=List.mem_of_getElem? hx
 refine hi_turn (d:=.none) (tk:=s.toks) post I hx kp ⟨vs ++ [w],n + 1,?_,(I.repL mem kp hl).append ?_⟩ (by simp only [Rep])
 ·rw [Heap.get?_update_self _ ho rfl]
  simp [Obj.mapSeq]
 ·simp only [RepL]
  exact ⟨w,[],rfl,I.rep mem kp r2,rfl⟩
theorem call_pop {i:Nat} {l:List D} (hi:sg[i]? = some (.list (l ++ [d]))) (hz:l.length < sizeLine):CallOk C k (.builtin "list.pop") [.obj i] sg (some d) (sg.set i (.list l)):=by
 intro A ls th s vs Q E a I R post
 obtain ⟨v,rfl,r⟩:=repL1 R
 simp only [Rep] at r;obtain ⟨x,hx,rfl⟩:=r
 obtain ⟨vs,n,ho,hl⟩:=I.cells i _ x hi hx
 have len:vs.length = l.length + 1:=by rw [hl.len];simp
 obtain ⟨w,hw,rw'⟩:=hl.get (i:=l.length) (d:=d) (by simp)
 have hlt:l.length < vs.length:=by omega
 have e1:vs = vs.take l.length ++ [w]:=by
  have:=List.take_append_drop l.length vs
  rw [List.drop_eq_getElem_cons hlt,List.drop_of_length_le (by omega)] at this
  rw [List.getElem?_eq_getElem hlt] at hw
  cases hw
  exact this.symm
 have hl2:=hl.takeN l.length
 rw [List.take_left' rfl] at hl2
 refine call_meets F.slot_list_pop ⟨_,ho,rfl⟩ F.entry_list_pop (F.args_list_pop_1 _) (PySem.MeetsSeq.list_pop_last x vs.toArray n w (by simpa [len] using hw) (by rw [List.size_toArray];omega)) ⟨ho,?_⟩
 have kp:∀b o,b ≠ x → s.heap.get? b = some o → (s.heap.update x (Obj.mapSeq fun xs=>xs.eraseIdxIfInBounds (vs.toArray.size - 1))).get? b = some o:=fun b o n e=>upd_other b o n e
 have mem:=List.mem_of_getElem? hx
 refine hi_turn (tk:=s.toks) post I hx kp ⟨vs.take l.length,n + 1,?_,I.repL mem kp hl2⟩ (I.rep mem kp rw')
 rw [Heap.get?_update_self _ ho rfl]
 have e2:vs.toArray.eraseIdxIfInBounds (vs.toArray.size - 1) = (vs.take l.length).toArray:=by
  apply Array.toList_inj.mp
  rw [List.size_toArray,len]
  simp only [Nat.add_sub_cancel]
  unfold Array.eraseIdxIfInBounds
  rw [dif_pos (by rw [List.size_toArray];exact hlt)]
  rw [Array.toList_eraseIdx]
  simp only
  rw [List.eraseIdx_eq_take_drop_succ,List.drop_of_length_le (by omega),List.append_nil]
 have e3:((vs.take l.length).toArray.size == vs.toArray.size) = false:=by
  rw [List.size_toArray,List.size_toArray,List.length_take,len]
  simp
 simp only [Obj.mapSeq,e2]
 rw [e3]
 rfl
theorem call_join {x:Str} {i:Nat} {ys:List Str} (hi:sg[i]? = some (.list (ys.map .str))) (hok:(ys.map (·.length)).sum + ys.length * x.length ≤ 16777216):CallOk C k (.builtin "str.join") [.str x,.obj i] sg (some (.str (Txt.join x ys))) sg:=by
 intro A ls th s vs Q E a I R post
 obtain ⟨v,w,rfl,r,r2⟩:=repL2 R
 simp only [Rep] at r r2;obtain ⟨t,rfl⟩:=r
 obtain ⟨x,hx,rfl⟩:=r2
 obtain ⟨vs,n,ho,hl⟩:=I.cells i _ x hi hx
 exact join_list (items:=vs.toArray) ⟨_,ho,rfl,n,rfl⟩ (by simpa using hl.strs) hok fun t' tk=>pg0 (h':=s.heap) post I .refl rs
theorem strsFrom_rep {ps:List Str}:∀{t:Nat},RepL th h (ps.map .str) (strsFrom t ps):=by
 induction ps with
 | nil=>intro t;simp [RepL,strsFrom]
 | cons p ps ih=>
  intro t
  simp only [List.map_cons,strsFrom,RepL,Rep]
  exact ⟨_,_,rfl,⟨_,rfl⟩,ih⟩
noncomputable def splitAt' (x y:Str):List Str:=Builtin.Str.partsBetween x (Builtin.Str.occurrences x y 0 x.length (x.length + 1)) y.length
theorem call_split {x y:Str} {ps:List Str} (h1:(decide (x.length < y.length) || decide (Builtin.Str.strKind x < Builtin.Str.strKind y)) = false) (hy:(y.length == 0) = false) (hf:(Builtin.Str.occurrences x y 0 x.length (x.length + 1)).isEmpty = false)
  (hx:x.length ≤ sizeLine) (hp:Builtin.Str.partsBetween x (Builtin.Str.occurrences x y 0 x.length (x.length + 1)) y.length = ps) (hz:ps.length ≤ sizeLine):CallOk C k (.builtin "str.split") [.str x,.str y] sg (some (.obj sg.length)) (sg ++ [.list (ps.map .str)]):=by
 subst hp
 intro A ls th s vs Q E a I R post
 obtain ⟨v,w,rfl,r,r2⟩:=repL2 R
 simp only [Rep] at r r2;obtain ⟨t,rfl⟩:=r;obtain ⟨u,rfl⟩:=r2
 refine call_meets F.slot_str_split (typeIs_str _ _ _) F.entry_str_split (F.args_str_split_2 _ _) (PySem.meets_str_split_sep x y t u h1 hy hf hx hz) ?_
 exact pg1 post I new_none push_ext ⟨_,0,Heap.get?_push_size _ rfl,strsFrom_rep⟩
theorem call_split1 {x y:Str} (h1:(decide (x.length < y.length) || decide (Builtin.Str.strKind x < Builtin.Str.strKind y)) = false) (hy:(y.length == 0) = false) (hf:(Builtin.Str.occurrences x y 0 x.length (x.length + 1)).isEmpty = true):CallOk C k (.builtin "str.split") [.str x,.str y] sg (some (.obj sg.length)) (sg ++ [.list [.str x]]):=by
 intro A ls th s vs Q E a I R post
 obtain ⟨v,w,rfl,r,r2⟩:=repL2 R
 simp only [Rep] at r r2;obtain ⟨t,rfl⟩:=r;obtain ⟨u,rfl⟩:=r2
 refine call_meets F.slot_str_split (typeIs_str _ _ _) F.entry_str_split (F.args_str_split_2 _ _) (meets_str_split_not_found x y t u h1 hy hf) ?_
 refine pg1 post I new_none push_ext ⟨[.str x t],0,Heap.get?_push_size _ rfl,?_⟩
 simp only [RepL,Rep]
 exact ⟨_,_,rfl,⟨_,rfl⟩,rfl⟩
theorem call_index {x y:Str} {i:Nat} {rest:List Nat} (ho:Builtin.Str.occurrences x y 0 x.length 1 = i :: rest):CallOk C k (.builtin "str.index") [.str x,.str y] sg (some (.int i)) sg:=by
 intro A ls th s vs Q E a I R post
 obtain ⟨v,w,rfl,r,r2⟩:=repL2 R
 simp only [Rep] at r r2;obtain ⟨t,rfl⟩:=r;obtain ⟨u,rfl⟩:=r2
 exact call_gives F.slot_str_index (typeIs_str _ _ _) F.entry_str_index (F.args_str_index_2 _ _) (gives_str_index x y t u i rest ho) (pg0 (h':=s.heap) post I .refl ri)
end
section
variable {prog:Program} {w:World} {A:Around} {E:Value → Shared → Prop} {s:Shared} {K:Frag} {x Cc dx:Addr} {R:Result → Shared → Prop}
theorem osa_raw {ox:Obj} {name:Str} {tk:Tok} {v:Value} {es:List DictEntry} {n:Nat} (X:K.In s.heap)
  (I:InstAt s.heap x ox Cc (some (dictOf es n))) (hd:ox.dict = some dx) (hp:plainOver K Cc = true) (ht:takerIn K Cc name = some none) (hh:hasDictIn K Cc = true)
  (hl:(getL name es).isSome = true) (D:s.heap.get? dx = some (dictOf es n)) (hz:es.length ≤ 900)
  (h:∀h',(∀b o,b ≠ dx → s.heap.get? b = some o → h'.get? b = some o) → h'.get? dx = some (dictOf (putL name (PyData.keyHash w.params name) (.str name s.toks) v es) (putN name es n)) → R (.ok (.ret .none)) { s with heap:=h',toks:=s.toks + 1 }):
  codeAny (model prog w) A (.call (.builtin "object.__setattr__") ⟨[.ref x,.str name tk,v],[]⟩) R s:=by
 refine osa_open X I hp ht fun b=>?_
 obtain ⟨cd,hc,hd'⟩:=any_some hh
 have k1:∀b o,b ≠ dx → s.heap.get? b = some o → (s.heap.update dx (Obj.putName name (PyData.keyHash w.params name) (.str name s.toks) v)).get? b = some o:=fun b o n e=>(Heap.get?_update_other _ _ (Ne.symm n)).trans e
 have D':(s.heap.update dx (Obj.putName name (PyData.keyHash w.params name) (.str name s.toks) v)).get? dx = some (dictOf (putL name (PyData.keyHash w.params name) (.str name s.toks) v es) (putN name es n)):=by
  rw [Heap.get?_update_self _ D (by rw [putName_dict];rfl),putName_dict]
 have hlen:(putL name (PyData.keyHash w.params name) (.str name s.toks) v es).length ≤ es.length + 1:=by
  clear D' k1 h D hl I hz
  induction es with
  | nil=>simp [putL]
  | cons e r ih=>simp only [putL];split <;> simp only [List.length_cons] <;> omega
 obtain ⟨hx,hcl,hn,-⟩:=I
 obtain ⟨oc,odi,oda,osl⟩:=ox
 dsimp only at hcl hd
 subst hcl hd
 refine wpAny_bind (wpAny_pure (wpAny_bind (wpAny_bind (wpAny_loadPart hx (wpAny_bind ((looks_clsIn X hc).here ?_))))))
 rw [hd']
 refine wpAny_pure (a:=some dx) (wpAny_bind (wpAny_pure (wpAny_bind ?_)))
 unfold nsSet
 refine wpAny_bind (wpAny_bind (wpAny_askSetting (wpAny_pure (wpAny_bind (wpAny_mkText (wpAny_bind (wpAny_loadPart D ?_)))))))
 have c:(!es.toArray.any (·.key.isStr name) && es.toArray.any (·.refKey)) = false:=by
  rw [←Array.any_toList,←Array.any_toList]
  unfold getL at hl
  split at hl
  ·rename_i en he
   rw [List.any_eq_true.mpr ⟨en,List.mem_of_find?_eq_some he,List.find?_some he⟩];rfl
  ·split at hl
   ·cases hl
   ·rename_i z;rw [Bool.not_eq_true] at z;rw [z,Bool.and_false]
 dsimp only [dictOf]
 rw [aRefKeyMayBeTheName_at,c]
 refine wpAny_updatePart D ?_
 refine wpAny_bind (wpAny_lookBehind D' (by
  show (Data.dict _ _).pastItsLine = none
  exact pastItsLine_dict (by rw [List.size_toArray,sizeLine_eq];omega)) ?_)
 exact wpAny_pure (h _ k1 D')
end
section
variable {prog:Program} {w:World} {A:Around} {E:Value → Shared → Prop} {s:Shared}
theorem setItem_list {l:Addr} {items:Array Value} {n:Nat} {k:Int} {t:Tok} {v:Value} {Q:Unit → Shared → Prop} (ho:s.heap.get? l = some { cls:=.type "list",dict:=none,data:=.seq items n,slots:=#[] })
  (h0:0 ≤ k) (hfit:k < 2 ^ 63) (hn:k < items.size) (hQ:∀h' n',h'.get? l = some { cls:=.type "list",dict:=none,data:=.seq (items.setIfInBounds k.toNat v) n',slots:=#[] } → Heap.SameBut l s.heap h' → Q () { s with heap:=h' }):
  wpAny (model prog w) A (setItem (.ref l) (.int k t) v) Q E s:=by
 have hl:s.heap.IsList l items:=⟨_,ho,rfl,n,rfl⟩
 unfold setItem
 try with_reducible refine wpAny_holding ?_
 first | refine wpAny_bind (wpAny_pure ?_) | skip
 refine wpAny_bind (wpAny_sequenceKey hl.typeIs (by decide) ?_)
 refine wpAny_bind (wpAny_callSpecial?_slot (name:=Str.ofString "__setitem__") hl.typeIs slot_list_setitem
  (wpAny_call_entry slot_list_setitem hl.typeIs entry_list_setitem ?_ (args_list_setitem _ _ _)))
 show wpAny _ _ (Builtin.List.listSubscript? (.int k t) >>= _) _ _ s
 refine wpAny_bind (wpAny_listSubscript_int (fitsIndex_of h0 hfit) ?_)
 clear hfit
 obtain ⟨j,rfl⟩:=Int.eq_ofNat_of_zero_le h0
 have hj:j < items.size:=by omega
 have hx':items[j]? = some items[j]:=Array.getElem?_eq_getElem hj
 show wpAny _ _ ((seqItemAt l j >>= fun r=>pure (r.map (j,·))) >>= _) _ _ s
 refine wpAny_bind (wpAny_bind (wpAny_seqItemAt ho rfl (wpAny_pure ?_)))
 rw [hx']
 show wpAny _ _ (setSeqItemAt l j v >>= _) _ _ s
 have hd0:({ cls:=.type "list",dict:=none,data:=.seq items n,slots:=#[] }:Obj).data = .seq items n:=rfl
 obtain ⟨n',hd'⟩:=Obj.data_mapSeq hd0 (·.setIfInBounds j v)
 have hfin:(s.heap.update l (Obj.mapSeq (·.setIfInBounds j v))).get? l = some { cls:=.type "list",dict:=none,data:=.seq (items.setIfInBounds j v) n',slots:=#[] }:=by
  rw [Heap.get?_update_self _ ho (Obj.isFreed_of_seq hd'),←hd']
  rfl
 refine wpAny_bind (wpAny_setSeqItemAt ho rfl ?_)
 first
  | exact wpAny_bind (wpAny_pure (wpAny_pure ⟨.none,rfl,wpAny_pure (hQ _ n' hfin (Heap.SameBut.update ..))⟩))
  | exact wpAny_pure ⟨.none,rfl,wpAny_pure (hQ _ n' hfin (Heap.SameBut.update ..))⟩
end
section
variable {C:Cx} {fi:FI} {k:Nat} {outer fs:List Env} {h₀ h h' h'':Heap} {th₀ th tl tl':List Addr} {sg sg' sg1 sg2 sg3:List Cell} {ro ro' ro1 ro2:List (Str × D)} {s:Shared} {d d1 d2 d3:D} {o o':Out}
theorem EntOk.put {P:Params} {name:Str} {t:Tok} {v:Value} (r:Rep th h d v):∀{es:List (Str × D)} {en:List DictEntry},EntOk P th h es en → EntOk P th h (Mine.put name d es) (putL name (PyData.keyHash P name) (.str name t) v en)
 | [],_,e=>by cases e;exact ⟨t,v,[],rfl,r,rfl⟩
 | (y,dy) :: q,_,⟨u,w,qq,rfl,h1,h2⟩=>by
  simp only [Mine.put,putL]
  have isx:(Value.str y u).isStr name = (y == name):=rfl
  rw [isx]
  by_cases z:(name == y) = true
  ·have z2:(y == name) = true:=by rw [beq_iff_eq] at z ⊢;exact z.symm
   rw [if_pos z,if_pos z2]
   have:name = y:=beq_iff_eq.mp z
   subst this
   exact ⟨u,v,qq,rfl,r,h2⟩
  ·have z2:¬ (y == name) = true:=fun q=>z (by rw [beq_iff_eq] at q ⊢;exact q.symm)
   rw [if_neg z,if_neg z2]
   exact ⟨u,w,_,rfl,h1,EntOk.put r h2⟩
theorem EntOk.len {P:Params}:∀{es:List (Str × D)} {en:List DictEntry},EntOk P th h es en → en.length = es.length
 | [],_,e=>by cases e;rfl
 | _ :: _,_,⟨_,_,_,rfl,_,h2⟩=>by rw [List.length_cons,List.length_cons,EntOk.len h2]
theorem EntOk.someL {P:Params} {es:List (Str × D)} {en:List DictEntry} (e:EntOk P th h es en) (x:Str):(getL x en).isSome = true:=by
 have:=e.look x
 split at this
 ·obtain ⟨v,e,_⟩:=this;rw [e];rfl
 ·rw [this];rfl
theorem EntOk.mono' {P:Params} {es:List (Str × D)} {en:List DictEntry} {a:Addr} {l:List Env} (I:HI C th sg l h) (ha:a ∈ th) (k:∀b o,b ≠ a → h.get? b = some o → h'.get? b = some o) (e:EntOk P th h es en):EntOk P th h' es en:=
 e.mono (fun _ _ e=>e) fun b vs ht=>by
  have q:b ≠ a:=fun q=>(I.noTup ht).1 (q ▸ ha)
  obtain ⟨o,n,ho,r⟩:=ht
  exact ⟨o,n,k b o q ho,r⟩
theorem TX.attr {o value:Expr} {name:Str} {pos' pos:Pos} {i dl:Nat} {Cc:Addr} {es:List (Str × D)} (h1:TE C fi k value ro sg (some d) sg1) (h2:TE C fi k o ro sg1 (some (.obj i)) sg2) (X:IsInst sg2 i Cc dl es) (hz:es.length ≤ 900)
  (hs:findIn C.K (.ref Cc) "__setattr__" = some (some (.builtin "object.__setattr__"))) (hp:plainOver C.K Cc = true) (ht:takerIn C.K Cc name = some none) (hh:hasDictIn C.K Cc = true) (hsw:swapsWith value (some (.Attribute o name pos')) pos.line fi.env = pure false):
  TX C fi k (.Assign [.Attribute o name pos'] value pos) ro sg .next ro (sg2.set dl (.dict (put name d es))):=by
 intro A outer h₀ th₀ th s Q E a I post
 refine plainObj_wpAny_Assign_Attribute (h1 _ _ _ _ _ _ _ _ a I fun v h1' tk1 tl1 J1 kp1 n1 r1=>h2 _ _ _ _ _ _ _ _ a J1 fun v2 h2' tk2 tl2 J2 kp2 n2 r2=>?_) hsw
 simp only [Rep] at r2
 obtain ⟨x,hx,rfl⟩:=r2
 obtain ⟨dx,en,m,hdx,hE,hD,II⟩:=J2.hi.inst X hx
 have r1':=r1.step (tl:=tl2) J1.below kp2
 have mem:=List.mem_of_getElem? hdx
 refine set_plain (s:={ s with heap:=h2',toks:=tk2 }) J2.hi.K II hs (osa_raw (s:={ s with heap:=h2',toks:=tk2 + 1 }) J2.hi.K II rfl hp ht hh (hE.someL name) hD (by rw [hE.len];exact hz) fun h3 kk hD'=>?_)
 have J3:=J2.turn (c:=.dict (put name d es)) hdx kk ⟨_,_,hD',(hE.put r1').mono' J2.hi mem kk⟩
 rw [List.append_assoc] at J3
 exact post h3 _ _ J3
theorem RepL.set {l:List D} {vs:List Value} {v:Value} (r:RepL th h l vs) (q:Rep th h d v):∀{m:Nat},RepL th h (l.set m d) (vs.set m v):=by
 induction l generalizing vs with
 | nil=>intro m;simp only [RepL] at r;subst r;simp [RepL]
 | cons x l ih=>
  intro m
  simp only [RepL] at r
  obtain ⟨w,ws,rfl,h1,h2⟩:=r
  cases m with
  | zero=>simp only [List.set_cons_zero,RepL];exact ⟨v,ws,rfl,q,h2⟩
  | succ m=>simp only [List.set_cons_succ,RepL];exact ⟨w,_,rfl,h1,ih h2⟩
theorem TX.item {o ix value:Expr} {pos' pos:Pos} {i:Nat} {l:List D} {j:Int} (h1:TE C fi k value ro sg (some d) sg1) (h2:TE C fi k o ro sg1 (some (.obj i)) sg2) (h3:TE C fi k ix ro sg2 (some (.int j)) sg3) (hi:sg3[i]? = some (.list l)) (h0:0 ≤ j) (hj:j < l.length) (hz:l.length ≤ sizeLine)
  (hsw:swapsWith value (some (.Subscript o ix pos')) pos.line fi.env = pure false):TX C fi k (.Assign [.Subscript o ix pos'] value pos) ro sg .next ro (sg3.set i (.list (l.set j.toNat d))):=by
 intro A outer h₀ th₀ th s Q E a I post
 refine wpAny_Assign_Subscript (h1 _ _ _ _ _ _ _ _ a I fun v h1' tk1 tl1 J1 kp1 n1 r1=>h2 _ _ _ _ _ _ _ _ a J1 fun v2 h2' tk2 tl2 J2 kp2 n2 r2=>h3 _ _ _ _ _ _ _ _ a J2 fun v3 h3' tk3 tl3 J3 kp3 n3 r3=>?_) hsw
 have r2':=r2.step (tl:=tl3) J2.below kp3
 have r1':=(r1.step (tl:=tl2) J1.below kp2).step (tl:=tl3) J2.below kp3
 simp only [Rep] at r2' r3
 obtain ⟨x,hx,rfl⟩:=r2'
 obtain ⟨t,rfl⟩:=r3
 obtain ⟨vs,n,ho,hl⟩:=J3.hi.cells i _ x hi hx
 have len:=hl.len
 obtain ⟨m,rfl⟩:=Int.eq_ofNat_of_zero_le h0
 have e63:(2:Int) ^ 63 = 9223372036854775808:=by decide
 have hsz:sizeLine = 16777216:=by decide
 refine setItem_list ho h0 (by omega +splitNatSub) (by rw [List.size_toArray];omega +splitNatSub) fun h4 n' hn hsb=>?_
 have kk:∀b o,b ≠ x → h3'.get? b = some o → h4.get? b = some o:=fun b o n e=>(hsb.2 b n).trans e
 have mem:=List.mem_of_getElem? hx
 have J4:=J3.turn (c:=.list (l.set m d)) hx kk ⟨vs.set m v,n',by rw [hn];simp,(J3.hi.repL mem kk hl).set (J3.hi.rep mem kk r1')⟩
 rw [List.append_assoc,List.append_assoc] at J4
 exact post h4 _ _ J4
end
section
variable {C:Cx} {fi:FI} {k:Nat} {outer fs:List Env} {h₀ h h' h'':Heap} {th₀ th tl tl':List Addr} {sg sg' sg1 sg2 sg3:List Cell} {ro ro' ro1 ro2:List (Str × D)} {s:Shared} {d d1 d2 d3:D} {o o':Out} {r:Option D}
noncomputable def IsT' (C:Cx) (sg:List Cell) (d0:D) (T:String):Prop:=∀(l:List Env) (th:List Addr) (s:Shared) (v:Value),HI C th sg l s.heap → Rep th s.heap d0 v → s.TypeIs v T ∧ ∀a,v = .ref a → ∃o,s.heap.get? a = some o ∧ o.dict = none
theorem isT_str {x:Str}:IsT' C sg (.str x) "str":=fun l th s v I r=>by
 simp only [Rep] at r;obtain ⟨t,rfl⟩:=r
 exact ⟨typeIs_str s x t,fun a e=>by cases e⟩
theorem isT_list {i:Nat} {l:List D} (hi:sg[i]? = some (.list l)):IsT' C sg (.obj i) "list":=fun l th s v I r=>by
 simp only [Rep] at r;obtain ⟨a,ha,rfl⟩:=r
 obtain ⟨vs,n,ho,hl⟩:=I.cells i _ a hi ha
 exact ⟨⟨_,ho,rfl⟩,fun b e=>by cases e;exact ⟨_,ho,rfl⟩⟩
theorem TE.methB {e:Expr} {name:Str} {T id:String} {apos pos:Pos} {es:List Expr} {ds:List D} {d0:D} (hb:baseOk e = true) (hl:(apos.endLine == pos.line) = true) (hp:es.all plainE = true) (hz:decide (es.length < 30) = true)
  (h1:TE C fi k e ro sg (some d0) sg1) (hT:IsT' C sg1 d0 T) (pa:PlainAttrs T) (slot:Slot T name id) (hty:typeOf (.builtin id) = pure (.type "method_descriptor")) (hk:keeperOf (.builtin id) = pure .machine)
  (h2:TEs C fi k es ro sg1 (some ds) sg2) (hc:CallOk C k (.builtin id) (d0 :: ds) sg2 r sg'):TE C fi k (.Call (.Attribute e name apos) es [] pos) ro sg r sg':=by
 intro A outer h₀ th₀ th s Q E a I post
 have few:methodCallForm (es.length + ([]:List Keyword).length) (backTo pos (starEach es fi.env)) (backToKw pos (keywordEach [] fi.env)) = true:=by
  have:=star_any (pos:=pos) (env:=fi.env) hp
  unfold methodCallForm
  rw [show (backTo pos (starEach es fi.env)).all (fun x=>!x.1) = true from by
   rw [List.all_eq_not_any_not]
   simp only [Bool.not_not,this,Bool.not_false]]
  show (true && true && decide (es.length + 0 + 0 < 30)) = true
  simpa using hz
 rw [arm_eval_Call,attributeBase_ok hb]
 refine wpAny_bind (h1 _ _ _ _ _ _ _ _ a I fun v h' tk tl J kp n r=>wpAny_bind (wpAny_standAt ?_))
 obtain ⟨hTy,hnd⟩:=hT _ _ { s with heap:=h',toks:=tk } v J.hi r
 unfold methodCall
 rw [few]
 refine wpAny_bind (wpAny_holding ?_)
 show wpAny _ _ (getMethod _ _ _) _ _ _
 refine getMethod_builtin hTy pa slot hty hnd ?_
 have hpos:methodCallPos true e fi.env apos pos = pure pos:=by
  unfold methodCallPos
  rw [hl];rfl
 show wpAny _ _ (methodCallPos true e fi.env apos pos >>= _) _ _ _
 rw [hpos]
 refine wpAny_bind (wpAny_pure ?_)
 refine callWith_mach (first:=[v]) hk hp (h2 _ _ _ _ _ _ pos _ _ a J fun vs h'' tk' tl' J' kp' n' r'=>?_)
 rw [List.append_assoc] at J' r'
 refine call_tail (s:=s) hc a J' (kp.trans n kp') (fresh_app n kp n') ?_ post
 simp only [RepL]
 have r2:=r.step (tl:=tl') J.below kp'
 rw [List.append_assoc] at r2
 exact ⟨v,vs,rfl,r2,r'⟩
theorem TE.append {e x:Expr} {apos pos:Pos} {i:Nat} {l:List D} (hb:baseOk e = true) (hl:(apos.endLine == pos.line) = true) (hp:plainE x = true) (h1:TE C fi k e ro sg (some (.obj i)) sg1) (hi1:sg1[i]? = some (.list l)) (h2:TEs C fi k [x] ro sg1 (some [d]) sg2) {l2:List D} (hi:sg2[i]? = some (.list l2)) (hz:l2.length ≤ sizeLine):
  TE C fi k (.Call (.Attribute e "append" apos) [x] [] pos) ro sg (some .none) (sg2.set i (.list (l2 ++ [d]))):=
 TE.methB hb hl (by simp [hp]) rfl h1 (isT_list hi1) F.plainAttrs_list F.slot_list_append F.type_list_append rfl h2 (call_append hi hz)
theorem TE.pop {e:Expr} {apos pos:Pos} {i:Nat} {l:List D} (hb:baseOk e = true) (hl:(apos.endLine == pos.line) = true) (h1:TE C fi k e ro sg (some (.obj i)) sg1) (hi1:sg1[i]? = some (.list (l ++ [d]))) (hz:l.length < sizeLine):
  TE C fi k (.Call (.Attribute e "pop" apos) [] [] pos) ro sg (some d) (sg1.set i (.list l)):=
 TE.methB hb hl rfl rfl h1 (isT_list hi1) F.plainAttrs_list F.slot_list_pop F.type_list_pop rfl (TEs.nil) (call_pop hi1 hz)
theorem TE.join {e x:Expr} {apos pos:Pos} {i:Nat} {y:Str} {ys:List Str} (hb:baseOk e = true) (hl:(apos.endLine == pos.line) = true) (hp:plainE x = true) (h1:TE C fi k e ro sg (some (.str y)) sg1) (h2:TEs C fi k [x] ro sg1 (some [.obj i]) sg2) (hi:sg2[i]? = some (.list (ys.map .str)))
  (hok:(ys.map (·.length)).sum + ys.length * y.length ≤ 16777216):TE C fi k (.Call (.Attribute e "join" apos) [x] [] pos) ro sg (some (.str (Txt.join y ys))) sg2:=
 TE.methB hb hl (by simp [hp]) rfl h1 isT_str F.plainAttrs_str F.slot_str_join F.type_str_join rfl h2 (call_join hi hok)
theorem TE.split {e x:Expr} {apos pos:Pos} {y z:Str} {ps:List Str} (hb:baseOk e = true) (hl:(apos.endLine == pos.line) = true) (hp:plainE x = true) (h1:TE C fi k e ro sg (some (.str y)) sg1) (h2:TEs C fi k [x] ro sg1 (some [.str z]) sg2)
  (hc:CallOk C k (.builtin "str.split") [.str y,.str z] sg2 (some (.obj sg2.length)) (sg2 ++ [.list (ps.map .str)])):TE C fi k (.Call (.Attribute e "split" apos) [x] [] pos) ro sg (some (.obj sg2.length)) (sg2 ++ [.list (ps.map .str)]):=
 TE.methB hb hl (by simp [hp]) rfl h1 isT_str F.plainAttrs_str F.slot_str_split F.type_str_split rfl h2 hc
theorem TE.index {e x:Expr} {apos pos:Pos} {y z:Str} {i:Nat} {rest:List Nat} (hb:baseOk e = true) (hl:(apos.endLine == pos.line) = true) (hp:plainE x = true) (h1:TE C fi k e ro sg (some (.str y)) sg1) (h2:TEs C fi k [x] ro sg1 (some [.str z]) sg2) (ho:Builtin.Str.occurrences y z 0 y.length 1 = i :: rest):
  TE C fi k (.Call (.Attribute e "index" apos) [x] [] pos) ro sg (some (.int i)) sg2:=
 TE.methB hb hl (by simp [hp]) rfl h1 isT_str F.plainAttrs_str F.slot_str_index F.type_str_index rfl h2 (call_index ho)
theorem unpack_ok {A:Around} {Q:List Value → Shared → Prop} {E:Value → Shared → Prop} {l:List D} {v:Value} {n:Nat} (a:AOk A k (fi.env :: outer)) (I:InF C fi outer h₀ th₀ th sg ro s.heap) (r:Rep th s.heap (.tup l) v) (hn:n = l.length)
  (post:∀vs h',InF C fi outer h₀ th₀ th sg ro h' → RepL th h' l vs → Q vs { s with heap:=h' }):wpAny (model C.prog C.w) A (unpackItems v n none) Q E s:=by
 simp only [Rep] at r
 obtain ⟨t,vs,rfl,⟨ob,m,ho,hc,hd⟩,hl⟩:=r
 have e:n = vs.toArray.size:=by rw [List.size_toArray,hl.len,hn]
 subst e
 refine wpAny_unpackItems_tuple (items:=vs.toArray) a.hd ⟨ob,ho,hc,m,hd⟩ fun h' hE=>?_
 have up:∀b o,s.heap.get? b = some o → h'.get? b = some o:=fun b o e=>hE b o (Nat.ne_of_lt (Heap.lt_size e)) e
 exact post vs h' (I.ext up) (hl.ext up)
theorem TX.tup {target value:Expr} {elts:List Expr} {n:Nat} {tpos pos:Pos} (ht:target = .Tuple elts n tpos) (h1:TE C fi k value ro sg (some d) sg1) (hT:TA C fi (.Tuple elts n tpos) d ro ro1) (hs:swapsWithSole [.Tuple elts n tpos] value pos.line fi.env = pure false) (hw:swappedStores [.Tuple elts n tpos] value fi.env = pure none):
  TX C fi k (.Assign [target] value pos) ro sg .next ro1 sg1:=by
 subst ht
 intro A outer h₀ th₀ th s Q E a I post
 exact Assign_Tuple (h1 _ _ _ _ _ _ _ _ a I fun v h' tk tl J kp n r=>hT _ _ _ _ _ _ _ { s with heap:=h',toks:=tk } _ _ _ a J r fun h'' tk' J'=>post h'' tk' tl J') hs hw
theorem TX.tupX {target value:Expr} {elts:List Expr} {n:Nat} {tpos pos:Pos} (ht:target = .Tuple elts n tpos) (h1:TE C fi k value ro sg none sg1) (hs:swapsWithSole [.Tuple elts n tpos] value pos.line fi.env = pure false) (hw:swappedStores [.Tuple elts n tpos] value fi.env = pure none):
  TX C fi k (.Assign [target] value pos) ro sg .exc ro sg1:=by
 subst ht
 intro A outer h₀ th₀ th s Q E a I post
 exact Assign_Tuple (h1 _ _ _ _ _ _ _ _ a I post) hs hw
theorem TX.swap2 {x y:Str} {elts:List Expr} {value:Expr} {n:Nat} {tpos pos:Pos} (h1:TE C fi k value ro sg (some (.tup [d1,d2])) sg1) (hx:fi.scope.names.lookup x = some .local) (hy:fi.scope.names.lookup y = some .local)
  (hs:swapsWithSole [.Tuple elts n tpos] value pos.line fi.env = pure false) (hw:swappedStores [.Tuple elts n tpos] value fi.env = pure (some [x,y])):
  TX C fi k (.Assign [.Tuple elts n tpos] value pos) ro sg .next (put x d1 (put y d2 ro)) sg1:=by
 intro A outer h₀ th₀ th s Q E a I post
 refine Assign_Tuple_swapped (names:=[x,y]) (h1 _ _ _ _ _ _ _ _ a I fun v h' tk tl J kp n r=>unpack_ok (s:={ s with heap:=h',toks:=tk }) a J r rfl fun vs h2 J2 R=>?_) hs hw
 obtain ⟨v1,v2,rfl,r1,r2⟩:=repL2 R
 show wpAny _ _ (assignInOrder [bindName fi.env y,bindName fi.env x] [v2,v1]) _ _ _
 simp only [assignInOrder]
 refine wpAny_bind (wpAny_holding (wpAny_bindName (store_ok2 (s:={ s with heap:=h2,toks:=tk }) hy J2 r2 fun h3 tk3 J3 K3=>?_)))
 refine wpAny_bind (wpAny_holding (wpAny_bindName (store_ok2 (s:={ s with heap:=h3,toks:=tk3 }) hx J3 (K3 _ _ r1) fun h4 tk4 J4 K4=>wpAny_pure (post h4 tk4 tl J4))))
theorem TX.swap3 {x y z:Str} {elts:List Expr} {value:Expr} {n:Nat} {tpos pos:Pos} (h1:TE C fi k value ro sg (some (.tup [d1,d2,d3])) sg1) (hx:fi.scope.names.lookup x = some .local) (hy:fi.scope.names.lookup y = some .local) (hz:fi.scope.names.lookup z = some .local)
  (hs:swapsWithSole [.Tuple elts n tpos] value pos.line fi.env = pure false) (hw:swappedStores [.Tuple elts n tpos] value fi.env = pure (some [x,y,z])):
  TX C fi k (.Assign [.Tuple elts n tpos] value pos) ro sg .next (put x d1 (put y d2 (put z d3 ro))) sg1:=by
 intro A outer h₀ th₀ th s Q E a I post
 refine Assign_Tuple_swapped (names:=[x,y,z]) (h1 _ _ _ _ _ _ _ _ a I fun v h' tk tl J kp n r=>unpack_ok (s:={ s with heap:=h',toks:=tk }) a J r rfl fun vs h2 J2 R=>?_) hs hw
 obtain ⟨v1,v2,v3,rfl,r1,r2,r3⟩:=repL3 R
 show wpAny _ _ (assignInOrder [bindName fi.env z,bindName fi.env y,bindName fi.env x] [v3,v2,v1]) _ _ _
 simp only [assignInOrder]
 refine wpAny_bind (wpAny_holding (wpAny_bindName (store_ok2 (s:={ s with heap:=h2,toks:=tk }) hz J2 r3 fun h3 tk3 J3 K3=>?_)))
 refine wpAny_bind (wpAny_holding (wpAny_bindName (store_ok2 (s:={ s with heap:=h3,toks:=tk3 }) hy J3 (K3 _ _ r2) fun h4 tk4 J4 K4=>?_)))
 refine wpAny_bind (wpAny_holding (wpAny_bindName (store_ok2 (s:={ s with heap:=h4,toks:=tk4 }) hx J4 (K4 _ _ (K3 _ _ r1)) fun h5 tk5 J5 K5=>wpAny_pure (post h5 tk5 tl J5))))
theorem TB.chainF {l r1 r2:Expr} {pos:Pos} {o1 o2:CmpOp} (h1:TE C fi k l ro sg (some d1) sg1) (h2:TE C fi k r1 ro sg1 (some d2) sg2) (op:OpOk C (compareOp o1) d1 d2 (.bool false)) (hm:lastMarks [o1,o2] [r1,r2] = false):
  TB C fi k (.Compare l [o1,o2] [r1,r2] pos) ro sg (some false) sg2:=by
 intro A outer h₀ th₀ th s Q E a I post
 refine isTrue_chain (h1 _ _ _ _ _ _ _ _ a I fun v1 h' tk tl J kp n q1=>test_link (h2 _ _ _ _ _ _ _ _ a J fun v2 h'' tk' tl' J' kp' n' q2=>?_)) hm
 have q1':=q1.step (tl:=tl') J.below kp'
 refine op A k _ _ _ _ _ _ _ _ a J'.below q1' q2 fun v tk2 r=>?_
 simp only [Rep] at r
 subst r
 rw [List.append_assoc] at J'
 exact wpAny_truthy_bool (by rw [if_neg Bool.false_ne_true];exact post h'' tk2 _ J' (kp.trans n kp') (fresh_app n kp n'))
theorem TB.chainT {l r1 r2:Expr} {pos:Pos} {o1 o2:CmpOp} {b:Bool} (h1:TE C fi k l ro sg (some d1) sg1) (h2:TE C fi k r1 ro sg1 (some d2) sg2) (op:OpOk C (compareOp o1) d1 d2 (.bool true)) (h3:TE C fi k r2 ro sg2 (some d3) sg3) (op2:OpOk C (compareOp o2) d2 d3 (.bool b)) (hm:lastMarks [o1,o2] [r1,r2] = false):
  TB C fi k (.Compare l [o1,o2] [r1,r2] pos) ro sg (some b) sg3:=by
 intro A outer h₀ th₀ th s Q E a I post
 refine isTrue_chain (h1 _ _ _ _ _ _ _ _ a I fun v1 h' tk tl J kp n q1=>test_link (h2 _ _ _ _ _ _ _ _ a J fun v2 h'' tk' tl' J' kp' n' q2=>?_)) hm
 have q1':=q1.step (tl:=tl') J.below kp'
 refine op A k _ _ _ _ _ _ _ _ a J'.below q1' q2 fun v tk2 r=>?_
 simp only [Rep] at r
 subst r
 refine wpAny_truthy_bool ?_
 rw [if_pos rfl]
 refine test_last (h3 _ _ _ _ _ { s with heap:=h'',toks:=tk2 } _ _ a J' fun v3 h3' tk3 tl3 J3 kp3 n3 q3=>?_)
 have q2':=q2.step (tl:=tl3) J'.below kp3
 refine op2 A k _ _ _ _ _ _ _ _ a J3.below q2' q3 fun v tk4 r=>?_
 simp only [Rep] at r
 subst r
 rw [List.append_assoc,List.append_assoc] at J3
 have K2:=kp.trans n kp'
 have F2:=fresh_app n kp n'
 rw [List.append_assoc] at kp3
 have F3:=fresh_app F2 K2 n3
 rw [List.append_assoc] at F3
 exact wpAny_truthy_bool (post h3' tk4 _ J3 (K2.trans F2 kp3) F3)
end
section
open Sem (wp)
section
variable {prog:Program} {w:World} {A:Around} {M:Model} {E:Value → Shared → Prop} {R:Result → Shared → Prop} {h:Heap} {g:Array GenState} {d:Drawn} {t:Nat} {os:OsState}
variable {nm q:Str} {C N:Addr} {bs bm:List Value} {hdct:Bool} {sn:List Str} {sub:List Value} {ab:Bool} {col:Option Bool} {dd:Option Addr} {k0 k1 k2 k3 k5:Option Value}
noncomputable abbrev excHas (bm:List Value):Prop:=bm.contains (.type "Exception") = true ∧ bm.contains (.type "AttributeError") = false ∧ bm.contains (.type "NameError") = false
theorem exc_check_new (H:excHas bm) {rest:List Value} {Q:Unit → Shared → Prop} (hC:h.get? C = some (excClassObj nm q C N bs bm hdct sn sub ab col dd k0 k1 k2 k3 k5 "Exception.__new__"))
  (hq:Q () ⟨h,g,d,t,os⟩):wpAny M A (checkBuiltinCall "Exception.__new__" ⟨.ref C :: rest,[]⟩) Q E ⟨h,g,d,t,os⟩:=by
 have F:=PySem.F.excBase_Exception
 have hcont:(Value.ref C :: bm).contains (.type "Exception") = true:=by rw [List.contains_cons,H.1,Bool.or_true]
 have hstar:=F.noStar
 simp only [checkBuiltinCall,F.newKind,F.newSplit,F.newRow]
 repeat (first | refine wpAny_loadPart_at hC ?_ | (refine wpAny_isSubtype_exc hC ?_;rw [hcont]) | refine wpAny_staticBase_exc hC ?_ | refine wpAny_madeBy_exc hC ?_ | simp only [bne_self_eq_false,Bool.false_eq_true,if_false] | wp_step)
 exact hq
theorem exc_new (H:excHas bm) {rest:List Value} (hC:h.get? C = some (excClassObj nm q C N bs bm hdct sn sub ab col dd k0 k1 k2 k3 k5 "Exception.__new__"))
  (hq:R (.ok (.ret (.ref (h.objs.size + 1)))) ⟨(h.push { cls:=.type "tuple",data:=.seq rest.toArray }).push
   { cls:=.ref C,data:=.fields #[.ref h.objs.size,.none,.none,.none,.bool false,.none] },g,d,t,os⟩) (hrest:rest.length ≤ sizeLine):
  codeAny (model prog w) A (.builtin "Exception.__new__" ⟨.ref C :: rest,[]⟩) R ⟨h,g,d,t,os⟩:=by
 have F:=PySem.F.excBase_Exception
 have hends:=F.ends
 have hcB:(Value.ref C :: bm).contains (.type "Exception") = true:=by rw [List.contains_cons,H.1,Bool.or_true]
 have hcA:(Value.ref C :: bm).contains (.type "AttributeError") = false:=by rw [List.contains_cons,H.2.1];rfl
 have hcN:(Value.ref C :: bm).contains (.type "NameError") = false:=by rw [List.contains_cons,H.2.2];rfl
 refine PySem.codeAny_builtinAt F.entry ?_
 unfold Builtin.«BaseException.__new__»
 refine PySem.wpAt_bind ?_
 show PySem.wpAt _ _ _ (stack >>= _) _ _ _
 refine PySem.wpAt_bind (PySem.wpAt_stack fun p below=>PySem.wpAt_of_wpAny ?_)
 wp_walk
 refine PySem.wpAt_of_wpAny ?_
 rw [F.owner]
 repeat (first | with_reducible refine wpAny_madeHere_exc F.canon hC ?_ | with_reducible refine wpAny_loadPart_at hC ?_ | (with_reducible refine wpAny_isSubtype_exc hC ?_;first | rw [hcB] | rw [hcA] | rw [hcN]) | wp_step)
 show R _ _
 rw [Heap.size_push]
 exact hq
end
section
variable {prog:Program} {w:World} {A:Around} {E:Value → Shared → Prop} {h:Heap} {g:Array GenState} {d:Drawn} {t:Nat} {os:OsState} {K:Frag}
variable {nm q:Str} {C N:Addr} {bs bm:List Value} {hdct:Bool} {sn:List Str} {sub:List Value} {ab:Bool} {col:Option Bool} {dd:Option Addr} {k0 k1 k2 k3 k5:Option Value}
theorem exc_type_call (H:excHas bm) {rest:List Value} {fI:Addr} {Q:Fin → Shared → Prop} (X:K.In h)
  (hC:h.get? C = some (excClassObj nm q C N bs bm hdct sn sub ab col dd k0 k1 k2 k3 k5 "Exception.__new__")) (hi:findIn K (.ref C) "__init__" = some (some (.ref fI))) (hf:typeIn K (.ref fI) = some (.type "function"))
  (hq:wpAny (model prog w) A (call (.ref fI) (.ref (h.objs.size + 1) :: rest)) (fun r s'=>r = .none ∧ Q (.done (.ret (.ref (h.objs.size + 1)))) s') E
   ⟨(h.push { cls:=.type "tuple",data:=.seq rest.toArray }).push (excObj C h.objs.size none),g,d,t,os⟩) (hrest:rest.length ≤ sizeLine):
  wpAny (model prog w) A (Builtin.«type.__call__» ⟨.ref C :: rest,[]⟩) Q E ⟨h,g,d,t,os⟩:=by
 have F:=PySem.F.excBase_Exception
 repeat (first | with_reducible refine wpAny_loadPart_at hC ?_ | with_reducible refine wpAny_madeBy_exc hC ?_ | wp_step)
 refine codeAny_call_builtin_code (Code.quiet_builtin _ F.quiet) (exc_check_new H hC ?_)
 refine exc_new H hC ?_ hrest
 show wpAny _ _ _ _ _ _
 have up:∀b o,h.get? b = some o → ((h.push { cls:=.type "tuple",data:=.seq rest.toArray }).push (excObj C h.objs.size none)).get? b = some o:=fun b o e=>Heap.get?_push_of_some _ (Heap.get?_push_of_some _ e)
 have hC₁:=up _ _ hC
 have X₁:K.In ((h.push { cls:=.type "tuple",data:=.seq rest.toArray }).push (excObj C h.objs.size none)):=fun a o e=>up a o (X a o e)
 have hget:((h.push { cls:=.type "tuple",data:=.seq rest.toArray }).push (excObj C h.objs.size none)).get? (h.objs.size + 1) = some (excObj C h.objs.size none):=by heap_get
 have hcC:(Value.ref C :: bm).contains (.ref C) = true:=by simp
 unfold isInstance
 repeat (first | with_reducible refine wpAny_loadPart_at hget ?_ | (with_reducible refine wpAny_isSubtype_exc hC₁ ?_;rw [hcC]) | wp_step)
 show wpAny _ _ (typeLookup (.ref C) _) _ _ _
 refine (looks_findIn X₁ hi).here ?_
 refine wpAny_holding (wpAny_bind ?_)
 refine (bind_fn X₁ _ hf).here ?_
 refine wpAny_bind (wpAny_mono hq (fun r s' hr=>?_) fun _ _ x=>x)
 obtain ⟨rfl,hQ⟩:=hr
 wp_walk
 exact hQ
theorem exc_call (H:excHas bm) {rest:List Value} {fI:Addr} {R:Result → Shared → Prop} (X:K.In h)
  (hC:h.get? C = some (excClassObj nm q C N bs bm hdct sn sub ab col dd k0 k1 k2 k3 k5 "Exception.__new__")) (hi:findIn K (.ref C) "__init__" = some (some (.ref fI))) (hf:typeIn K (.ref fI) = some (.type "function"))
  (hq:wpAny (model prog w) (A.under (.builtin "type.__call__" ⟨.ref C :: rest,[]⟩)) (call (.ref fI) (.ref (h.objs.size + 1) :: rest)) (fun r s'=>r = .none ∧ R (.ok (.ret (.ref (h.objs.size + 1)))) s') (fun e s'=>R (.error e) s')
   ⟨(h.push { cls:=.type "tuple",data:=.seq rest.toArray }).push (excObj C h.objs.size none),g,d,t,os⟩) (hrest:rest.length ≤ sizeLine):
  codeAny (model prog w) A (.call (.ref C) ⟨rest,[]⟩) R ⟨h,g,d,t,os⟩:=by
 have f1:=tc_lookup
 have f2:=tc_bind (.ref C)
 have hT:(⟨h,g,d,t,os⟩:Shared).TypeIs (.ref C) "type":=⟨_,hC,rfl⟩
 refine codeAny_of_tree ?_
 show wpAny _ _ (callAny (.ref C) _) _ _ _
 repeat (any_goals (first | assumption | with_reducible refine wpAny_loadPart_at hC ?_ | wp_step))
 refine ⟨rfl,?_⟩
 exact codeAny_call_builtin_at (Code.quiet_builtin _ (by decide +kernel)) entry_typeCall (wpAny_check_type_call_sub hC (exc_type_call H X hC hi hf hq hrest))
end
end
section
open PySem PySem.Spec PySem.Calls PyProof.Rows PySem.W PySem.Builtin PySem.Builtin.ObjectAttr
theorem refuse_exc (self:Value):refuseLoop self "__setattr__" [.type "Exception",.type "BaseException",.type "object"] = pure ():=by kernel_rfl
section
variable {prog:Program} {w:World} {A:Around} {M:Model} {E:Value → Shared → Prop} {s:Shared} {K:Frag} {x Cc dx:Addr} {R:Result → Shared → Prop}
structure ExcCls (K:Frag) (Cc:Addr):Prop where
 top:mroIn K Cc (.type "object") = some true
 exc:mroIn K Cc (.type "Exception") = some true
 base:mroIn K Cc (.type "BaseException") = some true
 cls:∃cd,clsIn K Cc = some cd ∧ cd.hasDict = true ∧ cd.mro.isEmpty = false ∧ ∃l:List Addr,cd.mro = l.map .ref ++ [.type "Exception",.type "BaseException",.type "object"]
 meta_:∀(M:Model) (h:Heap),K.In h → Looks M h (typeOf (.ref Cc)) (.type "type")
 set:findIn K (.ref Cc) "__setattr__" = some (some (.builtin "object.__setattr__"))
theorem refuse_refs (self:Value):∀l:List Addr,refuseLoop self "__setattr__" (l.map .ref ++ [.type "Exception",.type "BaseException",.type "object"]) = pure ()
 | []=>refuse_exc self
 | c :: r=>by rw [List.map_cons,List.cons_append,refuseLoop_ref];exact refuse_refs self r
theorem exc_open {t:Addr} {dv:Option Addr} {name:Str} {tk:Tok} {v:Value} (X:K.In s.heap) (Y:ExcCls K Cc) (ho:s.heap.get? x = some (excObj Cc t dv)) (ht:takerIn K Cc name = some none)
  (h:∀b,wpAny (model prog w) A.in1 (storeInOwnDict (.ref x) (.ref Cc) (.str name tk) name v b)
   (fun fin s'=>match fin with | .done f=>R (.ok f) s' | .again c'=>c'.quiet = true ∧ codeAny (model prog w) A c' R s') (fun e s'=>R (.error e) s') s):
  codeAny (model prog w) A (.call (.builtin "object.__setattr__") ⟨[.ref x,.str name tk,v],[]⟩) R s:=by
 have SF:=PySem.F.store_object
 have ty:Looks (model prog w) s.heap (typeOf (.ref x)) (.ref Cc):=(Looks.ld ho).andThen .now
 obtain ⟨cd,hc,hd,ne,l,hl⟩:=Y.cls
 have sub:Looks (model prog w) s.heap (isInstance (.ref x) (.type "object")) true:=ty.andThen (looks_mroIn X Y.top)
 refine codeAny_call_builtin SF.slot.plain SF.entry (@check_slot (model prog w) _ _ s "object.__setattr__" "object" "__setattr__" (.ref x) [.str name tk,v] [] _ SF.kind SF.split sub (SF.args (.ref x) (.str name tk) v) ?_)
 obtain ⟨attr,ha,hr⟩:=Option.bind_eq_some_iff.mp ht
 have hm:Looks (model prog w) s.heap (mroOf (.ref Cc)) cd.mro:=(looks_clsIn X hc).andThen .now
 have L3:Looks (model prog w) s.heap (storeTaker? attr) none:=by
  cases attr with
  | none=>exact .now
  | some a=>
   obtain ⟨b,hb,q⟩:=Option.map_eq_some_iff.mp hr
   refine (looks_takesIn X hb).andThen ?_
   cases b with
   | true=>cases q
   | false=>exact .now
 rw [osa_eq,refuse_eq]
 refine wpAny_bind (wpAny_bind (ty.here (wpAny_bind (hm.here ?_))))
 rw [hl,refuse_refs]
 refine wpAny_pure (wpAny_bind (ty.here (wpAny_bind ((looks_findIn X ha).here (wpAny_bind (L3.here ?_))))))
 exact h _
theorem set_in_dict {name:Str} {tk:Tok} {v:Value} {es:List DictEntry} {n:Nat} {Q:Fin → Shared → Prop} (hl:(getL name es).isSome = true) (D:s.heap.get? dx = some (dictOf es n)) (hz:es.length ≤ 900)
  (h:∀h',(∀b o,b ≠ dx → s.heap.get? b = some o → h'.get? b = some o) → h'.get? dx = some (dictOf (putL name (PyData.keyHash w.params name) (.str name s.toks) v es) (putN name es n)) → Q (.done (.ret .none)) { s with heap:=h',toks:=s.toks + 1 }):
  wpAny (model prog w) A (storeInDict dx (.str name tk) name v) Q E s:=by
 have k1:∀b o,b ≠ dx → s.heap.get? b = some o → (s.heap.update dx (Obj.putName name (PyData.keyHash w.params name) (.str name s.toks) v)).get? b = some o:=fun b o n e=>(Heap.get?_update_other _ _ (Ne.symm n)).trans e
 have D':(s.heap.update dx (Obj.putName name (PyData.keyHash w.params name) (.str name s.toks) v)).get? dx = some (dictOf (putL name (PyData.keyHash w.params name) (.str name s.toks) v es) (putN name es n)):=by
  rw [Heap.get?_update_self _ D (by rw [putName_dict];rfl),putName_dict]
 have hlen:(putL name (PyData.keyHash w.params name) (.str name s.toks) v es).length ≤ es.length + 1:=by
  clear D' k1 h D hl hz
  induction es with
  | nil=>simp [putL]
  | cons e r ih=>simp only [putL];split <;> simp only [List.length_cons] <;> omega
 unfold storeInDict newKeyGuard
 refine wpAny_bind (wpAny_pure (wpAny_bind ?_))
 unfold nsSet
 refine wpAny_bind (wpAny_bind (wpAny_askSetting (wpAny_pure (wpAny_bind (wpAny_mkText (wpAny_bind (wpAny_loadPart D ?_)))))))
 have c:(!es.toArray.any (·.key.isStr name) && es.toArray.any (·.refKey)) = false:=by
  rw [←Array.any_toList,←Array.any_toList]
  unfold getL at hl
  split at hl
  ·rename_i en he
   rw [List.any_eq_true.mpr ⟨en,List.mem_of_find?_eq_some he,List.find?_some he⟩];rfl
  ·split at hl
   ·cases hl
   ·rename_i z;rw [Bool.not_eq_true] at z;rw [z,Bool.and_false]
 dsimp only [dictOf]
 rw [aRefKeyMayBeTheName_at,c]
 refine wpAny_updatePart D ?_
 refine wpAny_bind (wpAny_lookBehind D' (by
  show (Data.dict _ _).pastItsLine = none
  exact pastItsLine_dict (by rw [List.size_toArray,sizeLine_eq];omega)) ?_)
 exact wpAny_pure (h _ k1 D')
theorem exc_set {t:Addr} {name:Str} {tk:Tok} {v:Value} {es:List DictEntry} {n:Nat} (X:K.In s.heap) (Y:ExcCls K Cc) (ho:s.heap.get? x = some (excObj Cc t (some dx))) (ht:takerIn K Cc name = some none)
  (hl:(getL name es).isSome = true) (D:s.heap.get? dx = some (dictOf es n)) (hz:es.length ≤ 900)
  (h:∀h',(∀b o,b ≠ dx → s.heap.get? b = some o → h'.get? b = some o) → h'.get? dx = some (dictOf (putL name (PyData.keyHash w.params name) (.str name s.toks) v es) (putN name es n)) → R (.ok (.ret .none)) { s with heap:=h',toks:=s.toks + 1 }):
  codeAny (model prog w) A (.call (.builtin "object.__setattr__") ⟨[.ref x,.str name tk,v],[]⟩) R s:=by
 refine exc_open X Y ho ht fun b=>?_
 obtain ⟨cd,hc,hd,_⟩:=Y.cls
 refine wpAny_bind (wpAny_pure (wpAny_bind (wpAny_bind (wpAny_loadPart ho (wpAny_bind ((looks_clsIn X hc).here ?_))))))
 rw [hd]
 refine wpAny_pure (a:=some dx) ?_
 exact set_in_dict hl D hz h
theorem exc_set0 {t:Addr} {name:Str} {tk:Tok} {v:Value} (X:K.In s.heap) (Y:ExcCls K Cc) (ho:s.heap.get? x = some (excObj Cc t none)) (ht:takerIn K Cc name = some none)
  (h:∀h',(∀b o,b ≠ x → s.heap.get? b = some o → h'.get? b = some o) → h'.get? x = some (excObj Cc t (some s.heap.objs.size)) → h'.get? s.heap.objs.size = some (dictOf [⟨PyData.keyHash w.params name,.str name s.toks,v⟩] 1) → R (.ok (.ret .none)) { s with heap:=h',toks:=s.toks + 1 }):
  codeAny (model prog w) A (.call (.builtin "object.__setattr__") ⟨[.ref x,.str name tk,v],[]⟩) R s:=by
 refine exc_open X Y ho ht fun b=>?_
 obtain ⟨cd,hc,hd,_⟩:=Y.cls
 have hx₁:(s.heap.push { cls:=.type "dict",data:=.dict #[] }).get? x = some (excObj Cc t none):=Heap.get?_push_of_some _ ho
 have hxs:x ≠ s.heap.objs.size:=Nat.ne_of_lt (Heap.lt_size ho)
 refine wpAny_bind (wpAny_pure (wpAny_bind (wpAny_bind (wpAny_loadPart ho (wpAny_bind ((looks_clsIn X hc).here ?_))))))
 rw [hd]
 rw [if_neg (by simp [typeHasDict])]
 refine wpAny_bind (wpAny_alloc' ?_)
 refine wpAny_bind (wpAny_update' hx₁ ?_)
 refine wpAny_pure ?_
 have hgd:((s.heap.push { cls:=.type "dict",data:=.dict #[] }).update x fun o=>{ o with dict:=some s.heap.objs.size }).get? s.heap.objs.size = some (dictOf [] 0):=
  (Heap.get?_update_other _ _ hxs).trans (Heap.get?_push_size _ rfl)
 have hgx:((s.heap.push { cls:=.type "dict",data:=.dict #[] }).update x fun o=>{ o with dict:=some s.heap.objs.size }).get? x = some (excObj Cc t (some s.heap.objs.size)):=Heap.get?_update_self _ hx₁ rfl
 refine set_in_dict (s:={ s with heap:=(s.heap.push { cls:=.type "dict",data:=.dict #[] }).update x fun o=>{ o with dict:=some s.heap.objs.size } }) (dx:=s.heap.objs.size) (es:=[]) (n:=0) rfl hgd (by simp) fun h' kp hD=>?_
 refine h h' (fun b o nb e=>kp b o (Nat.ne_of_lt (Heap.lt_size e)) ((Heap.get?_update_other _ _ (Ne.symm nb)).trans (Heap.get?_push_of_some _ e))) (kp _ _ hxs hgx) hD
end
end
section
variable {prog:Program} {w:World} {A:Around} {M:Model} {E:Value → Shared → Prop} {s:Shared} {K:Frag} {x Cc dx:Addr} {R:Result → Shared → Prop}
theorem exc_init_check {t:Addr} {dv:Option Addr} {rest:List Value} {Q:Unit → Shared → Prop} (X:K.In s.heap) (Y:ExcCls K Cc) (ho:s.heap.get? x = some (excObj Cc t dv)) (hq:Q () s):
  wpAny M A (checkBuiltinCall "Exception.__init__" ⟨.ref x :: rest,[]⟩) Q E s:=by
 have F:=PySem.F.excBase_Exception
 have sub:Looks M s.heap (isInstance (.ref x) (.type "Exception")) true:=((Looks.ld ho).andThen (.now:Looks M s.heap _ (Value.ref Cc))).andThen (looks_mroIn X Y.exc)
 have hshort:=F.noStar
 simp only [checkBuiltinCall,F.initKind,F.initSplit,F.initRow]
 obtain ⟨cd,hc,_⟩:=Y.cls
 have hcls:∃oc,s.heap.get? Cc = some oc ∧ oc.data = .cls cd:=by
  unfold clsIn at hc
  split at hc
  ·rename_i oc od cd' sl q
   cases hc
   exact ⟨_,X _ _ q,rfl⟩
  ·cases hc
 obtain ⟨oc,hC,hCd⟩:=hcls
 refine wpAny_bind (sub.here ?_)
 repeat (first | (with_reducible refine wpAny_load hC ?_;rw [hCd]) | (with_reducible refine wpAny_loadPart hC ?_;rw [hCd]) | (with_reducible refine wpAny_load ho ?_) | (with_reducible refine wpAny_loadPart ho ?_) | wp_step)
 refine wpAny_onRaise ?_
 rw [show ∀(a b:String) (n:Nat),Bind.check ⟨.positional,"*","Exception",.self,[⟨"args",.varPos,false⟩]⟩ a b n (List.map (fun x=>x.fst) ({ pos:=Value.ref x :: rest }:Args).kw) = pure () from
  fun a b n=>check_star_args _ _ _ _ _ _]
 exact wpAny_pure hq
theorem exc_init {t:Addr} {dv:Option Addr} {v:Value} {Q:Value → Shared → Prop} (X:K.In s.heap) (Y:ExcCls K Cc) (ho:s.heap.get? x = some (excObj Cc t dv))
  (hq:∀h' t',(∀b o,b ≠ x → s.heap.get? b = some o → h'.get? b = some o) → h'.get? x = some (excObj Cc t' dv) → Q .none { s with heap:=h' }):
  wpAny (model prog w) A (call (.builtin "Exception.__init__") [.ref x,v]) Q E s:=by
 have F:=PySem.F.excBase_Exception
 refine wpAny_call (codeAny_call_builtin F.init.plain F.initEntry (exc_init_check X Y ho ?_))
 unfold Builtin.«BaseException.__init__»
 dsimp only
 rw [if_neg (by simp)]
 unfold newTuple Builtin.BaseException.bexcPut
 have he₁:(s.heap.push { cls:=.type "tuple",data:=.seq #[v] }).get? x = some (excObj Cc t dv):=Heap.get?_push_of_some _ ho
 refine wpAny_bind (wpAny_newObj_type (wpAny_bind (wpAny_bind (wpAny_field he₁ rfl (x:=.ref t) rfl (wpAny_bind (wpAny_setField he₁ rfl (by simp) ?_))))) (by size_fits))
 refine wpAny_letGo (wpAny_pure ?_)
 refine hq _ s.heap.objs.size (fun b o n e=>upd_other b o n (push_ext b o e)) ?_
 rw [Heap.get?_update_self _ he₁ rfl]
 rfl
theorem getm_exc_init {pl:Sem Bool} {Q:Value × List Value → Shared → Prop} (h:Q (.builtin "Exception.__init__",[]) { s with toks:=s.toks + 1 }):wpAny (model prog w) A (getMethod (.type "Exception") "__init__" pl) Q E s:=by
 have X:Frag.In [] s.heap:=fun a o e=>by cases e
 have hs:Manifest.isStub "Exception" = false:=by decide +kernel
 have ht:typeOf (.type "Exception") = pure (.type "type"):=by kernel_rfl
 have hstub:opaqueClassAbove (.type "Exception") = pure none:=by unfold opaqueClassAbove;dsimp only;rw [hs];rfl
 have L0:Looks (model prog w) s.heap (typeOf (.type "Exception")) (.type "type"):=Looks.of_pure ht
 have hg:findIn [] (.type "type") "__getattribute__" = some (some (.builtin "type.__getattribute__")):=type_tga
 unfold getMethod specialOf
 refine wpAny_bind (wpAny_bind (L0.here ((looks_findIn X hg).here ?_)))
 dsimp only
 rw [if_pos canon_tga]
 refine wpAny_bind (wpAny_mono (Q:=fun v=>Q (v,[])) (E:=E) ?_ (fun _ _ z=>wpAny_pure z) fun _ _ z=>z)
 have LO:Looks (model prog w) s.heap (opaqueClassAbove (.type "Exception")) none:=Looks.of_pure hstub
 refine cls_open X LO L0 hg (looks_hook X (r:=none) (by rfl)) (by show subIn [] _ _ = _;rfl) (by rfl:findCls [] (.type "Exception") (.type "type") (Str.ofString "__init__") = some (.val (.builtin "Exception.__init__")))
  (wpAny_pure (by show wpAny _ _ (handedOut _) _ _ _;rw [handedOut_of (by rfl)];exact wpAny_pure h))
end
section
variable {C:Cx} {fi:FI} {k:Nat} {outer fs:List Env} {h₀ h h' h'':Heap} {th₀ th tl tl':List Addr} {sg sg' sg1 sg2 sg3:List Cell} {ro ro' ro1 ro2:List (Str × D)} {s:Shared} {d d1 d2 d3:D} {o o':Out} {r:Option D}
theorem set_self {α:Type} {l:List α} {i:Nat} {a:α} (h:l[i]? = some a):l.set i a = l:=by
 obtain ⟨hl,rfl⟩:=List.getElem?_eq_some_iff.mp h
 exact List.set_getElem_self hl
theorem TX.excInit {es:List Expr} {np apos cpos pos:Pos} {i:Nat} {Cc:Addr} (h1:TE C fi k (.Name "Exception" np) ro sg (some (.val (.type "Exception"))) sg) (h2:TEs C fi k es ro sg (some [.obj i,d]) sg) (hi:sg[i]? = some (.exc Cc none)) (Y:ExcCls C.K Cc)
  (hl:(apos.endLine == cpos.line) = true) (hp:es.all plainE = true) (hz:decide (es.length < 30) = true) (hint:interactive fi.env = false):
  TX C fi k (.Expr (.Call (.Attribute (.Name "Exception" np) "__init__" apos) es [] cpos) pos) ro sg .next ro sg:=by
 intro A outer h₀ th₀ th s Q E a I post
 refine wpAny_Expr_any ?_ hint rfl
 have few:methodCallForm (es.length + ([]:List Keyword).length) (backTo cpos (starEach es fi.env)) (backToKw cpos (keywordEach [] fi.env)) = true:=by
  have:=star_any (pos:=cpos) (env:=fi.env) hp
  unfold methodCallForm
  rw [show (backTo cpos (starEach es fi.env)).all (fun x=>!x.1) = true from by
   rw [List.all_eq_not_any_not]
   simp only [Bool.not_not,this,Bool.not_false]]
  show (true && true && decide (es.length + 0 + 0 < 30)) = true
  simpa using hz
 rw [arm_eval_Call,attributeBase_ok (by rfl)]
 refine wpAny_bind (h1 _ _ _ _ _ _ _ _ a I fun v h' tk tl J kp n r=>wpAny_bind (wpAny_standAt ?_))
 simp only [Rep] at r
 subst r
 unfold methodCall
 rw [few]
 refine wpAny_bind (wpAny_holding ?_)
 show wpAny _ _ (getMethod _ _ _) _ _ _
 refine getm_exc_init ?_
 have hpos:methodCallPos true (.Name "Exception" np) fi.env apos cpos = pure cpos:=by
  unfold methodCallPos
  rw [hl];rfl
 show wpAny _ _ (methodCallPos true (.Name "Exception" np) fi.env apos cpos >>= _) _ _ _
 rw [hpos]
 refine wpAny_bind (wpAny_pure ?_)
 refine callWith_mach (first:=[]) rfl hp (h2 _ _ _ _ _ _ cpos _ _ a J fun vs h'' tk' tl' J' kp' n' r'=>?_)
 rw [List.append_assoc] at J' r'
 obtain ⟨v1,v2,rfl,q1,q2⟩:=repL2 r'
 simp only [Rep] at q1
 obtain ⟨x,hx,rfl⟩:=q1
 obtain ⟨t,dv,ho,hdv⟩:=J'.hi.cells i _ x hi hx
 refine exc_init (s:={ s with heap:=h'',toks:=tk' }) J'.hi.K Y ho fun h3 t' kk hx'=>?_
 have J3:=J'.turn (c:=.exc Cc none) hx kk ⟨t',dv,hx',hdv⟩
 rw [set_self hi] at J3
 exact post h3 _ _ J3
theorem TX.attrExc0 {o value:Expr} {name:Str} {pos' pos:Pos} {i:Nat} {Cc:Addr} (h1:TE C fi k value ro sg (some d) sg1) (h2:TE C fi k o ro sg1 (some (.obj i)) sg2) (hi:sg2[i]? = some (.exc Cc none)) (Y:ExcCls C.K Cc)
  (ht:takerIn C.K Cc name = some none) (hsw:swapsWith value (some (.Attribute o name pos')) pos.line fi.env = pure false):
  TX C fi k (.Assign [.Attribute o name pos'] value pos) ro sg .next ro (sg2.set i (.exc Cc (some sg2.length)) ++ [.dict [(name,d)]]):=by
 intro A outer h₀ th₀ th s Q E a I post
 refine plainObj_wpAny_Assign_Attribute (h1 _ _ _ _ _ _ _ _ a I fun v h1' tk1 tl1 J1 kp1 n1 r1=>h2 _ _ _ _ _ _ _ _ a J1 fun v2 h2' tk2 tl2 J2 kp2 n2 r2=>?_) hsw
 simp only [Rep] at r2
 obtain ⟨x,hx,rfl⟩:=r2
 obtain ⟨t,dv,ho,hdv⟩:=J2.hi.cells i _ x hi hx
 subst hdv
 have r1':=r1.step (tl:=tl2) J1.below kp2
 have mem:=List.mem_of_getElem? hx
 have II:InstAt h2' x (excObj Cc t none) Cc none:=⟨ho,rfl,rfl,trivial⟩
 refine set_plain (s:={ s with heap:=h2',toks:=tk2 }) J2.hi.K II Y.set (exc_set0 (s:={ s with heap:=h2',toks:=tk2 + 1 }) J2.hi.K Y ho ht fun h3 kk hx' hD'=>?_)
 have kk':∀b o,b ≠ x → h2'.get? b = some o → h3.get? b = some o:=kk
 have hxs:x ≠ h2'.objs.size:=Nat.ne_of_lt (Heap.lt_size ho)
 have fresh:h2'.get? h2'.objs.size = none:=new_none
 have B:=J2.below
 have len:=B.len
 have hil:i < sg2.length:=(List.getElem?_eq_some_iff.mp hi).1
 have B1:=B.turn (c:=.dead) hx kk' ⟨_,hx',by intro q;cases q⟩
 have B2:=B1.more (a:=h2'.objs.size) (c:=.dict [(name,d)]) (fun m=>by
   obtain ⟨_,_,_,_,z⟩:=B.cellAt m
   obtain ⟨ob,e,_⟩:=z.get
   rw [fresh] at e;cases e) (B.fresh fresh) (fun env he q=>by
   obtain ⟨L,ob,es,n,p,_,_,e,_⟩:=(B.fr env he).at_
   rw [q] at p;cases p
   rw [fresh] at e;cases e) ⟨_,_,hD',_,_,[],rfl,(B.rep mem kk' r1').mono (fun i b e=>by rw [List.getElem?_append_left (List.getElem?_eq_some_iff.mp e).1];exact e) (fun _ _ e=>e),rfl⟩
 have B3:=B2.turn (h':=h3) (c:=.exc Cc (some sg2.length)) (i:=i) (a:=x) (by rw [List.getElem?_append_left (List.getElem?_eq_some_iff.mp hx).1];exact hx) (fun _ _ _ e=>e)
  ⟨t,_,hx',h2'.objs.size,by rw [←len];simp,rfl⟩
 have el:(sg2.set i .dead ++ [Cell.dict [(name,d)]]).set i (.exc Cc (some sg2.length)) = sg2.set i (.exc Cc (some sg2.length)) ++ [.dict [(name,d)]]:=by
  rw [List.set_append_left _ _ (by rw [List.length_set];exact hil),List.set_set]
 rw [el] at B3
 have J3:=J2.step (tl:=[h2'.objs.size]) B3 (Kp.turn mem B kk' ⟨_,hx'⟩) (fun b m=>by rw [List.mem_singleton] at m;subst m;exact fresh)
 rw [List.append_assoc,List.append_assoc] at J3
 exact post h3 _ _ J3
theorem TX.attrExc {o value:Expr} {name:Str} {pos' pos:Pos} {i dl:Nat} {Cc:Addr} {es:List (Str × D)} (h1:TE C fi k value ro sg (some d) sg1) (h2:TE C fi k o ro sg1 (some (.obj i)) sg2) (hi:sg2[i]? = some (.exc Cc (some dl))) (hd:sg2[dl]? = some (.dict es)) (hz:es.length ≤ 900) (Y:ExcCls C.K Cc)
  (ht:takerIn C.K Cc name = some none) (hsw:swapsWith value (some (.Attribute o name pos')) pos.line fi.env = pure false):
  TX C fi k (.Assign [.Attribute o name pos'] value pos) ro sg .next ro (sg2.set dl (.dict (put name d es))):=by
 intro A outer h₀ th₀ th s Q E a I post
 refine plainObj_wpAny_Assign_Attribute (h1 _ _ _ _ _ _ _ _ a I fun v h1' tk1 tl1 J1 kp1 n1 r1=>h2 _ _ _ _ _ _ _ _ a J1 fun v2 h2' tk2 tl2 J2 kp2 n2 r2=>?_) hsw
 simp only [Rep] at r2
 obtain ⟨x,hx,rfl⟩:=r2
 obtain ⟨t,dv,ho,dx,hdx,rfl⟩:=J2.hi.cells i _ x hi hx
 obtain ⟨en,n,hD,hE⟩:=J2.hi.cells dl _ dx hd hdx
 have r1':=r1.step (tl:=tl2) J1.below kp2
 have mem:=List.mem_of_getElem? hdx
 have II:InstAt h2' x (excObj Cc t (some dx)) Cc (some (dictOf en n)):=⟨ho,rfl,rfl,hD⟩
 refine set_plain (s:={ s with heap:=h2',toks:=tk2 }) J2.hi.K II Y.set (exc_set (s:={ s with heap:=h2',toks:=tk2 + 1 }) J2.hi.K Y ho ht (hE.someL name) hD (by rw [hE.len];exact hz) fun h3 kk hD'=>?_)
 have J3:=J2.turn (c:=.dict (put name d es)) hdx kk ⟨_,_,hD',(hE.put r1').mono' J2.hi mem kk⟩
 rw [List.append_assoc] at J3
 exact post h3 _ _ J3
end
section
variable {C:Cx} {fi:FI} {k:Nat} {outer fs:List Env} {h₀ h h' h'':Heap} {th₀ th tl tl':List Addr} {sg sg' sg1 sg2 sg3:List Cell} {ro ro' ro1 ro2:List (Str × D)} {s:Shared} {d d1 d2 d3:D} {o o':Out} {r:Option D} {args ds:List D}
theorem AOk.under {A:Around} {l:List Env} {c:Code} (a:AOk A (k + 1) l) (h1:c.envs = []) (h2:c.weight = 1) (h3:c.cUnits = 1):AOk (A.under c) k l:=
 ⟨by show pushEnvs c.envs A.frames = _;rw [h1];exact a.frames,a.hd,by have:=a.depth;show A.depth + c.weight + k < _;omega,by have:=a.units;show A.units + c.cUnits + 8 * k + 20 < _;omega⟩
theorem tc_weight {x:Addr} {vs:List Value}:(Code.builtin "type.__call__" ⟨.ref x :: vs,[]⟩).weight = 1:=by rfl
theorem tc_units {x:Addr} {vs:List Value}:(Code.builtin "type.__call__" ⟨.ref x :: vs,[]⟩).cUnits = 1:=by rfl
theorem tc_envs {x:Addr} {vs:List Value}:(Code.builtin "type.__call__" ⟨.ref x :: vs,[]⟩).envs = []:=by rfl
theorem CodeOk.make {Cc fI:Addr} (hm:makesIn C.K Cc = true) (hi:findIn C.K (.ref Cc) "__init__" = some (some (.ref fI))) (hf:typeIn C.K (.ref fI) = some (.type "function"))
  (h:CodeOk C k (.ref fI) (.obj (sg.length + 1) :: args) (sg ++ [.dict [],.inst Cc sg.length]) (some .none) sg'):CodeOk C (k + 1) (.ref Cc) args sg (some (.obj (sg.length + 1))) sg':=by
 intro A l th s vs R a I RR post
 obtain ⟨hp,g,dr,t,os⟩:=s
 have I:HI C th sg l hp:=I
 have len:=I.len
 refine make_core (makes_of I.K hm) (looks_findIn I.K hi) (fun self=>bind_fn I.K self hf) (.inl rfl) ?_
 have up1:∀b o,hp.get? b = some o → (hp.push emptyDict).get? b = some o:=push_ext
 have I1:HI C (th ++ [hp.objs.size]) (sg ++ [.dict []]) l (hp.push emptyDict):=I.grow (c:=.dict []) new_none up1 ⟨[],0,Heap.get?_push_size _ rfl,rfl⟩
 have n1:(hp.push emptyDict).get? (hp.objs.size + 1) = none:=by rw [←Heap.size_push hp emptyDict];exact new_none
 have I2:HI C (th ++ [hp.objs.size] ++ [hp.objs.size + 1]) (sg ++ [.dict []] ++ [.inst Cc sg.length]) l ((hp.push emptyDict).push (instObj Cc hp.objs.size)):=
  I1.grow (c:=.inst Cc sg.length) n1 push_ext ⟨hp.objs.size,by rw [←len];simp,by rw [←Heap.size_push hp emptyDict];exact Heap.get?_push_size _ rfl⟩
 rw [List.append_assoc,List.append_assoc] at I2
 have up2:∀b o,hp.get? b = some o → ((hp.push emptyDict).push (instObj Cc hp.objs.size)).get? b = some o:=fun b o e=>push_ext b o (push_ext b o e)
 have R2:RepL (th ++ [hp.objs.size,hp.objs.size + 1]) ((hp.push emptyDict).push (instObj Cc hp.objs.size)) (.obj (sg.length + 1) :: args) (.ref (hp.objs.size + 1) :: vs):=by
  simp only [RepL]
  refine ⟨_,_,rfl,?_,repL_grow RR up2⟩
  simp only [Rep]
  exact ⟨_,by rw [←len];simp,rfl⟩
 refine h _ l _ ⟨_,g,dr,t,os⟩ _ _ (a.under tc_envs tc_weight tc_units) I2 R2 fun v h' tk tl I' kp n' r'=>?_
 simp only [Rep] at r'
 subst r'
 have len2:=I'.len
 refine ⟨rfl,post (.ref (hp.objs.size + 1)) h' tk ([hp.objs.size,hp.objs.size + 1] ++ tl) (by rw [←List.append_assoc];exact I') ?_ ?_ ?_⟩
 ·have fr:∀b ∈ [hp.objs.size,hp.objs.size + 1],hp.get? b = none:=fun b m=>by
   simp only [List.mem_cons,List.not_mem_nil,or_false] at m
   rcases m with rfl | rfl
   ·exact new_none
   ·exact Heap.get?_none_of_le (Nat.le_succ _)
  exact (Kp.of_ext up2:Kp C th l hp _).trans fr kp
 ·intro b m
  rcases List.mem_append.mp m with m | m
  ·simp only [List.mem_cons,List.not_mem_nil,or_false] at m
   rcases m with rfl | rfl
   ·exact new_none
   ·exact Heap.get?_none_of_le (Nat.le_succ _)
  ·exact (Kp.of_ext up2:Kp C th l hp _).fresh (n' b m)
 ·simp only [Rep]
  refine ⟨_,?_,rfl⟩
  rw [←List.append_assoc,List.getElem?_append_left (by simp [len]),List.getElem?_append_right (by omega)]
  simp [len]
noncomputable def CallX (C:Cx) (k:Nat) (f:Value) (args:List D) (sg sg':List Cell):Prop:=
 ∀(A:Around) (l:List Env) (th:List Addr) (s:Shared) (vs:List Value) (Q E:Value → Shared → Prop),AOk A k l → HI C th sg l s.heap → RepL th s.heap args vs →
  (∀e h' tk,HI C th sg' l h' → Kp C th l s.heap h' → Flt C th s.heap h' e false → Q (.ref e) { s with heap:=h',toks:=tk }) → wpAny (model C.prog C.w) A (call f vs) Q E s
theorem CallX.make {Cc fI:Addr} {nm q:Str} {N:Addr} {bs bm:List Value} {hdct:Bool} {sn:List Str} {sub:List Value} {ab:Bool} {col:Option Bool} {dd:Option Addr} {k0 k1 k2 k3 k5:Option Value} {ents:List (Str × D)} (hG:C.GF = Cc)
  (hC:C.K.lookup Cc = some (excClassObj nm q Cc N bs bm hdct sn sub ab col dd k0 k1 k2 k3 k5 "Exception.__new__")) (H:excHas bm) (hi:findIn C.K (.ref Cc) "__init__" = some (some (.ref fI))) (hf:typeIn C.K (.ref fI) = some (.type "function"))
  (hz:args.length ≤ 100) (h:CodeOk C k (.ref fI) (.obj sg.length :: args) (sg ++ [.exc Cc none]) (some .none) (sg ++ [.exc Cc (some (sg.length + 1)),.dict ents])) (hu:(sg.all (Cell.under sg.length)) = true):CallX C (k + 1) (.ref Cc) args sg sg:=by
 intro A l th s vs Q E a I RR post
 refine wpAny_call ?_
 obtain ⟨hp,g,dr,t,os⟩:=s
 have I:HI C th sg l hp:=I
 have RR:RepL th hp args vs:=RR
 have len:=I.len
 have up2:∀b o,hp.get? b = some o → ((hp.push { cls:=.type "tuple",data:=.seq vs.toArray }).push (excObj Cc hp.objs.size none)).get? b = some o:=fun b o e=>push_ext b o (push_ext b o e)
 have n1:(hp.push { cls:=.type "tuple",data:=.seq vs.toArray }).get? (hp.objs.size + 1) = none:=by rw [←Heap.size_push hp { cls:=.type "tuple",data:=.seq vs.toArray }];exact new_none
 have I2:HI C (th ++ [hp.objs.size + 1]) (sg ++ [.exc Cc none]) l ((hp.push { cls:=.type "tuple",data:=.seq vs.toArray }).push (excObj Cc hp.objs.size none)):=
  (I.push _).grow (c:=.exc Cc none) n1 push_ext ⟨hp.objs.size,none,by rw [←Heap.size_push hp { cls:=.type "tuple",data:=.seq vs.toArray }];exact Heap.get?_push_size _ rfl,rfl⟩
 have n0:hp.get? (hp.objs.size + 1) = none:=Heap.get?_none_of_le (Nat.le_succ _)
 refine exc_call H I.K (I.K _ _ hC) hi hf ?_ (by
  have:sizeLine = 16777216:=by decide
  rw [RR.len];omega)
 refine wpAny_mono (h.call (A.under (.builtin "type.__call__" ⟨.ref Cc :: vs,[]⟩)) l _ ⟨_,g,dr,t,os⟩ (.ref (hp.objs.size + 1) :: vs) (fun v s'=>v = .none ∧ Q (.ref (hp.objs.size + 1)) s') (fun _ _=>False) (a.under tc_envs tc_weight tc_units) I2 ?_ fun v h' tk tl I' kp n' r'=>?_) (fun _ _ x=>x) (fun _ _ x=>x.elim)
 ·simp only [RepL]
  refine ⟨_,_,rfl,?_,repL_grow RR up2⟩
  simp only [Rep]
  exact ⟨_,by rw [←len];simp,rfl⟩
 ·simp only [Rep] at r'
  subst r'
  refine ⟨rfl,post (hp.objs.size + 1) h' tk ?_ ?_ ⟨n0,?_,?_⟩⟩
  ·have I3:=I'.take (n:=sg.length) (by rw [List.take_left' rfl];exact hu)
   rw [List.take_left' rfl,List.append_assoc,List.take_left' len] at I3
   exact I3
  ·exact (Kp.of_ext up2:Kp C th l hp _).trans (tl:=[hp.objs.size + 1]) (fun b m=>by rw [List.mem_singleton] at m;subst m;exact n0) kp
  ·intro m
   obtain ⟨_,_,_,_,z⟩:=I.cellAt m
   obtain ⟨ob,e,_⟩:=z.get
   rw [n0] at e;cases e
  ·obtain ⟨t',dv,ho,_⟩:=I'.cells sg.length (.exc Cc (some (sg.length + 1))) (hp.objs.size + 1) (by simp) (by rw [List.append_assoc,←len,List.getElem?_append_right (Nat.le_refl _)];simp)
   exact ⟨_,_,ho,by rw [hG],rfl,.inl ⟨rfl,rfl⟩⟩
noncomputable def TEX (C:Cx) (fi:FI) (k:Nat) (e:Expr) (ro:List (Str × D)) (sg sg':List Cell):Prop:=
 ∀(A:Around) (outer:List Env) (h₀:Heap) (th₀ th:List Addr) (s:Shared) (Q E:Value → Shared → Prop),AOk A k (fi.env :: outer) → InF C fi outer h₀ th₀ th sg ro s.heap →
  (∀x h' tk tl,InF C fi outer h₀ th₀ (th ++ tl) sg' ro h' → Flt C (th ++ tl) h₀ h' x false → Q (.ref x) { s with heap:=h',toks:=tk }) → wpAny (model C.prog C.w) A (eval e fi.env) Q E s
theorem callx_tail {A:Around} {Q E:Value → Shared → Prop} {f:Value} {vs:List Value} (hc:CallX C k f ds sg1 sg') (a:AOk A k (fi.env :: outer)) {tk:Tok} (J:InF C fi outer h₀ th₀ (th ++ tl) sg1 ro h)
  (R:RepL (th ++ tl) h ds vs) (post:∀x h' tk tl,InF C fi outer h₀ th₀ (th ++ tl) sg' ro h' → Flt C (th ++ tl) h₀ h' x false → Q (.ref x) { s with heap:=h',toks:=tk }):
  wpAny (model C.prog C.w) A (call f vs) Q E { s with heap:=h,toks:=tk }:=
 hc A _ _ { s with heap:=h,toks:=tk } _ _ _ a J.below R fun e h'' tk' I' kp' X=>
  post e h'' tk' tl (J.step0 I' kp') ⟨J.kp.fresh X.new,X.out,let ⟨oe,vs,a,b,c,d⟩:=X.obj;⟨oe,vs,a,b,c,d.imp id fun ⟨T,oT,ts,fl,x1,x2,x3,x4,x5⟩=>⟨T,oT,ts,fl,x1,x2,x3,J.kp.fresh x4,x5⟩⟩⟩
theorem TEX.call {f:Expr} {es:List Expr} {pos:Pos} {v:Value} (hf:plainF f = true) (hp:es.all plainE = true) (h1:TE C fi k f ro sg (some (.val v)) sg1) (hk:keepIn C.K v = true) (h2:TEs C fi k es ro sg1 (some ds) sg2) (hc:CallX C k v ds sg2 sg'):
  TEX C fi k (.Call f es [] pos) ro sg sg':=by
 intro A outer h₀ th₀ th s Q E a I post
 rw [eval_call hf]
 refine wpAny_bind (h1 _ _ _ _ _ _ _ _ a I fun v' h' tk tl J kp n r=>?_)
 simp only [Rep] at r
 subst r
 refine callWith_ok hk hp (h2 _ _ _ _ _ _ pos _ _ a J fun vs h'' tk' tl' J' kp' n' r'=>⟨J'.hi.K,?_⟩)
 rw [List.append_assoc] at J' r'
 exact callx_tail (s:=s) hc a J' r' post
theorem TEX.meth {o:Expr} {name:Str} {apos pos:Pos} {es:List Expr} {i dl:Nat} {Cc f:Addr} {ents:List (Str × D)} (hb:baseOk o = true) (hl:(apos.endLine == pos.line) = true) (hp:es.all plainE = true) (hz:decide (es.length < 30) = true)
  (h1:TE C fi k o ro sg (some (.obj i)) sg1) (X:IsInst sg1 i Cc dl ents) (hno:ents.lookup name = none) (hg:plainGet C.K Cc name = true) (hf:findIn C.K (.ref Cc) name = some (some (.ref f))) (ht:isFn C.K (.ref f) = true) (hk:keepIn C.K (.ref f) = true)
  (h2:TEs C fi k es ro sg1 (some ds) sg2) (hc:CallX C k (.ref f) (.obj i :: ds) sg2 sg'):TEX C fi k (.Call (.Attribute o name apos) es [] pos) ro sg sg':=by
 intro A outer h₀ th₀ th s Q E a I post
 have few:methodCallForm (es.length + ([]:List Keyword).length) (backTo pos (starEach es fi.env)) (backToKw pos (keywordEach [] fi.env)) = true:=by
  have:=star_any (pos:=pos) (env:=fi.env) hp
  unfold methodCallForm
  rw [show (backTo pos (starEach es fi.env)).all (fun x=>!x.1) = true from by
   rw [List.all_eq_not_any_not]
   simp only [Bool.not_not,this,Bool.not_false]]
  show (true && true && decide (es.length + 0 + 0 < 30)) = true
  simpa using hz
 rw [arm_eval_Call,attributeBase_ok hb]
 refine wpAny_bind (h1 _ _ _ _ _ _ _ _ a I fun v h' tk tl J kp n r=>wpAny_bind (wpAny_standAt ?_))
 simp only [Rep] at r
 obtain ⟨x,hx,rfl⟩:=r
 obtain ⟨dx,en,m,e,hE,_,II⟩:=J.hi.inst X hx
 have look:=hE.look name
 rw [hno] at look
 unfold methodCall
 rw [few]
 refine wpAny_bind (wpAny_holding ?_)
 show wpAny _ _ (getMethod _ _ _) _ _ _
 refine method_fn (s:={ s with heap:=h',toks:=tk }) J.hi.K II (plainGet_of hg).1 (plainGet_of hg).2 hf (beq_iff_eq.mp ht) (by show (lookIn name (dictOf en m)).map _ = _;rw [lookIn_dict,look];rfl) ?_
 have hpos:methodCallPos true o fi.env apos pos = pure pos:=by
  unfold methodCallPos
  rw [hl];rfl
 show wpAny _ _ (methodCallPos true o fi.env apos pos >>= _) _ _ _
 rw [hpos]
 refine wpAny_bind (wpAny_pure ?_)
 refine callWith_ok (first:=[Value.ref x]) hk hp (h2 _ _ _ _ _ _ pos _ _ a J fun vs h'' tk' tl' J' kp' n' r'=>⟨J'.hi.K,?_⟩)
 rw [List.append_assoc] at J' r'
 refine callx_tail (s:=s) hc a J' ?_ post
 simp only [RepL]
 refine ⟨.ref x,vs,rfl,?_,r'⟩
 simp only [Rep]
 exact ⟨x,by rw [←List.append_assoc,List.getElem?_append_left (List.getElem?_eq_some_iff.mp hx).1];exact hx,rfl⟩
noncomputable def TSX (C:Cx) (fi:FI) (k:Nat) (ss:List Stmt) (ro:List (Str × D)) (sg sg':List Cell):Prop:=
 ∀(A:Around) (outer:List Env) (h₀:Heap) (th₀ th:List Addr) (s:Shared) (Q:Flow → Shared → Prop) (E:Value → Shared → Prop),AOk A k (fi.env :: outer) → InF C fi outer h₀ th₀ th sg ro s.heap →
  (∀x h' tk tl ro',InF C fi outer h₀ th₀ (th ++ tl) sg' ro' h' → Flt C (th ++ tl) h₀ h' x false → Q (.ret (.ref x)) { s with heap:=h',toks:=tk }) → wpAny (model C.prog C.w) A (execs ss fi.env) Q E s
theorem TSX.cons {st:Stmt} {rest:List Stmt} (h1:TX C fi k st ro sg .next ro1 sg1) (h2:TSX C fi k rest ro1 sg1 sg2):TSX C fi k (st :: rest) ro sg sg2:=
 fun A outer h₀ th₀ th s Q E a I post=>wpAny_execs_cons (h1 _ _ _ _ _ _ _ _ a I fun h' tk tl J=>h2 _ _ _ _ _ _ _ _ a J fun x h'' tk' tl' ro' J' X=>by
  rw [List.append_assoc] at J' X
  exact post x h'' tk' _ ro' J' X)
theorem TSX.ret {e:Expr} {pos:Pos} {rest:List Stmt} (h1:TEX C fi k e ro sg sg1):TSX C fi k (.Return (some e) pos :: rest) ro sg sg1:=
 fun A outer h₀ th₀ th s Q E a I post=>wpAny_execs_cons (wpAny_Return_some (h1 _ _ _ _ _ _ _ _ a I fun x h' tk tl J X=>post x h' tk tl ro J X))
theorem CallX.of_def {f:Addr} {name qual:Str} {params:Arguments} {body:List Stmt} {scope:Scope} {dV kV doc pm cdv ct oc:Value} {an od:Option Addr} {osl:Array (Option Value)}
  (ho:C.K.lookup f = some ⟨oc,od,.func (fnOf name qual params body scope dV kV doc pm an cdv ct),osl⟩) (hcd:codeIn C.K cdv qual = true)
  (hb:∀(th:List Addr) (s:Shared) (vs:List Value),C.K.In s.heap → RepL th s.heap args vs → ∃bs,BindsTo s (fnOf name qual params body scope dV kV doc pm an cdv ct) ⟨vs,[]⟩ bs ∧ AllRep th s.heap ro bs)
  (hnd:decide (ro.map (·.1)).Nodup = true) (hloc:((ro.map (·.1)).all fun x=>scope.names.lookup x == some .local) = true) (hcell:(scope.names.all fun x=>x.2 != .cell) = true)
  (hs:(scope.isCoroutine == false && scope.isGenerator == false && scope.kind == .function) = true) (hu:((sg'.take sg.length).all (Cell.under sg.length)) = true)
  (hbody:∀L,TSX C ⟨qual,scope,L,f,cdv,[],[]⟩ k body ro sg sg'):CallX C (k + 1) (.ref f) args sg (sg'.take sg.length):=by
 intro A l th s vs Q E a I R post
 simp only [Bool.and_eq_true,beq_iff_eq] at hs
 obtain ⟨bs,hbs,hA⟩:=hb th s vs I.K R
 have keys:=hA.keys
 refine wpAny_call (codeAny_call_def (fd:=fnOf name qual params body scope dV kV doc pm an cdv ct) (body:=body) (binds:=bs) a.room (I.K _ _ ho) rfl I.nolim (codeRec_of I.K hcd) rfl hbs
  (fun x hx=>by have:=List.all_eq_true.mp hcell x hx;simpa using this) (fun x hx=>by
   have m:x.1 ∈ ro.map (·.1):=by rw [←keys];exact List.mem_map_of_mem hx
   have:=List.all_eq_true.mp hloc _ m
   simpa using this) (fun h₁ hns hk₁=>?_) hs.1.1 hs.1.2 hs.2)
 have ns:∃m,h₁.Ns s.heap.objs.size m ∧ ∀(x:Str) (d:D),ro.lookup x = some d → ∃v,m x = some v ∧ Rep th h₁ d v:=⟨_,hns,fun x d e=>by
  obtain ⟨v,a,b⟩:=hA.look x d e
  exact ⟨v,lookup_rev (by rw [keys];exact of_decide_eq_true hnd) x v a,b.ext hk₁⟩⟩
 have J:InF C ⟨qual,scope,s.heap.objs.size,f,cdv,[],[]⟩ l s.heap th th sg ro h₁:=InF.enter (fi:=⟨qual,scope,s.heap.objs.size,f,cdv,[],[]⟩) I hk₁ rfl hs.2 rfl ns
 refine hbody s.heap.objs.size _ _ _ _ _ _ _ _ (a.deeper _) J fun e h' t tl ro' J' X=>?_
 have J2:=J'.hi.take (n:=sg.length) hu
 have X2:=X.take (n:=sg.length)
 rw [List.take_left' I.len] at J2 X2
 exact post e h' t J2 J'.kp X2
theorem raise_tail {A:Around} {Q:Flow → Shared → Prop} {E:Value → Shared → Prop} {x:Addr} (Y:ExcCls C.K C.GF) (a:AOk A k (fi.env :: outer)) (J:InF C fi outer h₀ th₀ th sg ro s.heap) (X:Flt C th h₀ s.heap x false)
  (post:∀h',InF C fi outer h₀ th₀ th sg ro h' → Flt C th h₀ h' x false → E (.ref x) { s with heap:=h' }):
  wpAny (model C.prog C.w) A (raiseStmt fi.env (some (pure (.ref x))) none) Q E s:=by
 obtain ⟨oe,vs,ho,hc,hd,hv⟩:=X.obj
 have ty:Looks (model C.prog C.w) s.heap (typeOf (.ref x)) (.ref C.GF):=hc ▸ (Looks.ld ho).andThen .now
 have sub:Looks (model C.prog C.w) s.heap (isInstance (.ref x) (.type "BaseException")) true:=ty.andThen (looks_mroIn J.hi.K Y.base)
 have isT:Looks (model C.prog C.w) s.heap (isType (.ref x)) false:=(Looks.ld ho).andThen (by rw [hd];exact .now)
 have notC:Looks (model C.prog C.w) s.heap (isExcClass (.ref x)) false:=isT.andThen .now
 have ec:∀m:String,Looks (model C.prog C.w) s.heap (excFromValue (.ref x) m) (.ref x):=fun m=>notC.andThen (sub.andThen .now)
 have meta_:Looks (model C.prog C.w) s.heap (typeOf (.ref C.GF)) (.type "type"):=Y.meta_ _ _ J.hi.K
 have ri:Looks (model C.prog C.w) s.heap (raisedInstance (.ref x)) (.ref x):=ty.andThen (meta_.andThen .now)
 unfold raiseStmt
 refine wpAny_bind (wpAny_pure (wpAny_bind (wpAny_pure (wpAny_bind (wpAny_holding ((ec _).here ?_))))))
 refine wpAny_bind (isT.here ?_)
 rw [if_neg Bool.false_ne_true]
 refine wpAny_bind (ri.here ?_)
 refine wpAny_bind (setFlight_flt J X fun h' J' X'=>?_)
 unfold raiseNew
 refine wpAny_bind (wpAny_handled ?_)
 rw [a.hd]
 first
  | exact wpAny_throw (post h' J' X')
  | exact wpAny_bind (wpAny_pure (wpAny_throw (post h' J' X')))
theorem TX.raise {e:Expr} {pos:Pos} (Y:ExcCls C.K C.GF) (h1:TEX C fi k e ro sg sg1):TX C fi k (.Raise (some e) none pos) ro sg .exc ro sg1:=by
 intro A outer h₀ th₀ th s Q E a I post
 rw [arm_exec_Raise]
 refine wpAny_bind (wpAny_standAt ?_)
 show wpAny _ A (raiseStmt fi.env (some (do let v ←eval e fi.env;standAt pos;pure v)) none) Q E s
 have key:∀(x:Sem Value),wpAny (model C.prog C.w) A x (fun v s₁=>wpAny (model C.prog C.w) A (raiseStmt fi.env (some (pure v)) none) Q E s₁) E s → wpAny (model C.prog C.w) A (raiseStmt fi.env (some x) none) Q E s:=fun x hx=>by
  unfold raiseStmt at hx ⊢
  refine wpAny_bind (wpAny_mono hx (fun v s₁ h=>?_) fun _ _ y=>y)
  exact h
 refine key _ (wpAny_bind (h1 _ _ _ _ _ _ _ _ a I fun x h' tk tl J X=>wpAny_bind (wpAny_standAt (wpAny_pure ?_))))
 exact raise_tail (s:={ s with heap:=h',toks:=tk }) Y a J X fun h'' J' X'=>post x h'' tk tl false J' X'
end
section
variable {C:Cx} {fi:FI} {k:Nat} {outer fs:List Env} {h₀ h h' h'':Heap} {th₀ th tl tl':List Addr} {sg sg' sg1 sg2 sg3:List Cell} {ro ro' ro1 ro2:List (Str × D)} {s:Shared} {d d1 d2 d3:D} {o o':Out} {r:Option D} {args ds:List D}
theorem InF.frame (I:InF C fi outer h₀ th₀ th sg ro h) (hs:Heap.SameBut fi.L h h')
  (hn:∃m',h'.Ns fi.L m' ∧ ∀(y:Str) (d:D),ro'.lookup y = some d → ∃v,m' y = some v ∧ Rep th h d v):InF C fi outer h₀ th₀ th sg ro' h':=by
 have B:=I.below
 have up:∀b o,b ≠ fi.L → h.get? b = some o → h'.get? b = some o:=fun b o n e=>(hs.2 b n).trans e
 have tup:∀a vs,h.TupAt a vs → h'.TupAt a vs:=fun a vs ht=>by
  have:=(B.noTup ht).2.2 _ (.head _)
  obtain ⟨o,n,ho,q⟩:=ht
  exact ⟨o,n,up a o (fun z=>this (by rw [z])) ho,q⟩
 have hP:C.P ≠ fi.L:=fun q=>I.basP (q ▸ I.lo)
 obtain ⟨m',hm1,hm2⟩:=hn
 refine ⟨⟨fun b o n e=>up b o (fun q=>?_) (I.hi.stays b o n e),?_,I.hi.len,I.hi.nd,I.hi.high,fun i c a e1 e2=>?_,fun env he=>⟨(I.hi.fr env he).kind,?_⟩⟩,?_,I.pre,I.base,I.basP,I.lo,I.lth,I.lf,I.lk,⟨m',hm1,fun y d' e=>?_⟩,fun y d' e=>?_⟩
 ·rw [q,I.base _ I.lo] at e;cases e
 ·obtain ⟨ps,e,q⟩:=I.hi.tab
  exact ⟨ps,up _ _ hP e,q⟩
 ·exact (I.hi.cells i c a e1 e2).mono (fun _ _ e=>e) tup fun o e=>up a o (fun q=>I.lth (q ▸ List.mem_of_getElem? e2)) e
 ·obtain ⟨L,o,es,n,p,q,r',s,t⟩:=(I.hi.fr env he).at_
  exact ⟨L,o,es,n,p,q,r',up L o (fun z=>I.lf env he (by rw [p,z])) s,t⟩
 ·exact ⟨fun b o e=>by
   by_cases q:b = fi.L
   ·rw [q,I.lo] at e;cases e
   ·obtain ⟨o',e'⟩:=I.kp.dom b o e
    exact ⟨o',up b o' q e'⟩,fun b o e n1 n2 n3=>up b o (fun q=>by rw [q,I.lo] at e;cases e) (I.kp.keep b o e n1 n2 n3),fun env he L hf o e=>by
   obtain ⟨sl,e1⟩:=I.kp.frames env he L hf o e
   exact ⟨sl,up L _ (fun z=>I.lf env he (by rw [hf,z])) e1⟩⟩
 ·obtain ⟨v,a,b⟩:=hm2 y d' e
  exact ⟨v,a,b.mono (fun _ _ e=>e) tup⟩
 ·obtain ⟨c,v',a,⟨oc,ho,hd⟩,r',n1,n2,n3,n4⟩:=I.cl y d' e
  exact ⟨c,v',a,⟨oc,up c oc n3 ho,hd⟩,r'.mono (fun _ _ e=>e) tup,n1,n2,n3,n4⟩
theorem TX.tryOk {body:List Stmt} {hd:ExceptHandler} {hs:List ExceptHandler} {pos:Pos} (h1:TS C fi k body ro sg .next ro1 sg1):TX C fi k (.Try body (hd :: hs) [] [] pos) ro sg .next ro1 sg1:=
 fun A outer h₀ th₀ th s Q E a I post=>wpAny_Try_except (h1 _ _ _ _ _ _ _ _ a I fun h' tk tl J=>wpAny_execs_nil (post h' tk tl J))
theorem TX.tryX {body:List Stmt} {x n y:Str} {np hpos p1 p2 p3 pos:Pos} {hs:List ExceptHandler} {nm q:Str} {N:Addr} {bs bm:List Value} {hdct:Bool} {sn:List Str} {sub:List Value} {ab:Bool} {col:Option Bool} {dd:Option Addr} {k0 k1 k2 k3 k5:Option Value} {newId:String}
  (h1:TS C fi k body ro sg .exc ro1 sg1) (hC:C.K.lookup C.GF = some (excClassObj nm q C.GF N bs bm hdct sn sub ab col dd k0 k1 k2 k3 k5 newId)) (hb:bm.contains (.type "BaseException") = true)
  (hx:fi.scope.names.lookup x = some .globalImplicit) (hg:nsIn C.K mainGlobals x = some (some (.ref C.GF))) (hd:(x == ("__debug__":Str)) = false) (hn:fi.scope.names.lookup n = some .local) (hy:fi.scope.names.lookup y = some .local) (hyn:(y == n) = false) (hnd:(n == ("__debug__":Str)) = false) (ho:ro1.lookup n = none)
  (hsw:swapsWith (.Name n p2) (some (.Name y p1)) p3.line fi.env = pure false):
  TX C fi k (.Try body (.ExceptHandler (some (.Name x np)) (some n) [.Assign [.Name y p1] (.Name n p2) p3] hpos :: hs) [] [] pos) ro sg .next (put y .aref ro1) sg1:=by
 intro A outer h₀ th₀ th s Q E a I post
 refine wpAny_Try_except (h1 _ _ _ _ _ _ _ _ a I fun e h' tk tl b J X=>?_)
 refine noteFrame_flt (s:={ s with heap:=h',toks:=tk }) a.frames J X fun h1' J1 X1=>?_
 refine setFlight_flt (s:={ s with heap:=h1',toks:=tk }) J1 X1 fun h2' J2 X2=>?_
 refine wpAny_handleBy_cons (codeAny_handlers_test ?_) (by intro q;cases q)
 refine Name_function_global (env:=fi.env) J2.lk hx (loadGlobal_global (env:=fi.env) (J2.hi.g C.G) (mg_of C.KH C.G hg) ?_) hd
 obtain ⟨oe,vs,hoe,hce,_⟩:=X2.obj
 refine wpAny_excMatches_sub_self (J2.hi.K _ _ hC) hoe hce hb (codeAny_handlers_suite_as ?_)
 refine setFlight_flt (s:={ s with heap:=h2',toks:=tk }) J2 X2 fun h3 J3 X3=>?_
 refine store_ok2 (s:={ s with heap:=h3,toks:=tk }) (d:=.aref) hn J3 (by simp only [Rep];exact ⟨e,rfl⟩) fun h4 tk4 J4 _=>?_
 refine wpAny_execs_cons (wpAny_Assign_Name ?_ hsw)
 obtain ⟨m,hm,hv⟩:=J4.ns
 obtain ⟨v,em,rv⟩:=hv n .aref (by rw [put_lookup];simp)
 refine wpAny_Name (wpAny_loadName_local (env:=fi.env) J4.lk hn hm em ?_) hnd
 refine store_ok2 (s:={ s with heap:=h4,toks:=tk4 }) (d:=.aref) hy J4 rv fun h5 tk5 J5 _=>?_
 refine wpAny_execs_nil ?_
 show wpAny _ A (do bindName fi.env n .none;unbindBehindTheSuite fi.env n hpos) _ _ _
 refine wpAny_bind (wpAny_bindName (store_ok2 (s:={ s with heap:=h5,toks:=tk5 }) (d:=.none) hn J5 (by simp only [Rep]) fun h6 tk6 J6 _=>?_))
 obtain ⟨m6,hm6,hv6⟩:=J6.ns
 obtain ⟨v6,em6,_⟩:=hv6 n .none (by rw [put_lookup];simp)
 refine wpAny_onRaise (wpAny_unbindName_local (env:=fi.env) hn hm6 em6 (by
  show (fi.scope.kind == .class || (fi.scope.kind == .module && _)) = false
  rw [J6.lk];rfl) fun h7 u hN hS=>?_)
 have J7:InF C fi outer h₀ th₀ (th ++ tl) sg1 (put y .aref ro1) h7:=J6.frame hS ⟨_,hN,fun z d hz=>by
  have nz:z ≠ n:=fun q=>by
   subst q
   rw [put_lookup] at hz
   have:¬ (z == y) = true:=fun q=>by
    have:z = y:=beq_iff_eq.mp q
    subst this
    rw [beq_self_eq_true] at hyn
    cases hyn
   rw [if_neg this,ho] at hz
   cases hz
  have nb:¬ (z == n) = true:=fun q=>nz (beq_iff_eq.mp q)
  obtain ⟨v,ev,rv⟩:=hv6 z d (by
    rw [put_lookup,if_neg nb,put_lookup]
    by_cases q:(z == y) = true
    ·rw [if_pos q];rw [put_lookup,if_pos q] at hz;exact hz
    ·rw [if_neg q,put_lookup,if_neg nb];rw [put_lookup,if_neg q] at hz;exact hz)
  exact ⟨v,by rw [if_neg nz];exact ev,rv⟩⟩
 exact post h7 _ tl J7
end
section
variable {C:Cx} {fi:FI} {k:Nat} {outer fs:List Env} {h₀ h h' h'':Heap} {th₀ th tl tl':List Addr} {sg sg' sg1 sg2 sg3:List Cell} {ro ro' ro1 ro2:List (Str × D)} {s:Shared} {d d1 d2 d3:D} {o o':Out} {r:Option D} {args ds:List D}
theorem InF.table (I:InF C fi outer h₀ th₀ th sg ro h) {ps:Array Value} (k:∀b o,b ≠ C.P → h.get? b = some o → h'.get? b = some o) (hP:h'.get? C.P = some (tabObj ps)) (ht:TriplesOk ps.toList):InF C fi outer h₀ th₀ th sg ro h':=by
 have B:=I.below
 have cP:∀a ∈ th,a ≠ C.P:=fun a m q=>by
  have:=C.hP
  rw [←q,B.high a m] at this;cases this
 have J:HI C th sg (fi.env :: outer) h':=by
  refine ⟨fun b o n e=>k b o n (B.stays b o n e),⟨ps,hP,ht⟩,B.len,B.nd,B.high,fun i c a e1 e2=>?_,fun env he=>⟨(B.fr env he).kind,?_⟩⟩
  ·exact (B.cells i c a e1 e2).mono (fun _ _ e=>e) (fun b vs t=>by
    have n:=(B.noTup t).2.1
    obtain ⟨o,m,ho,q⟩:=t
    exact ⟨o,m,k b o n ho,q⟩) fun o e=>k a o (cP a (List.mem_of_getElem? e2)) e
  ·obtain ⟨L,o,es,n,p,q,r,t,u⟩:=(B.fr env he).at_
   exact ⟨L,o,es,n,p,q,r,k L o (fun z=>by have:=C.hP;rw [←z,q] at this;cases this) t,u⟩
 refine I.step0 J ⟨fun b o e=>?_,fun b o e _ n _=>k b o n e,fun env he L hf o e=>?_⟩
 ·by_cases q:b = C.P
  ·exact ⟨_,q ▸ hP⟩
  ·exact ⟨o,k b o q e⟩
 ·obtain ⟨L',o',es,n,p,q,_⟩:=(B.fr env he).at_
  rw [hf] at p;cases p
  exact ⟨o.slots,k L o (fun z=>by have:=C.hP;rw [←z,q] at this;cases this) e⟩
theorem TE.lam {params:Arguments} {body:Expr} {scope:Scope} {pos:Pos} {clos:List (Str × Addr)} (hcd:fi.cd = .ref C.cP) (hcl:closureFor scope fi.env = pure clos) (hdef:defaultsOf params fi.env = ([],[])):
  TE C fi k (.Lambda params body scope pos) ro sg (some .aref) sg:=by
 intro A outer h₀ th₀ th s Q E a I post
 obtain ⟨ps,hP,ht⟩:=I.hi.tab
 have hg:=I.hi.g C.G
 have hgP:mainGlobals ≠ C.P:=fun q=>by
  obtain ⟨o,es,ep,ho,hd,_⟩:=C.G
  rw [q,C.hP] at ho;cases ho;cases hd
 have hb:s.heap.BuiltinsAt C.mg C.P:=by
  obtain ⟨bm,ob,e1,e2,e3,e4,e5,e6⟩:=C.bmain
  have nP:bm ≠ C.P:=fun q=>by rw [q,C.hP] at e3;cases e3;cases e4
  refine ⟨bm,ob,e1,e2,fun q=>?_,nP,I.hi.stays bm ob nP e3,e4,e5,e6⟩
  obtain ⟨o,es,ep,ho,hd,_⟩:=C.G
  rw [q,ho] at e3;cases e3
  rw [e6] at hd;cases hd
 have hd:CodeHd s.heap C.cP C.P:=by
  obtain ⟨o,vs,file,tf,flags,tg,inF,text,tt,x1,r⟩:=C.hd
  have:C.cP ≠ C.P:=r.2.2.2.2.2.2.2.2
  exact ⟨o,vs,file,tf,flags,tg,inF,text,tt,I.hi.stays _ _ this x1,r⟩
 refine kla_eval hdef ?_
 cases hc:codeAmong pos ps.toList with
 | some cv=>
  refine kla_makeFunctionHit (env:=fi.env) hcl rfl hg hcd hd hP ht hc hb fun ctv h' tk kp _=>?_
  have kp2:∀b o,s.heap.get? b = some o → (h'.push { cls:=.type "function",data:=.func (kla_fn "<lambda>" (fi.env.qual ++ "<lambda>") params body scope clos ((C.mg "__name__").getD .none) cv ctv) }).get? b = some o:=fun b o e=>push_ext b o (kp b o e)
  exact pv0 post (I.ext kp2) (.of_ext kp2) (by simp only [Rep];exact ⟨_,rfl⟩)
 | none=>
  refine kla_makeFunction (env:=fi.env) hcl rfl hg hcd hd hP ht hc hgP hb fun c' ctv h' tk kp _ _ _ hP'=>?_
  have kp2:∀b o,b ≠ C.P → s.heap.get? b = some o → (h'.push (kla_obj "<lambda>" (fi.env.qual ++ "<lambda>") params body scope clos ((C.mg "__name__").getD .none) c' ctv)).get? b = some o:=fun b o n e=>push_ext b o (kp b o n e)
  have J:=I.table kp2 (ps:=ps ++ #[rawInt pos.line,rawInt pos.col,.ref c']) (push_ext _ _ hP') (by
   have:=TriplesOk_snoc pos.line pos.col (.ref c') ps.toList ht
   simpa using this)
  refine pv0 post J ⟨fun b o e=>?_,fun b o e _ n _=>kp2 b o n e,fun env he L hf o e=>?_⟩ (by simp only [Rep];exact ⟨_,rfl⟩)
  ·by_cases q:b = C.P
   ·exact ⟨_,q ▸ push_ext _ _ hP'⟩
   ·exact ⟨o,kp2 b o q e⟩
  ·obtain ⟨L',o',es,n,p,q,_⟩:=(I.below.fr env he).at_
   rw [hf] at p;cases p
   exact ⟨o.slots,kp2 L o (fun z=>by have:=C.hP;rw [←z,q] at this;cases this) e⟩
end
section
variable {C:Cx} {fi:FI} {k:Nat} {outer fs:List Env} {h₀ h h' h'':Heap} {th₀ th tl tl':List Addr} {sg sg' sg1 sg2 sg3:List Cell} {ro ro' ro1 ro2:List (Str × D)} {s:Shared} {d d1 d2 d3:D} {o o':Out} {r:Option D} {args ds:List D}
theorem CodeOk.of_defC {f:Addr} {n:Nat} {x1 x2:Str} {name qual:Str} {params:Arguments} {body:List Stmt} {scope:Scope} {dV kV doc pm cdv ct oc:Value} {an od:Option Addr} {osl:Array (Option Value)}
  (ho:C.K.lookup f = some ⟨oc,od,.func (fnOf name qual params body scope dV kV doc pm an cdv ct),osl⟩) (hcd:codeIn C.K cdv qual = true)
  (hb:∀v1 v2:Value,bindArgs (fnOf name qual params body scope dV kV doc pm an cdv ct) ⟨[v1,v2],[]⟩ = pure [(x1,v1),(x2,v2)])
  (hl1:scope.names.lookup x1 = some .local) (hl2:scope.names.lookup x2 = some .cell) (hne:(x2 == x1) = false) (hcl:∀L,cellsFrom (L + 1) scope.names [] = [(x2,L + 1)])
  (hs:(scope.isCoroutine == false && scope.isGenerator == false && scope.kind == .function) = true) (hro:retOf o = some r) (hn:sg.length ≤ n) (hu:((sg'.take n).all (Cell.under n) && (r.all (D.under n))) = true) (hx:r = none → n = sg.length)
  (hbody:∀L,TS C ⟨qual,scope,L,f,cdv,[(x2,L + 1)],[(x2,d2)]⟩ k body [(x1,d1)] sg o ro' sg'):CodeOk C (k + 1) (.ref f) [d1,d2] sg r (sg'.take n):=by
 intro A l th s vs Rr a I R post
 simp only [Bool.and_eq_true,beq_iff_eq] at hs hu
 obtain ⟨v1,v2,rfl,r1,r2⟩:=repL2 R
 have hcl':=hcl s.heap.objs.size
 refine codeAny_call_cells (fd:=fnOf name qual params body scope dV kV doc pm an cdv ct) (body:=body) (binds:=[(x1,v1),(x2,v2)]) a.room (I.K _ _ ho) rfl I.nolim (codeRec_of I.K hcd) rfl (hb v1 v2) rfl
  (fun x hx=>?_) (fun s₁ X=>?_) hs.1.1 hs.1.2 hs.2
 ·simp only [List.mem_cons,List.not_mem_nil,or_false] at hx
  rcases hx with rfl | rfl
  ·exact .inl hl1
  ·refine .inr ⟨hl2,?_⟩
   show ((cellsFrom (s.heap.objs.size + 1) scope.names []).lookup x2).isSome = true
   rw [hcl'];simp
 have eE:callEnvC (fnOf name qual params body scope dV kV doc pm an cdv ct) s.heap.objs.size f = FI.env ⟨qual,scope,s.heap.objs.size,f,cdv,[(x2,s.heap.objs.size + 1)],[(x2,d2)]⟩:=by
  show newEnv scope s.heap.objs.size mainGlobals (cellsFrom (s.heap.objs.size + 1) scope.names []) (qual ++ ".<locals>.") (some f) cdv none builtinsNs = _
  rw [hcl'];rfl
 rw [eE] at X ⊢
 obtain ⟨⟨⟨hp,tk,rfl⟩,ns,kp,_⟩,cell,_,_⟩:=X
 have kp:∀b o,s.heap.get? b = some o → hp.get? b = some o:=kp
 have hcell:hp.IsCell (s.heap.objs.size + 1) (some v2):=by
  have:=cell x2 (s.heap.objs.size + 1) (by show List.lookup x2 [(x2,s.heap.objs.size + 1)] = _;simp)
  have e:bindC (FI.env ⟨qual,scope,s.heap.objs.size,f,cdv,[(x2,s.heap.objs.size + 1)],[(x2,d2)]⟩).kindOf [(x1,v1),(x2,v2)] (fun _=>none) x2 = some v2:=by
   have k1:(FI.env ⟨qual,scope,s.heap.objs.size,f,cdv,[(x2,s.heap.objs.size + 1)],[(x2,d2)]⟩).kindOf x1 = some .local:=hl1
   have k2:(FI.env ⟨qual,scope,s.heap.objs.size,f,cdv,[(x2,s.heap.objs.size + 1)],[(x2,d2)]⟩).kindOf x2 = some .cell:=hl2
   simp only [bindC,k1,k2,if_true]
   rw [if_neg (by decide)]
   simp
  rw [e] at this
  exact this
 have hN:hp.get? (s.heap.objs.size) = none ∨ True:=.inr trivial
 have n0:s.heap.get? s.heap.objs.size = none:=new_none
 have n1:s.heap.get? (s.heap.objs.size + 1) = none:=Heap.get?_none_of_le (Nat.le_succ _)
 have notin:∀b,s.heap.get? b = none → b ∉ th:=fun b e m=>by
  obtain ⟨_,_,_,_,z⟩:=I.cellAt m
  obtain ⟨ob,e',_⟩:=z.get
  rw [e] at e';cases e'
 have notfr:∀b,s.heap.get? b = none → ∀env ∈ l,env.frame ≠ some b:=fun b e env he q=>by
  obtain ⟨L,ob,es,n,p,_,_,e',_⟩:=(I.fr env he).at_
  rw [q] at p;cases p
  rw [e] at e';cases e'
 have J:InF C ⟨qual,scope,s.heap.objs.size,f,cdv,[(x2,s.heap.objs.size + 1)],[(x2,d2)]⟩ l s.heap th th sg [(x1,d1)] hp:=by
  refine ⟨I.ext kp,.of_ext kp,⟨[],by rw [List.append_nil],fun _ m=>nomatch m⟩,fun b=>I.fresh,fun q=>?_,n0,notin _ n0,notfr _ n0,hs.2,⟨_,ns,fun x d e=>?_⟩,fun x d e=>?_⟩
  ·obtain ⟨ps,e,_⟩:=I.tab
   rw [e] at q;cases q
  ·simp only [List.lookup_cons] at e
   by_cases q:(x == x1) = true
   ·have q':x = x1:=beq_iff_eq.mp q
    subst q'
    simp only [beq_self_eq_true] at e
    cases e
    have k1:(FI.env ⟨qual,scope,s.heap.objs.size,f,cdv,[(x2,s.heap.objs.size + 1)],[(x2,d2)]⟩).kindOf x = some .local:=hl1
    have k2:(FI.env ⟨qual,scope,s.heap.objs.size,f,cdv,[(x2,s.heap.objs.size + 1)],[(x2,d2)]⟩).kindOf x2 = some .cell:=hl2
    refine ⟨v1,?_,r1.ext kp⟩
    simp only [bindL,k1,k2,if_true]
    rw [if_neg (by decide)]
    simp
   ·simp only [Bool.not_eq_true] at q
    simp only [q,List.lookup_nil] at e
    cases e
  ·simp only [List.lookup_cons] at e
   by_cases q:(x == x2) = true
   ·have q':x = x2:=beq_iff_eq.mp q
    subst q'
    simp only [beq_self_eq_true] at e
    cases e
    exact ⟨s.heap.objs.size + 1,v2,by simp,hcell,r2.ext kp,notin _ n1,n1,Nat.succ_ne_self _,notfr _ n1⟩
   ·simp only [Bool.not_eq_true] at q
    simp only [q,List.lookup_nil] at e
    cases e
 have pre:∀{tl:List Addr} {sg':List Cell} {ro':List (Str × D)} {h':Heap},InF C ⟨qual,scope,s.heap.objs.size,f,cdv,[(x2,s.heap.objs.size + 1)],[(x2,d2)]⟩ l s.heap th (th ++ tl) sg' ro' h' → ∀a ∈ tl,s.heap.get? a = none:=fun J=>by
  obtain ⟨tl',e,q⟩:=J.pre
  rw [List.append_cancel_left e];exact q
 have lt:th.length ≤ n:=by rw [I.len];exact hn
 have tkk:∀tl:List Addr,(th ++ tl).take n = th ++ tl.take (n - th.length):=fun tl=>by rw [List.take_append,List.take_of_length_le lt]
 have fin:∀(d:D) (h':Heap) (t:Tok) (tl:List Addr) (v:Value),r = some d → InF C ⟨qual,scope,s.heap.objs.size,f,cdv,[(x2,s.heap.objs.size + 1)],[(x2,d2)]⟩ l s.heap th (th ++ tl) sg' ro' h' → Rep (th ++ tl) h' d v → Rr (.ok (.ret v)) { s with heap:=h',toks:=t }:=fun d h' t tl v e J' r'=>by
  subst e
  have J2:=J'.hi.take (n:=n) hu.1
  have r2:=r'.take (n:=n) hu.2
  rw [tkk] at J2 r2
  exact post v h' t _ J2 J'.kp (fun a m=>pre J' a (List.mem_of_mem_take m)) r2
 refine hbody s.heap.objs.size _ _ _ _ _ _ _ _ (a.deeper _) J ?_
 cases o with
 | next=>
  cases hro
  exact fun h' t tl J'=>fin .none h' t tl .none rfl J' (by simp only [Rep])
 | ret d=>
  cases hro
  exact fun v h' t tl J' r'=>fin d h' t tl v rfl J' r'
 | brk=>cases hro
 | cont=>cases hro
 | exc=>
  cases hro
  have hx:=hx rfl
  subst hx
  refine fun e h' t tl b J' X=>leaving_flt (fi:=⟨qual,scope,s.heap.objs.size,f,cdv,[(x2,s.heap.objs.size + 1)],[(x2,d2)]⟩) (Around.frames_deeper a.frames) J' X fun h'' J'' X''=>?_
  have J2:=J''.hi.take (n:=sg.length) hu.1
  have X2:=X''.take (n:=sg.length)
  rw [tkk,←I.len,Nat.sub_self,List.take_zero,List.append_nil] at J2
  rw [tkk,←I.len,Nat.sub_self,List.take_zero,List.append_nil] at X2
  have J3:HI C th (sg'.take sg.length) l h'':=by rw [←I.len];exact J2
  exact post e h'' t J3 J''.kp X2
end
section
variable {C:Cx} {fi:FI} {k:Nat} {outer fs:List Env} {h₀ h h' h'':Heap} {th₀ th tl tl':List Addr} {sg sg' sg1 sg2 sg3:List Cell} {ro ro' ro1 ro2:List (Str × D)} {s:Shared} {d d1 d2 d3:D} {o o':Out} {r:Option D} {args ds:List D}
theorem InF.junk (I:InF C fi outer h₀ th₀ th sg ro h) {a:Addr} {ob:Obj} (ha:a ∉ th) (hn:h₀.get? a = none) (ho:h.get? a = some ob) (hc:∀vs n,ob.data ≠ .seq vs n) (hd:∀v,ob.data ≠ .cell v) (hf:∀env ∈ (fi.env :: outer),env.frame ≠ some a)
  (k:∀b o,b ≠ a → h.get? b = some o → h'.get? b = some o) (hs:∃ob',h'.get? a = some ob'):InF C fi outer h₀ th₀ th sg ro h':=by
 have B:=I.below
 have aP:C.P ≠ a:=fun q=>I.basP (q ▸ hn)
 have tup:∀b vs,h.TupAt b vs → h'.TupAt b vs:=fun b vs ht=>by
  obtain ⟨o,n,ho',hc',q⟩:=ht
  refine ⟨o,n,k b o (fun z=>?_) ho',hc',q⟩
  subst z
  rw [ho] at ho';cases ho'
  exact hc _ _ q
 have J:HI C th sg (fi.env :: outer) h':=by
  refine ⟨fun b o n e=>k b o (fun z=>?_) (B.stays b o n e),?_,B.len,B.nd,B.high,fun i c b e1 e2=>?_,fun env he=>⟨(B.fr env he).kind,?_⟩⟩
  ·rw [z,I.base a hn] at e;cases e
  ·obtain ⟨ps,e,q⟩:=B.tab
   exact ⟨ps,k _ _ aP e,q⟩
  ·exact (B.cells i c b e1 e2).mono (fun _ _ e=>e) tup fun o e=>k b o (fun z=>ha (z ▸ List.mem_of_getElem? e2)) e
  ·obtain ⟨L,o,es,n,p,q,r,t,u⟩:=(B.fr env he).at_
   exact ⟨L,o,es,n,p,q,r,k L o (fun z=>hf env he (by rw [p,z])) t,u⟩
 obtain ⟨m,hm,hv⟩:=I.ns
 refine ⟨J.tail,⟨fun b o e=>?_,fun b o e n1 n2 n3=>k b o (fun z=>by rw [z,hn] at e;cases e) (I.kp.keep b o e n1 n2 n3),fun env he L hL o e=>?_⟩,I.pre,I.base,I.basP,I.lo,I.lth,I.lf,I.lk,⟨m,ns_slots hm fun o e=>⟨o.slots,k _ _ (fun z=>hf _ (.head _) (by rw [←z])) e⟩,fun x d e=>?_⟩,fun x d e=>?_⟩
 ·by_cases q:b = a
  ·exact q ▸ hs
  ·obtain ⟨o',e'⟩:=I.kp.dom b o e
   exact ⟨o',k b o' q e'⟩
 ·obtain ⟨sl,e1⟩:=I.kp.frames env he L hL o e
  exact ⟨sl,k L _ (fun z=>hf env (.tail _ he) (by rw [hL,z])) e1⟩
 ·obtain ⟨v,e1,e2⟩:=hv x d e
  exact ⟨v,e1,e2.mono (fun _ _ e=>e) tup⟩
 ·obtain ⟨c,v,e1,⟨oc,e2,e3⟩,e4,n1,n2,n3,n4⟩:=I.cl x d e
  refine ⟨c,v,e1,⟨oc,k c oc (fun z=>?_) e2,e3⟩,e4.mono (fun _ _ e=>e) tup,n1,n2,n3,n4⟩
  subst z
  rw [ho] at e2;cases e2
  exact hd _ e3
noncomputable def TPs (C:Cx) (fi:FI) (k:Nat) (ps:List (Expr × Expr)) (ro:List (Str × D)) (sg:List Cell) (ds:List (D × D)):Prop:=
 ∀(A:Around) (outer:List Env) (h₀:Heap) (th₀ th:List Addr) (s:Shared) (pos:Pos) (Q:List (Value × Value) → Shared → Prop) (E:Value → Shared → Prop),AOk A k (fi.env :: outer) → InF C fi outer h₀ th₀ th sg ro s.heap →
  (∀vs h' tk,InF C fi outer h₀ th₀ th sg ro h' → Kp C th (fi.env :: outer) s.heap h' → RepL th h' (ds.map (·.1)) (vs.map (·.1)) → RepL th h' (ds.map (·.2)) (vs.map (·.2)) → Q vs { s with heap:=h',toks:=tk }) →
  wpAny (model C.prog C.w) A (evalPairs (ps.map fun p=>(eval p.1 fi.env,(do let x ←eval p.2 fi.env;standAt pos;pure x)))) Q E s
theorem TPs.nil:TPs C fi k [] ro sg []:=fun A outer h₀ th₀ th s pos Q E a I post=>evalPairs_nil (post [] s.heap s.toks I .refl (by simp [RepL]) (by simp [RepL]))
theorem no_tl {h₀':Heap} {th₀':List Addr} (J:InF C fi outer h₀ th₀ (th ++ tl) sg ro h) (I:InF C fi outer h₀' th₀' th sg ro' h'):tl = []:=by
 have a:=J.hi.len
 have b:=I.hi.len
 rw [List.length_append] at a
 exact List.length_eq_zero_iff.mp (by omega)
theorem TPs.cons {e1 e2:Expr} {ps:List (Expr × Expr)} {dr:List (D × D)} (h1:TE C fi k e1 ro sg (some d1) sg) (h2:TE C fi k e2 ro sg (some d2) sg) (h3:TPs C fi k ps ro sg dr):TPs C fi k ((e1,e2) :: ps) ro sg ((d1,d2) :: dr):=by
 intro A outer h₀ th₀ th s pos Q E a I post
 refine evalPairs_cons (h1 _ _ _ _ _ _ _ _ a I fun v1 ha tka tla Ja kpa na ra=>?_)
 have:=no_tl Ja I
 subst this
 rw [List.append_nil] at Ja ra
 refine wpAny_bind (h2 _ _ _ _ _ { s with heap:=ha,toks:=tka } _ _ a Ja fun v2 hb tkb tlb Jb kpb nb rb=>?_)
 have:=no_tl Jb I
 subst this
 rw [List.append_nil] at Jb rb
 refine wpAny_bind (wpAny_standAt (wpAny_pure ?_))
 refine h3 _ _ _ _ _ { s with heap:=hb,toks:=tkb } pos _ _ a Jb fun vs hc tkc Jc kpc rc1 rc2=>?_
 have ra':=(ra.step (tl:=[]) Ja.below kpb).step (tl:=[]) (by rw [List.append_nil];exact Jb.below) (by rw [List.append_nil];exact kpc)
 have rb':=rb.step (tl:=[]) Jb.below kpc
 rw [List.append_nil] at rb'
 rw [List.append_nil,List.append_nil] at ra'
 refine post ((v1,v2) :: vs) hc tkc Jc ((kpa.trans0 kpb).trans0 kpc) ?_ ?_
 ·simp only [List.map_cons,RepL];exact ⟨_,_,rfl,ra',rc1⟩
 ·simp only [List.map_cons,RepL];exact ⟨_,_,rfl,rb',rc2⟩
end
section
variable {C:Cx} {fi:FI} {k:Nat} {outer fs:List Env} {h₀ h h' h'':Heap} {th₀ th tl tl':List Addr} {sg sg' sg1 sg2 sg3:List Cell} {ro ro' ro1 ro2:List (Str × D)} {s:Shared} {d d1 d2 d3:D} {o o':Out} {r:Option D} {args ds:List D}
theorem disp_shape {ps:List (Expr × Expr)} {env:Env} {pos:Pos}:(evalEachOpt (ps.map fun p=>some p.1) env).zip ((evalEach (ps.map (·.2)) env).map fun v=>do let x ←v;standAt pos;pure x) =
  (ps.map fun p=>(eval p.1 env,(do let x ←eval p.2 env;standAt pos;pure x))).map fun p=>(some p.1,p.2):=by
 induction ps with
 | nil=>rfl
 | cons p ps ih=>
  have e1:evalEachOpt ((p :: ps).map fun p=>some p.1) env = evalOpt (some p.1) env :: evalEachOpt (ps.map fun p=>some p.1) env:=rfl
  have e2:evalEach ((p :: ps).map (·.2)) env = eval p.2 env :: evalEach (ps.map (·.2)) env:=rfl
  rw [e1,e2,List.map_cons,List.zip_cons_cons,ih]
  rfl
theorem dict_junk {A:Around} (I0:InF C fi outer h₀ th₀ th sg ro s.heap) (J:InF C fi outer h₀ th₀ th sg ro h) (hd:h.get? s.heap.objs.size = some emptyDict) (hsb:Heap.SameBut s.heap.objs.size h h') (hs:∃ob,h'.get? s.heap.objs.size = some ob):InF C fi outer h₀ th₀ th sg ro h':=by
 have n0:s.heap.get? s.heap.objs.size = none:=new_none
 have B:=I0.below
 refine J.junk (a:=s.heap.objs.size) (fun m=>?_) (I0.kp.fresh n0) hd (fun _ _ q=>by cases q) (fun v q=>by cases q) (fun env he q=>?_) (fun b o n e=>(hsb.2 b n).trans e) hs
 ·obtain ⟨_,_,_,_,z⟩:=B.cellAt m
  obtain ⟨ob,e,_⟩:=z.get
  rw [n0] at e;cases e
 ·obtain ⟨L,ob,es,n,p,_,_,e,_⟩:=(B.fr env he).at_
  rw [q] at p;cases p
  rw [n0] at e;cases e
theorem intPairs:∀{kis:List (Int × Int)} {vs:List (Value × Value)},RepL th h ((kis.map fun p=>(D.int p.1,D.int p.2)).map (·.1)) (vs.map (·.1)) → RepL th h ((kis.map fun p=>(D.int p.1,D.int p.2)).map (·.2)) (vs.map (·.2)) →
  ∃kvs:List (Int × Value),Carries (PySem.intKind C.prog C.w) vs kvs ∧ kvs.map (·.1) = kis.map (·.1) ∧ PyProof.V.FlatPairs PyData.int kvs (kis.map fun p=>(.int p.1,.int p.2))
 | [],vs,h1,_=>by
  simp only [List.map_nil,RepL,List.map_eq_nil_iff] at h1
  subst h1
  exact ⟨[],trivial,rfl,.nil⟩
 | p :: kis,vs,h1,h2=>by
  cases vs with
  | nil=>simp [RepL] at h1
  | cons v vs=>
   simp only [List.map_cons,RepL,Rep] at h1 h2
   obtain ⟨a,_,e1,⟨t,rfl⟩,q1⟩:=h1
   obtain ⟨b,_,e2,⟨u,rfl⟩,q2⟩:=h2
   simp only [List.cons.injEq] at e1 e2
   obtain ⟨e1,rfl⟩:=e1
   obtain ⟨e2,rfl⟩:=e2
   obtain ⟨kvs,c,n,f⟩:=intPairs q1 q2
   obtain ⟨v1,v2⟩:=v
   simp only at e1 e2
   subst e1;subst e2
   refine ⟨(p.1,.int p.2 u) :: kvs,⟨?_,rfl,c⟩,by simp [n],.cons (PyProof.V.Flat.int _ _) f⟩
   show Value.isInt p.1 (.int p.1 t) = true
   simp [Value.isInt]
theorem TE.dictInt {ps:List (Expr × Expr)} {keys:List (Option Expr)} {values:List Expr} {kis:List (Int × Int)} {slice:Expr} {j r:Int} {dpos pos:Pos} (hk:keys = ps.map fun p=>some p.1) (hv:values = ps.map (·.2)) (hps:TPs C fi k ps ro sg (kis.map fun p=>(.int p.1,.int p.2))) (hne:ps ≠ []) (hlen:ps.length ≤ 15)
  (hnd:(kis.map (·.1)).Nodup) (h2:TE C fi k slice ro sg (some (.int j)) sg) (hl:Spec.lookup (.int j) (kis.map fun p=>(PyData.int p.1,PyData.int p.2)) = some (.int r)) (hs:∀o i,subscripted slice false o i = operate [o,i] (getItem o i)):
  TE C fi k (.Subscript (.Dict keys values dpos) slice pos) ro sg (some (.int r)) sg:=by
 subst hk;subst hv
 intro A outer h₀ th₀ th s Q E a I post
 have n0:s.heap.get? s.heap.objs.size = none:=new_none
 refine Subscript_ (wpAny_Dict_pairs (knd:=PySem.intKind C.prog C.w) (pos:=dpos) disp_shape (by simpa using hne) (by simpa using hlen) (hps _ _ _ _ _ { s with heap:=s.heap.push emptyDict } dpos _ _ a (I.push emptyDict) fun vs h1 tk1 J1 kp1 r1 r2=>?_))
 obtain ⟨kvs,hc,hn,hf⟩:=intPairs r1 r2
 have B:=I.below
 have notin:s.heap.objs.size ∉ th:=fun m=>by
  obtain ⟨_,_,_,_,z⟩:=B.cellAt m
  obtain ⟨ob,e,_⟩:=z.get
  rw [n0] at e;cases e
 have notfr:∀env ∈ (fi.env :: outer),env.frame ≠ some s.heap.objs.size:=fun env he q=>by
  obtain ⟨L,ob,es,n,p,_,_,e,_⟩:=(B.fr env he).at_
  rw [q] at p;cases p
  rw [n0] at e;cases e
 have notP:s.heap.objs.size ≠ C.P:=fun q=>by
  obtain ⟨ps,e,_⟩:=B.tab
  rw [←q,n0] at e;cases e
 have hd1:h1.get? s.heap.objs.size = some emptyDict:=kp1.keep _ _ (Heap.get?_push_size _ rfl) notin notP notfr
 refine ⟨kvs,hc,⟨_,#[],0,hd1,⟨rfl,rfl,rfl⟩,rfl,(by intro e he;simp at he),.nil,List.nodup_nil⟩,fun h2' hD hsb=>?_⟩
 have hex:∃ob,h2'.get? s.heap.objs.size = some ob:=by obtain ⟨o,es,ep,ho,_⟩:=hD;exact ⟨o,ho⟩
 have J2:=dict_junk (A:=A) I J1 hd1 hsb hex
 rw [merged_nil_of_nodup kvs (by rw [hn];exact hnd)] at hD
 refine h2 _ _ _ _ _ { s with heap:=h2',toks:=tk1 + vs.length } _ _ a J2 fun v h3 tk3 tl3 J3 kp3 n3 r3=>?_
 simp only [Rep] at r3
 obtain ⟨t,rfl⟩:=r3
 have hD3:h3.DictOf (PySem.intKind C.prog C.w) s.heap.objs.size kvs:=by
  obtain ⟨o,es,ep,ho,q⟩:=hD
  exact ⟨o,es,ep,kp3.keep _ _ ho notin notP notfr,q⟩
 have lo:(s.heap.objs.size == sysModules) = false:=beq_eq_false_iff_ne.mpr (Nat.ne_of_gt (modules_low I.hi.nolim))
 refine item_tab_any (s:={ s with heap:=h3,toks:=tk3 }) (enc:=PyData.int) (k:=j) PyProof.V.same_int (by show Value.isInt j (.int j t) = true;simp [Value.isInt]) ⟨lo,kvs,hD3,hf⟩ hl (fun v hv=>?_) (hs _ _)
 have kpA:Kp C th (fi.env :: outer) s.heap h2':=by
  refine ⟨fun b o e=>?_,fun b o e n1 n2 n3=>?_,fun env he L hL o e=>?_⟩
  ·obtain ⟨o',e'⟩:=kp1.dom b o (push_ext b o e)
   by_cases q:b = s.heap.objs.size
   ·rw [q,n0] at e;cases e
   ·exact ⟨o',(hsb.2 b q).trans e'⟩
  ·have nb:b ≠ s.heap.objs.size:=fun q=>by rw [q,n0] at e;cases e
   exact (hsb.2 b nb).trans (kp1.keep b o (push_ext b o e) n1 n2 n3)
  ·obtain ⟨sl,e1⟩:=kp1.frames env he L hL o (push_ext L o e)
   exact ⟨sl,(hsb.2 L (fun q=>notfr env he (by rw [hL,q]))).trans e1⟩
 have n3':∀a ∈ tl3,s.heap.get? a = none:=fun a m=>kpA.fresh (n3 a m)
 have hvr:Rep (th ++ tl3) h3 (.int r) v:=by
  have:=hv h3
  cases this with
  | int i t=>exact ri
 exact post v h3 _ tl3 J3 (kpA.trans0 kp3) n3' hvr
end
section
variable {prog:Program} {w:World} {K:Type} [DecidableEq K] {knd:HeapKind prog w K} {A:Around} {E:Value → Shared → Prop} {s:Shared}
noncomputable def CarriesH (knd:HeapKind prog w K) (h:Heap):List (Value × Value) → List (K × Addr × Value) → Prop
 | [],xs=>xs = []
 | p :: vs,xs=>∃k a r,xs = (k,a,p.2) :: r ∧ p.1 = .ref a ∧ knd.is h k a ∧ CarriesH knd h vs r
theorem CarriesH.keeps {h h':Heap} {d:Addr} {o:Obj} {es ep} (ho:h.get? d = some o) (hd:o.data = .dict es ep) (hs:Heap.SameBut d h h'):∀{vs:List (Value × Value)} {xs:List (K × Addr × Value)},CarriesH knd h vs xs → CarriesH knd h' vs xs
 | [],_,e=>e
 | _ :: _,_,⟨k,a,r,e1,e2,e3,e4⟩=>⟨k,a,r,e1,e2,knd.keeps e3 ho hd hs,CarriesH.keeps ho hd hs e4⟩
theorem storeAllH {d:Addr} (hu:knd.room A):∀(vs:List (Value × Value)) (xs acc:List (K × Addr × Value)) (s:Shared) (Q:PUnit → Shared → Prop),CarriesH knd s.heap vs xs → s.heap.DictOfH knd d acc → ((acc ++ xs).map (·.1)).Nodup → acc.length + xs.length ≤ sizeLine →
  (∀h' tk,h'.DictOfH knd d (acc ++ xs) → Heap.SameBut d s.heap h' → Q PUnit.unit { s with heap:=h',toks:=tk }) →
  wpAny (model prog w) A (forIn vs PUnit.unit fun (x:Value × Value) (_:PUnit)=>(do dictSet d x.1 x.2;pure (ForInStep.yield PUnit.unit):Sem (ForInStep PUnit))) Q E s
 | [],xs,acc,s,Q,hc,hm,_,_,hQ=>by
  cases hc
  rw [List.forIn_nil]
  exact wpAny_pure (hQ s.heap s.toks (by rw [List.append_nil];exact hm) (Heap.SameBut.refl _ _))
 | p :: vs,xs,acc,s,Q,hc,hm,hn,hsz,hQ=>by
  obtain ⟨k,a,r,rfl,e2,e3,e4⟩:=hc
  obtain ⟨p1,p2⟩:=p
  simp only at e2 hn hsz hQ ⊢
  subst e2
  rw [List.length_cons] at hsz
  rw [List.forIn_cons]
  have hnone:atKey acc k = none:=by
   unfold atKey
   rw [Option.map_eq_none_iff,List.find?_eq_none]
   intro x hx q
   have q:x.1 = k:=of_decide_eq_true q
   rw [List.map_append,List.nodup_append] at hn
   exact hn.2.2 x.1 (List.mem_map_of_mem hx) k (by simp) q
  refine wpAny_bind (wpAny_bind (wpAny_dictSet_heap hu e3 hm (fun h₁ hm₁ hs₁=>wpAny_pure ?_) (by omega)))
  rw [storedH_new hnone] at hm₁
  obtain ⟨o,es,ep,ho,hcd,hd,_⟩:=hm
  refine storeAllH hu vs r (acc ++ [(k,a,p2)]) _ Q (e4.keeps ho hd hs₁) hm₁ (by rw [List.append_assoc];exact hn) (by rw [List.length_append,List.length_singleton];omega) fun h' tk hm' hs'=>?_
  rw [List.append_assoc] at hm'
  exact hQ h' tk hm' (hs₁.trans hs')
theorem Dict_pairsH {env:Env} {keys:List (Option Expr)} {values:List Expr} {pos:Pos} {pairs:List (Sem Value × Sem Value)} {Q:Value → Shared → Prop}
  (hshape:(evalEachOpt keys env).zip ((evalEach values env).map fun v=>do let x ←v;standAt pos;pure x) = pairs.map fun p=>(some p.1,p.2)) (h0:pairs ≠ []) (hlen:pairs.length ≤ 15) (hu:knd.room A)
  (h:wpAny (model prog w) A (evalPairs pairs) (fun vs s₁=>∃xs,CarriesH knd s₁.heap vs xs ∧ (xs.map (·.1)).Nodup ∧ xs.length ≤ 100 ∧ s₁.heap.DictOfH knd s.heap.objs.size [] ∧
   ∀h' tk,h'.DictOfH knd s.heap.objs.size xs → Heap.SameBut s.heap.objs.size s₁.heap h' → Q (.ref s.heap.objs.size) { s₁ with heap:=h',toks:=tk }) E
   { s with heap:=s.heap.push emptyDict }):
  wpAny (model prog w) A (eval (.Dict keys values pos) env) Q E s:=by
 rw [arm_eval_Dict,hshape,dictDisplay_pairs pairs h0 (by omega)]
 refine wpAny_bind (wpAny_standAt (wpAny_bind ?_))
 unfold subDict
 refine wpAny_bind (wpAny_alloc ?_)
 refine wpAny_bind (wpAny_holding ?_)
 rw [if_pos hlen]
 refine wpAny_bind (wpAny_mono h (fun vs s₁ h₁=>?_) fun _ _ e=>e)
 obtain ⟨xs,hc,hn,hz,hm,hQ⟩:=h₁
 refine wpAny_holding ?_
 refine wpAny_bind (storeAllH hu vs xs [] s₁ _ hc hm (by simpa using hn) (by rw [sizeLine_eq,List.length_nil];omega) fun h' tk hm' hs'=>wpAny_pure (wpAny_pure (wpAny_pure ?_)))
 exact hQ h' tk (by simpa using hm') hs'
end
section
variable {C:Cx} {fi:FI} {k:Nat} {outer fs:List Env} {h₀ h h' h'':Heap} {th₀ th tl tl':List Addr} {sg sg' sg1 sg2 sg3:List Cell} {ro ro' ro1 ro2:List (Str × D)} {s:Shared} {d d1 d2 d3:D} {o o':Out} {r:Option D} {args ds:List D}
noncomputable abbrev tk2 (C:Cx):=PySem.tupleKind (PySem.intKind C.prog C.w)
theorem Rep.tup2 {a b:Int} {v:Value} (r:Rep th h (.tup [.int a,.int b]) v):∃x,v = .ref x ∧ (tk2 C).is h [a,b] x:=by
 simp only [Rep,RepL] at r
 obtain ⟨x,vs,rfl,⟨ob,n,ho,hc,hd⟩,v1,_,rfl,⟨t,rfl⟩,v2,_,rfl,⟨u,rfl⟩,rfl⟩:=r
 exact ⟨x,rfl,ob,_,n,ho,hc,hd,.cons (by show Value.isInt a (.int a t) = true;simp [Value.isInt]) (.cons (by show Value.isInt b (.int b u) = true;simp [Value.isInt]) .nil)⟩
theorem tupPairs:∀{kis:List (Int × Int × Str)} {vs:List (Value × Value)},RepL th h ((kis.map fun p=>(D.tup [.int p.1,.int p.2.1],D.str p.2.2)).map (·.1)) (vs.map (·.1)) → RepL th h ((kis.map fun p=>(D.tup [.int p.1,.int p.2.1],D.str p.2.2)).map (·.2)) (vs.map (·.2)) →
  ∃xs:List (List Int × Addr × Value),CarriesH (tk2 C) h vs xs ∧ xs.map (·.1) = kis.map (fun p=>[p.1,p.2.1]) ∧ ∀(j:Nat) (p:Int × Int × Str),kis[j]? = some p → ∃a t,xs[j]? = some ([p.1,p.2.1],a,.str p.2.2 t)
 | [],vs,h1,_=>by
  simp only [List.map_nil,RepL,List.map_eq_nil_iff] at h1
  subst h1
  exact ⟨[],rfl,rfl,fun j p e=>by simp at e⟩
 | p :: kis,vs,h1,h2=>by
  cases vs with
  | nil=>simp [RepL] at h1
  | cons v vs=>
   simp only [List.map_cons,RepL] at h1 h2
   obtain ⟨a,_,e1,r1,q1⟩:=h1
   obtain ⟨b,_,e2,r2,q2⟩:=h2
   simp only [List.cons.injEq] at e1 e2
   obtain ⟨e1,rfl⟩:=e1
   obtain ⟨e2,rfl⟩:=e2
   simp only [Rep] at r2
   obtain ⟨u,rfl⟩:=r2
   obtain ⟨x,rfl,hx⟩:=r1.tup2 (C:=C)
   obtain ⟨xs,c,n,f⟩:=tupPairs q1 q2
   obtain ⟨v1,v2⟩:=v
   simp only at e1 e2
   subst e1;subst e2
   refine ⟨([p.1,p.2.1],x,.str p.2.2 u) :: xs,⟨_,_,_,rfl,rfl,hx,c⟩,by simp [n],fun j q e=>?_⟩
   cases j with
   | zero=>simp at e;subst e;exact ⟨x,u,rfl⟩
   | succ j=>simp only [List.getElem?_cons_succ] at e ⊢;exact f j q e
theorem TE.dictTup {ps:List (Expr × Expr)} {keys:List (Option Expr)} {values:List Expr} {kis:List (Int × Int × Str)} {slice:Expr} {a1 a2:Int} {x:Str} {j:Nat} {dpos pos:Pos} (hk:keys = ps.map fun p=>some p.1) (hv:values = ps.map (·.2)) (hps:TPs C fi k ps ro sg (kis.map fun p=>(.tup [.int p.1,.int p.2.1],.str p.2.2))) (hne:ps ≠ []) (hlen:ps.length ≤ 15) (hl15:kis.length ≤ 15)
  (hnd:(kis.map fun p=>[p.1,p.2.1]).Nodup) (h2:TE C fi k slice ro sg (some (.tup [.int a1,.int a2])) sg) (hl:kis[j]? = some (a1,a2,x)) (hs:∀o i,subscripted slice false o i = operate [o,i] (getItem o i)):
  TE C fi k (.Subscript (.Dict keys values dpos) slice pos) ro sg (some (.str x)) sg:=by
 subst hk;subst hv
 intro A outer h₀ th₀ th s Q E a I post
 have n0:s.heap.get? s.heap.objs.size = none:=new_none
 have room:(tk2 C).room A:=by show A.units < cLine;exact a.line
 have room1:(tk2 C).room A.in1:=by show A.units + 1 < cLine;have:=a.units;omega
 refine Subscript_ (Dict_pairsH (knd:=tk2 C) (pos:=dpos) disp_shape (by simpa using hne) (by simpa using hlen) room (hps _ _ _ _ _ { s with heap:=s.heap.push emptyDict } dpos _ _ a (I.push emptyDict) fun vs h1 tk1 J1 kp1 r1 r2=>?_))
 obtain ⟨xs,hc,hn,hf⟩:=tupPairs (C:=C) r1 r2
 have B:=I.below
 have notin:s.heap.objs.size ∉ th:=fun m=>by
  obtain ⟨_,_,_,_,z⟩:=B.cellAt m
  obtain ⟨ob,e,_⟩:=z.get
  rw [n0] at e;cases e
 have notfr:∀env ∈ (fi.env :: outer),env.frame ≠ some s.heap.objs.size:=fun env he q=>by
  obtain ⟨L,ob,es,n,p,_,_,e,_⟩:=(B.fr env he).at_
  rw [q] at p;cases p
  rw [n0] at e;cases e
 have notP:s.heap.objs.size ≠ C.P:=fun q=>by
  obtain ⟨ps,e,_⟩:=B.tab
  rw [←q,n0] at e;cases e
 have hd1:h1.get? s.heap.objs.size = some emptyDict:=kp1.keep _ _ (Heap.get?_push_size _ rfl) notin notP notfr
 have hlx:xs.length ≤ 100:=by
  have:xs.length = kis.length:=by have:=congrArg List.length hn;simpa using this
  omega
 refine ⟨xs,hc,by rw [hn];exact hnd,hlx,⟨_,#[],0,hd1,⟨rfl,rfl,rfl⟩,rfl,rfl,fun _ hx=>by simp at hx,List.nodup_nil⟩,fun h2' tkd hD hsb=>?_⟩
 have hex:∃ob,h2'.get? s.heap.objs.size = some ob:=by obtain ⟨o,es,ep,ho,_⟩:=hD;exact ⟨o,ho⟩
 have J2:=dict_junk (A:=A) I J1 hd1 hsb hex
 refine h2 _ _ _ _ _ { s with heap:=h2',toks:=tkd } _ _ a J2 fun v h3 tk3 tl3 J3 kp3 n3 r3=>?_
 obtain ⟨kx,rfl,hkx⟩:=r3.tup2 (C:=C)
 have hD3:h3.DictOfH (tk2 C) s.heap.objs.size xs:=by
  obtain ⟨o,es,ep,ho,hcd,hdd,he,hks,hnn⟩:=hD
  refine ⟨o,es,ep,kp3.keep _ _ ho notin notP notfr,hcd,hdd,he,fun y hy=>?_,hnn⟩
  obtain ⟨oy,items,ny,e1,e2,e3,e4⟩:=hks y hy
  have ht:h2'.TupAt y.2.1 items.toList:=⟨oy,ny,e1,e2,by simpa using e3⟩
  obtain ⟨oy',ny',f1,f2,f3⟩:=kp3.tup J2.below ht
  exact ⟨oy',items,ny',f1,f2,by simpa using f3,e4⟩
 obtain ⟨ka,ku,hxj⟩:=hf j _ hl
 have hat:atKey xs [a1,a2] = some (ka,.str x ku):=by
  unfold atKey
  have hfind:xs.find? (fun y=>decide (y.1 = [a1,a2])) = some ([a1,a2],ka,.str x ku):=by
   have hnx:(xs.map (·.1)).Nodup:=by rw [hn];exact hnd
   obtain ⟨hjl,hje⟩:=List.getElem?_eq_some_iff.mp hxj
   rw [List.find?_eq_some_iff_getElem]
   refine ⟨by simp,j,hjl,hje,fun i hi=>?_⟩
   simp only [Bool.not_eq_true',decide_eq_false_iff_not]
   intro q
   have:i = j:=by
    have h1:(xs.map (·.1))[i]'(by simp;omega) = (xs.map (·.1))[j]'(by simpa using hjl):=by
     simp only [List.getElem_map]
     rw [q,hje]
    exact (List.getElem_inj hnx).mp h1
   omega
  rw [hfind];rfl
 have hT:(⟨h3,s.gens,s.drawn,tk3,s.os⟩:Shared).TypeIs (.ref s.heap.objs.size) "dict":=by
  obtain ⟨o,es,ep,ho,hcd,_⟩:=hD3
  exact ⟨o,ho,hcd.1⟩
 have kpA:Kp C th (fi.env :: outer) s.heap h2':=by
  refine ⟨fun b o e=>?_,fun b o e n1 n2 n3=>?_,fun env he L hL o e=>?_⟩
  ·obtain ⟨o',e'⟩:=kp1.dom b o (push_ext b o e)
   by_cases q:b = s.heap.objs.size
   ·rw [q,n0] at e;cases e
   ·exact ⟨o',(hsb.2 b q).trans e'⟩
  ·have nb:b ≠ s.heap.objs.size:=fun q=>by rw [q,n0] at e;cases e
   exact (hsb.2 b nb).trans (kp1.keep b o (push_ext b o e) n1 n2 n3)
  ·obtain ⟨sl,e1⟩:=kp1.frames env he L hL o (push_ext L o e)
   exact ⟨sl,(hsb.2 L (fun q=>notfr env he (by rw [hL,q]))).trans e1⟩
 have n3':∀a ∈ tl3,s.heap.get? a = none:=fun a m=>kpA.fresh (n3 a m)
 exact tail_any hT F.slot_dict_getitem.lookup (wpAny_getItem_heap room1 hkx hD3 hat (post _ h3 _ tl3 J3 (kpA.trans0 kp3) n3' rs)) (hs _ _)
end
section
variable {C:Cx} {fi:FI} {k:Nat} {outer fs:List Env} {h₀ h h' h'':Heap} {th₀ th tl tl':List Addr} {sg sg' sg1 sg2 sg3:List Cell} {ro ro' ro1 ro2:List (Str × D)} {s:Shared} {d d1 d2 d3:D} {o o':Out} {r:Option D} {args ds:List D}
structure KTab (C:Cx) (a:Addr) (E:List (Str × PyData)):Prop where
 look:KTD.tabLook KTD.flatLooks (fun b=>C.K.lookup b) a E = true
 nd:(E.map (·.1)).Nodup
 hash:KTD.hashesOf (fun b=>C.K.lookup b) a = E.map fun p=>(PySem.strKind C.prog C.w).hash p.1
 obj:∃dt sl,C.K.lookup a = some ⟨.type "dict",none,dt,sl⟩
theorem KTab.tab {a:Addr} {E:List (Str × PyData)} (T:KTab C a E) (X:C.K.In h):StrTab C.prog C.w h a (E.map fun p=>(.str p.1,p.2)):=kt_tab_in C.prog C.w X T.look T.nd T.hash
noncomputable def ofPy:PyData → D
 | .none=>.none
 | .bool b=>.bool b
 | .int i=>.int i
 | .str x=>.str x
 | _=>.any
theorem flat_rep {v:Value} {p:PyData} (hv:PyProof.V.Flat v p):Rep th h (ofPy p) v:=by
 have:=hv h
 cases p with
 | none=>cases this;simp [ofPy,Rep]
 | bool b=>cases this;simp [ofPy,Rep]
 | int i=>cases this;simp [ofPy,Rep]
 | str x=>cases this;simp [ofPy,Rep]
 | list l=>simp [ofPy,Rep]
 | tuple l=>simp [ofPy,Rep]
 | dict l=>simp [ofPy,Rep]
theorem op_in_tab {a:Addr} {E:List (Str × PyData)} {x:Str} {b:Bool} (T:KTab C a E) (hb:(Spec.lookup (.str x) (E.map fun p=>(.str p.1,p.2))).isSome = b):OpOk C (compareOp .In) (.str x) (.val (.ref a)) (.bool b):=by
 subst hb
 intro A k l th sg s v1 v2 Q E _ I r1 r2 post
 simp only [Rep] at r1 r2;obtain ⟨t,rfl⟩:=r1;subst r2
 exact in_strTab (T.tab I.K) (post _ _ rb)
theorem op_notin_tab {a:Addr} {E:List (Str × PyData)} {x:Str} {b:Bool} (T:KTab C a E) (hb:(Spec.lookup (.str x) (E.map fun p=>(.str p.1,p.2))).isSome = b):OpOk C (compareOp .NotIn) (.str x) (.val (.ref a)) (.bool (!b)):=by
 subst hb
 intro A k l th sg s v1 v2 Q E _ I r1 r2 post
 simp only [Rep] at r1 r2;obtain ⟨t,rfl⟩:=r1;subst r2
 exact notin_strTab (T.tab I.K) (post _ _ rb)
theorem sub_tab {value slice:Expr} {a:Addr} {E:List (Str × PyData)} {x:Str} {p:PyData} (T:KTab C a E) (hl:Spec.lookup (.str x) (E.map fun p=>(PyData.str p.1,p.2)) = some p) (hs:∀o i,subscripted slice false o i = operate [o,i] (getItem o i)):
  OpG C (subscriptTail value slice) (.val (.ref a)) (.str x) sg (ofPy p) sg:=by
 intro A k l th s v1 v2 Q E' ak I r1 r2 post
 simp only [Rep] at r1 r2;subst r1;obtain ⟨t,rfl⟩:=r2
 exact item_tab_any (enc:=PyData.str) (k:=x) PyProof.V.same_str (strKind_is _ _ x t) (T.tab I.K) hl (fun v hv=>pg0 (h':=s.heap) post I .refl (flat_rep hv)) (hs _ _)
theorem isT_tab {a:Addr} {E:List (Str × PyData)} (T:KTab C a E):IsT' C sg (.val (.ref a)) "dict":=fun l th s v I r=>by
 simp only [Rep] at r;subst r
 obtain ⟨dt,sl,e⟩:=T.obj
 have:=I.K _ _ e
 exact ⟨⟨_,this,rfl⟩,fun b q=>by cases q;exact ⟨_,this,rfl⟩⟩
theorem call_get {a:Addr} {E:List (Str × PyData)} {x:Str} {n:Int} {p:PyData} (T:KTab C a E) (hp:(Spec.lookup (.str x) (E.map fun p=>(PyData.str p.1,p.2))).getD (.int n) = p):CallOk C k (.builtin "dict.get") [.val (.ref a),.str x,.int n] sg (some (ofPy p)) sg:=by
 subst hp
 intro A ls th s vs Q E' ak I R post
 obtain ⟨v,w,u,rfl,r,r2,r3⟩:=repL3 R
 simp only [Rep] at r r2 r3;subst r;obtain ⟨t,rfl⟩:=r2;obtain ⟨t3,rfl⟩:=r3
 exact call_get2_strTab (T.tab I.K) (PyProof.V.Flat.int _ _) fun v hv=>pg0 (h':=s.heap) post I .refl (flat_rep hv)
theorem TE.get {e x y:Expr} {apos pos:Pos} {a:Addr} {E:List (Str × PyData)} {z:Str} {n:Int} {p:PyData} (T:KTab C a E) (hb:baseOk e = true) (hl:(apos.endLine == pos.line) = true) (hp:plainE x = true) (hp2:plainE y = true) (h1:TE C fi k e ro sg (some (.val (.ref a))) sg1) (h2:TEs C fi k [x,y] ro sg1 (some [.str z,.int n]) sg2)
  (hv:(Spec.lookup (.str z) (E.map fun p=>(PyData.str p.1,p.2))).getD (.int n) = p):TE C fi k (.Call (.Attribute e "get" apos) [x,y] [] pos) ro sg (some (ofPy p)) sg2:=
 TE.methB hb hl (by simp [hp,hp2]) rfl h1 (isT_tab T) F.plainAttrs_dict F.slot_dict_get F.type_dict_get rfl h2 (call_get T hv)
theorem TB.list {e:Expr} {i:Nat} {l:List D} (h:TE C fi k e ro sg (some (.obj i)) sg') (hi:sg'[i]? = some (.list l)) (hz:l.length ≤ sizeLine) (he:∀env whole,isTrue e env whole = (do let v ←whole;standAt e.pos;holding [v] (truthy v))):TB C fi k e ro sg (some (!l.isEmpty)) sg':=by
 intro A outer h₀ th₀ th s Q E a I post
 refine isTrue_plain (h _ _ _ _ _ _ _ _ a I fun v h' tk tl J kp n r=>?_) (he _ _)
 simp only [Rep] at r
 obtain ⟨x,hx,rfl⟩:=r
 obtain ⟨vs,m,ho,hl⟩:=J.hi.cells i _ x hi hx
 have e:vs.toArray.size = l.length:=by rw [List.size_toArray,hl.len]
 have:sizeLine = 16777216:=by decide
 refine wpAny_truthy_list (s:={ s with heap:=h',toks:=tk }) (items:=vs.toArray) ⟨_,ho,rfl,m,rfl⟩ (by rw [e];omega) ?_
 have e2:vs.toArray.isEmpty = l.isEmpty:=by
  have:=hl.len
  cases l <;> cases vs <;> simp_all
 rw [e2]
 exact post h' _ tl J kp n
end
theorem nolen_rev:typeLookup (.type "list_reverseiterator") "__len__" = pure none:=by rw [typeLookup_type,builtinLookup_eq_fast];kernel_rfl
theorem hint_rev:typeLookup (.type "list_reverseiterator") "__length_hint__" = pure (some (.builtin "list_reverseiterator.__length_hint__")):=by rw [typeLookup_type,builtinLookup_eq_fast];kernel_rfl
section
variable {prog:Program} {w:World} {A:Around} {E:Value → Shared → Prop} {s:Shared} {I:Addr} {fp wr:List Addr} {G:Array GenState → Array GenState → Prop} {n:Nat} {P:Nat → Value → Prop} {St:Nat → Shared → Prop}
theorem collect_rev {Q:List Value → Shared → Prop} (W:WalksS prog w A.in1 I fp wr G n P St) (hT:∀i s,St i s → s.TypeIs (.ref I) "list_reverseiterator") (hst:St 0 s) (hfp:∀b ∈ fp,b < s.heap.objs.size) (hI:I ∈ fp)
  (hQ:∀s' acc,Moved wr G s s' → ItemsOf P acc n → Q acc.toList s') (hn:n ≤ sizeLine):wpAny (model prog w) A (collect (.ref I)) Q E s:=by
 have hSf:s.heap.objs.size ∉ fp:=fun hm=>Nat.lt_irrefl _ (hfp _ hm)
 have hSI:s.heap.objs.size ≠ I:=fun e=>hSf (e ▸ hI)
 unfold collect
 refine wpAny_bind (wpAny_runValue (codeAny_builtin F.entry_proto_collect ?_))
 rw [Around.under_plainId F.plain_proto_collect _]
 show wpAny _ A.in1 (newList [] >>= fun l=>again (.builtin "list.__iadd__" ⟨[l,.ref I],[]⟩)) _ _ s
 refine wpAny_bind (wpAny_newObj_type ?_)
 refine wpAny_pure ⟨plainId_quiet F.plain_list_iadd _,codeAny_builtin F.entry_list_iadd ?_⟩
 rw [Around.under_plainId F.plain_list_iadd _]
 have hst₁:=W.frame 0 s (s.heap.push { cls:=.type "list",data:=.seq ([]:List Value).toArray }) s.toks hst (Nat.le_refl _) fun b _ o e=>Heap.get?_push_of_some _ e
 have hS₁:(s.heap.push { cls:=.type "list",data:=.seq ([]:List Value).toArray }).get? s.heap.objs.size = some { cls:=.type "list",data:=.seq ([]:List Value).toArray }:=Heap.get?_push_size _ rfl
 have h1:Builtin.List.listSameRef (.ref s.heap.objs.size) (.ref I) = false:=by simp [Builtin.List.listSameRef,hSI]
 show wpAny _ A.in1 (Builtin.List.listExtendWith (.ref s.heap.objs.size) (.ref I) (.ref s.heap.objs.size)) _ _ _
 unfold Builtin.List.listExtendWith
 refine wpAny_bind (wpAny_typeOf (hT 0 _ hst₁) ?_)
 rw [if_neg (by rw [h1];decide)]
 refine wpAny_bind (W.self 0 _ _ _ hst₁ ?_)
 refine wpAny_bind (wpAny_holding ?_)
 unfold Builtin.List.listLengthHint
 refine wpAny_bind (wpAny_specialOf (hT 0 _ hst₁) nolen_rev ?_)
 show wpAny _ A.in1 (specialOf (Value.ref I) (Str.ofString "__length_hint__") >>= _) _ _ _
 refine wpAny_bind (wpAny_specialOf (hT 0 _ hst₁) hint_rev ?_)
 (generalize hid:("list_reverseiterator.__length_hint__":String) = id0;(fail_if_success (clear hid id0));wp_delta;rw [show splitId id0 = some ("list_reverseiterator","__length_hint__") from by subst hid;decide +kernel];subst hid)
 refine wpAny_bind (wpAny_isInstance (b:=true) (hT 0 _ hst₁) (by rw [isSubtype_type];kernel_rfl) ?_)
 refine wpAny_pure ?_
 rw [if_neg (by decide)]
 refine wpAny_pure ⟨plainId_quiet F.plain_extend_loop _,codeAny_extend_loopS W hn _ hSf _ n 0 _ _ _ rfl (Nat.zero_le _) hst₁ hS₁ (ItemsOf.nil P) fun s' acc' c' hm hS' hacc=>?_⟩
 show wpAny _ A (load s.heap.objs.size >>= _) _ _ s'
 refine wpAny_bind (wpAny_load hS' ?_)
 exact wpAny_pure (hQ s' acc' (Moved.drop_new (o:={ cls:=.type "list",data:=.seq ([]:List Value).toArray }) (tk:=s.toks) hm (Nat.le_refl _)) hacc)
theorem strsAre_get:∀{vs:List Value} {ys:List Str},StrsAre vs ys → ∀(i:Nat) (v:Value),vs[i]? = some v → ∃y t,v = .str y t ∧ ys[i]? = some y:=fun h i v e=>PyProof.Rows.StrsAre.item h i v e
theorem join_rev {x:Str} {t:Tok} {l:Addr} {items:Array Value} {ys:List Str} {Q:Value → Shared → Prop} (hh:A.handled = none) (hit:s.heap.get? I = some (revObj l ((items.size:Int) - 1))) (hl:s.heap.IsList l items) (hne:l ≠ I) (hs:StrsAre items.toList ys)
  (hok:(ys.map (·.length)).sum + ys.length * x.length ≤ 16777216) (hz:ys.length ≤ 1000000) (hQ:∀h' tk t',(∀b o,b ≠ I → s.heap.get? b = some o → h'.get? b = some o) → Q (.str (Txt.join x ys.reverse) t') { s with heap:=h',toks:=tk }):
  wpAny (model prog w) A (call (.builtin "str.join") [.str x t,.ref I]) Q E s:=by
 have W:=(Walks.listRev (prog:=prog) (w:=w) (A:=A.in1.in1) hh I l hne items).toS
 have hst:(fun i (s:Shared)=>i ≤ items.size ∧ s.heap.IsRevIter I l ((items.size:Int) - 1 - i) ∧ s.heap.IsList l items) 0 s:=⟨Nat.zero_le _,⟨_,hit,rfl,by simp [revObj]⟩,hl⟩
 have hT:∀i (s:Shared),(fun i (s:Shared)=>i ≤ items.size ∧ s.heap.IsRevIter I l ((items.size:Int) - 1 - i) ∧ s.heap.IsList l items) i s → s.TypeIs (.ref I) "list_reverseiterator":=fun i s q=>q.2.1.typeIs
 have hlen:ys.length = items.size:=by have:=hs.length;simpa using this.symm
 refine wpAny_call (codeAny_call_builtin F.slot_str_join.plain F.entry_str_join (F.slot_str_join.check _ _ _ _ _ _ _ _ (typeIs_str _ _ _) (F.args_str_join_2 _ _) ?_))
 rw [join_tree_other]
 refine wpAny_bind (wpAny_typeOf (hT 0 s hst) ?_)
 show wpAny _ A.in1 ((pyIter (.ref I)).tryCatch _ >>= fun it=>collect it >>= fun items=>joinTail x items) _ _ s
 refine wpAny_bind (wpAny_tryCatch (W.of_in1.self 0 s _ _ hst ?_))
 refine wpAny_bind (collect_rev W hT hst (fun b m=>?_) (List.mem_cons_self ..) (fun s' acc hm hacc=>?_) ?_)
 ·simp only [List.mem_cons,List.not_mem_nil,or_false] at m
  rcases m with rfl | rfl
  ·exact Heap.lt_size hit
  ·obtain ⟨o,e,_⟩:=hl;exact Heap.lt_size e
 ·obtain ⟨lv,hlv⟩:=exists_strValues acc.toList fun v hv=>by
   obtain ⟨j,hj,rfl⟩:=Array.mem_iff_getElem.mp (Array.mem_toList_iff.mp hv)
   have hp:=hacc.2 j _ (Array.getElem?_eq_getElem hj)
   obtain ⟨y,u,e,_⟩:=strsAre_get hs (items.size - 1 - j) _ (by simpa using hp)
   exact ⟨y,u,e⟩
  have hmap:lv.map (·.1) = ys.reverse:=by
   apply List.ext_getElem?
   intro j
   have hsz:acc.size = items.size:=hacc.1
   have hlv2:lv.length = items.size:=by
    have e1:(strValues lv).length = acc.toList.length:=congrArg List.length hlv
    have e2:(strValues lv).length = lv.length:=by unfold strValues;rw [List.length_map]
    have e3:acc.toList.length = acc.size:=Array.length_toList
    omega
   by_cases hj:j < items.size
   ·have hja:j < acc.size:=by omega
    have hp:=hacc.2 j _ (Array.getElem?_eq_getElem hja)
    obtain ⟨y,u,e,ey⟩:=strsAre_get hs (items.size - 1 - j) _ (by simpa using hp)
    rw [List.getElem?_reverse (by omega),hlen,ey]
    have e2:(strValues lv)[j]? = some (.str y u):=by
     rw [hlv,Array.getElem?_toList,Array.getElem?_eq_getElem hja,e]
    unfold strValues at e2
    rw [List.getElem?_map] at e2 ⊢
    cases q:lv[j]? with
    | none=>rw [q] at e2;cases e2
    | some p=>rw [q] at e2;simp at e2;simp [e2.1]
   ·rw [List.getElem?_eq_none (by rw [List.length_map];omega),List.getElem?_eq_none (by rw [List.length_reverse];omega)]
  have hJ:JoinOk x (lv.map (·.1)) = true:=by
   rw [hmap]
   exact joinOk_of (by rw [List.map_reverse,List.sum_reverse,List.length_reverse];exact hok)
  rw [←hlv]
  unfold JoinOk at hJ
  rw [Bool.not_eq_true'] at hJ
  have g:Gives (joinTail x (strValues lv)) (joinMade x lv):=by
   have g0:=gives_joinTail x lv hJ
   cases lv with
   | nil=>exact g0
   | cons p r=>cases r with
    | nil=>exact g0
    | cons q r'=>exact g0
  obtain ⟨hh1,hg,hd,ho,ht⟩:=hm
  obtain ⟨hp',g',d',tk',os'⟩:=s'
  simp only at hg hd ho
  subst hg;subst hd;subst ho
  refine g prog w A (wants Q E) _ (post_join lv ⟨joinFit_length hJ,fun t' k=>?_⟩)
  rw [hmap]
  exact hQ hp' k t' fun b o n e=>hh1 b o (by simpa using n) e
 ·have:sizeLine = 16777216:=by decide
  omega
end
section
variable {C:Cx} {fi:FI} {k:Nat} {outer fs:List Env} {h₀ h h' h'':Heap} {th₀ th tl tl':List Addr} {sg sg' sg1 sg2 sg3:List Cell} {ro ro' ro1 ro2:List (Str × D)} {s:Shared} {d d1 d2 d3:D} {o o':Out} {r:Option D} {args ds:List D}
theorem TE.joinRev {e p:Expr} {np rpos apos pos:Pos} {y:Str} {i:Nat} {ys:List Str} (hb:baseOk e = true) (hl:(apos.endLine == pos.line) = true) (hp:plainE p = true) (h1:TE C fi k e ro sg (some (.str y)) sg) (hr:TE C fi k (.Name "reversed" np) ro sg (some (.val (.type "reversed"))) sg)
  (h2:TE C fi k p ro sg (some (.obj i)) sg1) (hi:sg1[i]? = some (.list (ys.map .str))) (hok:(ys.map (·.length)).sum + ys.length * y.length ≤ 16777216) (hz:ys.length ≤ 1000000):
  TE C fi k (.Call (.Attribute e "join" apos) [.Call (.Name "reversed" np) [p] [] rpos] [] pos) ro sg (some (.str (Txt.join y ys.reverse))) sg1:=by
 intro A outer h₀ th₀ th s Q E a I post
 have few:methodCallForm ([Expr.Call (.Name "reversed" np) [p] [] rpos].length + ([]:List Keyword).length) (backTo pos (starEach [Expr.Call (.Name "reversed" np) [p] [] rpos] fi.env)) (backToKw pos (keywordEach [] fi.env)) = true:=by
  have:=star_any (pos:=pos) (env:=fi.env) (es:=[Expr.Call (.Name "reversed" np) [p] [] rpos]) rfl
  unfold methodCallForm
  rw [show (backTo pos (starEach [Expr.Call (.Name "reversed" np) [p] [] rpos] fi.env)).all (fun x=>!x.1) = true from by
   rw [List.all_eq_not_any_not]
   simp only [Bool.not_not,this,Bool.not_false]]
  rfl
 rw [arm_eval_Call,attributeBase_ok hb]
 refine wpAny_bind (h1 _ _ _ _ _ _ _ _ a I fun v h' tk tl J kp n r=>wpAny_bind (wpAny_standAt ?_))
 simp only [Rep] at r
 obtain ⟨t,rfl⟩:=r
 unfold methodCall
 rw [few]
 refine wpAny_bind (wpAny_holding ?_)
 show wpAny _ _ (getMethod _ _ _) _ _ _
 refine getMethod_builtin (typeIs_str _ y t) F.plainAttrs_str F.slot_str_join F.type_str_join (fun a e=>by cases e) ?_
 have hpos:methodCallPos true e fi.env apos pos = pure pos:=by
  unfold methodCallPos
  rw [hl];rfl
 show wpAny _ _ (methodCallPos true e fi.env apos pos >>= _) _ _ _
 rw [hpos]
 refine wpAny_bind (wpAny_pure ?_)
 refine callWith_mach (first:=[.str y t]) rfl rfl ?_
 rw [starEach_plain rfl]
 refine Calls.spliced_cons ?_
 rw [eval_call rfl]
 refine wpAny_bind (hr _ _ _ _ _ { s with heap:=h',toks:=tk } _ _ a J fun v2 h2' tk2 tl2 J2 kp2 n2 r2=>?_)
 simp only [Rep] at r2
 subst r2
 refine callWith_mach (first:=[]) rfl (by simp [hp]) ?_
 rw [starEach_plain hp]
 refine Calls.spliced_cons (h2 _ _ _ _ _ { s with heap:=h2',toks:=tk2 } _ _ a J2 fun v3 h3' tk3 tl3 J3 kp3 n3 r3=>?_)
 refine wpAny_pure ?_
 simp only [Rep] at r3
 obtain ⟨x,hx,rfl⟩:=r3
 obtain ⟨vs,m,ho,hL⟩:=J3.hi.cells i _ x hi hx
 have isL:h3'.IsList x vs.toArray:=⟨_,ho,rfl,m,rfl⟩
 refine call_reversed_list (s:={ s with heap:=h3',toks:=tk3 }) isL ?_
 refine wpAny_pure ?_
 have fresh:h3'.get? h3'.objs.size = none:=new_none
 refine join_rev (s:={ s with heap:=h3'.push (revObj x ((vs.toArray.size:Int) - 1)),toks:=tk3 }) (I:=h3'.objs.size) (l:=x) (items:=vs.toArray) a.hd (Heap.get?_push_size _ rfl) ⟨_,push_ext _ _ ho,rfl,m,rfl⟩ (fun q=>by rw [←q,ho] at fresh;cases fresh) (by simpa using hL.strs) hok hz fun h4 tk4 t4 kp4=>?_
 have kp5:∀b o,h3'.get? b = some o → h4.get? b = some o:=fun b o e=>kp4 b o (fun q=>by rw [q,fresh] at e;cases e) (push_ext b o e)
 have J4:=J3.ext kp5
 rw [List.append_assoc,List.append_assoc] at J4
 have K1:=kp.trans n kp2
 have F1:=fresh_app n kp n2
 rw [List.append_assoc] at kp3
 have K2:=K1.trans F1 kp3
 have F2:=fresh_app F1 K1 n3
 rw [List.append_assoc] at F2
 exact post _ h4 tk4 _ J4 (K2.trans0 (.of_ext kp5)) F2 rs
end
noncomputable section
noncomputable def topSt (i:Nat):Stmt:=(PySem.Challenge.pw_pc0138_01.main.body)[i]?.getD (.Pass default)
noncomputable def subSt (i j:Nat):Stmt:=match topSt i with
 | .ClassDef _ _ _ b _ _ _ _ _ _ _=>b[j]?.getD (.Pass default)
 | _=>.Pass default
noncomputable def fnSt (st:Stmt) (qual:Str) (dV kV doc pm:Value) (an:Option Addr) (cdv ct:Value):FuncData:=match st with
 | .FunctionDef n a b _ _ _ sc _ _ _=>fnOf n qual a b sc dV kV doc pm an cdv ct
 | _=>default
noncomputable def strSt (i:Nat):Str:=match topSt i with
 | .Assign _ (.Constant (.str s) _ _) _=>s
 | _=>Str.empty
noncomputable abbrev pgm:=PySem.Challenge.pw_pc0138_01
noncomputable def envE:Env:={ scope:=pgm.main.scope,locals:=mainNs,globals:=mainNs,cells:=[],code:=.ref 13,frame:=some 14 }
noncomputable def cE:Code:=.body (behindTheImports pgm) envE
noncomputable def de (P:Params) (x:Str) (t:Nat) (v:Value):DictEntry:=⟨PyData.keyHash P x,.str x t,v⟩
noncomputable def tu (l:List Value):Obj:=⟨.type "tuple",none,.seq l.toArray 0,#[]⟩
noncomputable def fl (l:List Value):Obj:=⟨.none,none,.fields l.toArray,#[]⟩
noncomputable def tm (st:Stmt) (q:Str):Obj:=⟨.none,none,.func { fnSt st q .none .none .none .none none .none .none with globals:=0,builtins:=0 },#[]⟩
noncomputable def co (l:List Value):Obj:=⟨.type "code",none,.fields l.toArray,#[]⟩
noncomputable abbrev md164:Value:=.str "__main__" 164
noncomputable abbrev md194:Value:=.str "ledgerspeak.errors" 194
noncomputable abbrev md268:Value:=.str "ledgerspeak.decimals" 268
noncomputable abbrev md351:Value:=.str "ledgerspeak.tokens" 351
noncomputable abbrev md404:Value:=.str "ledgerspeak.references" 404
noncomputable abbrev md552:Value:=.str "ledgerspeak.expressions" 552
noncomputable abbrev md692:Value:=.str "ledgerspeak.reader" 692
noncomputable abbrev md918:Value:=.str "law_pc0138_01" 918
set_option genInjectivity false in
structure Df where
 st:Stmt
 n:Str
 q:Str
 t:Nat
 l:Int
 a:Int
 b:Nat
 ns:List Str
 cs:List Str
 m:Value
 dv:Option Nat
noncomputable def tks:Nat → List Str → List Value
 | _,[]=>[]
 | t,x :: r=>.str x t :: tks (t + 1) r
noncomputable def Df.cd (d:Df):Obj:=co ([.str d.n d.t,.str d.q (d.t + 1),.str "/claim/cut.py" (d.t + 2),.int d.l 0,.int d.a 0,.int 0 0,.int 0 0,.int 3 0,.ref d.b,.bool true,.int 181 0,.ref (d.b + 1),.none] ++ (match d.ns with
 | []=>[.none,.none,.ref (d.b + 2)]
 | _=>[.ref (d.b + 2),.ref (d.b + 3),.ref (d.b + 4)]) ++ [.int (d.t + 3 + d.ns.length + d.cs.length:Nat) 0,.int d.l 0,.str "/claim/cut.py" (d.t + 4 + d.ns.length + d.cs.length)])
noncomputable def Df.fn (d:Df):Obj:=⟨.type "function",none,.func (fnSt d.st d.q (match d.dv with
 | some a=>.ref a
 | none=>.none) .none .none d.m none (.ref (d.b + (match d.ns with
 | []=>3
 | _=>5))) .none),#[]⟩
noncomputable def Df.all (d:Df):List Obj:=tu [] :: fl [] :: (match d.ns with
 | []=>[tm d.st d.q,d.cd,d.fn]
 | _=>[tu (tks (d.t + 3) d.ns),tu (tks (d.t + 3 + d.ns.length) d.cs),tm d.st d.q,d.cd,d.fn])
noncomputable def f21:Df:=⟨topSt 0,"_wall","_wall",187,1,1,15,["k"],[],md164,none⟩
noncomputable def f37:Df:=⟨subSt 2 0,"__init__","LedgerError.__init__",210,7,3,31,["self","what","at"],[],md194,(some 30)⟩
noncomputable def f44:Df:=⟨subSt 2 1,"told","LedgerError.told",219,12,1,38,["self"],[],md194,none⟩
noncomputable def f81:Df:=⟨topSt 7,"cut_quotient","cut_quotient",272,20,2,75,["top","bottom"],[],md268,none⟩
noncomputable def f89:Df:=⟨topSt 8,"decimal","decimal",281,24,2,83,["units","scale"],[],md268,(some 82)⟩
noncomputable def f96:Df:=⟨topSt 9,"negated","negated",289,31,1,90,["a"],[],md268,none⟩
noncomputable def f103:Df:=⟨topSt 10,"units_at","units_at",296,33,3,97,["a","scale","is_rounded","size","half"],[],md268,none⟩
noncomputable def f110:Df:=⟨topSt 11,"is_whole","is_whole",307,41,1,104,["a"],[],md268,none⟩
noncomputable def f117:Df:=⟨topSt 12,"whole_of","whole_of",314,43,1,111,["a"],[],md268,none⟩
noncomputable def f124:Df:=⟨topSt 13,"worth_of","worth_of",321,45,1,118,["figures","number","figure"],[],md268,none⟩
noncomputable def f131:Df:=⟨topSt 14,"read_decimal","read_decimal",330,50,1,125,["text","begin","ahead","behind","point","at","units"],[],md268,none⟩
noncomputable def f138:Df:=⟨topSt 15,"write_decimal","write_decimal",343,65,1,132,["a","figures"],[],md268,none⟩
noncomputable def f154:Df:=⟨subSt 17 0,"__init__","Token.__init__",367,74,5,148,["self","kind","worth","at","is_in_a"],[],md351,(some 147)⟩
noncomputable def f161:Df:=⟨subSt 17 1,"told","Token.told",378,80,1,155,["self"],[],md351,none⟩
noncomputable def f175:Df:=⟨topSt 18,"quoted","quoted",397,82,1,169,["text"],[],md351,none⟩
noncomputable def f184:Df:=⟨topSt 23,"is_part_next","is_part_next",458,88,1,178,["reader","depth","ahead"],[],md404,none⟩
noncomputable def f191:Df:=⟨topSt 24,"read_subscripts","read_subscripts",467,101,2,185,["reader","read_expr","found"],[],md404,none⟩
noncomputable def f198:Df:=⟨topSt 25,"read_part","read_part",476,109,2,192,["reader","read_expr","begin","length"],[],md404,none⟩
noncomputable def f205:Df:=⟨topSt 26,"read_ref","read_ref",486,116,2,199,["reader","read_expr","name","qualifiers","subscripts","part"],[],md404,none⟩
noncomputable def f212:Df:=⟨topSt 27,"read_all","read_all",498,126,1,206,["reader","figure"],[],md404,none⟩
noncomputable def f219:Df:=⟨topSt 28,"read_figure","read_figure",506,133,1,213,["reader"],[],md404,none⟩
noncomputable def f226:Df:=⟨topSt 29,"read_operand","read_operand",513,137,2,220,["reader","read_expr","figure"],[],md404,none⟩
noncomputable def f231:Df:=⟨topSt 30,"shown_octets","shown_octets",522,146,1,227,[],[],md404,none⟩
noncomputable def f236:Df:=⟨topSt 31,"shown_subscripts","shown_subscripts",528,148,2,232,[],[],md404,none⟩
noncomputable def f243:Df:=⟨topSt 32,"show_ref","show_ref",534,153,2,237,["ref","show_expr","found","length"],[],md404,none⟩
noncomputable def f250:Df:=⟨topSt 33,"show_operand","show_operand",544,161,2,244,["operand","show_expr"],[],md404,none⟩
noncomputable def f258:Df:=⟨topSt 40,"read_expression","read_expression",578,175,1,252,["reader"],[],md552,none⟩
noncomputable def f265:Df:=⟨topSt 41,"sign_among","sign_among",585,177,2,259,["reader","signs","token"],[],md552,none⟩
noncomputable def f272:Df:=⟨topSt 42,"read_sum","read_sum",594,182,2,266,["reader","depth","found","sign"],[],md552,none⟩
noncomputable def f279:Df:=⟨topSt 43,"read_product","read_product",604,190,2,273,["reader","depth","found","sign"],[],md552,none⟩
noncomputable def f286:Df:=⟨topSt 44,"read_factor","read_factor",614,196,2,280,["reader","depth","sign","is_own","found"],[],md552,none⟩
noncomputable def f293:Df:=⟨topSt 45,"is_lone_number","is_lone_number",625,206,1,287,["reader","token","behind"],[],md552,none⟩
noncomputable def f300:Df:=⟨topSt 46,"read_power","read_power",634,211,2,294,["reader","depth","found"],[],md552,none⟩
noncomputable def f307:Df:=⟨topSt 47,"read_primary","read_primary",643,217,2,301,["reader","depth","found"],["depth"],md552,none⟩
noncomputable def f314:Df:=⟨topSt 48,"level_of","level_of",653,225,1,308,["expr"],[],md552,none⟩
noncomputable def f321:Df:=⟨topSt 49,"bracketed","bracketed",660,229,2,315,["expr","least","text"],[],md552,none⟩
noncomputable def f328:Df:=⟨topSt 50,"show_expression","show_expression",669,232,1,322,["expr","pieces","here"],[],md552,none⟩
noncomputable def f335:Df:=⟨topSt 51,"right_part","right_part",678,245,1,329,["expr"],[],md552,none⟩
noncomputable def f342:Df:=⟨topSt 52,"show_signed","show_signed",685,247,1,336,["expr"],[],md552,none⟩
noncomputable def f349:Df:=⟨topSt 56,"is_reserved","is_reserved",698,254,1,343,["word"],[],md692,none⟩
noncomputable def f354:Df:=⟨topSt 57,"octets_of_text","octets_of_text",705,256,1,350,[],[],md692,none⟩
noncomputable def f369:Df:=⟨subSt 58 0,"__init__","Reader.__init__",724,263,3,363,["self","tokens","at"],[],md692,(some 362)⟩
noncomputable def f377:Df:=⟨subSt 58 1,"peek","Reader.peek",734,268,2,371,["self","ahead"],[],md692,(some 370)⟩
noncomputable def f384:Df:=⟨subSt 58 2,"is_done","Reader.is_done",742,273,1,378,["self"],[],md692,none⟩
noncomputable def f391:Df:=⟨subSt 58 3,"fault","Reader.fault",749,276,2,385,["self","what"],[],md692,none⟩
noncomputable def f398:Df:=⟨subSt 58 4,"take","Reader.take",757,281,1,392,["self","token"],[],md692,none⟩
noncomputable def f406:Df:=⟨subSt 58 5,"is_kind","Reader.is_kind",766,288,3,400,["self","kind","ahead","token"],[],md692,(some 399)⟩
noncomputable def f413:Df:=⟨subSt 58 6,"is_word","Reader.is_word",776,292,2,407,["self","words","ahead","word"],[],md692,none⟩
noncomputable def f420:Df:=⟨subSt 58 7,"skip","Reader.skip",786,300,2,414,["self","words"],[],md692,none⟩
noncomputable def f427:Df:=⟨subSt 58 8,"need","Reader.need",794,306,2,421,["self","words"],[],md692,none⟩
noncomputable def f434:Df:=⟨subSt 58 9,"one_of","Reader.one_of",802,309,2,428,["self","words","word"],[],md692,none⟩
noncomputable def f441:Df:=⟨subSt 58 10,"word","Reader.word",811,315,1,435,["self"],[],md692,none⟩
noncomputable def f449:Df:=⟨subSt 58 11,"is_name","Reader.is_name",819,320,2,443,["self","ahead"],[],md692,(some 442)⟩
noncomputable def f456:Df:=⟨subSt 58 12,"name","Reader.name",827,323,1,450,["self"],[],md692,none⟩
noncomputable def f463:Df:=⟨subSt 58 13,"names","Reader.names",834,328,1,457,["self","found"],[],md692,none⟩
noncomputable def f471:Df:=⟨subSt 58 14,"is_sign","Reader.is_sign",843,334,3,465,["self","sign","ahead"],[],md692,(some 464)⟩
noncomputable def f478:Df:=⟨subSt 58 15,"skip_sign","Reader.skip_sign",852,337,2,472,["self","sign"],[],md692,none⟩
noncomputable def f485:Df:=⟨subSt 58 16,"need_sign","Reader.need_sign",860,343,2,479,["self","sign"],[],md692,none⟩
noncomputable def f492:Df:=⟨subSt 58 17,"is_number","Reader.is_number",868,347,1,486,["self"],[],md692,none⟩
noncomputable def f499:Df:=⟨subSt 58 18,"signed","Reader.signed",875,352,1,493,["self","is_below","found"],[],md692,none⟩
noncomputable def f506:Df:=⟨subSt 58 19,"whole","Reader.whole",884,361,1,500,["self","found"],[],md692,none⟩
noncomputable def f513:Df:=⟨subSt 58 20,"literal","Reader.literal",892,370,1,507,["self"],[],md692,none⟩
noncomputable def f520:Df:=⟨subSt 58 21,"octets","Reader.octets",899,375,1,514,["self","found"],[],md692,none⟩
noncomputable def f534:Df:=⟨topSt 60,"_law_draw","_law_draw",920,384,2,528,["pen","many","digit","spot","cell","great"],[],md918,none⟩
noncomputable def f541:Df:=⟨topSt 61,"_law_pen","_law_pen",932,399,1,535,["script"],[],md918,none⟩
noncomputable def f548:Df:=⟨topSt 62,"_law_reader","_law_reader",939,401,1,542,["words","tokens","at","word","kind"],[],md918,none⟩
noncomputable def f555:Df:=⟨topSt 63,"_law_words","_law_words",950,407,1,549,["text","found","at","end"],[],md918,none⟩
noncomputable def f562:Df:=⟨topSt 64,"_law_expr","_law_expr",960,423,2,556,["pen","deep","way","sign","left"],[],md918,none⟩
noncomputable def f569:Df:=⟨topSt 65,"_law_full","_law_full",971,434,1,563,["expr"],[],md918,none⟩
noncomputable def f576:Df:=⟨topSt 66,"_law_read","_law_read",978,442,1,570,["words","reader","found","caught","error"],[],md918,none⟩
noncomputable def f583:Df:=⟨topSt 67,"_law_pairs","_law_pairs",989,449,1,577,["words","open_places","found","at","word"],[],md918,none⟩
noncomputable def f588:Df:=⟨topSt 68,"law","law",1000,457,1,584,[],[],md918,none⟩
noncomputable def o46 (P:Params):Obj:=⟨(.type "dict"),none,(.dict #[de P "__module__" 203 (.str "ledgerspeak.errors" 194),de P "__firstlineno__" 207 (.int 5 206),de P "__init__" 218 (.ref 37),de P "told" 225 (.ref 44),de P "__static_attributes__" 228 (.ref 45),de P "__weakref__" 230 (.ref 48),de P "__doc__" 231 .none] 3),#[]⟩
noncomputable def o48:Obj:=⟨(.type "getset_descriptor"),none,(.fields #[(.str "__weakref__" 229),(.ref 47),(.builtin "ExceptionGroup.__weakref__"),.none]),#[]⟩
noncomputable def o71 (P:Params):Obj:=⟨(.type "dict"),none,(.dict #[de P "__module__" 259 (.str "ledgerspeak.errors" 194),de P "__firstlineno__" 263 (.int 16 262),de P "__static_attributes__" 264 (.ref 70),de P "__doc__" 265 .none] 2),#[]⟩
noncomputable def o72:Obj:=⟨(.type "type"),none,(.cls { name:="GrammarFault",bases:=[(.ref 47)],mro:=[(.ref 72),(.ref 47),(.type "Exception"),(.type "BaseException"),(.type "object")],ns:=71,qualname:="GrammarFault",hasDict:=true,slotNames:=[],subclasses:=[],abstract:=false,collection:=none,hasDel:=false }),#[(some (.ref 63)),none,(some (.str "GrammarFault" 252)),(some (.str "GrammarFault" 260)),(some (.builtin "Exception.__new__")),(some (.bool true))]⟩
noncomputable def o163 (P:Params):Obj:=⟨(.type "dict"),none,(.dict #[de P "__module__" 360 (.str "ledgerspeak.tokens" 351),de P "__firstlineno__" 364 (.int 72 363),de P "__init__" 377 (.ref 154),de P "told" 384 (.ref 161),de P "__static_attributes__" 389 (.ref 162),de P "__dict__" 391 (.ref 165),de P "__weakref__" 393 (.ref 166),de P "__doc__" 394 .none] 4),#[]⟩
noncomputable def o164:Obj:=⟨(.type "type"),none,(.cls { name:="Token",bases:=[(.type "object")],mro:=[(.ref 164),(.type "object")],ns:=163,qualname:="Token",hasDict:=true,slotNames:=[],subclasses:=[],abstract:=false,collection:=none,hasDel:=false }),#[none,none,(some (.str "Token" 353)),(some (.str "Token" 361)),(some (.builtin "object.__new__")),(some (.bool true))]⟩
noncomputable def o165:Obj:=⟨(.type "getset_descriptor"),none,(.fields #[(.str "__dict__" 390),(.ref 164),(.builtin "function.__dict__"),(.builtin "function.__dict__#set")]),#[]⟩
noncomputable def o166:Obj:=⟨(.type "getset_descriptor"),none,(.fields #[(.str "__weakref__" 392),(.ref 164),(.builtin "ExceptionGroup.__weakref__"),.none]),#[]⟩
noncomputable def o176 (P:Params):Obj:=⟨(.type "dict"),none,(.dict #[de P "ZERO" 408 (.str "ZERO" 409),de P "ZEROS" 410 (.str "ZERO" 411),de P "ZEROES" 412 (.str "ZERO" 413),de P "SPACE" 414 (.str "SPACE" 415),de P "SPACES" 416 (.str "SPACE" 417),de P "HIGH-VALUE" 418 (.str "HIGH" 419),de P "HIGH-VALUES" 420 (.str "HIGH" 421),de P "LOW-VALUE" 422 (.str "LOW" 423),de P "LOW-VALUES" 424 (.str "LOW" 425),de P "QUOTE" 426 (.str "QUOTE" 427),de P "QUOTES" 428 (.str "QUOTE" 429)] 11),#[]⟩
noncomputable def o251 (P:Params):Obj:=⟨(.type "dict"),none,(.dict #[de P "+" 562 (.int 1 563),de P "-" 564 (.int 1 565),de P "*" 566 (.int 2 567),de P "/" 568 (.int 2 569),de P "**" 570 (.int 4 571)] 5),#[]⟩
noncomputable def o522 (P:Params):Obj:=⟨(.type "dict"),none,(.dict #[de P "__module__" 718 (.str "ledgerspeak.reader" 692),de P "__firstlineno__" 722 (.int 261 721),de P "__init__" 732 (.ref 369),de P "peek" 741 (.ref 377),de P "is_done" 748 (.ref 384),de P "fault" 756 (.ref 391),de P "take" 764 (.ref 398),de P "is_kind" 775 (.ref 406),de P "is_word" 785 (.ref 413),de P "skip" 793 (.ref 420),de P "need" 801 (.ref 427),de P "one_of" 810 (.ref 434),de P "word" 817 (.ref 441),de P "is_name" 826 (.ref 449),de P "name" 833 (.ref 456),de P "names" 841 (.ref 463),de P "is_sign" 851 (.ref 471),de P "skip_sign" 859 (.ref 478),de P "need_sign" 867 (.ref 485),de P "is_number" 874 (.ref 492),de P "signed" 883 (.ref 499),de P "whole" 891 (.ref 506),de P "literal" 898 (.ref 513),de P "octets" 906 (.ref 520),de P "__static_attributes__" 910 (.ref 521),de P "__dict__" 912 (.ref 524),de P "__weakref__" 914 (.ref 525),de P "__doc__" 915 .none] 4),#[]⟩
noncomputable def o523:Obj:=⟨(.type "type"),none,(.cls { name:="Reader",bases:=[(.type "object")],mro:=[(.ref 523),(.type "object")],ns:=522,qualname:="Reader",hasDict:=true,slotNames:=[],subclasses:=[],abstract:=false,collection:=none,hasDel:=false }),#[none,none,(some (.str "Reader" 711)),(some (.str "Reader" 719)),(some (.builtin "object.__new__")),(some (.bool true))]⟩
noncomputable def o524:Obj:=⟨(.type "getset_descriptor"),none,(.fields #[(.str "__dict__" 911),(.ref 523),(.builtin "function.__dict__"),(.builtin "function.__dict__#set")]),#[]⟩
noncomputable def o525:Obj:=⟨(.type "getset_descriptor"),none,(.fields #[(.str "__weakref__" 913),(.ref 523),(.builtin "ExceptionGroup.__weakref__"),.none]),#[]⟩
noncomputable def mainEs (P:Params):List DictEntry:=[
 de P "__doc__" 166 .none,
 de P "__package__" 167 .none,
 de P "__loader__" 168 (.builtin "__main__.__loader__#opaque"),
 de P "__spec__" 169 .none,
 de P "__annotations__" 170 (.ref 6),
 de P "__builtins__" 171 (.ref 4),
 de P "__file__" 173 (.str "/claim/cut.py" 172),
 de P "__cached__" 174 .none,
 de P "_wall" 193 (.ref 21),
 de P "LedgerError" 235 (.ref 47),
 de P "TokenFault" 251 (.ref 60),
 de P "GrammarFault" 267 (.ref 72),
 de P "FIGURES" 271 (.str "0123456789" 270),
 de P "cut_quotient" 279 (.ref 81),
 de P "decimal" 288 (.ref 89),
 de P "negated" 295 (.ref 96),
 de P "units_at" 306 (.ref 103),
 de P "is_whole" 313 (.ref 110),
 de P "whole_of" 320 (.ref 117),
 de P "worth_of" 329 (.ref 124),
 de P "read_decimal" 342 (.ref 131),
 de P "write_decimal" 350 (.ref 138),
 de P "Token" 396 (.ref 164),
 de P "quoted" 403 (.ref 175),
 de P "MOST_SUBSCRIPTS" 407 (.int 7 406),
 de P "FIGURE_NAMES" 441 (.ref 176),
 de P "FIGURE_SHOWN" 457 (.ref 177),
 de P "is_part_next" 466 (.ref 184),
 de P "read_subscripts" 475 (.ref 191),
 de P "read_part" 485 (.ref 198),
 de P "read_ref" 497 (.ref 205),
 de P "read_all" 505 (.ref 212),
 de P "read_figure" 512 (.ref 219),
 de P "read_operand" 521 (.ref 226),
 de P "shown_octets" 527 (.ref 231),
 de P "shown_subscripts" 533 (.ref 236),
 de P "show_ref" 543 (.ref 243),
 de P "show_operand" 551 (.ref 250),
 de P "MOST_DEEP" 555 (.int 20 554),
 de P "SIGNED" 557 (.int 3 556),
 de P "RAISED" 559 (.int 4 558),
 de P "BARE" 561 (.int 5 560),
 de P "LEVELS" 577 (.ref 251),
 de P "read_expression" 584 (.ref 258),
 de P "sign_among" 593 (.ref 265),
 de P "read_sum" 603 (.ref 272),
 de P "read_product" 613 (.ref 279),
 de P "read_factor" 624 (.ref 286),
 de P "is_lone_number" 633 (.ref 293),
 de P "read_power" 642 (.ref 300),
 de P "read_primary" 652 (.ref 307),
 de P "level_of" 659 (.ref 314),
 de P "bracketed" 668 (.ref 321),
 de P "show_expression" 677 (.ref 328),
 de P "right_part" 684 (.ref 335),
 de P "show_signed" 691 (.ref 342),
 de P "MOST_OCTET" 695 (.int 255 694),
 de P "RESERVED" 697 (.str (strSt 55) 696),
 de P "is_reserved" 704 (.ref 349),
 de P "octets_of_text" 710 (.ref 354),
 de P "Reader" 917 (.ref 523),
 de P "_law_draw" 931 (.ref 534),
 de P "_law_pen" 938 (.ref 541),
 de P "_law_reader" 949 (.ref 548),
 de P "_law_words" 959 (.ref 555),
 de P "_law_expr" 970 (.ref 562),
 de P "_law_full" 977 (.ref 569),
 de P "_law_read" 988 (.ref 576),
 de P "_law_pairs" 999 (.ref 583),
 de P "law" 1005 (.ref 588)]
noncomputable def mainD (nm:Str) (t k:Nat) (P:Params):Obj:=⟨.type "dict",none,.dict ((de P "__name__" 165 (.str nm t) :: mainEs P).take k).toArray k,#[]⟩
noncomputable def tabs:List Value:=[(.int 1 0),(.int 0 0),(.ref 20),(.int 5 0),(.int 0 0),(.ref 27),(.int 14 0),(.int 0 0),(.ref 56),(.int 16 0),(.int 0 0),(.ref 68),(.int 20 0),(.int 0 0),(.ref 80),(.int 24 0),(.int 0 0),(.ref 88),(.int 31 0),(.int 0 0),(.ref 95),(.int 33 0),(.int 0 0),(.ref 102),(.int 41 0),(.int 0 0),(.ref 109),(.int 43 0),(.int 0 0),(.ref 116),(.int 45 0),(.int 0 0),(.ref 123),(.int 50 0),(.int 0 0),(.ref 130),(.int 65 0),(.int 0 0),(.ref 137),(.int 72 0),(.int 0 0),(.ref 144),(.int 82 0),(.int 0 0),(.ref 174),(.int 88 0),(.int 0 0),(.ref 183),(.int 101 0),(.int 0 0),(.ref 190),(.int 109 0),(.int 0 0),(.ref 197),(.int 116 0),(.int 0 0),(.ref 204),(.int 126 0),(.int 0 0),(.ref 211),(.int 133 0),(.int 0 0),(.ref 218),(.int 137 0),(.int 0 0),(.ref 225),(.int 146 0),(.int 0 0),(.ref 230),(.int 148 0),(.int 0 0),(.ref 235),(.int 153 0),(.int 0 0),(.ref 242),(.int 161 0),(.int 0 0),(.ref 249),(.int 175 0),(.int 0 0),(.ref 257),(.int 177 0),(.int 0 0),(.ref 264),(.int 182 0),(.int 0 0),(.ref 271),(.int 190 0),(.int 0 0),(.ref 278),(.int 196 0),(.int 0 0),(.ref 285),(.int 206 0),(.int 0 0),(.ref 292),(.int 211 0),(.int 0 0),(.ref 299),(.int 217 0),(.int 0 0),(.ref 306),(.int 225 0),(.int 0 0),(.ref 313),(.int 229 0),(.int 0 0),(.ref 320),(.int 232 0),(.int 0 0),(.ref 327),(.int 245 0),(.int 0 0),(.ref 334),(.int 247 0),(.int 0 0),(.ref 341),(.int 254 0),(.int 0 0),(.ref 348),(.int 256 0),(.int 0 0),(.ref 353),(.int 261 0),(.int 0 0),(.ref 360),(.int 384 0),(.int 0 0),(.ref 533),(.int 399 0),(.int 0 0),(.ref 540),(.int 401 0),(.int 0 0),(.ref 547),(.int 407 0),(.int 0 0),(.ref 554),(.int 423 0),(.int 0 0),(.ref 561),(.int 434 0),(.int 0 0),(.ref 568),(.int 442 0),(.int 0 0),(.ref 575),(.int 449 0),(.int 0 0),(.ref 582),(.int 457 0),(.int 0 0),(.ref 587)]
noncomputable def o2 (l:Nat) (P:Params):Obj:=⟨.none,none,.dict (([de P "type.__subclasses__.Exception.0" 232 (.int 47 0),de P "type.__subclasses__.Exception.n" 233 (.int 1 0)]:List DictEntry).take l).toArray l,#[]⟩
noncomputable def o47 (c:Nat):Obj:=⟨(.type "type"),none,(.cls { name:="LedgerError",bases:=[(.type "Exception")],mro:=[(.ref 47),(.type "Exception"),(.type "BaseException"),(.type "object")],ns:=46,qualname:="LedgerError",hasDict:=true,slotNames:=[],subclasses:=List.take c [(.ref 60),(.ref 72)],abstract:=false,collection:=none,hasDel:=false }),#[(some (.ref 22)),none,(some (.str "LedgerError" 196)),(some (.str "LedgerError" 204)),(some (.builtin "Exception.__new__")),(some (.bool true))]⟩
noncomputable def N0:List Obj:=f21.all
noncomputable def N2 (c:Nat) (P:Params):List Obj:=[tu [(.type "Exception")],⟨(.type "builtin_function_or_method"),none,(.fields #[(.builtin "type.__prepare__"),(.type "type")]),#[]⟩,⟨(.type "dict"),none,(.dict #[de P "__module__" 203 (.str "ledgerspeak.errors" 194),de P "__qualname__" 205 (.str "LedgerError" 204),de P "__firstlineno__" 207 (.int 5 206),de P "__init__" 218 (.ref 37),de P "told" 225 (.ref 44),de P "__static_attributes__" 228 (.ref 45)] 6),#[]⟩,tu [],fl [(.int 7 0),(.int 4 0),(.ref 36),(.int 12 0),(.int 4 0),(.ref 43)],co [(.str "LedgerError" 198),(.str "LedgerError" 199),(.str "/claim/cut.py" 200),(.int 5 0),(.int 0 0),(.int 0 0),(.int 0 0),(.int 0 0),(.ref 25),(.bool false),(.int 181 0),(.ref 26),.none,.none,.none,.none,(.int 201 0),(.int 5 0),(.str "/claim/cut.py" 202)],⟨(.type "frame"),none,.plain,#[(some (.ref 27)),(some (.ref 3)),(some (.ref 24)),none,(some (.str "ledgerspeak.errors" 194)),none,(some (.ref 0))]⟩,tu [(.int 0 208),(.int 0 209)],tu [(.ref 29)]] ++ (f37.all ++ (f44.all ++ ([tu [(.str "at" 226),(.str "what" 227)],o46 P,o47 c,o48,⟨(.type "super"),none,(.fields #[(.ref 47),(.ref 47),(.ref 47)]),#[]⟩,⟨(.type "builtin_function_or_method"),none,(.fields #[(.builtin "object.__init_subclass__"),(.ref 47)]),#[]⟩])))
noncomputable def N3 (P:Params):List Obj:=[tu [(.ref 47)],⟨(.type "builtin_function_or_method"),none,(.fields #[(.builtin "type.__prepare__"),(.type "type")]),#[]⟩,⟨(.type "dict"),none,(.dict #[de P "__module__" 243 (.str "ledgerspeak.errors" 194),de P "__qualname__" 245 (.str "TokenFault" 244),de P "__firstlineno__" 247 (.int 14 246),de P "__static_attributes__" 248 (.ref 58)] 4),#[]⟩,tu [],fl [],co [(.str "TokenFault" 238),(.str "TokenFault" 239),(.str "/claim/cut.py" 240),(.int 14 0),(.int 0 0),(.int 0 0),(.int 0 0),(.int 0 0),(.ref 54),(.bool false),(.int 181 0),(.ref 55),.none,.none,.none,.none,(.int 241 0),(.int 14 0),(.str "/claim/cut.py" 242)],⟨(.type "frame"),none,.plain,#[(some (.ref 56)),(some (.ref 3)),(some (.ref 53)),none,(some (.str "ledgerspeak.errors" 194)),none,(some (.ref 0))]⟩,tu [],⟨(.type "dict"),none,(.dict #[de P "__module__" 243 (.str "ledgerspeak.errors" 194),de P "__firstlineno__" 247 (.int 14 246),de P "__static_attributes__" 248 (.ref 58),de P "__doc__" 249 .none] 2),#[]⟩,⟨(.type "type"),none,(.cls { name:="TokenFault",bases:=[(.ref 47)],mro:=[(.ref 60),(.ref 47),(.type "Exception"),(.type "BaseException"),(.type "object")],ns:=59,qualname:="TokenFault",hasDict:=true,slotNames:=[],subclasses:=[],abstract:=false,collection:=none,hasDel:=false }),#[(some (.ref 51)),none,(some (.str "TokenFault" 236)),(some (.str "TokenFault" 244)),(some (.builtin "Exception.__new__")),(some (.bool true))]⟩,⟨(.type "super"),none,(.fields #[(.ref 60),(.ref 60),(.ref 60)]),#[]⟩,⟨(.type "builtin_function_or_method"),none,(.fields #[(.builtin "object.__init_subclass__"),(.ref 60)]),#[]⟩]
noncomputable def N4 (P:Params):List Obj:=[tu [(.ref 47)],⟨(.type "builtin_function_or_method"),none,(.fields #[(.builtin "type.__prepare__"),(.type "type")]),#[]⟩,⟨(.type "dict"),none,(.dict #[de P "__module__" 259 (.str "ledgerspeak.errors" 194),de P "__qualname__" 261 (.str "GrammarFault" 260),de P "__firstlineno__" 263 (.int 16 262),de P "__static_attributes__" 264 (.ref 70)] 4),#[]⟩,tu [],fl [],co [(.str "GrammarFault" 254),(.str "GrammarFault" 255),(.str "/claim/cut.py" 256),(.int 16 0),(.int 0 0),(.int 0 0),(.int 0 0),(.int 0 0),(.ref 66),(.bool false),(.int 181 0),(.ref 67),.none,.none,.none,.none,(.int 257 0),(.int 16 0),(.str "/claim/cut.py" 258)],⟨(.type "frame"),none,.plain,#[(some (.ref 68)),(some (.ref 3)),(some (.ref 65)),none,(some (.str "ledgerspeak.errors" 194)),none,(some (.ref 0))]⟩,tu [],o71 P,o72,⟨(.type "super"),none,(.fields #[(.ref 72),(.ref 72),(.ref 72)]),#[]⟩,⟨(.type "builtin_function_or_method"),none,(.fields #[(.builtin "object.__init_subclass__"),(.ref 72)]),#[]⟩]
noncomputable def N7:List Obj:=f81.all
noncomputable def N8:List Obj:=[tu [(.int 0 280)]] ++ (f89.all)
noncomputable def N9:List Obj:=f96.all
noncomputable def N10:List Obj:=f103.all
noncomputable def N11:List Obj:=f110.all
noncomputable def N12:List Obj:=f117.all
noncomputable def N13:List Obj:=f124.all
noncomputable def N14:List Obj:=f131.all
noncomputable def N15:List Obj:=f138.all
noncomputable def N17 (P:Params):List Obj:=[tu [],⟨(.type "builtin_function_or_method"),none,(.fields #[(.builtin "type.__prepare__"),(.type "type")]),#[]⟩,⟨(.type "dict"),none,(.dict #[de P "__module__" 360 (.str "ledgerspeak.tokens" 351),de P "__qualname__" 362 (.str "Token" 361),de P "__firstlineno__" 364 (.int 72 363),de P "__init__" 377 (.ref 154),de P "told" 384 (.ref 161),de P "__static_attributes__" 389 (.ref 162)] 6),#[]⟩,tu [],fl [(.int 74 0),(.int 4 0),(.ref 153),(.int 80 0),(.int 4 0),(.ref 160)],co [(.str "Token" 355),(.str "Token" 356),(.str "/claim/cut.py" 357),(.int 72 0),(.int 0 0),(.int 0 0),(.int 0 0),(.int 0 0),(.ref 142),(.bool false),(.int 181 0),(.ref 143),.none,.none,.none,.none,(.int 358 0),(.int 72 0),(.str "/claim/cut.py" 359)],⟨(.type "frame"),none,.plain,#[(some (.ref 144)),(some (.ref 3)),(some (.ref 141)),none,(some (.str "ledgerspeak.tokens" 351)),none,(some (.ref 0))]⟩,tu [(.int 0 365),(.int 0 366)],tu [(.ref 146),(.bool false)]] ++ (f154.all ++ (f161.all ++ ([tu [(.str "at" 385),(.str "is_in_a" 386),(.str "kind" 387),(.str "worth" 388)],o163 P,o164,o165,o166,⟨(.type "super"),none,(.fields #[(.ref 164),(.ref 164),(.ref 164)]),#[]⟩,⟨(.type "builtin_function_or_method"),none,(.fields #[(.builtin "object.__init_subclass__"),(.ref 164)]),#[]⟩])))
noncomputable def N18:List Obj:=f175.all
noncomputable def N21 (P:Params):List Obj:=[o176 P]
noncomputable def N22 (P:Params):List Obj:=[⟨(.type "dict"),none,(.dict #[de P "ZERO" 442 (.str "ZERO" 443),de P "SPACE" 444 (.str "SPACE" 445),de P "HIGH" 446 (.str "HIGH-VALUE" 447),de P "LOW" 448 (.str "LOW-VALUE" 449),de P "QUOTE" 450 (.str "QUOTE" 451)] 5),#[]⟩]
noncomputable def N23:List Obj:=f184.all
noncomputable def N24:List Obj:=f191.all
noncomputable def N25:List Obj:=f198.all
noncomputable def N26:List Obj:=f205.all
noncomputable def N27:List Obj:=f212.all
noncomputable def N28:List Obj:=f219.all
noncomputable def N29:List Obj:=f226.all
noncomputable def N30:List Obj:=f231.all
noncomputable def N31:List Obj:=f236.all
noncomputable def N32:List Obj:=f243.all
noncomputable def N33:List Obj:=f250.all
noncomputable def N39 (P:Params):List Obj:=[o251 P]
noncomputable def N40:List Obj:=f258.all
noncomputable def N41:List Obj:=f265.all
noncomputable def N42:List Obj:=f272.all
noncomputable def N43:List Obj:=f279.all
noncomputable def N44:List Obj:=f286.all
noncomputable def N45:List Obj:=f293.all
noncomputable def N46:List Obj:=f300.all
noncomputable def N47:List Obj:=f307.all
noncomputable def N48:List Obj:=f314.all
noncomputable def N49:List Obj:=f321.all
noncomputable def N50:List Obj:=f328.all
noncomputable def N51:List Obj:=f335.all
noncomputable def N52:List Obj:=f342.all
noncomputable def N56:List Obj:=f349.all
noncomputable def N57:List Obj:=f354.all
noncomputable def N58 (P:Params):List Obj:=[tu [],⟨(.type "builtin_function_or_method"),none,(.fields #[(.builtin "type.__prepare__"),(.type "type")]),#[]⟩,⟨(.type "dict"),none,(.dict #[de P "__module__" 718 (.str "ledgerspeak.reader" 692),de P "__qualname__" 720 (.str "Reader" 719),de P "__firstlineno__" 722 (.int 261 721),de P "__init__" 732 (.ref 369),de P "peek" 741 (.ref 377),de P "is_done" 748 (.ref 384),de P "fault" 756 (.ref 391),de P "take" 764 (.ref 398),de P "is_kind" 775 (.ref 406),de P "is_word" 785 (.ref 413),de P "skip" 793 (.ref 420),de P "need" 801 (.ref 427),de P "one_of" 810 (.ref 434),de P "word" 817 (.ref 441),de P "is_name" 826 (.ref 449),de P "name" 833 (.ref 456),de P "names" 841 (.ref 463),de P "is_sign" 851 (.ref 471),de P "skip_sign" 859 (.ref 478),de P "need_sign" 867 (.ref 485),de P "is_number" 874 (.ref 492),de P "signed" 883 (.ref 499),de P "whole" 891 (.ref 506),de P "literal" 898 (.ref 513),de P "octets" 906 (.ref 520),de P "__static_attributes__" 910 (.ref 521)] 26),#[]⟩,tu [],fl [(.int 263 0),(.int 4 0),(.ref 368),(.int 268 0),(.int 4 0),(.ref 376),(.int 273 0),(.int 4 0),(.ref 383),(.int 276 0),(.int 4 0),(.ref 390),(.int 281 0),(.int 4 0),(.ref 397),(.int 288 0),(.int 4 0),(.ref 405),(.int 292 0),(.int 4 0),(.ref 412),(.int 300 0),(.int 4 0),(.ref 419),(.int 306 0),(.int 4 0),(.ref 426),(.int 309 0),(.int 4 0),(.ref 433),(.int 315 0),(.int 4 0),(.ref 440),(.int 320 0),(.int 4 0),(.ref 448),(.int 323 0),(.int 4 0),(.ref 455),(.int 328 0),(.int 4 0),(.ref 462),(.int 334 0),(.int 4 0),(.ref 470),(.int 337 0),(.int 4 0),(.ref 477),(.int 343 0),(.int 4 0),(.ref 484),(.int 347 0),(.int 4 0),(.ref 491),(.int 352 0),(.int 4 0),(.ref 498),(.int 361 0),(.int 4 0),(.ref 505),(.int 370 0),(.int 4 0),(.ref 512),(.int 375 0),(.int 4 0),(.ref 519)],co [(.str "Reader" 713),(.str "Reader" 714),(.str "/claim/cut.py" 715),(.int 261 0),(.int 0 0),(.int 0 0),(.int 0 0),(.int 0 0),(.ref 358),(.bool false),(.int 181 0),(.ref 359),.none,.none,.none,.none,(.int 716 0),(.int 261 0),(.str "/claim/cut.py" 717)],⟨(.type "frame"),none,.plain,#[(some (.ref 360)),(some (.ref 3)),(some (.ref 357)),none,(some (.str "ledgerspeak.reader" 692)),none,(some (.ref 0))]⟩,tu [(.int 0 723)]] ++ (f369.all ++ ([tu [(.int 0 733)]] ++ (f377.all ++ (f384.all ++ (f391.all ++ (f398.all ++ ([tu [(.int 0 765)]] ++ (f406.all ++ (f413.all ++ (f420.all ++ (f427.all ++ (f434.all ++ (f441.all ++ ([tu [(.int 0 818)]] ++ (f449.all ++ (f456.all ++ (f463.all ++ ([tu [(.int 0 842)]] ++ (f471.all ++ (f478.all ++ (f485.all ++ (f492.all ++ (f499.all ++ (f506.all ++ (f513.all ++ (f520.all ++ ([tu [(.str "at" 907),(.str "named" 908),(.str "tokens" 909)],o522 P,o523,o524,o525,⟨(.type "super"),none,(.fields #[(.ref 523),(.ref 523),(.ref 523)]),#[]⟩,⟨(.type "builtin_function_or_method"),none,(.fields #[(.builtin "object.__init_subclass__"),(.ref 523)]),#[]⟩])))))))))))))))))))))))))))
noncomputable def N60:List Obj:=f534.all
noncomputable def N61:List Obj:=f541.all
noncomputable def N62:List Obj:=f548.all
noncomputable def N63:List Obj:=f555.all
noncomputable def N64:List Obj:=f562.all
noncomputable def N65:List Obj:=f569.all
noncomputable def N66:List Obj:=f576.all
noncomputable def N67:List Obj:=f583.all
noncomputable def N68:List Obj:=f588.all
noncomputable def alls (c:Nat) (P:Params):List Obj:=N0 ++ (N2 c P ++ (N3 P ++ (N4 P ++ (N7 ++ (N8 ++ (N9 ++ (N10 ++ (N11 ++ (N12 ++ (N13 ++ (N14 ++ (N15 ++ (N17 P ++ (N18 ++ (N21 P ++ (N22 P ++ (N23 ++ (N24 ++ (N25 ++ (N26 ++ (N27 ++ (N28 ++ (N29 ++ (N30 ++ (N31 ++ (N32 ++ (N33 ++ (N39 P ++ (N40 ++ (N41 ++ (N42 ++ (N43 ++ (N44 ++ (N45 ++ (N46 ++ (N47 ++ (N48 ++ (N49 ++ (N50 ++ (N51 ++ (N52 ++ (N56 ++ (N57 ++ (N58 P ++ (N60 ++ (N61 ++ (N62 ++ (N63 ++ (N64 ++ (N65 ++ (N66 ++ (N67 ++ (N68)))))))))))))))))))))))))))))))))))))))))))))))))))))
noncomputable def o11:Obj:=tu []
noncomputable def o13:Obj:=co [(.str "<module>" 182),(.str "<module>" 183),(.str "/claim/cut.py" 184),(.int 1 0),(.int 0 0),(.int 0 0),(.int 0 0),(.int 0 0),(.ref 11),(.bool false),(.int 181 0),(.ref 12),.none,.none,.none,.none,(.int 185 0),(.int 1 0),(.str "/claim/cut.py" 186)]
noncomputable def o14:Obj:=⟨(.type "frame"),none,.plain,#[(some (.ref 13)),(some (.ref 3)),(some (.ref 3)),none,(some (.str "__main__" 164)),none,(some (.ref 0))]⟩
set_option genInjectivity false in
structure Rw where
 nm:Str
 t:Nat
 k3:Nat
 k12:Nat
 n:Nat
 c:Nat
 l:Nat
 toks:Nat
 pos:Pos
noncomputable def snapL (r:Rw) (P:Params):List Obj:=boot_o_0 P :: boot_o_1 P :: o2 r.l P :: mainD r.nm r.t r.k3 P :: boot_o_4 P :: boot_o_5 P :: boot_o_6 P :: boot_o_7 P :: boot_o_8 P :: boot_o_9 P :: boot_o_10 P :: o11 :: tabObj (tabs.take r.k12).toArray :: o13 :: o14 :: (alls r.c P).take (r.n - 15)
noncomputable def ev:List Obj → List Obj
 | []=>[]
 | [a]=>[a]
 | a :: _ :: r=>a :: ev r
noncomputable def od:List Obj → List Obj
 | []=>[]
 | [_]=>[]
 | _ :: b :: r=>b :: od r
noncomputable def mkT:Nat → List Obj → BT
 | 0,_=>.nil
 | _ + 1,[]=>.nil
 | n + 1,a :: r=>.node a (mkT n (ev r)) (mkT n (od r))
noncomputable def S (r:Rw) (w:World) (os:OsState):SharedT:=⟨mkT 10 (snapL r w.params),r.n,(boot_heap w.params).life,Array.mk [],boot_drawn,r.toks,os⟩
noncomputable def r69:Rw:=⟨"law_pc0138_01",918,71,153,589,2,2,1006,⟨457,0,471,112⟩⟩
noncomputable def theK (P:Params):List (Nat × Obj):=[
(3,mainD r69.nm r69.t r69.k3 P),
(29,tu [(.int 0 208),(.int 0 209)]),
(30,tu [(.ref 29)]),
(36,f37.cd),
(37,f37.fn),
(46,o46 P),
(47,o47 2),
(48,o48),
(71,o71 P),
(72,o72),
(82,tu [(.int 0 280)]),
(88,f89.cd),
(89,f89.fn),
(95,f96.cd),
(96,f96.fn),
(123,f124.cd),
(124,f124.fn),
(130,f131.cd),
(131,f131.fn),
(137,f138.cd),
(138,f138.fn),
(146,tu [(.int 0 365),(.int 0 366)]),
(147,tu [(.ref 146),(.bool false)]),
(153,f154.cd),
(154,f154.fn),
(163,o163 P),
(164,o164),
(165,o165),
(166,o166),
(176,o176 P),
(183,f184.cd),
(184,f184.fn),
(204,f205.cd),
(205,f205.fn),
(218,f219.cd),
(219,f219.fn),
(225,f226.cd),
(226,f226.fn),
(242,f243.cd),
(243,f243.fn),
(249,f250.cd),
(250,f250.fn),
(251,o251 P),
(257,f258.cd),
(258,f258.fn),
(264,f265.cd),
(265,f265.fn),
(271,f272.cd),
(272,f272.fn),
(278,f279.cd),
(279,f279.fn),
(285,f286.cd),
(286,f286.fn),
(292,f293.cd),
(293,f293.fn),
(299,f300.cd),
(300,f300.fn),
(306,f307.cd),
(307,f307.fn),
(313,f314.cd),
(314,f314.fn),
(320,f321.cd),
(321,f321.fn),
(327,f328.cd),
(328,f328.fn),
(334,f335.cd),
(335,f335.fn),
(341,f342.cd),
(342,f342.fn),
(348,f349.cd),
(349,f349.fn),
(362,tu [(.int 0 723)]),
(368,f369.cd),
(369,f369.fn),
(370,tu [(.int 0 733)]),
(376,f377.cd),
(377,f377.fn),
(390,f391.cd),
(391,f391.fn),
(397,f398.cd),
(398,f398.fn),
(399,tu [(.int 0 765)]),
(405,f406.cd),
(406,f406.fn),
(412,f413.cd),
(413,f413.fn),
(419,f420.cd),
(420,f420.fn),
(433,f434.cd),
(434,f434.fn),
(442,tu [(.int 0 818)]),
(448,f449.cd),
(449,f449.fn),
(455,f456.cd),
(456,f456.fn),
(464,tu [(.int 0 842)]),
(470,f471.cd),
(471,f471.fn),
(477,f478.cd),
(478,f478.fn),
(484,f485.cd),
(485,f485.fn),
(491,f492.cd),
(492,f492.fn),
(498,f499.cd),
(499,f499.fn),
(522,o522 P),
(523,o523),
(524,o524),
(525,o525),
(533,f534.cd),
(534,f534.fn),
(540,f541.cd),
(541,f541.fn),
(547,f548.cd),
(548,f548.fn),
(554,f555.cd),
(555,f555.fn),
(561,f562.cd),
(562,f562.fn),
(568,f569.cd),
(569,f569.fn),
(575,f576.cd),
(576,f576.fn),
(582,f583.cd),
(583,f583.fn),
(587,f588.cd),
(588,f588.fn)]
end
set_option genInjectivity false in
structure Cy where
 prog:Program
 w:World
 H0:Heap
 mg:Str → Option Value
 mb:Str → Option Value
 KH:Frag.In (theK w.params) H0
 G:H0.Ns mainGlobals mg
 B:H0.Ns builtinsNs mb
 blt:∀x:Str,x ≠ "__name__" → mb x = bootBuiltins x
 nolim:H0.NoLimit
 bmain:∃bm ob,mg "__builtins__" = some (.ref bm) ∧ bm ≠ builtinsNs ∧ H0.get? bm = some ob ∧ ob.cls = .type "module" ∧ ob.dict = some builtinsNs ∧ ob.data = .plain
 hP:H0.get? 302 = some (tabObj #[])
theorem K_302 (P:Params):List.lookup 302 (theK P) = none:=by kernel_rfl
theorem K_code (P:Params):codeHdIn (theK P) 306 302 = true:=by kernel_rfl
noncomputable abbrev Cy.cx (y:Cy):Cx:={ prog:=y.prog,w:=y.w,H0:=y.H0,K:=theK y.w.params,mg:=y.mg,mb:=y.mb,P:=302,cP:=306,GF:=72,KH:=y.KH,kP:=K_302 _,G:=y.G,B:=y.B,blt:=y.blt,nolim:=y.nolim,bmain:=y.bmain,hd:=codeHd_of_K y.KH (K_code _),hP:=y.hP }
structure Meth (K:Frag) (Cc:Addr) (name:Str) (f:Addr):Prop where
 get:plainGet K Cc name = true
 find:findIn K (.ref Cc) name = some (some (.ref f))
 fn:isFn K (.ref f) = true
 keep:keepIn K (.ref f) = true
structure Attr (K:Frag) (Cc:Addr) (name:Str):Prop where
 get:plainGet K Cc name = true
 dict:hasDictIn K Cc = true
 find:findIn K (.ref Cc) name = some none
 no:noGet K none = true
structure SetA (K:Frag) (Cc:Addr) (name:Str):Prop where
 set:findIn K (.ref Cc) "__setattr__" = some (some (.builtin "object.__setattr__"))
 plain:plainOver K Cc = true
 take:takerIn K Cc name = some none
 dict:hasDictIn K Cc = true
theorem g_decimal (P:Params):nsIn (theK P) mainGlobals "decimal" = some (some (.ref 89)):=by kernel_rfl
theorem t_decimal {y:Cy} {fi:FI} {k:Nat} {ro:List (Str × D)} {sg:List Cell} {pos:Pos} (hk:fi.scope.names.lookup (Str.ofString "decimal") = some NameKind.globalImplicit):TE y.cx fi k (.Name "decimal" pos) ro sg (some (.val (.ref 89))) sg:=(TE.glob hk (g_decimal _) (by decide):TE y.cx fi k _ ro sg (some (gD (.ref 89))) sg)
theorem g_negated (P:Params):nsIn (theK P) mainGlobals "negated" = some (some (.ref 96)):=by kernel_rfl
theorem t_negated {y:Cy} {fi:FI} {k:Nat} {ro:List (Str × D)} {sg:List Cell} {pos:Pos} (hk:fi.scope.names.lookup (Str.ofString "negated") = some NameKind.globalImplicit):TE y.cx fi k (.Name "negated" pos) ro sg (some (.val (.ref 96))) sg:=(TE.glob hk (g_negated _) (by decide):TE y.cx fi k _ ro sg (some (gD (.ref 96))) sg)
theorem g_worth_of (P:Params):nsIn (theK P) mainGlobals "worth_of" = some (some (.ref 124)):=by kernel_rfl
theorem t_worth_of {y:Cy} {fi:FI} {k:Nat} {ro:List (Str × D)} {sg:List Cell} {pos:Pos} (hk:fi.scope.names.lookup (Str.ofString "worth_of") = some NameKind.globalImplicit):TE y.cx fi k (.Name "worth_of" pos) ro sg (some (.val (.ref 124))) sg:=(TE.glob hk (g_worth_of _) (by decide):TE y.cx fi k _ ro sg (some (gD (.ref 124))) sg)
theorem g_read_decimal (P:Params):nsIn (theK P) mainGlobals "read_decimal" = some (some (.ref 131)):=by kernel_rfl
theorem t_read_decimal {y:Cy} {fi:FI} {k:Nat} {ro:List (Str × D)} {sg:List Cell} {pos:Pos} (hk:fi.scope.names.lookup (Str.ofString "read_decimal") = some NameKind.globalImplicit):TE y.cx fi k (.Name "read_decimal" pos) ro sg (some (.val (.ref 131))) sg:=(TE.glob hk (g_read_decimal _) (by decide):TE y.cx fi k _ ro sg (some (gD (.ref 131))) sg)
theorem g_write_decimal (P:Params):nsIn (theK P) mainGlobals "write_decimal" = some (some (.ref 138)):=by kernel_rfl
theorem t_write_decimal {y:Cy} {fi:FI} {k:Nat} {ro:List (Str × D)} {sg:List Cell} {pos:Pos} (hk:fi.scope.names.lookup (Str.ofString "write_decimal") = some NameKind.globalImplicit):TE y.cx fi k (.Name "write_decimal" pos) ro sg (some (.val (.ref 138))) sg:=(TE.glob hk (g_write_decimal _) (by decide):TE y.cx fi k _ ro sg (some (gD (.ref 138))) sg)
theorem g_is_part_next (P:Params):nsIn (theK P) mainGlobals "is_part_next" = some (some (.ref 184)):=by kernel_rfl
theorem t_is_part_next {y:Cy} {fi:FI} {k:Nat} {ro:List (Str × D)} {sg:List Cell} {pos:Pos} (hk:fi.scope.names.lookup (Str.ofString "is_part_next") = some NameKind.globalImplicit):TE y.cx fi k (.Name "is_part_next" pos) ro sg (some (.val (.ref 184))) sg:=(TE.glob hk (g_is_part_next _) (by decide):TE y.cx fi k _ ro sg (some (gD (.ref 184))) sg)
theorem g_read_ref (P:Params):nsIn (theK P) mainGlobals "read_ref" = some (some (.ref 205)):=by kernel_rfl
theorem t_read_ref {y:Cy} {fi:FI} {k:Nat} {ro:List (Str × D)} {sg:List Cell} {pos:Pos} (hk:fi.scope.names.lookup (Str.ofString "read_ref") = some NameKind.globalImplicit):TE y.cx fi k (.Name "read_ref" pos) ro sg (some (.val (.ref 205))) sg:=(TE.glob hk (g_read_ref _) (by decide):TE y.cx fi k _ ro sg (some (gD (.ref 205))) sg)
theorem g_read_figure (P:Params):nsIn (theK P) mainGlobals "read_figure" = some (some (.ref 219)):=by kernel_rfl
theorem t_read_figure {y:Cy} {fi:FI} {k:Nat} {ro:List (Str × D)} {sg:List Cell} {pos:Pos} (hk:fi.scope.names.lookup (Str.ofString "read_figure") = some NameKind.globalImplicit):TE y.cx fi k (.Name "read_figure" pos) ro sg (some (.val (.ref 219))) sg:=(TE.glob hk (g_read_figure _) (by decide):TE y.cx fi k _ ro sg (some (gD (.ref 219))) sg)
theorem g_read_operand (P:Params):nsIn (theK P) mainGlobals "read_operand" = some (some (.ref 226)):=by kernel_rfl
theorem t_read_operand {y:Cy} {fi:FI} {k:Nat} {ro:List (Str × D)} {sg:List Cell} {pos:Pos} (hk:fi.scope.names.lookup (Str.ofString "read_operand") = some NameKind.globalImplicit):TE y.cx fi k (.Name "read_operand" pos) ro sg (some (.val (.ref 226))) sg:=(TE.glob hk (g_read_operand _) (by decide):TE y.cx fi k _ ro sg (some (gD (.ref 226))) sg)
theorem g_show_ref (P:Params):nsIn (theK P) mainGlobals "show_ref" = some (some (.ref 243)):=by kernel_rfl
theorem t_show_ref {y:Cy} {fi:FI} {k:Nat} {ro:List (Str × D)} {sg:List Cell} {pos:Pos} (hk:fi.scope.names.lookup (Str.ofString "show_ref") = some NameKind.globalImplicit):TE y.cx fi k (.Name "show_ref" pos) ro sg (some (.val (.ref 243))) sg:=(TE.glob hk (g_show_ref _) (by decide):TE y.cx fi k _ ro sg (some (gD (.ref 243))) sg)
theorem g_show_operand (P:Params):nsIn (theK P) mainGlobals "show_operand" = some (some (.ref 250)):=by kernel_rfl
theorem t_show_operand {y:Cy} {fi:FI} {k:Nat} {ro:List (Str × D)} {sg:List Cell} {pos:Pos} (hk:fi.scope.names.lookup (Str.ofString "show_operand") = some NameKind.globalImplicit):TE y.cx fi k (.Name "show_operand" pos) ro sg (some (.val (.ref 250))) sg:=(TE.glob hk (g_show_operand _) (by decide):TE y.cx fi k _ ro sg (some (gD (.ref 250))) sg)
theorem g_read_expression (P:Params):nsIn (theK P) mainGlobals "read_expression" = some (some (.ref 258)):=by kernel_rfl
theorem t_read_expression {y:Cy} {fi:FI} {k:Nat} {ro:List (Str × D)} {sg:List Cell} {pos:Pos} (hk:fi.scope.names.lookup (Str.ofString "read_expression") = some NameKind.globalImplicit):TE y.cx fi k (.Name "read_expression" pos) ro sg (some (.val (.ref 258))) sg:=(TE.glob hk (g_read_expression _) (by decide):TE y.cx fi k _ ro sg (some (gD (.ref 258))) sg)
theorem g_sign_among (P:Params):nsIn (theK P) mainGlobals "sign_among" = some (some (.ref 265)):=by kernel_rfl
theorem t_sign_among {y:Cy} {fi:FI} {k:Nat} {ro:List (Str × D)} {sg:List Cell} {pos:Pos} (hk:fi.scope.names.lookup (Str.ofString "sign_among") = some NameKind.globalImplicit):TE y.cx fi k (.Name "sign_among" pos) ro sg (some (.val (.ref 265))) sg:=(TE.glob hk (g_sign_among _) (by decide):TE y.cx fi k _ ro sg (some (gD (.ref 265))) sg)
theorem g_read_sum (P:Params):nsIn (theK P) mainGlobals "read_sum" = some (some (.ref 272)):=by kernel_rfl
theorem t_read_sum {y:Cy} {fi:FI} {k:Nat} {ro:List (Str × D)} {sg:List Cell} {pos:Pos} (hk:fi.scope.names.lookup (Str.ofString "read_sum") = some NameKind.globalImplicit):TE y.cx fi k (.Name "read_sum" pos) ro sg (some (.val (.ref 272))) sg:=(TE.glob hk (g_read_sum _) (by decide):TE y.cx fi k _ ro sg (some (gD (.ref 272))) sg)
theorem g_read_product (P:Params):nsIn (theK P) mainGlobals "read_product" = some (some (.ref 279)):=by kernel_rfl
theorem t_read_product {y:Cy} {fi:FI} {k:Nat} {ro:List (Str × D)} {sg:List Cell} {pos:Pos} (hk:fi.scope.names.lookup (Str.ofString "read_product") = some NameKind.globalImplicit):TE y.cx fi k (.Name "read_product" pos) ro sg (some (.val (.ref 279))) sg:=(TE.glob hk (g_read_product _) (by decide):TE y.cx fi k _ ro sg (some (gD (.ref 279))) sg)
theorem g_read_factor (P:Params):nsIn (theK P) mainGlobals "read_factor" = some (some (.ref 286)):=by kernel_rfl
theorem t_read_factor {y:Cy} {fi:FI} {k:Nat} {ro:List (Str × D)} {sg:List Cell} {pos:Pos} (hk:fi.scope.names.lookup (Str.ofString "read_factor") = some NameKind.globalImplicit):TE y.cx fi k (.Name "read_factor" pos) ro sg (some (.val (.ref 286))) sg:=(TE.glob hk (g_read_factor _) (by decide):TE y.cx fi k _ ro sg (some (gD (.ref 286))) sg)
theorem g_is_lone_number (P:Params):nsIn (theK P) mainGlobals "is_lone_number" = some (some (.ref 293)):=by kernel_rfl
theorem t_is_lone_number {y:Cy} {fi:FI} {k:Nat} {ro:List (Str × D)} {sg:List Cell} {pos:Pos} (hk:fi.scope.names.lookup (Str.ofString "is_lone_number") = some NameKind.globalImplicit):TE y.cx fi k (.Name "is_lone_number" pos) ro sg (some (.val (.ref 293))) sg:=(TE.glob hk (g_is_lone_number _) (by decide):TE y.cx fi k _ ro sg (some (gD (.ref 293))) sg)
theorem g_read_power (P:Params):nsIn (theK P) mainGlobals "read_power" = some (some (.ref 300)):=by kernel_rfl
theorem t_read_power {y:Cy} {fi:FI} {k:Nat} {ro:List (Str × D)} {sg:List Cell} {pos:Pos} (hk:fi.scope.names.lookup (Str.ofString "read_power") = some NameKind.globalImplicit):TE y.cx fi k (.Name "read_power" pos) ro sg (some (.val (.ref 300))) sg:=(TE.glob hk (g_read_power _) (by decide):TE y.cx fi k _ ro sg (some (gD (.ref 300))) sg)
theorem g_read_primary (P:Params):nsIn (theK P) mainGlobals "read_primary" = some (some (.ref 307)):=by kernel_rfl
theorem t_read_primary {y:Cy} {fi:FI} {k:Nat} {ro:List (Str × D)} {sg:List Cell} {pos:Pos} (hk:fi.scope.names.lookup (Str.ofString "read_primary") = some NameKind.globalImplicit):TE y.cx fi k (.Name "read_primary" pos) ro sg (some (.val (.ref 307))) sg:=(TE.glob hk (g_read_primary _) (by decide):TE y.cx fi k _ ro sg (some (gD (.ref 307))) sg)
theorem g_level_of (P:Params):nsIn (theK P) mainGlobals "level_of" = some (some (.ref 314)):=by kernel_rfl
theorem t_level_of {y:Cy} {fi:FI} {k:Nat} {ro:List (Str × D)} {sg:List Cell} {pos:Pos} (hk:fi.scope.names.lookup (Str.ofString "level_of") = some NameKind.globalImplicit):TE y.cx fi k (.Name "level_of" pos) ro sg (some (.val (.ref 314))) sg:=(TE.glob hk (g_level_of _) (by decide):TE y.cx fi k _ ro sg (some (gD (.ref 314))) sg)
theorem g_bracketed (P:Params):nsIn (theK P) mainGlobals "bracketed" = some (some (.ref 321)):=by kernel_rfl
theorem t_bracketed {y:Cy} {fi:FI} {k:Nat} {ro:List (Str × D)} {sg:List Cell} {pos:Pos} (hk:fi.scope.names.lookup (Str.ofString "bracketed") = some NameKind.globalImplicit):TE y.cx fi k (.Name "bracketed" pos) ro sg (some (.val (.ref 321))) sg:=(TE.glob hk (g_bracketed _) (by decide):TE y.cx fi k _ ro sg (some (gD (.ref 321))) sg)
theorem g_show_expression (P:Params):nsIn (theK P) mainGlobals "show_expression" = some (some (.ref 328)):=by kernel_rfl
theorem t_show_expression {y:Cy} {fi:FI} {k:Nat} {ro:List (Str × D)} {sg:List Cell} {pos:Pos} (hk:fi.scope.names.lookup (Str.ofString "show_expression") = some NameKind.globalImplicit):TE y.cx fi k (.Name "show_expression" pos) ro sg (some (.val (.ref 328))) sg:=(TE.glob hk (g_show_expression _) (by decide):TE y.cx fi k _ ro sg (some (gD (.ref 328))) sg)
theorem g_right_part (P:Params):nsIn (theK P) mainGlobals "right_part" = some (some (.ref 335)):=by kernel_rfl
theorem t_right_part {y:Cy} {fi:FI} {k:Nat} {ro:List (Str × D)} {sg:List Cell} {pos:Pos} (hk:fi.scope.names.lookup (Str.ofString "right_part") = some NameKind.globalImplicit):TE y.cx fi k (.Name "right_part" pos) ro sg (some (.val (.ref 335))) sg:=(TE.glob hk (g_right_part _) (by decide):TE y.cx fi k _ ro sg (some (gD (.ref 335))) sg)
theorem g_show_signed (P:Params):nsIn (theK P) mainGlobals "show_signed" = some (some (.ref 342)):=by kernel_rfl
theorem t_show_signed {y:Cy} {fi:FI} {k:Nat} {ro:List (Str × D)} {sg:List Cell} {pos:Pos} (hk:fi.scope.names.lookup (Str.ofString "show_signed") = some NameKind.globalImplicit):TE y.cx fi k (.Name "show_signed" pos) ro sg (some (.val (.ref 342))) sg:=(TE.glob hk (g_show_signed _) (by decide):TE y.cx fi k _ ro sg (some (gD (.ref 342))) sg)
theorem g_is_reserved (P:Params):nsIn (theK P) mainGlobals "is_reserved" = some (some (.ref 349)):=by kernel_rfl
theorem t_is_reserved {y:Cy} {fi:FI} {k:Nat} {ro:List (Str × D)} {sg:List Cell} {pos:Pos} (hk:fi.scope.names.lookup (Str.ofString "is_reserved") = some NameKind.globalImplicit):TE y.cx fi k (.Name "is_reserved" pos) ro sg (some (.val (.ref 349))) sg:=(TE.glob hk (g_is_reserved _) (by decide):TE y.cx fi k _ ro sg (some (gD (.ref 349))) sg)
theorem g_law_draw (P:Params):nsIn (theK P) mainGlobals "_law_draw" = some (some (.ref 534)):=by kernel_rfl
theorem t_law_draw {y:Cy} {fi:FI} {k:Nat} {ro:List (Str × D)} {sg:List Cell} {pos:Pos} (hk:fi.scope.names.lookup (Str.ofString "_law_draw") = some NameKind.globalImplicit):TE y.cx fi k (.Name "_law_draw" pos) ro sg (some (.val (.ref 534))) sg:=(TE.glob hk (g_law_draw _) (by decide):TE y.cx fi k _ ro sg (some (gD (.ref 534))) sg)
theorem g_law_pen (P:Params):nsIn (theK P) mainGlobals "_law_pen" = some (some (.ref 541)):=by kernel_rfl
theorem t_law_pen {y:Cy} {fi:FI} {k:Nat} {ro:List (Str × D)} {sg:List Cell} {pos:Pos} (hk:fi.scope.names.lookup (Str.ofString "_law_pen") = some NameKind.globalImplicit):TE y.cx fi k (.Name "_law_pen" pos) ro sg (some (.val (.ref 541))) sg:=(TE.glob hk (g_law_pen _) (by decide):TE y.cx fi k _ ro sg (some (gD (.ref 541))) sg)
theorem g_law_reader (P:Params):nsIn (theK P) mainGlobals "_law_reader" = some (some (.ref 548)):=by kernel_rfl
theorem t_law_reader {y:Cy} {fi:FI} {k:Nat} {ro:List (Str × D)} {sg:List Cell} {pos:Pos} (hk:fi.scope.names.lookup (Str.ofString "_law_reader") = some NameKind.globalImplicit):TE y.cx fi k (.Name "_law_reader" pos) ro sg (some (.val (.ref 548))) sg:=(TE.glob hk (g_law_reader _) (by decide):TE y.cx fi k _ ro sg (some (gD (.ref 548))) sg)
theorem g_law_words (P:Params):nsIn (theK P) mainGlobals "_law_words" = some (some (.ref 555)):=by kernel_rfl
theorem t_law_words {y:Cy} {fi:FI} {k:Nat} {ro:List (Str × D)} {sg:List Cell} {pos:Pos} (hk:fi.scope.names.lookup (Str.ofString "_law_words") = some NameKind.globalImplicit):TE y.cx fi k (.Name "_law_words" pos) ro sg (some (.val (.ref 555))) sg:=(TE.glob hk (g_law_words _) (by decide):TE y.cx fi k _ ro sg (some (gD (.ref 555))) sg)
theorem g_law_expr (P:Params):nsIn (theK P) mainGlobals "_law_expr" = some (some (.ref 562)):=by kernel_rfl
theorem t_law_expr {y:Cy} {fi:FI} {k:Nat} {ro:List (Str × D)} {sg:List Cell} {pos:Pos} (hk:fi.scope.names.lookup (Str.ofString "_law_expr") = some NameKind.globalImplicit):TE y.cx fi k (.Name "_law_expr" pos) ro sg (some (.val (.ref 562))) sg:=(TE.glob hk (g_law_expr _) (by decide):TE y.cx fi k _ ro sg (some (gD (.ref 562))) sg)
theorem g_law_full (P:Params):nsIn (theK P) mainGlobals "_law_full" = some (some (.ref 569)):=by kernel_rfl
theorem t_law_full {y:Cy} {fi:FI} {k:Nat} {ro:List (Str × D)} {sg:List Cell} {pos:Pos} (hk:fi.scope.names.lookup (Str.ofString "_law_full") = some NameKind.globalImplicit):TE y.cx fi k (.Name "_law_full" pos) ro sg (some (.val (.ref 569))) sg:=(TE.glob hk (g_law_full _) (by decide):TE y.cx fi k _ ro sg (some (gD (.ref 569))) sg)
theorem g_law_read (P:Params):nsIn (theK P) mainGlobals "_law_read" = some (some (.ref 576)):=by kernel_rfl
theorem t_law_read {y:Cy} {fi:FI} {k:Nat} {ro:List (Str × D)} {sg:List Cell} {pos:Pos} (hk:fi.scope.names.lookup (Str.ofString "_law_read") = some NameKind.globalImplicit):TE y.cx fi k (.Name "_law_read" pos) ro sg (some (.val (.ref 576))) sg:=(TE.glob hk (g_law_read _) (by decide):TE y.cx fi k _ ro sg (some (gD (.ref 576))) sg)
theorem g_law_pairs (P:Params):nsIn (theK P) mainGlobals "_law_pairs" = some (some (.ref 583)):=by kernel_rfl
theorem t_law_pairs {y:Cy} {fi:FI} {k:Nat} {ro:List (Str × D)} {sg:List Cell} {pos:Pos} (hk:fi.scope.names.lookup (Str.ofString "_law_pairs") = some NameKind.globalImplicit):TE y.cx fi k (.Name "_law_pairs" pos) ro sg (some (.val (.ref 583))) sg:=(TE.glob hk (g_law_pairs _) (by decide):TE y.cx fi k _ ro sg (some (gD (.ref 583))) sg)
theorem g_Token (P:Params):nsIn (theK P) mainGlobals "Token" = some (some (.ref 164)):=by kernel_rfl
theorem t_Token {y:Cy} {fi:FI} {k:Nat} {ro:List (Str × D)} {sg:List Cell} {pos:Pos} (hk:fi.scope.names.lookup (Str.ofString "Token") = some NameKind.globalImplicit):TE y.cx fi k (.Name "Token" pos) ro sg (some (.val (.ref 164))) sg:=(TE.glob hk (g_Token _) (by decide):TE y.cx fi k _ ro sg (some (gD (.ref 164))) sg)
theorem g_Reader (P:Params):nsIn (theK P) mainGlobals "Reader" = some (some (.ref 523)):=by kernel_rfl
theorem t_Reader {y:Cy} {fi:FI} {k:Nat} {ro:List (Str × D)} {sg:List Cell} {pos:Pos} (hk:fi.scope.names.lookup (Str.ofString "Reader") = some NameKind.globalImplicit):TE y.cx fi k (.Name "Reader" pos) ro sg (some (.val (.ref 523))) sg:=(TE.glob hk (g_Reader _) (by decide):TE y.cx fi k _ ro sg (some (gD (.ref 523))) sg)
theorem g_GrammarFault (P:Params):nsIn (theK P) mainGlobals "GrammarFault" = some (some (.ref 72)):=by kernel_rfl
theorem t_GrammarFault {y:Cy} {fi:FI} {k:Nat} {ro:List (Str × D)} {sg:List Cell} {pos:Pos} (hk:fi.scope.names.lookup (Str.ofString "GrammarFault") = some NameKind.globalImplicit):TE y.cx fi k (.Name "GrammarFault" pos) ro sg (some (.val (.ref 72))) sg:=(TE.glob hk (g_GrammarFault _) (by decide):TE y.cx fi k _ ro sg (some (gD (.ref 72))) sg)
theorem g_LEVELS (P:Params):nsIn (theK P) mainGlobals "LEVELS" = some (some (.ref 251)):=by kernel_rfl
theorem t_LEVELS {y:Cy} {fi:FI} {k:Nat} {ro:List (Str × D)} {sg:List Cell} {pos:Pos} (hk:fi.scope.names.lookup (Str.ofString "LEVELS") = some NameKind.globalImplicit):TE y.cx fi k (.Name "LEVELS" pos) ro sg (some (.val (.ref 251))) sg:=(TE.glob hk (g_LEVELS _) (by decide):TE y.cx fi k _ ro sg (some (gD (.ref 251))) sg)
theorem g_FIGURE_NAMES (P:Params):nsIn (theK P) mainGlobals "FIGURE_NAMES" = some (some (.ref 176)):=by kernel_rfl
theorem t_FIGURE_NAMES {y:Cy} {fi:FI} {k:Nat} {ro:List (Str × D)} {sg:List Cell} {pos:Pos} (hk:fi.scope.names.lookup (Str.ofString "FIGURE_NAMES") = some NameKind.globalImplicit):TE y.cx fi k (.Name "FIGURE_NAMES" pos) ro sg (some (.val (.ref 176))) sg:=(TE.glob hk (g_FIGURE_NAMES _) (by decide):TE y.cx fi k _ ro sg (some (gD (.ref 176))) sg)
theorem g_FIGURES (P:Params):nsIn (theK P) mainGlobals "FIGURES" = some (some (.str (Str.ofString "0123456789") 270)):=by kernel_rfl
theorem t_FIGURES {y:Cy} {fi:FI} {k:Nat} {ro:List (Str × D)} {sg:List Cell} {pos:Pos} (hk:fi.scope.names.lookup (Str.ofString "FIGURES") = some NameKind.globalImplicit):TE y.cx fi k (.Name "FIGURES" pos) ro sg (some (.str (Str.ofString "0123456789"))) sg:=(TE.glob hk (g_FIGURES _) (by decide):TE y.cx fi k _ ro sg (some (gD (.str (Str.ofString "0123456789") 270))) sg)
theorem g_MOST_DEEP (P:Params):nsIn (theK P) mainGlobals "MOST_DEEP" = some (some (.int (20) 554)):=by kernel_rfl
theorem t_MOST_DEEP {y:Cy} {fi:FI} {k:Nat} {ro:List (Str × D)} {sg:List Cell} {pos:Pos} (hk:fi.scope.names.lookup (Str.ofString "MOST_DEEP") = some NameKind.globalImplicit):TE y.cx fi k (.Name "MOST_DEEP" pos) ro sg (some (.int 20)) sg:=(TE.glob hk (g_MOST_DEEP _) (by decide):TE y.cx fi k _ ro sg (some (gD (.int (20) 554))) sg)
theorem g_SIGNED (P:Params):nsIn (theK P) mainGlobals "SIGNED" = some (some (.int (3) 556)):=by kernel_rfl
theorem t_SIGNED {y:Cy} {fi:FI} {k:Nat} {ro:List (Str × D)} {sg:List Cell} {pos:Pos} (hk:fi.scope.names.lookup (Str.ofString "SIGNED") = some NameKind.globalImplicit):TE y.cx fi k (.Name "SIGNED" pos) ro sg (some (.int 3)) sg:=(TE.glob hk (g_SIGNED _) (by decide):TE y.cx fi k _ ro sg (some (gD (.int (3) 556))) sg)
theorem g_RAISED (P:Params):nsIn (theK P) mainGlobals "RAISED" = some (some (.int (4) 558)):=by kernel_rfl
theorem t_RAISED {y:Cy} {fi:FI} {k:Nat} {ro:List (Str × D)} {sg:List Cell} {pos:Pos} (hk:fi.scope.names.lookup (Str.ofString "RAISED") = some NameKind.globalImplicit):TE y.cx fi k (.Name "RAISED" pos) ro sg (some (.int 4)) sg:=(TE.glob hk (g_RAISED _) (by decide):TE y.cx fi k _ ro sg (some (gD (.int (4) 558))) sg)
theorem g_BARE (P:Params):nsIn (theK P) mainGlobals "BARE" = some (some (.int (5) 560)):=by kernel_rfl
theorem t_BARE {y:Cy} {fi:FI} {k:Nat} {ro:List (Str × D)} {sg:List Cell} {pos:Pos} (hk:fi.scope.names.lookup (Str.ofString "BARE") = some NameKind.globalImplicit):TE y.cx fi k (.Name "BARE" pos) ro sg (some (.int 5)) sg:=(TE.glob hk (g_BARE _) (by decide):TE y.cx fi k _ ro sg (some (gD (.int (5) 560))) sg)
theorem g_len (P:Params):nsIn (theK P) mainGlobals "len" = some none:=by kernel_rfl
theorem t_len {y:Cy} {fi:FI} {k:Nat} {ro:List (Str × D)} {sg:List Cell} {pos:Pos} (hk:fi.scope.names.lookup (Str.ofString "len") = some NameKind.globalImplicit):TE y.cx fi k (.Name "len" pos) ro sg (some (.val (.builtin "len"))) sg:=TE.blt hk (g_len _) (by kernel_rfl) (by decide) (by decide)
theorem g_abs (P:Params):nsIn (theK P) mainGlobals "abs" = some none:=by kernel_rfl
theorem t_abs {y:Cy} {fi:FI} {k:Nat} {ro:List (Str × D)} {sg:List Cell} {pos:Pos} (hk:fi.scope.names.lookup (Str.ofString "abs") = some NameKind.globalImplicit):TE y.cx fi k (.Name "abs" pos) ro sg (some (.val (.builtin "abs"))) sg:=TE.blt hk (g_abs _) (by kernel_rfl) (by decide) (by decide)
theorem g_min (P:Params):nsIn (theK P) mainGlobals "min" = some none:=by kernel_rfl
theorem t_min {y:Cy} {fi:FI} {k:Nat} {ro:List (Str × D)} {sg:List Cell} {pos:Pos} (hk:fi.scope.names.lookup (Str.ofString "min") = some NameKind.globalImplicit):TE y.cx fi k (.Name "min" pos) ro sg (some (.val (.builtin "min"))) sg:=TE.blt hk (g_min _) (by kernel_rfl) (by decide) (by decide)
theorem g_sum (P:Params):nsIn (theK P) mainGlobals "sum" = some none:=by kernel_rfl
theorem t_sum {y:Cy} {fi:FI} {k:Nat} {ro:List (Str × D)} {sg:List Cell} {pos:Pos} (hk:fi.scope.names.lookup (Str.ofString "sum") = some NameKind.globalImplicit):TE y.cx fi k (.Name "sum" pos) ro sg (some (.val (.builtin "sum"))) sg:=TE.blt hk (g_sum _) (by kernel_rfl) (by decide) (by decide)
theorem g_list (P:Params):nsIn (theK P) mainGlobals "list" = some none:=by kernel_rfl
theorem t_list {y:Cy} {fi:FI} {k:Nat} {ro:List (Str × D)} {sg:List Cell} {pos:Pos} (hk:fi.scope.names.lookup (Str.ofString "list") = some NameKind.globalImplicit):TE y.cx fi k (.Name "list" pos) ro sg (some (.val (.type "list"))) sg:=TE.blt hk (g_list _) (by kernel_rfl) (by decide) (by decide)
theorem g_str (P:Params):nsIn (theK P) mainGlobals "str" = some none:=by kernel_rfl
theorem t_str {y:Cy} {fi:FI} {k:Nat} {ro:List (Str × D)} {sg:List Cell} {pos:Pos} (hk:fi.scope.names.lookup (Str.ofString "str") = some NameKind.globalImplicit):TE y.cx fi k (.Name "str" pos) ro sg (some (.val (.type "str"))) sg:=TE.blt hk (g_str _) (by kernel_rfl) (by decide) (by decide)
theorem g_tuple (P:Params):nsIn (theK P) mainGlobals "tuple" = some none:=by kernel_rfl
theorem t_tuple {y:Cy} {fi:FI} {k:Nat} {ro:List (Str × D)} {sg:List Cell} {pos:Pos} (hk:fi.scope.names.lookup (Str.ofString "tuple") = some NameKind.globalImplicit):TE y.cx fi k (.Name "tuple" pos) ro sg (some (.val (.type "tuple"))) sg:=TE.blt hk (g_tuple _) (by kernel_rfl) (by decide) (by decide)
theorem g_range (P:Params):nsIn (theK P) mainGlobals "range" = some none:=by kernel_rfl
theorem t_range {y:Cy} {fi:FI} {k:Nat} {ro:List (Str × D)} {sg:List Cell} {pos:Pos} (hk:fi.scope.names.lookup (Str.ofString "range") = some NameKind.globalImplicit):TE y.cx fi k (.Name "range" pos) ro sg (some (.val (.type "range"))) sg:=TE.blt hk (g_range _) (by kernel_rfl) (by decide) (by decide)
theorem g_enumerate (P:Params):nsIn (theK P) mainGlobals "enumerate" = some none:=by kernel_rfl
theorem t_enumerate {y:Cy} {fi:FI} {k:Nat} {ro:List (Str × D)} {sg:List Cell} {pos:Pos} (hk:fi.scope.names.lookup (Str.ofString "enumerate") = some NameKind.globalImplicit):TE y.cx fi k (.Name "enumerate" pos) ro sg (some (.val (.type "enumerate"))) sg:=TE.blt hk (g_enumerate _) (by kernel_rfl) (by decide) (by decide)
theorem g_reversed (P:Params):nsIn (theK P) mainGlobals "reversed" = some none:=by kernel_rfl
theorem t_reversed {y:Cy} {fi:FI} {k:Nat} {ro:List (Str × D)} {sg:List Cell} {pos:Pos} (hk:fi.scope.names.lookup (Str.ofString "reversed") = some NameKind.globalImplicit):TE y.cx fi k (.Name "reversed" pos) ro sg (some (.val (.type "reversed"))) sg:=TE.blt hk (g_reversed _) (by kernel_rfl) (by decide) (by decide)
theorem g_Exception (P:Params):nsIn (theK P) mainGlobals "Exception" = some none:=by kernel_rfl
theorem t_Exception {y:Cy} {fi:FI} {k:Nat} {ro:List (Str × D)} {sg:List Cell} {pos:Pos} (hk:fi.scope.names.lookup (Str.ofString "Exception") = some NameKind.globalImplicit):TE y.cx fi k (.Name "Exception" pos) ro sg (some (.val (.type "Exception"))) sg:=TE.blt hk (g_Exception _) (by kernel_rfl) (by decide) (by decide)
theorem m_peek (P:Params):Meth (theK P) 523 "peek" 377:=⟨by kernel_rfl,by kernel_rfl,by kernel_rfl,by kernel_rfl⟩
theorem m_fault (P:Params):Meth (theK P) 523 "fault" 391:=⟨by kernel_rfl,by kernel_rfl,by kernel_rfl,by kernel_rfl⟩
theorem m_take (P:Params):Meth (theK P) 523 "take" 398:=⟨by kernel_rfl,by kernel_rfl,by kernel_rfl,by kernel_rfl⟩
theorem m_is_kind (P:Params):Meth (theK P) 523 "is_kind" 406:=⟨by kernel_rfl,by kernel_rfl,by kernel_rfl,by kernel_rfl⟩
theorem m_is_word (P:Params):Meth (theK P) 523 "is_word" 413:=⟨by kernel_rfl,by kernel_rfl,by kernel_rfl,by kernel_rfl⟩
theorem m_skip (P:Params):Meth (theK P) 523 "skip" 420:=⟨by kernel_rfl,by kernel_rfl,by kernel_rfl,by kernel_rfl⟩
theorem m_one_of (P:Params):Meth (theK P) 523 "one_of" 434:=⟨by kernel_rfl,by kernel_rfl,by kernel_rfl,by kernel_rfl⟩
theorem m_is_name (P:Params):Meth (theK P) 523 "is_name" 449:=⟨by kernel_rfl,by kernel_rfl,by kernel_rfl,by kernel_rfl⟩
theorem m_name (P:Params):Meth (theK P) 523 "name" 456:=⟨by kernel_rfl,by kernel_rfl,by kernel_rfl,by kernel_rfl⟩
theorem m_is_sign (P:Params):Meth (theK P) 523 "is_sign" 471:=⟨by kernel_rfl,by kernel_rfl,by kernel_rfl,by kernel_rfl⟩
theorem m_skip_sign (P:Params):Meth (theK P) 523 "skip_sign" 478:=⟨by kernel_rfl,by kernel_rfl,by kernel_rfl,by kernel_rfl⟩
theorem m_need_sign (P:Params):Meth (theK P) 523 "need_sign" 485:=⟨by kernel_rfl,by kernel_rfl,by kernel_rfl,by kernel_rfl⟩
theorem m_is_number (P:Params):Meth (theK P) 523 "is_number" 492:=⟨by kernel_rfl,by kernel_rfl,by kernel_rfl,by kernel_rfl⟩
theorem m_signed (P:Params):Meth (theK P) 523 "signed" 499:=⟨by kernel_rfl,by kernel_rfl,by kernel_rfl,by kernel_rfl⟩
theorem ar_tokens (P:Params):Attr (theK P) 523 "tokens":=⟨by kernel_rfl,by kernel_rfl,by kernel_rfl,by kernel_rfl⟩
theorem sr_tokens (P:Params):SetA (theK P) 523 "tokens":=⟨by kernel_rfl,by kernel_rfl,by kernel_rfl,by kernel_rfl⟩
theorem ar_at (P:Params):Attr (theK P) 523 "at":=⟨by kernel_rfl,by kernel_rfl,by kernel_rfl,by kernel_rfl⟩
theorem sr_at (P:Params):SetA (theK P) 523 "at":=⟨by kernel_rfl,by kernel_rfl,by kernel_rfl,by kernel_rfl⟩
theorem sr_named (P:Params):SetA (theK P) 523 "named":=⟨by kernel_rfl,by kernel_rfl,by kernel_rfl,by kernel_rfl⟩
theorem at_kind (P:Params):Attr (theK P) 164 "kind":=⟨by kernel_rfl,by kernel_rfl,by kernel_rfl,by kernel_rfl⟩
theorem st_kind (P:Params):SetA (theK P) 164 "kind":=⟨by kernel_rfl,by kernel_rfl,by kernel_rfl,by kernel_rfl⟩
theorem at_worth (P:Params):Attr (theK P) 164 "worth":=⟨by kernel_rfl,by kernel_rfl,by kernel_rfl,by kernel_rfl⟩
theorem st_worth (P:Params):SetA (theK P) 164 "worth":=⟨by kernel_rfl,by kernel_rfl,by kernel_rfl,by kernel_rfl⟩
theorem at_at (P:Params):Attr (theK P) 164 "at":=⟨by kernel_rfl,by kernel_rfl,by kernel_rfl,by kernel_rfl⟩
theorem st_at (P:Params):SetA (theK P) 164 "at":=⟨by kernel_rfl,by kernel_rfl,by kernel_rfl,by kernel_rfl⟩
theorem st_is_in_a (P:Params):SetA (theK P) 164 "is_in_a":=⟨by kernel_rfl,by kernel_rfl,by kernel_rfl,by kernel_rfl⟩
theorem k_decimal (P:Params):keepIn (theK P) (.ref 89) = true:=by kernel_rfl
theorem k_negated (P:Params):keepIn (theK P) (.ref 96) = true:=by kernel_rfl
theorem k_worth_of (P:Params):keepIn (theK P) (.ref 124) = true:=by kernel_rfl
theorem k_read_decimal (P:Params):keepIn (theK P) (.ref 131) = true:=by kernel_rfl
theorem k_write_decimal (P:Params):keepIn (theK P) (.ref 138) = true:=by kernel_rfl
theorem k_is_part_next (P:Params):keepIn (theK P) (.ref 184) = true:=by kernel_rfl
theorem k_read_ref (P:Params):keepIn (theK P) (.ref 205) = true:=by kernel_rfl
theorem k_read_figure (P:Params):keepIn (theK P) (.ref 219) = true:=by kernel_rfl
theorem k_read_operand (P:Params):keepIn (theK P) (.ref 226) = true:=by kernel_rfl
theorem k_show_ref (P:Params):keepIn (theK P) (.ref 243) = true:=by kernel_rfl
theorem k_show_operand (P:Params):keepIn (theK P) (.ref 250) = true:=by kernel_rfl
theorem k_read_expression (P:Params):keepIn (theK P) (.ref 258) = true:=by kernel_rfl
theorem k_sign_among (P:Params):keepIn (theK P) (.ref 265) = true:=by kernel_rfl
theorem k_read_sum (P:Params):keepIn (theK P) (.ref 272) = true:=by kernel_rfl
theorem k_read_product (P:Params):keepIn (theK P) (.ref 279) = true:=by kernel_rfl
theorem k_read_factor (P:Params):keepIn (theK P) (.ref 286) = true:=by kernel_rfl
theorem k_is_lone_number (P:Params):keepIn (theK P) (.ref 293) = true:=by kernel_rfl
theorem k_read_power (P:Params):keepIn (theK P) (.ref 300) = true:=by kernel_rfl
theorem k_read_primary (P:Params):keepIn (theK P) (.ref 307) = true:=by kernel_rfl
theorem k_level_of (P:Params):keepIn (theK P) (.ref 314) = true:=by kernel_rfl
theorem k_bracketed (P:Params):keepIn (theK P) (.ref 321) = true:=by kernel_rfl
theorem k_show_expression (P:Params):keepIn (theK P) (.ref 328) = true:=by kernel_rfl
theorem k_right_part (P:Params):keepIn (theK P) (.ref 335) = true:=by kernel_rfl
theorem k_show_signed (P:Params):keepIn (theK P) (.ref 342) = true:=by kernel_rfl
theorem k_is_reserved (P:Params):keepIn (theK P) (.ref 349) = true:=by kernel_rfl
theorem k_law_draw (P:Params):keepIn (theK P) (.ref 534) = true:=by kernel_rfl
theorem k_law_pen (P:Params):keepIn (theK P) (.ref 541) = true:=by kernel_rfl
theorem k_law_reader (P:Params):keepIn (theK P) (.ref 548) = true:=by kernel_rfl
theorem k_law_words (P:Params):keepIn (theK P) (.ref 555) = true:=by kernel_rfl
theorem k_law_expr (P:Params):keepIn (theK P) (.ref 562) = true:=by kernel_rfl
theorem k_law_full (P:Params):keepIn (theK P) (.ref 569) = true:=by kernel_rfl
theorem k_law_read (P:Params):keepIn (theK P) (.ref 576) = true:=by kernel_rfl
theorem k_law_pairs (P:Params):keepIn (theK P) (.ref 583) = true:=by kernel_rfl
theorem k_Token (P:Params):keepIn (theK P) (.ref 164) = true:=by kernel_rfl
theorem k_Reader (P:Params):keepIn (theK P) (.ref 523) = true:=by kernel_rfl
theorem k_GrammarFault (P:Params):keepIn (theK P) (.ref 72) = true:=by kernel_rfl
inductive W where
 | nA | nB | nC | v0 | v5 | v25 | v07 | v2 | plus | minus | star | slash | pow | lp | rp
 deriving DecidableEq
noncomputable def W.str:W → Str
 | .nA=>"A" | .nB=>"B" | .nC=>"C" | .v0=>"0" | .v5=>"5" | .v25=>"0.25" | .v07=>"0.7" | .v2=>"2"
 | .plus=>"+" | .minus=>"-" | .star=>"*" | .slash=>"/" | .pow=>"**" | .lp=>"(" | .rp=>")"
noncomputable def W.kind:W → Str
 | .nA | .nB | .nC=>"word"
 | .v0 | .v5 | .v25 | .v07 | .v2=>"number"
 | _=>"sign"
set_option genInjectivity false in
structure RI where
 r:Nat
 dl:Nat
 t:Nat
 nm:Nat
 tok:Nat → Nat
 td:Nat → Nat
noncomputable abbrev rdEnts (R:RI) (p:Nat):List (Str × D):=[("tokens",.obj R.t),("at",.int p),("named",.obj R.nm)]
noncomputable abbrev tkEnts (w:W) (i:Nat):List (Str × D):=[("kind",.str w.kind),("worth",.str w.str),("at",.tup [.int 1,.int (i + 1:Nat)]),("is_in_a",.bool false)]
noncomputable def Und (sg:List Cell):Prop:=sg.all (Cell.under sg.length) = true
structure Rdr (sg:List Cell) (R:RI) (ws:List W) (p:Nat):Prop where
 inst:IsInst sg R.r 523 R.dl (rdEnts R p)
 toks:sg[R.t]? = some (.list ((List.range ws.length).map fun i=>.obj (R.tok i)))
 tok:∀(i:Nat) (w:W),ws[i]? = some w → IsInst sg (R.tok i) 164 (R.td i) (tkEnts w i)
 small:ws.length ≤ 100000
 und:Und sg
 pos:p ≤ ws.length
 ne:0 < ws.length
noncomputable def setAt (sg:List Cell) (R:RI) (p:Nat):List Cell:=sg.set R.dl (.dict (rdEnts R p))
noncomputable def tokD (R:RI) (ws:List W) (i:Nat):D:=if i < ws.length then .obj (R.tok i) else .none
noncomputable def fnOk (keys:List Str) (scope:Scope):Bool:=decide keys.Nodup && (keys.all fun x=>scope.names.lookup x == some .local) && (scope.names.all fun x=>x.2 != .cell) && (scope.isCoroutine == false && scope.isGenerator == false && scope.kind == .function)
theorem CodeOk.fn {C:Cx} {k:Nat} {f:Addr} {args:List D} {o:Out} {r:Option D} {ro ro':List (Str × D)} {sg sg' sgo:List Cell}
  {name qual:Str} {params:Arguments} {body:List Stmt} {scope:Scope} {dV kV doc pm cdv ct oc:Value} {an od:Option Addr} {osl:Array (Option Value)}
  (ho:C.K.lookup f = some ⟨oc,od,.func (fnOf name qual params body scope dV kV doc pm an cdv ct),osl⟩) (hcd:codeIn C.K cdv qual = true) (hok:fnOk (ro.map (·.1)) scope = true)
  (hb:∀(th:List Addr) (s:Shared) (vs:List Value),C.K.In s.heap → RepL th s.heap args vs → ∃bs,BindsTo s (fnOf name qual params body scope dV kV doc pm an cdv ct) ⟨vs,[]⟩ bs ∧ AllRep th s.heap ro bs)
  (hro:retOf o = some r) (htk:sg'.take sg.length = sgo) (hu:sgo.all (Cell.under sg.length) = true) (hr:r.all (D.under sg.length) = true)
  (hbody:∀L,TS C ⟨qual,scope,L,f,cdv,[],[]⟩ k body ro sg o ro' sg'):CodeOk C (k + 1) (.ref f) args sg r sgo:=by
 unfold fnOk at hok
 simp only [Bool.and_eq_true] at hok
 rw [←htk]
 exact CodeOk.of_def ho hcd hb hok.1.1.1 hok.1.1.2 hok.1.2 (by simp only [Bool.and_eq_true];exact hok.2) hro (Nat.le_refl _) (by rw [htk,hu,hr];rfl) (fun _=>rfl) hbody
mutual
theorem D.under_mono {n m:Nat} (h:n ≤ m):∀{d:D},d.under n = true → d.under m = true
 | .tup l,e=>by simp only [D.under] at e ⊢;exact D.unders_mono h e
 | .obj i,e=>by simp only [D.under,decide_eq_true_eq] at e ⊢;omega
 | .none,_=>rfl
 | .bool _,_=>rfl
 | .int _,_=>rfl
 | .str _,_=>rfl
 | .val _,_=>rfl
 | .aref,_=>rfl
 | .any,_=>rfl
theorem D.unders_mono {n m:Nat} (h:n ≤ m):∀{l:List D},D.unders n l = true → D.unders m l = true
 | [],_=>rfl
 | d :: l,e=>by simp only [D.unders,Bool.and_eq_true] at e ⊢;exact ⟨D.under_mono h e.1,D.unders_mono h e.2⟩
end
theorem Cell.under_mono {n m:Nat} (h:n ≤ m) {c:Cell} (e:c.under n = true):c.under m = true:=by
 cases c with
 | list l=>exact D.unders_mono h e
 | inst C dl=>simp only [Cell.under,decide_eq_true_eq] at e ⊢;omega
 | dict es=>exact D.unders_mono h e
 | liter s i=>simp only [Cell.under,decide_eq_true_eq] at e ⊢;omega
 | enum s i=>simp only [Cell.under,decide_eq_true_eq] at e ⊢;omega
 | siter s i=>rfl
 | riter x l=>rfl
 | range x y=>rfl
 | exc c o=>
  cases o with
  | none=>rfl
  | some d=>simp only [Cell.under,decide_eq_true_eq] at e ⊢;omega
 | dead=>rfl
theorem AOk.mono {A:Around} {k k':Nat} {l:List Env} (a:AOk A k' l) (h:k ≤ k'):AOk A k l:=⟨a.frames,a.hd,by have:=a.depth;omega,by have:=a.units;omega⟩
theorem CodeOk.mono {C:Cx} {k k':Nat} {f:Value} {args:List D} {r:Option D} {sg sg':List Cell} (h:CodeOk C k f args sg r sg') (hk:k ≤ k'):CodeOk C k' f args sg r sg':=
 fun A l th s vs R a=>h A l th s vs R (a.mono hk)
theorem CodeOk.up {C:Cx} {k k':Nat} {f:Value} {args:List D} {r:Option D} {sg sg':List Cell} (h:CodeOk C k f args sg r sg') (hk:k ≤ k'):CallOk C k' f args sg r sg':=(h.mono hk).call
section
variable {sg:List Cell} {R:RI} {ws:List W} {p q:Nat} {c:Cell}
theorem setAt_length:(setAt sg R p).length = sg.length:=List.length_set
theorem setAt_setAt:setAt (setAt sg R p) R q = setAt sg R q:=by unfold setAt;rw [List.set_set]
theorem Rdr.self (H:Rdr sg R ws p):setAt sg R p = sg:=set_self H.inst.dict
theorem Rdr.set (H:Rdr sg R ws p) (hq:q ≤ ws.length):Rdr (setAt sg R q) R ws q:=by
 have hl:R.dl < sg.length:=(List.getElem?_eq_some_iff.mp H.inst.dict).1
 have ne:∀(i:Nat) (c:Cell),sg[i]? = some c → c ≠ .dict (rdEnts R p) → (setAt sg R q)[i]? = some c:=fun i c e n=>by
  have:R.dl ≠ i:=fun z=>by
   rw [←z,H.inst.dict] at e
   cases e
   exact n rfl
  unfold setAt
  rw [List.getElem?_set_ne this]
  exact e
 refine ⟨⟨ne _ _ H.inst.at_ (by intro z;cases z),by unfold setAt;rw [List.getElem?_set_self hl]⟩,ne _ _ H.toks (by intro z;cases z),fun i w hw=>⟨ne _ _ (H.tok i w hw).at_ (by intro z;cases z),ne _ _ (H.tok i w hw).dict (by intro z;simp at z)⟩,H.small,?_,hq,H.ne⟩
 have u:=H.und
 unfold Und at u ⊢
 rw [setAt_length]
 rw [List.all_eq_true] at u ⊢
 intro c hc
 unfold setAt at hc
 rcases List.mem_or_eq_of_mem_set hc with hc | rfl
 ·exact u c hc
 ·have:=u _ (List.mem_of_getElem? H.inst.dict)
  simp only [Cell.under,rdEnts,List.map_cons,List.map_nil,D.unders,D.under,Bool.and_eq_true,decide_eq_true_eq] at this ⊢
  exact this
theorem Rdr.app {l:List Cell} (H:Rdr sg R ws p) (hl:∀c ∈ l,c.under (sg ++ l).length = true):Rdr (sg ++ l) R ws p:=by
 have up:∀(i:Nat) (c:Cell),sg[i]? = some c → (sg ++ l)[i]? = some c:=fun i c e=>by rw [List.getElem?_append_left (List.getElem?_eq_some_iff.mp e).1];exact e
 refine ⟨⟨up _ _ H.inst.at_,up _ _ H.inst.dict⟩,up _ _ H.toks,fun i w hw=>⟨up _ _ (H.tok i w hw).at_,up _ _ (H.tok i w hw).dict⟩,H.small,?_,H.pos,H.ne⟩
 have u:=H.und
 unfold Und at u ⊢
 rw [List.all_eq_true] at u ⊢
 intro c hc
 rcases List.mem_append.mp hc with hc | hc
 ·exact Cell.under_mono (by simp) (u c hc)
 ·exact hl c hc
end
section
variable {C:Cx} {fi:FI} {k:Nat} {ro:List (Str × D)} {sg sg1 sg2 sg':List Cell} {d d1 d2:D} {ds:List D} {r:Option D} {R:RI} {ws:List W} {p i:Nat}
theorem TE.meth' {o:Expr} {name:Str} {apos pos:Pos} {es:List Expr} {i dl:Nat} {Cc f:Addr} {ents:List (Str × D)} (hs:(baseOk o && (apos.endLine == pos.line) && es.all plainE && decide (es.length < 30)) = true)
  (h1:TE C fi k o ro sg (some (.obj i)) sg1) (M:Meth C.K Cc name f) (h2:TEs C fi k es ro sg1 (some ds) sg2) (hc:CallOk C k (.ref f) (.obj i :: ds) sg2 r sg') (X:IsInst sg1 i Cc dl ents) (hno:ents.lookup name = none):TE C fi k (.Call (.Attribute o name apos) es [] pos) ro sg r sg':=by
 simp only [Bool.and_eq_true] at hs
 exact TE.meth hs.1.1.1 hs.1.1.2 hs.1.2 hs.2 h1 X hno M.get M.find M.fn M.keep h2 hc
theorem TE.attr' {o:Expr} {name:Str} {pos:Pos} {i dl:Nat} {Cc:Addr} {es:List (Str × D)} (h1:TE C fi k o ro sg (some (.obj i)) sg') (F:Attr C.K Cc name) (X:IsInst sg' i Cc dl es) (hl:es.lookup name = some d) (hd:(d.handed && baseOk o) = true):TE C fi k (.Attribute o name pos) ro sg (some d) sg':=by
 simp only [Bool.and_eq_true] at hd
 exact TE.attr hd.2 h1 X hl hd.1 F.get F.dict F.find F.no
theorem TE.call' {f:Expr} {es:List Expr} {pos:Pos} {v:Value} (hs:(plainF f && es.all plainE) = true) (h1:TE C fi k f ro sg (some (.val v)) sg1) (h2:TEs C fi k es ro sg1 (some ds) sg2) (hk:keepIn C.K v = true) (hc:CallOk C k v ds sg2 r sg'):
  TE C fi k (.Call f es [] pos) ro sg r sg':=by
 simp only [Bool.and_eq_true] at hs
 exact TE.call hs.1 hs.2 h1 hk h2 hc
theorem TE.callM' {f:Expr} {es:List Expr} {pos:Pos} {v:Value} (hs:(plainF f && es.all plainE) = true) (h1:TE C fi k f ro sg (some (.val v)) sg1) (h2:TEs C fi k es ro sg1 (some ds) sg2) (hk:keeperOf v = pure .machine) (hc:CallOk C k v ds sg2 r sg'):
  TE C fi k (.Call f es [] pos) ro sg r sg':=by
 simp only [Bool.and_eq_true] at hs
 exact TE.callM hs.1 hs.2 h1 hk h2 hc
end
section
variable {y:Cy} {sg:List Cell} {R:RI} {ws:List W} {p a k:Nat}
end
section
variable {C:Cx} {fi:FI} {k:Nat} {ro ro1 ro2:List (Str × D)} {sg sg1 sg2 sg':List Cell} {d d1 d2:D} {ds:List D} {r:Option D} {o:Out} {b b1 b2:Bool}
theorem TE.andB {e e2:Expr} {es:List Expr} {pos:Pos} (h:TE C fi k e ro sg (some (.bool b1)) sg) (h2:b1 = true → TE C fi k (.BoolOp .And (e2 :: es) pos) ro sg (some (.bool b2)) sg):TE C fi k (.BoolOp .And (e :: e2 :: es) pos) ro sg (some (.bool (b1 && b2))) sg:=by
 cases b1
 ·exact TE.andF h
 ·exact TE.andT h (h2 rfl)
theorem TE.orB {e e2:Expr} {es:List Expr} {pos:Pos} (h:TE C fi k e ro sg (some (.bool b1)) sg) (h2:b1 = false → TE C fi k (.BoolOp .Or (e2 :: es) pos) ro sg (some (.bool b2)) sg):TE C fi k (.BoolOp .Or (e :: e2 :: es) pos) ro sg (some (.bool (b1 || b2))) sg:=by
 cases b1
 ·exact TE.orF h (h2 rfl)
 ·exact TE.orT h
theorem TB.andB {e:Expr} {es:List Expr} {pos:Pos} (h:TB C fi k e ro sg (some b1) sg) (h2:b1 = true → TB C fi k (.BoolOp .And es pos) ro sg (some b2) sg):TB C fi k (.BoolOp .And (e :: es) pos) ro sg (some (b1 && b2)) sg:=by
 cases b1
 ·exact TB.andF h
 ·exact TB.andT h (h2 rfl)
theorem TB.orB {e:Expr} {es:List Expr} {pos:Pos} (h:TB C fi k e ro sg (some b1) sg) (h2:b1 = false → TB C fi k (.BoolOp .Or es pos) ro sg (some b2) sg):TB C fi k (.BoolOp .Or (e :: es) pos) ro sg (some (b1 || b2)) sg:=by
 cases b1
 ·exact TB.orF h (h2 rfl)
 ·exact TB.orT h
theorem TX.ifT' {test:Expr} {body orelse:List Stmt} {pos:Pos} (h:TB C fi k test ro sg (some b) sg1) (hb:b = true) (h2:TS C fi k body ro sg1 o ro2 sg2):TX C fi k (.If test body orelse pos) ro sg o ro2 sg2:=by
 subst hb;exact TX.ifT h h2
theorem TX.ifF' {test:Expr} {body orelse:List Stmt} {pos:Pos} (h:TB C fi k test ro sg (some b) sg1) (hb:b = false) (h2:TS C fi k orelse ro sg1 o ro2 sg2):TX C fi k (.If test body orelse pos) ro sg o ro2 sg2:=by
 subst hb;exact TX.ifF h h2
theorem TE.methO {o:Expr} {name:Str} {apos pos:Pos} {es:List Expr} {i dl:Nat} {Cc f:Addr} {ents:List (Str × D)} (hs:(baseOk o && (apos.endLine == pos.line) && es.all plainE && decide (es.length < 30)) = true)
  (h1:TE C fi k o ro sg (some (.obj i)) sg1) (X:IsInst sg1 i Cc dl ents) (M:Meth C.K Cc name f) (hno:ents.lookup name = none) (h2:TEs C fi k es ro sg1 (some ds) sg2) (hc:CallOk C k (.ref f) (.obj i :: ds) sg2 r sg'):TE C fi k (.Call (.Attribute o name apos) es [] pos) ro sg r sg':=TE.meth' hs h1 M h2 hc X hno
theorem TE.attrO {o:Expr} {name:Str} {pos:Pos} {i dl:Nat} {Cc:Addr} {es:List (Str × D)} (h1:TE C fi k o ro sg (some (.obj i)) sg') (X:IsInst sg' i Cc dl es) (F:Attr C.K Cc name) (hl:es.lookup name = some d) (hd:(d.handed && baseOk o) = true):TE C fi k (.Attribute o name pos) ro sg (some d) sg':=TE.attr' h1 F X hl hd
noncomputable def Out.stops:Out → Bool
 | .next=>false
 | _=>true
theorem TS.stop' {st:Stmt} {rest:List Stmt} (h1:TX C fi k st ro sg o ro1 sg1) (ho:o.stops = true):TS C fi k (st :: rest) ro sg o ro1 sg1:=by
 cases o <;> first | exact absurd ho (by decide) | exact TS.stop h1 rfl
theorem TS.ifT {test:Expr} {body orelse rest:List Stmt} {pos:Pos} (h:TB C fi k test ro sg (some b) sg1) (hb:b = true) (h2:TS C fi k body ro sg1 o ro2 sg2) (ho:o.stops = true):TS C fi k (.If test body orelse pos :: rest) ro sg o ro2 sg2:=
 TS.stop' (TX.ifT' h hb h2) ho
theorem TS.ifF {test:Expr} {body rest:List Stmt} {pos:Pos} (h:TB C fi k test ro sg (some b) sg1) (hb:b = false) (h2:TS C fi k rest ro sg1 o ro2 sg2):TS C fi k (.If test body [] pos :: rest) ro sg o ro2 sg2:=
 TS.cons (TX.ifF' h hb TS.nil) h2
theorem TS.ret {e:Expr} {pos:Pos} {rest:List Stmt} (h:TE C fi k e ro sg (some d) sg1):TS C fi k (.Return (some e) pos :: rest) ro sg (.ret d) ro sg1:=TS.stop (TX.ret h) rfl
theorem TS.retX {e:Expr} {pos:Pos} {rest:List Stmt} (h:TE C fi k e ro sg none sg1):TS C fi k (.Return (some e) pos :: rest) ro sg .exc ro sg1:=TS.stop (TX.retX h) rfl
theorem TS.set {x:Str} {pos pos':Pos} {value:Expr} {rest:List Stmt} (h:TE C fi k value ro sg (some d) sg1) (hk:fi.scope.names.lookup x = some .local) (hs:swapsWith value (some (.Name x pos')) pos.line fi.env = pure false) (h2:TS C fi k rest (put x d ro) sg1 o ro2 sg2):TS C fi k (.Assign [.Name x pos'] value pos :: rest) ro sg o ro2 sg2:=TS.cons (TX.assign h hk hs) h2
theorem TS.setX {x:Str} {pos pos':Pos} {value:Expr} {rest:List Stmt} (h:TE C fi k value ro sg none sg1) (hs:swapsWith value (some (.Name x pos')) pos.line fi.env = pure false):TS C fi k (.Assign [.Name x pos'] value pos :: rest) ro sg .exc ro sg1:=TS.stop (TX.assignX h hs) rfl
theorem TS.expr {e:Expr} {pos:Pos} {rest:List Stmt} (h:TE C fi k e ro sg (some d) sg1) (hi:interactive fi.env = false) (hs:swapsWith e none pos.line fi.env = pure false) (h2:TS C fi k rest ro sg1 o ro2 sg2):TS C fi k (.Expr e pos :: rest) ro sg o ro2 sg2:=TS.cons (TX.expr h hi hs) h2
theorem TS.exprX {e:Expr} {pos:Pos} {rest:List Stmt} (h:TE C fi k e ro sg none sg1) (hi:interactive fi.env = false) (hs:swapsWith e none pos.line fi.env = pure false):TS C fi k (.Expr e pos :: rest) ro sg .exc ro sg1:=TS.stop (TX.exprX h hi hs) rfl
end
theorem CodeOk.fn' {C:Cx} {k:Nat} {f:Addr} {args:List D} {o:Out} {r:Option D} {ro:List (Str × D)} {sg sg' sgo:List Cell}
  {name qual:Str} {params:Arguments} {body:List Stmt} {scope:Scope} {dV kV doc pm cdv ct oc:Value} {an od:Option Addr} {osl:Array (Option Value)}
  (ho:C.K.lookup f = some ⟨oc,od,.func (fnOf name qual params body scope dV kV doc pm an cdv ct),osl⟩) (hcd:codeIn C.K cdv qual = true) (hok:fnOk (ro.map (·.1)) scope = true)
  (hb:∀(th:List Addr) (s:Shared) (vs:List Value),C.K.In s.heap → RepL th s.heap args vs → ∃bs,BindsTo s (fnOf name qual params body scope dV kV doc pm an cdv ct) ⟨vs,[]⟩ bs ∧ AllRep th s.heap ro bs)
  (hro:retOf o = some r) (htk:sg'.take sg.length = sgo) (hu:sgo.all (Cell.under sg.length) = true) (hr:r.all (D.under sg.length) = true)
  (hbody:∃ro',∀L,TS C ⟨qual,scope,L,f,cdv,[],[]⟩ k body ro sg o ro' sg'):CodeOk C (k + 1) (.ref f) args sg r sgo:=by
 obtain ⟨ro',h⟩:=hbody
 exact CodeOk.fn ho hcd hok hb hro htk hu hr h
section
variable {y:Cy} {sg:List Cell} {R:RI} {ws:List W} {p a k:Nat}
theorem tokD_some {i:Nat} {w:W} (h:ws[i]? = some w):tokD R ws i = .obj (R.tok i):=by
 unfold tokD;rw [if_pos (List.getElem?_eq_some_iff.mp h).1]
theorem tokD_none {i:Nat} (h:ws[i]? = none):tokD R ws i = .none:=by
 unfold tokD;rw [if_neg (by rw [List.getElem?_eq_none_iff] at h;omega)]
noncomputable def kindAt (ws:List W) (i:Nat) (s:Str):Bool:=match ws[i]? with | some w=>w.kind == s | none=>false
end
local macro_rules
 | `(tactic| walk_at "op")=>`(tactic| first
  | (with_reducible first | exact op_add_int | exact op_sub_int | exact op_eq_int | exact op_ne_int | exact op_lt_int | exact op_gt_int | exact op_ge_int | exact op_eq_str | exact op_ne_str)
  | exact op_is_none rfl
  | exact op_isnot_none rfl)
local macro_rules
 | `(tactic| walk_at "attr")=>`(tactic| first
  | (with_reducible first | exact ar_at _ | exact ar_tokens _ | exact at_kind _ | exact at_worth _ | exact at_at _))
local macro_rules
 | `(tactic| walk_at "meth")=>`(tactic| first
  | (with_reducible first | exact m_peek _ | exact m_is_kind _ | exact m_is_sign _ | exact m_skip_sign _ | exact m_take _ | exact m_is_word _ | exact m_skip _ | exact m_one_of _ | exact m_is_name _ | exact m_name _ | exact m_need_sign _ | exact m_is_number _ | exact m_signed _))
local macro_rules
 | `(tactic| walk_at "inst")=>`(tactic| first | assumption | exact Rdr.inst (by assumption))
local macro_rules
 | `(tactic| walk_at "tes")=>`(tactic| first
  | with_reducible exact TEs.nil
  | ((with_reducible apply TEs.cons);(·rfl);(·walk_at "te");(·walk_at "tes")))
local macro_rules
 | `(tactic| walk_at "set")=>`(tactic| ((with_reducible apply TS.set);(·walk_at "te");(·rfl);(·rfl)))
local macro_rules
 | `(tactic| walk_at "ret")=>`(tactic| ((with_reducible apply TS.ret);(·walk_at "te")))
section
theorem AllRep.zip {th:List Addr} {h:Heap}:∀{ro:List (Str × D)} {vs:List Value},RepL th h (ro.map (·.2)) vs → AllRep th h ro ((ro.map (·.1)).zip vs)
 | [],vs,r=>rfl
 | (x,d) :: ro,vs,r=>by
  obtain ⟨v,w,rfl,r1,r2⟩:=r
  exact ⟨v,_,rfl,r1,AllRep.zip r2⟩
theorem RepL.app {th:List Addr} {h:Heap}:∀{l l2:List D} {vs ws:List Value},RepL th h l vs → RepL th h l2 ws → RepL th h (l ++ l2) (vs ++ ws)
 | [],l2,vs,ws,r,r2=>by cases r;exact r2
 | d :: l,l2,vs,ws,r,r2=>by
  obtain ⟨v,w,rfl,r1,r3⟩:=r
  exact ⟨v,_,rfl,r1,RepL.app r3 r2⟩
theorem len_s {n:Nat} {P:List Value → Prop} (h:∀a vs,vs.length = n → P (a :: vs)):∀vs:List Value,vs.length = n + 1 → P vs:=by
 intro vs e
 cases vs with
 | nil=>cases e
 | cons a vs=>exact h a vs (Nat.succ.inj e)
theorem len1 {P:List Value → Prop} (h:∀a,P [a]):∀vs:List Value,vs.length = 1 → P vs:=len_s fun a vs e=>by
 rw [List.eq_nil_of_length_eq_zero e];exact h a
theorem len2 {P:List Value → Prop} (h:∀a b,P [a,b]):∀vs:List Value,vs.length = 2 → P vs:=len_s fun a=>len1 (h a)
theorem len3 {P:List Value → Prop} (h:∀a b c,P [a,b,c]):∀vs:List Value,vs.length = 3 → P vs:=len_s fun a=>len2 (h a)
theorem len4 {P:List Value → Prop} (h:∀a b c d,P [a,b,c,d]):∀vs:List Value,vs.length = 4 → P vs:=len_s fun a=>len3 (h a)
noncomputable def fdAt (K:Frag) (f:Addr):FuncData:=match K.lookup f with
 | some ⟨_,_,.func fd,_⟩=>fd
 | _=>default
noncomputable def Bnd (K:Frag) (f:Addr) (ns:List Str) (n:Nat) (ev:List Value):Prop:=
 ∀(S:Setting) (vs:List Value),vs.length = n → peek K S (bindArgs (fdAt K f) ⟨vs,[]⟩) = some (ns.zip (vs ++ ev))
theorem CodeOk.fnN {C:Cx} {k:Nat} {f:Addr} {args:List D} {o:Out} {r:Option D} {ro:List (Str × D)} {sg sg' sgo:List Cell} {ev:List Value} {exD:List D}
  {name qual:Str} {params:Arguments} {body:List Stmt} {scope:Scope} {dV kV doc pm cdv ct oc:Value} {an od:Option Addr} {osl:Array (Option Value)}
  (ho:C.K.lookup f = some ⟨oc,od,.func (fnOf name qual params body scope dV kV doc pm an cdv ct),osl⟩) (hcd:codeIn C.K cdv qual = true) (hok:fnOk (ro.map (·.1)) scope = true)
  (hro2:ro.map (·.2) = args ++ exD) (hex:∀th h,RepL th h exD ev) (hb:Bnd C.K f (ro.map (·.1)) args.length ev)
  (hro:retOf o = some r) (htk:sg'.take sg.length = sgo) (hu:sgo.all (Cell.under sg.length) = true) (hr:r.all (D.under sg.length) = true)
  (hbody:∃ro',∀L,TS C ⟨qual,scope,L,f,cdv,[],[]⟩ k body ro sg o ro' sg'):CodeOk C (k + 1) (.ref f) args sg r sgo:=
 CodeOk.fn' ho hcd hok (fun th s vs X RR=>⟨_,kp_binds X (fun S=>by
  have h:=hb S vs RR.len
  unfold fdAt at h
  rw [ho] at h
  exact h),AllRep.zip (by rw [hro2];exact RR.app (hex _ _))⟩) hro htk hu hr hbody
theorem ex0:∀th h,RepL th h [] []:=fun _ _=>rfl
theorem ex1 {n:Nat}:∀th h,RepL th h [.int ((0:Nat):Int)] [.int 0 n]:=fun _ _=>⟨_,_,rfl,⟨n,rfl⟩,rfl⟩
theorem b_peek2 (P:Params):Bnd (theK P) 377 ["self","ahead"] 2 []:=fun S=>len2 fun a b=>by kernel_rfl
theorem b_peek1 (P:Params):Bnd (theK P) 377 ["self","ahead"] 1 [.int 0 733]:=fun S=>len1 fun a=>by kernel_rfl
theorem b_is_kind3 (P:Params):Bnd (theK P) 406 ["self","kind","ahead"] 3 []:=fun S=>len3 fun a b c=>by kernel_rfl
theorem b_is_kind2 (P:Params):Bnd (theK P) 406 ["self","kind","ahead"] 2 [.int 0 765]:=fun S=>len2 fun a b=>by kernel_rfl
theorem b_is_sign2 (P:Params):Bnd (theK P) 471 ["self","sign","ahead"] 2 [.int 0 842]:=fun S=>len2 fun a b=>by kernel_rfl
theorem b_take (P:Params):Bnd (theK P) 398 ["self"] 1 []:=fun S=>len1 fun a=>by kernel_rfl
theorem b_skip_sign (P:Params):Bnd (theK P) 478 ["self","sign"] 2 []:=fun S=>len2 fun a b=>by kernel_rfl
theorem b_need_sign (P:Params):Bnd (theK P) 485 ["self","sign"] 2 []:=fun S=>len2 fun a b=>by kernel_rfl
theorem b_is_number (P:Params):Bnd (theK P) 492 ["self"] 1 []:=fun S=>len1 fun a=>by kernel_rfl
theorem b_sign_among (P:Params):Bnd (theK P) 265 ["reader","signs"] 2 []:=fun S=>len2 fun a b=>by kernel_rfl
local macro_rules
 | `(tactic| walk_at "call")=>`(tactic| fail "no contract")
local macro_rules
 | `(tactic| walk_at "glob")=>`(tactic| fail "no name")
local macro_rules
 | `(tactic| walk_at "te")=>`(tactic| first
  | (with_reducible first | exact TE.cint | exact TE.cstr | exact TE.cnone | exact TE.cbool)
  | ((with_reducible apply TE.name);(·rfl);(·rfl);(·rfl))
  | ((with_reducible apply TE.attrO);(·walk_at "te");(·walk_at "inst");(·walk_at "attr");(·rfl);(·rfl))
  | ((with_reducible apply TE.methO);(·rfl);(·walk_at "te");(·walk_at "inst");(·walk_at "meth");(·rfl);(·walk_at "tes");(·walk_at "call"))
  | ((with_reducible apply TE.cmp);(·walk_at "te");(·walk_at "te");(·walk_at "op");(·rfl))
  | ((with_reducible apply TE.binop);(·walk_at "te");(·walk_at "te");(·walk_at "op"))
  | ((with_reducible apply TE.bool1);walk_at "te")
  | ((with_reducible apply TE.andB);(·walk_at "te");(·intro _;walk_at "te"))
  | ((with_reducible apply TE.orB);(·walk_at "te");(·intro _;walk_at "te"))
  | ((with_reducible apply TE.andF);walk_at "te")
  | ((with_reducible apply TE.orT);walk_at "te")
  | ((with_reducible apply TE.not);walk_at "te")
  | walk_at "glob")
local macro_rules
 | `(tactic| walk_at "tb")=>`(tactic| first
  | ((with_reducible apply TB.not);walk_at "tb")
  | ((with_reducible apply TB.cmp);(·walk_at "te");(·walk_at "te");(·walk_at "op");(·rfl))
  | (with_reducible first | exact TB.and0 | exact TB.or0)
  | ((with_reducible apply TB.andB);(·walk_at "tb");(·intro _;walk_at "tb"))
  | ((with_reducible apply TB.orB);(·walk_at "tb");(·intro _;walk_at "tb"))
  | ((with_reducible apply TB.plain);rotate_left;(·exact fun _ _=>rfl);(·walk_at "te")))
section
variable {y:Cy} {sg:List Cell} {R:RI} {ws:List W} {p a k:Nat} {args exD:List D} {ev:List Value}
noncomputable def signAt (ws:List W) (i:Nat) (s:Str):Bool:=match ws[i]? with | some w=>w.kind == "sign" && w.str == s | none=>false
local macro_rules
 | `(tactic| walk_at "glob")=>`(tactic| first
  | (with_reducible first | exact t_len rfl | exact t_is_lone_number rfl | exact t_sign_among rfl))
theorem peek_g (B:Bnd y.cx.K 377 ["self","ahead"] args.length ev) (e:[.obj R.r,.int a] = args ++ exD) (hex:∀th h,RepL th h exD ev) (H:Rdr sg R ws p):CodeOk y.cx 1 (.ref 377) args sg (some (tokD R ws (p + a))) sg:=by
 have hr:(D.under sg.length (tokD R ws (p + a))) = true:=by
  unfold tokD
  split
  ·rename_i h
   obtain ⟨w,hw⟩:∃w,ws[p + a]? = some w:=⟨_,List.getElem?_eq_getElem h⟩
   have:=(List.getElem?_eq_some_iff.mp (H.tok _ w hw).at_).1
   simpa [D.under] using this
  ·rfl
 have len:((List.range ws.length).map fun i=>D.obj (R.tok i)).length = ws.length:=by simp
 have hl:∀k,CallOk y.cx k (.builtin "len") [.obj R.t] sg (some (.int ws.length)) sg:=fun k=>by
  have:=call_len_l (C:=y.cx) (k:=k) H.toks (by rw [len];have:=H.small;unfold sizeLine;omega)
  rw [len] at this
  exact this
 refine CodeOk.fnN (k:=0) (o:=.ret (tokD R ws (p + a))) (ro:=[("self",.obj R.r),("ahead",.int a)]) (sg':=sg) (by rfl) (by rfl) (by rfl) e hex B rfl List.take_length H.und hr ?_
 apply Exists.intro
 intro L
 by_cases h:p + a < ws.length
 ·have ht:tokD R ws (p + a) = .obj (R.tok (p + a)):=by unfold tokD;rw [if_pos h]
  rw [ht]
  with_reducible apply TS.ifT
  ·with_reducible apply TB.cmp
   ·walk_at "te"
   ·refine TE.callM' rfl (t_len rfl) ?_ rfl (hl _)
    walk_at "tes"
   ·walk_at "op"
   ·rfl
  ·exact decide_eq_true (by omega)
  ·with_reducible apply TS.ret
   with_reducible apply TE.sub
   ·walk_at "te"
   ·walk_at "te"
   ·have:=H.small
    refine sub_list (l:=(List.range ws.length).map fun i=>D.obj (R.tok i)) H.toks (fun _ _=>rfl) (by omega) (by omega) ?_
    have e:((p:Int) + a).toNat = p + a:=by omega
    rw [e,List.getElem?_map,List.getElem?_range h]
    rfl
  ·rfl
 ·have ht:tokD R ws (p + a) = .none:=by unfold tokD;rw [if_neg h]
  rw [ht]
  with_reducible apply TS.ifF
  ·with_reducible apply TB.cmp
   ·walk_at "te"
   ·refine TE.callM' rfl (t_len rfl) ?_ rfl (hl _)
    walk_at "tes"
   ·walk_at "op"
   ·rfl
  ·exact decide_eq_false (by omega)
  ·walk_at "ret"
end
local macro_rules
 | `(tactic| walk_at "glob")=>`(tactic| first
  | (with_reducible first | exact t_len rfl | exact t_is_lone_number rfl | exact t_sign_among rfl))
section
variable {y:Cy} {sg:List Cell} {R:RI} {ws:List W} {p a k:Nat} {args exD:List D} {ev:List Value} {w:W} {s:Str}
theorem tokD_under (H:Rdr sg R ws p) {i:Nat}:D.under sg.length (tokD R ws i) = true:=by
 unfold tokD
 split
 ·rename_i h
  obtain ⟨w,hw⟩:∃w,ws[i]? = some w:=⟨_,List.getElem?_eq_getElem h⟩
  have:=(List.getElem?_eq_some_iff.mp (H.tok _ w hw).at_).1
  simpa [D.under] using this
 ·rfl
theorem peek_c (H:Rdr sg R ws p) (hk:1 ≤ k):CallOk y.cx k (.ref 377) [.obj R.r,.int a] sg (some (tokD R ws (p + a))) sg:=(peek_g (b_peek2 _) rfl ex0 H).up hk
theorem peek_c0 (H:Rdr sg R ws p) (hk:1 ≤ k):CallOk y.cx k (.ref 377) [.obj R.r] sg (some (tokD R ws p)) sg:=(peek_g (a:=0) (b_peek1 _) rfl ex1 H).up hk
theorem peek_cs (H:Rdr sg R ws p) (h:ws[p + a]? = some w) (hk:1 ≤ k):CallOk y.cx k (.ref 377) [.obj R.r,.int a] sg (some (.obj (R.tok (p + a)))) sg:=by
 rw [←tokD_some h];exact peek_c H hk
theorem peek_cn (H:Rdr sg R ws p) (h:ws[p + a]? = none) (hk:1 ≤ k):CallOk y.cx k (.ref 377) [.obj R.r,.int a] sg (some .none) sg:=by
 rw [←tokD_none (R:=R) h];exact peek_c H hk
theorem peek_c0s (H:Rdr sg R ws p) (h:ws[p]? = some w) (hk:1 ≤ k):CallOk y.cx k (.ref 377) [.obj R.r] sg (some (.obj (R.tok p))) sg:=by
 rw [←tokD_some h];exact peek_c0 H hk
theorem peek_c0n (H:Rdr sg R ws p) (h:ws[p]? = none) (hk:1 ≤ k):CallOk y.cx k (.ref 377) [.obj R.r] sg (some .none) sg:=by
 rw [←tokD_none (R:=R) h];exact peek_c0 H hk
local macro_rules
 | `(tactic| walk_at "call")=>`(tactic| first
  | exact peek_cs (by assumption) (by assumption) (by omega)
  | exact peek_cn (by assumption) (by assumption) (by omega)
  | exact peek_c0s (by assumption) (by assumption) (by omega)
  | exact peek_c0n (by assumption) (by assumption) (by omega))
theorem is_kind_g (B:Bnd y.cx.K 406 ["self","kind","ahead"] args.length ev) (e:[.obj R.r,.str s,.int a] = args ++ exD) (hex:∀th h,RepL th h exD ev) (H:Rdr sg R ws p):CodeOk y.cx 2 (.ref 406) args sg (some (.bool (kindAt ws (p + a) s))) sg:=by
 refine CodeOk.fnN (k:=1) (o:=.ret (.bool (kindAt ws (p + a) s))) (ro:=[("self",.obj R.r),("kind",.str s),("ahead",.int a)]) (sg':=sg) (by rfl) (by rfl) (by rfl) e hex B rfl List.take_length H.und rfl ?_
 cases h:ws[p + a]? with
 | none=>
  have e:kindAt ws (p + a) s = false:=by unfold kindAt;rw [h]
  rw [e]
  apply Exists.intro
  intro L
  walk_at "set"
  walk_at "ret"
 | some w=>
  have e:kindAt ws (p + a) s = (true && (w.kind == s)):=by unfold kindAt;rw [h];rfl
  rw [e]
  have HT:=H.tok _ _ h
  apply Exists.intro
  intro L
  walk_at "set"
  walk_at "ret"
theorem is_kind_c (H:Rdr sg R ws p) (hk:2 ≤ k):CallOk y.cx k (.ref 406) [.obj R.r,.str s,.int a] sg (some (.bool (kindAt ws (p + a) s))) sg:=(is_kind_g (b_is_kind3 _) rfl ex0 H).up hk
theorem is_kind_c0 (H:Rdr sg R ws p) (hk:2 ≤ k):CallOk y.cx k (.ref 406) [.obj R.r,.str s] sg (some (.bool (kindAt ws p s))) sg:=(is_kind_g (a:=0) (b_is_kind2 _) rfl ex1 H).up hk
local macro_rules
 | `(tactic| walk_at "call")=>`(tactic| first
  | exact is_kind_c (by assumption) (by omega)
  | exact is_kind_c0 (by assumption) (by omega))
theorem is_sign_g (B:Bnd y.cx.K 471 ["self","sign","ahead"] args.length ev) (e:[.obj R.r,.str s,.int a] = args ++ exD) (hex:∀th h,RepL th h exD ev) (H:Rdr sg R ws p):CodeOk y.cx 3 (.ref 471) args sg (some (.bool (signAt ws (p + a) s))) sg:=by
 refine CodeOk.fnN (k:=2) (o:=.ret (.bool (signAt ws (p + a) s))) (ro:=[("self",.obj R.r),("sign",.str s),("ahead",.int a)]) (sg':=sg) (by rfl) (by rfl) (by rfl) e hex B rfl List.take_length H.und rfl ?_
 cases h:ws[p + a]? with
 | none=>
  have e:signAt ws (p + a) s = false:=by unfold signAt;rw [h]
  have e2:kindAt ws (p + a) "sign" = false:=by unfold kindAt;rw [h]
  rw [e]
  apply Exists.intro
  intro L
  with_reducible apply TS.ret
  with_reducible apply TE.andF
  rw [←e2]
  walk_at "te"
 | some w=>
  have e:signAt ws (p + a) s = (kindAt ws (p + a) "sign" && (w.str == s)):=by unfold signAt kindAt;rw [h]
  rw [e]
  have HT:=H.tok _ _ h
  apply Exists.intro
  intro L
  walk_at "ret"
theorem is_sign_c0 (H:Rdr sg R ws p) (hk:3 ≤ k):CallOk y.cx k (.ref 471) [.obj R.r,.str s] sg (some (.bool (signAt ws p s))) sg:=(is_sign_g (a:=0) (b_is_sign2 _) rfl ex1 H).up hk
end
local macro_rules
 | `(tactic| walk_at "tb")=>`(tactic| first
  | ((with_reducible apply TB.not);walk_at "tb")
  | ((with_reducible apply TB.cmp);(·walk_at "te");(·walk_at "te");(·walk_at "op");(·rfl))
  | (with_reducible first | exact TB.and0 | exact TB.or0)
  | ((with_reducible apply TB.andB);(·walk_at "tb");(·intro _;walk_at "tb"))
  | ((with_reducible apply TB.orB);(·walk_at "tb");(·intro _;walk_at "tb"))
  | ((with_reducible apply TB.plain);(·walk_at "te");(·exact fun _ _=>rfl)))
local macro_rules
 | `(tactic| walk_at "call")=>`(tactic| first
  | exact peek_cs (by assumption) (by assumption) (by omega)
  | exact peek_cn (by assumption) (by assumption) (by omega)
  | exact peek_c0s (by assumption) (by assumption) (by omega)
  | exact peek_c0n (by assumption) (by assumption) (by omega)
  | exact is_kind_c (by assumption) (by omega)
  | exact is_kind_c0 (by assumption) (by omega)
  | exact is_sign_c0 (by assumption) (by omega))
section
variable {y:Cy} {sg sg1 sg2 sg':List Cell} {R:RI} {ws:List W} {p a k q:Nat} {args exD:List D} {ev:List Value} {w:W} {s:Str} {fi:FI} {ro ro2:List (Str × D)} {o:Out}
theorem TX.at' {o value:Expr} {pos' pos:Pos} {i:Int} (h1:TE y.cx fi k value ro sg (some (.int i)) sg) (h2:TE y.cx fi k o ro sg (some (.obj R.r)) sg) (H:Rdr sg R ws p) (hi:i = (q:Nat)) (hsw:swapsWith value (some (.Attribute o "at" pos')) pos.line fi.env = pure false):
  TX y.cx fi k (.Assign [.Attribute o "at" pos'] value pos) ro sg .next ro (setAt sg R q):=by
 subst hi
 have S:=sr_at y.w.params
 exact TX.attr h1 h2 H.inst (by show 3 ≤ 900;decide) S.set S.plain S.take S.dict hsw
theorem TS.at' {e value:Expr} {pos' pos:Pos} {rest:List Stmt} {i:Int} (h1:TE y.cx fi k value ro sg (some (.int i)) sg) (h2:TE y.cx fi k e ro sg (some (.obj R.r)) sg) (H:Rdr sg R ws p) (hi:i = (q:Nat)) (hsw:swapsWith value (some (.Attribute e "at" pos')) pos.line fi.env = pure false)
  (h3:TS y.cx fi k rest ro (setAt sg R q) o ro2 sg'):TS y.cx fi k (.Assign [.Attribute e "at" pos'] value pos :: rest) ro sg o ro2 sg':=TS.cons (TX.at' h1 h2 H hi hsw) h3
theorem Rdr.und' (H:Rdr sg R ws p):(setAt sg R q).all (Cell.under sg.length) = true:=by
 have u:=H.und
 unfold Und at u
 rw [List.all_eq_true] at u ⊢
 intro c hc
 unfold setAt at hc
 rcases List.mem_or_eq_of_mem_set hc with hc | rfl
 ·exact u c hc
 ·have:=u _ (List.mem_of_getElem? H.inst.dict)
  simp only [Cell.under,rdEnts,List.map_cons,List.map_nil,D.unders,D.under,Bool.and_eq_true,decide_eq_true_eq] at this ⊢
  exact this
theorem setAt_take:(setAt sg R q).take sg.length = setAt sg R q:=by
 rw [←setAt_length (R:=R) (p:=q) (sg:=sg)];exact List.take_length
theorem skip_f (H:Rdr sg R ws p) (h:signAt ws p s = false):CodeOk y.cx 4 (.ref 478) [.obj R.r,.str s] sg (some (.bool false)) sg:=by
 refine CodeOk.fnN (k:=3) (o:=.ret (.bool false)) (ro:=[("self",.obj R.r),("sign",.str s)]) (sg':=sg) (by rfl) (by rfl) (by rfl) rfl ex0 (b_skip_sign _) rfl List.take_length H.und rfl ?_
 apply Exists.intro
 intro L
 with_reducible apply TS.ifT
 ·walk_at "tb"
 ·rw [h];rfl
 ·walk_at "ret"
 ·rfl
theorem skip_t (H:Rdr sg R ws p) (h:signAt ws p s = true):CodeOk y.cx 4 (.ref 478) [.obj R.r,.str s] sg (some (.bool true)) (setAt sg R (p + 1)):=by
 refine CodeOk.fnN (k:=3) (o:=.ret (.bool true)) (ro:=[("self",.obj R.r),("sign",.str s)]) (sg':=setAt sg R (p + 1)) (by rfl) (by rfl) (by rfl) rfl ex0 (b_skip_sign _) rfl setAt_take H.und' rfl ?_
 apply Exists.intro
 intro L
 with_reducible apply TS.ifF
 ·walk_at "tb"
 ·rw [h];rfl
 ·with_reducible apply TS.at'
  ·walk_at "te"
  ·walk_at "te"
  ·exact H
  ·rfl
  ·rfl
  ·walk_at "ret"
theorem skip_fc (H:Rdr sg R ws p) (h:signAt ws p s = false) (hk:4 ≤ k):CallOk y.cx k (.ref 478) [.obj R.r,.str s] sg (some (.bool false)) sg:=(skip_f H h).up hk
theorem skip_tc (H:Rdr sg R ws p) (h:signAt ws p s = true) (hk:4 ≤ k):CallOk y.cx k (.ref 478) [.obj R.r,.str s] sg (some (.bool true)) (setAt sg R (p + 1)):=(skip_t H h).up hk
theorem take_ok (H:Rdr sg R ws p) (h:ws[p]? = some w):CodeOk y.cx 2 (.ref 398) [.obj R.r] sg (some (.obj (R.tok p))) (setAt sg R (p + 1)):=by
 refine CodeOk.fnN (k:=1) (o:=.ret (.obj (R.tok p))) (ro:=[("self",.obj R.r)]) (sg':=setAt sg R (p + 1)) (by rfl) (by rfl) (by rfl) rfl ex0 (b_take _) rfl setAt_take H.und' ?_ ?_
 ·have:=tokD_under H (i:=p)
  rw [tokD_some h] at this
  exact this
 apply Exists.intro
 intro L
 walk_at "set"
 with_reducible apply TS.ifF
 ·walk_at "tb"
 ·rfl
 ·with_reducible apply TS.at'
  ·walk_at "te"
  ·walk_at "te"
  ·exact H
  ·rfl
  ·rfl
  ·walk_at "ret"
theorem take_c (H:Rdr sg R ws p) (h:ws[p]? = some w) (hk:2 ≤ k):CallOk y.cx k (.ref 398) [.obj R.r] sg (some (.obj (R.tok p))) (setAt sg R (p + 1)):=(take_ok H h).up hk
noncomputable def numAt (ws:List W) (i:Nat):Bool:=if signAt ws i "+" || signAt ws i "-" then kindAt ws (i + 1) "number" else kindAt ws i "number"
theorem is_number_ok (H:Rdr sg R ws p):CodeOk y.cx 4 (.ref 492) [.obj R.r] sg (some (.bool (numAt ws p))) sg:=by
 refine CodeOk.fnN (k:=3) (o:=.ret (.bool (numAt ws p))) (ro:=[("self",.obj R.r)]) (sg':=sg) (by rfl) (by rfl) (by rfl) rfl ex0 (b_is_number _) rfl List.take_length H.und rfl ?_
 apply Exists.intro
 intro L
 unfold numAt
 cases h:(signAt ws p "+" || signAt ws p "-") with
 | true=>
  rw [if_pos rfl]
  with_reducible apply TS.ifT
  ·walk_at "tb"
  ·rw [Bool.or_false];exact h
  ·walk_at "ret"
  ·rfl
 | false=>
  rw [if_neg (by decide)]
  with_reducible apply TS.ifF
  ·walk_at "tb"
  ·rw [Bool.or_false];exact h
  ·walk_at "ret"
theorem is_number_c (H:Rdr sg R ws p) (hk:4 ≤ k):CallOk y.cx k (.ref 492) [.obj R.r] sg (some (.bool (numAt ws p))) sg:=(is_number_ok H).up hk
end
local macro_rules
 | `(tactic| walk_at "glob")=>`(tactic| first
  | (with_reducible first | exact t_min rfl | exact t_Exception rfl | exact t_GrammarFault rfl))
section
variable {y:Cy} {sg sg1 sg2 sg':List Cell} {R:RI} {ws:List W} {p a k q:Nat} {args exD:List D} {ev:List Value} {w:W} {s:Str} {fi:FI} {ro ro2:List (Str × D)} {o:Out}
theorem gf_cls (P:Params):ExcCls (theK P) 72:=⟨by kernel_rfl,by kernel_rfl,by kernel_rfl,⟨_,rfl,rfl,rfl,[72,47],rfl⟩,fun M h X=>Looks.of_peek X (by kernel_rfl),by kernel_rfl⟩
theorem gf_what (P:Params):takerIn (theK P) 72 "what" = some none:=by kernel_rfl
theorem gf_at (P:Params):takerIn (theK P) 72 "at" = some none:=by kernel_rfl
theorem gf_init (P:Params):findIn (theK P) (.ref 72) "__init__" = some (some (.ref 37)):=by kernel_rfl
theorem gf_initT (P:Params):typeIn (theK P) (.ref 37) = some (.type "function"):=by kernel_rfl
theorem b_exc_init (P:Params):Bnd (theK P) 37 ["self","what","at"] 3 []:=fun S=>len3 fun a b c=>by kernel_rfl
theorem b_fault (P:Params):Bnd (theK P) 391 ["self","what"] 2 []:=fun S=>len2 fun a b=>by kernel_rfl
noncomputable abbrev fxEnts (s:Str) (n:Int):List (Str × D):=[("what",.str s),("at",.tup [.int 1,.int n])]
theorem CodeOk.fnM {C:Cx} {k:Nat} {f:Addr} {args:List D} {o:Out} {r:Option D} {ro:List (Str × D)} {sg sg' sgo:List Cell} {ev:List Value} {exD:List D} (n:Nat)
  {name qual:Str} {params:Arguments} {body:List Stmt} {scope:Scope} {dV kV doc pm cdv ct oc:Value} {an od:Option Addr} {osl:Array (Option Value)}
  (ho:C.K.lookup f = some ⟨oc,od,.func (fnOf name qual params body scope dV kV doc pm an cdv ct),osl⟩) (hcd:codeIn C.K cdv qual = true) (hok:fnOk (ro.map (·.1)) scope = true)
  (hro2:ro.map (·.2) = args ++ exD) (hex:∀th h,RepL th h exD ev) (hb:Bnd C.K f (ro.map (·.1)) args.length ev)
  (hro:retOf o = some r) (hn:sg.length ≤ n) (htk:sg'.take n = sgo) (hu:sgo.all (Cell.under n) = true) (hr:r.all (D.under n) = true) (hx:r = none → n = sg.length)
  (hbody:∃ro',∀L,TS C ⟨qual,scope,L,f,cdv,[],[]⟩ k body ro sg o ro' sg'):CodeOk C (k + 1) (.ref f) args sg r sgo:=by
 obtain ⟨ro',h⟩:=hbody
 unfold fnOk at hok
 simp only [Bool.and_eq_true] at hok
 rw [←htk]
 refine CodeOk.of_def ho hcd (fun th s vs X RR=>⟨_,kp_binds X (fun S=>?_),AllRep.zip (by rw [hro2];exact RR.app (hex _ _))⟩) hok.1.1.1 hok.1.1.2 hok.1.2 (by simp only [Bool.and_eq_true];exact hok.2) hro hn (by rw [htk,hu,hr];rfl) hx h
 have h:=hb S vs RR.len
 unfold fdAt at h
 rw [ho] at h
 exact h
theorem CallX.fnN {C:Cx} {k:Nat} {f:Addr} {args:List D} {ro:List (Str × D)} {sg sg' sgo:List Cell} {ev:List Value} {exD:List D}
  {name qual:Str} {params:Arguments} {body:List Stmt} {scope:Scope} {dV kV doc pm cdv ct oc:Value} {an od:Option Addr} {osl:Array (Option Value)}
  (ho:C.K.lookup f = some ⟨oc,od,.func (fnOf name qual params body scope dV kV doc pm an cdv ct),osl⟩) (hcd:codeIn C.K cdv qual = true) (hok:fnOk (ro.map (·.1)) scope = true)
  (hro2:ro.map (·.2) = args ++ exD) (hex:∀th h,RepL th h exD ev) (hb:Bnd C.K f (ro.map (·.1)) args.length ev)
  (htk:sg'.take sg.length = sgo) (hu:sgo.all (Cell.under sg.length) = true)
  (hbody:∀L,TSX C ⟨qual,scope,L,f,cdv,[],[]⟩ k body ro sg sg'):CallX C (k + 1) (.ref f) args sg sgo:=by
 unfold fnOk at hok
 simp only [Bool.and_eq_true] at hok
 rw [←htk]
 refine CallX.of_def ho hcd (fun th s vs X RR=>⟨_,kp_binds X (fun S=>?_),AllRep.zip (by rw [hro2];exact RR.app (hex _ _))⟩) hok.1.1.1 hok.1.1.2 hok.1.2 (by simp only [Bool.and_eq_true];exact hok.2) (by rw [htk,hu]) hbody
 have h:=hb S vs RR.len
 unfold fdAt at h
 rw [ho] at h
 exact h
theorem und_app {l:List Cell} (u:Und sg) (h:∀c ∈ l,c.under (sg ++ l).length = true):Und (sg ++ l):=by
 unfold Und at u ⊢
 rw [List.all_eq_true] at u ⊢
 intro c hc
 rcases List.mem_append.mp hc with hc | hc
 ·exact Cell.under_mono (by simp) (u c hc)
 ·exact h c hc
theorem fx_init (u:Und sg) {n:Int}:CodeOk y.cx 1 (.ref 37) [.obj sg.length,.str s,.tup [.int 1,.int n]] (sg ++ [.exc 72 none]) (some .none) (sg ++ [.exc 72 (some (sg.length + 1)),.dict (fxEnts s n)]):=by
 have g0:(sg ++ [Cell.exc 72 none])[sg.length]? = some (.exc 72 none):=by simp
 have g1:(sg ++ [Cell.exc 72 (some (sg.length + 1)),.dict [("what",.str s)]])[sg.length]? = some (.exc 72 (some (sg.length + 1))):=by simp
 have g2:(sg ++ [Cell.exc 72 (some (sg.length + 1)),.dict [("what",.str s)]])[sg.length + 1]? = some (.dict [("what",.str s)]):=by simp
 have len0:(sg ++ [Cell.exc 72 none]).length = sg.length + 1:=by simp
 have e1:(sg ++ [Cell.exc 72 none]).set sg.length (.exc 72 (some (sg ++ [Cell.exc 72 none]).length)) ++ [.dict [("what",.str s)]] = sg ++ [.exc 72 (some (sg.length + 1)),.dict [("what",.str s)]]:=by
  rw [len0];simp
 have e2:(sg ++ [Cell.exc 72 (some (sg.length + 1)),.dict [("what",.str s)]]).set (sg.length + 1) (.dict (fxEnts s n)) = sg ++ [Cell.exc 72 (some (sg.length + 1)),.dict (fxEnts s n)]:=by
  rw [List.set_append_right _ _ (by omega)];simp
 refine CodeOk.fnM (k:=0) (sg.length + 2) (o:=.next) (ro:=[("self",.obj sg.length),("what",.str s),("at",.tup [.int 1,.int n])]) (sg':=sg ++ [.exc 72 (some (sg.length + 1)),.dict (fxEnts s n)]) (by rfl) (by rfl) (by rfl) rfl ex0 (b_exc_init _) rfl (by simp) (List.take_of_length_le (by simp)) ?_ rfl (fun h=>by cases h) ?_
 ·have:=und_app (l:=[.exc 72 (some (sg.length + 1)),.dict (fxEnts s n)]) u (by
   intro c hc
   simp only [List.mem_cons,List.not_mem_nil,or_false] at hc
   rcases hc with rfl | rfl
   ·simp [Cell.under]
   ·simp [Cell.under,D.unders,D.under])
  unfold Und at this
  simpa using this
 apply Exists.intro
 intro L
 have Y:=gf_cls y.w.params
 with_reducible apply TS.cons
 ·refine TX.excInit (d:=.str s) (t_Exception rfl) ?_ g0 Y rfl rfl rfl rfl
  walk_at "tes"
 ·with_reducible apply TS.cons
  ·refine TX.attrExc0 (d:=.str s) (sg1:=sg ++ [Cell.exc 72 none]) ?_ ?_ g0 Y (gf_what _) rfl
   ·walk_at "te"
   ·walk_at "te"
  ·rw [e1]
   with_reducible apply TS.cons
   ·refine TX.attrExc (sg1:=sg ++ [Cell.exc 72 (some (sg.length + 1)),.dict [("what",.str s)]]) (es:=[("what",.str s)]) (i:=sg.length) (dl:=sg.length + 1) (d:=.tup [.int 1,.int n]) ?_ ?_ g1 g2 (by show 1 ≤ 900;decide) Y (gf_at _) rfl
    ·walk_at "te"
    ·walk_at "te"
   ·have e3:put (Str.ofString "at") (.tup [.int 1,.int n]) [("what",.str s)] = fxEnts s n:=rfl
    rw [e3,e2]
    with_reducible exact TS.nil
theorem fx_call (u:Und sg) {n:Int}:CallX y.cx 2 (.ref 72) [.str s,.tup [.int 1,.int n]] sg sg:=by
 refine CallX.make (k:=1) rfl (Cc:=72) (by rfl) (by decide) (gf_init _) (gf_initT _) (by simp) (fx_init u) u
end
local macro_rules
 | `(tactic| walk_at "call")=>`(tactic| first
  | exact skip_fc (by assumption) (by assumption) (by omega)
  | exact skip_tc (by assumption) (by assumption) (by omega)
  | exact take_c (by assumption) (by assumption) (by omega)
  | exact is_number_c (by assumption) (by omega))
section
variable {y:Cy} {sg sg1 sg2 sg':List Cell} {R:RI} {ws:List W} {p a k q:Nat} {args exD:List D} {ev:List Value} {w:W} {s:Str} {fi:FI} {ro ro2:List (Str × D)} {o:Out} {ds:List D} {r:Option D}
theorem TEX.methO {o:Expr} {name:Str} {apos pos:Pos} {es:List Expr} {i dl:Nat} {Cc f:Addr} {ents:List (Str × D)} (hs:(baseOk o && (apos.endLine == pos.line) && es.all plainE && decide (es.length < 30)) = true)
  (h1:TE y.cx fi k o ro sg (some (.obj i)) sg1) (X:IsInst sg1 i Cc dl ents) (M:Meth y.cx.K Cc name f) (hno:ents.lookup name = none) (h2:TEs y.cx fi k es ro sg1 (some ds) sg2) (hc:CallX y.cx k (.ref f) (.obj i :: ds) sg2 sg'):TEX y.cx fi k (.Call (.Attribute o name apos) es [] pos) ro sg sg':=by
 simp only [Bool.and_eq_true] at hs
 exact TEX.meth hs.1.1.1 hs.1.1.2 hs.1.2 hs.2 h1 X hno M.get M.find M.fn M.keep h2 hc
theorem len_toks (H:Rdr sg R ws p):CallOk y.cx k (.builtin "len") [.obj R.t] sg (some (.int ws.length)) sg:=by
 have len:((List.range ws.length).map fun i=>D.obj (R.tok i)).length = ws.length:=by simp
 have:=call_len_l (C:=y.cx) (k:=k) H.toks (by rw [len];have:=H.small;unfold sizeLine;omega)
 rw [len] at this
 exact this
theorem fault_x (H:Rdr sg R ws p):CallX y.cx 3 (.ref 391) [.obj R.r,.str s] sg sg:=by
 have hne:=H.ne
 have hsm:=H.small
 obtain ⟨j,hj,hjl⟩:∃j:Nat,(if (ws.length:Int) - 1 < p then (ws.length:Int) - 1 else p) = (j:Nat) ∧ j < ws.length:=by
  split
  ·exact ⟨ws.length - 1,by omega,by omega⟩
  ·exact ⟨p,rfl,by omega⟩
 have HT:=H.tok j _ (List.getElem?_eq_getElem hjl)
 refine CallX.fnN (k:=2) (ro:=[("self",.obj R.r),("what",.str s)]) (sg':=sg) (by rfl) (by rfl) (by rfl) rfl ex0 (b_fault _) List.take_length H.und fun L=>?_
 refine TSX.cons (TX.ifF' (sg1:=sg) (b:=!(!((List.range ws.length).map fun i=>D.obj (R.tok i)).isEmpty)) (TB.not (TB.list ?_ H.toks ?_ fun _ _=>rfl)) ?_ TS.nil) ?_
 ·walk_at "te"
 ·rw [List.length_map,List.length_range];unfold sizeLine;omega
 ·cases ws with
  | nil=>simp at hne
  | cons a b=>simp [List.range_succ_eq_map]
 ·refine TSX.ret (TEX.call rfl rfl (t_GrammarFault rfl) (k_GrammarFault _) (ds:=[.str s,.tup [.int 1,.int (j + 1:Nat)]]) (sg2:=sg) ?_ (fx_call H.und))
  with_reducible apply TEs.cons
  ·rfl
  ·walk_at "te"
  ·with_reducible apply TEs.cons
   ·rfl
   ·refine TE.attrO (o:=_) ?_ HT (at_at _) rfl rfl
    refine TE.sub (sg1:=sg) (sg2:=sg) (d1:=.obj R.t) (d2:=.int j) ?_ ?_ ?_
    ·walk_at "te"
    ·refine TE.callM' rfl (t_min rfl) (sg2:=sg) (ds:=[.int p,.int (ws.length - 1)]) ?_ rfl ?_
     ·with_reducible apply TEs.cons
      ·rfl
      ·walk_at "te"
      ·with_reducible apply TEs.cons
       ·rfl
       ·refine TE.binop (d1:=.int ws.length) (d2:=.int 1) (sg1:=sg) (sg2:=sg) ?_ ?_ op_sub_int
        ·refine TE.callM' rfl (t_len rfl) (ds:=[.obj R.t]) (sg2:=sg) ?_ rfl (len_toks H)
         walk_at "tes"
        ·walk_at "te"
       ·with_reducible exact TEs.nil
     ·rw [←hj]
      exact call_min2
    ·refine sub_list (l:=(List.range ws.length).map fun i=>D.obj (R.tok i)) H.toks (fun _ _=>rfl) (by omega) (by omega) ?_
     have e:((j:Nat):Int).toNat = j:=by omega
     rw [e,List.getElem?_map,List.getElem?_range hjl]
     rfl
   ·with_reducible exact TEs.nil
end
local macro_rules
 | `(tactic| walk_at "op")=>`(tactic| first | with_reducible exact op_notin_tup | with_reducible exact op_in_tup)
section
variable {y:Cy} {sg sg1 sg2 sg':List Cell} {R:RI} {ws:List W} {p a k q:Nat} {args exD:List D} {ev:List Value} {w:W} {s:Str} {fi:FI} {ro ro2:List (Str × D)} {o:Out} {ds:List D} {r:Option D} {ys:List Str}
theorem TS.raise {e:Expr} {pos:Pos} {rest:List Stmt} (h1:TEX y.cx fi k e ro sg sg1):TS y.cx fi k (.Raise (some e) none pos :: rest) ro sg .exc ro sg1:=TS.stop (TX.raise (gf_cls _) h1) rfl
theorem fault_xc (H:Rdr sg R ws p) (hk:3 ≤ k):CallX y.cx k (.ref 391) [.obj R.r,.str s] sg sg:=by
 intro A l th st vs Q E a I RR post
 exact fault_x H A l th st vs Q E (a.mono hk) I RR post
theorem need_t (H:Rdr sg R ws p) (h:signAt ws p s = true):CodeOk y.cx 5 (.ref 485) [.obj R.r,.str s] sg (some .none) (setAt sg R (p + 1)):=by
 refine CodeOk.fnN (k:=4) (o:=.next) (ro:=[("self",.obj R.r),("sign",.str s)]) (sg':=setAt sg R (p + 1)) (by rfl) (by rfl) (by rfl) rfl ex0 (b_need_sign _) rfl setAt_take H.und' rfl ?_
 apply Exists.intro
 intro L
 with_reducible apply TS.ifF
 ·walk_at "tb"
 ·rfl
 ·with_reducible exact TS.nil
theorem need_f (H:Rdr sg R ws p) (h:signAt ws p s = false) (hz:s.length ≤ 1000):CodeOk y.cx 5 (.ref 485) [.obj R.r,.str s] sg none sg:=by
 refine CodeOk.fnN (k:=4) (o:=.exc) (ro:=[("self",.obj R.r),("sign",.str s)]) (sg':=sg) (by rfl) (by rfl) (by rfl) rfl ex0 (b_need_sign _) rfl List.take_length H.und rfl ?_
 apply Exists.intro
 intro L
 with_reducible apply TS.ifT
 ·walk_at "tb"
 ·rfl
 ·with_reducible apply TS.raise
  refine TEX.methO rfl (sg1:=sg) (i:=R.r) ?_ H.inst (m_fault _) rfl (sg2:=sg) (ds:=[.str (s ++ " is asked here")]) ?_ (fault_xc H (by omega))
  ·walk_at "te"
  ·with_reducible apply TEs.cons
   ·rfl
   ·with_reducible apply TE.binop
    ·walk_at "te"
    ·walk_at "te"
    ·exact op_add_str (by unfold sizeLine;have:(Str.length " is asked here") = 14:=rfl;omega)
   ·with_reducible exact TEs.nil
 ·rfl
noncomputable def amongAt (ws:List W) (i:Nat) (ys:List Str):Str:=match ws[i]? with | some w=>if w.kind == "sign" && ys.any (· == w.str) then w.str else "" | none=>""
theorem among_ok (H:Rdr sg R ws p):CodeOk y.cx 2 (.ref 265) [.obj R.r,.tup (ys.map .str)] sg (some (.str (amongAt ws p ys))) sg:=by
 refine CodeOk.fnN (k:=1) (o:=.ret (.str (amongAt ws p ys))) (ro:=[("reader",.obj R.r),("signs",.tup (ys.map .str))]) (sg':=sg) (by rfl) (by rfl) (by rfl) rfl ex0 (b_sign_among _) rfl List.take_length H.und rfl ?_
 cases h:ws[p]? with
 | none=>
  have e:amongAt ws p ys = "":=by unfold amongAt;rw [h]
  rw [e]
  apply Exists.intro
  intro L
  walk_at "set"
  with_reducible apply TS.ifT
  ·with_reducible apply TB.orT
   walk_at "tb"
  ·rfl
  ·walk_at "ret"
  ·rfl
 | some w=>
  have HT:=H.tok _ _ h
  cases e:(w.kind == "sign" && ys.any (· == w.str)) with
  | true=>
   have e2:amongAt ws p ys = w.str:=by unfold amongAt;rw [h];simp only [e,if_true]
   rw [e2]
   apply Exists.intro
   intro L
   walk_at "set"
   with_reducible apply TS.ifF
   ·walk_at "tb"
   ·rw [Bool.and_eq_true] at e
    simp [D.isNone,bne,e.1,e.2]
   ·walk_at "ret"
  | false=>
   have e2:amongAt ws p ys = "":=by unfold amongAt;rw [h];simp only [e];rfl
   rw [e2]
   apply Exists.intro
   intro L
   walk_at "set"
   with_reducible apply TS.ifT
   ·walk_at "tb"
   ·have e:(!(w.kind == "sign") || !(ys.any (· == w.str))) = true:=by rw [←Bool.not_and,e];rfl
    simpa [D.isNone,bne] using e
   ·walk_at "ret"
   ·rfl
end
section
variable {y:Cy} {sg:List Cell} {R:RI} {ws:List W} {p k:Nat} {s:Str}
theorem need_tc (H:Rdr sg R ws p) (h:signAt ws p s = true) (hk:5 ≤ k):CallOk y.cx k (.ref 485) [.obj R.r,.str s] sg (some .none) (setAt sg R (p + 1)):=(need_t H h).up hk
theorem need_fc (H:Rdr sg R ws p) (h:signAt ws p s = false) (hz:s.length ≤ 1000) (hk:5 ≤ k):CallOk y.cx k (.ref 485) [.obj R.r,.str s] sg none sg:=(need_f H h hz).up hk
theorem among_pm (H:Rdr sg R ws p) (hk:2 ≤ k):CallOk y.cx k (.ref 265) [.obj R.r,.tup [.str "+",.str "-"]] sg (some (.str (amongAt ws p ["+","-"]))) sg:=(among_ok (ys:=["+","-"]) H).up hk
theorem among_md (H:Rdr sg R ws p) (hk:2 ≤ k):CallOk y.cx k (.ref 265) [.obj R.r,.tup [.str "*",.str "/"]] sg (some (.str (amongAt ws p ["*","/"]))) sg:=(among_ok (ys:=["*","/"]) H).up hk
theorem among_pw (H:Rdr sg R ws p) (hk:2 ≤ k):CallOk y.cx k (.ref 265) [.obj R.r,.tup [.str "**"]] sg (some (.str (amongAt ws p ["**"]))) sg:=(among_ok (ys:=["**"]) H).up hk
end
section
variable {C:Cx} {fi:FI} {k:Nat} {ro ro2:List (Str × D)} {sg sg1 sg':List Cell} {d1 d2:D} {o:Out}
theorem TS.swap2 {x y:Str} {elts:List Expr} {e1 e2:Expr} {n m:Nat} {tpos vpos pos:Pos} {rest:List Stmt} (h1:TEs C fi k [e1,e2] ro sg (some [d1,d2]) sg1) (hw:swappedStores [.Tuple elts n tpos] (.Tuple [e1,e2] m vpos) fi.env = pure (some [x,y]))
  (hx:fi.scope.names.lookup x = some .local) (hy:fi.scope.names.lookup y = some .local) (hs:swapsWithSole [.Tuple elts n tpos] (.Tuple [e1,e2] m vpos) pos.line fi.env = pure false) (h2:TS C fi k rest (put x d1 (put y d2 ro)) sg1 o ro2 sg'):
  TS C fi k (.Assign [.Tuple elts n tpos] (.Tuple [e1,e2] m vpos) pos :: rest) ro sg o ro2 sg':=TS.cons (TX.swap2 (TE.tup h1 (by show 2 ≤ sizeLine;decide)) hx hy hs hw) h2
end
local macro_rules
 | `(tactic| walk_at "swap")=>`(tactic| ((with_reducible apply TS.swap2);(·walk_at "tes");(·rfl);(·rfl);(·rfl);(·rfl)))
local macro_rules
 | `(tactic| walk_at "call")=>`(tactic| first
  | exact need_tc (by assumption) (by assumption) (by omega)
  | exact need_fc (by assumption) (by assumption) (by decide) (by omega))
section
variable {y:Cy} {sg sg1 sg2 sg':List Cell} {R:RI} {ws:List W} {p a k q:Nat} {args exD:List D} {ev:List Value} {w:W} {s:Str} {fi:FI} {ro ro2:List (Str × D)} {o:Out} {ds:List D} {r:Option D} {ys:List Str}
noncomputable def loneAt (ws:List W) (i:Nat):Bool:=match ws[i]? with
 | none=>false
 | some w=>w.kind == "number" && (match ws[i + 1]? with | none=>true | some b=>b.kind != "sign" || b.str != "**")
theorem b_lone (P:Params):Bnd (theK P) 293 ["reader"] 1 []:=fun S=>len1 fun a=>by kernel_rfl
theorem lone_ok (H:Rdr sg R ws p):CodeOk y.cx 2 (.ref 293) [.obj R.r] sg (some (.bool (loneAt ws p))) sg:=by
 refine CodeOk.fnN (k:=1) (o:=.ret (.bool (loneAt ws p))) (ro:=[("reader",.obj R.r)]) (sg':=sg) (by rfl) (by rfl) (by rfl) rfl ex0 (b_lone _) rfl List.take_length H.und rfl ?_
 cases h:ws[p]? with
 | none=>
  have h2:ws[p + 1]? = none:=by rw [List.getElem?_eq_none_iff] at h ⊢;omega
  have e:loneAt ws p = false:=by unfold loneAt;rw [h]
  rw [e]
  apply Exists.intro
  intro L
  walk_at "swap"
  ·with_reducible apply TS.ifT
   ·with_reducible apply TB.orT
    walk_at "tb"
   ·rfl
   ·walk_at "ret"
   ·rfl
 | some w=>
  have HT:=H.tok _ _ h
  cases hk:(w.kind == "number") with
  | false=>
   have e:loneAt ws p = false:=by unfold loneAt;rw [h];simp only [hk];rfl
   rw [e]
   cases h2:ws[p + 1]? with
   | none=>
    apply Exists.intro
    intro L
    walk_at "swap"
    ·with_reducible apply TS.ifT
     ·walk_at "tb"
     ·simp [D.isNone,bne,hk]
     ·walk_at "ret"
     ·rfl
   | some b=>
    apply Exists.intro
    intro L
    walk_at "swap"
    ·with_reducible apply TS.ifT
     ·walk_at "tb"
     ·simp [D.isNone,bne,hk]
     ·walk_at "ret"
     ·rfl
  | true=>
   cases h2:ws[p + 1]? with
   | none=>
    have e:loneAt ws p = true:=by unfold loneAt;rw [h];simp only [hk,h2];rfl
    rw [e]
    apply Exists.intro
    intro L
    walk_at "swap"
    ·with_reducible apply TS.ifF
     ·walk_at "tb"
     ·simp [D.isNone,bne,hk]
     ·with_reducible apply TS.ret
      with_reducible apply TE.orT
      walk_at "te"
   | some b=>
    have HT2:=H.tok _ _ h2
    have e:loneAt ws p = (false || (b.kind != "sign" || b.str != "**")):=by unfold loneAt;rw [h];simp only [hk,h2];rfl
    rw [e]
    apply Exists.intro
    intro L
    walk_at "swap"
    ·with_reducible apply TS.ifF
     ·walk_at "tb"
     ·simp [D.isNone,bne,hk]
     ·walk_at "ret"
theorem lone_c (H:Rdr sg R ws p) (hk:2 ≤ k):CallOk y.cx k (.ref 293) [.obj R.r] sg (some (.bool (loneAt ws p))) sg:=(lone_ok H).up hk
end
section
variable {C:Cx} {fi:FI} {k:Nat} {ro ro1 ro2 ro3:List (Str × D)} {sg sg1 sg2 sg' sg3:List Cell} {d d1 d2:D} {o o':Out} {b:Bool} {r:Option D}
theorem set_last {α:Type} {l:List α} {a c:α}:(l ++ [a]).set l.length c = l ++ [c]:=by rw [List.set_append_right _ _ (Nat.le_refl _)];simp
theorem get_last {α:Type} {l:List α} {a:α}:(l ++ [a])[l.length]? = some a:=by simp
theorem get_app {α:Type} {l l2:List α} {a:α} {i:Nat} (h:l[i]? = some a):(l ++ l2)[i]? = some a:=by rw [List.getElem?_append_left (List.getElem?_eq_some_iff.mp h).1];exact h
theorem TN.list' {target:Expr} {src i:Nat} {l:List D} (hs:sg[src]? = some (.list l)) (hl:l[i]? = some d):TN C fi k target sg.length ro (sg ++ [.liter src i]) (some d) (sg ++ [.liter src (i + 1)]):=by
 have:=TN.list (C:=C) (fi:=fi) (k:=k) (target:=target) (ro:=ro) (sg:=sg ++ [.liter src i]) (j:=sg.length) get_last (get_app hs) hl
 rwa [set_last] at this
theorem TN.listE' {target:Expr} {src i:Nat} {l:List D} (hs:sg[src]? = some (.list l)) (hl:l[i]? = none):TN C fi k target sg.length ro (sg ++ [.liter src i]) none (sg ++ [.dead]):=by
 have:=TN.listEnd (C:=C) (fi:=fi) (k:=k) (target:=target) (ro:=ro) (sg:=sg ++ [.liter src i]) (j:=sg.length) get_last (get_app hs) hl
 rwa [set_last] at this
theorem TF.stepL {target:Expr} {src i:Nat} {l:List D} {body:List Stmt} (hs:sg[src]? = some (.list l)) (hl:l[i]? = some d) (hT:TA C fi target d ro ro1) (h2:TS C fi k body ro1 (sg ++ [.liter src (i + 1)]) .next ro2 sg2) (h3:TF C fi k target sg.length body ro2 sg2 o ro3 sg'):
  TF C fi k target sg.length body ro (sg ++ [.liter src i]) o ro3 sg':=TF.step (TN.list' hs hl) hT h2 h3
theorem TF.retL {target:Expr} {src i:Nat} {l:List D} {body:List Stmt} (hs:sg[src]? = some (.list l)) (hl:l[i]? = some d) (hT:TA C fi target d ro ro1) (h2:TS C fi k body ro1 (sg ++ [.liter src (i + 1)]) (.ret d2) ro2 sg2):
  TF C fi k target sg.length body ro (sg ++ [.liter src i]) (.ret d2) ro2 sg2:=TF.ret (TN.list' hs hl) hT h2
theorem TF.doneL {target:Expr} {src i:Nat} {l:List D} {body:List Stmt} (hs:sg[src]? = some (.list l)) (hl:l[i]? = none):TF C fi k target sg.length body ro (sg ++ [.liter src i]) .next ro (sg ++ [.dead]):=TF.done (TN.listE' hs hl)
theorem TS.forN {src:Nat} {l:List D} {target iter:Expr} {body rest:List Stmt} {pos:Pos} (h1:TE C fi k iter ro sg (some (.obj src)) sg1) (hs:sg1[src]? = some (.list l)) (hf:∀x,foldedSetIterable iter fi.env x = pure x) (h:TF C fi k target sg1.length body ro (sg1 ++ [.liter src 0]) .next ro2 sg2)
  (h3:TS C fi k rest ro2 sg2 o ro3 sg3):TS C fi k (.For target iter body [] pos :: rest) ro sg o ro3 sg3:=TS.cons (TX.forList h1 hs h hf rfl) h3
theorem TS.forS {src:Nat} {l:List D} {target iter:Expr} {body rest:List Stmt} {pos:Pos} (h1:TE C fi k iter ro sg (some (.obj src)) sg1) (hs:sg1[src]? = some (.list l)) (hf:∀x,foldedSetIterable iter fi.env x = pure x) (h:TF C fi k target sg1.length body ro (sg1 ++ [.liter src 0]) o ro2 sg2)
  (ho:o.fin = true) (hz:o.stops = true):TS C fi k (.For target iter body [] pos :: rest) ro sg o ro2 sg2:=TS.stop' (TX.forList h1 hs h hf ho) hz
theorem TE.ifT' {t b' o:Expr} {pos:Pos} (h:TB C fi k t ro sg (some b) sg1) (hb:b = true) (h2:TE C fi k b' ro sg1 (some d) sg'):TE C fi k (.IfExp t b' o pos) ro sg (some d) sg':=by
 subst hb;exact TE.ifT h h2
theorem TE.ifF' {t b' o:Expr} {pos:Pos} (h:TB C fi k t ro sg (some b) sg1) (hb:b = false) (h2:TE C fi k o ro sg1 (some d) sg'):TE C fi k (.IfExp t b' o pos) ro sg (some d) sg':=by
 subst hb;exact TE.ifF h h2
theorem TS.ifTn {test:Expr} {body orelse rest:List Stmt} {pos:Pos} (h:TB C fi k test ro sg (some b) sg1) (hb:b = true) (h2:TS C fi k body ro sg1 .next ro2 sg2) (h3:TS C fi k rest ro2 sg2 o ro3 sg3):TS C fi k (.If test body orelse pos :: rest) ro sg o ro3 sg3:=
 TS.cons (TX.ifT' h hb h2) h3
theorem TS.ifFn {test:Expr} {body orelse rest:List Stmt} {pos:Pos} (h:TB C fi k test ro sg (some b) sg1) (hb:b = false) (h2:TS C fi k orelse ro sg1 .next ro2 sg2) (h3:TS C fi k rest ro2 sg2 o ro3 sg3):TS C fi k (.If test body orelse pos :: rest) ro sg o ro3 sg3:=
 TS.cons (TX.ifF' h hb h2) h3
theorem TS.whileN {test:Expr} {body rest:List Stmt} {pos:Pos} (h:TW C fi k test body ro sg .next ro2 sg2) (h3:TS C fi k rest ro2 sg2 o ro3 sg3):TS C fi k (.While test body [] pos :: rest) ro sg o ro3 sg3:=TS.cons (TX.while h rfl) h3
theorem TW.done' {test:Expr} {body:List Stmt} (h:TB C fi k test ro sg (some b) sg1) (hb:b = false):TW C fi k test body ro sg .next ro sg1:=by subst hb;exact TW.done h
end
local macro_rules
 | `(tactic| walk_at "swap")=>`(tactic| ((with_reducible apply TS.swap2);(·walk_at "tes");(·rfl);(·rfl);(·rfl);(·rfl)))
local macro_rules
 | `(tactic| walk_at "call")=>`(tactic| first
  | exact need_tc (by assumption) (by assumption) (by omega)
  | exact need_fc (by assumption) (by assumption) (by decide) (by omega))
section
variable {y:Cy} {sg sg1 sg2 sg':List Cell} {R:RI} {ws:List W} {p a k q:Nat} {args exD:List D} {ev:List Value} {w:W} {s:Str} {fi:FI} {ro ro2:List (Str × D)} {o:Out} {ds:List D} {r:Option D} {ys:List Str}
theorem b_is_word (P:Params):Bnd (theK P) 413 ["self","words"] 2 []:=fun S=>len2 fun a b=>by kernel_rfl
theorem b_skip (P:Params):Bnd (theK P) 420 ["self","words"] 2 []:=fun S=>len2 fun a b=>by kernel_rfl
theorem b_one_of (P:Params):Bnd (theK P) 434 ["self","words"] 2 []:=fun S=>len2 fun a b=>by kernel_rfl
structure NoW (s:Str):Prop where
 no:∀w:W,(w.kind == "word" && w.str == s) = false
 c1:(decide (s.length < (" ":Str).length) || decide (Builtin.Str.strKind s < Builtin.Str.strKind " ")) = false
 c3:(Builtin.Str.occurrences s " " 0 s.length (s.length + 1)).isEmpty = true
theorem now_all:NoW "ALL":=⟨fun w=>by cases w <;> decide +kernel,by decide +kernel,by decide +kernel⟩
theorem now_of:NoW "OF":=⟨fun w=>by cases w <;> decide +kernel,by decide +kernel,by decide +kernel⟩
theorem now_in:NoW "IN":=⟨fun w=>by cases w <;> decide +kernel,by decide +kernel,by decide +kernel⟩
theorem is_word_ok (N:NoW s) (H:Rdr sg R ws p):CodeOk y.cx 3 (.ref 413) [.obj R.r,.str s] sg (some (.bool false)) sg:=by
 have H1:Rdr (sg ++ [.list [.str s]]) R ws p:=H.app (by intro c hc;rw [List.mem_singleton] at hc;subst hc;rfl)
 have H2:Rdr ((sg ++ [.list [.str s]]) ++ [.liter sg.length 1]) R ws p:=H1.app (by intro c hc;rw [List.mem_singleton] at hc;subst hc;simp [Cell.under])
 refine CodeOk.fnN (k:=2) (o:=.ret (.bool false)) (ro:=[("self",.obj R.r),("words",.str s)]) (sg':=(sg ++ [.list [.str s]]) ++ [.liter sg.length 1]) (by rfl) (by rfl) (by rfl) rfl ex0 (b_is_word _) rfl (by rw [List.append_assoc,List.take_left]) H.und rfl ?_
 refine ⟨[("self",.obj R.r),("words",.str s),("ahead",.int 0),("word",.str s)],fun L=>?_⟩
 walk_at "set"
 with_reducible apply TS.forS
 ·apply TE.split (y:=s) (z:=" ") (ps:=[s]) (sg1:=sg) (sg2:=sg)
  ·rfl
  ·rfl
  ·rfl
  ·walk_at "te"
  ·walk_at "tes"
  ·exact call_split1 N.c1 (by decide +kernel) N.c3
 ·exact get_last
 ·exact fun _=>rfl
 ·apply TF.retL
  ·exact get_last
  ·rfl
  ·exact TA.name rfl
  ·skip
   cases h:ws[p]? with
   | none=>
    have e:kindAt ws (p + 0) "word" = false:=by unfold kindAt;rw [Nat.add_zero,h]
    with_reducible apply TS.ifT
    ·with_reducible apply TB.orT
     apply TB.not (b:=false)
     with_reducible apply TB.plain
     ·(with_reducible apply TE.methO);(·rfl);(·walk_at "te");(·exact H2.inst);(·walk_at "meth");(·rfl);(·walk_at "tes");(·rw [←e];exact is_kind_c (a:=0) H2 (by omega))
     ·exact fun _ _=>rfl
    ·rfl
    ·exact TS.ret TE.cbool
    ·rfl
   | some w=>
    have HT:=H2.tok _ _ h
    have e:kindAt ws (p + 0) "word" = (w.kind == "word"):=by unfold kindAt;rw [Nat.add_zero,h]
    have hN:=N.no w
    with_reducible apply TS.ifT
    ·with_reducible apply TB.orB
     ·with_reducible apply TB.not
      with_reducible apply TB.plain
      ·(with_reducible apply TE.methO);(·rfl);(·walk_at "te");(·exact H2.inst);(·walk_at "meth");(·rfl);(·walk_at "tes");(·exact is_kind_c (a:=0) H2 (by omega))
      ·exact fun _ _=>rfl
     ·intro _
      with_reducible apply TB.orB
      ·with_reducible apply TB.cmp
       ·(with_reducible apply TE.attrO)
        ·(with_reducible apply TE.methO);(·rfl);(·walk_at "te");(·exact H2.inst);(·walk_at "meth");(·rfl);(·walk_at "tes");(·exact peek_cs (a:=0) H2 h (by omega))
        ·exact HT
        ·walk_at "attr"
        ·rfl
        ·rfl
       ·walk_at "te"
       ·walk_at "op"
       ·rfl
      ·intro _
       with_reducible exact TB.or0
    ·rw [e]
     cases z:(w.kind == "word") with
     | false=>rfl
     | true=>rw [z] at hN;simp only [Bool.true_and] at hN;simp [bne,hN]
    ·exact TS.ret TE.cbool
    ·rfl
 ·rfl
 ·rfl
theorem is_word_c (N:NoW s) (H:Rdr sg R ws p) (hk:3 ≤ k):CallOk y.cx k (.ref 413) [.obj R.r,.str s] sg (some (.bool false)) sg:=(is_word_ok N H).up hk
theorem skip_ok (N:NoW s) (H:Rdr sg R ws p):CodeOk y.cx 4 (.ref 420) [.obj R.r,.str s] sg (some (.bool false)) sg:=by
 refine CodeOk.fnN (k:=3) (o:=.ret (.bool false)) (ro:=[("self",.obj R.r),("words",.str s)]) (sg':=sg) (by rfl) (by rfl) (by rfl) rfl ex0 (b_skip _) rfl List.take_length H.und rfl ?_
 apply Exists.intro
 intro L
 with_reducible apply TS.ifT
 ·with_reducible apply TB.not
  with_reducible apply TB.plain
  ·(with_reducible apply TE.methO);(·rfl);(·walk_at "te");(·exact H.inst);(·walk_at "meth");(·rfl);(·walk_at "tes");(·exact is_word_c N H (by omega))
  ·exact fun _ _=>rfl
 ·rfl
 ·walk_at "ret"
 ·rfl
theorem skip_c (N:NoW s) (H:Rdr sg R ws p) (hk:4 ≤ k):CallOk y.cx k (.ref 420) [.obj R.r,.str s] sg (some (.bool false)) sg:=(skip_ok N H).up hk
theorem one_of_ok (H:Rdr sg R ws p):CodeOk y.cx 5 (.ref 434) [.obj R.r,.str "OF IN"] sg (some (.str "")) sg:=by
 have H1:Rdr (sg ++ [.list [.str "OF",.str "IN"]]) R ws p:=H.app (by intro c hc;rw [List.mem_singleton] at hc;subst hc;rfl)
 have H2:∀j,Rdr ((sg ++ [.list [.str "OF",.str "IN"]]) ++ [.liter sg.length j]) R ws p:=fun j=>H1.app (by intro c hc;rw [List.mem_singleton] at hc;subst hc;simp [Cell.under])
 refine CodeOk.fnN (k:=4) (o:=.ret (.str "")) (ro:=[("self",.obj R.r),("words",.str "OF IN")]) (sg':=(sg ++ [.list [.str "OF",.str "IN"]]) ++ [.dead]) (by rfl) (by rfl) (by rfl) rfl ex0 (b_one_of _) rfl (by rw [List.append_assoc,List.take_left]) H.und rfl ?_
 apply Exists.intro
 intro L
 with_reducible apply TS.forN
 ·apply TE.split (y:="OF IN") (z:=" ") (ps:=["OF","IN"]) (sg1:=sg) (sg2:=sg)
  ·rfl
  ·rfl
  ·rfl
  ·walk_at "te"
  ·walk_at "tes"
  ·exact call_split (by decide +kernel) (by decide +kernel) (by decide +kernel) (by decide +kernel) (by decide +kernel) (by decide +kernel)
 ·exact get_last
 ·exact fun _=>rfl
 ·apply TF.stepL
  ·exact get_last
  ·rfl
  ·exact TA.name rfl
  ·with_reducible apply TS.ifF
   ·with_reducible apply TB.plain
    ·(with_reducible apply TE.methO);(·rfl);(·walk_at "te");(·exact (H2 1).inst);(·walk_at "meth");(·rfl);(·walk_at "tes");(·exact skip_c now_of (H2 1) (by omega))
    ·exact fun _ _=>rfl
   ·rfl
   ·with_reducible exact TS.nil
  ·apply TF.stepL
   ·exact get_last
   ·rfl
   ·exact TA.name rfl
   ·with_reducible apply TS.ifF
    ·with_reducible apply TB.plain
     ·(with_reducible apply TE.methO);(·rfl);(·walk_at "te");(·exact (H2 2).inst);(·walk_at "meth");(·rfl);(·walk_at "tes");(·exact skip_c now_in (H2 2) (by omega))
     ·exact fun _ _=>rfl
    ·rfl
    ·with_reducible exact TS.nil
   ·apply TF.doneL
    ·exact get_last
    ·rfl
 ·exact TS.ret TE.cstr
theorem one_of_c (H:Rdr sg R ws p) (hk:5 ≤ k):CallOk y.cx k (.ref 434) [.obj R.r,.str "OF IN"] sg (some (.str "")) sg:=(one_of_ok H).up hk
end
end
inductive Op where
 | add | sub | mul | div | pow
 deriving DecidableEq
noncomputable def Op.w:Op → W
 | .add=>.plus | .sub=>.minus | .mul=>.star | .div=>.slash | .pow=>.pow
noncomputable def Op.lv:Op → Nat
 | .add=>1 | .sub=>1 | .mul=>2 | .div=>2 | .pow=>4
noncomputable def Op.rl:Op → Nat
 | .add=>2 | .sub=>2 | .mul=>3 | .div=>3 | .pow=>5
inductive Ex where
 | bin (o:Op) (l r:Ex)
 | neg (e:Ex)
 | ref (n:W)
 | num (u:Int) (s:Nat)
 deriving DecidableEq
noncomputable def isName:W → Bool
 | .nA=>true | .nB=>true | .nC=>true | _=>false
noncomputable def isNum:W → Bool
 | .v0=>true | .v5=>true | .v25=>true | .v07=>true | .v2=>true | _=>false
noncomputable def numOf:W → Int × Nat
 | .v5=>(5,0) | .v25=>(25,2) | .v07=>(7,1) | .v2=>(2,0) | _=>(0,0)
noncomputable def tokOf:Nat → Nat → W
 | 5,0=>.v5 | 25,2=>.v25 | 7,1=>.v07 | 2,0=>.v2 | _,_=>.v0
noncomputable def Ex.isNumE:Ex → Bool
 | .num _ _=>true
 | _=>false
noncomputable def Ex.level:Ex → Nat
 | .bin o _ _=>o.lv
 | .neg _=>3
 | .ref _=>5
 | .num u _=>if u < 0 then 3 else 5
noncomputable def Ex.good:Ex → Bool
 | .bin _ l r=>l.good && r.good
 | .neg e=>e.good
 | .ref n=>isName n
 | .num u s=>(u,s) == (0,0) || (u,s) == (5,0) || (u,s) == (25,2) || (u,s) == (-5,0) || (u,s) == (-7,1) || (u,s) == (2,0)
noncomputable def Ex.hgt:Ex → Nat
 | .bin _ l r=>1 + max l.hgt r.hgt
 | .neg e=>1 + e.hgt
 | _=>1
noncomputable def brk (k lv:Nat) (t:List W):List W:=if lv < k then .lp :: (t ++ [.rp]) else t
noncomputable def showW:Ex → List W
 | .bin o l r=>brk o.lv l.level (showW l) ++ o.w :: brk o.rl r.level (showW r)
 | .neg e=>.minus :: (if e.isNumE then .lp :: (showW e ++ [.rp]) else brk 4 e.level (showW e))
 | .ref n=>[n]
 | .num u s=>if u < 0 then [.minus,tokOf u.natAbs s] else [tokOf u.natAbs s]
noncomputable def fullW:Ex → List W
 | .bin o l r=>.lp :: (fullW l ++ o.w :: (fullW r ++ [.rp]))
 | .neg e=>.lp :: .minus :: .lp :: (fullW e ++ [.rp,.rp])
 | .ref n=>[n]
 | .num u s=>if u < 0 then [.lp,.minus,tokOf u.natAbs s,.rp] else [tokOf u.natAbs s]
inductive NT where
 | sum | sumL (x:Ex) | prod | prodL (x:Ex) | fac | pow | powL (x:Ex) | prim
noncomputable def pm:Option W → Bool
 | some .plus=>true | some .minus=>true | _=>false
noncomputable def md:Option W → Bool
 | some .star=>true | some .slash=>true | _=>false
noncomputable def pw:Option W → Bool
 | some .pow=>true | _=>false
noncomputable def bad:Option W → Bool
 | some .star=>true | some .slash=>true | some .pow=>true | some .rp=>true | none=>true | _=>false
noncomputable def loneT:List W → Bool
 | []=>false
 | w :: t=>isNum w && !pw t.head?
inductive P:NT → Nat → List W → Option (Ex × List W) → Prop
 | deep {d:Nat} {t:List W} (h:20 < d):P .sum d t none
 | sum {d:Nat} {t:List W} {x:Ex} {t':List W} {r:Option (Ex × List W)} (h:d ≤ 20) (h1:P .prod d t (some (x,t'))) (h2:P (.sumL x) d t' r):P .sum d t r
 | sumX {d:Nat} {t:List W} (h:d ≤ 20) (h1:P .prod d t none):P .sum d t none
 | sumE {d:Nat} {x:Ex} {t:List W} (h:pm t.head? = false):P (.sumL x) d t (some (x,t))
 | sumS {d:Nat} {x:Ex} {o:Op} {t:List W} {y:Ex} {t':List W} {r:Option (Ex × List W)} (ho:o.lv = 1) (h1:P .prod d t (some (y,t'))) (h2:P (.sumL (.bin o x y)) d t' r):P (.sumL x) d (o.w :: t) r
 | sumSX {d:Nat} {x:Ex} {o:Op} {t:List W} (ho:o.lv = 1) (h1:P .prod d t none):P (.sumL x) d (o.w :: t) none
 | prod {d:Nat} {t:List W} {x:Ex} {t':List W} {r:Option (Ex × List W)} (h1:P .fac d t (some (x,t'))) (h2:P (.prodL x) d t' r):P .prod d t r
 | prodX {d:Nat} {t:List W} (h1:P .fac d t none):P .prod d t none
 | prodE {d:Nat} {x:Ex} {t:List W} (h:md t.head? = false):P (.prodL x) d t (some (x,t))
 | prodS {d:Nat} {x:Ex} {o:Op} {t:List W} {y:Ex} {t':List W} {r:Option (Ex × List W)} (ho:o.lv = 2) (h1:P .fac d t (some (y,t'))) (h2:P (.prodL (.bin o x y)) d t' r):P (.prodL x) d (o.w :: t) r
 | prodSX {d:Nat} {x:Ex} {o:Op} {t:List W} (ho:o.lv = 2) (h1:P .fac d t none):P (.prodL x) d (o.w :: t) none
 | facP {d:Nat} {t:List W} {r:Option (Ex × List W)} (h:P .pow d t r):P .fac d (.plus :: t) r
 | facN {d:Nat} {t:List W} {x:Ex} {t':List W} (hl:loneT t = false) (h:P .pow d t (some (x,t'))):P .fac d (.minus :: t) (some (.neg x,t'))
 | facL {d:Nat} {t:List W} {u:Int} {s:Nat} {t':List W} (hl:loneT t = true) (h:P .pow d t (some (.num u s,t'))):P .fac d (.minus :: t) (some (.num (-u) s,t'))
 | facX {d:Nat} {t:List W} (h:P .pow d t none):P .fac d (.minus :: t) none
 | facO {d:Nat} {t:List W} {r:Option (Ex × List W)} (h0:pm t.head? = false) (h:P .pow d t r):P .fac d t r
 | pow {d:Nat} {t:List W} {x:Ex} {t':List W} {r:Option (Ex × List W)} (h1:P .prim d t (some (x,t'))) (h2:P (.powL x) d t' r):P .pow d t r
 | powX {d:Nat} {t:List W} (h1:P .prim d t none):P .pow d t none
 | powE {d:Nat} {x:Ex} {t:List W} (h:pw t.head? = false):P (.powL x) d t (some (x,t))
 | powS {d:Nat} {x:Ex} {t:List W} {y:Ex} {t':List W} {r:Option (Ex × List W)} (h1:P .prim d t (some (y,t'))) (h2:P (.powL (.bin .pow x y)) d t' r):P (.powL x) d (.pow :: t) r
 | powSX {d:Nat} {x:Ex} {t:List W} (h1:P .prim d t none):P (.powL x) d (.pow :: t) none
 | primX {d:Nat} {t:List W} (h:pm t.head? = true):P .prim d t none
 | primB {d:Nat} {t:List W} {x:Ex} {t':List W} (h:P .sum (d + 1) t (some (x,.rp :: t'))):P .prim d (.lp :: t) (some (x,t'))
 | primBX {d:Nat} {t:List W} (h:P .sum (d + 1) t none):P .prim d (.lp :: t) none
 | primBY {d:Nat} {t:List W} {x:Ex} {t':List W} (h:P .sum (d + 1) t (some (x,t'))) (h2:t'.head? ≠ some .rp):P .prim d (.lp :: t) none
 | num {d:Nat} {w:W} {t:List W} (h:isNum w = true):P .prim d (w :: t) (some (.num (numOf w).1 (numOf w).2,t))
 | ref {d:Nat} {w:W} {t:List W} (h:isName w = true) (h2:t.head? ≠ some .lp):P .prim d (w :: t) (some (.ref w,t))
 | bad {d:Nat} {t:List W} (h:bad t.head? = true):P .prim d t none
noncomputable def okT:List W → Bool
 | []=>true
 | a :: t=>!(isName a && t.head? == some .lp) && okT t
theorem okT_sfx:∀{t t':List W},okT t = true → t' <:+ t → okT t' = true
 | [],t',h,s=>by rw [List.suffix_nil] at s;subst s;rfl
 | a :: t,t',h,s=>by
  rw [List.suffix_cons_iff] at s
  rcases s with rfl | s
  ·exact h
  ·simp only [okT,Bool.and_eq_true] at h
   exact okT_sfx h.2 s
noncomputable def Sh (t:List W) (r:Option (Ex × List W)):Prop:=∀x t',r = some (x,t') → t' <:+ t ∧ t'.length < t.length
noncomputable def Sl (t:List W) (r:Option (Ex × List W)):Prop:=∀x t',r = some (x,t') → t' <:+ t
theorem Sh.none {t:List W}:Sh t none:=fun _ _ h=>by cases h
theorem Sl.none {t:List W}:Sl t none:=fun _ _ h=>by cases h
theorem Sh.sl {t:List W} {r:Option (Ex × List W)} (h:Sh t r):Sl t r:=fun x t' e=>(h x t' e).1
theorem Sh.cons {w:W} {t:List W} {r:Option (Ex × List W)} (h:Sl t r):Sh (w :: t) r:=fun x t' e=>by
 have:=h x t' e
 refine ⟨this.trans (List.suffix_cons _ _),?_⟩
 have:=this.length_le
 simp;omega
theorem Sh.then {t t1:List W} {x:Ex} {r:Option (Ex × List W)} (h:Sh t (some (x,t1))) (h2:Sl t1 r):Sh t r:=fun y t' e=>by
 have a:=h _ _ rfl
 have b:=h2 y t' e
 refine ⟨b.trans a.1,?_⟩
 have:=b.length_le
 omega
theorem Sl.then {t t1:List W} {x:Ex} {r:Option (Ex × List W)} (h:Sl t (some (x,t1))) (h2:Sl t1 r):Sl t r:=fun y t' e=>(h2 y t' e).trans (h _ _ rfl)
structure Tot (t:List W):Prop where
 prim:∀d,∃r,P .prim d t r ∧ Sh t r
 powL:∀d x,∃r,P (.powL x) d t r ∧ Sl t r
 pow:∀d,∃r,P .pow d t r ∧ Sh t r
 fac:∀d,∃r,P .fac d t r ∧ Sh t r
 prodL:∀d x,∃r,P (.prodL x) d t r ∧ Sl t r
 prod:∀d,∃r,P .prod d t r ∧ Sh t r
 sumL:∀d x,∃r,P (.sumL x) d t r ∧ Sl t r
 sum:∀d,∃r,P .sum d t r ∧ Sh t r
theorem tot_prim {t:List W} (ok:okT t = true) (tl:∀{w:W} {t':List W},t = w :: t' → Tot t'):∀d,∃r,P .prim d t r ∧ Sh t r:=by
 intro d
 cases t with
 | nil=>exact ⟨_,P.bad rfl,.none⟩
 | cons w t'=>
  have br:∃r,P .prim d (.lp :: t') r ∧ Sh (.lp :: t') r:=by
   obtain ⟨r,hr,sr⟩:=(tl rfl).sum (d + 1)
   cases r with
   | none=>exact ⟨_,P.primBX hr,.none⟩
   | some q=>
    obtain ⟨x,t1⟩:=q
    by_cases hz:t1.head? = some .rp
    ·cases t1 with
     | nil=>cases hz
     | cons a t2=>
      cases hz
      refine ⟨_,P.primB hr,?_⟩
      have:=sr _ _ rfl
      intro y t3 e
      cases e
      refine ⟨(List.suffix_cons _ _).trans (this.1.trans (List.suffix_cons _ _)),?_⟩
      have:=this.2
      simp at this ⊢;omega
    ·exact ⟨_,P.primBY hr hz,.none⟩
  have nm:∀w,isName w = true → okT (w :: t') = true → ∃r,P .prim d (w :: t') r ∧ Sh (w :: t') r:=fun w hw ok=>by
   refine ⟨_,P.ref hw ?_,Sh.cons fun y t1 e=>by cases e;exact List.suffix_refl _⟩
   intro z
   simp [okT,hw,z] at ok
  have nu:∀w,isNum w = true → ∃r,P .prim d (w :: t') r ∧ Sh (w :: t') r:=fun w hw=>⟨_,P.num hw,Sh.cons fun y t1 e=>by cases e;exact List.suffix_refl _⟩
  cases w <;> first
   | exact nu _ rfl
   | exact nm _ rfl ok
   | exact br
   | exact ⟨_,P.primX rfl,.none⟩
   | exact ⟨_,P.bad rfl,.none⟩
theorem tot_powL {t:List W} (sub:∀{t':List W},t' <:+ t → t'.length < t.length → Tot t') (tl:∀{w:W} {t':List W},t = w :: t' → Tot t'):∀d x,∃r,P (.powL x) d t r ∧ Sl t r:=by
 intro d x
 cases hp:pw t.head? with
 | false=>exact ⟨_,P.powE hp,fun y t' e=>by cases e;exact List.suffix_refl _⟩
 | true=>
  cases t with
  | nil=>cases hp
  | cons w t'=>
   have:w = .pow:=by cases w <;> first | rfl | cases hp
   subst this
   obtain ⟨r,hr,sr⟩:=(tl rfl).prim d
   cases r with
   | none=>exact ⟨_,P.powSX hr,.none⟩
   | some q=>
    obtain ⟨y,t1⟩:=q
    have:=sr _ _ rfl
    obtain ⟨r2,hr2,sr2⟩:=(sub (this.1.trans (List.suffix_cons _ _)) (by have:=this.2;simp;omega)).powL d (.bin .pow x y)
    exact ⟨_,P.powS hr hr2,(Sh.cons (sr.sl.then sr2)).sl⟩
theorem tot_pow {t:List W} (sub:∀{t':List W},t' <:+ t → t'.length < t.length → Tot t') (prim:∀d,∃r,P .prim d t r ∧ Sh t r):∀d,∃r,P .pow d t r ∧ Sh t r:=by
 intro d
 obtain ⟨r,hr,sr⟩:=prim d
 cases r with
 | none=>exact ⟨_,P.powX hr,.none⟩
 | some q=>
  obtain ⟨y,t1⟩:=q
  have:=sr _ _ rfl
  obtain ⟨r2,hr2,sr2⟩:=(sub this.1 this.2).powL d y
  exact ⟨_,P.pow hr hr2,sr.then sr2⟩
theorem tot_fac {t:List W} (tl:∀{w:W} {t':List W},t = w :: t' → Tot t') (pow:∀d,∃r,P .pow d t r ∧ Sh t r):∀d,∃r,P .fac d t r ∧ Sh t r:=by
 intro d
 cases hp:pm t.head? with
 | false=>
  obtain ⟨r,hr,sr⟩:=pow d
  exact ⟨_,P.facO hp hr,sr⟩
 | true=>
  cases t with
  | nil=>cases hp
  | cons w t'=>
   obtain ⟨r,hr,sr⟩:=(tl rfl).pow d
   have:w = .plus ∨ w = .minus:=by cases w <;> first | exact .inl rfl | exact .inr rfl | cases hp
   rcases this with rfl | rfl
   ·exact ⟨_,P.facP hr,Sh.cons sr.sl⟩
   ·cases hl:loneT t' with
    | false=>
     cases r with
     | none=>exact ⟨_,P.facX hr,.none⟩
     | some q=>
      obtain ⟨y,t1⟩:=q
      exact ⟨_,P.facN hl hr,Sh.cons fun z t2 e=>by cases e;exact sr.sl _ _ rfl⟩
    | true=>
     cases t' with
     | nil=>cases hl
     | cons a t2=>
      have hl':=hl
      simp only [loneT,Bool.and_eq_true,Bool.not_eq_true'] at hl'
      exact ⟨_,P.facL hl (P.pow (P.num hl'.1) (P.powE hl'.2)),Sh.cons fun z t3 e=>by cases e;exact List.suffix_cons _ _⟩
theorem tot_prodL {t:List W} (sub:∀{t':List W},t' <:+ t → t'.length < t.length → Tot t') (tl:∀{w:W} {t':List W},t = w :: t' → Tot t'):∀d x,∃r,P (.prodL x) d t r ∧ Sl t r:=by
 intro d x
 cases hp:md t.head? with
 | false=>exact ⟨_,P.prodE hp,fun y t' e=>by cases e;exact List.suffix_refl _⟩
 | true=>
  cases t with
  | nil=>cases hp
  | cons w t'=>
   obtain ⟨o,rfl,ho⟩:∃o:Op,w = o.w ∧ o.lv = 2:=by cases w <;> first | exact ⟨.mul,rfl,rfl⟩ | exact ⟨.div,rfl,rfl⟩ | cases hp
   obtain ⟨r,hr,sr⟩:=(tl rfl).fac d
   cases r with
   | none=>exact ⟨_,P.prodSX ho hr,.none⟩
   | some q=>
    obtain ⟨y,t1⟩:=q
    have:=sr _ _ rfl
    obtain ⟨r2,hr2,sr2⟩:=(sub (this.1.trans (List.suffix_cons _ _)) (by have:=this.2;simp;omega)).prodL d (.bin o x y)
    exact ⟨_,P.prodS ho hr hr2,(Sh.cons (sr.sl.then sr2)).sl⟩
theorem tot_prod {t:List W} (sub:∀{t':List W},t' <:+ t → t'.length < t.length → Tot t') (fac:∀d,∃r,P .fac d t r ∧ Sh t r):∀d,∃r,P .prod d t r ∧ Sh t r:=by
 intro d
 obtain ⟨r,hr,sr⟩:=fac d
 cases r with
 | none=>exact ⟨_,P.prodX hr,.none⟩
 | some q=>
  obtain ⟨y,t1⟩:=q
  have:=sr _ _ rfl
  obtain ⟨r2,hr2,sr2⟩:=(sub this.1 this.2).prodL d y
  exact ⟨_,P.prod hr hr2,sr.then sr2⟩
theorem tot_sumL {t:List W} (sub:∀{t':List W},t' <:+ t → t'.length < t.length → Tot t') (tl:∀{w:W} {t':List W},t = w :: t' → Tot t'):∀d x,∃r,P (.sumL x) d t r ∧ Sl t r:=by
 intro d x
 cases hp:pm t.head? with
 | false=>exact ⟨_,P.sumE hp,fun y t' e=>by cases e;exact List.suffix_refl _⟩
 | true=>
  cases t with
  | nil=>cases hp
  | cons w t'=>
   obtain ⟨o,rfl,ho⟩:∃o:Op,w = o.w ∧ o.lv = 1:=by cases w <;> first | exact ⟨.add,rfl,rfl⟩ | exact ⟨.sub,rfl,rfl⟩ | cases hp
   obtain ⟨r,hr,sr⟩:=(tl rfl).prod d
   cases r with
   | none=>exact ⟨_,P.sumSX ho hr,.none⟩
   | some q=>
    obtain ⟨y,t1⟩:=q
    have:=sr _ _ rfl
    obtain ⟨r2,hr2,sr2⟩:=(sub (this.1.trans (List.suffix_cons _ _)) (by have:=this.2;simp;omega)).sumL d (.bin o x y)
    exact ⟨_,P.sumS ho hr hr2,(Sh.cons (sr.sl.then sr2)).sl⟩
theorem tot_sum {t:List W} (sub:∀{t':List W},t' <:+ t → t'.length < t.length → Tot t') (prod:∀d,∃r,P .prod d t r ∧ Sh t r):∀d,∃r,P .sum d t r ∧ Sh t r:=by
 intro d
 by_cases hd:20 < d
 ·exact ⟨_,P.deep hd,.none⟩
 ·obtain ⟨r,hr,sr⟩:=prod d
  cases r with
  | none=>exact ⟨_,P.sumX (by omega) hr,.none⟩
  | some q=>
   obtain ⟨y,t1⟩:=q
   have:=sr _ _ rfl
   obtain ⟨r2,hr2,sr2⟩:=(sub this.1 this.2).sumL d y
   exact ⟨_,P.sum (by omega) hr hr2,sr.then sr2⟩
theorem tot:∀(n:Nat) (t:List W),t.length ≤ n → okT t = true → Tot t:=by
 intro n
 induction n with
 | zero=>
  intro t h _
  have:t = []:=List.eq_nil_of_length_eq_zero (by omega)
  subst this
  have p:∀d,P .prim d [] none:=fun d=>P.bad rfl
  have q:∀d,P .pow d [] none:=fun d=>P.powX (p d)
  have f:∀d,P .fac d [] none:=fun d=>P.facO rfl (q d)
  have g:∀d,P .prod d [] none:=fun d=>P.prodX (f d)
  refine ⟨fun d=>⟨_,p d,.none⟩,fun d x=>⟨_,P.powE rfl,fun y t' e=>by cases e;exact List.suffix_refl _⟩,fun d=>⟨_,q d,.none⟩,fun d=>⟨_,f d,.none⟩,fun d x=>⟨_,P.prodE rfl,fun y t' e=>by cases e;exact List.suffix_refl _⟩,fun d=>⟨_,g d,.none⟩,fun d x=>⟨_,P.sumE rfl,fun y t' e=>by cases e;exact List.suffix_refl _⟩,fun d=>?_⟩
  by_cases hd:20 < d
  ·exact ⟨_,P.deep hd,.none⟩
  ·exact ⟨_,P.sumX (by omega) (g d),.none⟩
 | succ n ih=>
  intro t h ok
  have sub:∀{t':List W},t' <:+ t → t'.length < t.length → Tot t':=fun s l=>ih _ (by omega) (okT_sfx ok s)
  have tl:∀{w:W} {t':List W},t = w :: t' → Tot t':=fun e=>sub (by rw [e];exact List.suffix_cons _ _) (by rw [e];simp)
  have prim:=tot_prim ok tl
  have pow:=tot_pow sub prim
  have fac:=tot_fac tl pow
  have prod:=tot_prod sub fac
  exact ⟨prim,tot_powL sub tl,pow,fac,tot_prodL sub tl,prod,tot_sumL sub tl,tot_sum sub prod⟩
noncomputable abbrev cnt (t:List W):Nat:=t.count .lp
noncomputable def need:Ex → Nat
 | .bin o l r=>(if l.level < o.lv then 1 + need l else need l) + (if r.level < o.rl then 1 + need r else need r)
 | .neg e=>if e.isNumE then 1 + need e else if e.level < 4 then 1 + need e else need e
 | _=>0
noncomputable def nd (k:Nat) (x:Ex):Nat:=if x.level < k then 1 + need x else need x
theorem need_bin {o:Op} {l r:Ex}:need (.bin o l r) = nd o.lv l + nd o.rl r:=rfl
theorem nd_mono {k k':Nat} {x:Ex} (h:k ≤ k'):nd k x ≤ nd k' x:=by unfold nd;split <;> split <;> omega
theorem nd_le {k:Nat} {x:Ex}:nd k x ≤ 1 + need x:=by unfold nd;split <;> omega
theorem nd_own {k:Nat} {x:Ex} (h:k ≤ x.level):nd k x = need x:=by unfold nd;rw [if_neg (by omega)]
noncomputable def CG:NT → List W → Ex → List W → Prop
 | .sum,t,x,t'=>need x + cnt t' ≤ cnt t
 | .sumL y,t,x,t'=>need x + cnt t' ≤ cnt t + need y
 | .prod,t,x,t'=>nd 2 x + cnt t' ≤ cnt t
 | .prodL y,t,x,t'=>nd 2 x + cnt t' ≤ cnt t + nd 2 y
 | .fac,t,x,t'=>nd 3 x + cnt t' ≤ cnt t
 | .pow,t,x,t'=>nd 4 x + cnt t' ≤ cnt t ∧ (x.isNumE = true → loneT t = true ∨ 1 + cnt t' ≤ cnt t)
 | .powL y,t,x,t'=>nd 4 x + cnt t' ≤ cnt t + nd 4 y ∧ (x.isNumE = true → x = y ∧ t = t' ∧ pw t.head? = false)
 | .prim,t,x,t'=>nd 5 x + cnt t' ≤ cnt t ∧ (x.isNumE = true → (∃w,t = w :: t' ∧ isNum w = true) ∨ 1 + cnt t' ≤ cnt t)
theorem cnt_cons {w:W} {t:List W} (h:w ≠ .lp):cnt (w :: t) = cnt t:=List.count_cons_of_ne h
theorem cnt_lp {t:List W}:cnt (.lp :: t) = cnt t + 1:=List.count_cons_self
theorem op_w {o:Op}:o.w ≠ .lp:=by cases o <;> decide
theorem level_pos {x:Ex}:1 ≤ x.level:=by
 cases x with
 | bin o=>cases o <;> simp [Ex.level,Op.lv]
 | neg=>simp [Ex.level]
 | ref=>simp [Ex.level]
 | num u s=>simp only [Ex.level];split <;> omega
theorem lv1 {o:Op} (h:o.lv = 1):o.rl = 2:=by cases o <;> first | rfl | cases h
theorem lv2 {o:Op} (h:o.lv = 2):o.rl = 3:=by cases o <;> first | rfl | cases h
theorem counted {n:NT} {d:Nat} {t:List W} {r:Option (Ex × List W)} (h:P n d t r):∀x t',r = some (x,t') → CG n t x t':=by
 induction h with
 | deep=>intro _ _ e;cases e
 | sumX=>intro _ _ e;cases e
 | sumSX=>intro _ _ e;cases e
 | prodX=>intro _ _ e;cases e
 | prodSX=>intro _ _ e;cases e
 | facX=>intro _ _ e;cases e
 | powX=>intro _ _ e;cases e
 | powSX=>intro _ _ e;cases e
 | primX=>intro _ _ e;cases e
 | primBX=>intro _ _ e;cases e
 | primBY=>intro _ _ e;cases e
 | bad=>intro _ _ e;cases e
 | sum h h1 h2 i1 i2=>
  intro x t' e
  have a:=i1 _ _ rfl
  have b:=i2 _ _ e
  simp only [CG] at a b ⊢
  rename_i x0 _ _
  have:need x0 ≤ nd 2 x0:=by unfold nd;split <;> omega
  omega
 | sumE h=>intro x t' e;cases e;simp only [CG];omega
 | sumS ho h1 h2 i1 i2=>
  intro x t' e
  have a:=i1 _ _ rfl
  have b:=i2 _ _ e
  simp only [CG,need_bin,ho,lv1 ho,cnt_cons op_w] at a b ⊢
  rename_i x0 _ _ _ _ _
  have:nd 1 x0 = need x0:=nd_own level_pos
  omega
 | prod h1 h2 i1 i2=>
  intro x t' e
  have a:=i1 _ _ rfl
  have b:=i2 _ _ e
  simp only [CG] at a b ⊢
  rename_i x0 _ _
  have:nd 2 x0 ≤ nd 3 x0:=nd_mono (by decide)
  omega
 | prodE h=>intro x t' e;cases e;simp only [CG];omega
 | prodS ho h1 h2 i1 i2=>
  intro x t' e
  have a:=i1 _ _ rfl
  have b:=i2 _ _ e
  rename_i x0 o _ y0 _ _
  have:nd 2 (.bin o x0 y0) = nd 2 x0 + nd 3 y0:=by rw [nd_own (by simp only [Ex.level];omega),need_bin,ho,lv2 ho]
  simp only [CG,this,cnt_cons op_w] at a b ⊢
  omega
 | facP h i=>
  intro x t' e
  have a:=i _ _ e
  simp only [CG,cnt_cons (show W.plus ≠ .lp by decide)] at a ⊢
  have:nd 3 x ≤ nd 4 x:=nd_mono (by decide)
  omega
 | @facN _ _ x0 _ hl h i=>
  intro x t' e
  cases e
  have a:=i _ _ rfl
  simp only [CG,cnt_cons (show W.minus ≠ .lp by decide)] at a ⊢
  rw [nd_own (by simp [Ex.level])]
  simp only [need]
  split
  ·rename_i hn
   rcases a.2 hn with z | z
   ·rw [hl] at z;cases z
   ·have:need x0 = 0:=by cases x0 <;> first | rfl | cases hn
    omega
  ·exact a.1
 | facL hl h i=>
  intro x t' e
  cases e
  have a:=i _ _ rfl
  simp only [CG,cnt_cons (show W.minus ≠ .lp by decide)] at a ⊢
  have:∀u s,nd 3 (.num u s) = 0:=fun u s=>by
   have hl:¬ (Ex.num u s).level < 3:=by simp only [Ex.level];split <;> omega
   unfold nd
   rw [if_neg hl]
   rfl
  rw [this]
  omega
 | facO h0 h i=>
  intro x t' e
  have a:=i _ _ e
  simp only [CG] at a ⊢
  have:nd 3 x ≤ nd 4 x:=nd_mono (by decide)
  omega
 | pow h1 h2 i1 i2=>
  intro x t' e
  have a:=i1 _ _ rfl
  have b:=i2 _ _ e
  simp only [CG] at a b ⊢
  rename_i x0 _ _
  have:nd 4 x0 ≤ nd 5 x0:=nd_mono (by decide)
  refine ⟨by omega,fun hn=>?_⟩
  obtain ⟨rfl,rfl,hp⟩:=b.2 hn
  rcases a.2 hn with ⟨w,rfl,hw⟩ | z
  ·left;simp [loneT,hw,hp]
  ·right;exact z
 | powE h=>intro x t' e;cases e;simp only [CG];exact ⟨by omega,fun _=>by simpa using h⟩
 | powS h1 h2 i1 i2=>
  intro x t' e
  have a:=i1 _ _ rfl
  have b:=i2 _ _ e
  rename_i x0 _ y0 _ _
  have:nd 4 (.bin .pow x0 y0) = nd 4 x0 + nd 5 y0:=nd_own (Nat.le_refl _)
  simp only [CG,this,cnt_cons (show W.pow ≠ .lp by decide)] at a b ⊢
  refine ⟨by omega,fun hn=>?_⟩
  obtain ⟨rfl,_⟩:=b.2 hn
  cases hn
 | @primB _ _ x0 _ h i=>
  intro x t' e
  cases e
  have a:=i _ _ rfl
  simp only [CG,cnt_lp,cnt_cons (show W.rp ≠ .lp by decide)] at a ⊢
  have:nd 5 x0 ≤ 1 + need x0:=nd_le
  exact ⟨by omega,fun _=>.inr (by omega)⟩
 | @num _ w _ h=>
  intro x t' e
  cases e
  have hw:w ≠ .lp:=by rintro rfl;cases h
  simp only [CG,cnt_cons hw]
  refine ⟨?_,fun _=>.inl ⟨w,rfl,h⟩⟩
  have:nd 5 (.num (numOf w).1 (numOf w).2) = 0:=by cases w <;> first | rfl | cases h
  omega
 | @ref _ w _ h h2=>
  intro x t' e
  cases e
  have hw:w ≠ .lp:=by rintro rfl;cases h
  simp only [CG,cnt_cons hw]
  refine ⟨?_,fun z=>by cases z⟩
  have:nd 5 (.ref w) = 0:=by rfl
  omega
theorem tokOf_lp {u s:Nat}:tokOf u s ≠ .lp:=by unfold tokOf;split <;> decide
theorem cnt_app {a b:List W}:cnt (a ++ b) = cnt a + cnt b:=List.count_append
theorem cnt_brk {k lv:Nat} {t:List W}:cnt (brk k lv t) = if lv < k then 1 + cnt t else cnt t:=by
 unfold brk
 split
 ·rw [cnt_lp,cnt_app];have:cnt [W.rp] = 0:=by decide
  omega
 ·rfl
theorem cnt_show:∀{x:Ex},x.good = true → cnt (showW x) = need x
 | .bin o l r,h=>by
  simp only [Ex.good,Bool.and_eq_true] at h
  simp only [showW,need,cnt_app,cnt_cons op_w,cnt_brk,cnt_show h.1,cnt_show h.2]
 | .neg e,h=>by
  simp only [Ex.good] at h
  simp only [showW,need,cnt_cons (show W.minus ≠ .lp by decide)]
  have:cnt [W.rp] = 0:=by decide
  split
  ·rw [cnt_lp,cnt_app,cnt_show h];omega
  ·rw [cnt_brk,cnt_show h]
 | .ref n,h=>by
  have hn:n ≠ .lp:=by rintro rfl;cases h
  simp only [showW,need,cnt_cons hn];rfl
 | .num u s,_=>by
  simp only [showW,need]
  split
  ·rw [cnt_cons (by decide),cnt_cons tokOf_lp];rfl
  ·rw [cnt_cons tokOf_lp];rfl
structure Bk (x:Ex) (d:Nat):Prop where
 s1:∀t r,pw t.head? = false → md t.head? = false → t.head? ≠ some .lp → P (.sumL x) d t r → P .sum d (showW x ++ t) r
 s2:2 ≤ x.level → ∀t r,pw t.head? = false → t.head? ≠ some .lp → P (.prodL x) d t r → P .prod d (showW x ++ t) r
 s3:3 ≤ x.level → ∀t,pw t.head? = false → t.head? ≠ some .lp → P .fac d (showW x ++ t) (some (x,t))
 s4:4 ≤ x.level → ∀t r,t.head? ≠ some .lp → P (.powL x) d t r → P .pow d (showW x ++ t) r
 s5:5 ≤ x.level → ∀t,t.head? ≠ some .lp → P .prim d (showW x ++ t) (some (x,t))
theorem Bk.up2 {x:Ex} {d:Nat} (hd:d ≤ 20) (hl:x.level < 3)
  (s2:∀t r,pw t.head? = false → t.head? ≠ some .lp → P (.prodL x) d t r → P .prod d (showW x ++ t) r):Bk x d:=
 ⟨fun t r a b c h=>.sum hd (s2 t _ a c (.prodE b)) h,fun _=>s2,fun h=>by omega,fun h=>by omega,fun h=>by omega⟩
theorem Bk.up3 {x:Ex} {d:Nat} (hd:d ≤ 20) (hl:x.level < 4) (s3:∀t,pw t.head? = false → t.head? ≠ some .lp → P .fac d (showW x ++ t) (some (x,t))):Bk x d:=
 have s2:=fun (t:List W) (r:Option (Ex × List W)) (a:pw t.head? = false) (c:t.head? ≠ some .lp) (h:P (.prodL x) d t r)=>P.prod (s3 t a c) h
 ⟨fun t r a b c h=>.sum hd (s2 t _ a c (.prodE b)) h,fun _=>s2,fun _=>s3,fun h=>by omega,fun h=>by omega⟩
theorem Bk.up4 {x:Ex} {d:Nat} (hd:d ≤ 20) (hl:x.level < 5) (hp:∀t,pm (showW x ++ t).head? = false)
  (s4:∀t r,t.head? ≠ some .lp → P (.powL x) d t r → P .pow d (showW x ++ t) r):Bk x d:=
 have s3:=fun (t:List W) (a:pw t.head? = false) (c:t.head? ≠ some .lp)=>P.facO (hp t) (s4 t _ c (.powE a))
 have s2:=fun (t:List W) (r:Option (Ex × List W)) (a:pw t.head? = false) (c:t.head? ≠ some .lp) (h:P (.prodL x) d t r)=>P.prod (s3 t a c) h
 ⟨fun t r a b c h=>.sum hd (s2 t _ a c (.prodE b)) h,fun _=>s2,fun _=>s3,fun _=>s4,fun h=>by omega⟩
theorem Bk.up5 {x:Ex} {d:Nat} (hd:d ≤ 20) (hp:∀t,pm (showW x ++ t).head? = false)
  (s5:∀t,t.head? ≠ some .lp → P .prim d (showW x ++ t) (some (x,t))):Bk x d:=
 have s4:=fun (t:List W) (r:Option (Ex × List W)) (c:t.head? ≠ some .lp) (h:P (.powL x) d t r)=>P.pow (s5 t c) h
 have s3:=fun (t:List W) (a:pw t.head? = false) (c:t.head? ≠ some .lp)=>P.facO (hp t) (s4 t _ c (.powE a))
 have s2:=fun (t:List W) (r:Option (Ex × List W)) (a:pw t.head? = false) (c:t.head? ≠ some .lp) (h:P (.prodL x) d t r)=>P.prod (s3 t a c) h
 ⟨fun t r a b c h=>.sum hd (s2 t _ a c (.prodE b)) h,fun _=>s2,fun _=>s3,fun _=>s4,fun _=>s5⟩
section
variable {x:Ex} {d:Nat}
theorem Bk.prim (b:Bk x (d + 1)) (t:List W):P .prim d (.lp :: (showW x ++ [.rp]) ++ t) (some (x,t)):=by
 simp only [List.cons_append,List.append_assoc,List.nil_append]
 exact .primB (b.s1 _ _ rfl rfl (by simp) (.sumE rfl))
theorem brk_lt {k lv:Nat} {s:List W} (h:lv < k):brk k lv s = .lp :: (s ++ [.rp]):=if_pos h
theorem brk_ge {k lv:Nat} {s:List W} (h:¬ lv < k):brk k lv s = s:=if_neg h
theorem Bk.c5 (b:Bk x d) (b':Bk x (d + 1)) (t:List W) (c:t.head? ≠ some .lp):P .prim d (brk 5 x.level (showW x) ++ t) (some (x,t)):=by
 by_cases h:x.level < 5
 ·rw [brk_lt h];exact b'.prim t
 ·rw [brk_ge h];exact b.s5 (by omega) t c
theorem Bk.c4 (b:Bk x d) (b':Bk x (d + 1)) (t:List W) (r:Option (Ex × List W)) (c:t.head? ≠ some .lp) (z:P (.powL x) d t r):P .pow d (brk 4 x.level (showW x) ++ t) r:=by
 by_cases h:x.level < 4
 ·rw [brk_lt h];exact .pow (b'.prim t) z
 ·rw [brk_ge h];exact b.s4 (by omega) t r c z
theorem Bk.c3 (b:Bk x d) (b':Bk x (d + 1)) (t:List W) (a:pw t.head? = false) (c:t.head? ≠ some .lp):P .fac d (brk 3 x.level (showW x) ++ t) (some (x,t)):=by
 by_cases h:x.level < 3
 ·rw [brk_lt h];exact .facO rfl (.pow (b'.prim t) (.powE a))
 ·rw [brk_ge h];exact b.s3 (by omega) t a c
theorem Bk.c2 (b:Bk x d) (b':Bk x (d + 1)) (t:List W) (r:Option (Ex × List W)) (a:pw t.head? = false) (c:t.head? ≠ some .lp) (z:P (.prodL x) d t r):P .prod d (brk 2 x.level (showW x) ++ t) r:=by
 by_cases h:x.level < 2
 ·rw [brk_lt h];exact .prod (.facO rfl (.pow (b'.prim t) (.powE a))) z
 ·rw [brk_ge h];exact b.s2 (by omega) t r a c z
theorem Bk.c1 (b:Bk x d) (t:List W) (r:Option (Ex × List W)) (a:pw t.head? = false) (a':md t.head? = false) (c:t.head? ≠ some .lp) (z:P (.sumL x) d t r):P .sum d (brk 1 x.level (showW x) ++ t) r:=by
 rw [brk_ge (by have:=level_pos (x:=x);omega)];exact b.s1 t r a a' c z
end
theorem tok_num {u:Int} {s:Nat} (h:(Ex.num u s).good = true):isNum (tokOf u.natAbs s) = true ∧ numOf (tokOf u.natAbs s) = (((u.natAbs:Nat):Int),s):=by
 simp only [Ex.good,Bool.or_eq_true,beq_iff_eq,Prod.mk.injEq] at h
 rcases h with ((((h | h) | h) | h) | h) | h <;> obtain ⟨rfl,rfl⟩:=h <;> decide
theorem pm_num {w:W} (h:isNum w = true):pm (some w) = false:=by cases w <;> first | rfl | cases h
theorem pm_name {w:W} (h:isName w = true):pm (some w) = false:=by cases w <;> first | rfl | cases h
theorem hd4:∀{x:Ex},x.good = true → 4 ≤ x.level → ∀t,pm (showW x ++ t).head? = false
 | .bin o l r,h,hl,t=>by
  simp only [Ex.good,Bool.and_eq_true] at h
  have:o = .pow:=by cases o <;> first | rfl | (simp [Ex.level,Op.lv] at hl)
  subst this
  simp only [showW,List.append_assoc]
  by_cases q:l.level < 4
  ·rw [show Op.pow.lv = 4 from rfl,brk_lt q];rfl
  ·rw [show Op.pow.lv = 4 from rfl,brk_ge q];exact hd4 h.1 (by omega) _
 | .neg e,_,hl,_=>by simp [Ex.level] at hl
 | .ref n,h,_,t=>pm_name h
 | .num u s,h,hl,t=>by
  have hu:¬ u < 0:=by intro q;simp [Ex.level,q] at hl
  simp only [showW,if_neg hu]
  exact pm_num (tok_num h).1
theorem lone4:∀{x:Ex},x.good = true → 4 ≤ x.level → ∀t,loneT (showW x ++ t) = true → x.isNumE = true ∧ pw t.head? = false
 | .bin o l r,h,hl,t,z=>by
  simp only [Ex.good,Bool.and_eq_true] at h
  have:o = .pow:=by cases o <;> first | rfl | (simp [Ex.level,Op.lv] at hl)
  subst this
  simp only [showW,List.append_assoc] at z
  by_cases q:l.level < 4
  ·rw [show Op.pow.lv = 4 from rfl,brk_lt q] at z;cases z
  ·rw [show Op.pow.lv = 4 from rfl,brk_ge q] at z
   have:=(lone4 h.1 (by omega) _ z).2
   cases this
 | .neg e,_,hl,_,_=>by simp [Ex.level] at hl
 | .ref n,h,_,t,z=>by
  have:isNum n = true:=by simp only [showW,List.cons_append,loneT,Bool.and_eq_true] at z;exact z.1
  cases n <;> first | (exact absurd h (by decide)) | (exact absurd this (by decide))
 | .num u s,h,hl,t,z=>by
  have hu:¬ u < 0:=by intro q;simp [Ex.level,q] at hl
  simp only [showW,if_neg hu,List.cons_append,List.nil_append,loneT,Bool.and_eq_true,Bool.not_eq_true'] at z
  exact ⟨rfl,z.2⟩
theorem op_pw {o:Op} (h:o.lv ≠ 4):pw (some o.w) = false:=by cases o <;> first | rfl | exact absurd rfl h
theorem op_md {o:Op} (h:o.lv = 1):md (some o.w) = false:=by cases o <;> first | rfl | cases h
theorem op_lp {o:Op} {t:List W}:(o.w :: t).head? ≠ some .lp:=by cases o <;> simp [Op.w]
theorem back:∀{x:Ex},x.good = true → ∀d,d + x.hgt ≤ 20 → Bk x d
 | .bin o l r,h,d,hd=>by
  simp only [Ex.good,Bool.and_eq_true] at h
  simp only [Ex.hgt] at hd
  have bl:=back h.1 d (by omega)
  have bl':=back h.1 (d + 1) (by omega)
  have br:=back h.2 d (by omega)
  have br':=back h.2 (d + 1) (by omega)
  have e:∀t,showW (.bin o l r) ++ t = brk o.lv l.level (showW l) ++ (o.w :: (brk o.rl r.level (showW r) ++ t)):=fun t=>by simp only [showW,List.append_assoc,List.cons_append]
  have ho:o.lv = 1 ∨ o.lv = 2 ∨ o = .pow:=by cases o <;> simp [Op.lv]
  rcases ho with ho | ho | rfl
  ·refine ⟨fun t r a b c z=>?_,fun q=>?_,fun q=>?_,fun q=>?_,fun q=>?_⟩
   ·rw [e,ho,lv1 ho]
    exact bl.c1 _ _ (op_pw (by omega)) (op_md ho) op_lp (.sumS ho (br.c2 br' _ _ a c (.prodE b)) z)
   all_goals simp only [Ex.level] at q;omega
  ·refine Bk.up2 (by omega) (by simp only [Ex.level];omega) fun t r a c z=>?_
   rw [e,ho,lv2 ho]
   exact bl.c2 bl' _ _ (op_pw (by omega)) op_lp (.prodS ho (br.c3 br' _ a c) z)
  ·refine Bk.up4 (by omega) (by simp [Ex.level,Op.lv]) (hd4 (by simp [Ex.good,h]) (by simp [Ex.level,Op.lv])) fun t r c z=>?_
   rw [e]
   exact bl.c4 bl' _ _ op_lp (.powS (br.c5 br' _ c) z)
 | .neg e,h,d,hd=>by
  simp only [Ex.good] at h
  simp only [Ex.hgt] at hd
  have b:=back h d (by omega)
  have b':=back h (d + 1) (by omega)
  refine Bk.up3 (by omega) (by simp [Ex.level]) fun t a c=>?_
  simp only [showW,List.cons_append]
  by_cases q:e.isNumE = true
  ·rw [if_pos q]
   exact .facN rfl (.pow (b'.prim t) (.powE a))
  ·rw [if_neg q]
   refine .facN ?_ (b.c4 b' _ _ c (.powE a))
   by_cases w:e.level < 4
   ·rw [brk_lt w];rfl
   ·rw [brk_ge w]
    cases z:loneT (showW e ++ t) with
    | false=>rfl
    | true=>exact absurd (lone4 h (by omega) t z).1 q
 | .ref n,h,d,hd=>Bk.up5 (by omega) (fun t=>pm_name h) fun t c=>.ref h c
 | .num u s,h,d,hd=>by
  obtain ⟨h1,h2⟩:=tok_num h
  by_cases hu:u < 0
  ·refine Bk.up3 (by omega) (by simp [Ex.level,hu]) fun t a c=>?_
   have:P .pow d (tokOf u.natAbs s :: t) (some (.num (((u.natAbs:Nat):Int)) s,t)):=by
    have:=P.pow (P.num (d:=d) (t:=t) h1) (.powE a)
    rw [h2] at this
    exact this
   have e:(.num u s:Ex) = .num (-((u.natAbs:Nat):Int)) s:=by congr 1;omega
   simp only [showW,if_pos hu,List.cons_append,List.nil_append]
   rw [e]
   refine .facL ?_ (by simpa using this)
   simp [loneT,h1,a]
  ·refine Bk.up5 (by omega) (fun t=>?_) fun t c=>?_
   ·simp only [showW,if_neg hu];exact pm_num h1
   ·simp only [showW,if_neg hu,List.cons_append,List.nil_append]
    have:=P.num (d:=d) (t:=t) h1
    rw [h2] at this
    have e:((u.natAbs:Nat):Int) = u:=by omega
    rw [e] at this
    exact this
theorem shown_read {x:Ex} (h:x.good = true) (hh:x.hgt ≤ 20):P .sum 0 (showW x) (some (x,[])):=by
 have:=(back h 0 (by omega)).s1 [] _ rfl rfl (by simp) (.sumE rfl)
 rwa [List.append_nil] at this
section
variable {x:Ex} {d:Nat} {s t:List W}
theorem P.upFac (h:P .prim d s (some (x,t))) (hs:pm s.head? = false) (a:pw t.head? = false):P .fac d s (some (x,t)):=.facO hs (.pow h (.powE a))
theorem P.upProd (h:P .prim d s (some (x,t))) (hs:pm s.head? = false) (a:pw t.head? = false) (b:md t.head? = false):P .prod d s (some (x,t)):=.prod (h.upFac hs a) (.prodE b)
theorem P.upSum (h:P .prim d s (some (x,t))) (hd:d ≤ 20) (hs:pm s.head? = false) (a:pw t.head? = false) (b:md t.head? = false) (c:pm t.head? = false):P .sum d s (some (x,t)):=.sum hd (h.upProd hs a b) (.sumE c)
end
theorem full_hd:∀{x:Ex},x.good = true → ∀t,pm (fullW x ++ t).head? = false
 | .bin _ _ _,_,_=>rfl
 | .neg _,_,_=>rfl
 | .ref n,h,_=>pm_name h
 | .num u s,h,_=>by
  simp only [fullW]
  split
  ·rfl
  ·exact pm_num (tok_num h).1
theorem full_prim:∀{x:Ex},x.good = true → ∀d t,d + 2 * x.hgt ≤ 20 → t.head? ≠ some .lp → P .prim d (fullW x ++ t) (some (x,t))
 | .bin o l r,h,d,t,hd,c=>by
  simp only [Ex.good,Bool.and_eq_true] at h
  simp only [Ex.hgt] at hd
  have il:=fun t=>full_prim h.1 (d + 1) t (by omega)
  have ir:=fun t=>full_prim h.2 (d + 1) t (by omega)
  have e:fullW (.bin o l r) ++ t = .lp :: (fullW l ++ (o.w :: (fullW r ++ (.rp :: t)))):=by simp only [fullW,List.append_assoc,List.cons_append,List.nil_append]
  rw [e]
  refine .primB ?_
  have ho:o.lv = 1 ∨ o.lv = 2 ∨ o = .pow:=by cases o <;> simp [Op.lv]
  have R:=ir (.rp :: t) (by simp)
  rcases ho with ho | ho | rfl
  ·exact .sum (by omega) ((il _ op_lp).upProd (full_hd h.1 _) (op_pw (by omega)) (op_md ho)) (.sumS ho (R.upProd (full_hd h.2 _) rfl rfl) (.sumE rfl))
  ·exact .sum (by omega) (.prod ((il _ op_lp).upFac (full_hd h.1 _) (op_pw (by omega))) (.prodS ho (R.upFac (full_hd h.2 _) rfl) (.prodE rfl))) (.sumE rfl)
  ·exact .sum (by omega) (.prod (.facO (full_hd h.1 _) (.pow (il _ op_lp) (.powS R (.powE rfl)))) (.prodE rfl)) (.sumE rfl)
 | .neg e,h,d,t,hd,c=>by
  simp only [Ex.good] at h
  simp only [Ex.hgt] at hd
  have R:=full_prim h (d + 2) (.rp :: .rp :: t) (by omega) (by simp)
  have q:fullW (.neg e) ++ t = .lp :: .minus :: .lp :: (fullW e ++ (.rp :: .rp :: t)):=by simp only [fullW,List.append_assoc,List.cons_append,List.nil_append]
  rw [q]
  have:P .fac (d + 1) (.minus :: .lp :: (fullW e ++ (.rp :: .rp :: t))) (some (.neg e,.rp :: t)):=
   .facN rfl (.pow (.primB (R.upSum (by omega) (full_hd h _) rfl rfl rfl)) (.powE rfl))
  exact .primB (.sum (by omega) (.prod this (.prodE rfl)) (.sumE rfl))
 | .ref n,h,d,t,hd,c=>.ref h c
 | .num u s,h,d,t,hd,c=>by
  obtain ⟨h1,h2⟩:=tok_num h
  simp only [Ex.hgt] at hd
  by_cases hu:u < 0
  ·have e:fullW (.num u s) ++ t = .lp :: .minus :: tokOf u.natAbs s :: .rp :: t:=by simp only [fullW,if_pos hu,List.cons_append,List.nil_append]
   rw [e]
   have:P .pow (d + 1) (tokOf u.natAbs s :: .rp :: t) (some (.num (((u.natAbs:Nat):Int)) s,.rp :: t)):=by
    have:=P.pow (P.num (d:=d + 1) (t:=.rp :: t) h1) (.powE rfl)
    rw [h2] at this
    exact this
   have e:(.num u s:Ex) = .num (-((u.natAbs:Nat):Int)) s:=by congr 1;omega
   rw [e]
   refine .primB (.sum (by omega) (.prod (.facL ?_ (by simpa using this)) (.prodE rfl)) (.sumE rfl))
   simp [loneT,h1,pw]
  ·simp only [fullW,if_neg hu,List.cons_append,List.nil_append]
   have:=P.num (d:=d) (t:=t) h1
   rw [h2] at this
   have e:((u.natAbs:Nat):Int) = u:=by omega
   rw [e] at this
   exact this
theorem full_read {x:Ex} (h:x.good = true) (hh:x.hgt ≤ 10):P .sum 0 (fullW x) (some (x,[])):=by
 have:=(full_prim h 0 [] (by omega) (by simp)).upSum (by omega) (full_hd h _) rfl rfl rfl
 rwa [List.append_nil] at this
noncomputable def prs:Nat → List Nat → List W → Option (List (Nat × Nat))
 | _,_,[]=>some []
 | i,st,w :: t=>match w with
  | .lp=>prs (i + 1) (i :: st) t
  | .rp=>match st with
   | []=>none
   | b :: st'=>(prs (i + 1) st' t).map fun l=>(b,i) :: l
  | _=>prs (i + 1) st t
theorem prs_spec:∀(t:List W) (i:Nat) (st:List Nat) (l:List (Nat × Nat)),prs i st t = some l → ∀pre:List W,pre.length = i → (∀b ∈ st,∃A B,pre = A ++ W.lp :: B ∧ A.length = b) →
  ∀q ∈ l,∃A B C,pre ++ t = A ++ W.lp :: (B ++ W.rp :: C) ∧ q = (A.length,A.length + 1 + B.length)
 | [],_,_,_,h,_,_,_=>by intro q hq;cases h;cases hq
 | w :: t,i,st,l,h,pre,hp,hs=>by
  have ap:pre ++ w :: t = (pre ++ [w]) ++ t:=by simp
  have keep:∀b ∈ st,∃A B,pre ++ [w] = A ++ W.lp :: B ∧ A.length = b:=fun b hb=>by
   obtain ⟨A,B,e,z⟩:=hs b hb
   exact ⟨A,B ++ [w],by rw [e];simp,z⟩
  intro q hq
  rw [ap]
  cases w with
  | lp=>
   refine prs_spec t _ _ l h (pre ++ [.lp]) (by simp [hp]) (fun b hb=>?_) q hq
   rcases List.mem_cons.mp hb with rfl | hb
   ·exact ⟨pre,[],rfl,hp⟩
   ·exact keep b hb
  | rp=>
   cases st with
   | nil=>cases h
   | cons b st=>
    simp only [prs] at h
    cases z:prs (i + 1) st t with
    | none=>rw [z] at h;cases h
    | some l'=>
     rw [z] at h
     cases h
     rcases List.mem_cons.mp hq with rfl | hq
     ·obtain ⟨A,B,e,z⟩:=hs b (.head _)
      refine ⟨A,B,t,by rw [e];simp,?_⟩
      rw [e] at hp
      simp at hp
      rw [z] at hp ⊢
      congr 1
      omega
     ·exact prs_spec t _ _ l' z (pre ++ [.rp]) (by simp [hp]) (fun b hb=>keep b (.tail _ hb)) q hq
  | _=>exact prs_spec t _ _ l h (pre ++ [_]) (by simp [hp]) keep q hq
theorem prs_skip {w:W} {i:Nat} {st:List Nat} {t:List W} (h1:w ≠ .lp) (h2:w ≠ .rp):prs i st (w :: t) = prs (i + 1) st t:=by cases w <;> first | rfl | exact absurd rfl h1 | exact absurd rfl h2
theorem op_rp {o:Op}:o.w ≠ .rp:=by cases o <;> decide
theorem tokOf_rp {u s:Nat}:tokOf u s ≠ .rp:=by unfold tokOf;split <;> decide
theorem prs_brk {k lv:Nat} {s:List W} (h:∀i st t,(∀i',(prs i' st t).isSome = true) → (prs i st (s ++ t)).isSome = true) (i:Nat) (st:List Nat) (t:List W) (ht:∀i',(prs i' st t).isSome = true):(prs i st (brk k lv s ++ t)).isSome = true:=by
 unfold brk
 split
 ·simp only [List.cons_append,List.append_assoc,List.nil_append,prs]
  refine h _ _ _ fun i'=>?_
  simp only [prs]
  have:=ht (i' + 1)
  cases z:prs (i' + 1) st t with
  | none=>rw [z] at this;cases this
  | some l=>rfl
 ·exact h _ _ _ ht
theorem prs_show:∀{x:Ex},x.good = true → ∀(i:Nat) (st:List Nat) (t:List W),(∀i',(prs i' st t).isSome = true) → (prs i st (showW x ++ t)).isSome = true
 | .bin o l r,h,i,st,t,ht=>by
  simp only [Ex.good,Bool.and_eq_true] at h
  simp only [showW,List.append_assoc,List.cons_append]
  refine prs_brk (prs_show h.1) _ _ _ fun i'=>?_
  rw [prs_skip op_w op_rp]
  exact prs_brk (prs_show h.2) _ _ _ ht
 | .neg e,h,i,st,t,ht=>by
  simp only [Ex.good] at h
  simp only [showW,List.cons_append]
  rw [prs_skip (by decide) (by decide)]
  split
  ·exact prs_brk (k:=1) (lv:=0) (prs_show h) _ _ _ ht
  ·exact prs_brk (prs_show h) _ _ _ ht
 | .ref n,h,i,st,t,ht=>by
  simp only [showW,List.cons_append,List.nil_append]
  rw [prs_skip (by rintro rfl;cases h) (by rintro rfl;cases h)]
  exact ht _
 | .num u s,h,i,st,t,ht=>by
  simp only [showW]
  split
  ·simp only [List.cons_append,List.nil_append]
   rw [prs_skip (by decide) (by decide),prs_skip tokOf_lp tokOf_rp]
   exact ht _
  ·simp only [List.cons_append,List.nil_append]
   rw [prs_skip tokOf_lp tokOf_rp]
   exact ht _
noncomputable def ck:Option W → List W → Bool
 | _,[]=>true
 | p,w :: t=>(!(w == .lp && t[1]? == some .rp) || p == some .minus) && ck (some w) t
theorem ck_any {p q:Option W} {t:List W} (h:t.head? ≠ some .lp):ck p t = ck q t:=by
 cases t with
 | nil=>rfl
 | cons w t=>
  have:(w == W.lp) = false:=by
   cases z:w == W.lp with
   | false=>rfl
   | true=>rw [beq_iff_eq] at z;subst z;exact absurd rfl h
  simp [ck,this]
theorem ck_found:∀{A:List W} {p:Option W} {a:W} {C:List W},ck p (A ++ .lp :: a :: .rp :: C) = true → (A = [] ∧ p = some .minus) ∨ ∃A',A = A' ++ [.minus]
 | [],p,a,C,h=>by
  simp [ck] at h
  exact .inl ⟨rfl,h.1⟩
 | w :: A,p,a,C,h=>by
  simp only [List.cons_append,ck,Bool.and_eq_true] at h
  rcases ck_found h.2 with ⟨rfl,z⟩ | ⟨A',rfl⟩
  ·cases z;exact .inr ⟨[],rfl⟩
  ·exact .inr ⟨w :: A',rfl⟩
theorem show_hd:∀{x:Ex},x.good = true → ∃w s,showW x = w :: s ∧ w ≠ .rp
 | .bin o l r,h=>by
  simp only [Ex.good,Bool.and_eq_true] at h
  obtain ⟨w,s,e,hw⟩:=show_hd h.1
  simp only [showW]
  unfold brk
  split
  ·exact ⟨_,_,rfl,by decide⟩
  ·rw [e];exact ⟨_,_,rfl,hw⟩
 | .neg e,h=>⟨_,_,rfl,by decide⟩
 | .ref n,h=>⟨_,_,rfl,by rintro rfl;cases h⟩
 | .num u s,h=>by
  simp only [showW]
  split
  ·exact ⟨_,_,rfl,by decide⟩
  ·exact ⟨_,_,rfl,tokOf_rp⟩
theorem sec:∀{x:Ex},x.good = true → ∀(w:W) (t:List W),w ≠ .rp ∨ x.level < 5 → (showW x ++ w :: t)[1]? ≠ some .rp
 | .bin o l r,h,w,t,_=>by
  simp only [Ex.good,Bool.and_eq_true] at h
  simp only [showW,List.append_assoc,List.cons_append]
  unfold brk
  by_cases q:l.level < o.lv
  ·rw [if_pos q]
   obtain ⟨w,s,e,hw⟩:=show_hd h.1
   rw [e]
   simpa using hw
  ·rw [if_neg q]
   exact sec h.1 _ _ (.inl op_rp)
 | .neg e,h,w,t,_=>by
  simp only [Ex.good] at h
  simp only [showW,List.cons_append,List.getElem?_cons_succ]
  obtain ⟨w,s,e',hw⟩:=show_hd h
  split
  ·simp
  ·unfold brk
   split
   ·simp
   ·rw [e'];simpa using hw
 | .ref n,h,w,t,hw=>by
  rcases hw with hw | hw
  ·simpa [showW] using hw
  ·simp [Ex.level] at hw
 | .num u s,h,w,t,hw=>by
  simp only [showW]
  split
  ·rename_i hu
   simpa using tokOf_rp
  ·rename_i hu
   rcases hw with hw | hw
   ·simpa using hw
   ·simp [Ex.level,hu] at hw
theorem ck_skip {p:Option W} {w:W} {t:List W} (h:w ≠ .lp):ck p (w :: t) = ck (some w) t:=by
 have:(w == W.lp) = false:=by simpa using h
 simp [ck,this]
theorem ck_lp {p:Option W} {t:List W} (h:t[1]? ≠ some .rp ∨ p = some .minus):ck p (.lp :: t) = ck (some .lp) t:=by
 rcases h with h | h
 ·have:(t[1]? == some W.rp) = false:=by simpa using h
  simp [ck,this]
 ·subst h;simp [ck]
theorem ck_brk {x:Ex} {k:Nat} (h:x.good = true) (hk:k ≤ 5) (ih:∀p t,t.head? ≠ some .lp → ck none t = true → ck p (showW x ++ t) = true) (p:Option W) (t:List W) (c:t.head? ≠ some .lp) (z:ck none t = true):ck p (brk k x.level (showW x) ++ t) = true:=by
 unfold brk
 split
 ·simp only [List.cons_append,List.append_assoc,List.nil_append]
  rw [ck_lp (.inl (sec h _ _ (.inr (by omega))))]
  refine ih _ _ (by simp) ?_
  rw [ck_skip (by decide),ck_any (q:=none) c]
  exact z
 ·exact ih _ _ c z
theorem ck_show:∀{x:Ex},x.good = true → ∀(p:Option W) (t:List W),t.head? ≠ some .lp → ck none t = true → ck p (showW x ++ t) = true
 | .bin o l r,h,p,t,c,z=>by
  simp only [Ex.good,Bool.and_eq_true] at h
  simp only [showW,List.append_assoc,List.cons_append]
  refine ck_brk h.1 (by cases o <;> decide) (ck_show h.1) _ _ op_lp ?_
  rw [ck_skip op_w]
  exact ck_brk h.2 (by cases o <;> decide) (ck_show h.2) _ _ c z
 | .neg e,h,p,t,c,z=>by
  simp only [Ex.good] at h
  simp only [showW,List.cons_append]
  rw [ck_skip (by decide)]
  split
  ·simp only [List.cons_append,List.append_assoc,List.nil_append]
   rw [ck_lp (.inr rfl)]
   refine ck_show h _ _ (by simp) ?_
   rw [ck_skip (by decide),ck_any (q:=none) c]
   exact z
  ·exact ck_brk h (by decide) (ck_show h) _ _ c z
 | .ref n,h,p,t,c,z=>by
  simp only [showW,List.cons_append,List.nil_append]
  rw [ck_skip (by rintro rfl;cases h),ck_any (q:=none) c]
  exact z
 | .num u s,h,p,t,c,z=>by
  simp only [showW]
  split
  ·simp only [List.cons_append,List.nil_append]
   rw [ck_skip (by decide),ck_skip tokOf_lp,ck_any (q:=none) c]
   exact z
  ·simp only [List.cons_append,List.nil_append]
   rw [ck_skip tokOf_lp,ck_any (q:=none) c]
   exact z
noncomputable def post (w:W):Bool:=isName w || isNum w || w == .rp
noncomputable def pre (w:W):Bool:=isName w || isNum w || w == .lp
noncomputable def aj:Bool → List W → Bool
 | _,[]=>true
 | p,w :: t=>!(p && pre w) && aj (post w) t
theorem aj_mono {p:Bool}:∀{t:List W},aj true t = true → aj p t = true
 | [],_=>rfl
 | w :: t,h=>by
  simp only [aj,Bool.and_eq_true,Bool.true_and] at h ⊢
  refine ⟨?_,h.2⟩
  cases p <;> simp_all
theorem aj_cut:∀{A:List W} {p:Bool} {w:W} {C:List W},w = .lp ∨ w = .rp → aj p (A ++ w :: C) = true → aj p (A ++ C) = true
 | [],p,w,C,hw,h=>by
  rcases hw with rfl | rfl
  ·simp only [List.nil_append,aj,Bool.and_eq_true] at h ⊢
   cases p with
   | false=>exact h.2
   | true=>exact absurd h.1 (by decide)
  ·simp only [List.nil_append,aj,Bool.and_eq_true] at h ⊢
   exact aj_mono h.2
 | a :: A,p,w,C,hw,h=>by
  simp only [List.cons_append,aj,Bool.and_eq_true] at h ⊢
  exact ⟨h.1,aj_cut hw h.2⟩
theorem aj_ok:∀{t:List W} {p:Bool},aj p t = true → okT t = true
 | [],_,_=>rfl
 | w :: t,p,h=>by
  simp only [aj,Bool.and_eq_true] at h
  simp only [okT,Bool.and_eq_true]
  refine ⟨?_,aj_ok h.2⟩
  cases t with
  | nil=>simp
  | cons a t=>
   have h2:=h.2
   simp only [aj,Bool.and_eq_true] at h2
   cases hn:isName w with
   | false=>rfl
   | true=>
    cases a <;> first | rfl | (have:=h2.1;simp [post,pre,hn] at this)
theorem op_pre {o:Op}:pre o.w = false ∧ post o.w = false:=by cases o <;> decide
theorem aj_op {o:Op} {p:Bool} {t:List W}:aj p (o.w :: t) = aj false t:=by simp [aj,op_pre]
theorem aj_brk {k lv:Nat} {s:List W} (ih:∀t,aj false (s ++ t) = aj true t) (t:List W):aj false (brk k lv s ++ t) = aj true t:=by
 unfold brk
 split
 ·simp only [List.cons_append,List.append_assoc,List.nil_append]
  show (!(false && pre .lp) && aj (post .lp) (s ++ .rp :: t)) = _
  rw [show post .lp = false from rfl,ih]
  simp [aj,pre,post,isName,isNum]
 ·exact ih t
theorem aj_num {w:W} {t:List W} (h:isNum w = true ∨ isName w = true):aj false (w :: t) = aj true t:=by
 have:post w = true:=by rcases h with h | h <;> simp [post,h]
 simp [aj,this]
theorem aj_show:∀{x:Ex},x.good = true → ∀t,aj false (showW x ++ t) = aj true t
 | .bin o l r,h,t=>by
  simp only [Ex.good,Bool.and_eq_true] at h
  simp only [showW,List.append_assoc,List.cons_append]
  rw [aj_brk (aj_show h.1),aj_op,aj_brk (aj_show h.2)]
 | .neg e,h,t=>by
  simp only [Ex.good] at h
  simp only [showW,List.cons_append]
  show (!(false && pre .minus) && aj (post .minus) _) = _
  rw [show post .minus = false from rfl]
  simp only [Bool.false_and,Bool.not_false,Bool.true_and]
  split
  ·exact aj_brk (k:=1) (lv:=0) (aj_show h) t
  ·exact aj_brk (aj_show h) t
 | .ref n,h,t=>aj_num (.inr h)
 | .num u s,h,t=>by
  simp only [showW]
  split
  ·show (!(false && pre .minus) && aj (post .minus) _) = _
   rw [show post .minus = false from rfl]
   exact aj_num (.inl (tok_num h).1)
  ·exact aj_num (.inl (tok_num h).1)
theorem shown_pairs {x:Ex} (h:x.good = true):∃l,prs 0 [] (showW x) = some l ∧ ∀q ∈ l,∃A B C,showW x = A ++ W.lp :: (B ++ W.rp :: C) ∧ q = (A.length,A.length + 1 + B.length) ∧
  okT (A ++ (B ++ C)) = true ∧ (∀d r,P .sum d (A ++ (B ++ C)) r → r ≠ some (x,[])) ∧ (B.length = 1 → ∃A',A = A' ++ [W.minus]):=by
 have hs:=prs_show h 0 [] [] (fun _=>rfl)
 rw [List.append_nil] at hs
 cases hl:prs 0 [] (showW x) with
 | none=>rw [hl] at hs;cases hs
 | some l=>
  refine ⟨l,rfl,fun q hq=>?_⟩
  obtain ⟨A,B,C,e,hqe⟩:=prs_spec _ _ _ l hl [] rfl (fun b hb=>by cases hb) q hq
  rw [List.nil_append] at e
  refine ⟨A,B,C,e,hqe,?_,fun d r hr hz=>?_,fun hB=>?_⟩
  ·have:=aj_show h []
   rw [List.append_nil,e] at this
   have:=aj_cut (.inl rfl) (this.trans rfl)
   rw [←List.append_assoc] at this
   have:=aj_cut (.inr rfl) this
   rw [List.append_assoc] at this
   exact aj_ok this
  ·have a:=counted hr _ _ hz
   have b:=cnt_show h
   simp only [CG,cnt_app] at a
   rw [e] at b
   simp only [cnt_app,cnt_lp,cnt_cons (show W.rp ≠ .lp by decide)] at b
   have:cnt ([]:List W) = 0:=rfl
   omega
  ·obtain ⟨a,rfl⟩:∃a,B = [a]:=by
    match B,hB with
    | [a],_=>exact ⟨a,rfl⟩
   have:=ck_show h none [] (by simp) rfl
   rw [List.append_nil,e] at this
   rcases ck_found this with ⟨_,z⟩ | z
   ·cases z
   ·exact z
section
theorem CodeOk.fnE {C:Cx} {k:Nat} {f:Addr} {args:List D} {o:Out} {r:Option D} {ro:List (Str × D)} {sg sgo:List Cell} {ev:List Value} {exD:List D}
  {name qual:Str} {params:Arguments} {body:List Stmt} {scope:Scope} {dV kV doc pm cdv ct oc:Value} {an od:Option Addr} {osl:Array (Option Value)}
  (ho:C.K.lookup f = some ⟨oc,od,.func (fnOf name qual params body scope dV kV doc pm an cdv ct),osl⟩) (hcd:codeIn C.K cdv qual = true) (hok:fnOk (ro.map (·.1)) scope = true)
  (hro2:ro.map (·.2) = args ++ exD) (hex:∀th h,RepL th h exD ev) (hb:Bnd C.K f (ro.map (·.1)) args.length ev)
  (hro:retOf o = some r) (hu:sgo.all (Cell.under sg.length) = true) (hr:r.all (D.under sg.length) = true)
  (hbody:∃ro' sg',sg'.take sg.length = sgo ∧ ∀L,TS C ⟨qual,scope,L,f,cdv,[],[]⟩ k body ro sg o ro' sg'):CodeOk C (k + 1) (.ref f) args sg r sgo:=by
 obtain ⟨ro',sg',htk,h⟩:=hbody
 exact CodeOk.fnN ho hcd hok hro2 hex hb hro htk hu hr ⟨ro',h⟩
theorem take_app {α:Type} {l l2:List α}:(l ++ l2).take l.length = l:=List.take_left
noncomputable def chkR (l:List Nat):Bool:=((l.zip (l.drop 2)).all fun p=>!(Nat.beq p.1 32 && Nat.beq p.2 32)) && ((l.all fun c=>Nat.ble c 45 || (Nat.ble 48 c && Nat.ble c 90)) && (l.take 1 == [32]))
theorem R_ex:∃cs:List Char,strSt 55 = Str.ofString (String.ofList cs) ∧ chkR (cs.map Char.toNat) = true:=⟨_,rfl,by kernel_rfl⟩
theorem R_chk:chkR (strSt 55).cps.toList = true:=by
 obtain ⟨cs,e,h⟩:=R_ex
 rw [e,PySem.W.Fast.ofString_ofList]
 exact h
theorem R_pairs:(((strSt 55).cps.toList.zip ((strSt 55).cps.toList.drop 2)).all fun p=>!(Nat.beq p.1 32 && Nat.beq p.2 32)) = true:=(Bool.and_eq_true_iff.mp R_chk).1
theorem not_two {x:Str} {c:Nat} (h:((x.cps.toList.zip (x.cps.toList.drop 2)).all fun p=>!(Nat.beq p.1 32 && Nat.beq p.2 32)) = true):inStr ⟨#[32,c,32]⟩ x = false:=by
 cases z:inStr ⟨#[32,c,32]⟩ x with
 | false=>rfl
 | true=>
  unfold inStr at z
  obtain ⟨i,h1,h2⟩:=(PySem.StrLaws.found_iff _ _).mp z
  unfold Builtin.Str.subAt at h2
  rw [beq_iff_eq] at h2
  have h3:=congrArg Array.toList h2
  rw [Array.toList_extract] at h3
  have e:(Str.length ⟨#[32,c,32]⟩) = 3:=rfl
  rw [e] at h3 h1
  simp only [List.extract_eq_take_drop,Nat.add_sub_cancel_left] at h3
  have a0:(List.take 3 (List.drop i x.cps.toList))[0]? = some 32:=by rw [h3];rfl
  have a2:(List.take 3 (List.drop i x.cps.toList))[2]? = some 32:=by rw [h3];rfl
  simp only [List.getElem?_take,List.getElem?_drop] at a0 a2
  rw [List.all_eq_true] at h
  have:=h (32,32) (List.mem_of_getElem? (i:=i) (by
   rw [List.getElem?_zip_eq_some]
   refine ⟨by simpa using a0,?_⟩
   rw [List.getElem?_drop]
   simpa [Nat.add_comm] using a2))
  exact absurd this (by decide)
local macro_rules
 | `(tactic| walk_at "call")=>`(tactic| fail "no contract")
local macro_rules
 | `(tactic| walk_at "glob")=>`(tactic| fail "no name")
local macro_rules
 | `(tactic| walk_at "tb")=>`(tactic| first
  | ((with_reducible apply TB.not);walk_at "tb")
  | ((with_reducible apply TB.cmp);(·walk_at "te");(·walk_at "te");(·walk_at "op");(·rfl))
  | (with_reducible first | exact TB.and0 | exact TB.or0)
  | ((with_reducible apply TB.andB);(·walk_at "tb");(·intro _;walk_at "tb"))
  | ((with_reducible apply TB.orB);(·walk_at "tb");(·intro _;walk_at "tb"))
  | ((with_reducible apply TB.plain);(·walk_at "te");(·exact fun _ _=>rfl)))
local macro_rules
 | `(tactic| walk_at "swap")=>`(tactic| ((with_reducible apply TS.swap2);(·walk_at "tes");(·rfl);(·rfl);(·rfl);(·rfl)))
local macro_rules
 | `(tactic| walk_at "glob")=>`(tactic| first
  | (with_reducible first | exact t_decimal rfl | exact t_negated rfl | exact t_worth_of rfl | exact t_read_decimal rfl | exact t_write_decimal rfl | exact t_is_part_next rfl | exact t_read_ref rfl | exact t_read_figure rfl | exact t_read_operand rfl | exact t_show_ref rfl | exact t_show_operand rfl | exact t_read_expression rfl | exact t_sign_among rfl | exact t_read_sum rfl | exact t_read_product rfl | exact t_read_factor rfl | exact t_is_lone_number rfl | exact t_read_power rfl | exact t_read_primary rfl | exact t_level_of rfl | exact t_bracketed rfl | exact t_show_expression rfl | exact t_right_part rfl | exact t_show_signed rfl | exact t_is_reserved rfl | exact t_law_draw rfl | exact t_law_pen rfl | exact t_law_reader rfl | exact t_law_words rfl | exact t_law_expr rfl | exact t_law_full rfl | exact t_law_read rfl | exact t_law_pairs rfl | exact t_Token rfl | exact t_Reader rfl | exact t_GrammarFault rfl | exact t_LEVELS rfl | exact t_FIGURE_NAMES rfl | exact t_FIGURES rfl | exact t_MOST_DEEP rfl | exact t_SIGNED rfl | exact t_RAISED rfl | exact t_BARE rfl | exact t_len rfl | exact t_abs rfl | exact t_min rfl | exact t_sum rfl | exact t_list rfl | exact t_str rfl | exact t_tuple rfl | exact t_range rfl | exact t_enumerate rfl | exact t_reversed rfl | exact t_Exception rfl))
local macro_rules
 | `(tactic| walk_at "keep")=>`(tactic| first
  | (with_reducible first | exact k_decimal _ | exact k_negated _ | exact k_worth_of _ | exact k_read_decimal _ | exact k_write_decimal _ | exact k_is_part_next _ | exact k_read_ref _ | exact k_read_figure _ | exact k_read_operand _ | exact k_show_ref _ | exact k_show_operand _ | exact k_read_expression _ | exact k_sign_among _ | exact k_read_sum _ | exact k_read_product _ | exact k_read_factor _ | exact k_is_lone_number _ | exact k_read_power _ | exact k_read_primary _ | exact k_level_of _ | exact k_bracketed _ | exact k_show_expression _ | exact k_right_part _ | exact k_show_signed _ | exact k_is_reserved _ | exact k_law_draw _ | exact k_law_pen _ | exact k_law_reader _ | exact k_law_words _ | exact k_law_expr _ | exact k_law_full _ | exact k_law_read _ | exact k_law_pairs _ | exact k_Token _ | exact k_Reader _ | exact k_GrammarFault _))
local macro_rules
 | `(tactic| walk_at "bcall")=>`(tactic| fail "no built-in")
local macro_rules
 | `(tactic| walk_at "sub")=>`(tactic| exact sub_tup (fun _ _=>rfl) (by decide) (by decide) rfl rfl)
local macro_rules
 | `(tactic| walk_at "te")=>`(tactic| first
  | (with_reducible first | exact TE.cint | exact TE.cstr | exact TE.cnone | exact TE.cbool)
  | ((with_reducible apply TE.name);(·rfl);(·rfl);(·rfl))
  | ((with_reducible apply TE.call');(·rfl);(·walk_at "glob");(·walk_at "tes");(·walk_at "keep");(·walk_at "call"))
  | ((with_reducible apply TE.callM');(·rfl);(·walk_at "glob");(·walk_at "tes");(·rfl);(·walk_at "bcall"))
  | ((with_reducible apply TE.attrO);(·walk_at "te");(·walk_at "inst");(·walk_at "attr");(·rfl);(·rfl))
  | ((with_reducible apply TE.methO);(·rfl);(·walk_at "te");(·walk_at "inst");(·walk_at "meth");(·rfl);(·walk_at "tes");(·walk_at "call"))
  | ((with_reducible apply TE.cmp);(·walk_at "te");(·walk_at "te");(·walk_at "op");(·rfl))
  | ((with_reducible apply TE.binop);(·walk_at "te");(·walk_at "te");(·walk_at "op"))
  | ((with_reducible apply TE.sub);(·walk_at "te");(·walk_at "te");(·walk_at "sub"))
  | ((with_reducible apply TE.tup);(·walk_at "tes");(·(simp only [List.length_cons,List.length_nil];decide)))
  | ((with_reducible apply TE.neg);walk_at "te")
  | ((with_reducible apply TE.bool1);walk_at "te")
  | ((with_reducible apply TE.andB);(·walk_at "te");(·intro _;walk_at "te"))
  | ((with_reducible apply TE.orB);(·walk_at "te");(·intro _;walk_at "te"))
  | ((with_reducible apply TE.andF);walk_at "te")
  | ((with_reducible apply TE.orT);walk_at "te")
  | ((with_reducible apply TE.not);walk_at "te")
  | walk_at "glob")
local macro_rules
 | `(tactic| walk_at "body")=>`(tactic| (apply Exists.intro;apply Exists.intro;apply And.intro;rotate_left;intro L))
local macro_rules
 | `(tactic| walk_at "call")=>`(tactic| first
  | exact peek_cs (by assumption) (by assumption) (by omega)
  | exact peek_cn (by assumption) (by assumption) (by omega)
  | exact peek_c0s (by assumption) (by assumption) (by omega)
  | exact peek_c0n (by assumption) (by assumption) (by omega)
  | exact is_kind_c (by assumption) (by omega)
  | exact is_kind_c0 (by assumption) (by omega)
  | exact is_sign_c0 (by assumption) (by omega)
  | exact skip_fc (by assumption) (by assumption) (by omega)
  | exact skip_tc (by assumption) (by assumption) (by omega)
  | exact take_c (by assumption) (by assumption) (by omega)
  | exact is_number_c (by assumption) (by omega)
  | exact need_tc (by assumption) (by assumption) (by omega)
  | exact need_fc (by assumption) (by assumption) (by decide) (by omega)
  | exact one_of_c (by assumption) (by omega)
  | exact lone_c (by assumption) (by omega)
  | exact among_pm (by assumption) (by omega)
  | exact among_md (by assumption) (by omega)
  | exact among_pw (by assumption) (by omega))
local macro_rules
 | `(tactic| walk_at "call")=>`(tactic| first
  | exact is_name_c (by assumption) (by omega)
  | exact name_tc (by assumption) (by assumption) (by assumption) (by omega)
  | exact name_fc (by assumption) (by assumption) (by omega))
section
variable {y:Cy} {sg sg1 sg2 sg':List Cell} {R:RI} {ws:List W} {p a k q:Nat} {args exD:List D} {ev:List Value} {w:W} {s:Str} {fi:FI} {ro ro2:List (Str × D)} {o:Out} {ds:List D} {r:Option D} {ys:List Str}
theorem b_is_name (P:Params):Bnd (theK P) 449 ["self","ahead"] 1 [.int 0 818]:=fun S=>len1 fun a=>by kernel_rfl
theorem b_name (P:Params):Bnd (theK P) 456 ["self"] 1 []:=fun S=>len1 fun a=>by kernel_rfl
theorem b_is_reserved (P:Params):Bnd (theK P) 349 ["word"] 1 []:=fun S=>len1 fun a=>by kernel_rfl
theorem b_read_figure (P:Params):Bnd (theK P) 219 ["reader"] 1 []:=fun S=>len1 fun a=>by kernel_rfl
theorem b_is_part_next (P:Params):Bnd (theK P) 184 ["reader"] 1 []:=fun S=>len1 fun a=>by kernel_rfl
theorem g_RESERVED (P:Params):nsIn (theK P) mainGlobals "RESERVED" = some (some (.str (strSt 55) 696)):=by kernel_rfl
theorem t_RESERVED {y:Cy} {fi:FI} {k:Nat} {ro:List (Str × D)} {sg:List Cell} {pos:Pos} (hk:fi.scope.names.lookup (Str.ofString "RESERVED") = some NameKind.globalImplicit):TE y.cx fi k (.Name "RESERVED" pos) ro sg (some (.str (strSt 55))) sg:=by
 have:=TE.glob (C:=y.cx) (fi:=fi) (k:=k) (ro:=ro) (sg:=sg) (pos:=pos) hk (g_RESERVED _) (by decide)
 exact this
theorem not_res (h:isName w = true):inStr ((" ":Str) ++ w.str ++ " ") (strSt 55) = false:=by
 obtain ⟨c,e⟩:∃c,(" ":Str) ++ w.str ++ " " = ⟨#[32,c,32]⟩:=by
  cases w <;> first | (exact ⟨65,by decide +kernel⟩) | (exact ⟨66,by decide +kernel⟩) | (exact ⟨67,by decide +kernel⟩) | cases h
 rw [e]
 exact not_two R_pairs
theorem name_kind:(w.kind == "word") = isName w:=by cases w <;> decide +kernel
theorem name_len:w.str.length ≤ 4:=by cases w <;> decide +kernel
theorem reserved_ok (h:isName w = true) (u:Und sg):CodeOk y.cx 1 (.ref 349) [.str w.str] sg (some (.bool false)) sg:=by
 refine CodeOk.fnE (k:=0) (o:=.ret (.bool false)) (ro:=[("word",.str w.str)]) (by rfl) (by rfl) (by rfl) rfl ex0 (b_is_reserved _) rfl u rfl ?_
 rw [←not_res h]
 have:=name_len (w:=w)
 have e1:(Str.length " ") = 1:=rfl
 walk_at "body"
 ·with_reducible apply TS.ret
  with_reducible apply TE.cmp
  ·with_reducible apply TE.binop
   ·with_reducible apply TE.binop
    ·walk_at "te"
    ·walk_at "te"
    ·exact op_add_str (by unfold sizeLine;omega)
   ·walk_at "te"
   ·refine op_add_str ?_
    have:(" " ++ w.str:Str).length = 1 + w.str.length:=by show (Array.append _ _).size = _;simp [Str.length];rfl
    unfold sizeLine;omega
  ·exact t_RESERVED rfl
  ·exact op_in_str
  ·rfl
 ·exact List.take_length
theorem reserved_c (h:isName w = true) (u:Und sg) (hk:1 ≤ k):CallOk y.cx k (.ref 349) [.str w.str] sg (some (.bool false)) sg:=(reserved_ok h u).up hk
noncomputable def nameAt (ws:List W) (i:Nat):Bool:=match ws[i]? with | some w=>isName w | none=>false
theorem is_name_ok (H:Rdr sg R ws p):CodeOk y.cx 3 (.ref 449) [.obj R.r] sg (some (.bool (nameAt ws p))) sg:=by
 refine CodeOk.fnE (k:=2) (o:=.ret (.bool (nameAt ws p))) (ro:=[("self",.obj R.r),("ahead",.int ((0:Nat):Int))]) (by rfl) (by rfl) (by rfl) rfl ex1 (b_is_name _) rfl H.und rfl ?_
 have ek:kindAt ws (p + 0) "word" = nameAt ws p:=by
  unfold kindAt nameAt
  rw [Nat.add_zero]
  cases ws[p]? with
  | none=>rfl
  | some w=>exact name_kind
 cases hn:nameAt ws p with
 | false=>
  rw [hn] at ek
  walk_at "body"
  ·with_reducible apply TS.ret
   with_reducible apply TE.andF
   rw [←ek]
   (with_reducible apply TE.methO);(·rfl);(·walk_at "te");(·walk_at "inst");(·walk_at "meth");(·rfl);(·walk_at "tes");(·exact is_kind_c (a:=0) H (by omega))
  ·exact List.take_length
 | true=>
  obtain ⟨w,h,hw⟩:∃w,ws[p]? = some w ∧ isName w = true:=by
   unfold nameAt at hn
   cases h:ws[p]? with
   | none=>rw [h] at hn;cases hn
   | some w=>rw [h] at hn;exact ⟨w,rfl,hn⟩
  rw [hn] at ek
  have HT:=H.tok _ _ h
  walk_at "body"
  ·with_reducible apply TS.ret
   apply TE.andT (sg1:=sg)
   ·rw [←ek]
    (with_reducible apply TE.methO);(·rfl);(·walk_at "te");(·walk_at "inst");(·walk_at "meth");(·rfl);(·walk_at "tes");(·exact is_kind_c (a:=0) H (by omega))
   ·with_reducible apply TE.bool1
    apply TE.not (b:=false)
    (with_reducible apply TE.call');(·rfl);(·walk_at "glob");rotate_left;(·walk_at "keep");(·exact reserved_c hw H.und (by omega))
    apply TEs.cons
    ·rfl
    ·(with_reducible apply TE.attrO)
     ·(with_reducible apply TE.methO);(·rfl);(·walk_at "te");(·exact H.inst);(·walk_at "meth");(·rfl);(·walk_at "tes");(·exact peek_cs (a:=0) H h (by omega))
     ·exact HT
     ·walk_at "attr"
     ·rfl
     ·rfl
    ·exact TEs.nil
  ·exact List.take_length
theorem is_name_c (H:Rdr sg R ws p) (hk:3 ≤ k):CallOk y.cx k (.ref 449) [.obj R.r] sg (some (.bool (nameAt ws p))) sg:=(is_name_ok H).up hk
theorem name_t (H:Rdr sg R ws p) (h:ws[p]? = some w) (hw:isName w = true):CodeOk y.cx 4 (.ref 456) [.obj R.r] sg (some (.str w.str)) (setAt sg R (p + 1)):=by
 have hn:nameAt ws p = true:=by unfold nameAt;rw [h];exact hw
 have HS:=H.set (q:=p + 1) (List.getElem?_eq_some_iff.mp h).1
 have HT:=HS.tok _ _ h
 refine CodeOk.fnE (k:=3) (o:=.ret (.str w.str)) (ro:=[("self",.obj R.r)]) (by rfl) (by rfl) (by rfl) rfl ex0 (b_name _) rfl H.und' rfl ?_
 walk_at "body"
 ·with_reducible apply TS.ifF
  ·with_reducible apply TB.not
   with_reducible apply TB.plain
   ·(with_reducible apply TE.methO);(·rfl);(·walk_at "te");(·exact H.inst);(·walk_at "meth");(·rfl);(·walk_at "tes");(·exact is_name_c H (by omega))
   ·exact fun _ _=>rfl
  ·rw [hn];rfl
  ·with_reducible apply TS.ret
   (with_reducible apply TE.attrO)
   ·(with_reducible apply TE.methO);(·rfl);(·walk_at "te");(·exact H.inst);(·walk_at "meth");(·rfl);(·walk_at "tes");(·exact take_c H h (by omega))
   ·exact HT
   ·walk_at "attr"
   ·rfl
   ·rfl
 ·exact setAt_take
theorem name_f (H:Rdr sg R ws p) (hn:nameAt ws p = false):CodeOk y.cx 4 (.ref 456) [.obj R.r] sg none sg:=by
 refine CodeOk.fnE (k:=3) (o:=.exc) (ro:=[("self",.obj R.r)]) (by rfl) (by rfl) (by rfl) rfl ex0 (b_name _) rfl H.und rfl ?_
 walk_at "body"
 ·with_reducible apply TS.ifT
  ·with_reducible apply TB.not
   with_reducible apply TB.plain
   ·(with_reducible apply TE.methO);(·rfl);(·walk_at "te");(·exact H.inst);(·walk_at "meth");(·rfl);(·walk_at "tes");(·exact is_name_c H (by omega))
   ·exact fun _ _=>rfl
  ·rw [hn];rfl
  ·with_reducible apply TS.raise
   with_reducible apply TEX.methO
   ·rfl
   ·walk_at "te"
   ·exact H.inst
   ·exact m_fault _
   ·rfl
   ·walk_at "tes"
   ·exact fault_xc H (by omega)
  ·rfl
 ·exact List.take_length
theorem name_tc (H:Rdr sg R ws p) (h:ws[p]? = some w) (hw:isName w = true) (hk:4 ≤ k):CallOk y.cx k (.ref 456) [.obj R.r] sg (some (.str w.str)) (setAt sg R (p + 1)):=(name_t H h hw).up hk
theorem name_fc (H:Rdr sg R ws p) (hn:nameAt ws p = false) (hk:4 ≤ k):CallOk y.cx k (.ref 456) [.obj R.r] sg none sg:=(name_f H hn).up hk
end
section
variable {C:Cx} {fi:FI} {k:Nat} {ro ro2:List (Str × D)} {sg sg1 sg':List Cell} {d1 d2:D} {o:Out}
theorem TS.tup2 {x z:Str} {p1 p2:Pos} {value:Expr} {n:Nat} {tpos pos:Pos} {rest:List Stmt} (h1:TE C fi k value ro sg (some (.tup [d1,d2])) sg1) (hx:fi.scope.names.lookup x = some .local) (hy:fi.scope.names.lookup z = some .local)
  (hs:swapsWithSole [.Tuple [.Name x p1,.Name z p2] n tpos] value pos.line fi.env = pure false) (hw:swappedStores [.Tuple [.Name x p1,.Name z p2] n tpos] value fi.env = pure none) (h2:TS C fi k rest (put z d2 (put x d1 ro)) sg1 o ro2 sg'):
  TS C fi k (.Assign [.Tuple [.Name x p1,.Name z p2] n tpos] value pos :: rest) ro sg o ro2 sg':=TS.cons (TX.tup rfl h1 (TA.tup2 hx hy) hs hw) h2
end
local macro_rules
 | `(tactic| walk_at "call")=>`(tactic| first
  | exact is_name_c (by assumption) (by omega)
  | exact name_tc (by assumption) (by assumption) (by assumption) (by omega)
  | exact name_fc (by assumption) (by assumption) (by omega))
section
variable {y:Cy} {sg sg1 sg2 sg':List Cell} {R:RI} {ws:List W} {p a k q:Nat} {args exD:List D} {ev:List Value} {w:W} {s:Str} {fi:FI} {ro ro2:List (Str × D)} {o:Out} {ds:List D} {r:Option D} {ys:List Str}
noncomputable abbrev figTab:List (Str × PyData):=[("ZERO",.str "ZERO"),("ZEROS",.str "ZERO"),("ZEROES",.str "ZERO"),("SPACE",.str "SPACE"),("SPACES",.str "SPACE"),("HIGH-VALUE",.str "HIGH"),("HIGH-VALUES",.str "HIGH"),("LOW-VALUE",.str "LOW"),("LOW-VALUES",.str "LOW"),("QUOTE",.str "QUOTE"),("QUOTES",.str "QUOTE")]
theorem fig_tab:KTab y.cx 176 figTab:=⟨by kernel_rfl,by decide +kernel,by rfl,_,_,by rfl⟩
theorem fig_no (w:W):(Spec.lookup (.str w.str) (figTab.map fun p=>(PyData.str p.1,p.2))).isSome = false:=by cases w <;> decide +kernel
theorem figure_ok (H:Rdr sg R ws p):CodeOk y.cx 3 (.ref 219) [.obj R.r] sg (some .none) sg:=by
 refine CodeOk.fnE (k:=2) (o:=.ret .none) (ro:=[("reader",.obj R.r)]) (by rfl) (by rfl) (by rfl) rfl ex0 (b_read_figure _) rfl H.und rfl ?_
 cases h:ws[p]? with
 | none=>
  have e:kindAt ws p "word" = false:=by unfold kindAt;rw [h]
  walk_at "body"
  ·with_reducible apply TS.ifT
   ·with_reducible apply TB.orT
    apply TB.not (b:=false)
    with_reducible apply TB.plain
    ·rw [←e]
     walk_at "te"
    ·exact fun _ _=>rfl
   ·rfl
   ·walk_at "ret"
   ·rfl
  ·exact List.take_length
 | some w=>
  have HT:=H.tok _ _ h
  walk_at "body"
  ·with_reducible apply TS.ifT
   ·with_reducible apply TB.orB
    ·walk_at "tb"
    ·intro _
     with_reducible apply TB.orB
     ·with_reducible apply TB.cmp
      ·walk_at "te"
      ·exact t_FIGURE_NAMES rfl
      ·exact op_notin_tab fig_tab (fig_no w)
      ·rfl
     ·intro _
      with_reducible exact TB.or0
   ·simp
   ·walk_at "ret"
   ·rfl
  ·exact List.take_length
theorem figure_c (H:Rdr sg R ws p) (hk:3 ≤ k):CallOk y.cx k (.ref 219) [.obj R.r] sg (some .none) sg:=(figure_ok H).up hk
theorem part_next_ok (H:Rdr sg R ws p) (h:signAt ws p "(" = false):CodeOk y.cx 4 (.ref 184) [.obj R.r] sg (some (.bool false)) sg:=by
 refine CodeOk.fnE (k:=3) (o:=.ret (.bool false)) (ro:=[("reader",.obj R.r)]) (by rfl) (by rfl) (by rfl) rfl ex0 (b_is_part_next _) rfl H.und rfl ?_
 walk_at "body"
 ·with_reducible apply TS.tup2
  ·walk_at "te"
  ·rfl
  ·rfl
  ·rfl
  ·rfl
  with_reducible apply TS.whileN
  ·with_reducible apply TW.done'
   ·walk_at "tb"
   ·rw [h];rfl
  ·walk_at "ret"
 ·exact List.take_length
theorem part_next_c (H:Rdr sg R ws p) (h:signAt ws p "(" = false) (hk:4 ≤ k):CallOk y.cx k (.ref 184) [.obj R.r] sg (some (.bool false)) sg:=(part_next_ok H h).up hk
theorem b_read_ref (P:Params):Bnd (theK P) 205 ["reader","read_expr"] 2 []:=fun S=>len2 fun a b=>by kernel_rfl
theorem ref_t (H:Rdr sg R ws p) (h:ws[p]? = some w) (hw:isName w = true) (h2:signAt ws (p + 1) "(" = false):CodeOk y.cx 6 (.ref 205) [.obj R.r,.aref] sg (some (.tup [.str "ref",.str w.str,.tup [],.tup [],.none])) (setAt sg R (p + 1)):=by
 have HS:=H.set (q:=p + 1) (List.getElem?_eq_some_iff.mp h).1
 have HA:Rdr (setAt sg R (p + 1) ++ [.list []]) R ws (p + 1):=HS.app (by intro c hc;rw [List.mem_singleton] at hc;subst hc;rfl)
 refine CodeOk.fnE (k:=5) (o:=.ret (.tup [.str "ref",.str w.str,.tup [],.tup [],.none])) (ro:=[("reader",.obj R.r),("read_expr",.aref)]) (by rfl) (by rfl) (by rfl) rfl ex0 (b_read_ref _) rfl H.und' rfl ?_
 walk_at "body"
 ·walk_at "set"
  with_reducible apply TS.set
  ·with_reducible apply TE.list
   ·walk_at "tes"
   ·decide
  ·rfl
  ·rfl
  ·with_reducible apply TS.whileN
   ·with_reducible apply TW.done'
    ·walk_at "tb"
    ·rfl
   ·walk_at "set"
    with_reducible apply TS.ifF
    ·with_reducible apply TB.andF
     with_reducible apply TB.plain
     ·rw [←h2]
      walk_at "te"
     ·exact fun _ _=>rfl
    ·rfl
    ·with_reducible apply TS.set
     ·apply TE.ifF' (b:=false)
      ·with_reducible apply TB.plain
       ·(with_reducible apply TE.call');(·rfl);(·walk_at "glob");(·walk_at "tes");(·walk_at "keep");(·exact part_next_c HA h2 (by omega))
       ·exact fun _ _=>rfl
      ·rfl
      ·walk_at "te"
     ·rfl
     ·rfl
     ·with_reducible apply TS.ret
      with_reducible apply TE.tup
      ·with_reducible apply TEs.cons
       ·rfl
       ·walk_at "te"
       ·with_reducible apply TEs.cons
        ·rfl
        ·walk_at "te"
        ·with_reducible apply TEs.cons
         ·rfl
         ·(with_reducible apply TE.callM');(·rfl);(·walk_at "glob");(·walk_at "tes");(·rfl);(·exact call_tuple_l get_last (by decide))
         ·walk_at "tes"
      ·show 5 ≤ sizeLine
       decide
 ·rw [←setAt_length (R:=R) (p:=p + 1) (sg:=sg)]
  exact take_app
theorem ref_f (H:Rdr sg R ws p) (hn:nameAt ws p = false):CodeOk y.cx 6 (.ref 205) [.obj R.r,.aref] sg none sg:=by
 refine CodeOk.fnE (k:=5) (o:=.exc) (ro:=[("reader",.obj R.r),("read_expr",.aref)]) (by rfl) (by rfl) (by rfl) rfl ex0 (b_read_ref _) rfl H.und rfl ?_
 walk_at "body"
 ·with_reducible apply TS.setX
  ·walk_at "te"
  ·rfl
 ·exact List.take_length
theorem ref_tc (H:Rdr sg R ws p) (h:ws[p]? = some w) (hw:isName w = true) (h2:signAt ws (p + 1) "(" = false) (hk:6 ≤ k):CallOk y.cx k (.ref 205) [.obj R.r,.aref] sg (some (.tup [.str "ref",.str w.str,.tup [],.tup [],.none])) (setAt sg R (p + 1)):=(ref_t H h hw h2).up hk
theorem ref_fc (H:Rdr sg R ws p) (hn:nameAt ws p = false) (hk:6 ≤ k):CallOk y.cx k (.ref 205) [.obj R.r,.aref] sg none sg:=(ref_f H hn).up hk
end
section
variable {C:Cx} {fi:FI} {k:Nat} {ro ro1 ro2 ro3:List (Str × D)} {sg sg1 sg2 sg3 sg':List Cell} {d d1 d2:D} {o:Out} {b b':Bool} {x x':Str} {i i':Int}
theorem TE.asD {e:Expr} (h:TE C fi k e ro sg (some d) sg') (q:d = d1):TE C fi k e ro sg (some d1) sg':=q ▸ h
theorem TE.asStr {e:Expr} (h:TE C fi k e ro sg (some (.str x)) sg') (q:x = x'):TE C fi k e ro sg (some (.str x')) sg':=q ▸ h
theorem TE.asInt {e:Expr} (h:TE C fi k e ro sg (some (.int i)) sg') (q:i = i'):TE C fi k e ro sg (some (.int i')) sg':=q ▸ h
theorem TE.asBool {e:Expr} (h:TE C fi k e ro sg (some (.bool b)) sg') (q:b = b'):TE C fi k e ro sg (some (.bool b')) sg':=q ▸ h
theorem TB.as {e:Expr} (h:TB C fi k e ro sg (some b) sg') (q:b = b'):TB C fi k e ro sg (some b') sg':=q ▸ h
theorem TF.stepR {v:Str} {vp:Pos} {body:List Stmt} {y left:Int} (hl:0 < left) (hk:fi.scope.names.lookup v = some .local) (h2:TS C fi k body (put v (.int y) ro) (sg ++ [.riter (y + 1) (left - 1)]) .next ro2 sg2) (h3:TF C fi k (.Name v vp) sg.length body ro2 sg2 o ro3 sg'):
  TF C fi k (.Name v vp) sg.length body ro (sg ++ [.riter y left]) o ro3 sg':=by
 have:=TN.range (C:=C) (fi:=fi) (k:=k) (x:=v) (p:=vp) (ro:=ro) (sg:=sg ++ [.riter y left]) (j:=sg.length) get_last hl
 rw [set_last] at this
 exact TF.step this (TA.name hk) h2 h3
theorem TF.doneR {target:Expr} {body:List Stmt} {y left:Int} (hl:left ≤ 0):TF C fi k target sg.length body ro (sg ++ [.riter y left]) .next ro (sg ++ [.dead]):=by
 have:=TN.rangeEnd (C:=C) (fi:=fi) (k:=k) (target:=target) (ro:=ro) (sg:=sg ++ [.riter y left]) (j:=sg.length) get_last hl
 rw [set_last] at this
 exact TF.done this
theorem TS.forR {r:Nat} {y z:Int} {target iter:Expr} {body rest:List Stmt} {pos:Pos} (h1:TE C fi k iter ro sg (some (.obj r)) sg1) (hs:sg1[r]? = some (.range y z)) (hsm:Builtin.Range.small y z 1 = true) (hf:∀x,foldedSetIterable iter fi.env x = pure x)
  (h:TF C fi k target sg1.length body ro (sg1 ++ [.riter y (Builtin.Range.rangeSize y z 1)]) .next ro2 sg2) (h3:TS C fi k rest ro2 sg2 o ro3 sg3):TS C fi k (.For target iter body [] pos :: rest) ro sg o ro3 sg3:=TS.cons (TX.forRange h1 hs hsm h hf rfl) h3
theorem TF.stepS {v:Str} {vp:Pos} {body:List Stmt} {j c:Nat} {z:Str} (hl:z.cps[j]? = some c) (hk:fi.scope.names.lookup v = some .local) (h2:TS C fi k body (put v (.str ⟨#[c]⟩) ro) (sg ++ [.siter z (j + 1)]) .next ro2 sg2) (h3:TF C fi k (.Name v vp) sg.length body ro2 sg2 o ro3 sg'):
  TF C fi k (.Name v vp) sg.length body ro (sg ++ [.siter z j]) o ro3 sg':=by
 have:=TN.str (C:=C) (fi:=fi) (k:=k) (x:=v) (p:=vp) (ro:=ro) (sg:=sg ++ [.siter z j]) (j:=sg.length) get_last hl
 rw [set_last] at this
 exact TF.step this (TA.name hk) h2 h3
theorem TF.doneS {target:Expr} {body:List Stmt} {j:Nat} {z:Str} (hl:z.cps[j]? = none):TF C fi k target sg.length body ro (sg ++ [.siter z j]) .next ro (sg ++ [.dead]):=by
 have:=TN.strEnd (C:=C) (fi:=fi) (k:=k) (target:=target) (ro:=ro) (sg:=sg ++ [.siter z j]) (j:=sg.length) get_last hl
 rw [set_last] at this
 exact TF.done this
theorem TS.forT {z:Str} {target iter:Expr} {body rest:List Stmt} {pos:Pos} (h1:TE C fi k iter ro sg (some (.str z)) sg1) (hy:z.cps.all (· < 128) = true) (hf:∀x,foldedSetIterable iter fi.env x = pure x)
  (h:TF C fi k target sg1.length body ro (sg1 ++ [.siter z 0]) .next ro2 sg2) (h3:TS C fi k rest ro2 sg2 o ro3 sg3):TS C fi k (.For target iter body [] pos :: rest) ro sg o ro3 sg3:=TS.cons (TX.forStr h1 hy h hf rfl) h3
end
local macro_rules
 | `(tactic| walk_at "tp")=>`(tactic| first | exact TP.none | ((apply TP.some);walk_at "te"))
local macro_rules
 | `(tactic| walk_at "op")=>`(tactic| first
  | exact op_add_str (by decide +kernel))
local macro_rules
 | `(tactic| walk_at "bcall")=>`(tactic| first
  | exact call_len_s (by decide +kernel))
local macro_rules
 | `(tactic| walk_at "te")=>`(tactic| ((with_reducible apply TE.sliceStr);(·walk_at "te");(·walk_at "tp");(·walk_at "tp");(·decide +kernel);(·exact fun _ _=>rfl)))
section
variable {y:Cy} {sg sg1 sg2 sg':List Cell} {R:RI} {ws:List W} {p a k q:Nat} {args exD:List D} {ev:List Value} {w:W} {s:Str} {fi:FI} {ro ro2:List (Str × D)} {o:Out} {ds:List D} {r:Option D} {ys:List Str} {m n:Int}
theorem b_worth (P:Params):Bnd (theK P) 124 ["figures"] 1 []:=fun S=>len1 fun a=>by kernel_rfl
theorem b_rd (P:Params):Bnd (theK P) 131 ["text"] 1 []:=fun S=>len1 fun a=>by kernel_rfl
theorem b_decimal (P:Params):Bnd (theK P) 89 ["units","scale"] 2 []:=fun S=>len2 fun a b=>by kernel_rfl
theorem b_negated (P:Params):Bnd (theK P) 96 ["a"] 1 []:=fun S=>len1 fun a=>by kernel_rfl
theorem decimal_ok (u:Und sg) (hn:0 ≤ n) (h:(decide (0 < n) && (m.fmod 10 == 0)) = false):CodeOk y.cx 1 (.ref 89) [.int m,.int n] sg (some (.tup [.int m,.int n])) sg:=by
 refine CodeOk.fnE (k:=0) (o:=.ret (.tup [.int m,.int n])) (ro:=[("units",.int m),("scale",.int n)]) (by rfl) (by rfl) (by rfl) rfl ex0 (b_decimal _) rfl u rfl ?_
 walk_at "body"
 ·with_reducible apply TS.ifF
  ·walk_at "tb"
  ·exact decide_eq_false (by omega)
  with_reducible apply TS.whileN
  ·with_reducible apply TW.done'
   ·with_reducible apply TB.andB
    ·walk_at "tb"
    ·intro _
     with_reducible apply TB.andB
     ·with_reducible apply TB.cmp
      ·with_reducible apply TE.binop
       ·walk_at "te"
       ·walk_at "te"
       ·exact op_mod_int (by decide)
      ·walk_at "te"
      ·walk_at "op"
      ·rfl
     ·intro _
      with_reducible exact TB.and0
   ·rw [Bool.and_true];exact h
  ·walk_at "ret"
 ·exact List.take_length
theorem decimal_c (u:Und sg) (hn:0 ≤ n) (h:(decide (0 < n) && (m.fmod 10 == 0)) = false) (hk:1 ≤ k):CallOk y.cx k (.ref 89) [.int m,.int n] sg (some (.tup [.int m,.int n])) sg:=(decimal_ok u hn h).up hk
theorem negated_ok (u:Und sg):CodeOk y.cx 1 (.ref 96) [.tup [.int m,.int n]] sg (some (.tup [.int (-m),.int n])) sg:=by
 refine CodeOk.fnE (k:=0) (o:=.ret (.tup [.int (-m),.int n])) (ro:=[("a",.tup [.int m,.int n])]) (by rfl) (by rfl) (by rfl) rfl ex0 (b_negated _) rfl u rfl ?_
 walk_at "body"
 ·walk_at "ret"
 ·exact List.take_length
theorem negated_c (u:Und sg) (hk:1 ≤ k):CallOk y.cx k (.ref 96) [.tup [.int m,.int n]] sg (some (.tup [.int (-m),.int n])) sg:=(negated_ok u).up hk
theorem worth_0 (u:Und sg):CodeOk y.cx 1 (.ref 124) [.str "0"] sg (some (.int 0)) sg:=by
 refine CodeOk.fnE (k:=0) (o:=.ret (.int 0)) (ro:=[("figures",.str "0")]) (by rfl) (by rfl) (by rfl) rfl ex0 (b_worth _) rfl u rfl ?_
 walk_at "body"
 ·walk_at "set"
  with_reducible apply TS.forT
  ·walk_at "te"
  ·decide +kernel
  ·exact fun _=>rfl
  ·apply TF.stepS (c:=48)
   ·decide +kernel
   ·rfl
   ·with_reducible apply TS.set
    ·apply TE.asInt (i':=0)
     ·with_reducible apply TE.binop
      ·with_reducible apply TE.binop
       ·walk_at "te"
       ·walk_at "te"
       ·exact op_mul_int (IntMulOk.of_left (by decide))
      ·apply TE.index (i:=0) (rest:=[])
       ·rfl
       ·rfl
       ·rfl
       ·exact t_FIGURES rfl
       ·walk_at "tes"
       ·decide +kernel
      ·exact op_add_int
     ·decide
    ·rfl
    ·rfl
    ·with_reducible exact TS.nil
   ·apply TF.doneS
    decide +kernel
  ·walk_at "ret"
 ·exact take_app
theorem worth_0c (u:Und sg) (hk:1 ≤ k):CallOk y.cx k (.ref 124) [.str "0"] sg (some (.int 0)) sg:=(worth_0 u).up hk
theorem worth_5 (u:Und sg):CodeOk y.cx 1 (.ref 124) [.str "5"] sg (some (.int 5)) sg:=by
 refine CodeOk.fnE (k:=0) (o:=.ret (.int 5)) (ro:=[("figures",.str "5")]) (by rfl) (by rfl) (by rfl) rfl ex0 (b_worth _) rfl u rfl ?_
 walk_at "body"
 ·walk_at "set"
  with_reducible apply TS.forT
  ·walk_at "te"
  ·decide +kernel
  ·exact fun _=>rfl
  ·apply TF.stepS (c:=53)
   ·decide +kernel
   ·rfl
   ·with_reducible apply TS.set
    ·apply TE.asInt (i':=5)
     ·with_reducible apply TE.binop
      ·with_reducible apply TE.binop
       ·walk_at "te"
       ·walk_at "te"
       ·exact op_mul_int (IntMulOk.of_left (by decide))
      ·apply TE.index (i:=5) (rest:=[])
       ·rfl
       ·rfl
       ·rfl
       ·exact t_FIGURES rfl
       ·walk_at "tes"
       ·decide +kernel
      ·exact op_add_int
     ·decide
    ·rfl
    ·rfl
    ·with_reducible exact TS.nil
   ·apply TF.doneS
    decide +kernel
  ·walk_at "ret"
 ·exact take_app
theorem worth_5c (u:Und sg) (hk:1 ≤ k):CallOk y.cx k (.ref 124) [.str "5"] sg (some (.int 5)) sg:=(worth_5 u).up hk
theorem worth_2 (u:Und sg):CodeOk y.cx 1 (.ref 124) [.str "2"] sg (some (.int 2)) sg:=by
 refine CodeOk.fnE (k:=0) (o:=.ret (.int 2)) (ro:=[("figures",.str "2")]) (by rfl) (by rfl) (by rfl) rfl ex0 (b_worth _) rfl u rfl ?_
 walk_at "body"
 ·walk_at "set"
  with_reducible apply TS.forT
  ·walk_at "te"
  ·decide +kernel
  ·exact fun _=>rfl
  ·apply TF.stepS (c:=50)
   ·decide +kernel
   ·rfl
   ·with_reducible apply TS.set
    ·apply TE.asInt (i':=2)
     ·with_reducible apply TE.binop
      ·with_reducible apply TE.binop
       ·walk_at "te"
       ·walk_at "te"
       ·exact op_mul_int (IntMulOk.of_left (by decide))
      ·apply TE.index (i:=2) (rest:=[])
       ·rfl
       ·rfl
       ·rfl
       ·exact t_FIGURES rfl
       ·walk_at "tes"
       ·decide +kernel
      ·exact op_add_int
     ·decide
    ·rfl
    ·rfl
    ·with_reducible exact TS.nil
   ·apply TF.doneS
    decide +kernel
  ·walk_at "ret"
 ·exact take_app
theorem worth_2c (u:Und sg) (hk:1 ≤ k):CallOk y.cx k (.ref 124) [.str "2"] sg (some (.int 2)) sg:=(worth_2 u).up hk
theorem worth_025 (u:Und sg):CodeOk y.cx 1 (.ref 124) [.str "025"] sg (some (.int 25)) sg:=by
 refine CodeOk.fnE (k:=0) (o:=.ret (.int 25)) (ro:=[("figures",.str "025")]) (by rfl) (by rfl) (by rfl) rfl ex0 (b_worth _) rfl u rfl ?_
 walk_at "body"
 ·walk_at "set"
  with_reducible apply TS.forT
  ·walk_at "te"
  ·decide +kernel
  ·exact fun _=>rfl
  ·apply TF.stepS (c:=48)
   ·decide +kernel
   ·rfl
   ·with_reducible apply TS.set
    ·apply TE.asInt (i':=0)
     ·with_reducible apply TE.binop
      ·with_reducible apply TE.binop
       ·walk_at "te"
       ·walk_at "te"
       ·exact op_mul_int (IntMulOk.of_left (by decide))
      ·apply TE.index (i:=0) (rest:=[])
       ·rfl
       ·rfl
       ·rfl
       ·exact t_FIGURES rfl
       ·walk_at "tes"
       ·decide +kernel
      ·exact op_add_int
     ·decide
    ·rfl
    ·rfl
    ·with_reducible exact TS.nil
   ·apply TF.stepS (c:=50)
    ·decide +kernel
    ·rfl
    ·with_reducible apply TS.set
     ·apply TE.asInt (i':=2)
      ·with_reducible apply TE.binop
       ·with_reducible apply TE.binop
        ·walk_at "te"
        ·walk_at "te"
        ·exact op_mul_int (IntMulOk.of_left (by decide))
       ·apply TE.index (i:=2) (rest:=[])
        ·rfl
        ·rfl
        ·rfl
        ·exact t_FIGURES rfl
        ·walk_at "tes"
        ·decide +kernel
       ·exact op_add_int
      ·decide
     ·rfl
     ·rfl
     ·with_reducible exact TS.nil
    ·apply TF.stepS (c:=53)
     ·decide +kernel
     ·rfl
     ·with_reducible apply TS.set
      ·apply TE.asInt (i':=25)
       ·with_reducible apply TE.binop
        ·with_reducible apply TE.binop
         ·walk_at "te"
         ·walk_at "te"
         ·exact op_mul_int (IntMulOk.of_left (by decide))
        ·apply TE.index (i:=5) (rest:=[])
         ·rfl
         ·rfl
         ·rfl
         ·exact t_FIGURES rfl
         ·walk_at "tes"
         ·decide +kernel
        ·exact op_add_int
       ·decide
      ·rfl
      ·rfl
      ·with_reducible exact TS.nil
     ·apply TF.doneS
      decide +kernel
  ·walk_at "ret"
 ·exact take_app
theorem worth_025c (u:Und sg) (hk:1 ≤ k):CallOk y.cx k (.ref 124) [.str "025"] sg (some (.int 25)) sg:=(worth_025 u).up hk
theorem worth_07 (u:Und sg):CodeOk y.cx 1 (.ref 124) [.str "07"] sg (some (.int 7)) sg:=by
 refine CodeOk.fnE (k:=0) (o:=.ret (.int 7)) (ro:=[("figures",.str "07")]) (by rfl) (by rfl) (by rfl) rfl ex0 (b_worth _) rfl u rfl ?_
 walk_at "body"
 ·walk_at "set"
  with_reducible apply TS.forT
  ·walk_at "te"
  ·decide +kernel
  ·exact fun _=>rfl
  ·apply TF.stepS (c:=48)
   ·decide +kernel
   ·rfl
   ·with_reducible apply TS.set
    ·apply TE.asInt (i':=0)
     ·with_reducible apply TE.binop
      ·with_reducible apply TE.binop
       ·walk_at "te"
       ·walk_at "te"
       ·exact op_mul_int (IntMulOk.of_left (by decide))
      ·apply TE.index (i:=0) (rest:=[])
       ·rfl
       ·rfl
       ·rfl
       ·exact t_FIGURES rfl
       ·walk_at "tes"
       ·decide +kernel
      ·exact op_add_int
     ·decide
    ·rfl
    ·rfl
    ·with_reducible exact TS.nil
   ·apply TF.stepS (c:=55)
    ·decide +kernel
    ·rfl
    ·with_reducible apply TS.set
     ·apply TE.asInt (i':=7)
      ·with_reducible apply TE.binop
       ·with_reducible apply TE.binop
        ·walk_at "te"
        ·walk_at "te"
        ·exact op_mul_int (IntMulOk.of_left (by decide))
       ·apply TE.index (i:=7) (rest:=[])
        ·rfl
        ·rfl
        ·rfl
        ·exact t_FIGURES rfl
        ·walk_at "tes"
        ·decide +kernel
       ·exact op_add_int
      ·decide
     ·rfl
     ·rfl
     ·with_reducible exact TS.nil
    ·apply TF.doneS
     decide +kernel
  ·walk_at "ret"
 ·exact take_app
theorem worth_07c (u:Und sg) (hk:1 ≤ k):CallOk y.cx k (.ref 124) [.str "07"] sg (some (.int 7)) sg:=(worth_07 u).up hk
theorem rd_v0 (u:Und sg):CodeOk y.cx 2 (.ref 131) [.str "0"] sg (some (.tup [.int 0,.int 0])) sg:=by
 refine CodeOk.fnE (k:=1) (o:=.ret (.tup [.int 0,.int 0])) (ro:=[("text",.str "0")]) (by rfl) (by rfl) (by rfl) rfl ex0 (b_rd _) rfl u rfl ?_
 have uA:Und ((sg ++ [.range 0 1]) ++ [.dead]):=und_app (und_app u (by intro c hc;rw [List.mem_singleton] at hc;subst hc;rfl)) (by intro c hc;rw [List.mem_singleton] at hc;subst hc;rfl)
 walk_at "body"
 ·with_reducible apply TS.set (d:=.int 0)
  ·apply TE.ifF' (b:=false)
   ·with_reducible apply TB.cmp
    ·apply TE.asStr (x':="0")
     ·walk_at "te"
     ·decide +kernel
    ·walk_at "te"
    ·exact op_in_tup (ys:=["+","-"])
    ·rfl
   ·rfl
   ·walk_at "te"
  ·rfl
  ·rfl
  with_reducible apply TS.swap2 (d1:=.str "0") (d2:=.str "")
  ·with_reducible apply TEs.cons
   ·rfl
   ·apply TE.asStr (x':="0")
    ·walk_at "te"
    ·decide +kernel
   ·walk_at "tes"
  ·rfl
  ·rfl
  ·rfl
  ·rfl
  with_reducible apply TS.ifF
  ·with_reducible apply TB.cmp
   ·walk_at "te"
   ·walk_at "te"
   ·exact op_in_str
   ·rfl
  ·decide +kernel
  with_reducible apply TS.ifF
  ·with_reducible apply TB.cmp
   ·apply TE.asStr (x':="0")
    ·walk_at "te"
    ·decide +kernel
   ·walk_at "te"
   ·walk_at "op"
   ·rfl
  ·decide +kernel
  with_reducible apply TS.forR
  ·apply TE.callM' (ds:=[.int 0,.int 1])
   ·rfl
   ·exact t_range rfl
   ·with_reducible apply TEs.cons
    ·rfl
    ·walk_at "te"
    ·with_reducible apply TEs.cons
     ·rfl
     ·apply TE.asInt (i':=1)
      ·walk_at "te"
      ·decide +kernel
     ·walk_at "tes"
   ·rfl
   ·exact call_range
  ·exact get_last
  ·decide +kernel
  ·exact fun _=>rfl
  ·apply TF.stepR
   ·decide +kernel
   ·rfl
   ·with_reducible apply TS.ifF
    ·with_reducible apply TB.andF
     apply TB.as (b':=false)
     ·with_reducible apply TB.cmp
      ·apply TE.asStr (x':="0")
       ·apply TE.asD
        ·with_reducible apply TE.sub
         ·walk_at "te"
         ·walk_at "te"
         ·exact sub_str (c:=48) (fun _ _=>rfl) (by decide +kernel) (by decide +kernel)
        ·rfl
       ·decide +kernel
      ·exact t_FIGURES rfl
      ·exact op_notin_str
      ·rfl
     ·decide +kernel
    ·rfl
    ·with_reducible exact TS.nil
   ·apply TF.doneR
    decide +kernel
  with_reducible apply TS.set (d:=.int 0)
  ·apply TE.call' (ds:=[.str "0"])
   ·rfl
   ·walk_at "glob"
   ·with_reducible apply TEs.cons
    ·rfl
    ·apply TE.asStr (x':="0")
     ·walk_at "te"
     ·decide +kernel
    ·walk_at "tes"
   ·walk_at "keep"
   ·exact worth_0c uA (by omega)
  ·rfl
  ·rfl
  with_reducible apply TS.ret
  apply TE.call' (ds:=[.int 0,.int 0])
  ·rfl
  ·walk_at "glob"
  ·with_reducible apply TEs.cons
   ·rfl
   ·apply TE.ifF' (b:=false)
    ·with_reducible apply TB.cmp
     ·apply TE.asStr (x':="0")
      ·walk_at "te"
      ·decide +kernel
     ·walk_at "te"
     ·exact op_eq_str
     ·rfl
    ·rfl
    ·walk_at "te"
   ·with_reducible apply TEs.cons
    ·rfl
    ·apply TE.asInt (i':=0)
     ·walk_at "te"
     ·decide +kernel
    ·walk_at "tes"
  ·walk_at "keep"
  ·exact decimal_c uA (by decide) (by decide) (by omega)
 ·rw [List.append_assoc]
  exact take_app
theorem rd_v5 (u:Und sg):CodeOk y.cx 2 (.ref 131) [.str "5"] sg (some (.tup [.int 5,.int 0])) sg:=by
 refine CodeOk.fnE (k:=1) (o:=.ret (.tup [.int 5,.int 0])) (ro:=[("text",.str "5")]) (by rfl) (by rfl) (by rfl) rfl ex0 (b_rd _) rfl u rfl ?_
 have uA:Und ((sg ++ [.range 0 1]) ++ [.dead]):=und_app (und_app u (by intro c hc;rw [List.mem_singleton] at hc;subst hc;rfl)) (by intro c hc;rw [List.mem_singleton] at hc;subst hc;rfl)
 walk_at "body"
 ·with_reducible apply TS.set (d:=.int 0)
  ·apply TE.ifF' (b:=false)
   ·with_reducible apply TB.cmp
    ·apply TE.asStr (x':="5")
     ·walk_at "te"
     ·decide +kernel
    ·walk_at "te"
    ·exact op_in_tup (ys:=["+","-"])
    ·rfl
   ·rfl
   ·walk_at "te"
  ·rfl
  ·rfl
  with_reducible apply TS.swap2 (d1:=.str "5") (d2:=.str "")
  ·with_reducible apply TEs.cons
   ·rfl
   ·apply TE.asStr (x':="5")
    ·walk_at "te"
    ·decide +kernel
   ·walk_at "tes"
  ·rfl
  ·rfl
  ·rfl
  ·rfl
  with_reducible apply TS.ifF
  ·with_reducible apply TB.cmp
   ·walk_at "te"
   ·walk_at "te"
   ·exact op_in_str
   ·rfl
  ·decide +kernel
  with_reducible apply TS.ifF
  ·with_reducible apply TB.cmp
   ·apply TE.asStr (x':="5")
    ·walk_at "te"
    ·decide +kernel
   ·walk_at "te"
   ·walk_at "op"
   ·rfl
  ·decide +kernel
  with_reducible apply TS.forR
  ·apply TE.callM' (ds:=[.int 0,.int 1])
   ·rfl
   ·exact t_range rfl
   ·with_reducible apply TEs.cons
    ·rfl
    ·walk_at "te"
    ·with_reducible apply TEs.cons
     ·rfl
     ·apply TE.asInt (i':=1)
      ·walk_at "te"
      ·decide +kernel
     ·walk_at "tes"
   ·rfl
   ·exact call_range
  ·exact get_last
  ·decide +kernel
  ·exact fun _=>rfl
  ·apply TF.stepR
   ·decide +kernel
   ·rfl
   ·with_reducible apply TS.ifF
    ·with_reducible apply TB.andF
     apply TB.as (b':=false)
     ·with_reducible apply TB.cmp
      ·apply TE.asStr (x':="5")
       ·apply TE.asD
        ·with_reducible apply TE.sub
         ·walk_at "te"
         ·walk_at "te"
         ·exact sub_str (c:=53) (fun _ _=>rfl) (by decide +kernel) (by decide +kernel)
        ·rfl
       ·decide +kernel
      ·exact t_FIGURES rfl
      ·exact op_notin_str
      ·rfl
     ·decide +kernel
    ·rfl
    ·with_reducible exact TS.nil
   ·apply TF.doneR
    decide +kernel
  with_reducible apply TS.set (d:=.int 5)
  ·apply TE.call' (ds:=[.str "5"])
   ·rfl
   ·walk_at "glob"
   ·with_reducible apply TEs.cons
    ·rfl
    ·apply TE.asStr (x':="5")
     ·walk_at "te"
     ·decide +kernel
    ·walk_at "tes"
   ·walk_at "keep"
   ·exact worth_5c uA (by omega)
  ·rfl
  ·rfl
  with_reducible apply TS.ret
  apply TE.call' (ds:=[.int 5,.int 0])
  ·rfl
  ·walk_at "glob"
  ·with_reducible apply TEs.cons
   ·rfl
   ·apply TE.ifF' (b:=false)
    ·with_reducible apply TB.cmp
     ·apply TE.asStr (x':="5")
      ·walk_at "te"
      ·decide +kernel
     ·walk_at "te"
     ·exact op_eq_str
     ·rfl
    ·rfl
    ·walk_at "te"
   ·with_reducible apply TEs.cons
    ·rfl
    ·apply TE.asInt (i':=0)
     ·walk_at "te"
     ·decide +kernel
    ·walk_at "tes"
  ·walk_at "keep"
  ·exact decimal_c uA (by decide) (by decide) (by omega)
 ·rw [List.append_assoc]
  exact take_app
theorem rd_v2 (u:Und sg):CodeOk y.cx 2 (.ref 131) [.str "2"] sg (some (.tup [.int 2,.int 0])) sg:=by
 refine CodeOk.fnE (k:=1) (o:=.ret (.tup [.int 2,.int 0])) (ro:=[("text",.str "2")]) (by rfl) (by rfl) (by rfl) rfl ex0 (b_rd _) rfl u rfl ?_
 have uA:Und ((sg ++ [.range 0 1]) ++ [.dead]):=und_app (und_app u (by intro c hc;rw [List.mem_singleton] at hc;subst hc;rfl)) (by intro c hc;rw [List.mem_singleton] at hc;subst hc;rfl)
 walk_at "body"
 ·with_reducible apply TS.set (d:=.int 0)
  ·apply TE.ifF' (b:=false)
   ·with_reducible apply TB.cmp
    ·apply TE.asStr (x':="2")
     ·walk_at "te"
     ·decide +kernel
    ·walk_at "te"
    ·exact op_in_tup (ys:=["+","-"])
    ·rfl
   ·rfl
   ·walk_at "te"
  ·rfl
  ·rfl
  with_reducible apply TS.swap2 (d1:=.str "2") (d2:=.str "")
  ·with_reducible apply TEs.cons
   ·rfl
   ·apply TE.asStr (x':="2")
    ·walk_at "te"
    ·decide +kernel
   ·walk_at "tes"
  ·rfl
  ·rfl
  ·rfl
  ·rfl
  with_reducible apply TS.ifF
  ·with_reducible apply TB.cmp
   ·walk_at "te"
   ·walk_at "te"
   ·exact op_in_str
   ·rfl
  ·decide +kernel
  with_reducible apply TS.ifF
  ·with_reducible apply TB.cmp
   ·apply TE.asStr (x':="2")
    ·walk_at "te"
    ·decide +kernel
   ·walk_at "te"
   ·walk_at "op"
   ·rfl
  ·decide +kernel
  with_reducible apply TS.forR
  ·apply TE.callM' (ds:=[.int 0,.int 1])
   ·rfl
   ·exact t_range rfl
   ·with_reducible apply TEs.cons
    ·rfl
    ·walk_at "te"
    ·with_reducible apply TEs.cons
     ·rfl
     ·apply TE.asInt (i':=1)
      ·walk_at "te"
      ·decide +kernel
     ·walk_at "tes"
   ·rfl
   ·exact call_range
  ·exact get_last
  ·decide +kernel
  ·exact fun _=>rfl
  ·apply TF.stepR
   ·decide +kernel
   ·rfl
   ·with_reducible apply TS.ifF
    ·with_reducible apply TB.andF
     apply TB.as (b':=false)
     ·with_reducible apply TB.cmp
      ·apply TE.asStr (x':="2")
       ·apply TE.asD
        ·with_reducible apply TE.sub
         ·walk_at "te"
         ·walk_at "te"
         ·exact sub_str (c:=50) (fun _ _=>rfl) (by decide +kernel) (by decide +kernel)
        ·rfl
       ·decide +kernel
      ·exact t_FIGURES rfl
      ·exact op_notin_str
      ·rfl
     ·decide +kernel
    ·rfl
    ·with_reducible exact TS.nil
   ·apply TF.doneR
    decide +kernel
  with_reducible apply TS.set (d:=.int 2)
  ·apply TE.call' (ds:=[.str "2"])
   ·rfl
   ·walk_at "glob"
   ·with_reducible apply TEs.cons
    ·rfl
    ·apply TE.asStr (x':="2")
     ·walk_at "te"
     ·decide +kernel
    ·walk_at "tes"
   ·walk_at "keep"
   ·exact worth_2c uA (by omega)
  ·rfl
  ·rfl
  with_reducible apply TS.ret
  apply TE.call' (ds:=[.int 2,.int 0])
  ·rfl
  ·walk_at "glob"
  ·with_reducible apply TEs.cons
   ·rfl
   ·apply TE.ifF' (b:=false)
    ·with_reducible apply TB.cmp
     ·apply TE.asStr (x':="2")
      ·walk_at "te"
      ·decide +kernel
     ·walk_at "te"
     ·exact op_eq_str
     ·rfl
    ·rfl
    ·walk_at "te"
   ·with_reducible apply TEs.cons
    ·rfl
    ·apply TE.asInt (i':=0)
     ·walk_at "te"
     ·decide +kernel
    ·walk_at "tes"
  ·walk_at "keep"
  ·exact decimal_c uA (by decide) (by decide) (by omega)
 ·rw [List.append_assoc]
  exact take_app
theorem rd_v25 (u:Und sg):CodeOk y.cx 2 (.ref 131) [.str "0.25"] sg (some (.tup [.int 25,.int 2])) sg:=by
 refine CodeOk.fnE (k:=1) (o:=.ret (.tup [.int 25,.int 2])) (ro:=[("text",.str "0.25")]) (by rfl) (by rfl) (by rfl) rfl ex0 (b_rd _) rfl u rfl ?_
 have uA:Und ((sg ++ [.range 0 4]) ++ [.dead]):=und_app (und_app u (by intro c hc;rw [List.mem_singleton] at hc;subst hc;rfl)) (by intro c hc;rw [List.mem_singleton] at hc;subst hc;rfl)
 walk_at "body"
 ·with_reducible apply TS.set (d:=.int 0)
  ·apply TE.ifF' (b:=false)
   ·with_reducible apply TB.cmp
    ·apply TE.asStr (x':="0")
     ·walk_at "te"
     ·decide +kernel
    ·walk_at "te"
    ·exact op_in_tup (ys:=["+","-"])
    ·rfl
   ·rfl
   ·walk_at "te"
  ·rfl
  ·rfl
  with_reducible apply TS.swap2 (d1:=.str "0.25") (d2:=.str "")
  ·with_reducible apply TEs.cons
   ·rfl
   ·apply TE.asStr (x':="0.25")
    ·walk_at "te"
    ·decide +kernel
   ·walk_at "tes"
  ·rfl
  ·rfl
  ·rfl
  ·rfl
  with_reducible apply TS.ifTn
  ·with_reducible apply TB.cmp
   ·walk_at "te"
   ·walk_at "te"
   ·exact op_in_str
   ·rfl
  ·decide +kernel
  ·with_reducible apply TS.set (d:=.int 1)
   ·apply TE.index (i:=1) (rest:=[])
    ·rfl
    ·rfl
    ·rfl
    ·walk_at "te"
    ·walk_at "tes"
    ·decide +kernel
   ·rfl
   ·rfl
   with_reducible apply TS.swap2 (d1:=.str "0") (d2:=.str "25")
   ·with_reducible apply TEs.cons
    ·rfl
    ·apply TE.asStr (x':="0")
     ·walk_at "te"
     ·decide +kernel
    ·with_reducible apply TEs.cons
     ·rfl
     ·apply TE.asStr (x':="25")
      ·walk_at "te"
      ·decide +kernel
     ·walk_at "tes"
   ·rfl
   ·rfl
   ·rfl
   ·rfl
   with_reducible apply TS.ifF
   ·walk_at "tb"
   ·decide +kernel
   ·with_reducible exact TS.nil
  with_reducible apply TS.ifF
  ·with_reducible apply TB.cmp
   ·apply TE.asStr (x':="025")
    ·walk_at "te"
    ·decide +kernel
   ·walk_at "te"
   ·walk_at "op"
   ·rfl
  ·decide +kernel
  with_reducible apply TS.forR
  ·apply TE.callM' (ds:=[.int 0,.int 4])
   ·rfl
   ·exact t_range rfl
   ·with_reducible apply TEs.cons
    ·rfl
    ·walk_at "te"
    ·with_reducible apply TEs.cons
     ·rfl
     ·apply TE.asInt (i':=4)
      ·walk_at "te"
      ·decide +kernel
     ·walk_at "tes"
   ·rfl
   ·exact call_range
  ·exact get_last
  ·decide +kernel
  ·exact fun _=>rfl
  ·apply TF.stepR
   ·decide +kernel
   ·rfl
   ·with_reducible apply TS.ifF
    ·with_reducible apply TB.andF
     apply TB.as (b':=false)
     ·with_reducible apply TB.cmp
      ·apply TE.asStr (x':="0")
       ·apply TE.asD
        ·with_reducible apply TE.sub
         ·walk_at "te"
         ·walk_at "te"
         ·exact sub_str (c:=48) (fun _ _=>rfl) (by decide +kernel) (by decide +kernel)
        ·rfl
       ·decide +kernel
      ·exact t_FIGURES rfl
      ·exact op_notin_str
      ·rfl
     ·decide +kernel
    ·rfl
    ·with_reducible exact TS.nil
   ·apply TF.stepR
    ·decide +kernel
    ·rfl
    ·with_reducible apply TS.ifF
     ·with_reducible apply TB.andB
      ·with_reducible apply TB.cmp
       ·apply TE.asStr (x':=".")
        ·apply TE.asD
         ·with_reducible apply TE.sub
          ·walk_at "te"
          ·walk_at "te"
          ·exact sub_str (c:=46) (fun _ _=>rfl) (by decide +kernel) (by decide +kernel)
         ·rfl
        ·decide +kernel
       ·exact t_FIGURES rfl
       ·exact op_notin_str
       ·rfl
      ·intro _
       with_reducible apply TB.andB
       ·with_reducible apply TB.cmp
        ·walk_at "te"
        ·walk_at "te"
        ·walk_at "op"
        ·rfl
       ·intro _
        with_reducible exact TB.and0
     ·decide +kernel
     ·with_reducible exact TS.nil
    ·apply TF.stepR
     ·decide +kernel
     ·rfl
     ·with_reducible apply TS.ifF
      ·with_reducible apply TB.andF
       apply TB.as (b':=false)
       ·with_reducible apply TB.cmp
        ·apply TE.asStr (x':="2")
         ·apply TE.asD
          ·with_reducible apply TE.sub
           ·walk_at "te"
           ·walk_at "te"
           ·exact sub_str (c:=50) (fun _ _=>rfl) (by decide +kernel) (by decide +kernel)
          ·rfl
         ·decide +kernel
        ·exact t_FIGURES rfl
        ·exact op_notin_str
        ·rfl
       ·decide +kernel
      ·rfl
      ·with_reducible exact TS.nil
     ·apply TF.stepR
      ·decide +kernel
      ·rfl
      ·with_reducible apply TS.ifF
       ·with_reducible apply TB.andF
        apply TB.as (b':=false)
        ·with_reducible apply TB.cmp
         ·apply TE.asStr (x':="5")
          ·apply TE.asD
           ·with_reducible apply TE.sub
            ·walk_at "te"
            ·walk_at "te"
            ·exact sub_str (c:=53) (fun _ _=>rfl) (by decide +kernel) (by decide +kernel)
           ·rfl
          ·decide +kernel
         ·exact t_FIGURES rfl
         ·exact op_notin_str
         ·rfl
        ·decide +kernel
       ·rfl
       ·with_reducible exact TS.nil
      ·apply TF.doneR
       decide +kernel
  with_reducible apply TS.set (d:=.int 25)
  ·apply TE.call' (ds:=[.str "025"])
   ·rfl
   ·walk_at "glob"
   ·with_reducible apply TEs.cons
    ·rfl
    ·apply TE.asStr (x':="025")
     ·walk_at "te"
     ·decide +kernel
    ·walk_at "tes"
   ·walk_at "keep"
   ·exact worth_025c uA (by omega)
  ·rfl
  ·rfl
  with_reducible apply TS.ret
  apply TE.call' (ds:=[.int 25,.int 2])
  ·rfl
  ·walk_at "glob"
  ·with_reducible apply TEs.cons
   ·rfl
   ·apply TE.ifF' (b:=false)
    ·with_reducible apply TB.cmp
     ·apply TE.asStr (x':="0")
      ·walk_at "te"
      ·decide +kernel
     ·walk_at "te"
     ·exact op_eq_str
     ·rfl
    ·rfl
    ·walk_at "te"
   ·with_reducible apply TEs.cons
    ·rfl
    ·apply TE.asInt (i':=2)
     ·walk_at "te"
     ·decide +kernel
    ·walk_at "tes"
  ·walk_at "keep"
  ·exact decimal_c uA (by decide) (by decide) (by omega)
 ·rw [List.append_assoc]
  exact take_app
theorem rd_v07 (u:Und sg):CodeOk y.cx 2 (.ref 131) [.str "0.7"] sg (some (.tup [.int 7,.int 1])) sg:=by
 refine CodeOk.fnE (k:=1) (o:=.ret (.tup [.int 7,.int 1])) (ro:=[("text",.str "0.7")]) (by rfl) (by rfl) (by rfl) rfl ex0 (b_rd _) rfl u rfl ?_
 have uA:Und ((sg ++ [.range 0 3]) ++ [.dead]):=und_app (und_app u (by intro c hc;rw [List.mem_singleton] at hc;subst hc;rfl)) (by intro c hc;rw [List.mem_singleton] at hc;subst hc;rfl)
 walk_at "body"
 ·with_reducible apply TS.set (d:=.int 0)
  ·apply TE.ifF' (b:=false)
   ·with_reducible apply TB.cmp
    ·apply TE.asStr (x':="0")
     ·walk_at "te"
     ·decide +kernel
    ·walk_at "te"
    ·exact op_in_tup (ys:=["+","-"])
    ·rfl
   ·rfl
   ·walk_at "te"
  ·rfl
  ·rfl
  with_reducible apply TS.swap2 (d1:=.str "0.7") (d2:=.str "")
  ·with_reducible apply TEs.cons
   ·rfl
   ·apply TE.asStr (x':="0.7")
    ·walk_at "te"
    ·decide +kernel
   ·walk_at "tes"
  ·rfl
  ·rfl
  ·rfl
  ·rfl
  with_reducible apply TS.ifTn
  ·with_reducible apply TB.cmp
   ·walk_at "te"
   ·walk_at "te"
   ·exact op_in_str
   ·rfl
  ·decide +kernel
  ·with_reducible apply TS.set (d:=.int 1)
   ·apply TE.index (i:=1) (rest:=[])
    ·rfl
    ·rfl
    ·rfl
    ·walk_at "te"
    ·walk_at "tes"
    ·decide +kernel
   ·rfl
   ·rfl
   with_reducible apply TS.swap2 (d1:=.str "0") (d2:=.str "7")
   ·with_reducible apply TEs.cons
    ·rfl
    ·apply TE.asStr (x':="0")
     ·walk_at "te"
     ·decide +kernel
    ·with_reducible apply TEs.cons
     ·rfl
     ·apply TE.asStr (x':="7")
      ·walk_at "te"
      ·decide +kernel
     ·walk_at "tes"
   ·rfl
   ·rfl
   ·rfl
   ·rfl
   with_reducible apply TS.ifF
   ·walk_at "tb"
   ·decide +kernel
   ·with_reducible exact TS.nil
  with_reducible apply TS.ifF
  ·with_reducible apply TB.cmp
   ·apply TE.asStr (x':="07")
    ·walk_at "te"
    ·decide +kernel
   ·walk_at "te"
   ·walk_at "op"
   ·rfl
  ·decide +kernel
  with_reducible apply TS.forR
  ·apply TE.callM' (ds:=[.int 0,.int 3])
   ·rfl
   ·exact t_range rfl
   ·with_reducible apply TEs.cons
    ·rfl
    ·walk_at "te"
    ·with_reducible apply TEs.cons
     ·rfl
     ·apply TE.asInt (i':=3)
      ·walk_at "te"
      ·decide +kernel
     ·walk_at "tes"
   ·rfl
   ·exact call_range
  ·exact get_last
  ·decide +kernel
  ·exact fun _=>rfl
  ·apply TF.stepR
   ·decide +kernel
   ·rfl
   ·with_reducible apply TS.ifF
    ·with_reducible apply TB.andF
     apply TB.as (b':=false)
     ·with_reducible apply TB.cmp
      ·apply TE.asStr (x':="0")
       ·apply TE.asD
        ·with_reducible apply TE.sub
         ·walk_at "te"
         ·walk_at "te"
         ·exact sub_str (c:=48) (fun _ _=>rfl) (by decide +kernel) (by decide +kernel)
        ·rfl
       ·decide +kernel
      ·exact t_FIGURES rfl
      ·exact op_notin_str
      ·rfl
     ·decide +kernel
    ·rfl
    ·with_reducible exact TS.nil
   ·apply TF.stepR
    ·decide +kernel
    ·rfl
    ·with_reducible apply TS.ifF
     ·with_reducible apply TB.andB
      ·with_reducible apply TB.cmp
       ·apply TE.asStr (x':=".")
        ·apply TE.asD
         ·with_reducible apply TE.sub
          ·walk_at "te"
          ·walk_at "te"
          ·exact sub_str (c:=46) (fun _ _=>rfl) (by decide +kernel) (by decide +kernel)
         ·rfl
        ·decide +kernel
       ·exact t_FIGURES rfl
       ·exact op_notin_str
       ·rfl
      ·intro _
       with_reducible apply TB.andB
       ·with_reducible apply TB.cmp
        ·walk_at "te"
        ·walk_at "te"
        ·walk_at "op"
        ·rfl
       ·intro _
        with_reducible exact TB.and0
     ·decide +kernel
     ·with_reducible exact TS.nil
    ·apply TF.stepR
     ·decide +kernel
     ·rfl
     ·with_reducible apply TS.ifF
      ·with_reducible apply TB.andF
       apply TB.as (b':=false)
       ·with_reducible apply TB.cmp
        ·apply TE.asStr (x':="7")
         ·apply TE.asD
          ·with_reducible apply TE.sub
           ·walk_at "te"
           ·walk_at "te"
           ·exact sub_str (c:=55) (fun _ _=>rfl) (by decide +kernel) (by decide +kernel)
          ·rfl
         ·decide +kernel
        ·exact t_FIGURES rfl
        ·exact op_notin_str
        ·rfl
       ·decide +kernel
      ·rfl
      ·with_reducible exact TS.nil
     ·apply TF.doneR
      decide +kernel
  with_reducible apply TS.set (d:=.int 7)
  ·apply TE.call' (ds:=[.str "07"])
   ·rfl
   ·walk_at "glob"
   ·with_reducible apply TEs.cons
    ·rfl
    ·apply TE.asStr (x':="07")
     ·walk_at "te"
     ·decide +kernel
    ·walk_at "tes"
   ·walk_at "keep"
   ·exact worth_07c uA (by omega)
  ·rfl
  ·rfl
  with_reducible apply TS.ret
  apply TE.call' (ds:=[.int 7,.int 1])
  ·rfl
  ·walk_at "glob"
  ·with_reducible apply TEs.cons
   ·rfl
   ·apply TE.ifF' (b:=false)
    ·with_reducible apply TB.cmp
     ·apply TE.asStr (x':="0")
      ·walk_at "te"
      ·decide +kernel
     ·walk_at "te"
     ·exact op_eq_str
     ·rfl
    ·rfl
    ·walk_at "te"
   ·with_reducible apply TEs.cons
    ·rfl
    ·apply TE.asInt (i':=1)
     ·walk_at "te"
     ·decide +kernel
    ·walk_at "tes"
  ·walk_at "keep"
  ·exact decimal_c uA (by decide) (by decide) (by omega)
 ·rw [List.append_assoc]
  exact take_app
theorem rd_c (h:isNum w = true) (u:Und sg) (hk:2 ≤ k):CallOk y.cx k (.ref 131) [.str w.str] sg (some (.tup [.int (numOf w).1,.int (numOf w).2])) sg:=by
 cases w <;> first
  | (cases h;done)
  | exact (rd_v0 u).up hk
  | exact (rd_v5 u).up hk
  | exact (rd_v2 u).up hk
  | exact (rd_v25 u).up hk
  | exact (rd_v07 u).up hk
end
section
variable {C:Cx} {fi:FI} {k:Nat} {outer:List Env} {h₀ h h':Heap} {th₀ th:List Addr} {ro ro1 ro2 ro3 ro':List (Str × D)} {sg sg1 sg2 sg3 sg':List Cell} {d d1 d2:D} {o:Out} {b:Bool}
theorem TE.ifTX {t b' f:Expr} {pos:Pos} (h:TB C fi k t ro sg (some b) sg1) (hb:b = true) (h2:TE C fi k b' ro sg1 none sg'):TE C fi k (.IfExp t b' f pos) ro sg none sg':=by
 subst hb
 intro A outer h₀ th₀ th s Q E a I post
 refine wpAny_IfExp (h _ _ _ _ _ _ _ _ a I fun h' tk tl J kp n=>?_)
 rw [if_pos rfl]
 refine h2 _ _ _ _ _ _ _ _ a J fun e h'' tk' tl' n' J' F'=>?_
 rw [List.append_assoc] at J' F'
 exact post e h'' tk' _ n' J' F'
theorem InF.weak (I:InF C fi outer h₀ th₀ th sg ro h):InF C fi outer h₀ th₀ th sg [] h:=
 ⟨I.hi,I.kp,I.pre,I.base,I.basP,I.lo,I.lth,I.lf,I.lk,let ⟨m,hm,_⟩:=I.ns;⟨m,hm,fun x d e=>by cases e⟩,I.cl⟩
theorem TS.weak {ss:List Stmt} (h:TS C fi k ss ro sg o ro' sg'):TS C fi k ss ro sg o [] sg':=by
 intro A outer h₀ th₀ th s Q E a I post
 refine h A outer h₀ th₀ th s Q E a I ?_
 cases o with
 | next=>exact fun h' tk tl J=>post h' tk tl J.weak
 | brk=>exact fun h' tk tl J=>post h' tk tl J.weak
 | cont=>exact fun h' tk tl J=>post h' tk tl J.weak
 | ret d=>exact fun v h' tk tl J r=>post v h' tk tl J.weak r
 | exc=>exact fun e h' tk tl n J F=>post e h' tk tl n J.weak F
theorem TS.w {ss:List Stmt} (h:∃ro',TS C fi k ss ro sg o ro' sg'):TS C fi k ss ro sg o [] sg':=let ⟨_,h⟩:=h;h.weak
theorem TS.whileE {test:Expr} {body rest:List Stmt} {pos:Pos} {Sr:List (Str × D) → List (Str × D)} (h:∃e,TW C fi k test body ro sg .next (Sr e) sg2) (h3:∀e,TS C fi k rest (Sr e) sg2 o [] sg3):TS C fi k (.While test body [] pos :: rest) ro sg o [] sg3:=by
 obtain ⟨e,h⟩:=h
 exact TS.whileN h (h3 e)
theorem TS.whileX {test:Expr} {body rest:List Stmt} {pos:Pos} (h:∃r,TW C fi k test body ro sg .exc r sg2):TS C fi k (.While test body [] pos :: rest) ro sg .exc [] sg2:=by
 obtain ⟨r,h⟩:=h
 exact (TS.stop' (TX.while h rfl) rfl:TS C fi k (.While test body [] pos :: rest) ro sg .exc r sg2).weak
theorem TS.retE {e:Expr} {pos:Pos} {rest:List Stmt} (h:TE C fi k e ro sg (some d) sg1):TS C fi k (.Return (some e) pos :: rest) ro sg (.ret d) [] sg1:=(TS.ret h).weak
end
theorem CodeOk.fnL {C:Cx} {k:Nat} {f:Addr} {args:List D} {o:Out} {r:Option D} {ro:List (Str × D)} {sg sgo sg':List Cell} {ev:List Value} {exD:List D}
  {name qual:Str} {params:Arguments} {body:List Stmt} {scope:Scope} {dV kV doc pm cdv ct oc:Value} {an od:Option Addr} {osl:Array (Option Value)}
  (ho:C.K.lookup f = some ⟨oc,od,.func (fnOf name qual params body scope dV kV doc pm an cdv ct),osl⟩) (hcd:codeIn C.K cdv qual = true) (hok:fnOk (ro.map (·.1)) scope = true)
  (hro2:ro.map (·.2) = args ++ exD) (hex:∀th h,RepL th h exD ev) (hb:Bnd C.K f (ro.map (·.1)) args.length ev)
  (hro:retOf o = some r) (htk:sg'.take sg.length = sgo) (hu:sgo.all (Cell.under sg.length) = true) (hr:r.all (D.under sg.length) = true)
  (hbody:∀L,TS C ⟨qual,scope,L,f,cdv,[],[]⟩ k body ro sg o [] sg'):CodeOk C (k + 1) (.ref f) args sg r sgo:=
 CodeOk.fnN ho hcd hok hro2 hex hb hro htk hu hr ⟨[],hbody⟩
section
variable {y:Cy} {sg sg1 sg2 sg':List Cell} {R:RI} {ws:List W} {p a k q:Nat} {args exD:List D} {ev:List Value} {w:W} {s:Str} {fi:FI} {ro ro2:List (Str × D)} {o:Out} {ds:List D} {r:Option D} {ys:List Str} {m n:Int}
noncomputable def Ex.toD:Ex → D
 | .bin o l r=>.tup [.str o.w.str,l.toD,r.toD]
 | .neg e=>.tup [.str "neg",e.toD]
 | .ref n=>.tup [.str "ref",.str n.str,.tup [],.tup [],.none]
 | .num u s=>.tup [.str "number",.tup [.int u,.int s]]
theorem under_D:∀{x:Ex} {n:Nat},D.under n x.toD = true
 | .bin o l r,n=>by simp [Ex.toD,D.under,D.unders,under_D (x:=l),under_D (x:=r)]
 | .neg e,n=>by simp [Ex.toD,D.under,D.unders,under_D (x:=e)]
 | .ref _,n=>by simp [Ex.toD,D.under,D.unders]
 | .num _ _,n=>by simp [Ex.toD,D.under,D.unders]
theorem b_signed (P:Params):Bnd (theK P) 499 ["self"] 1 []:=fun S=>len1 fun a=>by kernel_rfl
theorem b_operand (P:Params):Bnd (theK P) 226 ["reader","read_expr"] 2 []:=fun S=>len2 fun a b=>by kernel_rfl
theorem num_sign (h:ws[p]? = some w) (hw:isNum w = true) (s:Str):signAt ws p s = false:=by
 unfold signAt;rw [h]
 have:(w.kind == "sign") = false:=by cases w <;> first | (cases hw;done) | decide +kernel
 simp only [this];rfl
theorem num_kind (h:ws[p]? = some w) (hw:isNum w = true):kindAt ws p "number" = true:=by
 unfold kindAt;rw [h]
 cases w <;> first | (cases hw;done) | decide +kernel
theorem num_at (h:ws[p]? = some w) (hw:isNum w = true):numAt ws p = true:=by
 unfold numAt;rw [num_sign h hw,num_sign h hw,num_kind h hw];rfl
theorem no_lit:kindAt ws p "literal" = false:=by
 unfold kindAt
 cases ws[p]? with
 | none=>rfl
 | some w=>cases w <;> decide +kernel
theorem signed_ok (H:Rdr sg R ws p) (h:ws[p]? = some w) (hw:isNum w = true):CodeOk y.cx 5 (.ref 499) [.obj R.r] sg (some (.tup [.int (numOf w).1,.int (numOf w).2])) (setAt sg R (p + 1)):=by
 have HS:=H.set (q:=p + 1) (List.getElem?_eq_some_iff.mp h).1
 have HT:=HS.tok _ _ h
 have hm:signAt ws p "-" = false:=num_sign h hw _
 have hp:signAt ws p "+" = false:=num_sign h hw _
 refine CodeOk.fnE (k:=4) (o:=.ret (.tup [.int (numOf w).1,.int (numOf w).2])) (ro:=[("self",.obj R.r)]) (by rfl) (by rfl) (by rfl) rfl ex0 (b_signed _) rfl H.und' rfl ?_
 walk_at "body"
 ·with_reducible apply TS.ifF
  ·walk_at "tb"
  ·rw [num_at h hw];rfl
  walk_at "set"
  with_reducible apply TS.ifTn
  ·walk_at "tb"
  ·rfl
  ·with_reducible apply TS.expr
   ·walk_at "te"
   ·rfl
   ·rfl
   ·with_reducible exact TS.nil
  with_reducible apply TS.set
  ·apply TE.call'
   ·rfl
   ·walk_at "glob"
   ·with_reducible apply TEs.cons
    ·rfl
    ·(with_reducible apply TE.attrO)
     ·walk_at "te"
     ·exact HT
     ·walk_at "attr"
     ·rfl
     ·rfl
    ·walk_at "tes"
   ·walk_at "keep"
   ·exact rd_c hw HS.und (by omega)
  ·rfl
  ·rfl
  with_reducible apply TS.ret
  apply TE.ifF' (b:=false)
  ·walk_at "tb"
  ·rfl
  ·walk_at "te"
 ·exact setAt_take
theorem signed_c (H:Rdr sg R ws p) (h:ws[p]? = some w) (hw:isNum w = true) (hk:5 ≤ k):CallOk y.cx k (.ref 499) [.obj R.r] sg (some (.tup [.int (numOf w).1,.int (numOf w).2])) (setAt sg R (p + 1)):=(signed_ok H h hw).up hk
theorem operand_num (H:Rdr sg R ws p) (h:ws[p]? = some w) (hw:isNum w = true):CodeOk y.cx 7 (.ref 226) [.obj R.r,.aref] sg (some (.tup [.str "number",.tup [.int (numOf w).1,.int (numOf w).2]])) (setAt sg R (p + 1)):=by
 refine CodeOk.fnE (k:=6) (o:=.ret (.tup [.str "number",.tup [.int (numOf w).1,.int (numOf w).2]])) (ro:=[("reader",.obj R.r),("read_expr",.aref)]) (by rfl) (by rfl) (by rfl) rfl ex0 (b_operand _) rfl H.und' rfl ?_
 walk_at "body"
 ·with_reducible apply TS.ifT
  ·walk_at "tb"
  ·exact num_at h hw
  ·with_reducible apply TS.ret
   with_reducible apply TE.tup
   ·with_reducible apply TEs.cons
    ·rfl
    ·walk_at "te"
    ·with_reducible apply TEs.cons
     ·rfl
     ·(with_reducible apply TE.methO);(·rfl);(·walk_at "te");(·exact H.inst);(·exact m_signed _);(·rfl);(·walk_at "tes");(·exact signed_c H h hw (by omega))
     ·walk_at "tes"
   ·show 2 ≤ sizeLine
    decide
  ·rfl
 ·exact setAt_take
theorem operand_ref (H:Rdr sg R ws p) (h:ws[p]? = some w) (hw:isName w = true) (h2:signAt ws (p + 1) "(" = false):CodeOk y.cx 7 (.ref 226) [.obj R.r,.aref] sg (some (.tup [.str "ref",.str w.str,.tup [],.tup [],.none])) (setAt sg R (p + 1)):=by
 have hn:numAt ws p = false:=by
  unfold numAt signAt kindAt;rw [h]
  cases w <;> first | (cases hw;done) | rfl
 refine CodeOk.fnE (k:=6) (o:=.ret (.tup [.str "ref",.str w.str,.tup [],.tup [],.none])) (ro:=[("reader",.obj R.r),("read_expr",.aref)]) (by rfl) (by rfl) (by rfl) rfl ex0 (b_operand _) rfl H.und' rfl ?_
 walk_at "body"
 ·with_reducible apply TS.ifF
  ·walk_at "tb"
  ·exact hn
  with_reducible apply TS.ifF
  ·walk_at "tb"
  ·exact no_lit
  with_reducible apply TS.ifF
  ·with_reducible apply TB.plain
   ·(with_reducible apply TE.methO);(·rfl);(·walk_at "te");(·exact H.inst);(·exact m_skip _);(·rfl);(·walk_at "tes");(·exact skip_c now_all H (by omega))
   ·exact fun _ _=>rfl
  ·rfl
  with_reducible apply TS.set
  ·(with_reducible apply TE.call');(·rfl);(·walk_at "glob");(·walk_at "tes");(·walk_at "keep");(·exact figure_c H (by omega))
  ·rfl
  ·rfl
  with_reducible apply TS.ret
  apply TE.ifT' (b:=true)
  ·walk_at "tb"
  ·rfl
  ·(with_reducible apply TE.call');(·rfl);(·walk_at "glob");(·walk_at "tes");(·walk_at "keep");(·exact ref_tc H h hw h2 (by omega))
 ·exact setAt_take
theorem operand_bad (H:Rdr sg R ws p) (hn:nameAt ws p = false) (hm:numAt ws p = false):CodeOk y.cx 7 (.ref 226) [.obj R.r,.aref] sg none sg:=by
 refine CodeOk.fnE (k:=6) (o:=.exc) (ro:=[("reader",.obj R.r),("read_expr",.aref)]) (by rfl) (by rfl) (by rfl) rfl ex0 (b_operand _) rfl H.und rfl ?_
 walk_at "body"
 ·with_reducible apply TS.ifF
  ·walk_at "tb"
  ·exact hm
  with_reducible apply TS.ifF
  ·walk_at "tb"
  ·exact no_lit
  with_reducible apply TS.ifF
  ·with_reducible apply TB.plain
   ·(with_reducible apply TE.methO);(·rfl);(·walk_at "te");(·exact H.inst);(·exact m_skip _);(·rfl);(·walk_at "tes");(·exact skip_c now_all H (by omega))
   ·exact fun _ _=>rfl
  ·rfl
  with_reducible apply TS.set
  ·(with_reducible apply TE.call');(·rfl);(·walk_at "glob");(·walk_at "tes");(·walk_at "keep");(·exact figure_c H (by omega))
  ·rfl
  ·rfl
  with_reducible apply TS.retX
  apply TE.ifTX (b:=true)
  ·walk_at "tb"
  ·rfl
  ·(with_reducible apply TE.call');(·rfl);(·walk_at "glob");(·walk_at "tes");(·walk_at "keep");(·exact ref_fc H hn (by omega))
 ·exact List.take_length
end
section
variable {y:Cy} {R:RI} {ws:List W} {kk d p q:Nat} {f:Addr} {rx:Option Ex} {x:Ex}
noncomputable def Ct (y:Cy) (R:RI) (ws:List W) (kk:Nat) (f:Addr) (d p:Nat) (rx:Option Ex) (q:Nat):Prop:=
 ∀sg,Rdr sg R ws p → CodeOk y.cx kk (.ref f) [.obj R.r,.int (d:Int)] sg (rx.map Ex.toD) (setAt sg R q)
theorem Ct.mono {kk':Nat} (h:Ct y R ws kk f d p rx q) (hk:kk ≤ kk'):Ct y R ws kk' f d p rx q:=fun sg H=>(h sg H).mono hk
theorem Ct.ok {sg:List Cell} {k:Nat} (h:Ct y R ws kk f d p (some x) q) (H:Rdr sg R ws p) (hk:kk ≤ k):CallOk y.cx k (.ref f) [.obj R.r,.int (d:Int)] sg (some x.toD) (setAt sg R q):=(h sg H).up hk
theorem Ct.bad {sg:List Cell} {k:Nat} (h:Ct y R ws kk f d p none q) (H:Rdr sg R ws p) (hk:kk ≤ k):CallOk y.cx k (.ref f) [.obj R.r,.int (d:Int)] sg none (setAt sg R q):=(h sg H).up hk
theorem Ct.ok' {sg:List Cell} {k p0:Nat} (h:Ct y R ws kk f d p (some x) q) (H:Rdr (setAt sg R p0) R ws p) (hk:kk ≤ k):CallOk y.cx k (.ref f) [.obj R.r,.int (d:Int)] (setAt sg R p0) (some x.toD) (setAt sg R q):=by
 have:=h.ok H hk
 rwa [setAt_setAt] at this
theorem Ct.bad' {sg:List Cell} {k p0:Nat} (h:Ct y R ws kk f d p none q) (H:Rdr (setAt sg R p0) R ws p) (hk:kk ≤ k):CallOk y.cx k (.ref f) [.obj R.r,.int (d:Int)] (setAt sg R p0) none (setAt sg R q):=by
 have:=h.bad H hk
 rwa [setAt_setAt] at this
inductive Run (y:Cy) (R:RI) (ws:List W) (kk:Nat) (f:Addr) (d lv:Nat) (stop:Option W → Bool):Ex → Nat → Option Ex → Nat → Prop
 | done {x:Ex} {p:Nat} (h:stop ws[p]? = false):Run y R ws kk f d lv stop x p (some x) p
 | step {x:Ex} {p:Nat} {o:Op} {z:Ex} {q:Nat} {rx:Option Ex} {q':Nat} (ho:o.lv = lv) (hw:ws[p]? = some o.w) (hc:Ct y R ws kk f d (p + 1) (some z) q) (hq:q ≤ ws.length) (h:Run y R ws kk f d lv stop (.bin o x z) q rx q'):Run y R ws kk f d lv stop x p rx q'
 | exc {x:Ex} {p:Nat} {o:Op} {q:Nat} (ho:o.lv = lv) (hw:ws[p]? = some o.w) (hc:Ct y R ws kk f d (p + 1) none q):Run y R ws kk f d lv stop x p none q
theorem TW.run {lv:Nat} {stop:Option W → Bool} {fi:FI} {k:Nat} {test:Expr} {body:List Stmt} {Sr:Ex → List (Str × D) → List (Str × D)} {x:Ex} {rx:Option Ex} {p q:Nat}
  (h:Run y R ws kk f d lv stop x p rx q)
  (hE:∀(x:Ex) (p:Nat) (e:List (Str × D)) (sg:List Cell),Rdr sg R ws p → stop ws[p]? = false → TB y.cx fi k test (Sr x e) sg (some false) sg)
  (hS:∀(x:Ex) (p:Nat) (e:List (Str × D)) (sg:List Cell) (o:Op) (z:Ex) (q:Nat),Rdr sg R ws p → o.lv = lv → ws[p]? = some o.w → Ct y R ws kk f d (p + 1) (some z) q → ∃e',TB y.cx fi k test (Sr x e) sg (some true) sg ∧ TS y.cx fi k body (Sr x e) sg .next (Sr (.bin o x z) e') (setAt sg R q))
  (hX:∀(x:Ex) (p:Nat) (e:List (Str × D)) (sg:List Cell) (o:Op) (q:Nat),Rdr sg R ws p → o.lv = lv → ws[p]? = some o.w → Ct y R ws kk f d (p + 1) none q → TB y.cx fi k test (Sr x e) sg (some true) sg ∧ TS y.cx fi k body (Sr x e) sg .exc [] (setAt sg R q)):
  ∀(e:List (Str × D)) (sg:List Cell),Rdr sg R ws p → match rx with
   | some x'=>∃e',TW y.cx fi k test body (Sr x e) sg .next (Sr x' e') (setAt sg R q)
   | none=>∃r,TW y.cx fi k test body (Sr x e) sg .exc r (setAt sg R q):=by
 induction h with
 | done h=>
  intro e sg H
  exact ⟨e,by rw [H.self];exact TW.done (hE _ _ _ _ H h)⟩
 | step ho hw hc hq h ih=>
  intro e sg H
  obtain ⟨e',h1,h2⟩:=hS _ _ e sg _ _ _ H ho hw hc
  have:=ih e' _ (H.set hq)
  rw [setAt_setAt] at this
  rename_i rx q'
  cases rx with
  | none=>obtain ⟨r,h3⟩:=this;exact ⟨r,TW.step h1 h2 h3⟩
  | some x'=>obtain ⟨r,h3⟩:=this;exact ⟨r,TW.step h1 h2 h3⟩
 | exc ho hw hc=>
  intro e sg H
  obtain ⟨h1,h2⟩:=hX _ _ e sg _ _ H ho hw hc
  exact ⟨_,TW.exc h1 h2⟩
theorem pm_none (h:pm ws[p]? = false):amongAt ws p ["+","-"] = "":=by
 unfold amongAt
 cases z:ws[p]? with
 | none=>rfl
 | some w=>rw [z] at h;cases w <;> first | (cases h;done) | decide +kernel
theorem md_none (h:md ws[p]? = false):amongAt ws p ["*","/"] = "":=by
 unfold amongAt
 cases z:ws[p]? with
 | none=>rfl
 | some w=>rw [z] at h;cases w <;> first | (cases h;done) | decide +kernel
theorem pw_none (h:pw ws[p]? = false):amongAt ws p ["**"] = "":=by
 unfold amongAt
 cases z:ws[p]? with
 | none=>rfl
 | some w=>rw [z] at h;cases w <;> first | (cases h;done) | decide +kernel
theorem pm_some {o:Op} (h:ws[p]? = some o.w) (ho:o.lv = 1):(amongAt ws p ["+","-"] != "") = true:=by
 unfold amongAt;rw [h]
 cases o <;> first | (cases ho;done) | decide +kernel
theorem md_some {o:Op} (h:ws[p]? = some o.w) (ho:o.lv = 2):(amongAt ws p ["*","/"] != "") = true:=by
 unfold amongAt;rw [h]
 cases o <;> first | (cases ho;done) | decide +kernel
theorem pw_some {o:Op} (h:ws[p]? = some o.w) (ho:o.lv = 4):(amongAt ws p ["**"] != "") = true:=by
 unfold amongAt;rw [h]
 cases o <;> first | (cases ho;done) | decide +kernel
end
theorem lookup_put_self {x:Str} {d:D} {ro:List (Str × D)}:(put x d ro).lookup x = some d:=by rw [put_lookup];simp
local macro_rules
 | `(tactic| walk_at "te")=>`(tactic| first | ((with_reducible apply TE.name);(·rfl);(·with_reducible exact lookup_put_self);(·rfl)) | fail "no put")
section
variable {y:Cy} {sg sg1 sg2 sg':List Cell} {R:RI} {ws:List W} {p a k q q1 kk d:Nat} {args exD:List D} {ev:List Value} {w:W} {s:Str} {fi:FI} {ro ro2:List (Str × D)} {o:Out} {ds:List D} {r:Option D} {ys:List Str} {m n:Int} {x:Ex} {rx:Option Ex}
theorem b_sum (P:Params):Bnd (theK P) 272 ["reader","depth"] 2 []:=fun S=>len2 fun a b=>by kernel_rfl
theorem b_product (P:Params):Bnd (theK P) 279 ["reader","depth"] 2 []:=fun S=>len2 fun a b=>by kernel_rfl
theorem b_factor (P:Params):Bnd (theK P) 286 ["reader","depth"] 2 []:=fun S=>len2 fun a b=>by kernel_rfl
theorem b_power (P:Params):Bnd (theK P) 300 ["reader","depth"] 2 []:=fun S=>len2 fun a b=>by kernel_rfl
noncomputable abbrev rdRo (R:RI) (d:Nat):List (Str × D):=[("reader",.obj R.r),("depth",.int (d:Int))]
noncomputable abbrev rdSr (R:RI) (d:Nat) (x:Ex) (e:List (Str × D)):List (Str × D):=("reader",.obj R.r) :: ("depth",.int (d:Int)) :: ("found",x.toD) :: e
theorem sum_ok (hd:d ≤ 20) (h1:Ct y R ws kk 279 d p (some x) q1) (hq1:q1 ≤ ws.length) (h2:Run y R ws kk 279 d 1 pm x q1 rx q) (hkk:5 ≤ kk):Ct y R ws (kk + 1) 272 d p rx q:=by
 intro sg H
 have H1:=H.set hq1
 have run:∀(fi:FI) (test:Expr) (body:List Stmt),(∀(x:Ex) (p:Nat) (e:List (Str × D)) (sg:List Cell),Rdr sg R ws p → pm ws[p]? = false → TB y.cx fi kk test (rdSr R d x e) sg (some false) sg) →
   (∀(x:Ex) (p:Nat) (e:List (Str × D)) (sg:List Cell) (o:Op) (z:Ex) (q:Nat),Rdr sg R ws p → o.lv = 1 → ws[p]? = some o.w → Ct y R ws kk 279 d (p + 1) (some z) q → ∃e',TB y.cx fi kk test (rdSr R d x e) sg (some true) sg ∧ TS y.cx fi kk body (rdSr R d x e) sg .next (rdSr R d (.bin o x z) e') (setAt sg R q)) →
   (∀(x:Ex) (p:Nat) (e:List (Str × D)) (sg:List Cell) (o:Op) (q:Nat),Rdr sg R ws p → o.lv = 1 → ws[p]? = some o.w → Ct y R ws kk 279 d (p + 1) none q → TB y.cx fi kk test (rdSr R d x e) sg (some true) sg ∧ TS y.cx fi kk body (rdSr R d x e) sg .exc [] (setAt sg R q)) →
   ∀(rest:List Stmt) (pos:Pos) (o:Out),retOf o = some (rx.map Ex.toD) → (∀x',rx = some x' → ∀e,TS y.cx fi kk rest (rdSr R d x' e) (setAt sg R q) o [] (setAt sg R q)) → (rx = none → o = .exc) → TS y.cx fi kk (.While test body [] pos :: rest) (rdSr R d x []) (setAt sg R q1) o [] (setAt sg R q):=by
  intro fi test body hE hS hX rest pos o ho hr hn
  have:=TW.run (Sr:=rdSr R d) h2 hE hS hX [] _ H1
  rw [setAt_setAt] at this
  cases rx with
  | none=>cases hn rfl;exact TS.whileX this
  | some x'=>exact TS.whileE (Sr:=rdSr R d x') this (hr x' rfl)
 obtain ⟨o,ho,hon⟩:∃o:Out,retOf o = some (rx.map Ex.toD) ∧ (∀x',rx = some x' → o = .ret x'.toD) ∧ (rx = none → o = .exc):=by
  cases rx with
  | none=>exact ⟨.exc,rfl,fun _ h=>(by cases h),fun _=>rfl⟩
  | some x'=>exact ⟨.ret x'.toD,rfl,fun _ h=>(by cases h;rfl),fun h=>(by cases h)⟩
 refine CodeOk.fnL (k:=kk) (o:=o) (ro:=rdRo R d) (sg':=setAt sg R q) (by rfl) (by rfl) (by rfl) rfl ex0 (b_sum _) ho setAt_take H.und' (by cases rx <;> first | rfl | exact under_D) fun L=>?_
 with_reducible apply TS.ifF
 ·walk_at "tb"
 ·exact decide_eq_false (by omega)
 with_reducible apply TS.set
 ·(with_reducible apply TE.call');(·rfl);(·walk_at "glob");(·walk_at "tes");(·walk_at "keep");(·exact h1.ok H (by omega))
 ·rfl
 ·rfl
 refine run _ _ _ ?_ ?_ ?_ _ _ o ho ?_ hon.2
 ·intro x p e sg H hs
  apply TB.as
  ·with_reducible apply TB.cmp
   ·walk_at "te"
   ·walk_at "te"
   ·walk_at "op"
   ·rfl
  ·rw [pm_none hs];rfl
 ·intro x p e sg o z q H ho hw hc
  have HS:=H.set (q:=p + 1) (List.getElem?_eq_some_iff.mp hw).1
  have HT:=HS.tok _ _ hw
  refine ⟨(put "sign" (.str o.w.str) e),?_,?_⟩
  ·skip
   apply TB.as
   ·with_reducible apply TB.cmp
    ·walk_at "te"
    ·walk_at "te"
    ·walk_at "op"
    ·rfl
   ·exact pm_some hw ho
  ·skip
   with_reducible apply TS.set
   ·with_reducible apply TE.attrO
    ·walk_at "te"
    ·exact HT
    ·walk_at "attr"
    ·rfl
    ·rfl
   ·rfl
   ·rfl
   apply TS.set (d:=(Ex.bin o x z).toD)
   ·apply TE.tup
    ·with_reducible apply TEs.cons
     ·rfl
     ·walk_at "te"
     ·with_reducible apply TEs.cons
      ·rfl
      ·walk_at "te"
      ·with_reducible apply TEs.cons
       ·rfl
       ·(with_reducible apply TE.call');(·rfl);(·walk_at "glob");(·walk_at "tes");(·walk_at "keep");(·exact hc.ok' HS (by omega))
       ·walk_at "tes"
    ·show 3 ≤ sizeLine
     decide
   ·rfl
   ·rfl
   ·exact TS.nil
 ·intro x p e sg o q H ho hw hc
  have HS:=H.set (q:=p + 1) (List.getElem?_eq_some_iff.mp hw).1
  have HT:=HS.tok _ _ hw
  refine ⟨?_,?_⟩
  ·skip
   apply TB.as
   ·with_reducible apply TB.cmp
    ·walk_at "te"
    ·walk_at "te"
    ·walk_at "op"
    ·rfl
   ·exact pm_some hw ho
  ·skip
   apply TS.weak
   with_reducible apply TS.set
   ·with_reducible apply TE.attrO
    ·walk_at "te"
    ·exact HT
    ·walk_at "attr"
    ·rfl
    ·rfl
   ·rfl
   ·rfl
   apply TS.setX
   ·with_reducible apply TE.tupX
    with_reducible apply TEs.consY
    ·rfl
    ·walk_at "te"
    ·with_reducible apply TEs.consY
     ·rfl
     ·walk_at "te"
     ·with_reducible apply TEs.consX
      ·rfl
      ·(with_reducible apply TE.call');(·rfl);(·walk_at "glob");(·walk_at "tes");(·walk_at "keep");(·exact hc.bad' HS (by omega))
   ·rfl
 ·intro x' hx e
  rw [hon.1 x' hx]
  apply TS.retE
  walk_at "te"
theorem sum_x (hd:d ≤ 20) (h1:Ct y R ws kk 279 d p none q) (hkk:5 ≤ kk):Ct y R ws (kk + 1) 272 d p none q:=by
 intro sg H
 refine CodeOk.fnL (k:=kk) (o:=.exc) (ro:=rdRo R d) (sg':=setAt sg R q) (by rfl) (by rfl) (by rfl) rfl ex0 (b_sum _) rfl setAt_take H.und' rfl fun L=>?_
 with_reducible apply TS.ifF
 ·walk_at "tb"
 ·exact decide_eq_false (by omega)
 apply TS.weak
 with_reducible apply TS.setX
 ·(with_reducible apply TE.call');(·rfl);(·walk_at "glob");(·walk_at "tes");(·walk_at "keep");(·exact h1.bad H (by omega))
 ·rfl
theorem sum_deep (hd:20 < d) (hkk:5 ≤ kk) (hp:p ≤ ws.length):Ct y R ws (kk + 1) 272 d p none p:=by
 intro sg H
 rw [H.self]
 refine CodeOk.fnL (k:=kk) (o:=.exc) (ro:=rdRo R d) (sg':=sg) (by rfl) (by rfl) (by rfl) rfl ex0 (b_sum _) rfl List.take_length H.und rfl fun L=>?_
 apply TS.weak
 with_reducible apply TS.ifT
 ·walk_at "tb"
 ·exact decide_eq_true (by omega)
 ·with_reducible apply TS.raise
  with_reducible apply TEX.methO
  ·rfl
  ·walk_at "te"
  ·exact H.inst
  ·exact m_fault _
  ·rfl
  ·walk_at "tes"
  ·exact fault_xc H (by omega)
 ·rfl
theorem product_ok (h1:Ct y R ws kk 286 d p (some x) q1) (hq1:q1 ≤ ws.length) (h2:Run y R ws kk 286 d 2 md x q1 rx q) (hkk:5 ≤ kk):Ct y R ws (kk + 1) 279 d p rx q:=by
 intro sg H
 have H1:=H.set hq1
 have run:∀(fi:FI) (test:Expr) (body:List Stmt),(∀(x:Ex) (p:Nat) (e:List (Str × D)) (sg:List Cell),Rdr sg R ws p → md ws[p]? = false → TB y.cx fi kk test (rdSr R d x e) sg (some false) sg) →
   (∀(x:Ex) (p:Nat) (e:List (Str × D)) (sg:List Cell) (o:Op) (z:Ex) (q:Nat),Rdr sg R ws p → o.lv = 2 → ws[p]? = some o.w → Ct y R ws kk 286 d (p + 1) (some z) q → ∃e',TB y.cx fi kk test (rdSr R d x e) sg (some true) sg ∧ TS y.cx fi kk body (rdSr R d x e) sg .next (rdSr R d (.bin o x z) e') (setAt sg R q)) →
   (∀(x:Ex) (p:Nat) (e:List (Str × D)) (sg:List Cell) (o:Op) (q:Nat),Rdr sg R ws p → o.lv = 2 → ws[p]? = some o.w → Ct y R ws kk 286 d (p + 1) none q → TB y.cx fi kk test (rdSr R d x e) sg (some true) sg ∧ TS y.cx fi kk body (rdSr R d x e) sg .exc [] (setAt sg R q)) →
   ∀(rest:List Stmt) (pos:Pos) (o:Out),retOf o = some (rx.map Ex.toD) → (∀x',rx = some x' → ∀e,TS y.cx fi kk rest (rdSr R d x' e) (setAt sg R q) o [] (setAt sg R q)) → (rx = none → o = .exc) → TS y.cx fi kk (.While test body [] pos :: rest) (rdSr R d x []) (setAt sg R q1) o [] (setAt sg R q):=by
  intro fi test body hE hS hX rest pos o ho hr hn
  have:=TW.run (Sr:=rdSr R d) h2 hE hS hX [] _ H1
  rw [setAt_setAt] at this
  cases rx with
  | none=>cases hn rfl;exact TS.whileX this
  | some x'=>exact TS.whileE (Sr:=rdSr R d x') this (hr x' rfl)
 obtain ⟨o,ho,hon⟩:∃o:Out,retOf o = some (rx.map Ex.toD) ∧ (∀x',rx = some x' → o = .ret x'.toD) ∧ (rx = none → o = .exc):=by
  cases rx with
  | none=>exact ⟨.exc,rfl,fun _ h=>(by cases h),fun _=>rfl⟩
  | some x'=>exact ⟨.ret x'.toD,rfl,fun _ h=>(by cases h;rfl),fun h=>(by cases h)⟩
 refine CodeOk.fnL (k:=kk) (o:=o) (ro:=rdRo R d) (sg':=setAt sg R q) (by rfl) (by rfl) (by rfl) rfl ex0 (b_product _) ho setAt_take H.und' (by cases rx <;> first | rfl | exact under_D) fun L=>?_
 with_reducible apply TS.set
 ·(with_reducible apply TE.call');(·rfl);(·walk_at "glob");(·walk_at "tes");(·walk_at "keep");(·exact h1.ok H (by omega))
 ·rfl
 ·rfl
 refine run _ _ _ ?_ ?_ ?_ _ _ o ho ?_ hon.2
 ·intro x p e sg H hs
  apply TB.as
  ·with_reducible apply TB.cmp
   ·walk_at "te"
   ·walk_at "te"
   ·walk_at "op"
   ·rfl
  ·rw [md_none hs];rfl
 ·intro x p e sg o z q H ho hw hc
  have HS:=H.set (q:=p + 1) (List.getElem?_eq_some_iff.mp hw).1
  have HT:=HS.tok _ _ hw
  refine ⟨(put "sign" (.str o.w.str) e),?_,?_⟩
  ·skip
   apply TB.as
   ·with_reducible apply TB.cmp
    ·walk_at "te"
    ·walk_at "te"
    ·walk_at "op"
    ·rfl
   ·exact md_some hw ho
  ·skip
   with_reducible apply TS.set
   ·with_reducible apply TE.attrO
    ·walk_at "te"
    ·exact HT
    ·walk_at "attr"
    ·rfl
    ·rfl
   ·rfl
   ·rfl
   apply TS.set (d:=(Ex.bin o x z).toD)
   ·apply TE.tup
    ·with_reducible apply TEs.cons
     ·rfl
     ·walk_at "te"
     ·with_reducible apply TEs.cons
      ·rfl
      ·walk_at "te"
      ·with_reducible apply TEs.cons
       ·rfl
       ·(with_reducible apply TE.call');(·rfl);(·walk_at "glob");(·walk_at "tes");(·walk_at "keep");(·exact hc.ok' HS (by omega))
       ·walk_at "tes"
    ·show 3 ≤ sizeLine
     decide
   ·rfl
   ·rfl
   ·exact TS.nil
 ·intro x p e sg o q H ho hw hc
  have HS:=H.set (q:=p + 1) (List.getElem?_eq_some_iff.mp hw).1
  have HT:=HS.tok _ _ hw
  refine ⟨?_,?_⟩
  ·skip
   apply TB.as
   ·with_reducible apply TB.cmp
    ·walk_at "te"
    ·walk_at "te"
    ·walk_at "op"
    ·rfl
   ·exact md_some hw ho
  ·skip
   apply TS.weak
   with_reducible apply TS.set
   ·with_reducible apply TE.attrO
    ·walk_at "te"
    ·exact HT
    ·walk_at "attr"
    ·rfl
    ·rfl
   ·rfl
   ·rfl
   apply TS.setX
   ·with_reducible apply TE.tupX
    with_reducible apply TEs.consY
    ·rfl
    ·walk_at "te"
    ·with_reducible apply TEs.consY
     ·rfl
     ·walk_at "te"
     ·with_reducible apply TEs.consX
      ·rfl
      ·(with_reducible apply TE.call');(·rfl);(·walk_at "glob");(·walk_at "tes");(·walk_at "keep");(·exact hc.bad' HS (by omega))
   ·rfl
 ·intro x' hx e
  rw [hon.1 x' hx]
  apply TS.retE
  walk_at "te"
theorem product_x (h1:Ct y R ws kk 286 d p none q) (hkk:5 ≤ kk):Ct y R ws (kk + 1) 279 d p none q:=by
 intro sg H
 refine CodeOk.fnL (k:=kk) (o:=.exc) (ro:=rdRo R d) (sg':=setAt sg R q) (by rfl) (by rfl) (by rfl) rfl ex0 (b_product _) rfl setAt_take H.und' rfl fun L=>?_
 apply TS.weak
 with_reducible apply TS.setX
 ·(with_reducible apply TE.call');(·rfl);(·walk_at "glob");(·walk_at "tes");(·walk_at "keep");(·exact h1.bad H (by omega))
 ·rfl
theorem power_ok (h1:Ct y R ws kk 307 d p (some x) q1) (hq1:q1 ≤ ws.length) (h2:Run y R ws kk 307 d 4 pw x q1 rx q) (hkk:5 ≤ kk):Ct y R ws (kk + 1) 300 d p rx q:=by
 intro sg H
 have H1:=H.set hq1
 have run:∀(fi:FI) (test:Expr) (body:List Stmt),(∀(x:Ex) (p:Nat) (e:List (Str × D)) (sg:List Cell),Rdr sg R ws p → pw ws[p]? = false → TB y.cx fi kk test (rdSr R d x e) sg (some false) sg) →
   (∀(x:Ex) (p:Nat) (e:List (Str × D)) (sg:List Cell) (o:Op) (z:Ex) (q:Nat),Rdr sg R ws p → o.lv = 4 → ws[p]? = some o.w → Ct y R ws kk 307 d (p + 1) (some z) q → ∃e',TB y.cx fi kk test (rdSr R d x e) sg (some true) sg ∧ TS y.cx fi kk body (rdSr R d x e) sg .next (rdSr R d (.bin o x z) e') (setAt sg R q)) →
   (∀(x:Ex) (p:Nat) (e:List (Str × D)) (sg:List Cell) (o:Op) (q:Nat),Rdr sg R ws p → o.lv = 4 → ws[p]? = some o.w → Ct y R ws kk 307 d (p + 1) none q → TB y.cx fi kk test (rdSr R d x e) sg (some true) sg ∧ TS y.cx fi kk body (rdSr R d x e) sg .exc [] (setAt sg R q)) →
   ∀(rest:List Stmt) (pos:Pos) (o:Out),retOf o = some (rx.map Ex.toD) → (∀x',rx = some x' → ∀e,TS y.cx fi kk rest (rdSr R d x' e) (setAt sg R q) o [] (setAt sg R q)) → (rx = none → o = .exc) → TS y.cx fi kk (.While test body [] pos :: rest) (rdSr R d x []) (setAt sg R q1) o [] (setAt sg R q):=by
  intro fi test body hE hS hX rest pos o ho hr hn
  have:=TW.run (Sr:=rdSr R d) h2 hE hS hX [] _ H1
  rw [setAt_setAt] at this
  cases rx with
  | none=>cases hn rfl;exact TS.whileX this
  | some x'=>exact TS.whileE (Sr:=rdSr R d x') this (hr x' rfl)
 obtain ⟨o,ho,hon⟩:∃o:Out,retOf o = some (rx.map Ex.toD) ∧ (∀x',rx = some x' → o = .ret x'.toD) ∧ (rx = none → o = .exc):=by
  cases rx with
  | none=>exact ⟨.exc,rfl,fun _ h=>(by cases h),fun _=>rfl⟩
  | some x'=>exact ⟨.ret x'.toD,rfl,fun _ h=>(by cases h;rfl),fun h=>(by cases h)⟩
 refine CodeOk.fnL (k:=kk) (o:=o) (ro:=rdRo R d) (sg':=setAt sg R q) (by rfl) (by rfl) (by rfl) rfl ex0 (b_power _) ho setAt_take H.und' (by cases rx <;> first | rfl | exact under_D) fun L=>?_
 with_reducible apply TS.set
 ·(with_reducible apply TE.call');(·rfl);(·walk_at "glob");(·walk_at "tes");(·walk_at "keep");(·exact h1.ok H (by omega))
 ·rfl
 ·rfl
 refine run _ _ _ ?_ ?_ ?_ _ _ o ho ?_ hon.2
 ·intro x p e sg H hs
  apply TB.as
  ·with_reducible apply TB.cmp
   ·walk_at "te"
   ·walk_at "te"
   ·walk_at "op"
   ·rfl
  ·rw [pw_none hs];rfl
 ·intro x p e sg o z q H ho hw hc
  have HS:=H.set (q:=p + 1) (List.getElem?_eq_some_iff.mp hw).1
  have HT:=HS.tok _ _ hw
  refine ⟨e,?_,?_⟩
  ·skip
   apply TB.as
   ·with_reducible apply TB.cmp
    ·walk_at "te"
    ·walk_at "te"
    ·walk_at "op"
    ·rfl
   ·exact pw_some hw ho
  ·skip
   have ho':o = .pow:=by cases o <;> first | rfl | cases ho
   subst ho'
   with_reducible apply TS.expr
   ·walk_at "te"
   ·rfl
   ·rfl
   apply TS.set (d:=(Ex.bin .pow x z).toD)
   ·apply TE.tup
    ·with_reducible apply TEs.cons
     ·rfl
     ·exact TE.cstr
     ·with_reducible apply TEs.cons
      ·rfl
      ·walk_at "te"
      ·with_reducible apply TEs.cons
       ·rfl
       ·(with_reducible apply TE.call');(·rfl);(·walk_at "glob");(·walk_at "tes");(·walk_at "keep");(·exact hc.ok' HS (by omega))
       ·walk_at "tes"
    ·show 3 ≤ sizeLine
     decide
   ·rfl
   ·rfl
   ·exact TS.nil
 ·intro x p e sg o q H ho hw hc
  have HS:=H.set (q:=p + 1) (List.getElem?_eq_some_iff.mp hw).1
  have HT:=HS.tok _ _ hw
  refine ⟨?_,?_⟩
  ·skip
   apply TB.as
   ·with_reducible apply TB.cmp
    ·walk_at "te"
    ·walk_at "te"
    ·walk_at "op"
    ·rfl
   ·exact pw_some hw ho
  ·skip
   have ho':o = .pow:=by cases o <;> first | rfl | cases ho
   subst ho'
   apply TS.weak
   with_reducible apply TS.expr
   ·walk_at "te"
   ·rfl
   ·rfl
   apply TS.setX
   ·with_reducible apply TE.tupX
    with_reducible apply TEs.consY
    ·rfl
    ·exact TE.cstr
    ·with_reducible apply TEs.consY
     ·rfl
     ·walk_at "te"
     ·with_reducible apply TEs.consX
      ·rfl
      ·(with_reducible apply TE.call');(·rfl);(·walk_at "glob");(·walk_at "tes");(·walk_at "keep");(·exact hc.bad' HS (by omega))
   ·rfl
 ·intro x' hx e
  rw [hon.1 x' hx]
  apply TS.retE
  walk_at "te"
theorem power_x (h1:Ct y R ws kk 307 d p none q) (hkk:5 ≤ kk):Ct y R ws (kk + 1) 300 d p none q:=by
 intro sg H
 refine CodeOk.fnL (k:=kk) (o:=.exc) (ro:=rdRo R d) (sg':=setAt sg R q) (by rfl) (by rfl) (by rfl) rfl ex0 (b_power _) rfl setAt_take H.und' rfl fun L=>?_
 apply TS.weak
 with_reducible apply TS.setX
 ·(with_reducible apply TE.call');(·rfl);(·walk_at "glob");(·walk_at "tes");(·walk_at "keep");(·exact h1.bad H (by omega))
 ·rfl
end
theorem CodeOk.fnC {C:Cx} {k:Nat} {f:Addr} {o:Out} {r:Option D} {sg sg' sgo:List Cell} {x1 x2:Str} {d1 d2:D}
  {name qual:Str} {params:Arguments} {body:List Stmt} {scope:Scope} {dV kV doc pm cdv ct oc:Value} {an od:Option Addr} {osl:Array (Option Value)}
  (ho:C.K.lookup f = some ⟨oc,od,.func (fnOf name qual params body scope dV kV doc pm an cdv ct),osl⟩) (hcd:codeIn C.K cdv qual = true)
  (hb:∀v1 v2:Value,bindArgs (fnOf name qual params body scope dV kV doc pm an cdv ct) ⟨[v1,v2],[]⟩ = pure [(x1,v1),(x2,v2)])
  (hl1:scope.names.lookup x1 = some .local) (hl2:scope.names.lookup x2 = some .cell) (hne:(x2 == x1) = false) (hcl:∀L,cellsFrom (L + 1) scope.names [] = [(x2,L + 1)])
  (hs:(scope.isCoroutine == false && scope.isGenerator == false && scope.kind == .function) = true) (hro:retOf o = some r) (htk:sg'.take sg.length = sgo) (hu:sgo.all (Cell.under sg.length) = true) (hr:r.all (D.under sg.length) = true)
  (hbody:∀L,TS C ⟨qual,scope,L,f,cdv,[(x2,L + 1)],[(x2,d2)]⟩ k body [(x1,d1)] sg o [] sg'):CodeOk C (k + 1) (.ref f) [d1,d2] sg r sgo:=by
 rw [←htk]
 exact CodeOk.of_defC ho hcd hb hl1 hl2 hne hcl hs hro (Nat.le_refl _) (by rw [htk,hu,hr];rfl) (fun _=>rfl) hbody
local macro_rules
 | `(tactic| walk_at "te")=>`(tactic| first | ((with_reducible apply TE.name);(·rfl);(·with_reducible exact lookup_put_self);(·rfl)) | fail "no put")
local macro_rules
 | `(tactic| walk_at "te")=>`(tactic| first | ((with_reducible apply TE.nameC);(·rfl);(·rfl);(·rfl)) | fail "no cell")
section
variable {y:Cy} {sg sg1 sg2 sg':List Cell} {R:RI} {ws:List W} {p a k q q1 kk d:Nat} {args exD:List D} {ev:List Value} {w:W} {s:Str} {fi:FI} {ro ro2:List (Str × D)} {o:Out} {ds:List D} {r:Option D} {ys:List Str} {m n:Int} {x:Ex} {rx:Option Ex}
theorem fac_O (h0:pm ws[p]? = false) (hc:Ct y R ws kk 300 d p rx q) (hkk:5 ≤ kk):Ct y R ws (kk + 1) 286 d p rx q:=by
 intro sg H
 have e:=pm_none h0
 cases rx with
 | some x=>
  refine CodeOk.fnL (k:=kk) (o:=.ret x.toD) (ro:=rdRo R d) (sg':=setAt sg R q) (by rfl) (by rfl) (by rfl) rfl ex0 (b_factor _) rfl setAt_take H.und' under_D fun L=>?_
  apply TS.weak
  walk_at "set"
  with_reducible apply TS.ifT
  ·walk_at "tb"
  ·rw [e];rfl
  ·with_reducible apply TS.ret
   (with_reducible apply TE.call');(·rfl);(·walk_at "glob");(·walk_at "tes");(·walk_at "keep");(·exact hc.ok H (by omega))
  ·rfl
 | none=>
  refine CodeOk.fnL (k:=kk) (o:=.exc) (ro:=rdRo R d) (sg':=setAt sg R q) (by rfl) (by rfl) (by rfl) rfl ex0 (b_factor _) rfl setAt_take H.und' rfl fun L=>?_
  apply TS.weak
  walk_at "set"
  with_reducible apply TS.ifT
  ·walk_at "tb"
  ·rw [e];rfl
  ·with_reducible apply TS.retX
   (with_reducible apply TE.call');(·rfl);(·walk_at "glob");(·walk_at "tes");(·walk_at "keep");(·exact hc.bad H (by omega))
  ·rfl
theorem among_is {z:Str} (h:ws[p]? = some w) (hz:(if w.kind == "sign" && (["+","-"]:List Str).any (· == w.str) then w.str else "") = z):amongAt ws p ["+","-"] = z:=by
 unfold amongAt;rw [h];exact hz
theorem fac_P (h:ws[p]? = some .plus) (hc:Ct y R ws kk 300 d (p + 1) rx q) (hkk:5 ≤ kk):Ct y R ws (kk + 1) 286 d p rx q:=by
 intro sg H
 have e:amongAt ws p ["+","-"] = "+":=among_is h (by decide +kernel)
 have HS:=H.set (q:=p + 1) (List.getElem?_eq_some_iff.mp h).1
 cases rx with
 | some x=>
  refine CodeOk.fnL (k:=kk) (o:=.ret x.toD) (ro:=rdRo R d) (sg':=setAt sg R q) (by rfl) (by rfl) (by rfl) rfl ex0 (b_factor _) rfl setAt_take H.und' under_D fun L=>?_
  apply TS.weak
  with_reducible apply TS.set
  ·apply TE.asStr (x':="+")
   ·walk_at "te"
   ·exact e
  ·rfl
  ·rfl
  with_reducible apply TS.ifF
  ·walk_at "tb"
  ·rfl
  with_reducible apply TS.expr
  ·walk_at "te"
  ·rfl
  ·rfl
  with_reducible apply TS.set
  ·apply TE.asBool (b':=false)
   ·with_reducible apply TE.andF
    apply TE.asBool (b':=false)
    ·walk_at "te"
    ·rfl
   ·rfl
  ·rfl
  ·rfl
  with_reducible apply TS.set
  ·(with_reducible apply TE.call');(·rfl);(·walk_at "glob");(·walk_at "tes");(·walk_at "keep");(·exact hc.ok' HS (by omega))
  ·rfl
  ·rfl
  with_reducible apply TS.ifF
  ·walk_at "tb"
  ·rfl
  with_reducible apply TS.ret
  apply TE.ifF' (b:=false)
  ·apply TB.as
   ·walk_at "tb"
   ·rfl
  ·rfl
  ·walk_at "te"
 | none=>
  refine CodeOk.fnL (k:=kk) (o:=.exc) (ro:=rdRo R d) (sg':=setAt sg R q) (by rfl) (by rfl) (by rfl) rfl ex0 (b_factor _) rfl setAt_take H.und' rfl fun L=>?_
  apply TS.weak
  with_reducible apply TS.set
  ·apply TE.asStr (x':="+")
   ·walk_at "te"
   ·exact e
  ·rfl
  ·rfl
  with_reducible apply TS.ifF
  ·walk_at "tb"
  ·rfl
  with_reducible apply TS.expr
  ·walk_at "te"
  ·rfl
  ·rfl
  with_reducible apply TS.set
  ·with_reducible apply TE.andF
   apply TE.asBool (b':=false)
   ·walk_at "te"
   ·rfl
  ·rfl
  ·rfl
  with_reducible apply TS.setX
  ·(with_reducible apply TE.call');(·rfl);(·walk_at "glob");(·walk_at "tes");(·walk_at "keep");(·exact hc.bad' HS (by omega))
  ·rfl
theorem fac_N (h:ws[p]? = some .minus) (hl:loneAt ws (p + 1) = false) (hc:Ct y R ws kk 300 d (p + 1) (some x) q) (hkk:5 ≤ kk):Ct y R ws (kk + 1) 286 d p (some (.neg x)) q:=by
 intro sg H
 have e:amongAt ws p ["+","-"] = "-":=among_is h (by decide +kernel)
 have HS:=H.set (q:=p + 1) (List.getElem?_eq_some_iff.mp h).1
 refine CodeOk.fnL (k:=kk) (o:=.ret (Ex.neg x).toD) (ro:=rdRo R d) (sg':=setAt sg R q) (by rfl) (by rfl) (by rfl) rfl ex0 (b_factor _) rfl setAt_take H.und' under_D fun L=>?_
 apply TS.weak
 with_reducible apply TS.set
 ·apply TE.asStr (x':="-")
  ·walk_at "te"
  ·exact e
 ·rfl
 ·rfl
 with_reducible apply TS.ifF
 ·walk_at "tb"
 ·rfl
 with_reducible apply TS.expr
 ·walk_at "te"
 ·rfl
 ·rfl
 apply TS.set (d:=.bool false)
 ·apply TE.asBool
  ·with_reducible apply TE.andB
   ·walk_at "te"
   ·intro _
    with_reducible apply TE.bool1
    (with_reducible apply TE.call');(·rfl);(·walk_at "glob");(·walk_at "tes");(·walk_at "keep");(·exact lone_c HS (by omega))
  ·rw [hl];simp
 ·rfl
 ·rfl
 with_reducible apply TS.set
 ·(with_reducible apply TE.call');(·rfl);(·walk_at "glob");(·walk_at "tes");(·walk_at "keep");(·exact hc.ok' HS (by omega))
 ·rfl
 ·rfl
 with_reducible apply TS.ifF
 ·walk_at "tb"
 ·rfl
 apply TS.ret
 apply TE.ifT' (b:=true)
 ·apply TB.as
  ·walk_at "tb"
  ·rfl
 ·rfl
 ·apply TE.tup
  ·walk_at "tes"
  ·show 2 ≤ sizeLine
   decide
theorem fac_X (h:ws[p]? = some .minus) (hc:Ct y R ws kk 300 d (p + 1) none q) (hkk:5 ≤ kk):Ct y R ws (kk + 1) 286 d p none q:=by
 intro sg H
 have e:amongAt ws p ["+","-"] = "-":=among_is h (by decide +kernel)
 have HS:=H.set (q:=p + 1) (List.getElem?_eq_some_iff.mp h).1
 refine CodeOk.fnL (k:=kk) (o:=.exc) (ro:=rdRo R d) (sg':=setAt sg R q) (by rfl) (by rfl) (by rfl) rfl ex0 (b_factor _) rfl setAt_take H.und' rfl fun L=>?_
 apply TS.weak
 with_reducible apply TS.set
 ·apply TE.asStr (x':="-")
  ·walk_at "te"
  ·exact e
 ·rfl
 ·rfl
 with_reducible apply TS.ifF
 ·walk_at "tb"
 ·rfl
 with_reducible apply TS.expr
 ·walk_at "te"
 ·rfl
 ·rfl
 with_reducible apply TS.set
 ·with_reducible apply TE.andB
  ·walk_at "te"
  ·intro _
   with_reducible apply TE.bool1
   (with_reducible apply TE.call');(·rfl);(·walk_at "glob");(·walk_at "tes");(·walk_at "keep");(·exact lone_c HS (by omega))
 ·rfl
 ·rfl
 with_reducible apply TS.setX
 ·(with_reducible apply TE.call');(·rfl);(·walk_at "glob");(·walk_at "tes");(·walk_at "keep");(·exact hc.bad' HS (by omega))
 ·rfl
theorem fac_L {u:Int} {s:Nat} (h:ws[p]? = some .minus) (hl:loneAt ws (p + 1) = true) (hc:Ct y R ws kk 300 d (p + 1) (some (.num u s)) q) (hq:q ≤ ws.length) (hkk:5 ≤ kk):Ct y R ws (kk + 1) 286 d p (some (.num (-u) s)) q:=by
 intro sg H
 have e:amongAt ws p ["+","-"] = "-":=among_is h (by decide +kernel)
 have HS:=H.set (q:=p + 1) (List.getElem?_eq_some_iff.mp h).1
 have HQ:=H.set hq
 refine CodeOk.fnL (k:=kk) (o:=.ret (Ex.num (-u) s).toD) (ro:=rdRo R d) (sg':=setAt sg R q) (by rfl) (by rfl) (by rfl) rfl ex0 (b_factor _) rfl setAt_take H.und' under_D fun L=>?_
 apply TS.weak
 with_reducible apply TS.set
 ·apply TE.asStr (x':="-")
  ·walk_at "te"
  ·exact e
 ·rfl
 ·rfl
 with_reducible apply TS.ifF
 ·walk_at "tb"
 ·rfl
 with_reducible apply TS.expr
 ·walk_at "te"
 ·rfl
 ·rfl
 apply TS.set (d:=.bool true)
 ·apply TE.asBool
  ·with_reducible apply TE.andB
   ·walk_at "te"
   ·intro _
    with_reducible apply TE.bool1
    (with_reducible apply TE.call');(·rfl);(·walk_at "glob");(·walk_at "tes");(·walk_at "keep");(·exact lone_c HS (by omega))
  ·rw [hl];rfl
 ·rfl
 ·rfl
 apply TS.set (d:=.tup [.str "number",.tup [.int u,.int s]])
 ·(with_reducible apply TE.call');(·rfl);(·walk_at "glob");(·walk_at "tes");(·walk_at "keep");(·exact hc.ok' HS (by omega))
 ·rfl
 ·rfl
 with_reducible apply TS.ifT
 ·walk_at "tb"
 ·rfl
 ·apply TS.ret
  apply TE.tup
  ·with_reducible apply TEs.cons
   ·rfl
   ·walk_at "te"
   ·with_reducible apply TEs.cons
    ·rfl
    ·apply TE.call' (ds:=[.tup [.int u,.int s]])
     ·rfl
     ·walk_at "glob"
     ·walk_at "tes"
     ·walk_at "keep"
     ·exact negated_c HQ.und (by omega)
    ·walk_at "tes"
  ·show 2 ≤ sizeLine
   decide
 ·rfl
end
section
variable {y:Cy} {sg sg1 sg2 sg':List Cell} {R:RI} {ws:List W} {p a k q q1 kk d:Nat} {args exD:List D} {ev:List Value} {w:W} {s:Str} {fi:FI} {ro ro2:List (Str × D)} {o:Out} {ds:List D} {r:Option D} {ys:List Str} {m n:Int} {x:Ex} {rx:Option Ex}
theorem lp_sign:signAt ws p "(" = decide (ws[p]? = some .lp):=by
 unfold signAt
 cases h:ws[p]? with
 | none=>rfl
 | some w=>cases w <;> decide +kernel
theorem rp_sign:signAt ws p ")" = decide (ws[p]? = some .rp):=by
 unfold signAt
 cases h:ws[p]? with
 | none=>rfl
 | some w=>cases w <;> decide +kernel
theorem bad_pm (h:bad ws[p]? = true):pm ws[p]? = false ∧ nameAt ws p = false ∧ numAt ws p = false ∧ signAt ws p "(" = false:=by
 unfold nameAt numAt signAt kindAt
 cases z:ws[p]? with
 | none=>
  have:ws[p + 1]? = none:=by rw [List.getElem?_eq_none_iff] at z ⊢;omega
  refine ⟨rfl,rfl,rfl,rfl⟩
 | some w=>rw [z] at h;cases w <;> first | (cases h;done) | (refine ⟨?_,?_,?_,?_⟩ <;> first | rfl | decide +kernel)
theorem num_pm (hw:isNum w = true) (h:ws[p]? = some w):pm ws[p]? = false:=by rw [h];exact pm_num hw
theorem name_pm (hw:isName w = true) (h:ws[p]? = some w):pm ws[p]? = false:=by rw [h];exact pm_name hw
theorem name_lp (hw:isName w = true) (h:ws[p]? = some w):signAt ws p "(" = false:=by
 rw [lp_sign,h]
 cases w <;> first | (cases hw;done) | decide
theorem num_lp (hw:isNum w = true) (h:ws[p]? = some w):signAt ws p "(" = false:=num_sign h hw _
theorem prim_pm (hp:pm ws[p]? = true) (hkk:9 ≤ kk):Ct y R ws (kk + 1) 307 d p none p:=by
 intro sg H
 rw [H.self]
 have e:(amongAt ws p ["+","-"] != "") = true:=by
  unfold amongAt
  cases z:ws[p]? with
  | none=>rw [z] at hp;cases hp
  | some w=>rw [z] at hp;cases w <;> first | (cases hp;done) | decide +kernel
 refine CodeOk.fnC (k:=kk) (x1:="reader") (x2:="depth") (o:=.exc) (sg':=sg) (by rfl) (by rfl) (fun v1 v2=>by rfl) rfl rfl rfl (fun L=>by rfl) rfl rfl List.take_length H.und rfl fun L=>?_
 apply TS.weak
 with_reducible apply TS.ifT
 ·walk_at "tb"
 ·exact e
 ·with_reducible apply TS.raise
  with_reducible apply TEX.methO
  ·rfl
  ·walk_at "te"
  ·exact H.inst
  ·exact m_fault _
  ·rfl
  ·walk_at "tes"
  ·exact fault_xc H (by omega)
 ·rfl
theorem prim_num (h:ws[p]? = some w) (hw:isNum w = true) (hkk:9 ≤ kk):Ct y R ws (kk + 1) 307 d p (some (.num (numOf w).1 (numOf w).2)) (p + 1):=by
 intro sg H
 have e:=pm_none (num_pm hw h)
 have e2:signAt ws p "(" = false:=num_lp hw h
 skip
 refine CodeOk.fnC (k:=kk) (x1:="reader") (x2:="depth") (o:=.ret (Ex.num (numOf w).1 (numOf w).2).toD) (sg':=setAt sg R (p + 1)) (by rfl) (by rfl) (fun v1 v2=>by rfl) rfl rfl rfl (fun L=>by rfl) rfl rfl setAt_take H.und' under_D fun L=>?_
 apply TS.weak
 with_reducible apply TS.ifF
 ·walk_at "tb"
 ·rw [e];rfl
 with_reducible apply TS.ifT
 ·walk_at "tb"
 ·rfl
 ·with_reducible apply TS.ret
  (with_reducible apply TE.call');(·rfl);(·walk_at "glob");rotate_left;(·walk_at "keep");(·exact ((operand_num H h hw).up (by omega)));
  with_reducible apply TEs.cons
  ·rfl
  ·walk_at "te"
  ·with_reducible apply TEs.cons
   ·rfl
   ·exact TE.lam rfl rfl rfl
   ·walk_at "tes"
 ·rfl
theorem prim_ref (h:ws[p]? = some w) (hw:isName w = true) (h2:signAt ws (p + 1) "(" = false) (hkk:9 ≤ kk):Ct y R ws (kk + 1) 307 d p (some (.ref w)) (p + 1):=by
 intro sg H
 have e:=pm_none (name_pm hw h)
 have e2:signAt ws p "(" = false:=name_lp hw h
 skip
 refine CodeOk.fnC (k:=kk) (x1:="reader") (x2:="depth") (o:=.ret (Ex.ref w).toD) (sg':=setAt sg R (p + 1)) (by rfl) (by rfl) (fun v1 v2=>by rfl) rfl rfl rfl (fun L=>by rfl) rfl rfl setAt_take H.und' under_D fun L=>?_
 apply TS.weak
 with_reducible apply TS.ifF
 ·walk_at "tb"
 ·rw [e];rfl
 with_reducible apply TS.ifT
 ·walk_at "tb"
 ·rfl
 ·with_reducible apply TS.ret
  (with_reducible apply TE.call');(·rfl);(·walk_at "glob");rotate_left;(·walk_at "keep");(·exact ((operand_ref H h hw h2).up (by omega)));
  with_reducible apply TEs.cons
  ·rfl
  ·walk_at "te"
  ·with_reducible apply TEs.cons
   ·rfl
   ·exact TE.lam rfl rfl rfl
   ·walk_at "tes"
 ·rfl
theorem prim_bad (h:bad ws[p]? = true) (hkk:9 ≤ kk):Ct y R ws (kk + 1) 307 d p none p:=by
 intro sg H
 have e:=pm_none ((bad_pm h).1)
 have e2:signAt ws p "(" = false:=(bad_pm h).2.2.2
 rw [H.self]
 refine CodeOk.fnC (k:=kk) (x1:="reader") (x2:="depth") (o:=.exc) (sg':=sg) (by rfl) (by rfl) (fun v1 v2=>by rfl) rfl rfl rfl (fun L=>by rfl) rfl rfl List.take_length H.und rfl fun L=>?_
 apply TS.weak
 with_reducible apply TS.ifF
 ·walk_at "tb"
 ·rw [e];rfl
 with_reducible apply TS.ifT
 ·walk_at "tb"
 ·rfl
 ·with_reducible apply TS.retX
  (with_reducible apply TE.call');(·rfl);(·walk_at "glob");rotate_left;(·walk_at "keep");(·exact ((operand_bad H (bad_pm h).2.1 (bad_pm h).2.2.1).up (by omega)));
  with_reducible apply TEs.cons
  ·rfl
  ·walk_at "te"
  ·with_reducible apply TEs.cons
   ·rfl
   ·exact TE.lam rfl rfl rfl
   ·walk_at "tes"
 ·rfl
theorem prim_B (h:ws[p]? = some .lp) (hc:Ct y R ws kk 272 (d + 1) (p + 1) (some x) q) (hq:ws[q]? = some .rp) (hkk:9 ≤ kk):Ct y R ws (kk + 1) 307 d p (some x) (q + 1):=by
 intro sg H
 have e:=pm_none (p:=p) (ws:=ws) (by rw [h];rfl)
 have e2:signAt ws p "(" = true:=by rw [lp_sign,h];rfl
 have HS:=H.set (q:=p + 1) (List.getElem?_eq_some_iff.mp h).1
 refine CodeOk.fnC (k:=kk) (x1:="reader") (x2:="depth") (o:=.ret x.toD) (sg':=setAt sg R (q + 1)) (by rfl) (by rfl) (fun v1 v2=>by rfl) rfl rfl rfl (fun L=>by rfl) rfl rfl setAt_take H.und' under_D fun L=>?_
 apply TS.weak
 with_reducible apply TS.ifF
 ·walk_at "tb"
 ·rw [e];rfl
 with_reducible apply TS.ifF
 ·walk_at "tb"
 ·rfl
 have HQ:=H.set (q:=q) (Nat.le_of_lt (List.getElem?_eq_some_iff.mp hq).1)
 have e3:signAt ws q ")" = true:=by rw [rp_sign,hq];rfl
 with_reducible apply TS.set
 ·apply TE.call' (ds:=[.obj R.r,.int ((d + 1:Nat):Int)])
  ·rfl
  ·walk_at "glob"
  ·with_reducible apply TEs.cons
   ·rfl
   ·walk_at "te"
   ·with_reducible apply TEs.cons
    ·rfl
    ·apply TE.asInt
     ·walk_at "te"
     ·omega
    ·walk_at "tes"
  ·walk_at "keep"
  ·exact hc.ok' HS (by omega)
 ·rfl
 ·rfl
 with_reducible apply TS.expr
 ·(with_reducible apply TE.methO);(·rfl);(·walk_at "te");(·exact HQ.inst);(·walk_at "meth");(·rfl);(·walk_at "tes");(·have:=need_tc (k:=kk) (y:=y) HQ e3 (by omega);rw [setAt_setAt] at this;exact this)
 ·rfl
 ·rfl
 walk_at "ret"
theorem prim_BX (h:ws[p]? = some .lp) (hc:Ct y R ws kk 272 (d + 1) (p + 1) none q) (hkk:9 ≤ kk):Ct y R ws (kk + 1) 307 d p none q:=by
 intro sg H
 have e:=pm_none (p:=p) (ws:=ws) (by rw [h];rfl)
 have e2:signAt ws p "(" = true:=by rw [lp_sign,h];rfl
 have HS:=H.set (q:=p + 1) (List.getElem?_eq_some_iff.mp h).1
 refine CodeOk.fnC (k:=kk) (x1:="reader") (x2:="depth") (o:=.exc) (sg':=setAt sg R q) (by rfl) (by rfl) (fun v1 v2=>by rfl) rfl rfl rfl (fun L=>by rfl) rfl rfl setAt_take H.und' rfl fun L=>?_
 apply TS.weak
 with_reducible apply TS.ifF
 ·walk_at "tb"
 ·rw [e];rfl
 with_reducible apply TS.ifF
 ·walk_at "tb"
 ·rfl
 with_reducible apply TS.setX
 ·apply TE.call' (ds:=[.obj R.r,.int ((d + 1:Nat):Int)])
  ·rfl
  ·walk_at "glob"
  ·with_reducible apply TEs.cons
   ·rfl
   ·walk_at "te"
   ·with_reducible apply TEs.cons
    ·rfl
    ·apply TE.asInt
     ·walk_at "te"
     ·omega
    ·walk_at "tes"
  ·walk_at "keep"
  ·exact hc.bad' HS (by omega)
 ·rfl
theorem prim_BY (h:ws[p]? = some .lp) (hc:Ct y R ws kk 272 (d + 1) (p + 1) (some x) q) (hl:q ≤ ws.length) (hq:ws[q]? ≠ some .rp) (hkk:9 ≤ kk):Ct y R ws (kk + 1) 307 d p none q:=by
 intro sg H
 have e:=pm_none (p:=p) (ws:=ws) (by rw [h];rfl)
 have e2:signAt ws p "(" = true:=by rw [lp_sign,h];rfl
 have HS:=H.set (q:=p + 1) (List.getElem?_eq_some_iff.mp h).1
 refine CodeOk.fnC (k:=kk) (x1:="reader") (x2:="depth") (o:=.exc) (sg':=setAt sg R q) (by rfl) (by rfl) (fun v1 v2=>by rfl) rfl rfl rfl (fun L=>by rfl) rfl rfl setAt_take H.und' rfl fun L=>?_
 apply TS.weak
 with_reducible apply TS.ifF
 ·walk_at "tb"
 ·rw [e];rfl
 with_reducible apply TS.ifF
 ·walk_at "tb"
 ·rfl
 have HQ:=H.set hl
 have e3:signAt ws q ")" = false:=by rw [rp_sign];exact decide_eq_false hq
 with_reducible apply TS.set
 ·apply TE.call' (ds:=[.obj R.r,.int ((d + 1:Nat):Int)])
  ·rfl
  ·walk_at "glob"
  ·with_reducible apply TEs.cons
   ·rfl
   ·walk_at "te"
   ·with_reducible apply TEs.cons
    ·rfl
    ·apply TE.asInt
     ·walk_at "te"
     ·omega
    ·walk_at "tes"
  ·walk_at "keep"
  ·exact hc.ok' HS (by omega)
 ·rfl
 ·rfl
 with_reducible apply TS.exprX
 ·(with_reducible apply TE.methO);(·rfl);(·walk_at "te");(·exact HQ.inst);(·walk_at "meth");(·rfl);(·walk_at "tes");(·exact need_fc (k:=kk) (y:=y) HQ e3 (by decide) (by omega))
 ·rfl
 ·rfl
end
section
variable {y:Cy} {R:RI} {ws:List W} {kk d p q:Nat} {f:Addr} {rx:Option Ex} {x:Ex} {w:W} {t t':List W} {r:Option (Ex × List W)}
noncomputable def kS (d:Nat):Nat:=20 + 5 * (21 - d)
noncomputable def Rs (ws:List W):Option (Ex × List W) → Option Ex → Nat → Prop
 | some (x,t'),rx,q=>rx = some x ∧ ws.drop q = t'
 | none,rx,_=>rx = none
noncomputable def Mo (y:Cy) (R:RI) (ws:List W):NT → Nat → Nat → Option (Ex × List W) → Prop
 | .sum,d,p,r=>d ≤ 21 → ∃rx q,q ≤ ws.length ∧ Rs ws r rx q ∧ Ct y R ws (kS d) 272 d p rx q
 | .sumL x,d,p,r=>d ≤ 20 → ∃rx q,q ≤ ws.length ∧ Rs ws r rx q ∧ Run y R ws (kS d - 1) 279 d 1 pm x p rx q
 | .prod,d,p,r=>d ≤ 20 → ∃rx q,q ≤ ws.length ∧ Rs ws r rx q ∧ Ct y R ws (kS d - 1) 279 d p rx q
 | .prodL x,d,p,r=>d ≤ 20 → ∃rx q,q ≤ ws.length ∧ Rs ws r rx q ∧ Run y R ws (kS d - 2) 286 d 2 md x p rx q
 | .fac,d,p,r=>d ≤ 20 → ∃rx q,q ≤ ws.length ∧ Rs ws r rx q ∧ Ct y R ws (kS d - 2) 286 d p rx q
 | .pow,d,p,r=>d ≤ 20 → ∃rx q,q ≤ ws.length ∧ Rs ws r rx q ∧ Ct y R ws (kS d - 3) 300 d p rx q
 | .powL x,d,p,r=>d ≤ 20 → ∃rx q,q ≤ ws.length ∧ Rs ws r rx q ∧ Run y R ws (kS d - 4) 307 d 4 pw x p rx q
 | .prim,d,p,r=>d ≤ 20 → ∃rx q,q ≤ ws.length ∧ Rs ws r rx q ∧ Ct y R ws (kS d - 4) 307 d p rx q
theorem hd_at (h:ws.drop p = t):ws[p]? = t.head?:=by rw [←h,List.head?_drop]
theorem tl_at (h:ws.drop p = w :: t):ws[p]? = some w ∧ p + 1 ≤ ws.length ∧ ws.drop (p + 1) = t:=by
 have h1:ws[p]? = some w:=by rw [hd_at h];rfl
 refine ⟨h1,(List.getElem?_eq_some_iff.mp h1).1,?_⟩
 rw [←List.tail_drop,h]
 rfl
theorem lone_at (h:ws.drop p = t):loneAt ws p = loneT t:=by
 unfold loneAt loneT
 cases t with
 | nil=>rw [hd_at h];rfl
 | cons w t'=>
  obtain ⟨h1,_,h2⟩:=tl_at h
  have h3:=hd_at h2
  rw [h1]
  simp only [h3]
  have e1:(w.kind == "number") = isNum w:=by cases w <;> decide +kernel
  rw [e1]
  cases t' with
  | nil=>rfl
  | cons b t2=>
   have e2:(b.kind != "sign" || b.str != "**") = !pw (some b):=by cases b <;> decide +kernel
   simp only [List.head?_cons]
   rw [e2]
theorem kS_pos (h:d ≤ 20):kS d = kS (d + 1) + 5 ∧ 25 ≤ kS d:=by unfold kS;omega
theorem walked {n:NT} (h:P n d t r):∀p,p ≤ ws.length → ws.drop p = t → Mo y R ws n d p r:=by
 induction h with
 | deep h=>
  intro p hp e hd
  exact ⟨none,p,hp,rfl,(sum_deep (kk:=19) h (by decide) hp).mono (by unfold kS;omega)⟩
 | sum h h1 h2 i1 i2=>
  intro p hp e hd
  obtain ⟨rx,q,hq,rs,hc⟩:=i1 p hp e h
  obtain ⟨rfl,e2⟩:=rs
  obtain ⟨rx,q',hq',rs',hr⟩:=i2 q hq e2 h
  have:=kS_pos h
  exact ⟨rx,q',hq',rs',(sum_ok h hc hq hr (by omega)).mono (by omega)⟩
 | sumX h h1 i1=>
  intro p hp e hd
  obtain ⟨rx,q,hq,rs,hc⟩:=i1 p hp e h
  cases rs
  have:=kS_pos h
  exact ⟨none,q,hq,rfl,(sum_x h hc (by omega)).mono (by omega)⟩
 | sumE h=>
  intro p hp e hd
  exact ⟨_,p,hp,⟨rfl,e⟩,.done (by rw [hd_at e];exact h)⟩
 | sumS ho h1 h2 i1 i2=>
  intro p hp e hd
  obtain ⟨hw,hp1,e1⟩:=tl_at e
  obtain ⟨rx,q,hq,rs,hc⟩:=i1 _ hp1 e1 hd
  obtain ⟨rfl,e2⟩:=rs
  obtain ⟨rx,q',hq',rs',hr⟩:=i2 q hq e2 hd
  exact ⟨rx,q',hq',rs',.step ho hw hc hq hr⟩
 | sumSX ho h1 i1=>
  intro p hp e hd
  obtain ⟨hw,hp1,e1⟩:=tl_at e
  obtain ⟨rx,q,hq,rs,hc⟩:=i1 _ hp1 e1 hd
  cases rs
  exact ⟨none,q,hq,rfl,.exc ho hw hc⟩
 | prod h1 h2 i1 i2=>
  intro p hp e h
  obtain ⟨rx,q,hq,rs,hc⟩:=i1 p hp e h
  obtain ⟨rfl,e2⟩:=rs
  obtain ⟨rx,q',hq',rs',hr⟩:=i2 q hq e2 h
  have:=kS_pos h
  exact ⟨rx,q',hq',rs',(product_ok hc hq hr (by omega)).mono (by omega)⟩
 | prodX h1 i1=>
  intro p hp e h
  obtain ⟨rx,q,hq,rs,hc⟩:=i1 p hp e h
  cases rs
  have:=kS_pos h
  exact ⟨none,q,hq,rfl,(product_x hc (by omega)).mono (by omega)⟩
 | prodE h=>
  intro p hp e hd
  exact ⟨_,p,hp,⟨rfl,e⟩,.done (by rw [hd_at e];exact h)⟩
 | prodS ho h1 h2 i1 i2=>
  intro p hp e hd
  obtain ⟨hw,hp1,e1⟩:=tl_at e
  obtain ⟨rx,q,hq,rs,hc⟩:=i1 _ hp1 e1 hd
  obtain ⟨rfl,e2⟩:=rs
  obtain ⟨rx,q',hq',rs',hr⟩:=i2 q hq e2 hd
  exact ⟨rx,q',hq',rs',.step ho hw hc hq hr⟩
 | prodSX ho h1 i1=>
  intro p hp e hd
  obtain ⟨hw,hp1,e1⟩:=tl_at e
  obtain ⟨rx,q,hq,rs,hc⟩:=i1 _ hp1 e1 hd
  cases rs
  exact ⟨none,q,hq,rfl,.exc ho hw hc⟩
 | facP h i=>
  intro p hp e hd
  obtain ⟨hw,hp1,e1⟩:=tl_at e
  obtain ⟨rx,q,hq,rs,hc⟩:=i _ hp1 e1 hd
  have:=kS_pos hd
  exact ⟨rx,q,hq,rs,(fac_P hw hc (by omega)).mono (by omega)⟩
 | facN hl h i=>
  intro p hp e hd
  obtain ⟨hw,hp1,e1⟩:=tl_at e
  obtain ⟨rx,q,hq,rs,hc⟩:=i _ hp1 e1 hd
  obtain ⟨rfl,e2⟩:=rs
  have:=kS_pos hd
  exact ⟨_,q,hq,⟨rfl,e2⟩,(fac_N hw (by rw [lone_at e1];exact hl) hc (by omega)).mono (by omega)⟩
 | facL hl h i=>
  intro p hp e hd
  obtain ⟨hw,hp1,e1⟩:=tl_at e
  obtain ⟨rx,q,hq,rs,hc⟩:=i _ hp1 e1 hd
  obtain ⟨rfl,e2⟩:=rs
  have:=kS_pos hd
  exact ⟨_,q,hq,⟨rfl,e2⟩,(fac_L hw (by rw [lone_at e1];exact hl) hc hq (by omega)).mono (by omega)⟩
 | facX h i=>
  intro p hp e hd
  obtain ⟨hw,hp1,e1⟩:=tl_at e
  obtain ⟨rx,q,hq,rs,hc⟩:=i _ hp1 e1 hd
  cases rs
  have:=kS_pos hd
  exact ⟨none,q,hq,rfl,(fac_X hw hc (by omega)).mono (by omega)⟩
 | facO h0 h i=>
  intro p hp e hd
  obtain ⟨rx,q,hq,rs,hc⟩:=i p hp e hd
  have:=kS_pos hd
  exact ⟨rx,q,hq,rs,(fac_O (by rw [hd_at e];exact h0) hc (by omega)).mono (by omega)⟩
 | pow h1 h2 i1 i2=>
  intro p hp e h
  obtain ⟨rx,q,hq,rs,hc⟩:=i1 p hp e h
  obtain ⟨rfl,e2⟩:=rs
  obtain ⟨rx,q',hq',rs',hr⟩:=i2 q hq e2 h
  have:=kS_pos h
  exact ⟨rx,q',hq',rs',(power_ok hc hq hr (by omega)).mono (by omega)⟩
 | powX h1 i1=>
  intro p hp e h
  obtain ⟨rx,q,hq,rs,hc⟩:=i1 p hp e h
  cases rs
  have:=kS_pos h
  exact ⟨none,q,hq,rfl,(power_x hc (by omega)).mono (by omega)⟩
 | powE h=>
  intro p hp e hd
  exact ⟨_,p,hp,⟨rfl,e⟩,.done (by rw [hd_at e];exact h)⟩
 | powS h1 h2 i1 i2=>
  intro p hp e hd
  obtain ⟨hw,hp1,e1⟩:=tl_at e
  obtain ⟨rx,q,hq,rs,hc⟩:=i1 _ hp1 e1 hd
  obtain ⟨rfl,e2⟩:=rs
  obtain ⟨rx,q',hq',rs',hr⟩:=i2 q hq e2 hd
  exact ⟨rx,q',hq',rs',.step (o:=.pow) rfl hw hc hq hr⟩
 | powSX h1 i1=>
  intro p hp e hd
  obtain ⟨hw,hp1,e1⟩:=tl_at e
  obtain ⟨rx,q,hq,rs,hc⟩:=i1 _ hp1 e1 hd
  cases rs
  exact ⟨none,q,hq,rfl,.exc (o:=.pow) rfl hw hc⟩
 | primX h=>
  intro p hp e hd
  have:=kS_pos hd
  exact ⟨none,p,hp,rfl,(prim_pm (by rw [hd_at e];exact h) (Nat.le_refl _)).mono (by omega)⟩
 | primB h i=>
  intro p hp e hd
  obtain ⟨hw,hp1,e1⟩:=tl_at e
  obtain ⟨rx,q,hq,rs,hc⟩:=i _ hp1 e1 (by omega)
  obtain ⟨rfl,e2⟩:=rs
  obtain ⟨hw2,hp2,e3⟩:=tl_at e2
  have:=kS_pos hd
  exact ⟨_,q + 1,hp2,⟨rfl,e3⟩,(prim_B hw hc hw2 (by unfold kS;omega)).mono (by omega)⟩
 | primBX h i=>
  intro p hp e hd
  obtain ⟨hw,hp1,e1⟩:=tl_at e
  obtain ⟨rx,q,hq,rs,hc⟩:=i _ hp1 e1 (by omega)
  cases rs
  have:=kS_pos hd
  exact ⟨none,q,hq,rfl,(prim_BX hw hc (by unfold kS;omega)).mono (by omega)⟩
 | primBY h h2 i=>
  intro p hp e hd
  obtain ⟨hw,hp1,e1⟩:=tl_at e
  obtain ⟨rx,q,hq,rs,hc⟩:=i _ hp1 e1 (by omega)
  obtain ⟨rfl,e2⟩:=rs
  have:=kS_pos hd
  exact ⟨none,q,hq,rfl,(prim_BY hw hc hq (by rw [hd_at e2];exact h2) (by unfold kS;omega)).mono (by omega)⟩
 | num h=>
  intro p hp e hd
  obtain ⟨hw,hp1,e1⟩:=tl_at e
  have:=kS_pos hd
  exact ⟨_,p + 1,hp1,⟨rfl,e1⟩,(prim_num hw h (Nat.le_refl _)).mono (by omega)⟩
 | ref h h2=>
  intro p hp e hd
  obtain ⟨hw,hp1,e1⟩:=tl_at e
  have:=kS_pos hd
  exact ⟨_,p + 1,hp1,⟨rfl,e1⟩,(prim_ref hw h (by rw [lp_sign,hd_at e1];exact decide_eq_false h2) (Nat.le_refl _)).mono (by omega)⟩
 | bad h=>
  intro p hp e hd
  have:=kS_pos hd
  exact ⟨none,p,hp,rfl,(prim_bad (by rw [hd_at e];exact h) (Nat.le_refl _)).mono (by omega)⟩
end
section
variable {y:Cy} {sg:List Cell} {R:RI} {ws:List W} {k q:Nat} {r:Option (Ex × List W)} {rx:Option Ex}
theorem b_read (P:Params):Bnd (theK P) 258 ["reader"] 1 []:=fun S=>len1 fun a=>by kernel_rfl
theorem read_ok (h:P .sum 0 ws r) (H:Rdr sg R ws 0):∃rx q,q ≤ ws.length ∧ Rs ws r rx q ∧ CodeOk y.cx 126 (.ref 258) [.obj R.r] sg (rx.map Ex.toD) (setAt sg R q):=by
 obtain ⟨rx,q,hq,rs,hc⟩:=walked (y:=y) (R:=R) h 0 (Nat.zero_le _) rfl (by decide)
 refine ⟨rx,q,hq,rs,?_⟩
 have hc':Ct y R ws 125 272 0 0 rx q:=hc
 cases rx with
 | some x=>
  refine CodeOk.fnL (k:=125) (o:=.ret x.toD) (ro:=[("reader",.obj R.r)]) (sg':=setAt sg R q) (by rfl) (by rfl) (by rfl) rfl ex0 (b_read _) rfl setAt_take H.und' under_D fun L=>?_
  apply TS.retE
  (with_reducible apply TE.call');(·rfl);(·walk_at "glob");(·walk_at "tes");(·walk_at "keep");(·exact hc'.ok H (by omega))
 | none=>
  refine CodeOk.fnL (k:=125) (o:=.exc) (ro:=[("reader",.obj R.r)]) (sg':=setAt sg R q) (by rfl) (by rfl) (by rfl) rfl ex0 (b_read _) rfl setAt_take H.und' rfl fun L=>?_
  apply TS.weak
  with_reducible apply TS.retX
  (with_reducible apply TE.call');(·rfl);(·walk_at "glob");(·walk_at "tes");(·walk_at "keep");(·exact hc'.bad H (by omega))
end
section
variable {C:Cx} {fi:FI} {k:Nat} {outer:List Env} {h₀ h h':Heap} {th₀ th:List Addr} {ro ro1 ro2 ro3 ro' e:List (Str × D)} {sg sg1 sg2 sg3 sg':List Cell} {d d1 d2:D} {o:Out} {b:Bool}
theorem lookup_app {x:Str} {d:D}:∀{ro e:List (Str × D)},ro.lookup x = some d → (ro ++ e).lookup x = some d
 | [],_,h=>by cases h
 | p :: ro,e,h=>by
  obtain ⟨p1,p2⟩:=p
  simp only [List.cons_append,List.lookup_cons] at h ⊢
  split
  ·rename_i z;rw [z] at h;exact h
  ·rename_i z;rw [z] at h;exact lookup_app h
theorem InF.dropA (I:InF C fi outer h₀ th₀ th sg (ro ++ e) h):InF C fi outer h₀ th₀ th sg ro h:=
 ⟨I.hi,I.kp,I.pre,I.base,I.basP,I.lo,I.lth,I.lf,I.lk,let ⟨m,hm,r⟩:=I.ns;⟨m,hm,fun x d q=>r x d (lookup_app q)⟩,I.cl⟩
theorem TF.dropA {target:Expr} {j:Nat} {body:List Stmt} (h:TF C fi k target j body ro sg o ro' sg') (q:∃e,ro2 = ro ++ e):TF C fi k target j body ro2 sg o ro' sg':=by
 obtain ⟨e,rfl⟩:=q
 exact fun A outer h₀ th₀ th s R a ak I ha post=>h A outer h₀ th₀ th s R a ak I.dropA ha post
theorem TW.dropA {test:Expr} {body:List Stmt} (h:TW C fi k test body ro sg o ro' sg') (q:∃e,ro2 = ro ++ e):TW C fi k test body ro2 sg o ro' sg':=by
 obtain ⟨e,rfl⟩:=q
 exact fun A outer h₀ th₀ th s R ak I post=>h A outer h₀ th₀ th s R ak I.dropA post
theorem TS.dropA {ss:List Stmt} (h:TS C fi k ss ro sg o ro' sg') (q:∃e,ro2 = ro ++ e):TS C fi k ss ro2 sg o ro' sg':=by
 obtain ⟨e,rfl⟩:=q
 exact fun A outer h₀ th₀ th s Q E ak I post=>h A outer h₀ th₀ th s Q E ak I.dropA post
theorem TS.cutTo {ss:List Stmt} (h:TS C fi k ss ro sg .next ro2 sg') (q:∃e,ro2 = ro3 ++ e):TS C fi k ss ro sg .next ro3 sg':=by
 obtain ⟨e,rfl⟩:=q
 exact fun A outer h₀ th₀ th s Q E ak I post=>h A outer h₀ th₀ th s Q E ak I fun h' tk tl J=>post h' tk tl J.dropA
theorem TF.count {target:Expr} {j n:Nat} {body:List Stmt} (B:Nat → List (Str × D)) (G:Nat → List Cell)
  (hstep:∀i,i < n → ∃d ro1 sg1,TN C fi k target j (B i) (G i) (some d) sg1 ∧ TA C fi target d (B i) ro1 ∧ TS C fi k body ro1 sg1 .next (B (i + 1)) (G (i + 1)))
  (hend:TN C fi k target j (B n) (G n) none sg'):TF C fi k target j body (B 0) (G 0) .next (B n) sg':=by
 have:∀m i,i + m = n → TF C fi k target j body (B i) (G i) .next (B n) sg':=by
  intro m
  induction m with
  | zero=>
   intro i hi
   have:i = n:=by omega
   subst this;exact TF.done hend
  | succ m ih=>
   intro i hi
   obtain ⟨d,ro1,sg1,h1,h2,h3⟩:=hstep i (by omega)
   exact TF.step h1 h2 h3 (ih (i + 1) (by omega))
 exact this n 0 (by omega)
theorem TW.count {test:Expr} {body:List Stmt} (n:Nat) (B:Nat → List (Str × D)) (G:Nat → List Cell)
  (hstep:∀i,i < n → TB C fi k test (B i) (G i) (some true) (G i) ∧ TS C fi k body (B i) (G i) .next (B (i + 1)) (G (i + 1)))
  (hend:TB C fi k test (B n) (G n) (some false) (G n)):TW C fi k test body (B 0) (G 0) .next (B n) (G n):=by
 have:∀m i,i + m = n → TW C fi k test body (B i) (G i) .next (B n) (G n):=by
  intro m
  induction m with
  | zero=>
   intro i hi
   have:i = n:=by omega
   subst this;exact TW.done hend
  | succ m ih=>
   intro i hi
   obtain ⟨h1,h2⟩:=hstep i (by omega)
   exact TW.step h1 h2 (ih (i + 1) (by omega))
 exact this n 0 (by omega)
theorem TE.dict0 {pos:Pos}:TE C fi k (.Dict [] [] pos) ro sg (some (.obj sg.length)) (sg ++ [.dict []]):=by
 intro A outer h₀ th₀ th s Q E a I post
 refine wpAny_Dict_empty ?_
 have len:=I.hi.len
 refine post _ _ _ [s.heap.objs.size] (I.grow (c:=.dict []) new_none push_ext ⟨[],0,Heap.get?_push_size _ rfl,rfl⟩) (.push _) (fun b m=>by rw [List.mem_singleton] at m;subst m;exact new_none) ?_
 simp only [Rep]
 exact ⟨_,by rw [←len];simp,rfl⟩
theorem set_mid {l:List Cell} {a b c:Cell}:(l ++ [a,b]).set l.length c = l ++ [c,b]:=by rw [List.set_append_right _ _ (Nat.le_refl _)];simp
theorem TS.forE {ee it i:Nat} {target iter:Expr} {body rest:List Stmt} {pos:Pos} (h1:TE C fi k iter ro sg (some (.obj ee)) sg1) (hs:sg1[ee]? = some (.enum it i)) (hf:∀x,foldedSetIterable iter fi.env x = pure x)
  (h:TF C fi k target ee body ro sg1 .next ro2 sg2) (h3:TS C fi k rest ro2 sg2 o ro3 sg3):TS C fi k (.For target iter body [] pos :: rest) ro sg o ro3 sg3:=TS.cons (TX.forEnum h1 hs h hf rfl) h3
theorem TS.fld {oe value:Expr} {name:Str} {pos' pos:Pos} {i dl:Nat} {Cc:Addr} {es:List (Str × D)} {rest:List Stmt} (h1:TE C fi k value ro sg (some d) sg1) (h2:TE C fi k oe ro sg1 (some (.obj i)) sg2) (X:IsInst sg2 i Cc dl es) (hz:es.length ≤ 900)
  (S:SetA C.K Cc name) (hsw:swapsWith value (some (.Attribute oe name pos')) pos.line fi.env = pure false) (h3:TS C fi k rest ro (sg2.set dl (.dict (put name d es))) o ro2 sg'):
  TS C fi k (.Assign [.Attribute oe name pos'] value pos :: rest) ro sg o ro2 sg':=TS.cons (TX.attr h1 h2 X hz S.set S.plain S.take S.dict hsw) h3
end
section
variable {y:Cy} {sg:List Cell} {k:Nat} {kd wo:Str} {n:Int} {t:Nat}
theorem b_tok_init (P:Params):Bnd (theK P) 154 ["self","kind","worth","at","is_in_a"] 4 [.bool false]:=fun S=>len4 fun a b c d=>by kernel_rfl
theorem b_rd_init (P:Params):Bnd (theK P) 369 ["self","tokens","at"] 2 [.int 0 723]:=fun S=>len2 fun a b=>by kernel_rfl
noncomputable abbrev tkE (kd wo:Str) (n:Int):List (Str × D):=[("kind",.str kd),("worth",.str wo),("at",.tup [.int 1,.int n]),("is_in_a",.bool false)]
theorem inst_mid {es:List (Str × D)} {Cc:Addr}:IsInst (sg ++ [.dict es,.inst Cc sg.length]) (sg.length + 1) Cc sg.length es:=⟨by simp,by simp⟩
theorem und_inst {es:List (Str × D)} {Cc:Addr} (u:Und sg) (h:D.unders (sg.length + 2) (es.map (·.2)) = true):Und (sg ++ [.dict es,.inst Cc sg.length]):=und_app u (by
 intro c hc
 simp only [List.mem_cons,List.not_mem_nil,or_false] at hc
 rcases hc with rfl | rfl
 ·simpa [Cell.under] using h
 ·simp [Cell.under])
theorem tok_init (u:Und sg):CodeOk y.cx 1 (.ref 154) [.obj (sg.length + 1),.str kd,.str wo,.tup [.int 1,.int n]] (sg ++ [.dict [],.inst 164 sg.length]) (some .none) (sg ++ [.dict (tkE kd wo n),.inst 164 sg.length]):=by
 have uu:Und (sg ++ [.dict (tkE kd wo n),.inst 164 sg.length]):=und_inst u (by simp [D.unders,D.under])
 have hl:(sg ++ [Cell.dict (tkE kd wo n),Cell.inst 164 sg.length]).length = (sg ++ [Cell.dict [],Cell.inst 164 sg.length]).length:=by simp
 refine CodeOk.fnL (k:=0) (o:=.next) (ro:=[("self",.obj (sg.length + 1)),("kind",.str kd),("worth",.str wo),("at",.tup [.int 1,.int n]),("is_in_a",.bool false)]) (exD:=[.bool false]) (sg':=sg ++ [.dict (tkE kd wo n),.inst 164 sg.length]) (by rfl) (by rfl) (by rfl) rfl
  (fun _ _=>⟨_,_,rfl,rfl,rfl⟩) (b_tok_init _) rfl (by rw [←hl];exact List.take_length) (by rw [←hl];exact uu) rfl fun L=>?_
 apply TS.weak
 with_reducible apply TS.fld
 ·walk_at "te"
 ·walk_at "te"
 ·exact inst_mid
 ·exact Nat.le_of_ble_eq_true rfl
 ·exact st_kind _
 ·rfl
 rw [set_mid]
 with_reducible apply TS.fld
 ·walk_at "te"
 ·walk_at "te"
 ·exact inst_mid
 ·exact Nat.le_of_ble_eq_true rfl
 ·exact st_worth _
 ·rfl
 rw [set_mid]
 with_reducible apply TS.fld
 ·walk_at "te"
 ·walk_at "te"
 ·exact inst_mid
 ·exact Nat.le_of_ble_eq_true rfl
 ·exact st_at _
 ·rfl
 rw [set_mid]
 with_reducible apply TS.fld
 ·walk_at "te"
 ·walk_at "te"
 ·exact inst_mid
 ·exact Nat.le_of_ble_eq_true rfl
 ·exact st_is_in_a _
 ·rfl
 rw [set_mid]
 exact TS.nil
theorem tok_make (u:Und sg) (hk:2 ≤ k):CallOk y.cx k (.ref 164) [.str kd,.str wo,.tup [.int 1,.int n]] sg (some (.obj (sg.length + 1))) (sg ++ [.dict (tkE kd wo n),.inst 164 sg.length]):=
 (CodeOk.make (k:=1) (by kernel_rfl) (fI:=154) (by kernel_rfl) (by kernel_rfl) (tok_init u)).up hk
theorem rd_init (u:Und sg) (ht:t < sg.length):CodeOk y.cx 1 (.ref 369) [.obj (sg.length + 1),.obj t] (sg ++ [.dict [],.inst 523 sg.length]) (some .none) ((sg ++ [.dict [("tokens",.obj t),("at",.int 0),("named",.obj (sg.length + 2))],.inst 523 sg.length]) ++ [.dict []]):=by
 have hl:(sg ++ [Cell.dict [],Cell.inst 523 sg.length]).length = sg.length + 2:=by simp
 have uu:Und ((sg ++ [.dict [("tokens",.obj t),("at",.int 0),("named",.obj (sg.length + 2))],.inst 523 sg.length]) ++ [.dict []]):=by
  have:=und_app (l:=[.dict [("tokens",.obj t),("at",.int 0),("named",.obj (sg.length + 2))],.inst 523 sg.length,.dict []]) u (by
   intro c hc
   simp only [List.mem_cons,List.not_mem_nil,or_false] at hc
   rcases hc with rfl | rfl | rfl
   ·simp [Cell.under,D.unders,D.under];omega
   ·simp [Cell.under]
   ·rfl)
  simpa using this
 refine CodeOk.fnM (k:=0) (sg.length + 3) (o:=.next) (ro:=[("self",.obj (sg.length + 1)),("tokens",.obj t),("at",.int 0)]) (exD:=[.int 0]) (sg':=(sg ++ [.dict [("tokens",.obj t),("at",.int 0),("named",.obj (sg.length + 2))],.inst 523 sg.length]) ++ [.dict []]) (by rfl) (by rfl) (by rfl) rfl
  (fun _ _=>⟨_,_,rfl,⟨_,rfl⟩,rfl⟩) (b_rd_init _) rfl (by rw [hl];omega) (List.take_of_length_le (by simp)) (by unfold Und at uu;simpa using uu) rfl (fun h=>by cases h) ⟨[],fun L=>?_⟩
 apply TS.weak
 with_reducible apply TS.fld
 ·walk_at "te"
 ·walk_at "te"
 ·exact inst_mid
 ·exact Nat.le_of_ble_eq_true rfl
 ·exact sr_tokens _
 ·rfl
 rw [set_mid]
 with_reducible apply TS.fld
 ·walk_at "te"
 ·walk_at "te"
 ·exact inst_mid
 ·exact Nat.le_of_ble_eq_true rfl
 ·exact sr_at _
 ·rfl
 rw [set_mid]
 have e0:(sg ++ [Cell.dict (put "at" (D.int 0) (put "tokens" (D.obj t) [])),Cell.inst 523 sg.length]).length = sg.length + 2:=by simp
 apply TS.fld (i:=sg.length + 1) (dl:=sg.length) (Cc:=523) (es:=put "at" (D.int 0) (put "tokens" (D.obj t) []))
 ·exact TE.dict0
 ·walk_at "te"
 ·exact ⟨by simp,by simp⟩
 ·exact Nat.le_of_ble_eq_true rfl
 ·exact sr_named _
 ·rfl
 rw [e0,List.set_append_left _ _ (by simp),set_mid]
 exact TS.nil
theorem rd_make (u:Und sg) (ht:t < sg.length) (hk:2 ≤ k):CallOk y.cx k (.ref 523) [.obj t] sg (some (.obj (sg.length + 1))) ((sg ++ [.dict [("tokens",.obj t),("at",.int 0),("named",.obj (sg.length + 2))],.inst 523 sg.length]) ++ [.dict []]):=
 (CodeOk.make (k:=1) (by kernel_rfl) (fI:=369) (by kernel_rfl) (by kernel_rfl) (rd_init u ht)).up hk
end
theorem setR {l l2:List Cell} {n i:Nat} {c:Cell} (h:n = l.length + i):(l ++ l2).set n c = l ++ l2.set i c:=by
 subst h
 rw [List.set_append_right _ _ (by omega)]
 simp
theorem getR {l l2:List Cell} {n i:Nat} (h:n = l.length + i):(l ++ l2)[n]? = l2[i]?:=by
 subst h
 rw [List.getElem?_append_right (by omega)]
 simp
noncomputable def tkCells (b:Nat):Nat → List W → List Cell
 | _,[]=>[]
 | i,w :: t=>.dict (tkE w.kind w.str ((i:Int) + 1)) :: .inst 164 b :: tkCells (b + 2) (i + 1) t
theorem tk_len:∀{t:List W} {b i:Nat},(tkCells b i t).length = 2 * t.length
 | [],_,_=>rfl
 | w :: t,b,i=>by simp only [tkCells,List.length_cons,tk_len];omega
theorem tk_snoc:∀{t:List W} {b i:Nat} {w:W},tkCells b i (t ++ [w]) = tkCells b i t ++ [.dict (tkE w.kind w.str (((i + t.length:Nat):Int) + 1)),.inst 164 (b + 2 * t.length)]
 | [],b,i,w=>rfl
 | a :: t,b,i,w=>by
  simp only [List.cons_append,tkCells,tk_snoc,List.length_cons]
  have e1:i + 1 + t.length = i + (t.length + 1):=by omega
  have e2:b + 2 + 2 * t.length = b + 2 * (t.length + 1):=by omega
  rw [e1,e2]
theorem tk_get:∀{t:List W} {b i j:Nat} {w:W},t[j]? = some w → (tkCells b i t)[2 * j]? = some (.dict (tkE w.kind w.str (((i + j:Nat):Int) + 1))) ∧ (tkCells b i t)[2 * j + 1]? = some (.inst 164 (b + 2 * j))
 | a :: t,b,i,0,w,h=>by cases h;exact ⟨rfl,rfl⟩
 | a :: t,b,i,j + 1,w,h=>by
  have:=tk_get (b:=b + 2) (i:=i + 1) (show t[j]? = some w from h)
  have e1:2 * (j + 1) = 2 * j + 1 + 1:=by omega
  have e2:i + (j + 1) = i + 1 + j:=by omega
  have e3:b + (2 * j + 1 + 1) = b + 2 + 2 * j:=by omega
  rw [e1,e2,e3]
  exact this
theorem tk_under:∀{t:List W} {b i m:Nat},b + 2 * t.length ≤ m + 1 → (tkCells b i t).all (Cell.under m) = true
 | [],_,_,_,_=>rfl
 | w :: t,b,i,m,h=>by
  simp only [List.length_cons] at h
  simp only [tkCells,List.all_cons,Bool.and_eq_true]
  refine ⟨by simp [Cell.under,D.unders,D.under],?_,tk_under (by omega)⟩
  simp only [Cell.under,decide_eq_true_eq];omega
noncomputable def c0 (w:W):Nat:=(w.str.cps[0]?).getD 0
section
variable {w:W}
theorem c0_at:(seqIndex? 0 w.str.length).bind (w.str.cps[·]?) = some (c0 w):=by cases w <;> decide +kernel
theorem c0_A:(!decide ((⟨#[c0 w]⟩:Str).cps.toList < ("A":Str).cps.toList)) = isName w:=by cases w <;> decide +kernel
theorem c0_Z (h:isName w = true):(!decide (("Z":Str).cps.toList < (⟨#[c0 w]⟩:Str).cps.toList)) = true:=by cases w <;> first | (cases h;done) | decide +kernel
theorem c0_n:inStr ⟨#[c0 w]⟩ "0123456789" = isNum w:=by cases w <;> decide +kernel
theorem c0_q:((⟨#[c0 w]⟩:Str) == "'") = false:=by cases w <;> decide +kernel
theorem not_lit:(w.kind == "literal") = false:=by cases w <;> decide +kernel
theorem kind_nm (h:isName w = true):w.kind = "word":=by cases w <;> first | (cases h;done) | rfl
theorem kind_nu (h:isNum w = true):w.kind = "number":=by cases w <;> first | (cases h;done) | rfl
theorem kind_sg (h:isName w = false) (h2:isNum w = false):w.kind = "sign":=by cases w <;> first | (cases h;done) | (cases h2;done) | rfl
end
noncomputable abbrev wordsC (ws:List W):Cell:=.list (ws.map fun w=>.str w.str)
section
variable {y:Cy} {sg:List Cell} {ws:List W} {k wi:Nat}
theorem b_law_reader (P:Params):Bnd (theK P) 548 ["words"] 1 []:=fun S=>len1 fun a=>by kernel_rfl
noncomputable abbrev gC (L wi:Nat) (ws:List W) (i:Nat) (j:Nat):List Cell:=[.list ((List.range i).map fun j=>.obj (L + 3 + 2 * j + 1)),.liter wi j,.enum (L + 1) j] ++ tkCells (L + 3) 0 (ws.take i)
noncomputable abbrev fC (L:Nat) (ws:List W):List Cell:=[.list ((List.range ws.length).map fun j=>.obj (L + 3 + 2 * j + 1)),.dead,.enum (L + 1) ws.length] ++ tkCells (L + 3) 0 ws
noncomputable abbrev eC (L n:Nat):List Cell:=[.dict [("tokens",.obj L),("at",.int 0),("named",.obj (L + 3 + 2 * n + 2))],.inst 523 (L + 3 + 2 * n),.dict []]
noncomputable abbrev eC2 (L n:Nat):List Cell:=[.dict [("tokens",.obj L),("at",.int 0),("named",.obj (L + 3 + 2 * n + 2))],.inst 523 (L + 3 + 2 * n)]
theorem gC_len {L i j:Nat} (h:i ≤ ws.length):(gC L wi ws i j).length = 3 + 2 * i:=by
 simp only [gC,List.length_append,List.length_cons,List.length_nil,tk_len,List.length_take];omega
theorem gC_und {L i j:Nat} (h:i ≤ ws.length) (hw:wi < L):(gC L wi ws i j).all (Cell.under (L + 3 + 2 * i)) = true:=by
 have hh:∀(l:List Nat),(∀x ∈ l,x < i) → D.unders (L + 3 + 2 * i) (l.map fun j=>D.obj (L + 3 + 2 * j + 1)) = true:=by
  intro l
  induction l with
  | nil=>intro _;rfl
  | cons a l ih=>
   intro hm
   simp only [List.map_cons,D.unders,Bool.and_eq_true]
   refine ⟨?_,ih fun x hx=>hm x (.tail _ hx)⟩
   have:=hm a (.head _)
   simp only [D.under,decide_eq_true_eq];omega
 simp only [gC,List.cons_append,List.nil_append,List.all_cons,Bool.and_eq_true]
 refine ⟨hh _ fun x hx=>List.mem_range.mp hx,?_,?_,tk_under ?_⟩
 ·simp only [Cell.under,decide_eq_true_eq];omega
 ·simp only [Cell.under,decide_eq_true_eq];omega
 ·rw [List.length_take];omega
theorem und_all {l:List Cell} (u:Und sg) (h:l.all (Cell.under (sg.length + l.length)) = true):Und (sg ++ l):=und_app u (by
 rw [List.all_eq_true] at h
 intro c hc
 rw [List.length_append]
 exact h c hc)
theorem law_reader_ok (u:Und sg) (hw:sg[wi]? = some (wordsC ws)) (hne:0 < ws.length) (hs:ws.length ≤ 100000):
  ∃(R:RI) (l:List Cell),Rdr (sg ++ l) R ws 0 ∧ sg.length ≤ R.dl ∧ CodeOk y.cx 4 (.ref 548) [.obj wi] sg (some (.obj R.r)) (sg ++ l):=by
 have hwi:wi < sg.length:=(List.getElem?_eq_some_iff.mp hw).1
 generalize hL:sg.length = L at hwi
 refine ⟨⟨L + 3 + 2 * ws.length + 1,L + 3 + 2 * ws.length,L,L + 3 + 2 * ws.length + 2,fun i=>L + 3 + 2 * i + 1,fun i=>L + 3 + 2 * i⟩,
  (fC L ws) ++ eC L ws.length,?_,by show L ≤ L + 3 + 2 * ws.length;omega,?_⟩
 all_goals
  have gu:Und (sg ++ fC L ws):=by
   refine und_all u ?_
   have:=gC_und (ws:=ws) (wi:=wi) (L:=L) (i:=ws.length) (j:=ws.length) (Nat.le_refl _) hwi
   simp only [gC,List.take_length,List.cons_append,List.nil_append,List.all_cons,Bool.and_eq_true] at this ⊢
   simp only [List.length_cons,tk_len,hL]
   refine ⟨?_,rfl,?_,?_⟩
   ·have e:L + (2 * ws.length + 1 + 1 + 1) = L + 3 + 2 * ws.length:=by omega
    rw [e];exact this.1
   ·simp only [Cell.under,decide_eq_true_eq];omega
   ·have e:L + (2 * ws.length + 1 + 1 + 1) = L + 3 + 2 * ws.length:=by omega
    rw [e];exact this.2.2.2
  have glen:(sg ++ fC L ws).length = L + 3 + 2 * ws.length:=by
   simp only [fC,List.length_append,List.length_cons,List.length_nil,tk_len,hL];omega
 · -- what stands then
  have tlen:(fC L ws).length = 3 + 2 * ws.length:=by
   simp only [fC,List.length_append,List.length_cons,List.length_nil,tk_len];try omega
  refine ⟨⟨?_,?_⟩,?_,fun i w h=>?_,hs,?_,Nat.zero_le _,hne⟩
  ·rw [←List.append_assoc,getR (i:=1) (by rw [glen])];rfl
  ·rw [←List.append_assoc,getR (i:=0) (by rw [glen];rfl)];rfl
  ·rw [getR (i:=0) (by rw [hL];rfl)];rfl
  ·have hi:i < ws.length:=(List.getElem?_eq_some_iff.mp h).1
   obtain ⟨h1,h2⟩:=tk_get (b:=L + 3) (i:=0) h
   have a1:(sg ++ (fC L ws ++ eC L ws.length))[L + 3 + 2 * i]? = (tkCells (L + 3) 0 ws)[2 * i]?:=by
    rw [getR (i:=3 + 2 * i) (by rw [hL];omega),List.getElem?_append_left (by rw [tlen];omega),getR (i:=2 * i) (by simp)]
   have a2:(sg ++ (fC L ws ++ eC L ws.length))[L + 3 + 2 * i + 1]? = (tkCells (L + 3) 0 ws)[2 * i + 1]?:=by
    rw [getR (i:=3 + (2 * i + 1)) (by rw [hL];omega),List.getElem?_append_left (by rw [tlen];omega),getR (i:=2 * i + 1) (by simp)]
   refine ⟨?_,?_⟩
   ·rw [a2,h2]
   ·rw [a1,h1,Nat.zero_add]
    simp only [tkE,tkEnts]
    rfl
  ·have:=und_app (l:=eC L ws.length) gu (by
    intro c hc
    rw [List.length_append,glen]
    simp only [List.mem_cons,List.not_mem_nil,or_false] at hc
    rcases hc with rfl | rfl | rfl
    ·simp [Cell.under,D.unders,D.under];omega
    ·simp [Cell.under]
    ·rfl)
   rwa [List.append_assoc] at this
 ·have hfin:∀(l:List Cell),(l.set 1 .dead:List Cell).length = l.length:=fun l=>by simp
  have ffull:sg ++ (fC L ws ++ eC L ws.length) =
    ((sg ++ fC L ws) ++ eC2 L ws.length) ++ [.dict []]:=by simp
  have fu:Und (((sg ++ fC L ws) ++ eC2 L ws.length) ++ [.dict []]):=by
   rw [List.append_assoc]
   refine und_app gu ?_
   intro c hc
   rw [List.length_append,glen]
   simp only [List.mem_append,List.mem_cons,List.not_mem_nil,or_false] at hc
   rcases hc with (rfl | rfl) | rfl
   ·simp [Cell.under,D.unders,D.under];omega
   ·simp [Cell.under]
   ·rfl
  rw [ffull]
  refine CodeOk.fnM (k:=3) (L + 3 + 2 * ws.length + 3) (o:=.ret (.obj (L + 3 + 2 * ws.length + 1))) (ro:=[("words",.obj wi)]) (sg':=_) (by rfl) (by rfl) (by rfl) rfl ex0 (b_law_reader _) rfl (by rw [hL];omega) (List.take_of_length_le (by simp only [List.length_append,glen,List.length_cons,List.length_nil];omega)) (by
   unfold Und at fu
   have e:∀l:List Cell,l.length = L + 3 + 2 * ws.length → ((l ++ [Cell.dict [("tokens",.obj L),("at",.int 0),("named",.obj (L + 3 + 2 * ws.length + 2))],.inst 523 (L + 3 + 2 * ws.length)]) ++ [Cell.dict []]).length = L + 3 + 2 * ws.length + 3:=fun l h=>by simp [h]
   rw [e _ glen] at fu
   exact fu) (by simp [D.under]) (fun h=>by cases h) ⟨[],fun L'=>?_⟩
  apply TS.weak
  with_reducible apply TS.set
  ·with_reducible apply TE.list
   ·walk_at "tes"
   ·exact Nat.zero_le _
  ·rfl
  ·rfl
  rw [hL]
  with_reducible apply TS.forE
  ·apply TE.callM' (ds:=[.obj wi])
   ·rfl
   ·exact t_enumerate rfl
   ·walk_at "tes"
   ·rfl
   ·exact call_enum (get_app hw)
  ·simp only [List.length_append,hL,List.length_cons,List.length_nil]
   exact getR (i:=1) (by simp [hL])
  ·exact fun _=>rfl
  ·have g0:sg ++ [Cell.list []] ++ [Cell.liter wi 0,Cell.enum (sg ++ [Cell.list []]).length 0] = sg ++ gC L wi ws 0 0:=by simp [gC,hL,tkCells]
   have j0:(sg ++ [Cell.list []]).length + 1 = L + 2:=by simp [hL]
   rw [g0,j0]
   refine TF.count (n:=ws.length) (fun _=>[("words",.obj wi),("tokens",.obj L)]) (fun i=>sg ++ gC L wi ws i i) (sg':=sg ++ fC L ws) (fun i hi=>?_) ?_
   ·have hw':ws[i]? = some ws[i]:=List.getElem?_eq_getElem hi
    generalize ws[i] = w at hw'
    have ulen:(sg ++ gC L wi ws i (i + 1)).length = L + 3 + 2 * i:=by rw [List.length_append,gC_len (by omega),hL];omega
    have uG:Und (sg ++ gC L wi ws i (i + 1)):=und_all u (by rw [gC_len (by omega),hL,←Nat.add_assoc];exact gC_und (by omega) hwi)
    have nx:sg ++ gC L wi ws (i + 1) (i + 1) = (sg ++ gC L wi ws i (i + 1) ++ [Cell.dict (tkE w.kind w.str ((i:Int) + 1)),Cell.inst 164 (sg ++ gC L wi ws i (i + 1)).length]).set L (Cell.list (((List.range i).map fun j=>D.obj (L + 3 + 2 * j + 1)) ++ [D.obj ((sg ++ gC L wi ws i (i + 1)).length + 1)])):=by
     have tk:ws.take (i + 1) = ws.take i ++ [w]:=by rw [List.take_add_one,hw'];rfl
     rw [ulen,List.append_assoc,setR (i:=0) (by rw [hL];rfl)]
     simp only [gC,tk,tk_snoc,List.range_succ,List.map_append,List.map_cons,List.map_nil,List.cons_append,List.nil_append,List.set_cons_zero,List.length_take,List.append_assoc]
     rw [Nat.min_eq_left (by omega),Nat.zero_add]
    refine ⟨.tup [.int i,.str w.str],_,sg ++ gC L wi ws i (i + 1),?_,TA.tup2 rfl rfl,?_⟩
    ·have e1:((sg ++ gC L wi ws i i).set (L + 1) (.liter wi (i + 1))).set (L + 2) (.enum (L + 1) (i + 1)) = sg ++ gC L wi ws i (i + 1):=by
      rw [setR (i:=1) (by rw [hL]),setR (i:=2) (by rw [hL])]
      rfl
     rw [←e1]
     exact TN.enum (it:=L + 1) (src:=wi) (l:=ws.map fun w=>.str w.str) (getR (i:=2) (by rw [hL])) (getR (i:=1) (by rw [hL])) (get_app hw) (by rw [List.getElem?_map,hw'];rfl) (by omega) (by omega)
    ·apply TS.cutTo
     apply TS.set (d:=.str w.kind)
     ·cases hn:isName w with
      | true=>
       rw [kind_nm hn]
       apply TE.ifT' (b:=true) (sg1:=sg ++ gC L wi ws i (i + 1))
       ·refine TB.chainT (d1:=.str "A") (d2:=.str ⟨#[c0 w]⟩) (d3:=.str "Z") (sg1:=sg ++ gC L wi ws i (i + 1)) (sg2:=sg ++ gC L wi ws i (i + 1)) (sg3:=sg ++ gC L wi ws i (i + 1)) ?_ ?_ ?_ ?_ ?_ rfl
        ·walk_at "te"
        ·apply TE.sub
         ·walk_at "te"
         ·walk_at "te"
         ·exact sub_str (fun _ _=>rfl) (by decide) c0_at
        ·have:=op_le_str (C:=y.cx) (x:="A") (y:=⟨#[c0 w]⟩)
         rw [c0_A,hn] at this
         exact this
        ·walk_at "te"
        ·have:=op_le_str (C:=y.cx) (x:=⟨#[c0 w]⟩) (y:="Z")
         rw [c0_Z hn] at this
         exact this
       ·rfl
       ·walk_at "te"
      | false=>
       apply TE.ifF' (b:=false) (sg1:=sg ++ gC L wi ws i (i + 1))
       ·refine TB.chainF (d1:=.str "A") (d2:=.str ⟨#[c0 w]⟩) (sg1:=sg ++ gC L wi ws i (i + 1)) (sg2:=sg ++ gC L wi ws i (i + 1)) ?_ ?_ ?_ rfl
        ·walk_at "te"
        ·apply TE.sub
         ·walk_at "te"
         ·walk_at "te"
         ·exact sub_str (fun _ _=>rfl) (by decide) c0_at
        ·have:=op_le_str (C:=y.cx) (x:="A") (y:=⟨#[c0 w]⟩)
         rw [c0_A,hn] at this
         exact this
       ·rfl
       ·cases hm:isNum w with
        | true=>
         rw [kind_nu hm]
         apply TE.ifT'
         ·apply TB.cmp (d1:=.str ⟨#[c0 w]⟩)
          ·apply TE.sub
           ·walk_at "te"
           ·walk_at "te"
           ·exact sub_str (fun _ _=>rfl) (by decide) c0_at
          ·walk_at "te"
          ·exact op_in_str
          ·rfl
         ·rw [c0_n];exact hm
         ·walk_at "te"
        | false=>
         rw [kind_sg hn hm]
         apply TE.ifF'
         ·apply TB.cmp (d1:=.str ⟨#[c0 w]⟩)
          ·apply TE.sub
           ·walk_at "te"
           ·walk_at "te"
           ·exact sub_str (fun _ _=>rfl) (by decide) c0_at
          ·walk_at "te"
          ·exact op_in_str
          ·rfl
         ·rw [c0_n];exact hm
         ·apply TE.ifF'
          ·apply TB.cmp (d1:=.str ⟨#[c0 w]⟩)
           ·apply TE.sub
            ·walk_at "te"
            ·walk_at "te"
            ·exact sub_str (fun _ _=>rfl) (by decide) c0_at
           ·walk_at "te"
           ·exact op_eq_str
           ·rfl
          ·exact c0_q
          ·walk_at "te"
     ·rfl
     ·rfl
     with_reducible apply TS.expr
     ·apply TE.append (i:=L) (l:=(List.range i).map fun j=>D.obj (L + 3 + 2 * j + 1))
      ·rfl
      ·rfl
      ·rfl
      ·walk_at "te"
      ·exact getR (i:=0) (by rw [hL];rfl)
      ·apply TEs.cons
       ·rfl
       ·apply TE.call' (ds:=[.str w.kind,.str w.str,.tup [.int 1,.int ((i:Int) + 1)]])
        ·rfl
        ·walk_at "glob"
        ·apply TEs.cons
         ·rfl
         ·walk_at "te"
         ·apply TEs.cons
          ·rfl
          ·apply TE.ifF'
           ·walk_at "tb"
           ·exact not_lit
           ·walk_at "te"
          ·walk_at "tes"
        ·walk_at "keep"
        ·exact tok_make uG (by omega)
       ·exact TEs.nil
      ·exact get_app (getR (i:=0) (by rw [hL];rfl))
      ·simp only [List.length_map,List.length_range];unfold sizeLine;omega
     ·rfl
     ·rfl
     ·show TS _ _ _ [] _ _ _ _ (sg ++ gC L wi ws (i + 1) (i + 1))
      rw [nx]
      exact TS.nil
     exact ⟨_,rfl⟩
   ·have e1:(sg ++ gC L wi ws ws.length ws.length).set (L + 1) .dead = sg ++ fC L ws:=by
     rw [setR (i:=1) (by rw [hL])]
     simp only [gC,List.take_length]
     rfl
    rw [←e1]
    exact TN.enumEnd (it:=L + 1) (src:=wi) (i:=ws.length) (l:=ws.map fun w=>.str w.str) (getR (i:=2) (by rw [hL])) (getR (i:=1) (by rw [hL])) (get_app hw) (by rw [List.getElem?_eq_none_iff];simp)
  ·apply TS.ret
   apply TE.call' (ds:=[.obj L])
   ·rfl
   ·walk_at "glob"
   ·walk_at "tes"
   ·walk_at "keep"
   ·have:=rd_make (y:=y) (k:=3) (t:=L) gu (by rw [glen];omega) (by omega)
    rw [glen] at this
    exact this
end
section
variable {C:Cx} {fi:FI} {k:Nat} {ro ro1 ro2:List (Str × D)} {sg sg1 sg':List Cell} {d1 d2 d3:D} {o:Out}
theorem TS.swap3 {x z v:Str} {elts:List Expr} {e1 e2 e3:Expr} {n m:Nat} {tpos vpos pos:Pos} {rest:List Stmt} (h1:TEs C fi k [e1,e2,e3] ro sg (some [d1,d2,d3]) sg1) (hw:swappedStores [.Tuple elts n tpos] (.Tuple [e1,e2,e3] m vpos) fi.env = pure (some [x,z,v]))
  (hx:fi.scope.names.lookup x = some .local) (hy:fi.scope.names.lookup z = some .local) (hz:fi.scope.names.lookup v = some .local) (hs:swapsWithSole [.Tuple elts n tpos] (.Tuple [e1,e2,e3] m vpos) pos.line fi.env = pure false) (h2:TS C fi k rest (put x d1 (put z d2 (put v d3 ro))) sg1 o ro2 sg'):
  TS C fi k (.Assign [.Tuple elts n tpos] (.Tuple [e1,e2,e3] m vpos) pos :: rest) ro sg o ro2 sg':=TS.cons (TX.swap3 (TE.tup h1 (by show 3 ≤ sizeLine;decide)) hx hy hz hs hw) h2
end
noncomputable def resD:Option (Ex × List W) → D
 | some (x,[])=>x.toD
 | _=>.none
section
variable {y:Cy} {sg:List Cell} {ws:List W} {k wi:Nat} {r:Option (Ex × List W)}
theorem b_law_read (P:Params):Bnd (theK P) 576 ["words"] 1 []:=fun S=>len1 fun a=>by kernel_rfl
theorem law_read_ok (h:P .sum 0 ws r) (u:Und sg) (hw:sg[wi]? = some (wordsC ws)) (hne:0 < ws.length) (hs:ws.length ≤ 100000):CodeOk y.cx 130 (.ref 576) [.obj wi] sg (some (resD r)) sg:=by
 obtain ⟨R,l,H,hdl,hrd⟩:=law_reader_ok (y:=y) u hw hne hs
 obtain ⟨rx,q,hq,rs,hre⟩:=read_ok (y:=y) h H
 have HQ:=H.set hq
 have htk:(setAt (sg ++ l) R q).take sg.length = sg:=by
  unfold setAt
  rw [List.take_set,List.set_eq_of_length_le (by simp;omega),List.take_left]
 have hwi:wi < sg.length:=(List.getElem?_eq_some_iff.mp hw).1
 have hw2:(setAt (sg ++ l) R q)[wi]? = some (wordsC ws):=by
  unfold setAt
  rw [List.getElem?_set_ne (by omega)]
  exact get_app hw
 have hlen:(ws.map fun w=>D.str w.str).length = ws.length:=by simp
 have hcl:∀k,CallOk y.cx k (.builtin "len") [.obj wi] (setAt (sg ++ l) R q) (some (.int ws.length)) (setAt (sg ++ l) R q):=fun k=>by
  have:=call_len_l (C:=y.cx) (k:=k) hw2 (by rw [hlen];unfold sizeLine;omega)
  rw [hlen] at this
  exact this
 have hrdu:r.isSome = true → ∃x,rx = some x:=fun h=>by
  cases r with
  | none=>cases h
  | some z=>obtain ⟨rfl,_⟩:=rs;exact ⟨_,rfl⟩
 refine CodeOk.fnL (k:=129) (o:=.ret (resD r)) (ro:=[("words",.obj wi)]) (sg':=setAt (sg ++ l) R q) (by rfl) (by rfl) (by rfl) rfl ex0 (b_law_read _) rfl htk u (by
  cases r with
  | none=>rfl
  | some z=>
   obtain ⟨x,t⟩:=z
   cases t with
   | nil=>exact under_D
   | cons a t=>rfl) fun L=>?_
 with_reducible apply TS.swap3
 ·with_reducible apply TEs.cons
  ·rfl
  ·(with_reducible apply TE.call');(·rfl);(·walk_at "glob");(·walk_at "tes");(·walk_at "keep");(·exact hrd.up (by omega))
  ·walk_at "tes"
 ·rfl
 ·rfl
 ·rfl
 ·rfl
 ·rfl
 cases rx with
 | none=>
  have e:resD r = .none:=by
   cases r with
   | none=>rfl
   | some z=>obtain ⟨z,_⟩:=rs;cases z
  rw [e]
  apply TS.weak
  apply TS.cons
  ·apply TX.tryX (sg1:=setAt (sg ++ l) R q)
   ·with_reducible apply TS.setX
    ·(with_reducible apply TE.call');(·rfl);(·walk_at "glob");(·walk_at "tes");(·walk_at "keep");(·exact hre.up (by omega))
    ·rfl
   ·rfl
   ·decide
   ·rfl
   ·exact g_GrammarFault _
   ·rfl
   ·rfl
   ·rfl
   ·rfl
   ·rfl
   ·rfl
   ·rfl
  ·apply TS.ret
   apply TE.ifF' (b:=false)
   ·with_reducible apply TB.andF
    apply TB.as
    ·walk_at "tb"
    ·rfl
   ·rfl
   ·walk_at "te"
 | some x=>
  obtain ⟨t,rfl,ht⟩:∃t,r = some (x,t) ∧ ws.drop q = t:=by
   cases r with
   | none=>cases rs
   | some z=>obtain ⟨e1,e2⟩:=rs;cases e1;exact ⟨_,rfl,e2⟩
  apply TS.cons
  ·apply TX.tryOk (sg1:=setAt (sg ++ l) R q)
   with_reducible apply TS.set
   ·(with_reducible apply TE.call');(·rfl);(·walk_at "glob");(·walk_at "tes");(·walk_at "keep");(·exact hre.up (by omega))
   ·rfl
   ·rfl
   ·exact TS.nil
  ·cases t with
   | nil=>
    apply TS.retE
    have hq2:(q:Int) = (ws.length:Int):=by
     have:=List.drop_eq_nil_iff.mp ht
     omega
    apply TE.ifT'
    ·with_reducible apply TB.andB
     ·walk_at "tb"
     ·intro _
      with_reducible apply TB.andB
      ·with_reducible apply TB.cmp
       ·(with_reducible apply TE.attrO);(·walk_at "te");(·exact HQ.inst);(·walk_at "attr");(·rfl);(·rfl)
       ·(with_reducible apply TE.callM');(·rfl);(·walk_at "glob");(·walk_at "tes");(·rfl);(·exact hcl _)
       ·exact op_eq_int
       ·rfl
      ·intro _
       with_reducible exact TB.and0
    ·simp [hq2,D.isNone]
    ·walk_at "te"
   | cons a t=>
    apply TS.retE
    have hq2:¬ (q:Int) = (ws.length:Int):=by
     intro z
     have:ws.drop q = []:=List.drop_eq_nil_iff.mpr (by omega)
     rw [this] at ht
     cases ht
    apply TE.ifF'
    ·with_reducible apply TB.andB
     ·walk_at "tb"
     ·intro _
      with_reducible apply TB.andB
      ·with_reducible apply TB.cmp
       ·(with_reducible apply TE.attrO);(·walk_at "te");(·exact HQ.inst);(·walk_at "attr");(·rfl);(·rfl)
       ·(with_reducible apply TE.callM');(·rfl);(·walk_at "glob");(·walk_at "tes");(·rfl);(·exact hcl _)
       ·exact op_eq_int
       ·rfl
      ·intro _
       with_reducible exact TB.and0
    ·simp [hq2]
    ·exact TE.cnone
end
local macro_rules
 | `(tactic| walk_at "bcall")=>`(tactic| first | exact call_abs | exact call_len_s (by decide +kernel) | fail "no built-in")
local macro_rules
 | `(tactic| walk_at "te")=>`(tactic| first | ((with_reducible apply TE.sliceStr);(·walk_at "te");(·walk_at "tp");(·walk_at "tp");(·decide +kernel);(·exact fun _ _=>rfl)) | fail "no slice")
section
variable {y:Cy} {sg:List Cell} {k:Nat} {x:Ex} {o:Op}
theorem b_write (P:Params):Bnd (theK P) 138 ["a"] 1 []:=fun S=>len1 fun a=>by kernel_rfl
theorem b_level (P:Params):Bnd (theK P) 314 ["expr"] 1 []:=fun S=>len1 fun a=>by kernel_rfl
noncomputable abbrev lvTab:List (Str × PyData):=[("+",.int 1),("-",.int 1),("*",.int 2),("/",.int 2),("**",.int 4)]
theorem lv_tab:KTab y.cx 251 lvTab:=⟨by kernel_rfl,by decide +kernel,by rfl,_,_,by rfl⟩
theorem lv_op (o:Op):Spec.lookup (.str o.w.str) (lvTab.map fun p=>(PyData.str p.1,p.2)) = some (.int (o.lv:Nat)):=by cases o <;> kernel_rfl
theorem lv_in (o:Op):(Spec.lookup (.str o.w.str) (lvTab.map fun p=>(PyData.str p.1,p.2))).isSome = true:=by cases o <;> decide +kernel
theorem op_not_neg (o:Op):(o.w.str == "neg") = false ∧ (o.w.str == "number") = false:=by cases o <;> decide +kernel
theorem level_ok (u:Und sg):CodeOk y.cx 1 (.ref 314) [x.toD] sg (some (.int (x.level:Nat))) sg:=by
 refine CodeOk.fnL (k:=0) (o:=.ret (.int (x.level:Nat))) (ro:=[("expr",x.toD)]) (sg':=sg) (by rfl) (by rfl) (by rfl) rfl ex0 (b_level _) rfl List.take_length u rfl fun L=>?_
 cases x with
 | bin o l r=>
  with_reducible apply TS.ifF
  ·apply TB.orF
   ·apply TB.as (b':=false)
    ·walk_at "tb"
    ·exact (op_not_neg o).1
   ·with_reducible apply TB.orB
    ·with_reducible apply TB.andF
     apply TB.as (b':=false)
     ·walk_at "tb"
     ·exact (op_not_neg o).2
    ·intro _
     with_reducible exact TB.or0
  ·rfl
  apply TS.retE
  apply TE.get lv_tab (p:=.int (o.lv:Nat))
  ·rfl
  ·rfl
  ·rfl
  ·rfl
  ·exact t_LEVELS rfl
  ·walk_at "tes"
  ·rw [lv_op];rfl
 | neg e=>
  apply TS.weak
  with_reducible apply TS.ifT
  ·apply TB.orT
   apply TB.as (b':=true)
   ·walk_at "tb"
   ·rfl
  ·rfl
  ·apply TS.ret
   exact t_SIGNED rfl
  ·rfl
 | ref n=>
  with_reducible apply TS.ifF
  ·apply TB.orF
   ·apply TB.as (b':=false)
    ·walk_at "tb"
    ·decide +kernel
   ·with_reducible apply TB.orB
    ·with_reducible apply TB.andF
     apply TB.as (b':=false)
     ·walk_at "tb"
     ·decide +kernel
    ·intro _
     with_reducible exact TB.or0
  ·rfl
  apply TS.retE
  apply TE.get lv_tab (p:=.int 5)
  ·rfl
  ·rfl
  ·rfl
  ·rfl
  ·exact t_LEVELS rfl
  ·walk_at "tes"
  ·kernel_rfl
 | num v s=>
  by_cases hu:v < 0
  ·have e:((Ex.num v s).level:Int) = 3:=by simp [Ex.level,hu]
   rw [e]
   apply TS.weak
   with_reducible apply TS.ifT
   ·apply TB.orF
    ·apply TB.as (b':=false)
     ·walk_at "tb"
     ·decide +kernel
    ·walk_at "tb"
   ·simp [hu]
   ·apply TS.ret
    exact t_SIGNED rfl
   ·rfl
  ·have e:((Ex.num v s).level:Int) = 5:=by simp [Ex.level,hu]
   rw [e]
   with_reducible apply TS.ifF
   ·apply TB.orF
    ·apply TB.as (b':=false)
     ·walk_at "tb"
     ·decide +kernel
    ·walk_at "tb"
   ·simp [hu]
   apply TS.retE
   apply TE.get lv_tab (p:=.int 5)
   ·rfl
   ·rfl
   ·rfl
   ·rfl
   ·exact t_LEVELS rfl
   ·walk_at "tes"
   ·kernel_rfl
theorem level_c (u:Und sg) (hk:1 ≤ k):CallOk y.cx k (.ref 314) [x.toD] sg (some (.int (x.level:Nat))) sg:=(level_ok u).up hk
theorem wd_0 (u:Und sg):CodeOk y.cx 1 (.ref 138) [.tup [.int (0),.int ((0:Nat):Int)]] sg (some (.str "0")) sg:=by
 refine CodeOk.fnL (k:=0) (o:=.ret (.str "0")) (ro:=[("a",.tup [.int (0),.int ((0:Nat):Int)])]) (sg':=sg) (by rfl) (by rfl) (by rfl) rfl ex0 (b_write _) rfl List.take_length u rfl fun L=>?_
 with_reducible apply TS.set (d:=.str "0")
 ·apply TE.asStr
  ·apply TE.callM' (ds:=[.int 0])
   ·rfl
   ·exact t_str rfl
   ·apply TEs.cons
    ·rfl
    ·apply TE.asInt
     ·walk_at "te"
     ·decide
    ·exact TEs.nil
   ·rfl
   ·exact call_str_i (by decide +kernel)
  ·decide +kernel
 ·rfl
 ·rfl
 with_reducible apply TS.ifF
 ·walk_at "tb"
 ·decide
 apply TS.retE
 apply TE.ifF'
 ·walk_at "tb"
 ·decide
 ·walk_at "te"
theorem wd_5 (u:Und sg):CodeOk y.cx 1 (.ref 138) [.tup [.int (5),.int ((0:Nat):Int)]] sg (some (.str "5")) sg:=by
 refine CodeOk.fnL (k:=0) (o:=.ret (.str "5")) (ro:=[("a",.tup [.int (5),.int ((0:Nat):Int)])]) (sg':=sg) (by rfl) (by rfl) (by rfl) rfl ex0 (b_write _) rfl List.take_length u rfl fun L=>?_
 with_reducible apply TS.set (d:=.str "5")
 ·apply TE.asStr
  ·apply TE.callM' (ds:=[.int 5])
   ·rfl
   ·exact t_str rfl
   ·apply TEs.cons
    ·rfl
    ·apply TE.asInt
     ·walk_at "te"
     ·decide
    ·exact TEs.nil
   ·rfl
   ·exact call_str_i (by decide +kernel)
  ·decide +kernel
 ·rfl
 ·rfl
 with_reducible apply TS.ifF
 ·walk_at "tb"
 ·decide
 apply TS.retE
 apply TE.ifF'
 ·walk_at "tb"
 ·decide
 ·walk_at "te"
theorem wd_2 (u:Und sg):CodeOk y.cx 1 (.ref 138) [.tup [.int (2),.int ((0:Nat):Int)]] sg (some (.str "2")) sg:=by
 refine CodeOk.fnL (k:=0) (o:=.ret (.str "2")) (ro:=[("a",.tup [.int (2),.int ((0:Nat):Int)])]) (sg':=sg) (by rfl) (by rfl) (by rfl) rfl ex0 (b_write _) rfl List.take_length u rfl fun L=>?_
 with_reducible apply TS.set (d:=.str "2")
 ·apply TE.asStr
  ·apply TE.callM' (ds:=[.int 2])
   ·rfl
   ·exact t_str rfl
   ·apply TEs.cons
    ·rfl
    ·apply TE.asInt
     ·walk_at "te"
     ·decide
    ·exact TEs.nil
   ·rfl
   ·exact call_str_i (by decide +kernel)
  ·decide +kernel
 ·rfl
 ·rfl
 with_reducible apply TS.ifF
 ·walk_at "tb"
 ·decide
 apply TS.retE
 apply TE.ifF'
 ·walk_at "tb"
 ·decide
 ·walk_at "te"
theorem wd_25 (u:Und sg):CodeOk y.cx 1 (.ref 138) [.tup [.int (25),.int ((2:Nat):Int)]] sg (some (.str "0.25")) sg:=by
 refine CodeOk.fnL (k:=0) (o:=.ret (.str "0.25")) (ro:=[("a",.tup [.int (25),.int ((2:Nat):Int)])]) (sg':=sg) (by rfl) (by rfl) (by rfl) rfl ex0 (b_write _) rfl List.take_length u rfl fun L=>?_
 with_reducible apply TS.set (d:=.str "25")
 ·apply TE.asStr
  ·apply TE.callM' (ds:=[.int 25])
   ·rfl
   ·exact t_str rfl
   ·apply TEs.cons
    ·rfl
    ·apply TE.asInt
     ·walk_at "te"
     ·decide
    ·exact TEs.nil
   ·rfl
   ·exact call_str_i (by decide +kernel)
  ·decide +kernel
 ·rfl
 ·rfl
 with_reducible apply TS.ifTn
 ·walk_at "tb"
 ·decide
 ·with_reducible apply TS.set (d:=.str "025")
  ·apply TE.asStr
   ·with_reducible apply TE.binop
    ·with_reducible apply TE.binop
     ·walk_at "te"
     ·apply TE.asInt (i':=1)
      ·walk_at "te"
      ·decide +kernel
     ·exact op_mul_str (x:="0") (n:=1) (by decide) (by decide +kernel) (by decide)
    ·walk_at "te"
    ·exact op_add_str (by decide +kernel)
   ·decide +kernel
  ·rfl
  ·rfl
  with_reducible apply TS.set (d:=.str "0.25")
  ·apply TE.asStr
   ·walk_at "te"
   ·decide +kernel
  ·rfl
  ·rfl
  ·exact TS.nil
 apply TS.retE
 apply TE.ifF'
 ·walk_at "tb"
 ·decide
 ·walk_at "te"
theorem wd_m5 (u:Und sg):CodeOk y.cx 1 (.ref 138) [.tup [.int (-5),.int ((0:Nat):Int)]] sg (some (.str "-5")) sg:=by
 refine CodeOk.fnL (k:=0) (o:=.ret (.str "-5")) (ro:=[("a",.tup [.int (-5),.int ((0:Nat):Int)])]) (sg':=sg) (by rfl) (by rfl) (by rfl) rfl ex0 (b_write _) rfl List.take_length u rfl fun L=>?_
 with_reducible apply TS.set (d:=.str "5")
 ·apply TE.asStr
  ·apply TE.callM' (ds:=[.int 5])
   ·rfl
   ·exact t_str rfl
   ·apply TEs.cons
    ·rfl
    ·apply TE.asInt
     ·walk_at "te"
     ·decide
    ·exact TEs.nil
   ·rfl
   ·exact call_str_i (by decide +kernel)
  ·decide +kernel
 ·rfl
 ·rfl
 with_reducible apply TS.ifF
 ·walk_at "tb"
 ·decide
 apply TS.retE
 apply TE.ifT'
 ·walk_at "tb"
 ·decide
 ·apply TE.asStr
  ·walk_at "te"
  ·decide +kernel
theorem wd_m7 (u:Und sg):CodeOk y.cx 1 (.ref 138) [.tup [.int (-7),.int ((1:Nat):Int)]] sg (some (.str "-0.7")) sg:=by
 refine CodeOk.fnL (k:=0) (o:=.ret (.str "-0.7")) (ro:=[("a",.tup [.int (-7),.int ((1:Nat):Int)])]) (sg':=sg) (by rfl) (by rfl) (by rfl) rfl ex0 (b_write _) rfl List.take_length u rfl fun L=>?_
 with_reducible apply TS.set (d:=.str "7")
 ·apply TE.asStr
  ·apply TE.callM' (ds:=[.int 7])
   ·rfl
   ·exact t_str rfl
   ·apply TEs.cons
    ·rfl
    ·apply TE.asInt
     ·walk_at "te"
     ·decide
    ·exact TEs.nil
   ·rfl
   ·exact call_str_i (by decide +kernel)
  ·decide +kernel
 ·rfl
 ·rfl
 with_reducible apply TS.ifTn
 ·walk_at "tb"
 ·decide
 ·with_reducible apply TS.set (d:=.str "07")
  ·apply TE.asStr
   ·with_reducible apply TE.binop
    ·with_reducible apply TE.binop
     ·walk_at "te"
     ·apply TE.asInt (i':=1)
      ·walk_at "te"
      ·decide +kernel
     ·exact op_mul_str (x:="0") (n:=1) (by decide) (by decide +kernel) (by decide)
    ·walk_at "te"
    ·exact op_add_str (by decide +kernel)
   ·decide +kernel
  ·rfl
  ·rfl
  with_reducible apply TS.set (d:=.str "0.7")
  ·apply TE.asStr
   ·walk_at "te"
   ·decide +kernel
  ·rfl
  ·rfl
  ·exact TS.nil
 apply TS.retE
 apply TE.ifT'
 ·walk_at "tb"
 ·decide
 ·apply TE.asStr
  ·walk_at "te"
  ·decide +kernel
end
noncomputable def chs:Option W → List Nat
 | none=>[32]
 | some w=>w.str.cps.toList
noncomputable def rnd (l:List (Option W)):Str:=⟨(l.flatMap chs).toArray⟩
theorem rnd_app {a b:List (Option W)}:rnd (a ++ b) = rnd a ++ rnd b:=by
 show _ = Str.mk _
 simp [rnd]
theorem chs_len {x:Option W}:(chs x).length ≤ 4 ∧ 1 ≤ (chs x).length:=by
 cases x with
 | none=>decide
 | some w=>cases w <;> decide +kernel
theorem rnd_len {l:List (Option W)}:(rnd l).length ≤ 4 * l.length:=by
 show ((l.flatMap chs).toArray).size ≤ _
 rw [List.size_toArray]
 induction l with
 | nil=>simp
 | cons a l ih=>
  have:=(chs_len (x:=a)).1
  simp only [List.flatMap_cons,List.length_append,List.length_cons]
  omega
noncomputable def brI (k lv:Nat) (l:List (Option W)):List (Option W):=if lv < k then some .lp :: (l ++ [some .rp]) else l
noncomputable def itm:Ex → List (Option W)
 | .bin o l r=>brI o.lv l.level (itm l) ++ none :: some o.w :: none :: brI o.rl r.level (itm r)
 | .neg e=>some .minus :: none :: (if e.isNumE then some .lp :: (itm e ++ [some .rp]) else brI 4 e.level (itm e))
 | .ref n=>[some n]
 | .num u s=>if u < 0 then [some .minus,some (tokOf u.natAbs s)] else [some (tokOf u.natAbs s)]
theorem brI_words {k lv:Nat} {l:List (Option W)}:(brI k lv l).filterMap id = brk k lv (l.filterMap id):=by
 unfold brI brk
 split <;> simp
theorem itm_words:∀{x:Ex},(itm x).filterMap id = showW x
 | .bin o l r=>by simp [itm,showW,List.filterMap_append,brI_words,itm_words (x:=l),itm_words (x:=r)]
 | .neg e=>by
  simp only [itm,showW]
  split <;> simp [List.filterMap_append,brI_words,itm_words (x:=e)]
 | .ref n=>rfl
 | .num u s=>by
  simp only [itm,showW]
  split <;> rfl
theorem rnd_lp:rnd [some .lp] = "(":=by decide +kernel
theorem rnd_rp:rnd [some .rp] = ")":=by decide +kernel
theorem rnd_sp:rnd [none] = " ":=by decide +kernel
theorem rnd_w {w:W}:rnd [some w] = w.str:=by cases w <;> decide +kernel
theorem rnd_ms:rnd [some .minus,none] = "- ":=by decide +kernel
theorem rnd_br {l:List (Option W)}:("(":Str) ++ rnd l ++ ")" = rnd (some .lp :: (l ++ [some .rp])):=by
 rw [←rnd_lp,←rnd_rp,←rnd_app,←rnd_app];rfl
theorem join_one {w:W}:Txt.join " OF " [w.str] = w.str:=by cases w <;> decide +kernel
section
variable {y:Cy} {sg:List Cell} {k:Nat} {x:Ex} {o:Op} {w:W}
theorem b_show_ref (P:Params):Bnd (theK P) 243 ["ref","show_expr"] 2 []:=fun S=>len2 fun a b=>by kernel_rfl
theorem b_show_operand (P:Params):Bnd (theK P) 250 ["operand","show_expr"] 2 []:=fun S=>len2 fun a b=>by kernel_rfl
theorem show_ref_ok (u:Und sg):CodeOk y.cx 1 (.ref 243) [(Ex.ref w).toD,.val (.ref 328)] sg (some (.str w.str)) sg:=by
 refine CodeOk.fnL (k:=0) (o:=.ret (.str w.str)) (ro:=[("ref",(Ex.ref w).toD),("show_expr",.val (.ref 328))]) (sg':=sg ++ [.list [.str w.str],.list [],.list [.str w.str]]) (by rfl) (by rfl) (by rfl) rfl ex0 (b_show_ref _) rfl take_app u rfl fun L=>?_
 apply TS.set (d:=.str w.str) (sg1:=sg ++ [.list [.str w.str],.list [],.list [.str w.str]])
 ·apply TE.asStr
  ·apply TE.join (y:=" OF ") (ys:=[w.str]) (i:=sg.length + 2) (sg1:=sg)
   ·rfl
   ·rfl
   ·rfl
   ·walk_at "te"
   ·apply TEs.cons
    ·rfl
    ·apply TE.asD
     ·apply TE.binopG (d1:=.obj sg.length) (d2:=.obj (sg.length + 1)) (sg1:=sg ++ [.list [.str w.str]]) (sg2:=sg ++ [.list [.str w.str],.list []]) (sg3:=sg ++ [.list [.str w.str],.list [],.list [.str w.str]]) (d:=.obj (sg.length + 2))
      ·apply TE.list (ds:=[.str w.str])
       ·walk_at "tes"
       ·exact Nat.le_of_ble_eq_true rfl
      ·have e:sg ++ [Cell.list [D.str w.str],.list []] = (sg ++ [.list [.str w.str]]) ++ [.list []]:=by simp
       have e2:D.obj (sg.length + 1) = .obj (sg ++ [Cell.list [D.str w.str]]).length:=by simp
       rw [e,e2]
       (with_reducible apply TE.callM');(·rfl);(·walk_at "glob");(·walk_at "tes");(·rfl);(·exact call_list_t (Nat.zero_le _))
      ·have:=op_add_list (C:=y.cx) (sg:=sg ++ [Cell.list [D.str w.str],.list []]) (i:=sg.length) (j:=sg.length + 1) (l:=[.str w.str]) (l2:=[]) (by simp) (by simp) (Nat.le_of_ble_eq_true rfl)
       simpa using this
     ·rfl
    ·exact TEs.nil
   ·simp
   ·show w.str.length + 0 + 1 * 4 ≤ 16777216
    have:=name_len (w:=w)
    omega
  ·exact join_one
 ·rfl
 ·rfl
 with_reducible apply TS.ifF
 ·with_reducible apply TB.cmp
  ·walk_at "te"
  ·walk_at "te"
  ·exact op_ne_deep (p:=.tuple []) (q:=.tuple []) rfl rfl (by decide +kernel) (by decide +kernel) (by decide +kernel)
  ·rfl
 ·decide +kernel
 with_reducible apply TS.ifF
 ·walk_at "tb"
 ·rfl
 apply TS.retE
 walk_at "te"
theorem show_ref_c (u:Und sg) (hk:1 ≤ k):CallOk y.cx k (.ref 243) [(Ex.ref w).toD,.val (.ref 328)] sg (some (.str w.str)) sg:=(show_ref_ok u).up hk
theorem write_c {v:Int} {s:Nat} (h:(Ex.num v s).good = true) (u:Und sg) (hk:1 ≤ k):CallOk y.cx k (.ref 138) [.tup [.int v,.int s]] sg (some (.str (rnd (itm (.num v s))))) sg:=by
 simp only [Ex.good,Bool.or_eq_true,beq_iff_eq,Prod.mk.injEq] at h
 rcases h with ((((h | h) | h) | h) | h) | h <;> obtain ⟨rfl,rfl⟩:=h
 ·rw [show rnd (itm (.num 0 0)) = "0" by decide +kernel];exact (wd_0 u).up hk
 ·rw [show rnd (itm (.num 5 0)) = "5" by decide +kernel];exact (wd_5 u).up hk
 ·rw [show rnd (itm (.num 25 2)) = "0.25" by decide +kernel];exact (wd_25 u).up hk
 ·rw [show rnd (itm (.num (-5) 0)) = "-5" by decide +kernel];exact (wd_m5 u).up hk
 ·rw [show rnd (itm (.num (-7) 1)) = "-0.7" by decide +kernel];exact (wd_m7 u).up hk
 ·rw [show rnd (itm (.num 2 0)) = "2" by decide +kernel];exact (wd_2 u).up hk
theorem operand_r (u:Und sg):CodeOk y.cx 2 (.ref 250) [(Ex.ref w).toD,.val (.ref 328)] sg (some (.str (rnd (itm (.ref w))))) sg:=by
 refine CodeOk.fnL (k:=1) (o:=.ret (.str (rnd (itm (.ref w))))) (ro:=[("operand",(Ex.ref w).toD),("show_expr",.val (.ref 328))]) (sg':=sg) (by rfl) (by rfl) (by rfl) rfl ex0 (b_show_operand _) rfl List.take_length u rfl fun L=>?_
 rw [show rnd (itm (.ref w)) = w.str from rnd_w]
 apply TS.weak
 with_reducible apply TS.ifT
 ·walk_at "tb"
 ·rfl
 ·apply TS.ret
  (with_reducible apply TE.call');(·rfl);(·walk_at "glob");(·walk_at "tes");(·walk_at "keep");(·exact show_ref_c u (by omega))
 ·rfl
theorem operand_n {v:Int} {s:Nat} (h:(Ex.num v s).good = true) (u:Und sg):CodeOk y.cx 2 (.ref 250) [(Ex.num v s).toD,.val (.ref 328)] sg (some (.str (rnd (itm (.num v s))))) sg:=by
 refine CodeOk.fnL (k:=1) (o:=.ret (.str (rnd (itm (.num v s))))) (ro:=[("operand",(Ex.num v s).toD),("show_expr",.val (.ref 328))]) (sg':=sg) (by rfl) (by rfl) (by rfl) rfl ex0 (b_show_operand _) rfl List.take_length u rfl fun L=>?_
 apply TS.weak
 with_reducible apply TS.ifF
 ·walk_at "tb"
 ·decide +kernel
 with_reducible apply TS.ifT
 ·walk_at "tb"
 ·rfl
 ·apply TS.ret
  (with_reducible apply TE.call');(·rfl);(·walk_at "glob");(·walk_at "tes");(·walk_at "keep");(·exact write_c h u (by omega))
 ·rfl
end
theorem str_app_empty {a b:Str}:a ++ ("":Str) ++ b = a ++ b:=by
 show Str.mk ((a.cps ++ (Str.ofString "").cps) ++ b.cps) = Str.mk (a.cps ++ b.cps)
 rw [show (Str.ofString "").cps = #[] from by decide +kernel,Array.append_empty]
theorem join_rnd:∀{L:List (List (Option W))},Txt.join "" (L.map rnd) = rnd L.flatten
 | []=>by decide +kernel
 | [a]=>by unfold Txt.join;rw [PySem.StrLaws.glued_eq_join];simp [Str.join]
 | a :: b :: r=>by
  have ih:=join_rnd (L:=b :: r)
  unfold Txt.join at ih ⊢
  rw [PySem.StrLaws.glued_eq_join] at ih ⊢
  simp only [List.map_cons,Str.join] at ih ⊢
  rw [ih,str_app_empty,List.flatten_cons (l:=a),rnd_app]
noncomputable def rI (o:Op) (r:Ex):List (Option W):=none :: some o.w :: none :: brI o.rl r.level (itm r)
theorem itm_bin {o:Op} {l r:Ex}:itm (.bin o l r) = brI o.lv l.level (itm l) ++ rI o r:=rfl
noncomputable def ends:Ex → Ex
 | .bin o l r=>if o.lv ≤ l.level then ends l else .bin o l r
 | x=>x
noncomputable def pcs:Ex → List (List (Option W))
 | .bin o l r=>if o.lv ≤ l.level then rI o r :: pcs l else []
 | _=>[]
theorem itm_ends:∀{x:Ex},itm x = itm (ends x) ++ (pcs x).reverse.flatten
 | .bin o l r=>by
  unfold ends pcs
  by_cases h:o.lv ≤ l.level
  ·rw [if_pos h,if_pos h,itm_bin,brI,if_neg (by omega),itm_ends (x:=l)]
   simp
  ·rw [if_neg h,if_neg h];simp
 | .neg e=>by simp [ends,pcs]
 | .ref n=>by simp [ends,pcs]
 | .num u s=>by simp [ends,pcs]
theorem ends_good:∀{x:Ex},x.good = true → (ends x).good = true
 | .bin o l r,h=>by
  unfold ends
  split
  ·simp only [Ex.good,Bool.and_eq_true] at h;exact ends_good h.1
  ·exact h
 | .neg e,h=>h
 | .ref n,h=>h
 | .num u s,h=>h
theorem ends_hgt:∀{x:Ex},(ends x).hgt ≤ x.hgt
 | .bin o l r=>by
  unfold ends
  split
  ·have:=ends_hgt (x:=l);simp only [Ex.hgt];omega
  ·exact Nat.le_refl _
 | .neg e=>Nat.le_refl _
 | .ref n=>Nat.le_refl _
 | .num u s=>Nat.le_refl _
theorem ends_len {x:Ex}:(itm (ends x)).length ≤ (itm x).length:=by
 rw [itm_ends (x:=x)];simp
theorem ends_not {x:Ex} {o:Op} {l r:Ex} (h:ends x = .bin o l r):l.level < o.lv:=by
 induction x with
 | bin o' l' r' il ir=>
  unfold ends at h
  split at h
  ·first | exact il h | exact ir h
  ·cases h;omega
 | _=>cases h
theorem brI_len {k lv:Nat} {l:List (Option W)}:l.length ≤ (brI k lv l).length ∧ (brI k lv l).length ≤ l.length + 2:=by
 unfold brI;split <;> simp <;> omega
theorem len_bin {o:Op} {l r:Ex}:(itm l).length ≤ (itm (.bin o l r)).length ∧ (itm r).length + 3 ≤ (itm (.bin o l r)).length:=by
 have a:=brI_len (k:=o.lv) (lv:=l.level) (l:=itm l)
 have b:=brI_len (k:=o.rl) (lv:=r.level) (l:=itm r)
 simp only [itm,List.length_append,List.length_cons]
 omega
theorem len_neg {e:Ex}:(itm e).length ≤ (itm (.neg e)).length:=by
 have a:=brI_len (k:=4) (lv:=e.level) (l:=itm e)
 simp only [itm,List.length_cons]
 split
 ·simp;omega
 ·omega
section
variable {C:Cx} {fi:FI} {k:Nat} {ro ro':List (Str × D)} {sg:List Cell}
theorem TE.dictInt3 {k1 k2 k3 v1 v2 v3:Expr} {a1 a2 a3 b1 b2 b3:Int} {slice:Expr} {j r:Int} {dpos pos:Pos} (h1:TE C fi k k1 ro sg (some (.int a1)) sg) (g1:TE C fi k v1 ro sg (some (.int b1)) sg) (h2:TE C fi k k2 ro sg (some (.int a2)) sg) (g2:TE C fi k v2 ro sg (some (.int b2)) sg) (h3:TE C fi k k3 ro sg (some (.int a3)) sg) (g3:TE C fi k v3 ro sg (some (.int b3)) sg)
  (hnd:[a1,a2,a3].Nodup) (hs:TE C fi k slice ro sg (some (.int j)) sg) (hl:Spec.lookup (.int j) [(PyData.int a1,PyData.int b1),(PyData.int a2,PyData.int b2),(PyData.int a3,PyData.int b3)] = some (.int r)) (hz:∀o i,subscripted slice false o i = operate [o,i] (getItem o i)):
  TE C fi k (.Subscript (.Dict [some k1,some k2,some k3] [v1,v2,v3] dpos) slice pos) ro sg (some (.int r)) sg:=
 TE.dictInt (ps:=[(k1,v1),(k2,v2),(k3,v3)]) (kis:=[(a1,b1),(a2,b2),(a3,b3)]) rfl rfl (TPs.cons h1 g1 (TPs.cons h2 g2 (TPs.cons h3 g3 TPs.nil))) (by simp) (by simp) hnd hs hl hz
theorem TW.spine {test:Expr} {body:List Stmt} {Q:Ex → List (List (Option W)) → Prop} (Sr:Ex → List (Str × D)) (G:List (List (Option W)) → List Cell) (hQ:∀o l r ps,Q (.bin o l r) ps → o.lv ≤ l.level → Q l (ps ++ [rI o r]))
  (hE:∀h ps,Q h ps → (∀o l r,h = .bin o l r → l.level < o.lv) → TB C fi k test (Sr h) (G ps) (some false) (G ps))
  (hS:∀o l r ps,Q (.bin o l r) ps → o.lv ≤ l.level → TB C fi k test (Sr (.bin o l r)) (G ps) (some true) (G ps) ∧ TS C fi k body (Sr (.bin o l r)) (G ps) .next (Sr l) (G (ps ++ [rI o r]))):
  ∀(h:Ex) (ps:List (List (Option W))),Q h ps → TW C fi k test body (Sr h) (G ps) .next (Sr (ends h)) (G (ps ++ pcs h))
 | .bin o l r,ps,q=>by
  unfold ends pcs
  by_cases z:o.lv ≤ l.level
  ·rw [if_pos z,if_pos z]
   obtain ⟨h1,h2⟩:=hS o l r ps q z
   have:=TW.spine Sr G hQ hE hS l (ps ++ [rI o r]) (hQ _ _ _ _ q z)
   rw [List.append_assoc] at this
   exact TW.step h1 h2 this
  ·rw [if_neg z,if_neg z,List.append_nil]
   exact TW.done (hE _ ps q fun o' l' r' e=>by cases e;omega)
 | .neg e,ps,q=>by
  unfold ends pcs;rw [List.append_nil];exact TW.done (hE _ ps q fun o' l' r' e=>by cases e)
 | .ref n,ps,q=>by
  unfold ends pcs;rw [List.append_nil];exact TW.done (hE _ ps q fun o' l' r' e=>by cases e)
 | .num u s,ps,q=>by
  unfold ends pcs;rw [List.append_nil];exact TW.done (hE _ ps q fun o' l' r' e=>by cases e)
end
section
variable {y:Cy} {sg:List Cell} {k kk:Nat} {x l r:Ex} {o:Op} {w:W} {n:Nat}
theorem b_bracketed (P:Params):Bnd (theK P) 321 ["expr","least"] 2 []:=fun S=>len2 fun a b=>by kernel_rfl
theorem b_right_part (P:Params):Bnd (theK P) 335 ["expr"] 1 []:=fun S=>len1 fun a=>by kernel_rfl
theorem b_show_signed (P:Params):Bnd (theK P) 342 ["expr"] 1 []:=fun S=>len1 fun a=>by kernel_rfl
theorem b_show (P:Params):Bnd (theK P) 328 ["expr"] 1 []:=fun S=>len1 fun a=>by kernel_rfl
noncomputable def Shw (y:Cy) (kk:Nat) (x:Ex):Prop:=∀sg,Und sg → CodeOk y.cx kk (.ref 328) [x.toD] sg (some (.str (rnd (itm x)))) sg
theorem Shw.c (h:Shw y kk x) (u:Und sg) (hk:kk ≤ k):CallOk y.cx k (.ref 328) [x.toD] sg (some (.str (rnd (itm x)))) sg:=(h sg u).up hk
theorem rnd_le {l:List (Option W)} (h:l.length ≤ 10000):(rnd l).length ≤ 40000:=by have:=rnd_len (l:=l);omega
theorem one_len:(Str.length "(") = 1 ∧ (Str.length ")") = 1 ∧ (Str.length " ") = 1 ∧ (Str.length "- ") = 2:=by decide +kernel
theorem app_len {a b:Str}:(a ++ b).length = a.length + b.length:=by show (a.cps ++ b.cps).size = _;rw [Array.size_append];rfl
theorem bracketed_ok (h:Shw y kk x) (hl:(itm x).length ≤ 10000) (hkk:1 ≤ kk) (u:Und sg):CodeOk y.cx (kk + 1) (.ref 321) [x.toD,.int (n:Nat)] sg (some (.str (rnd (brI n x.level (itm x))))) sg:=by
 have hz:=rnd_le hl
 obtain ⟨z1,z2,z3,z4⟩:=one_len
 refine CodeOk.fnL (k:=kk) (o:=.ret (.str (rnd (brI n x.level (itm x))))) (ro:=[("expr",x.toD),("least",.int (n:Nat))]) (sg':=sg) (by rfl) (by rfl) (by rfl) rfl ex0 (b_bracketed _) rfl List.take_length u rfl fun L=>?_
 apply TS.set
 ·(with_reducible apply TE.call');(·rfl);(·walk_at "glob");(·walk_at "tes");(·walk_at "keep");(·exact h.c u (by omega))
 ·rfl
 ·rfl
 apply TS.retE
 unfold brI
 by_cases z:x.level < n
 ·rw [if_pos z]
  apply TE.ifT'
  ·with_reducible apply TB.cmp
   ·(with_reducible apply TE.call');(·rfl);(·walk_at "glob");(·walk_at "tes");(·walk_at "keep");(·exact level_c u (by omega))
   ·walk_at "te"
   ·walk_at "op"
   ·rfl
  ·exact decide_eq_true (by omega)
  ·rw [←rnd_br]
   with_reducible apply TE.binop
   ·with_reducible apply TE.binop
    ·walk_at "te"
    ·walk_at "te"
    ·exact op_add_str (by unfold sizeLine;omega)
   ·walk_at "te"
   ·exact op_add_str (by rw [app_len];unfold sizeLine;omega)
 ·rw [if_neg z]
  apply TE.ifF'
  ·with_reducible apply TB.cmp
   ·(with_reducible apply TE.call');(·rfl);(·walk_at "glob");(·walk_at "tes");(·walk_at "keep");(·exact level_c u (by omega))
   ·walk_at "te"
   ·walk_at "op"
   ·rfl
  ·exact decide_eq_false (by omega)
  ·walk_at "te"
theorem bracketed_c (h:Shw y kk x) (hl:(itm x).length ≤ 10000) (hkk:1 ≤ kk) (u:Und sg) (hk:kk + 1 ≤ k):CallOk y.cx k (.ref 321) [x.toD,.int (n:Nat)] sg (some (.str (rnd (brI n x.level (itm x))))) sg:=(bracketed_ok h hl hkk u).up hk
theorem right_ok (h:Shw y kk r) (hl:(itm r).length ≤ 10000) (hkk:1 ≤ kk) (u:Und sg):CodeOk y.cx (kk + 2) (.ref 335) [(Ex.bin o l r).toD] sg (some (.str (rnd (rI o r)))) sg:=by
 have hz:=rnd_le hl
 obtain ⟨z1,z2,z3,z4⟩:=one_len
 have hb:(rnd (brI o.rl r.level (itm r))).length ≤ 50000:=by
  have a:=rnd_len (l:=brI o.rl r.level (itm r))
  have b:=brI_len (k:=o.rl) (lv:=r.level) (l:=itm r)
  omega
 have hw:=name_len (w:=o.w)
 refine CodeOk.fnL (k:=kk + 1) (o:=.ret (.str (rnd (rI o r)))) (ro:=[("expr",(Ex.bin o l r).toD)]) (sg':=sg) (by rfl) (by rfl) (by rfl) rfl ex0 (b_right_part _) rfl List.take_length u rfl fun L=>?_
 apply TS.retE
 have e:rnd (rI o r) = (" ":Str) ++ o.w.str ++ " " ++ rnd (brI o.rl r.level (itm r)):=by
  rw [←rnd_sp,←rnd_w,←rnd_app,←rnd_app,←rnd_app];rfl
 rw [e]
 with_reducible apply TE.binop
 ·with_reducible apply TE.binop
  ·with_reducible apply TE.binop
   ·walk_at "te"
   ·walk_at "te"
   ·exact op_add_str (by unfold sizeLine;omega)
  ·walk_at "te"
  ·exact op_add_str (by rw [app_len];unfold sizeLine;omega)
 ·apply TE.call' (ds:=[r.toD,.int (o.rl:Nat)])
  ·rfl
  ·walk_at "glob"
  ·apply TEs.cons
   ·rfl
   ·walk_at "te"
   ·apply TEs.cons
    ·rfl
    ·apply TE.dictInt3 (a1:=1) (a2:=2) (a3:=4) (b1:=2) (b2:=3) (b3:=5) (j:=(o.lv:Nat)) (r:=(o.rl:Nat))
     ·walk_at "te"
     ·walk_at "te"
     ·walk_at "te"
     ·exact t_SIGNED rfl
     ·exact t_RAISED rfl
     ·exact t_BARE rfl
     ·decide
     ·apply TE.asD
      ·apply TE.sub
       ·exact t_LEVELS rfl
       ·walk_at "te"
       ·exact sub_tab lv_tab (lv_op o) (fun _ _=>rfl)
      ·rfl
     ·cases o <;> kernel_rfl
     ·exact fun _ _=>rfl
    ·exact TEs.nil
  ·walk_at "keep"
  ·exact bracketed_c h hl hkk u (by omega)
 ·exact op_add_str (by rw [app_len,app_len];unfold sizeLine;omega)
theorem right_c (h:Shw y kk r) (hl:(itm r).length ≤ 10000) (hkk:1 ≤ kk) (u:Und sg) (hk:kk + 2 ≤ k):CallOk y.cx k (.ref 335) [(Ex.bin o l r).toD] sg (some (.str (rnd (rI o r)))) sg:=(right_ok h hl hkk u).up hk
noncomputable def sgI (e:Ex):List (Option W):=if e.isNumE then some .lp :: (itm e ++ [some .rp]) else brI 4 e.level (itm e)
theorem signed_show (h:Shw y kk x) (hg:x.good = true) (hl:(itm x).length ≤ 10000) (hkk:2 ≤ kk) (u:Und sg):CodeOk y.cx (kk + 2) (.ref 342) [x.toD] sg (some (.str (rnd (sgI x)))) sg:=by
 have hz:=rnd_le hl
 obtain ⟨z1,z2,z3,z4⟩:=one_len
 refine CodeOk.fnL (k:=kk + 1) (o:=.ret (.str (rnd (sgI x)))) (ro:=[("expr",x.toD)]) (sg':=sg) (by rfl) (by rfl) (by rfl) rfl ex0 (b_show_signed _) rfl List.take_length u rfl fun L=>?_
 cases x with
 | num v s=>
  have e:rnd (sgI (.num v s)) = ("(":Str) ++ rnd (itm (.num v s)) ++ ")":=rnd_br.symm
  rw [e]
  apply TS.weak
  with_reducible apply TS.ifT
  ·walk_at "tb"
  ·rfl
  ·apply TS.ret
   with_reducible apply TE.binop
   ·with_reducible apply TE.binop
    ·walk_at "te"
    ·(with_reducible apply TE.call');(·rfl);(·walk_at "glob");(·walk_at "tes");(·walk_at "keep");(·exact (operand_n hg u).up (by omega))
    ·exact op_add_str (by unfold sizeLine;omega)
   ·walk_at "te"
   ·exact op_add_str (by rw [app_len];unfold sizeLine;omega)
  ·rfl
 | bin o l r=>
  with_reducible apply TS.ifF
  ·walk_at "tb"
  ·exact (op_not_neg o).2
  apply TS.retE
  apply TE.call' (ds:=[(Ex.bin o l r).toD,.int ((4:Nat):Int)])
  ·rfl
  ·walk_at "glob"
  ·apply TEs.cons
   ·rfl
   ·walk_at "te"
   ·apply TEs.cons
    ·rfl
    ·exact t_RAISED rfl
    ·exact TEs.nil
  ·walk_at "keep"
  ·exact bracketed_c h hl (by omega) u (by omega)
 | neg e=>
  with_reducible apply TS.ifF
  ·walk_at "tb"
  ·decide +kernel
  apply TS.retE
  apply TE.call' (ds:=[(Ex.neg e).toD,.int ((4:Nat):Int)])
  ·rfl
  ·walk_at "glob"
  ·apply TEs.cons
   ·rfl
   ·walk_at "te"
   ·apply TEs.cons
    ·rfl
    ·exact t_RAISED rfl
    ·exact TEs.nil
  ·walk_at "keep"
  ·exact bracketed_c h hl (by omega) u (by omega)
 | ref w=>
  with_reducible apply TS.ifF
  ·walk_at "tb"
  ·decide +kernel
  apply TS.retE
  apply TE.call' (ds:=[(Ex.ref w).toD,.int ((4:Nat):Int)])
  ·rfl
  ·walk_at "glob"
  ·apply TEs.cons
   ·rfl
   ·walk_at "te"
   ·apply TEs.cons
    ·rfl
    ·exact t_RAISED rfl
    ·exact TEs.nil
  ·walk_at "keep"
  ·exact bracketed_c h hl (by omega) u (by omega)
theorem signed_sc (h:Shw y kk x) (hg:x.good = true) (hl:(itm x).length ≤ 10000) (hkk:2 ≤ kk) (u:Und sg) (hk:kk + 2 ≤ k):CallOk y.cx k (.ref 342) [x.toD] sg (some (.str (rnd (sgI x)))) sg:=(signed_show h hg hl hkk u).up hk
end
section
variable {y:Cy} {sg:List Cell} {k kk:Nat} {x l r:Ex} {o:Op} {w:W} {n:Nat}
theorem sum_rnd:∀{L:List (List (Option W))},((L.map rnd).map (·.length)).sum = (rnd L.flatten).length
 | []=>rfl
 | a :: L=>by
  have ih:=sum_rnd (L:=L)
  rw [List.flatten_cons,rnd_app,app_len,←ih]
  simp
theorem pcs_len:∀{x:Ex},(pcs x).length ≤ (itm x).length
 | .bin o l r=>by
  unfold pcs
  have:=len_bin (o:=o) (l:=l) (r:=r)
  split
  ·have:=pcs_len (x:=l)
   have a:=brI_len (k:=o.lv) (lv:=l.level) (l:=itm l)
   have e:(itm (.bin o l r)).length = (brI o.lv l.level (itm l)).length + (rI o r).length:=by rw [itm_bin,List.length_append]
   have e2:3 ≤ (rI o r).length:=by simp [rI]
   simp only [List.length_cons];omega
  ·simp
 | .neg e=>by simp [pcs]
 | .ref n=>by simp [pcs]
 | .num u s=>by simp [pcs]
theorem not_lv:(Spec.lookup (.str "neg") (lvTab.map fun p=>(PyData.str p.1,p.2))).isSome = false ∧ (Spec.lookup (.str "ref") (lvTab.map fun p=>(PyData.str p.1,p.2))).isSome = false ∧ (Spec.lookup (.str "number") (lvTab.map fun p=>(PyData.str p.1,p.2))).isSome = false:=by
 refine ⟨?_,?_,?_⟩ <;> kernel_rfl
noncomputable abbrev pcC (ps:List (List (Option W))):Cell:=.list ((ps.map rnd).map .str)
theorem pcC_under {ps:List (List (Option W))} {m:Nat}:Cell.under m (pcC ps) = true:=by
 show D.unders m ((ps.map rnd).map .str) = true
 induction ps with
 | nil=>rfl
 | cons a ps ih=>simp only [List.map_cons,D.unders,Bool.and_eq_true];exact ⟨rfl,ih⟩
theorem show_all:∀(n:Nat) (x:Ex),x.good = true → x.hgt ≤ n → (itm x).length ≤ 10000 → Shw y (8 + 4 * n) x:=by
 intro n
 induction n with
 | zero=>intro x _ h _;cases x <;> simp [Ex.hgt] at h
 | succ n ih=>
  intro x hg hh hl sg u
  have uG:∀ps,Und (sg ++ [pcC ps]):=fun ps=>und_app u (by intro c hc;rw [List.mem_singleton] at hc;subst hc;exact pcC_under)
  have put_pc:∀(ps:List (List (Option W))) (p:List (Option W)),(sg ++ [pcC ps]).set sg.length (.list ((ps.map rnd).map .str ++ [.str (rnd p)])) = sg ++ [pcC (ps ++ [p])]:=fun ps p=>by rw [set_last];simp
  have szl:∀(ps:List (List (Option W))),ps.length ≤ 10000 → ((ps.map rnd).map D.str).length ≤ sizeLine:=fun ps h=>by simp only [List.length_map];unfold sizeLine;omega
  obtain ⟨z1,z2,z3,z4⟩:=one_len
  rw [show 8 + 4 * (n + 1) = (11 + 4 * n) + 1 by omega]
  refine CodeOk.fnL (k:=11 + 4 * n) (o:=.ret (.str (rnd (itm x)))) (ro:=[("expr",x.toD)]) (sg':=sg ++ [pcC (pcs x ++ [itm (ends x)])]) (by rfl) (by rfl) (by rfl) rfl ex0 (b_show _) rfl take_app u rfl fun L=>?_
  apply TS.set (d:=.obj sg.length) (sg1:=sg ++ [pcC []])
  ·apply TE.list (ds:=[])
   ·walk_at "tes"
   ·exact Nat.zero_le _
  ·rfl
  ·rfl
  apply TS.set
  ·walk_at "te"
  ·rfl
  ·rfl
  apply TS.whileN (ro2:=[("expr",x.toD),("pieces",.obj sg.length),("here",(ends x).toD)]) (sg2:=sg ++ [pcC ([] ++ pcs x)])
  ·refine TW.spine (Q:=fun h ps=>h.good = true ∧ h.hgt ≤ n + 1 ∧ (itm h).length ≤ 10000 ∧ (pcs h).length + ps.length ≤ 10000) (fun h=>[("expr",x.toD),("pieces",.obj sg.length),("here",h.toD)]) (fun ps=>sg ++ [pcC ps]) (fun o l r ps q z=>?_) (fun h ps q hn=>?_) (fun o l r ps q z=>?_) x [] ⟨hg,hh,hl,by have:=pcs_len (x:=x);simp;omega⟩
   ·obtain ⟨q1,q2,q3,q4⟩:=q
    simp only [Ex.good,Bool.and_eq_true] at q1
    simp only [Ex.hgt] at q2
    have:=(len_bin (o:=o) (l:=l) (r:=r)).1
    unfold pcs at q4
    rw [if_pos z] at q4
    simp only [List.length_cons,List.length_append,List.length_nil] at q4 ⊢
    exact ⟨q1.1,by omega,by omega,by omega⟩
   ·cases h with
    | bin o l r=>
     have hn:=hn o l r rfl
     apply TB.as
     ·with_reducible apply TB.andB
      ·with_reducible apply TB.cmp
       ·walk_at "te"
       ·exact t_LEVELS rfl
       ·exact op_in_tab lv_tab (lv_in o)
       ·rfl
      ·intro _
       with_reducible apply TB.andB
       ·with_reducible apply TB.cmp
        ·apply TE.call' (ds:=[l.toD])
         ·rfl
         ·walk_at "glob"
         ·apply TEs.cons
          ·rfl
          ·walk_at "te"
          ·exact TEs.nil
         ·walk_at "keep"
         ·exact level_c (uG _) (by omega)
        ·apply TE.asD
         ·apply TE.sub
          ·exact t_LEVELS rfl
          ·walk_at "te"
          ·exact sub_tab lv_tab (lv_op o) (fun _ _=>rfl)
         ·rfl
        ·exact op_ge_int
        ·rfl
       ·intro _
        with_reducible exact TB.and0
     ·have:decide (((o.lv:Nat):Int) ≤ ((l.level:Nat):Int)) = false:=decide_eq_false (by omega)
      rw [this];rfl
    | neg e=>
     with_reducible apply TB.andF
     with_reducible apply TB.cmp
     ·walk_at "te"
     ·exact t_LEVELS rfl
     ·exact op_in_tab lv_tab not_lv.1
     ·rfl
    | ref w=>
     with_reducible apply TB.andF
     with_reducible apply TB.cmp
     ·walk_at "te"
     ·exact t_LEVELS rfl
     ·exact op_in_tab lv_tab not_lv.2.1
     ·rfl
    | num v s=>
     with_reducible apply TB.andF
     with_reducible apply TB.cmp
     ·walk_at "te"
     ·exact t_LEVELS rfl
     ·exact op_in_tab lv_tab not_lv.2.2
     ·rfl
   ·obtain ⟨q1,q2,q3,q4⟩:=q
    simp only [Ex.good,Bool.and_eq_true] at q1
    simp only [Ex.hgt] at q2
    have hlr:=(len_bin (o:=o) (l:=l) (r:=r)).2
    have hr:Shw y (8 + 4 * n) r:=ih r q1.2 (by omega) (by omega)
    refine ⟨?_,?_⟩
    ·apply TB.as
     ·with_reducible apply TB.andB
      ·with_reducible apply TB.cmp
       ·walk_at "te"
       ·exact t_LEVELS rfl
       ·exact op_in_tab lv_tab (lv_in o)
       ·rfl
      ·intro _
       with_reducible apply TB.andB
       ·with_reducible apply TB.cmp
        ·apply TE.call' (ds:=[l.toD])
         ·rfl
         ·walk_at "glob"
         ·apply TEs.cons
          ·rfl
          ·walk_at "te"
          ·exact TEs.nil
         ·walk_at "keep"
         ·exact level_c (uG _) (by omega)
        ·apply TE.asD
         ·apply TE.sub
          ·exact t_LEVELS rfl
          ·walk_at "te"
          ·exact sub_tab lv_tab (lv_op o) (fun _ _=>rfl)
         ·rfl
        ·exact op_ge_int
        ·rfl
       ·intro _
        with_reducible exact TB.and0
     ·have:decide (((o.lv:Nat):Int) ≤ ((l.level:Nat):Int)) = true:=decide_eq_true (by omega)
      rw [this];rfl
    ·have hpl:ps.length ≤ 10000:=by omega
     apply TS.expr (d:=.none) (sg1:=sg ++ [pcC (ps ++ [rI o r])])
     ·rw [←put_pc]
      apply TE.append (i:=sg.length) (l:=(ps.map rnd).map .str)
      ·rfl
      ·rfl
      ·rfl
      ·walk_at "te"
      ·exact get_last
      ·apply TEs.cons
       ·rfl
       ·apply TE.call' (ds:=[(Ex.bin o l r).toD])
        ·rfl
        ·walk_at "glob"
        ·walk_at "tes"
        ·walk_at "keep"
        ·exact right_c hr (by omega) (by omega) (uG _) (by omega)
       ·exact TEs.nil
      ·exact get_last
      ·exact szl _ hpl
     ·rfl
     ·rfl
     ·apply TS.set (d:=l.toD)
      ·walk_at "te"
      ·rfl
      ·rfl
      ·exact TS.nil
  ·have eg:=ends_good hg
   have eh:=ends_hgt (x:=x)
   have el:=ends_len (x:=x)
   have hpl:(pcs x).length ≤ 10000:=Nat.le_trans pcs_len hl
   apply TS.cons (ro1:=[("expr",x.toD),("pieces",.obj sg.length),("here",(ends x).toD)]) (sg1:=sg ++ [pcC (pcs x ++ [itm (ends x)])])
   ·rw [List.nil_append]
    generalize hz:ends x = h at *
    cases h with
    | bin o l r=>
     have hlt:=ends_not hz
     simp only [Ex.good,Bool.and_eq_true] at eg
     simp only [Ex.hgt] at eh
     have hlr:=len_bin (o:=o) (l:=l) (r:=r)
     have hL:Shw y (8 + 4 * n) l:=ih l eg.1 (by omega) (by omega)
     have hR:Shw y (8 + 4 * n) r:=ih r eg.2 (by omega) (by omega)
     have e:rnd (itm (.bin o l r)) = ("(":Str) ++ rnd (itm l) ++ ")" ++ rnd (rI o r):=by
      rw [rnd_br,←rnd_app,itm_bin,brI,if_pos hlt]
     have r1:=rnd_len (l:=itm l)
     have r2:=rnd_len (l:=rI o r)
     have r3:(rI o r).length ≤ 10000:=by
      have:(itm (.bin o l r)).length = (brI o.lv l.level (itm l)).length + (rI o r).length:=by rw [itm_bin,List.length_append]
      omega
     apply TX.ifT'
     ·with_reducible apply TB.cmp
      ·walk_at "te"
      ·exact t_LEVELS rfl
      ·exact op_in_tab lv_tab (lv_in o)
      ·rfl
     ·rfl
     ·apply TS.expr (d:=.none) (sg1:=sg ++ [pcC (pcs x ++ [itm (.bin o l r)])])
      ·rw [←put_pc,e]
       apply TE.append (i:=sg.length) (l:=((pcs x).map rnd).map .str)
       ·rfl
       ·rfl
       ·rfl
       ·walk_at "te"
       ·exact get_last
       ·apply TEs.cons
        ·rfl
        ·with_reducible apply TE.binop
         ·with_reducible apply TE.binop
          ·with_reducible apply TE.binop
           ·walk_at "te"
           ·apply TE.call' (ds:=[l.toD])
            ·rfl
            ·walk_at "glob"
            ·walk_at "tes"
            ·walk_at "keep"
            ·exact hL.c (uG _) (by omega)
           ·exact op_add_str (by unfold sizeLine;omega)
          ·walk_at "te"
          ·exact op_add_str (by rw [app_len];unfold sizeLine;omega)
         ·apply TE.call' (ds:=[(Ex.bin o l r).toD])
          ·rfl
          ·walk_at "glob"
          ·walk_at "tes"
          ·walk_at "keep"
          ·exact right_c hR (by omega) (by omega) (uG _) (by omega)
         ·exact op_add_str (by rw [app_len,app_len];unfold sizeLine;omega)
        ·exact TEs.nil
       ·exact get_last
       ·exact szl _ hpl
      ·rfl
      ·rfl
      ·exact TS.nil
    | neg e=>
     simp only [Ex.good] at eg
     simp only [Ex.hgt] at eh
     have hle:=len_neg (e:=e)
     have hE:Shw y (8 + 4 * n) e:=ih e eg (by omega) (by omega)
     have q:rnd (itm (.neg e)) = ("- ":Str) ++ rnd (sgI e):=by
      rw [←rnd_ms,←rnd_app];rfl
     have r1:=rnd_len (l:=sgI e)
     have r2:(sgI e).length ≤ 10000:=by
      have:(itm (.neg e)).length = 2 + (sgI e).length:=by simp [itm,sgI];omega
      omega
     apply TX.ifF'
     ·with_reducible apply TB.cmp
      ·walk_at "te"
      ·exact t_LEVELS rfl
      ·exact op_in_tab lv_tab not_lv.1
      ·rfl
     ·rfl
     ·with_reducible apply TS.ifTn
      ·walk_at "tb"
      ·rfl
      ·apply TS.expr (d:=.none) (sg1:=sg ++ [pcC (pcs x ++ [itm (.neg e)])])
       ·rw [←put_pc,q]
        apply TE.append (i:=sg.length) (l:=((pcs x).map rnd).map .str)
        ·rfl
        ·rfl
        ·rfl
        ·walk_at "te"
        ·exact get_last
        ·apply TEs.cons
         ·rfl
         ·with_reducible apply TE.binop
          ·walk_at "te"
          ·apply TE.call' (ds:=[e.toD])
           ·rfl
           ·walk_at "glob"
           ·walk_at "tes"
           ·walk_at "keep"
           ·exact signed_sc hE eg (by omega) (by omega) (uG _) (by omega)
          ·exact op_add_str (by unfold sizeLine;omega)
         ·exact TEs.nil
        ·exact get_last
        ·exact szl _ hpl
       ·rfl
       ·rfl
       ·exact TS.nil
      ·exact TS.nil
    | ref w=>
     apply TX.ifF'
     ·with_reducible apply TB.cmp
      ·walk_at "te"
      ·exact t_LEVELS rfl
      ·exact op_in_tab lv_tab not_lv.2.1
      ·rfl
     ·rfl
     ·apply TS.ifFn
      ·walk_at "tb"
      ·decide +kernel
      ·apply TS.expr (d:=.none) (sg1:=sg ++ [pcC (pcs x ++ [itm (.ref w)])])
       ·rw [←put_pc]
        apply TE.append (i:=sg.length) (l:=((pcs x).map rnd).map .str)
        ·rfl
        ·rfl
        ·rfl
        ·walk_at "te"
        ·exact get_last
        ·apply TEs.cons
         ·rfl
         ·(with_reducible apply TE.call');(·rfl);(·walk_at "glob");(·walk_at "tes");(·walk_at "keep");(·exact (operand_r (uG _)).up (by omega))
         ·exact TEs.nil
        ·exact get_last
        ·exact szl _ hpl
       ·rfl
       ·rfl
       ·exact TS.nil
      ·exact TS.nil
    | num v s=>
     apply TX.ifF'
     ·with_reducible apply TB.cmp
      ·walk_at "te"
      ·exact t_LEVELS rfl
      ·exact op_in_tab lv_tab not_lv.2.2
      ·rfl
     ·rfl
     ·apply TS.ifFn
      ·walk_at "tb"
      ·decide +kernel
      ·apply TS.expr (d:=.none) (sg1:=sg ++ [pcC (pcs x ++ [itm (.num v s)])])
       ·rw [←put_pc]
        apply TE.append (i:=sg.length) (l:=((pcs x).map rnd).map .str)
        ·rfl
        ·rfl
        ·rfl
        ·walk_at "te"
        ·exact get_last
        ·apply TEs.cons
         ·rfl
         ·(with_reducible apply TE.call');(·rfl);(·walk_at "glob");(·walk_at "tes");(·walk_at "keep");(·exact (operand_n eg (uG _)).up (by omega))
         ·exact TEs.nil
        ·exact get_last
        ·exact szl _ hpl
       ·rfl
       ·rfl
       ·exact TS.nil
      ·exact TS.nil
   ·apply TS.retE
    have ej:Txt.join "" ((pcs x ++ [itm (ends x)]).map rnd).reverse = rnd (itm x):=by
     rw [←List.map_reverse,join_rnd,List.reverse_append,itm_ends (x:=x)]
     simp
    have ef:(((pcs x ++ [itm (ends x)]).map rnd).map (·.length)).sum ≤ 40000:=by
     have h1:((((pcs x ++ [itm (ends x)]).reverse).map rnd).map (·.length)).sum = (((pcs x ++ [itm (ends x)]).map rnd).map (·.length)).sum:=by
      rw [List.map_reverse,List.map_reverse,List.sum_reverse]
     rw [←h1,sum_rnd]
     have h2:((pcs x ++ [itm (ends x)]).reverse).flatten = itm x:=by rw [List.reverse_append,itm_ends (x:=x)];simp
     rw [h2]
     exact rnd_le hl
    apply TE.asStr
    ·apply TE.joinRev (y:="") (i:=sg.length) (ys:=(pcs x ++ [itm (ends x)]).map rnd)
     ·rfl
     ·rfl
     ·rfl
     ·walk_at "te"
     ·exact t_reversed rfl
     ·walk_at "te"
     ·exact get_last
     ·have e0:(Str.length "") = 0:=by decide +kernel
      rw [e0];omega
     ·simp only [List.length_map,List.length_append,List.length_cons,List.length_nil];omega
    ·exact ej
end
theorem slice_any {x:Str} {a b:Nat} (hab:a ≤ b) (ha:a ≤ x.length):Txt.slice x (some (a:Int)) (some (b:Int)) = ⟨((x.cps.toList.drop a).take (b - a)).toArray⟩:=by
 have e:∀b:Nat,Txt.slice x (some (a:Int)) (some (b:Int)) = PySem.StrLaws.sliceText x (some (a:Int)) (some (b:Int)):=fun _=>rfl
 by_cases hb:b ≤ x.length
 ·rw [e];exact PySem.StrLaws.sliceText_nat x hab hb
 ·have h1:Builtin.Str.strSliceIndices (some (a:Int)) (some (b:Int)) 1 x.length = Builtin.Str.strSliceIndices (some (a:Int)) (some ((x.length:Nat):Int)) 1 x.length:=by
   have m:min (b:Int) (x.length:Int) = (x.length:Int):=by omega
   have m2:min (x.length:Int) (x.length:Int) = (x.length:Int):=by omega
   have n1:¬ ((b:Int) < 0):=by omega
   have n2:¬ ((x.length:Int) < 0):=by omega
   simp only [Builtin.Str.strSliceIndices,n1,n2,if_false,m,m2,show (1:Int) > 0 by decide,if_true]
  have h2:Txt.slice x (some (a:Int)) (some (b:Int)) = Txt.slice x (some (a:Int)) (some ((x.length:Nat):Int)):=by
   unfold Txt.slice
   rw [h1]
  rw [h2,e,PySem.StrLaws.sliceText_nat x ha (Nat.le_refl _)]
  have l:x.cps.toList.length = x.length:=by simp [Str.length]
  rw [List.take_of_length_le (by rw [List.length_drop];omega),List.take_of_length_le (by rw [List.length_drop];omega)]
section
variable {C:Cx} {fi:FI} {k:Nat} {ro:List (Str × D)} {sg:List Cell} {T:Str} {a c b:Nat}
theorem sub_ch {value slice:Expr} (hs:∀o i,subscripted slice false o i = operate [o,i] (getItem o i)) (h:T.cps.toList[a]? = some c) (hz:T.length ≤ 100000):OpG C (subscriptTail value slice) (.str T) (.int ((a:Nat):Int)) sg (.str ⟨#[c]⟩) sg:=by
 have hl:a < T.length:=by
  have:=(List.getElem?_eq_some_iff.mp h).1
  simpa [Str.length] using this
 refine sub_str hs ?_ ?_
 ·rw [Bool.or_eq_false_iff]
  exact ⟨decide_eq_false (by omega),decide_eq_false (by omega)⟩
 ·unfold seqIndex?
  have n1:¬ ((a:Int) < 0):=by omega
  simp only [n1,if_false]
  rw [if_pos (by simp;omega)]
  simp only [Option.bind_some,Int.toNat_natCast]
  rw [←Array.getElem?_toList]
  exact h
end
noncomputable def isW (w:W):Bool:=isName w || isNum w
noncomputable def endsOk:Option (Option W) → Bool
 | none=>true | some none=>true | some (some .rp)=>true | _=>false
noncomputable def okI:List (Option W) → Bool
 | []=>true
 | none :: t=>okI t
 | some w :: t=>(!isW w || endsOk t.head?) && (!(w == .star) || t.head? == some none) && okI t
theorem okI_at:∀{l:List (Option W)} {i:Nat} {w:W},okI l = true → l[i]? = some (some w) → (isW w = true → endsOk l[i + 1]? = true) ∧ (w = .star → l[i + 1]? = some none)
 | a :: l,0,w,h,e=>by
  simp only [List.getElem?_cons_zero,Option.some.injEq] at e
  subst e
  simp only [okI,Bool.and_eq_true,Bool.or_eq_true,Bool.not_eq_true',beq_eq_false_iff_ne,beq_iff_eq] at h
  simp only [List.getElem?_cons_succ,←List.head?_eq_getElem?]
  refine ⟨fun q=>?_,fun q=>?_⟩
  ·rcases h.1.1 with z | z
   ·rw [q] at z;cases z
   ·exact z
  ·rcases h.1.2 with z | z
   ·exact absurd q z
   ·exact z
 | a :: l,i + 1,w,h,e=>by
  have:okI l = true:=by
   cases a with
   | none=>exact h
   | some w=>simp only [okI,Bool.and_eq_true] at h;exact h.2
  have r:=okI_at (l:=l) (i:=i) this (by simpa using e)
  simpa using r
noncomputable def flat (l:List (Option W)):List Nat:=l.flatMap chs
noncomputable def off (l:List (Option W)) (i:Nat):Nat:=(flat (l.take i)).length
theorem rnd_flat {l:List (Option W)}:(rnd l).cps.toList = flat l:=by simp [rnd,flat]
theorem rnd_length {l:List (Option W)}:(rnd l).length = (flat l).length:=by rw [←rnd_flat];simp [Str.length]
theorem flat_split {l:List (Option W)} {i:Nat} {c:Option W} (h:l[i]? = some c):flat l = flat (l.take i) ++ (chs c ++ flat (l.drop (i + 1))):=by
 have:l = l.take i ++ c :: l.drop (i + 1):=by
  have hi:=(List.getElem?_eq_some_iff.mp h)
  obtain ⟨hl,e⟩:=hi
  rw [←e,List.getElem_cons_drop,List.take_append_drop]
 conv=>lhs;rw [this]
 simp [flat]
theorem flat_at {l:List (Option W)} {i j:Nat} {c:Option W} (h:l[i]? = some c) (hj:j < (chs c).length):(flat l)[off l i + j]? = (chs c)[j]?:=by
 rw [flat_split h,List.getElem?_append_right (by unfold off;omega),List.getElem?_append_left (by unfold off;omega)]
 congr 1
 unfold off;omega
theorem flat_next {l:List (Option W)} {i:Nat} {c:Option W} (h:l[i]? = some c):(flat l)[off l i + (chs c).length]? = (flat (l.drop (i + 1))).head?:=by
 rw [flat_split h,List.getElem?_append_right (by unfold off;omega),List.getElem?_append_right (by unfold off;omega),List.head?_eq_getElem?]
 congr 1
 unfold off;omega
theorem off_succ {l:List (Option W)} {i:Nat} {c:Option W} (h:l[i]? = some c):off l (i + 1) = off l i + (chs c).length:=by
 unfold off
 rw [List.take_add_one,h]
 simp [flat]
theorem off_end {l:List (Option W)}:off l l.length = (flat l).length:=by unfold off;rw [List.take_length]
theorem flat_drop {l:List (Option W)} {i:Nat} {c:Option W} (h:l[i]? = some c):((flat l).drop (off l i)).take (chs c).length = chs c:=by
 rw [flat_split h]
 unfold off
 rw [List.drop_left,List.take_left]
theorem next_head {l:List (Option W)} {i:Nat}:(flat (l.drop i)).head? = match l[i]? with | none=>none | some c=>(chs c).head?:=by
 cases h:l[i]? with
 | none=>rw [List.drop_eq_nil_iff.mpr (List.getElem?_eq_none_iff.mp h)];rfl
 | some c=>
  have:l.drop i = c :: l.drop (i + 1):=by
   obtain ⟨hl,e⟩:=List.getElem?_eq_some_iff.mp h
   rw [←e,List.getElem_cons_drop]
  rw [this]
  simp only [flat,List.flatMap_cons]
  have:=(chs_len (x:=c)).2
  cases z:chs c with
  | nil=>rw [z] at this;simp at this
  | cons a t=>rfl
section
variable {y:Cy} {sg:List Cell} {k:Nat}
theorem b_law_words (P:Params):Bnd (theK P) 555 ["text"] 1 []:=fun S=>len1 fun a=>by kernel_rfl
noncomputable abbrev abc:Str:="ABCDEFGHIJKLMNOPQRSTUVWXYZ"
noncomputable abbrev abcd:Str:="ABCDEFGHIJKLMNOPQRSTUVWXYZ-"
noncomputable abbrev dig:Str:="0123456789"
noncomputable abbrev digd:Str:="0123456789."
noncomputable def inS (S:Str) (c:Nat):Bool:=inStr ⟨#[c]⟩ S
theorem w_ch (w:W):∃c t,chs (some w) = c :: t ∧ c ≠ 32 ∧ inS abc c = isName w ∧ (isName w = false → inS dig c = isNum w) ∧ (isName w = true → t = []) ∧ (isNum w = true → t.all (inS digd) = true) ∧
  (isName w = false → isNum w = false → w ≠ .pow → t = []) ∧ (c = 60 → False) ∧ (c = 62 → False) ∧ (c = 42 → w = .star ∨ w = .pow):=by
 cases w
 all_goals refine ⟨_,_,rfl,?_⟩
 all_goals refine ⟨by decide +kernel,by decide +kernel,by decide +kernel,by decide +kernel,by decide +kernel,by decide +kernel,by decide +kernel,by decide +kernel,by decide +kernel⟩
theorem sp_no:inS abc 32 = false ∧ inS dig 32 = false ∧ inS abcd 32 = false ∧ inS digd 32 = false ∧ inS abcd 41 = false ∧ inS digd 41 = false:=by decide +kernel
theorem two_ne {l:List Nat} (h:∀c t,l = c :: t → c ≠ 60 ∧ c ≠ 62 ∧ (c = 42 → t.head? ≠ some 42)):((["**","<=",">="]:List Str).any (· == ⟨l.toArray⟩)) = false:=by
 rw [←Bool.not_eq_true]
 intro z
 rw [List.any_eq_true] at z
 obtain ⟨s,hs,e⟩:=z
 rw [beq_iff_eq] at e
 have e1:("**":Str) = ⟨#[42,42]⟩:=by decide +kernel
 have e2:("<=":Str) = ⟨#[60,61]⟩:=by decide +kernel
 have e3:(">=":Str) = ⟨#[62,61]⟩:=by decide +kernel
 have inj:∀m:List Nat,s = ⟨m.toArray⟩ → m = l:=fun m q=>by
  rw [q] at e
  have:=congrArg (fun x=>Array.toList (Str.cps x)) e
  simpa using this
 simp only [List.mem_cons,List.not_mem_nil,or_false] at hs
 rcases hs with rfl | rfl | rfl
 ·have:=inj [42,42] e1
  exact (h 42 [42] this.symm).2.2 rfl rfl
 ·have:=inj [60,61] e2
  exact (h 60 [61] this.symm).1 rfl
 ·have:=inj [62,61] e3
  exact (h 62 [61] this.symm).2.1 rfl
theorem str_ne {c:Nat} (h:c ≠ 32):((⟨#[c]⟩:Str) != " ") = true:=by
 have e1:(" ":Str) = ⟨#[32]⟩:=by decide +kernel
 rw [e1,bne_iff_ne]
 intro z
 have:=congrArg (fun x=>Array.toList (Str.cps x)) z
 simp at this
 exact h this
theorem str_mk (w:W):(⟨(chs (some w)).toArray⟩:Str) = w.str:=by
 show (⟨(w.str.cps.toList).toArray⟩:Str) = w.str
 simp
end
local macro_rules
 | `(tactic| walk_at "te")=>`(tactic| first | ((with_reducible apply TE.sliceStr);(·walk_at "te");(·walk_at "tp");(·walk_at "tp");(·first | assumption | decide +kernel);(·exact fun _ _=>rfl)) | fail "no slice")
local macro_rules
 | `(tactic| walk_at "bcall")=>`(tactic| first | exact call_len_s (by assumption) | fail "no built-in")
local macro_rules
 | `(tactic| walk_at "ch")=>`(tactic| (apply TE.sub;(·walk_at "te");(·walk_at "te");(·exact sub_ch (fun _ _=>rfl) (by assumption) (by assumption))))
section
variable {y:Cy} {sg:List Cell} {k:Nat} {l:List (Option W)}
set_option maxHeartbeats 4000000 in
theorem words_ok (hok:okI l = true) (hl:l.length ≤ 10000) (u:Und sg):CodeOk y.cx 2 (.ref 555) [.str (rnd l)] sg (some (.obj sg.length)) (sg ++ [wordsC (l.filterMap id)]):=by
 have hTl:(rnd l).length ≤ 100000:=by have:=rnd_len (l:=l);omega
 have hTs:(rnd l).length ≤ sizeLine:=by unfold sizeLine;omega
 have hTf:(rnd l).cps.toList = flat l:=rnd_flat
 have hTn:(rnd l).length = (flat l).length:=rnd_length
 generalize rnd l = T at *
 have uW:∀ws:List W,Und (sg ++ [wordsC ws]):=fun ws=>und_app u (by
  intro c hc
  rw [List.mem_singleton] at hc
  subst hc
  show D.unders _ (ws.map fun w=>D.str w.str) = true
  induction ws with
  | nil=>rfl
  | cons a ws ih=>simp only [List.map_cons,D.unders,Bool.and_eq_true];exact ⟨rfl,by simpa using ih⟩)
 have hu:=uW (l.filterMap id)
 unfold Und at hu
 rw [List.length_append] at hu
 refine CodeOk.fnM (k:=1) (sg.length + 1) (o:=.ret (.obj sg.length)) (ro:=[("text",.str T)]) (sg':=sg ++ [wordsC (l.filterMap id)]) (by rfl) (by rfl) (by rfl) rfl ex0 (b_law_words _) rfl (by omega) (List.take_of_length_le (by simp)) hu (by simp [D.under]) (fun h=>by cases h) ⟨[],fun L=>?_⟩
 with_reducible apply TS.swap2
 ·apply TEs.cons
  ·rfl
  ·apply TE.list (ds:=[])
   ·walk_at "tes"
   ·exact Nat.zero_le _
  ·walk_at "tes"
 ·rfl
 ·rfl
 ·rfl
 ·rfl
 apply TS.whileN (ro2:=[("text",.str T),("at",.int ((off l l.length:Nat):Int)),("found",.obj sg.length)]) (sg2:=sg ++ [wordsC ((l.take l.length).filterMap id)])
 ·refine TW.count l.length (fun i=>[("text",.str T),("at",.int ((off l i:Nat):Int)),("found",.obj sg.length)]) (fun i=>sg ++ [wordsC ((l.take i).filterMap id)]) (fun i hi=>?_) ?_
  ·obtain ⟨c,hc⟩:∃c,l[i]? = some c:=⟨_,List.getElem?_eq_getElem hi⟩
   have hs:=off_succ hc
   have hcl:=(chs_len (x:=c)).2
   have h0:=flat_at hc (j:=0) hcl
   rw [Nat.add_zero,←hTf] at h0
   have hlt:off l i < T.length:=by
    have:=List.getElem?_eq_some_iff.mp (show T.cps.toList[off l i]? = some ((chs c)[0]'hcl) by rw [h0];exact List.getElem?_eq_getElem hcl)
    have:=this.1
    simpa [Str.length] using this
   refine ⟨?_,?_⟩
   ·apply TB.as
    ·with_reducible apply TB.cmp
     ·walk_at "te"
     ·walk_at "te"
     ·walk_at "op"
     ·rfl
    ·exact decide_eq_true (by omega)
   ·apply TS.cutTo (ro2:=[("text",.str T),("at",.int ((off l (i + 1):Nat):Int)),("found",.obj sg.length),("end",.int ((off l (i + 1):Nat):Int))])
    ·apply TS.set (d:=.int ((off l i + 1:Nat):Int))
     ·apply TE.asInt
      ·walk_at "te"
      ·omega
     ·rfl
     ·rfl
     cases c with
     | none=>
      have h0:T.cps.toList[off l i]? = some 32:=h0
      have ha:(chs none).length = 1:=rfl
      apply TS.ifFn
      ·with_reducible apply TB.cmp
       ·walk_at "ch"
       ·walk_at "te"
       ·exact op_in_str
       ·rfl
      ·exact sp_no.1
      ·apply TS.ifFn
       ·with_reducible apply TB.cmp
        ·walk_at "ch"
        ·walk_at "te"
        ·exact op_in_str
        ·rfl
       ·exact sp_no.2.1
       ·apply TS.ifF
        ·with_reducible apply TB.cmp
         ·walk_at "te"
         ·walk_at "te"
         ·exact op_in_tup (ys:=["**","<=",">="])
         ·rfl
        ·have e:((off l i:Nat):Int) + 2 = ((off l i + 2:Nat):Int):=by omega
         rw [e,slice_any (by omega) (by omega)]
         refine two_ne fun c t z=>?_
         have:(T.cps.toList.drop (off l i)).head? = some 32:=by rw [List.head?_drop];exact h0
         have hc:c = 32:=by
          have z2:=congrArg List.head? z
          rw [List.head?_take,if_neg (by omega),this] at z2
          simpa using z2.symm
         subst hc
         exact ⟨by decide,by decide,fun q=>by cases q⟩
        ·exact TS.nil
       ·exact TS.nil
      apply TS.ifF
      ·with_reducible apply TB.cmp
       ·walk_at "ch"
       ·walk_at "te"
       ·walk_at "op"
       ·rfl
      ·decide +kernel
      apply TS.set (d:=.int ((off l (i + 1):Nat):Int))
      ·apply TE.asInt
       ·walk_at "te"
       ·rw [hs,ha]
      ·rfl
      ·rfl
      ·have e:((l.take (i + 1)).filterMap id) = (l.take i).filterMap id:=by rw [List.take_add_one,hc];simp
       rw [e,hs,ha]
       exact TS.nil
     | some w=>
      obtain ⟨ch,tl,e0,n32,eA,eD,tA,tD,tO,n60,n62,n42⟩:=w_ch w
      have hlen:(chs (some w)).length = tl.length + 1:=by rw [e0];rfl
      have h0:T.cps.toList[off l i]? = some ch:=by rw [h0,e0];rfl
      obtain ⟨okW,okS⟩:=okI_at hok hc
      have hnx:=flat_next hc
      rw [next_head,←hTf] at hnx
      have hin:∀j,j < tl.length → T.cps.toList[off l i + 1 + j]? = tl[j]?:=fun j hj=>by
       have:=flat_at hc (j:=j + 1) (by omega)
       rw [←hTf,e0] at this
       rw [show off l i + 1 + j = off l i + (j + 1) by omega,this]
       rfl
      have hTle:off l i + (tl.length + 1) ≤ T.length:=by
       have:(flat l).length = (flat (l.take i)).length + ((chs (some w)).length + (flat (l.drop (i + 1))).length):=by rw [flat_split hc];simp
       unfold off
       omega
      have after:isW w = true → (T.length = off l i + (tl.length + 1)) ∨ ∃c,T.cps.toList[off l i + (tl.length + 1)]? = some c ∧ inS abcd c = false ∧ inS digd c = false:=fun q=>by
       have q:=okW q
       rw [hlen] at hnx
       cases z:l[i + 1]? with
       | none=>
        rw [z] at hnx
        have:=List.getElem?_eq_none_iff.mp hnx
        left
        have l2:T.cps.toList.length = T.length:=by simp [Str.length]
        omega
       | some d=>
        rw [z] at hnx q
        right
        cases d with
        | none=>exact ⟨32,hnx,sp_no.2.2.1,sp_no.2.2.2.1⟩
        | some v=>
         have:v = .rp:=by cases v <;> first | rfl | cases q
         subst this
         exact ⟨41,hnx,sp_no.2.2.2.2.1,sp_no.2.2.2.2.2⟩
      have esl:Txt.slice T (some ((off l i:Nat):Int)) (some ((off l (i + 1):Nat):Int)) = w.str:=by
       rw [hs,slice_any (by omega) (by omega),hTf,Nat.add_sub_cancel_left,flat_drop hc]
       exact str_mk w
      apply TS.cons (ro1:=[("text",.str T),("at",.int ((off l i:Nat):Int)),("found",.obj sg.length),("end",.int ((off l (i + 1):Nat):Int))]) (sg1:=sg ++ [wordsC ((l.take i).filterMap id)])
      ·cases hn:isName w with
       | true=>
        have e1:=tA hn
        subst e1
        have es:off l (i + 1) = off l i + 1:=by rw [hs,hlen];rfl
        rw [es]
        apply TX.ifT'
        ·with_reducible apply TB.cmp
         ·walk_at "ch"
         ·walk_at "te"
         ·exact op_in_str
         ·rfl
        ·exact eA.trans hn
        ·apply TS.whileN
         ·apply TW.done'
          ·rcases after (by simp [isW,hn]) with hz | ⟨c,hz,q1,q2⟩
           ·with_reducible apply TB.andF
            apply TB.as (b':=false)
            ·with_reducible apply TB.cmp
             ·walk_at "te"
             ·walk_at "te"
             ·walk_at "op"
             ·rfl
            ·exact decide_eq_false (by simp at hz;omega)
           ·have hz:T.cps.toList[off l i + 1]? = some c:=hz
            apply TB.as (b':=false)
            ·with_reducible apply TB.andB
             ·with_reducible apply TB.cmp
              ·walk_at "te"
              ·walk_at "te"
              ·walk_at "op"
              ·rfl
             ·intro _
              with_reducible apply TB.andB
              ·with_reducible apply TB.cmp
               ·walk_at "ch"
               ·walk_at "te"
               ·exact op_in_str
               ·rfl
              ·intro _
               with_reducible exact TB.and0
            ·have:inStr ⟨#[c]⟩ abcd = false:=q1
             rw [this];simp
          ·rfl
         ·exact TS.nil
       | false=>
        apply TX.ifF'
        ·with_reducible apply TB.cmp
         ·walk_at "ch"
         ·walk_at "te"
         ·exact op_in_str
         ·rfl
        ·exact eA.trans hn
        ·cases hm:isNum w with
         | true=>
          have hall:=tD hm
          rw [List.all_eq_true] at hall
          have hz:=after (by simp [isW,hm])
          apply TS.ifTn
          ·with_reducible apply TB.cmp
           ·walk_at "ch"
           ·walk_at "te"
           ·exact op_in_str
           ·rfl
          ·exact (eD hn).trans hm
          ·apply TS.whileN
           ·refine TW.count tl.length (fun j=>[("text",.str T),("at",.int ((off l i:Nat):Int)),("found",.obj sg.length),("end",.int ((off l i + 1 + j:Nat):Int))]) (fun _=>sg ++ [wordsC ((l.take i).filterMap id)]) (fun j hj=>?_) ?_
            ·obtain ⟨d,hd⟩:∃d,tl[j]? = some d:=⟨_,List.getElem?_eq_getElem hj⟩
             have h1:=hin j hj
             rw [hd] at h1
             have hdd:inStr ⟨#[d]⟩ digd = true:=hall d (List.mem_of_getElem? hd)
             refine ⟨?_,?_⟩
             ·apply TB.as
              ·with_reducible apply TB.andB
               ·with_reducible apply TB.cmp
                ·walk_at "te"
                ·walk_at "te"
                ·walk_at "op"
                ·rfl
               ·intro _
                with_reducible apply TB.andB
                ·with_reducible apply TB.cmp
                 ·walk_at "ch"
                 ·walk_at "te"
                 ·exact op_in_str
                 ·rfl
                ·intro _
                 with_reducible exact TB.and0
              ·rw [hdd]
               have:decide (((off l i + 1 + j:Nat):Int) < (T.length:Int)) = true:=decide_eq_true (by omega)
               rw [this];rfl
             ·apply TS.set (d:=.int ((off l i + 1 + (j + 1):Nat):Int))
              ·apply TE.asInt
               ·walk_at "te"
               ·omega
              ·rfl
              ·rfl
              ·exact TS.nil
            ·rcases hz with hz | ⟨c,hz,q1,q2⟩
             ·with_reducible apply TB.andF
              apply TB.as (b':=false)
              ·with_reducible apply TB.cmp
               ·walk_at "te"
               ·walk_at "te"
               ·walk_at "op"
               ·rfl
              ·exact decide_eq_false (by omega)
             ·have hz:T.cps.toList[off l i + 1 + tl.length]? = some c:=by rw [←hz];congr 1;omega
              apply TB.as (b':=false)
              ·with_reducible apply TB.andB
               ·with_reducible apply TB.cmp
                ·walk_at "te"
                ·walk_at "te"
                ·walk_at "op"
                ·rfl
               ·intro _
                with_reducible apply TB.andB
                ·with_reducible apply TB.cmp
                 ·walk_at "ch"
                 ·walk_at "te"
                 ·exact op_in_str
                 ·rfl
                ·intro _
                 with_reducible exact TB.and0
              ·have:inStr ⟨#[c]⟩ digd = false:=q2
               rw [this];simp
           ·exact TS.nil
          ·have e:off l (i + 1) = off l i + 1 + tl.length:=by rw [hs,hlen];omega
           rw [e]
           exact TS.nil
         | false=>
          apply TS.ifFn (ro2:=[("text",.str T),("at",.int ((off l i:Nat):Int)),("found",.obj sg.length),("end",.int ((off l (i + 1):Nat):Int))]) (sg2:=sg ++ [wordsC ((l.take i).filterMap id)])
          ·with_reducible apply TB.cmp
           ·walk_at "ch"
           ·walk_at "te"
           ·exact op_in_str
           ·rfl
          ·exact (eD hn).trans hm
          ·have e2:((off l i:Nat):Int) + 2 = ((off l i + 2:Nat):Int):=by omega
           by_cases hp:w = .pow
           ·subst hp
            have hl2:(chs (some W.pow)).length = 2:=by decide +kernel
            apply TS.ifTn
            ·with_reducible apply TB.cmp
             ·walk_at "te"
             ·walk_at "te"
             ·exact op_in_tup (ys:=["**","<=",">="])
             ·rfl
            ·rw [hl2] at hs
             rw [e2,←hs,esl]
             decide +kernel
            ·apply TS.set (d:=.int ((off l (i + 1):Nat):Int))
             ·apply TE.asInt
              ·walk_at "te"
              ·rw [hs,hl2];omega
             ·rfl
             ·rfl
             ·exact TS.nil
            ·exact TS.nil
           ·have e1:=tO hn hm hp
            subst e1
            have es:off l (i + 1) = off l i + 1:=by rw [hs,hlen];rfl
            rw [es]
            apply TS.ifF
            ·with_reducible apply TB.cmp
             ·walk_at "te"
             ·walk_at "te"
             ·exact op_in_tup (ys:=["**","<=",">="])
             ·rfl
            ·rw [e2,slice_any (by omega) (by omega)]
             refine two_ne fun c t z=>?_
             have hh:(T.cps.toList.drop (off l i)).head? = some ch:=by rw [List.head?_drop];exact h0
             have hcc:c = ch:=by
              have z2:=congrArg List.head? z
              rw [List.head?_take,if_neg (by omega),hh] at z2
              simpa using z2.symm
             subst hcc
             refine ⟨fun q=>n60 q,fun q=>n62 q,fun q=>?_⟩
             have hw:w = .star:=(n42 q).resolve_right hp
             have hnn:=okS hw
             rw [hnn,hlen] at hnx
             have hnx:T.cps.toList[off l i + 1]? = some 32:=hnx
             have z3:=congrArg (fun m=>m[1]?) z
             simp only [List.getElem?_take,List.getElem?_drop,List.getElem?_cons_succ] at z3
             rw [if_pos (by omega),hnx] at z3
             rw [List.head?_eq_getElem?,←z3]
             decide
            ·exact TS.nil
          ·exact TS.nil
      ·apply TS.ifTn (sg2:=sg ++ [wordsC ((l.take (i + 1)).filterMap id)])
       ·with_reducible apply TB.cmp
        ·walk_at "ch"
        ·walk_at "te"
        ·walk_at "op"
        ·rfl
       ·exact str_ne n32
       ·apply TS.expr (d:=.none) (sg1:=sg ++ [wordsC ((l.take (i + 1)).filterMap id)])
        ·have e:((l.take (i + 1)).filterMap id) = (l.take i).filterMap id ++ [w]:=by rw [List.take_add_one,hc];simp
         have e3:sg ++ [wordsC ((l.take (i + 1)).filterMap id)] = (sg ++ [wordsC ((l.take i).filterMap id)]).set sg.length (.list ((((l.take i).filterMap id).map fun w=>D.str w.str) ++ [.str w.str])):=by
          rw [e,set_last];simp
         rw [e3]
         apply TE.append (i:=sg.length) (l:=((l.take i).filterMap id).map fun w=>D.str w.str)
         ·rfl
         ·rfl
         ·rfl
         ·walk_at "te"
         ·exact get_last
         ·apply TEs.cons
          ·rfl
          ·apply TE.asStr
           ·apply TE.sliceStr
            ·walk_at "te"
            ·walk_at "tp"
            ·walk_at "tp"
            ·exact hTs
            ·exact fun _ _=>rfl
           ·exact esl
          ·exact TEs.nil
         ·exact get_last
         ·have:=List.length_filterMap_le id (l.take i)
          rw [List.length_take] at this
          simp only [List.length_map]
          unfold sizeLine
          omega
        ·rfl
        ·rfl
        ·exact TS.nil
       ·apply TS.set
        ·walk_at "te"
        ·rfl
        ·rfl
        ·exact TS.nil
    ·exact ⟨_,rfl⟩
  ·apply TB.as
   ·with_reducible apply TB.cmp
    ·walk_at "te"
    ·walk_at "te"
    ·walk_at "op"
    ·rfl
   ·rw [off_end,hTn]
    exact decide_eq_false (by omega)
 ·rw [List.take_length]
  apply TS.retE
  walk_at "te"
end
theorem okI_op {o:Op} {t:List (Option W)} (h:okI t = true):okI (none :: some o.w :: none :: t) = true:=by
 have e:isW o.w = false:=by cases o <;> rfl
 simp only [okI,e,Bool.not_false,Bool.true_or,List.head?_cons,Bool.true_and,Bool.and_eq_true,Bool.or_eq_true]
 exact ⟨.inr (by decide),h⟩
theorem okI_br {w:W} {t:List (Option W)} (hw:w = .lp ∨ w = .rp ∨ w = .minus) (h:okI t = true):okI (some w :: t) = true:=by
 rcases hw with rfl | rfl | rfl <;> simp [okI,isW,isName,isNum,h]
theorem okI_leaf {w:W} {t:List (Option W)} (hw:isW w = true) (h:okI t = true) (he:endsOk t.head? = true):okI (some w :: t) = true:=by
 have:(w == W.star) = false:=by cases w <;> first | rfl | cases hw
 simp [okI,hw,h,he,this]
theorem okI_itm:∀{x:Ex},x.good = true → ∀t,okI t = true → endsOk t.head? = true → okI (itm x ++ t) = true
 | .bin o l r,h,t,ht,he=>by
  simp only [Ex.good,Bool.and_eq_true] at h
  have B:∀(z:Ex),(∀t,okI t = true → endsOk t.head? = true → okI (itm z ++ t) = true) → ∀k t,okI t = true → endsOk t.head? = true → okI (brI k z.level (itm z) ++ t) = true:=fun z hz k t h1 h2=>by
   unfold brI
   split
   ·simp only [List.cons_append,List.append_assoc,List.nil_append]
    exact okI_br (.inl rfl) (hz _ (okI_br (.inr (.inl rfl)) h1) rfl)
   ·exact hz t h1 h2
  simp only [itm,List.append_assoc,List.cons_append]
  exact B l (okI_itm h.1) _ _ (okI_op (B r (okI_itm h.2) _ _ ht he)) rfl
 | .neg e,h,t,ht,he=>by
  simp only [Ex.good] at h
  simp only [itm,List.cons_append]
  refine okI_br (.inr (.inr rfl)) ?_
  simp only [okI]
  split
  ·simp only [List.cons_append,List.append_assoc,List.nil_append]
   exact okI_br (.inl rfl) (okI_itm h _ (okI_br (.inr (.inl rfl)) ht) rfl)
  ·unfold brI
   split
   ·simp only [List.cons_append,List.append_assoc,List.nil_append]
    exact okI_br (.inl rfl) (okI_itm h _ (okI_br (.inr (.inl rfl)) ht) rfl)
   ·exact okI_itm h t ht he
 | .ref n,h,t,ht,he=>okI_leaf (by simp only [Ex.good] at h;simp [isW,h]) ht he
 | .num u s,h,t,ht,he=>by
  have hn:=(tok_num h).1
  simp only [itm]
  split
  ·exact okI_br (.inr (.inr rfl)) (okI_leaf (by simp [isW,hn]) ht he)
  ·exact okI_leaf (by simp [isW,hn]) ht he
noncomputable def fullI:Ex → List (Option W)
 | .bin o l r=>some .lp :: (fullI l ++ none :: some o.w :: none :: (fullI r ++ [some .rp]))
 | .neg e=>some .lp :: some .minus :: none :: some .lp :: (fullI e ++ [some .rp,some .rp])
 | .ref n=>[some n]
 | .num u s=>if u < 0 then [some .lp,some .minus,some (tokOf u.natAbs s),some .rp] else [some (tokOf u.natAbs s)]
theorem fullI_words:∀{x:Ex},(fullI x).filterMap id = fullW x
 | .bin o l r=>by simp [fullI,fullW,List.filterMap_append,fullI_words (x:=l),fullI_words (x:=r)]
 | .neg e=>by simp [fullI,fullW,List.filterMap_append,fullI_words (x:=e)]
 | .ref n=>rfl
 | .num u s=>by simp only [fullI,fullW];split <;> rfl
theorem okI_full:∀{x:Ex},x.good = true → ∀t,okI t = true → endsOk t.head? = true → okI (fullI x ++ t) = true
 | .bin o l r,h,t,ht,he=>by
  simp only [Ex.good,Bool.and_eq_true] at h
  simp only [fullI,List.append_assoc,List.cons_append,List.nil_append]
  exact okI_br (.inl rfl) (okI_full h.1 _ (okI_op (okI_full h.2 _ (okI_br (.inr (.inl rfl)) ht) rfl)) rfl)
 | .neg e,h,t,ht,he=>by
  simp only [Ex.good] at h
  simp only [fullI,List.append_assoc,List.cons_append,List.nil_append]
  refine okI_br (.inl rfl) (okI_br (.inr (.inr rfl)) ?_)
  simp only [okI]
  exact okI_br (.inl rfl) (okI_full h _ (okI_br (.inr (.inl rfl)) (okI_br (.inr (.inl rfl)) ht)) rfl)
 | .ref n,h,t,ht,he=>okI_leaf (by simp only [Ex.good] at h;simp [isW,h]) ht he
 | .num u s,h,t,ht,he=>by
  have hn:=(tok_num h).1
  simp only [fullI]
  split
  ·exact okI_br (.inl rfl) (okI_br (.inr (.inr rfl)) (okI_leaf (by simp [isW,hn]) (okI_br (.inr (.inl rfl)) ht) rfl))
  ·exact okI_leaf (by simp [isW,hn]) ht he
noncomputable def Ex.lg:Ex → Bool
 | .bin _ l r=>l.lg && r.lg
 | .neg e=>e.lg
 | .ref n=>isName n
 | .num u s=>(u,s) == (0,0) || (u,s) == (5,0) || (u,s) == (25,2) || (u,s) == (-5,0) || (u,s) == (-7,1)
theorem lg_good:∀{x:Ex},x.lg = true → x.good = true
 | .bin _ l r,h=>by simp only [Ex.lg,Ex.good,Bool.and_eq_true] at h ⊢;exact ⟨lg_good h.1,lg_good h.2⟩
 | .neg e,h=>lg_good (x:=e) h
 | .ref n,h=>h
 | .num u s,h=>by simp only [Ex.lg,Ex.good] at h ⊢;rw [h];rfl
section
variable {C:Cx} {fi:FI} {k:Nat} {ro ro':List (Str × D)} {sg:List Cell}
theorem TE.dictTup5 {k1 k2 k3 k4 k5 v1 v2 v3 v4 v5 slice:Expr} {p1 p2 p3 p4 p5:Int × Int × Str} {a1 a2:Int} {x:Str} {j:Nat} {dpos pos:Pos}
  (h1:TE C fi k k1 ro sg (some (.tup [.int p1.1,.int p1.2.1])) sg) (g1:TE C fi k v1 ro sg (some (.str p1.2.2)) sg) (h2:TE C fi k k2 ro sg (some (.tup [.int p2.1,.int p2.2.1])) sg) (g2:TE C fi k v2 ro sg (some (.str p2.2.2)) sg)
  (h3:TE C fi k k3 ro sg (some (.tup [.int p3.1,.int p3.2.1])) sg) (g3:TE C fi k v3 ro sg (some (.str p3.2.2)) sg) (h4:TE C fi k k4 ro sg (some (.tup [.int p4.1,.int p4.2.1])) sg) (g4:TE C fi k v4 ro sg (some (.str p4.2.2)) sg)
  (h5:TE C fi k k5 ro sg (some (.tup [.int p5.1,.int p5.2.1])) sg) (g5:TE C fi k v5 ro sg (some (.str p5.2.2)) sg) (hnd:([p1,p2,p3,p4,p5].map fun p=>[p.1,p.2.1]).Nodup)
  (hs:TE C fi k slice ro sg (some (.tup [.int a1,.int a2])) sg) (hl:[p1,p2,p3,p4,p5][j]? = some (a1,a2,x)) (hz:∀o i,subscripted slice false o i = operate [o,i] (getItem o i)):
  TE C fi k (.Subscript (.Dict [some k1,some k2,some k3,some k4,some k5] [v1,v2,v3,v4,v5] dpos) slice pos) ro sg (some (.str x)) sg:=
 TE.dictTup (ps:=[(k1,v1),(k2,v2),(k3,v3),(k4,v4),(k5,v5)]) (kis:=[p1,p2,p3,p4,p5]) rfl rfl (TPs.cons h1 g1 (TPs.cons h2 g2 (TPs.cons h3 g3 (TPs.cons h4 g4 (TPs.cons h5 g5 TPs.nil))))) (by simp) (by simp) (by simp) hnd hs hl hz
end
theorem fullI_len {o:Op} {l r:Ex}:(fullI (.bin o l r)).length = (fullI l).length + (fullI r).length + 5:=by simp [fullI];omega
theorem fullN_len {e:Ex}:(fullI (.neg e)).length = (fullI e).length + 6:=by simp [fullI]
section
variable {y:Cy} {sg:List Cell} {k kk:Nat} {x l r:Ex} {o:Op} {w:W} {n:Nat}
theorem b_full (P:Params):Bnd (theK P) 569 ["expr"] 1 []:=fun S=>len1 fun a=>by kernel_rfl
noncomputable abbrev fullKis:List (Int × Int × Str):=[(0,0,"0"),(5,0,"5"),(25,2,"0.25"),(-5,0,"(-5)"),(-7,1,"(-0.7)")]
set_option maxHeartbeats 1000000 in
theorem full_ok:∀(n:Nat) (x:Ex),x.lg = true → x.hgt ≤ n → (fullI x).length ≤ 10000 → ∀sg,Und sg → CodeOk y.cx (n + 1) (.ref 569) [x.toD] sg (some (.str (rnd (fullI x)))) sg:=by
 intro n
 induction n with
 | zero=>intro x _ h _;cases x <;> simp [Ex.hgt] at h
 | succ n ih=>
  intro x hg hh hl sg u
  refine CodeOk.fnL (k:=n + 1) (o:=.ret (.str (rnd (fullI x)))) (ro:=[("expr",x.toD)]) (sg':=sg) (by rfl) (by rfl) (by rfl) rfl ex0 (b_full _) rfl List.take_length u rfl fun L=>?_
  cases x with
  | ref w=>
   rw [show rnd (fullI (.ref w)) = w.str from rnd_w]
   apply TS.weak
   with_reducible apply TS.ifT
   ·walk_at "tb"
   ·rfl
   ·apply TS.ret
    walk_at "te"
   ·rfl
  | num v s=>
   have key:∃j:Nat,fullKis[j]? = some (v,((s:Nat):Int),rnd (fullI (.num v s))):=by
    simp only [Ex.lg,Bool.or_eq_true,beq_iff_eq,Prod.mk.injEq] at hg
    rcases hg with (((h | h) | h) | h) | h <;> obtain ⟨rfl,rfl⟩:=h
    ·exact ⟨0,by decide +kernel⟩
    ·exact ⟨1,by decide +kernel⟩
    ·exact ⟨2,by decide +kernel⟩
    ·exact ⟨3,by decide +kernel⟩
    ·exact ⟨4,by decide +kernel⟩
   obtain ⟨j,hj⟩:=key
   with_reducible apply TS.ifF
   ·walk_at "tb"
   ·decide +kernel
   apply TS.weak
   with_reducible apply TS.ifT
   ·walk_at "tb"
   ·rfl
   ·refine TS.ret ?_
    refine TE.dictTup5 (p1:=(0,0,"0")) (p2:=(5,0,"5")) (p3:=(25,2,"0.25")) (p4:=(-5,0,"(-5)")) (p5:=(-7,1,"(-0.7)")) (j:=j) (a1:=v) (a2:=(s:Nat)) ?_ ?_ ?_ ?_ ?_ ?_ ?_ ?_ ?_ ?_ ?_ ?_ ?_ ?_
    ·walk_at "te"
    ·exact TE.cstr
    ·walk_at "te"
    ·exact TE.cstr
    ·walk_at "te"
    ·exact TE.cstr
    ·walk_at "te"
    ·exact TE.cstr
    ·walk_at "te"
    ·exact TE.cstr
    ·decide
    ·walk_at "te"
    ·exact hj
    ·exact fun _ _=>rfl
   ·rfl
  | neg e=>
   simp only [Ex.lg] at hg
   simp only [Ex.hgt] at hh
   rw [fullN_len] at hl
   have hE:=(ih e hg (by omega) (by omega) sg u).up (Nat.le_refl _)
   have hz:=rnd_le (l:=fullI e) (by omega)
   have q:rnd (fullI (.neg e)) = ("(- (":Str) ++ rnd (fullI e) ++ "))":=by
    have a1:("(- (":Str) = rnd [some .lp,some .minus,none,some .lp]:=by decide +kernel
    have a2:("))":Str) = rnd [some .rp,some .rp]:=by decide +kernel
    rw [a1,a2,←rnd_app,←rnd_app];rfl
   have z1:(Str.length "(- (") = 4:=by decide +kernel
   have z2:(Str.length "))") = 2:=by decide +kernel
   rw [q]
   with_reducible apply TS.ifF
   ·walk_at "tb"
   ·decide +kernel
   with_reducible apply TS.ifF
   ·walk_at "tb"
   ·decide +kernel
   apply TS.weak
   with_reducible apply TS.ifT
   ·walk_at "tb"
   ·rfl
   ·apply TS.ret
    with_reducible apply TE.binop
    ·with_reducible apply TE.binop
     ·walk_at "te"
     ·apply TE.call' (ds:=[e.toD])
      ·rfl
      ·walk_at "glob"
      ·walk_at "tes"
      ·walk_at "keep"
      ·exact hE
     ·exact op_add_str (by unfold sizeLine;omega)
    ·walk_at "te"
    ·exact op_add_str (by rw [app_len];unfold sizeLine;omega)
   ·rfl
  | bin o l r=>
   simp only [Ex.lg,Bool.and_eq_true] at hg
   simp only [Ex.hgt] at hh
   rw [fullI_len] at hl
   have hL:=(ih l hg.1 (by omega) (by omega) sg u).up (Nat.le_refl _)
   have hR:=(ih r hg.2 (by omega) (by omega) sg u).up (Nat.le_refl _)
   have r1:=rnd_le (l:=fullI l) (by omega)
   have r2:=rnd_le (l:=fullI r) (by omega)
   have hw:=name_len (w:=o.w)
   obtain ⟨z1,z2,z3,z4⟩:=one_len
   have q:rnd (fullI (.bin o l r)) = ("(":Str) ++ rnd (fullI l) ++ " " ++ o.w.str ++ " " ++ rnd (fullI r) ++ ")":=by
    rw [←rnd_lp,←rnd_rp,←rnd_sp,←rnd_w (w:=o.w),←rnd_app,←rnd_app,←rnd_app,←rnd_app,←rnd_app,←rnd_app]
    simp [fullI]
   have on:(o.w.str == ("ref":Str)) = false:=by cases o <;> decide +kernel
   rw [q]
   with_reducible apply TS.ifF
   ·walk_at "tb"
   ·exact on
   with_reducible apply TS.ifF
   ·walk_at "tb"
   ·exact (op_not_neg o).2
   with_reducible apply TS.ifF
   ·walk_at "tb"
   ·exact (op_not_neg o).1
   apply TS.retE
   with_reducible apply TE.binop
   ·with_reducible apply TE.binop
    ·with_reducible apply TE.binop
     ·with_reducible apply TE.binop
      ·with_reducible apply TE.binop
       ·with_reducible apply TE.binop
        ·walk_at "te"
        ·apply TE.call' (ds:=[l.toD])
         ·rfl
         ·walk_at "glob"
         ·walk_at "tes"
         ·walk_at "keep"
         ·exact hL
        ·exact op_add_str (by unfold sizeLine;omega)
       ·walk_at "te"
       ·exact op_add_str (by rw [app_len];unfold sizeLine;omega)
      ·walk_at "te"
      ·exact op_add_str (by rw [app_len,app_len];unfold sizeLine;omega)
     ·walk_at "te"
     ·exact op_add_str (by rw [app_len,app_len,app_len];unfold sizeLine;omega)
    ·apply TE.call' (ds:=[r.toD])
     ·rfl
     ·walk_at "glob"
     ·walk_at "tes"
     ·walk_at "keep"
     ·exact hR
    ·exact op_add_str (by rw [app_len,app_len,app_len,app_len];unfold sizeLine;omega)
   ·walk_at "te"
   ·exact op_add_str (by rw [app_len,app_len,app_len,app_len,app_len];unfold sizeLine;omega)
end
noncomputable abbrev penC (s i:Nat) (g w:Int):Cell:=.list [.obj s,.int i,.int g,.int w]
structure Pen (sg:List Cell) (p s i:Nat) (g w:Int) (ns:List Int):Prop where
 pen:sg[p]? = some (penC s i g w)
 src:sg[s]? = some (.list (ns.map .int))
 ne:p ≠ s
 und:Und sg
 few:ns.length ≤ 1000
 spot:i ≤ 1000
 w0:0 ≤ w
 w1:w < 1009
section
variable {sg:List Cell} {p s i i':Nat} {g g' w:Int} {ns:List Int}
theorem Pen.set (H:Pen sg p s i g w ns) (hi:i' ≤ 1000):Pen (sg.set p (penC s i' g' w)) p s i' g' w ns:=by
 have hp:p < sg.length:=(List.getElem?_eq_some_iff.mp H.pen).1
 have hs:s < sg.length:=(List.getElem?_eq_some_iff.mp H.src).1
 refine ⟨List.getElem?_set_self hp,by rw [List.getElem?_set_ne H.ne];exact H.src,H.ne,?_,H.few,hi,H.w0,H.w1⟩
 have u:=H.und
 unfold Und at u ⊢
 rw [List.length_set]
 rw [List.all_eq_true] at u ⊢
 intro c hc
 rcases List.mem_or_eq_of_mem_set hc with hc | rfl
 ·exact u c hc
 ·simp [Cell.under,D.unders,D.under,hs]
theorem Pen.und' (H:Pen sg p s i g w ns) (hi:i' ≤ 1000):(sg.set p (penC s i' g' w)).all (Cell.under sg.length) = true:=by
 have:=(H.set (i':=i') (g':=g') hi).und
 unfold Und at this
 rwa [List.length_set] at this
theorem pen_take {c:Cell}:(sg.set p c).take sg.length = sg.set p c:=by
 have:(sg.set p c).length = sg.length:=List.length_set
 rw [←this];exact List.take_length
end
theorem small_bits {k:Int} (h1:-(2 ^ 64) < k) (h2:k < 2 ^ 64):Builtin.Int.intBits k ≤ 64:=intBits_le_64 h1 h2
local macro_rules
 | `(tactic| walk_at "sub")=>`(tactic| first | exact sub_tup (fun _ _=>rfl) (by decide) (by decide) rfl rfl | exact sub_list (by assumption) (fun _ _=>rfl) (by decide) (by decide) rfl | fail "no item")
section
variable {y:Cy} {sg:List Cell} {k p s i m:Nat} {g w:Int} {ns:List Int}
theorem b_draw (P:Params):Bnd (theK P) 534 ["pen","many"] 2 []:=fun S=>len2 fun a b=>by kernel_rfl
theorem fmod_bd {a:Int} {m:Nat} (hm:0 < m):∃d:Nat,a.fmod (m:Int) = (d:Int) ∧ d < m:=by
 have h1:(0:Int) ≤ a.fmod m:=Int.fmod_nonneg_of_pos _ (by omega)
 have h2:a.fmod m < m:=Int.fmod_lt_of_pos _ (by omega)
 exact ⟨(a.fmod m).toNat,by omega,by omega⟩
set_option maxHeartbeats 2000000 in
theorem draw_ok (H:Pen sg p s i g w ns) (hm:0 < m) (hm2:m < 1000) (hi:i < 1000):∃(d i':Nat) (g':Int),d < m ∧ i' ≤ i + 1 ∧ CodeOk y.cx 1 (.ref 534) [.obj p,.int (m:Int)] sg (some (.int (d:Int))) (sg.set p (penC s i' g' w)):=by
 have hP:=H.pen
 have hp:p < sg.length:=(List.getElem?_eq_some_iff.mp hP).1
 have hm0:(m:Int) ≠ 0:=by omega
 have hpl:∀a:Int,Builtin.divisionGoesByPylong a (m:Int) = false:=fun a=>PyProof.noPylong_small (by omega)
 by_cases hg:0 < g
 ·obtain ⟨d,hd,hdm⟩:=fmod_bd (a:=g) hm
  refine ⟨d,i,g.fdiv m,hdm,by omega,?_⟩
  refine CodeOk.fnL (k:=0) (o:=.ret (.int (d:Int))) (ro:=[("pen",.obj p),("many",.int (m:Int))]) (sg':=sg.set p (penC s i (g.fdiv m) w)) (by rfl) (by rfl) (by rfl) rfl ex0 (b_draw _) rfl pen_take (H.und' H.spot) rfl fun L=>?_
  apply TS.weak
  with_reducible apply TS.ifT
  ·walk_at "tb"
  ·exact decide_eq_true hg
  ·apply TS.set (d:=.int (d:Int))
   ·rw [←hd]
    with_reducible apply TE.binop
    ·walk_at "te"
    ·walk_at "te"
    ·exact op_mod_int hm0
   ·rfl
   ·rfl
   apply TS.cons (sg1:=sg.set p (penC s i (g.fdiv m) w))
   ·apply TX.item (d:=.int (g.fdiv m)) (i:=p) (l:=[.obj s,.int i,.int g,.int w]) (j:=2)
    ·with_reducible apply TE.binop
     ·walk_at "te"
     ·walk_at "te"
     ·exact op_div_int hm0 (hpl _)
    ·walk_at "te"
    ·walk_at "te"
    ·exact hP
    ·decide
    ·exact Int.lt_of_sub_pos (by show (0:Int) < 4 - 2;decide)
    ·exact Nat.le_of_ble_eq_true rfl
    ·rfl
   ·refine TS.ret ?_
    walk_at "te"
  ·rfl
 ·have HS:=H.set (i':=i + 1) (g':=g) (by omega)
  have hP1:=HS.pen
  have hN1:=HS.src
  have hcl:∀k,CallOk y.cx k (.builtin "len") [.obj s] (sg.set p (penC s (i + 1) g w)) (some (.int ns.length)) (sg.set p (penC s (i + 1) g w)):=fun k=>by
   have l:(ns.map D.int).length = ns.length:=by simp
   have:=call_len_l (C:=y.cx) (k:=k) hN1 (by rw [l];have:=H.few;unfold sizeLine;omega)
   rw [l] at this
   exact this
  by_cases hlen:ns.length ≤ i
  · -- behind the script
   obtain ⟨d,hd,hdm⟩:=fmod_bd (a:=(((w + 5) * ((i:Int) + 3)) * ((i:Int) + 11)).fdiv 7) hm
   refine ⟨d,i + 1,g,hdm,by omega,?_⟩
   refine CodeOk.fnL (k:=0) (o:=.ret (.int (d:Int))) (ro:=[("pen",.obj p),("many",.int (m:Int))]) (sg':=sg.set p (penC s (i + 1) g w)) (by rfl) (by rfl) (by rfl) rfl ex0 (b_draw _) rfl pen_take (H.und' (by omega)) rfl fun L=>?_
   with_reducible apply TS.ifF
   ·walk_at "tb"
   ·exact decide_eq_false hg
   apply TS.set (d:=.int (i:Int))
   ·walk_at "te"
   ·rfl
   ·rfl
   apply TS.cons (sg1:=sg.set p (penC s (i + 1) g w))
   ·apply TX.item (d:=.int ((i + 1:Nat):Int)) (i:=p) (l:=[.obj s,.int i,.int g,.int w]) (j:=1)
    ·apply TE.asInt
     ·walk_at "te"
     ·omega
    ·walk_at "te"
    ·walk_at "te"
    ·exact hP
    ·decide
    ·exact Int.lt_of_sub_pos (by show (0:Int) < 4 - 1;decide)
    ·exact Nat.le_of_ble_eq_true rfl
    ·rfl
   apply TS.weak
   with_reducible apply TS.ifT
   ·with_reducible apply TB.cmp
    ·walk_at "te"
    ·(with_reducible apply TE.callM');(·rfl);(·walk_at "glob");(·walk_at "tes");(·rfl);(·exact hcl _)
    ·exact op_ge_int
    ·rfl
   ·exact decide_eq_true (by omega)
   ·with_reducible apply TS.ret
    rw [←hd]
    have hw0:=H.w0
    have hw1:=H.w1
    with_reducible apply TE.binop
    ·with_reducible apply TE.binop
     ·with_reducible apply TE.binop
      ·with_reducible apply TE.binop
       ·walk_at "te"
       ·walk_at "te"
       ·exact op_mul_int (IntMulOk.of_left (small_bits (by omega) (by omega)))
      ·walk_at "te"
      ·exact op_mul_int (IntMulOk.of_right (small_bits (by omega +splitNatSub) (by omega +splitNatSub)))
     ·walk_at "te"
     ·exact op_div_int (by decide) (PyProof.noPylong_small (by decide))
    ·walk_at "te"
    ·exact op_mod_int hm0
   ·rfl
  ·obtain ⟨c,hc⟩:∃c,ns[i]? = some c:=⟨_,List.getElem?_eq_getElem (by omega)⟩
   have hitem:(ns.map D.int)[((i:Nat):Int).toNat]? = some (.int c):=by rw [Int.toNat_natCast,List.getElem?_map,hc];rfl
   by_cases hsm:(if c < 0 then -c else c) < 1000000000000000000
   ·obtain ⟨d,hd,hdm⟩:=fmod_bd (a:=c) hm
    refine ⟨d,i + 1,g,hdm,by omega,?_⟩
    refine CodeOk.fnL (k:=0) (o:=.ret (.int (d:Int))) (ro:=[("pen",.obj p),("many",.int (m:Int))]) (sg':=sg.set p (penC s (i + 1) g w)) (by rfl) (by rfl) (by rfl) rfl ex0 (b_draw _) rfl pen_take (H.und' (by omega)) rfl fun L=>?_
    with_reducible apply TS.ifF
    ·walk_at "tb"
    ·exact decide_eq_false hg
    apply TS.set (d:=.int (i:Int))
    ·walk_at "te"
    ·rfl
    ·rfl
    apply TS.cons (sg1:=sg.set p (penC s (i + 1) g w))
    ·apply TX.item (d:=.int ((i + 1:Nat):Int)) (i:=p) (l:=[.obj s,.int i,.int g,.int w]) (j:=1)
     ·apply TE.asInt
      ·walk_at "te"
      ·omega
     ·walk_at "te"
     ·walk_at "te"
     ·exact hP
     ·decide
     ·exact Int.lt_of_sub_pos (by show (0:Int) < 4 - 1;decide)
     ·exact Nat.le_of_ble_eq_true rfl
     ·rfl
    with_reducible apply TS.ifF
    ·with_reducible apply TB.cmp
     ·walk_at "te"
     ·(with_reducible apply TE.callM');(·rfl);(·walk_at "glob");(·walk_at "tes");(·rfl);(·exact hcl _)
     ·exact op_ge_int
     ·rfl
    ·exact decide_eq_false (by omega)
    apply TS.set (d:=.int c)
    ·with_reducible apply TE.sub
     ·walk_at "te"
     ·walk_at "te"
     ·exact sub_list hN1 (fun _ _=>rfl) (by omega +splitNatSub) (by omega +splitNatSub) hitem
    ·rfl
    ·rfl
    apply TS.weak
    with_reducible apply TS.ifT
    ·with_reducible apply TB.cmp
     ·walk_at "te"
     ·with_reducible apply TE.binop
      ·walk_at "te"
      ·walk_at "te"
      ·exact op_pow_int (by decide) (by decide) (by decide)
     ·exact op_lt_int
     ·rfl
    ·exact decide_eq_true (by rw [show ((10:Int) ^ (18:Int).toNat) = 1000000000000000000 by decide];exact hsm)
    ·with_reducible apply TS.ret
     rw [←hd]
     with_reducible apply TE.binop
     ·walk_at "te"
     ·walk_at "te"
     ·exact op_mod_int hm0
    ·rfl
   ·have htn:((10:Int) ^ (18:Int).toNat) = 1000000000000000000:=by decide
    obtain ⟨e,he⟩:∃e:Int,e = 2 * ((if c < 0 then -c else c) - 1000000000000000000) + (if c < 0 then 1 else 0):=⟨_,rfl⟩
    obtain ⟨d,hd,hdm⟩:=fmod_bd (a:=e) hm
    refine ⟨d,i + 1,e.fdiv m,hdm,by omega,?_⟩
    refine CodeOk.fnL (k:=0) (o:=.ret (.int (d:Int))) (ro:=[("pen",.obj p),("many",.int (m:Int))]) (sg':=sg.set p (penC s (i + 1) (e.fdiv m) w)) (by rfl) (by rfl) (by rfl) rfl ex0 (b_draw _) rfl pen_take (H.und' (by omega)) rfl fun L=>?_
    with_reducible apply TS.ifF
    ·walk_at "tb"
    ·exact decide_eq_false hg
    apply TS.set (d:=.int (i:Int))
    ·walk_at "te"
    ·rfl
    ·rfl
    apply TS.cons (sg1:=sg.set p (penC s (i + 1) g w))
    ·apply TX.item (d:=.int ((i + 1:Nat):Int)) (i:=p) (l:=[.obj s,.int i,.int g,.int w]) (j:=1)
     ·apply TE.asInt
      ·walk_at "te"
      ·omega
     ·walk_at "te"
     ·walk_at "te"
     ·exact hP
     ·decide
     ·exact Int.lt_of_sub_pos (by show (0:Int) < 4 - 1;decide)
     ·exact Nat.le_of_ble_eq_true rfl
     ·rfl
    with_reducible apply TS.ifF
    ·with_reducible apply TB.cmp
     ·walk_at "te"
     ·(with_reducible apply TE.callM');(·rfl);(·walk_at "glob");(·walk_at "tes");(·rfl);(·exact hcl _)
     ·exact op_ge_int
     ·rfl
    ·exact decide_eq_false (by omega)
    apply TS.set (d:=.int c)
    ·with_reducible apply TE.sub
     ·walk_at "te"
     ·walk_at "te"
     ·exact sub_list hN1 (fun _ _=>rfl) (by omega +splitNatSub) (by omega +splitNatSub) hitem
    ·rfl
    ·rfl
    with_reducible apply TS.ifF
    ·with_reducible apply TB.cmp
     ·walk_at "te"
     ·with_reducible apply TE.binop
      ·walk_at "te"
      ·walk_at "te"
      ·exact op_pow_int (by decide) (by decide) (by decide)
     ·exact op_lt_int
     ·rfl
    ·exact decide_eq_false (by rw [htn];exact hsm)
    apply TS.set (d:=.int e)
    ·rw [he]
     with_reducible apply TE.binop (d1:=.int (2 * ((if c < 0 then -c else c) - 1000000000000000000))) (d2:=.int (if c < 0 then 1 else 0))
     ·with_reducible apply TE.binop
      ·walk_at "te"
      ·apply TE.asInt
       ·with_reducible apply TE.binop
        ·walk_at "te"
        ·with_reducible apply TE.binop
         ·walk_at "te"
         ·walk_at "te"
         ·exact op_pow_int (by decide) (by decide) (by decide)
        ·exact op_sub_int
       ·rw [htn]
      ·exact op_mul_int (IntMulOk.of_left (small_bits (by decide) (by decide)))
     ·by_cases hc0:c < 0
      ·rw [if_pos hc0]
       apply TE.ifT'
       ·walk_at "tb"
       ·exact decide_eq_true hc0
       ·walk_at "te"
      ·rw [if_neg hc0]
       apply TE.ifF'
       ·walk_at "tb"
       ·exact decide_eq_false hc0
       ·walk_at "te"
     ·exact op_add_int
    ·rfl
    ·rfl
    apply TS.cons (sg1:=sg.set p (penC s (i + 1) (e.fdiv m) w))
    ·have e1:sg.set p (penC s (i + 1) (e.fdiv m) w) = (sg.set p (penC s (i + 1) g w)).set p (.list ([D.obj s,.int ((i + 1:Nat):Int),.int g,.int w].set (2:Int).toNat (.int (e.fdiv m)))):=by
      rw [List.set_set];rfl
     rw [e1]
     apply TX.item (d:=.int (e.fdiv m)) (i:=p) (l:=[.obj s,.int ((i + 1:Nat):Int),.int g,.int w]) (j:=2)
     ·with_reducible apply TE.binop
      ·walk_at "te"
      ·walk_at "te"
      ·exact op_div_int hm0 (hpl _)
     ·walk_at "te"
     ·walk_at "te"
     ·exact hP1
     ·decide
     ·exact Int.lt_of_sub_pos (by show (0:Int) < 4 - 2;decide)
     ·exact Nat.le_of_ble_eq_true rfl
     ·rfl
    apply TS.retE
    rw [←hd]
    with_reducible apply TE.binop
    ·walk_at "te"
    ·walk_at "te"
    ·exact op_mod_int hm0
end
noncomputable def dr:Nat → Nat
 | 0=>2
 | n + 1=>2 + 2 * dr n
noncomputable def Ex.sz:Ex → Nat
 | .bin _ l r=>l.sz + r.sz + 7
 | .neg e=>e.sz + 6
 | _=>4
theorem itm_sz:∀{x:Ex},(itm x).length ≤ x.sz
 | .bin o l r=>by
  have a:=itm_sz (x:=l)
  have b:=itm_sz (x:=r)
  have c:=brI_len (k:=o.lv) (lv:=l.level) (l:=itm l)
  have d:=brI_len (k:=o.rl) (lv:=r.level) (l:=itm r)
  simp only [itm,Ex.sz,List.length_append,List.length_cons]
  omega
 | .neg e=>by
  have a:=itm_sz (x:=e)
  have d:=brI_len (k:=4) (lv:=e.level) (l:=itm e)
  simp only [itm,Ex.sz,List.length_cons]
  split
  ·simp only [List.length_cons,List.length_append,List.length_nil];omega
  ·omega
 | .ref _=>by simp [itm,Ex.sz]
 | .num u s=>by simp only [itm,Ex.sz];split <;> simp
theorem full_sz:∀{x:Ex},(fullI x).length ≤ x.sz
 | .bin o l r=>by
  have a:=full_sz (x:=l)
  have b:=full_sz (x:=r)
  rw [fullI_len];simp only [Ex.sz];omega
 | .neg e=>by
  have a:=full_sz (x:=e)
  rw [fullN_len];simp only [Ex.sz];omega
 | .ref _=>by simp [fullI,Ex.sz]
 | .num u s=>by simp only [fullI,Ex.sz];split <;> simp
theorem sz_hgt:∀{x:Ex} {n:Nat},x.hgt ≤ n → x.sz + 8 ≤ 12 * 2 ^ n
 | .bin o l r,n,h=>by
  simp only [Ex.hgt] at h
  obtain ⟨m,rfl⟩:∃m,n = m + 1:=⟨n - 1,by omega⟩
  have a:=sz_hgt (x:=l) (n:=m) (by omega)
  have b:=sz_hgt (x:=r) (n:=m) (by omega)
  simp only [Ex.sz,Nat.pow_succ];omega
 | .neg e,n,h=>by
  simp only [Ex.hgt] at h
  obtain ⟨m,rfl⟩:∃m,n = m + 1:=⟨n - 1,by omega⟩
  have a:=sz_hgt (x:=e) (n:=m) (by omega)
  simp only [Ex.sz,Nat.pow_succ];omega
 | .ref _,n,h=>by
  have:1 ≤ 2 ^ n:=Nat.one_le_two_pow
  simp only [Ex.sz];omega
 | .num u s,n,h=>by
  have:1 ≤ 2 ^ n:=Nat.one_le_two_pow
  simp only [Ex.sz];omega
section
variable {C:Cx} {fi:FI} {k:Nat} {ro:List (Str × D)} {sg sg1 sg2 sg':List Cell} {d1 d2 d3 d4 d5:D}
theorem TEs.two {e1 e2:Expr} (hp:(plainE e1 && plainE e2) = true) (h1:TE C fi k e1 ro sg (some d1) sg1) (h2:TE C fi k e2 ro sg1 (some d2) sg'):TEs C fi k [e1,e2] ro sg (some [d1,d2]) sg':=by
 rw [Bool.and_eq_true] at hp
 exact TEs.cons hp.1 h1 (TEs.cons hp.2 h2 TEs.nil)
theorem TE.pair {e1 e2:Expr} {n:Nat} {pos:Pos} (hp:(plainE e1 && plainE e2) = true) (h1:TE C fi k e1 ro sg (some d1) sg1) (h2:TE C fi k e2 ro sg1 (some d2) sg'):TE C fi k (.Tuple [e1,e2] n pos) ro sg (some (.tup [d1,d2])) sg':=TE.tup (TEs.two hp h1 h2) (Nat.le_of_ble_eq_true rfl)
theorem TE.five {e1 e2 e3 e4 e5:Expr} {n:Nat} {pos:Pos} (hp:(plainE e1 && plainE e2 && plainE e3 && plainE e4 && plainE e5) = true) (h1:TE C fi k e1 ro sg (some d1) sg) (h2:TE C fi k e2 ro sg (some d2) sg) (h3:TE C fi k e3 ro sg (some d3) sg) (h4:TE C fi k e4 ro sg (some d4) sg) (h5:TE C fi k e5 ro sg (some d5) sg):
  TE C fi k (.Tuple [e1,e2,e3,e4,e5] n pos) ro sg (some (.tup [d1,d2,d3,d4,d5])) sg:=by
 simp only [Bool.and_eq_true] at hp
 exact TE.tup (TEs.cons hp.1.1.1.1 h1 (TEs.cons hp.1.1.1.2 h2 (TEs.cons hp.1.1.2 h3 (TEs.cons hp.1.2 h4 (TEs.cons hp.2 h5 TEs.nil))))) (Nat.le_of_ble_eq_true rfl)
end
section
variable {C:Cx} {fi:FI} {k:Nat} {ro:List (Str × D)} {sg sg1 sg2 sg':List Cell} {d1 d2 d3 d4 d5:D} {n n1 n2 n3 n4 n5:Nat} {p1 p2 p3 p4 p5 pos:Pos}
theorem TE.pairS {x:Str} {v sl:Expr} (h2:TE C fi k (.Subscript v sl p2) ro sg (some d2) sg'):TE C fi k (.Tuple [.Constant (.str x) n1 p1,.Subscript v sl p2] n pos) ro sg (some (.tup [.str x,d2])) sg':=TE.pair rfl TE.cstr h2
theorem TE.pairCC {a b:Int}:TE C fi k (.Tuple [.Constant (.int a) n1 p1,.Constant (.int b) n2 p2] n pos) ro sg (some (.tup [.int a,.int b])) sg:=TE.pair rfl TE.cint TE.cint
theorem TE.pairUC {a b:Int}:TE C fi k (.Tuple [.UnaryOp .USub (.Constant (.int a) n1 p1) p3,.Constant (.int b) n2 p2] n pos) ro sg (some (.tup [.int (-a),.int b])) sg:=TE.pair rfl (TE.neg TE.cint) TE.cint
theorem TE.fiveP {l1 l2 l3 l4 l5:List Expr} (h1:TE C fi k (.Tuple l1 n1 p1) ro sg (some d1) sg) (h2:TE C fi k (.Tuple l2 n2 p2) ro sg (some d2) sg) (h3:TE C fi k (.Tuple l3 n3 p3) ro sg (some d3) sg) (h4:TE C fi k (.Tuple l4 n4 p4) ro sg (some d4) sg) (h5:TE C fi k (.Tuple l5 n5 p5) ro sg (some d5) sg):
  TE C fi k (.Tuple [.Tuple l1 n1 p1,.Tuple l2 n2 p2,.Tuple l3 n3 p3,.Tuple l4 n4 p4,.Tuple l5 n5 p5] n pos) ro sg (some (.tup [d1,d2,d3,d4,d5])) sg:=TE.five rfl h1 h2 h3 h4 h5
theorem TE.callNC {f x:Str} {v:Value} {m:Int} {r:Option D} (h1:TE C fi k (.Name f p1) ro sg (some (.val v)) sg) (h2:TE C fi k (.Name x p2) ro sg (some d1) sg) (hk:keepIn C.K v = true) (hc:CallOk C k v [d1,.int m] sg r sg'):
  TE C fi k (.Call (.Name f p1) [.Name x p2,.Constant (.int m) n3 p3] [] pos) ro sg r sg':=TE.call' rfl h1 (TEs.two rfl h2 TE.cint) hk hc
end
section
variable {y:Cy} {sg:List Cell} {k p s i m:Nat} {g w:Int} {ns:List Int}
theorem b_expr (P:Params):Bnd (theK P) 562 ["pen","deep"] 2 []:=fun S=>len2 fun a b=>by kernel_rfl
theorem abc_at {e:Nat} (h:e < 3):∃(c:Nat) (wn:W),isName wn = true ∧ (⟨#[c]⟩:Str) = wn.str ∧ (Str.cps "ABC").toList[e]? = some c:=by
 match e,h with
 | 0,_=>exact ⟨65,.nA,by decide +kernel⟩
 | 1,_=>exact ⟨66,.nB,by decide +kernel⟩
 | 2,_=>exact ⟨67,.nC,by decide +kernel⟩
theorem op_at {e:Nat} (h:e < 5):∃o:Op,[D.str "+",.str "-",.str "*",.str "/",.str "**"][e]? = some (.str o.w.str):=by
 match e,h with
 | 0,_=>exact ⟨.add,rfl⟩
 | 1,_=>exact ⟨.sub,rfl⟩
 | 2,_=>exact ⟨.mul,rfl⟩
 | 3,_=>exact ⟨.div,rfl⟩
 | 4,_=>exact ⟨.pow,rfl⟩
theorem num_at5 {e:Nat} (h:e < 5):∃(u:Int) (s:Nat),(Ex.num u s).lg = true ∧ [D.tup [.int 0,.int 0],.tup [.int 5,.int 0],.tup [.int 25,.int 2],.tup [.int (-5),.int 0],.tup [.int (-7),.int 1]][e]? = some (.tup [.int u,.int (s:Int)]):=by
 match e,h with
 | 0,_=>exact ⟨0,0,rfl,rfl⟩
 | 1,_=>exact ⟨5,0,rfl,rfl⟩
 | 2,_=>exact ⟨25,2,rfl,rfl⟩
 | 3,_=>exact ⟨-5,0,rfl,rfl⟩
 | 4,_=>exact ⟨-7,1,rfl,rfl⟩
theorem seq_at {e n:Nat} (h:e < n):seqIndex? (e:Int) n = some e:=by
 unfold seqIndex?
 have n1:¬ ((e:Int) < 0):=by omega
 simp only [n1,if_false]
 rw [if_pos (by simp;omega),Int.toNat_natCast]
set_option maxHeartbeats 3000000 in
theorem expr_ok:∀(n:Nat) (sg:List Cell) (i:Nat) (g:Int),Pen sg p s i g w ns → i + dr n ≤ 900 → ∃(x:Ex) (i':Nat) (g':Int),x.lg = true ∧ x.hgt ≤ n + 1 ∧ i' ≤ i + dr n ∧
  CodeOk y.cx (n + 2) (.ref 562) [.obj p,.int (n:Int)] sg (some x.toD) (sg.set p (penC s i' g' w)):=by
 intro n
 induction n with
 | zero=>
  intro sg i g H hi
  simp only [dr] at hi ⊢
  obtain ⟨d,i1,g1,hd,hi1,hD⟩:=draw_ok (y:=y) (m:=2) H (by omega) (by omega) (by omega)
  have H1:=H.set (i':=i1) (g':=g1) (by omega)
  by_cases hz:d = 0
  ·skip
   obtain ⟨e,i2,g2,he,hi2,hD2⟩:=draw_ok (y:=y) (m:=3) H1 (by omega) (by omega) (by omega)
   rw [List.set_set] at hD2
   obtain ⟨c,wn,hc1,hc2,hc3⟩:=abc_at he
   refine ⟨.ref wn,i2,g2,hc1,by simp [Ex.hgt],by omega,?_⟩
   refine CodeOk.fnL (k:=1) (o:=.ret (Ex.ref wn).toD) (ro:=[("pen",.obj p),("deep",.int ((0:Nat):Int))]) (sg':=sg.set p (penC s i2 g2 w)) (by rfl) (by rfl) (by rfl) rfl ex0 (b_expr _) rfl pen_take (H.und' (by omega)) under_D fun L=>?_
   with_reducible apply TS.set (d:=.int (6 + (d:Int)))
   ·with_reducible apply TE.ifF'
    ·walk_at "tb"
    ·decide
    ·with_reducible apply TE.binop
     ·walk_at "te"
     ·with_reducible apply TE.call' (ds:=[.obj p,.int 2])
      ·rfl
      ·walk_at "glob"
      ·walk_at "tes"
      ·walk_at "keep"
      ·exact hD.up (by omega)
     ·exact op_add_int
   ·rfl
   ·rfl
   with_reducible apply TS.ifF
   ·walk_at "tb"
   ·exact decide_eq_false (by omega)
   with_reducible apply TS.ifF
   ·walk_at "tb"
   ·exact beq_eq_false_iff_ne.mpr (by omega)
   apply TS.weak
   with_reducible apply TS.ifT
   ·walk_at "tb"
   ·exact beq_iff_eq.mpr (by omega)
   ·refine TS.ret ?_
    with_reducible apply TE.asD
    ·refine TE.tup (ds:=[.str "ref",.str ⟨#[c]⟩,.tup [],.tup [],.none]) ?_ ?_
     ·with_reducible apply TEs.cons
      ·rfl
      ·walk_at "te"
      ·with_reducible apply TEs.cons
       ·rfl
       ·with_reducible apply TE.sub
        ·walk_at "te"
        ·with_reducible apply TE.call' (ds:=[.obj p,.int 3])
         ·rfl
         ·walk_at "glob"
         ·walk_at "tes"
         ·walk_at "keep"
         ·exact hD2.up (by omega)
        ·exact sub_ch (fun _ _=>rfl) hc3 (by decide +kernel)
       ·walk_at "tes"
     ·exact Nat.le_of_ble_eq_true rfl
    ·rw [hc2];rfl
   ·rfl
  ·skip
   obtain ⟨e,i2,g2,he,hi2,hD2⟩:=draw_ok (y:=y) (m:=5) H1 (by omega) (by omega) (by omega)
   rw [List.set_set] at hD2
   obtain ⟨u,v,hn1,hn2⟩:=num_at5 he
   refine ⟨.num u v,i2,g2,hn1,by simp [Ex.hgt],by omega,?_⟩
   refine CodeOk.fnL (k:=1) (o:=.ret (Ex.num u v).toD) (ro:=[("pen",.obj p),("deep",.int ((0:Nat):Int))]) (sg':=sg.set p (penC s i2 g2 w)) (by rfl) (by rfl) (by rfl) rfl ex0 (b_expr _) rfl pen_take (H.und' (by omega)) under_D fun L=>?_
   with_reducible apply TS.set (d:=.int (6 + (d:Int)))
   ·with_reducible apply TE.ifF'
    ·walk_at "tb"
    ·decide
    ·with_reducible apply TE.binop
     ·walk_at "te"
     ·with_reducible apply TE.call' (ds:=[.obj p,.int 2])
      ·rfl
      ·walk_at "glob"
      ·walk_at "tes"
      ·walk_at "keep"
      ·exact hD.up (by omega)
     ·exact op_add_int
   ·rfl
   ·rfl
   with_reducible apply TS.ifF
   ·walk_at "tb"
   ·exact decide_eq_false (by omega)
   with_reducible apply TS.ifF
   ·walk_at "tb"
   ·exact beq_eq_false_iff_ne.mpr (by omega)
   with_reducible apply TS.ifF
   ·walk_at "tb"
   ·exact beq_eq_false_iff_ne.mpr (by omega)
   refine TS.retE ?_
   refine TE.pairS ?_
   refine TE.sub (d1:=.tup [.tup [.int 0,.int 0],.tup [.int 5,.int 0],.tup [.int 25,.int 2],.tup [.int (-5),.int 0],.tup [.int (-7),.int 1]]) (d2:=.int (e:Int)) (sg1:=sg.set p (penC s i1 g1 w)) (sg2:=sg.set p (penC s i2 g2 w)) ?_ ?_ ?_
   ·exact TE.fiveP TE.pairCC TE.pairCC TE.pairCC TE.pairUC TE.pairUC
   ·exact TE.callNC (t_law_draw rfl) (TE.name rfl rfl rfl) (k_law_draw _) (hD2.up (by omega))
   ·exact sub_tup (fun _ _=>rfl) (by omega) (by omega) (seq_at (by show e < 5;exact he)) hn2
 | succ n ih=>
  intro sg i g H hi
  simp only [dr] at hi ⊢
  obtain ⟨d,i1,g1,hd,hi1,hD⟩:=draw_ok (y:=y) (m:=8) H (by omega) (by omega) (by omega)
  have H1:=H.set (i':=i1) (g':=g1) (by omega)
  have hdr:2 ≤ dr n:=by cases n <;> simp [dr]
  by_cases h6:d = 6
  ·skip
   obtain ⟨e,i2,g2,he,hi2,hD2⟩:=draw_ok (y:=y) (m:=3) H1 (by omega) (by omega) (by omega)
   rw [List.set_set] at hD2
   obtain ⟨c,wn,hc1,hc2,hc3⟩:=abc_at he
   refine ⟨.ref wn,i2,g2,hc1,by simp [Ex.hgt],by omega,?_⟩
   refine CodeOk.fnL (k:=n + 2) (o:=.ret (Ex.ref wn).toD) (ro:=[("pen",.obj p),("deep",.int ((n + 1:Nat):Int))]) (sg':=sg.set p (penC s i2 g2 w)) (by rfl) (by rfl) (by rfl) rfl ex0 (b_expr _) rfl pen_take (H.und' (by omega)) under_D fun L=>?_
   with_reducible apply TS.set (d:=.int (d:Int))
   ·with_reducible apply TE.ifT'
    ·walk_at "tb"
    ·exact decide_eq_true (by omega)
    ·with_reducible apply TE.call' (ds:=[.obj p,.int 8])
     ·rfl
     ·walk_at "glob"
     ·walk_at "tes"
     ·walk_at "keep"
     ·exact hD.up (by omega)
   ·rfl
   ·rfl
   with_reducible apply TS.ifF
   ·walk_at "tb"
   ·exact decide_eq_false (by omega)
   with_reducible apply TS.ifF
   ·walk_at "tb"
   ·exact beq_eq_false_iff_ne.mpr (by omega)
   apply TS.weak
   with_reducible apply TS.ifT
   ·walk_at "tb"
   ·exact beq_iff_eq.mpr (by omega)
   ·refine TS.ret ?_
    with_reducible apply TE.asD
    ·refine TE.tup (ds:=[.str "ref",.str ⟨#[c]⟩,.tup [],.tup [],.none]) ?_ ?_
     ·with_reducible apply TEs.cons
      ·rfl
      ·walk_at "te"
      ·with_reducible apply TEs.cons
       ·rfl
       ·with_reducible apply TE.sub
        ·walk_at "te"
        ·with_reducible apply TE.call' (ds:=[.obj p,.int 3])
         ·rfl
         ·walk_at "glob"
         ·walk_at "tes"
         ·walk_at "keep"
         ·exact hD2.up (by omega)
        ·exact sub_ch (fun _ _=>rfl) hc3 (by decide +kernel)
       ·walk_at "tes"
     ·exact Nat.le_of_ble_eq_true rfl
    ·rw [hc2];rfl
   ·rfl
  by_cases h7:d = 7
  ·skip
   obtain ⟨e,i2,g2,he,hi2,hD2⟩:=draw_ok (y:=y) (m:=5) H1 (by omega) (by omega) (by omega)
   rw [List.set_set] at hD2
   obtain ⟨u,v,hn1,hn2⟩:=num_at5 he
   refine ⟨.num u v,i2,g2,hn1,by simp [Ex.hgt],by omega,?_⟩
   refine CodeOk.fnL (k:=n + 2) (o:=.ret (Ex.num u v).toD) (ro:=[("pen",.obj p),("deep",.int ((n + 1:Nat):Int))]) (sg':=sg.set p (penC s i2 g2 w)) (by rfl) (by rfl) (by rfl) rfl ex0 (b_expr _) rfl pen_take (H.und' (by omega)) under_D fun L=>?_
   with_reducible apply TS.set (d:=.int (d:Int))
   ·with_reducible apply TE.ifT'
    ·walk_at "tb"
    ·exact decide_eq_true (by omega)
    ·with_reducible apply TE.call' (ds:=[.obj p,.int 8])
     ·rfl
     ·walk_at "glob"
     ·walk_at "tes"
     ·walk_at "keep"
     ·exact hD.up (by omega)
   ·rfl
   ·rfl
   with_reducible apply TS.ifF
   ·walk_at "tb"
   ·exact decide_eq_false (by omega)
   with_reducible apply TS.ifF
   ·walk_at "tb"
   ·exact beq_eq_false_iff_ne.mpr (by omega)
   with_reducible apply TS.ifF
   ·walk_at "tb"
   ·exact beq_eq_false_iff_ne.mpr (by omega)
   refine TS.retE ?_
   refine TE.pairS ?_
   refine TE.sub (d1:=.tup [.tup [.int 0,.int 0],.tup [.int 5,.int 0],.tup [.int 25,.int 2],.tup [.int (-5),.int 0],.tup [.int (-7),.int 1]]) (d2:=.int (e:Int)) (sg1:=sg.set p (penC s i1 g1 w)) (sg2:=sg.set p (penC s i2 g2 w)) ?_ ?_ ?_
   ·exact TE.fiveP TE.pairCC TE.pairCC TE.pairCC TE.pairUC TE.pairUC
   ·exact TE.callNC (t_law_draw rfl) (TE.name rfl rfl rfl) (k_law_draw _) (hD2.up (by omega))
   ·exact sub_tup (fun _ _=>rfl) (by omega) (by omega) (seq_at (by show e < 5;exact he)) hn2
  by_cases h5:d = 5
  ·obtain ⟨x,i2,g2,hx1,hx2,hx3,hX⟩:=ih _ i1 g1 H1 (by omega)
   rw [List.set_set] at hX
   refine ⟨.neg x,i2,g2,hx1,by simp only [Ex.hgt];omega,by omega,?_⟩
   refine CodeOk.fnL (k:=n + 2) (o:=.ret (Ex.neg x).toD) (ro:=[("pen",.obj p),("deep",.int ((n + 1:Nat):Int))]) (sg':=sg.set p (penC s i2 g2 w)) (by rfl) (by rfl) (by rfl) rfl ex0 (b_expr _) rfl pen_take (H.und' (by omega)) under_D fun L=>?_
   with_reducible apply TS.set (d:=.int (d:Int))
   ·with_reducible apply TE.ifT'
    ·walk_at "tb"
    ·exact decide_eq_true (by omega)
    ·with_reducible apply TE.call' (ds:=[.obj p,.int 8])
     ·rfl
     ·walk_at "glob"
     ·walk_at "tes"
     ·walk_at "keep"
     ·exact hD.up (by omega)
   ·rfl
   ·rfl
   with_reducible apply TS.ifF
   ·walk_at "tb"
   ·exact decide_eq_false (by omega)
   apply TS.weak
   with_reducible apply TS.ifT
   ·walk_at "tb"
   ·exact beq_iff_eq.mpr (by omega)
   ·refine TS.ret ?_
    refine TE.tup (ds:=[.str "neg",x.toD]) ?_ ?_
    ·with_reducible apply TEs.cons
     ·rfl
     ·walk_at "te"
     ·with_reducible apply TEs.cons
      ·rfl
      ·with_reducible apply TE.call' (ds:=[.obj p,.int (n:Int)])
       ·rfl
       ·walk_at "glob"
       ·with_reducible apply TEs.cons
        ·rfl
        ·walk_at "te"
        ·with_reducible apply TEs.cons
         ·rfl
         ·with_reducible apply TE.asInt
          ·walk_at "te"
          ·omega
         ·exact TEs.nil
       ·walk_at "keep"
       ·exact hX.up (by omega)
      ·exact TEs.nil
    ·exact Nat.le_of_ble_eq_true rfl
   ·rfl
  ·have h05:d < 5:=by omega
   obtain ⟨o,ho⟩:=op_at h05
   obtain ⟨l,i2,g2,hl1,hl2,hl3,hL⟩:=ih _ i1 g1 H1 (by omega)
   have H2:=H1.set (i':=i2) (g':=g2) (by omega)
   rw [List.set_set] at hL H2
   obtain ⟨r,i3,g3,hr1,hr2,hr3,hR⟩:=ih _ i2 g2 H2 (by omega)
   rw [List.set_set] at hR
   refine ⟨.bin o l r,i3,g3,by simp only [Ex.lg,Bool.and_eq_true];exact ⟨hl1,hr1⟩,by simp only [Ex.hgt];omega,by omega,?_⟩
   refine CodeOk.fnL (k:=n + 2) (o:=.ret (Ex.bin o l r).toD) (ro:=[("pen",.obj p),("deep",.int ((n + 1:Nat):Int))]) (sg':=sg.set p (penC s i3 g3 w)) (by rfl) (by rfl) (by rfl) rfl ex0 (b_expr _) rfl pen_take (H.und' (by omega)) under_D fun L=>?_
   with_reducible apply TS.set (d:=.int (d:Int))
   ·with_reducible apply TE.ifT'
    ·walk_at "tb"
    ·exact decide_eq_true (by omega)
    ·with_reducible apply TE.call' (ds:=[.obj p,.int 8])
     ·rfl
     ·walk_at "glob"
     ·walk_at "tes"
     ·walk_at "keep"
     ·exact hD.up (by omega)
   ·rfl
   ·rfl
   apply TS.weak
   with_reducible apply TS.ifT
   ·walk_at "tb"
   ·exact decide_eq_true (by omega)
   ·with_reducible apply TS.set (d:=.str o.w.str)
    ·with_reducible apply TE.sub
     ·walk_at "te"
     ·walk_at "te"
     ·exact sub_tup (fun _ _=>rfl) (by omega) (by omega) (seq_at (by show d < 5;exact h05)) ho
    ·rfl
    ·rfl
    with_reducible apply TS.set (d:=l.toD)
    ·skip
     with_reducible apply TE.call' (ds:=[.obj p,.int (n:Int)])
     ·rfl
     ·walk_at "glob"
     ·with_reducible apply TEs.cons
      ·rfl
      ·walk_at "te"
      ·with_reducible apply TEs.cons
       ·rfl
       ·with_reducible apply TE.asInt
        ·walk_at "te"
        ·omega
       ·exact TEs.nil
     ·walk_at "keep"
     ·exact hL.up (by omega)
    ·rfl
    ·rfl
    refine TS.ret ?_
    refine TE.tup (ds:=[.str o.w.str,l.toD,r.toD]) ?_ ?_
    ·with_reducible apply TEs.cons
     ·rfl
     ·walk_at "te"
     ·with_reducible apply TEs.cons
      ·rfl
      ·walk_at "te"
      ·with_reducible apply TEs.cons
       ·rfl
       ·skip
        with_reducible apply TE.call' (ds:=[.obj p,.int (n:Int)])
        ·rfl
        ·walk_at "glob"
        ·with_reducible apply TEs.cons
         ·rfl
         ·walk_at "te"
         ·with_reducible apply TEs.cons
          ·rfl
          ·with_reducible apply TE.asInt
           ·walk_at "te"
           ·omega
          ·exact TEs.nil
        ·walk_at "keep"
        ·exact hR.up (by omega)
       ·exact TEs.nil
    ·exact Nat.le_of_ble_eq_true rfl
   ·rfl
end
noncomputable abbrev prD (l:List (Nat × Nat)):List D:=l.map fun q=>.tup [.int (q.1:Int),.int (q.2:Int)]
noncomputable def stp (s:List Nat × List (Nat × Nat)) (i:Nat) (w:Option W):List Nat × List (Nat × Nat):=
 match w with
 | some .lp=>(i :: s.1,s.2)
 | some .rp=>match s.1 with
  | b :: st=>(st,s.2 ++ [(b,i)])
  | []=>s
 | _=>s
noncomputable def stAt (ws:List W):Nat → List Nat × List (Nat × Nat)
 | 0=>([],[])
 | i + 1=>stp (stAt ws i) i ws[i]?
theorem st_inv {ws:List W} {l:List (Nat × Nat)} (h:prs 0 [] ws = some l):∀i,i ≤ ws.length → ∃m,prs i (stAt ws i).1 (ws.drop i) = some m ∧ (stAt ws i).2 ++ m = l:=by
 intro i
 induction i with
 | zero=>intro _;exact ⟨l,h,rfl⟩
 | succ i ih=>
  intro hi
  obtain ⟨m,h1,h2⟩:=ih (by omega)
  have hw:ws[i]? = some ws[i]:=List.getElem?_eq_getElem (by omega)
  have hd:ws.drop i = ws[i] :: ws.drop (i + 1):=(List.getElem_cons_drop (by omega)).symm
  rw [hd] at h1
  simp only [stAt,hw]
  generalize ws[i] = w at *
  generalize stAt ws i = s at *
  cases w with
  | lp=>exact ⟨m,h1,h2⟩
  | rp=>
   obtain ⟨st,fd⟩:=s
   cases st with
   | nil=>cases h1
   | cons b st=>
    simp only [prs] at h1
    cases z:prs (i + 1) st (ws.drop (i + 1)) with
    | none=>rw [z] at h1;cases h1
    | some m'=>
     rw [z] at h1
     cases h1
     exact ⟨m',z,by simp only [stp];rw [List.append_assoc];exact h2⟩
  | _=>exact ⟨m,h1,h2⟩
theorem st_pop {ws:List W} {l:List (Nat × Nat)} (h:prs 0 [] ws = some l) {i:Nat} (hi:ws[i]? = some .rp):∃b st,(stAt ws i).1 = b :: st:=by
 have hl:=(List.getElem?_eq_some_iff.mp hi)
 obtain ⟨hl,e⟩:=hl
 obtain ⟨m,h1,_⟩:=st_inv h i (by omega)
 have hd:ws.drop i = W.rp :: ws.drop (i + 1):=by rw [←e];exact (List.getElem_cons_drop hl).symm
 rw [hd] at h1
 cases z:(stAt ws i).1 with
 | nil=>rw [z] at h1;cases h1
 | cons b st=>exact ⟨b,st,rfl⟩
theorem st_end {ws:List W} {l:List (Nat × Nat)} (h:prs 0 [] ws = some l):(stAt ws ws.length).2 = l:=by
 obtain ⟨m,h1,h2⟩:=st_inv h ws.length (Nat.le_refl _)
 rw [List.drop_length] at h1
 cases h1
 rwa [List.append_nil] at h2
theorem st_len {ws:List W}:∀i,(stAt ws i).1.length ≤ i ∧ (stAt ws i).2.length ≤ i:=by
 intro i
 induction i with
 | zero=>exact ⟨Nat.le_refl _,Nat.le_refl _⟩
 | succ i ih=>
  simp only [stAt]
  generalize stAt ws i = s at *
  obtain ⟨st,fd⟩:=s
  unfold stp
  simp only at ih ⊢
  split
  ·simp;omega
  ·cases st with
   | nil=>exact ⟨by simp,by simp;omega⟩
   | cons b st=>simp at ih ⊢;omega
  ·exact ⟨by simp;omega,by simp;omega⟩
theorem w_lp {w:W}:(w.str == ("(":Str)) = (w == .lp):=by cases w <;> decide +kernel
theorem w_rp {w:W}:(w.str == (")":Str)) = (w == .rp):=by cases w <;> decide +kernel
theorem unders_prD {m:Nat}:∀{l:List (Nat × Nat)},D.unders m (prD l) = true
 | []=>rfl
 | q :: l=>by simp only [prD,List.map_cons,D.unders,Bool.and_eq_true];exact ⟨rfl,unders_prD⟩
theorem unders_int {m:Nat}:∀{l:List Int},D.unders m (l.map D.int) = true
 | []=>rfl
 | q :: l=>by simp only [List.map_cons,D.unders,Bool.and_eq_true];exact ⟨rfl,unders_int⟩
theorem unders_nat {m:Nat}:∀{l:List Nat},D.unders m (l.map fun n:Nat=>D.int (n:Int)) = true
 | []=>rfl
 | q :: l=>by simp only [List.map_cons,D.unders,Bool.and_eq_true];exact ⟨rfl,unders_nat⟩
section
variable {C:Cx} {fi:FI} {k:Nat} {ro:List (Str × D)} {sg sg1 sg2 sg3:List Cell}
structure Script (y:Cy) (la:Addr) (ns:List Int):Prop where
 at_:∃vs:List Value,y.H0.get? la = some { cls:=.type "list",dict:=none,data:=.seq vs.toArray,slots:=#[] } ∧ ∀th h,RepL th h (ns.map .int) vs
theorem TE.sliceVal {value:Expr} {lower upper:Option Expr} {p pos:Pos} {la:Addr} {vs:List Value} {l:List D} {lo hi:Option Int} (h1:TE C fi k value ro sg (some (.val (.ref la))) sg1) (h2:TP C fi k lower ro sg1 lo sg2) (h3:TP C fi k upper ro sg2 hi sg3)
  (hla:C.H0.get? la = some { cls:=.type "list",dict:=none,data:=.seq vs.toArray,slots:=#[] }) (hr:∀th h,RepL th h l vs) (hz:l.length ≤ sizeLine)
  (ht:∀o r,letTemporaryGo value o r = pure ()):TE C fi k (.Subscript value (.Slice lower upper none p) pos) ro sg (some (.obj sg3.length)) (sg3 ++ [.list (cutList l lo hi)]):=by
 intro A outer h₀ th₀ th s Q E a I post
 refine wpAny_Subscript_list_slice (h1 _ _ _ _ _ _ _ _ a I fun v1 h1' tk1 tl1 J1 kp1 n1 r1=>h2 _ _ _ _ _ _ _ _ a J1 fun v2 h2' tk2 tl2 J2 kp2 n2 r2=>h3 _ _ _ _ _ _ _ _ a J2 fun v3 h3' tk3 tl3 J3 kp3 n3 r3=>?_) ht
 obtain ⟨t2,rfl⟩:=r2
 obtain ⟨t3,rfl⟩:=r3
 simp only [Rep] at r1
 subst r1
 have hne:la ≠ C.P:=fun q=>by have e:=C.hP;rw [←q,hla] at e;cases e
 have ho:=J3.hi.stays la _ hne hla
 have hl:=hr (((th ++ tl1) ++ tl2) ++ tl3) h3'
 have hL:h3'.IsList la vs.toArray:=⟨_,ho,rfl,_,rfl⟩
 have len:=J3.hi.len
 refine ⟨la,vs.toArray,lo,hi,rfl,hL,by rw [List.size_toArray,hl.len];exact hz,IsPart_of _ _,IsPart_of _ _,?_⟩
 have hp:(slicePick vs.toArray lo hi none) = ((vs.drop (lo.elim 0 (clipAt l.length))).take (hi.elim l.length (clipAt l.length) - lo.elim 0 (clipAt l.length))).toArray:=by
  rw [slicePick_plain,List.size_toArray,hl.len]
 rw [hp]
 show Q (.ref (h3'.objs.size + 1)) _
 have e0:h3'.objs.size + 1 = (h3'.push { cls:=.type "slice",data:=.fields #[partValue (lo.map fun i=>(i,t2)),partValue (hi.map fun i=>(i,t3)),.none] }).objs.size:=by rw [Heap.size_push]
 rw [e0]
 have J4:=J3.push { cls:=.type "slice",data:=.fields #[partValue (lo.map fun i=>(i,t2)),partValue (hi.map fun i=>(i,t3)),.none] }
 have J5:=J4.grow (h':=(h3'.push { cls:=.type "slice",data:=.fields #[partValue (lo.map fun i=>(i,t2)),partValue (hi.map fun i=>(i,t3)),.none] }).push { cls:=.type "list",data:=.seq ((vs.drop (lo.elim 0 (clipAt l.length))).take (hi.elim l.length (clipAt l.length) - lo.elim 0 (clipAt l.length))).toArray }) (c:=.list (cutList l lo hi)) new_none push_ext
  (listCell (Heap.get?_push_size _ rfl) (((hl.ext push_ext).drop _).takeN _) push_ext)
 rw [List.append_assoc,List.append_assoc,List.append_assoc] at J5
 have K23:=(kp1.trans n1 kp2).trans (fresh_app n1 kp1 n2) (by rw [←List.append_assoc];exact kp3)
 refine post _ _ tk3 _ J5 (K23.trans0 (.of_ext fun b o e=>push_ext b o (push_ext b o e))) ?_ ?_
 ·have f3:=fresh_app (fresh_app n1 kp1 n2) (kp1.trans n1 kp2) n3
  have f4:=fresh_app f3 K23 (tl':=[(h3'.push { cls:=.type "slice",data:=.fields #[partValue (lo.map fun i=>(i,t2)),partValue (hi.map fun i=>(i,t3)),.none] }).objs.size]) fun b m=>by
   rw [List.mem_singleton] at m;subst m
   exact Heap.get?_none_of_le (by rw [Heap.size_push];omega)
  rw [List.append_assoc,List.append_assoc] at f4
  exact f4
 ·simp only [Rep]
  refine ⟨_,?_,rfl⟩
  rw [←List.append_assoc,←List.append_assoc,←List.append_assoc,←len]
  simp
end
section
variable {y:Cy} {sg:List Cell} {k p s i m wi:Nat} {la:Addr} {g w:Int} {ns:List Int} {ws:List W} {l:List (Nat × Nat)}
theorem b_pen (P:Params):Bnd (theK P) 541 ["script"] 1 []:=fun S=>len1 fun a=>by kernel_rfl
theorem b_pairs (P:Params):Bnd (theK P) 583 ["words"] 1 []:=fun S=>len1 fun a=>by kernel_rfl
theorem pen_ok (u:Und sg) (hs:Script y la ns) (hn:ns.length ≤ 1000):∃(ns':List Int) (w:Int),0 ≤ w ∧ w < 1009 ∧ ns'.length ≤ 1000 ∧
  CodeOk y.cx 1 (.ref 541) [.val (.ref la)] sg (some (.obj (sg.length + 3))) (sg ++ [.list (ns'.map .int),.list (ns'.map .int),.list (ns'.map .int),penC (sg.length + 1) 0 0 w]):=by
 obtain ⟨vs,hsv,hsr⟩:=hs.at_
 obtain ⟨ns',hns,hnl⟩:∃ns':List Int,cutList (ns.map D.int) none (some 63) = ns'.map .int ∧ ns'.length ≤ ns.length:=by
  refine ⟨(ns.drop 0).take (((some (63:Int)).elim (ns.map D.int).length (clipAt (ns.map D.int).length)) - 0),?_,?_⟩
  ·unfold cutList
   rw [List.map_take,List.map_drop]
   rfl
  ·rw [List.length_take,List.length_drop];omega
 have hz:(ns.map D.int).length ≤ sizeLine:=by rw [List.length_map];unfold sizeLine;omega
 have hz':(ns'.map D.int).length ≤ sizeLine:=by rw [List.length_map];unfold sizeLine;omega
 obtain ⟨sm,hsm⟩:=call_sum (C:=y.cx) (k:=0) (sg:=sg ++ [.list (ns'.map .int),.list (ns'.map .int),.list (ns'.map .int)]) (i:=sg.length + 2) (ns:=ns') (by simp)
 obtain ⟨d,hd,hdm⟩:=fmod_bd (a:=if sm < 0 then -sm else sm) (m:=1009) (by omega)
 refine ⟨ns',(d:Int),by omega,by omega,by omega,?_⟩
 have uf:Und (sg ++ [.list (ns'.map .int),.list (ns'.map .int),.list (ns'.map .int),penC (sg.length + 1) 0 0 (d:Int)]):=und_app u (by
  intro c hc
  simp only [List.mem_cons,List.not_mem_nil,or_false] at hc
  rcases hc with rfl | rfl | rfl | rfl
  ·exact unders_int
  ·exact unders_int
  ·exact unders_int
  ·simp [Cell.under,D.unders,D.under])
 unfold Und at uf
 have ul:(sg ++ [Cell.list (ns'.map .int),.list (ns'.map .int),.list (ns'.map .int),penC (sg.length + 1) 0 0 (d:Int)]).length = sg.length + 4:=by simp
 rw [ul] at uf
 refine CodeOk.fnM (k:=0) (sg.length + 4) (o:=.ret (.obj (sg.length + 3))) (ro:=[("script",.val (.ref la))]) (sg':=sg ++ [.list (ns'.map .int),.list (ns'.map .int),.list (ns'.map .int),penC (sg.length + 1) 0 0 (d:Int)]) (by rfl) (by rfl) (by rfl) rfl ex0 (b_pen _) rfl (by omega) (List.take_of_length_le (by rw [ul];omega)) uf (by simp [D.under]) (fun h=>by cases h) ⟨[],fun L=>?_⟩
 refine TS.retE ?_
 have ef:sg ++ [Cell.list (ns'.map .int),.list (ns'.map .int),.list (ns'.map .int),penC (sg.length + 1) 0 0 (d:Int)] = (sg ++ [.list (ns'.map .int),.list (ns'.map .int),.list (ns'.map .int)]) ++ [penC (sg.length + 1) 0 0 (d:Int)]:=by simp
 have eo:D.obj (sg.length + 3) = .obj (sg ++ [Cell.list (ns'.map D.int),.list (ns'.map .int),.list (ns'.map .int)]).length:=by simp
 rw [ef,eo]
 refine TE.list (ds:=[.obj (sg.length + 1),.int 0,.int 0,.int (d:Int)]) ?_ (Nat.le_of_ble_eq_true rfl)
 refine TEs.cons (sg1:=sg ++ [.list (ns'.map .int),.list (ns'.map .int)]) rfl ?_ ?_
 ·have e2:sg ++ [Cell.list (ns'.map D.int),.list (ns'.map .int)] = (sg ++ [.list (ns'.map .int)]) ++ [.list (ns'.map .int)]:=by simp
  have o2:D.obj (sg.length + 1) = .obj (sg ++ [Cell.list (ns'.map D.int)]).length:=by simp
  rw [e2,o2]
  refine TE.callM' (v:=.type "list") (ds:=[.obj sg.length]) (sg1:=sg) (sg2:=sg ++ [.list (ns'.map .int)]) rfl (t_list rfl) ?_ rfl (call_list_l get_last hz')
  refine TEs.cons (sg1:=sg ++ [.list (ns'.map .int)]) rfl ?_ TEs.nil
  rw [←hns]
  exact TE.sliceVal (TE.name rfl rfl rfl) TP.none (TP.some TE.cint) hsv hsr hz (fun _ _=>rfl)
 ·refine TEs.cons (sg1:=sg ++ [.list (ns'.map .int),.list (ns'.map .int)]) rfl TE.cint ?_
  refine TEs.cons (sg1:=sg ++ [.list (ns'.map .int),.list (ns'.map .int)]) rfl TE.cint ?_
  refine TEs.cons (sg1:=sg ++ [.list (ns'.map .int),.list (ns'.map .int),.list (ns'.map .int)]) rfl ?_ TEs.nil
  rw [←hd]
  refine TE.binop (sg1:=sg ++ [.list (ns'.map .int),.list (ns'.map .int),.list (ns'.map .int)]) (d1:=.int (if sm < 0 then -sm else sm)) (d2:=.int 1009) ?_ TE.cint (op_mod_int (by decide))
  refine TE.callM' (v:=.builtin "abs") (ds:=[.int sm]) (sg1:=sg ++ [.list (ns'.map .int),.list (ns'.map .int)]) (sg2:=sg ++ [.list (ns'.map .int),.list (ns'.map .int),.list (ns'.map .int)]) rfl (t_abs rfl) ?_ rfl call_abs
  refine TEs.cons (sg1:=sg ++ [.list (ns'.map .int),.list (ns'.map .int),.list (ns'.map .int)]) rfl ?_ TEs.nil
  refine TE.callM' (v:=.builtin "sum") (ds:=[.obj (sg.length + 2)]) (sg1:=sg ++ [.list (ns'.map .int),.list (ns'.map .int)]) (sg2:=sg ++ [.list (ns'.map .int),.list (ns'.map .int),.list (ns'.map .int)]) rfl (t_sum rfl) ?_ rfl hsm
  refine TEs.cons (sg1:=sg ++ [.list (ns'.map .int),.list (ns'.map .int),.list (ns'.map .int)]) rfl ?_ TEs.nil
  have e3:sg ++ [Cell.list (ns'.map D.int),.list (ns'.map .int),.list (ns'.map .int)] = (sg ++ [.list (ns'.map .int),.list (ns'.map .int)]) ++ [.list (ns'.map .int)]:=by simp
  have o3:D.obj (sg.length + 2) = .obj (sg ++ [Cell.list (ns'.map D.int),.list (ns'.map D.int)]).length:=by simp
  rw [e3,o3]
  rw [←hns]
  exact TE.sliceVal (TE.name rfl rfl rfl) TP.none (TP.some TE.cint) hsv hsr hz (fun _ _=>rfl)
noncomputable abbrev pG (L wi:Nat) (ws:List W) (i:Nat):List Cell:=[Cell.list ((stAt ws i).1.reverse.map fun n:Nat=>D.int (n:Int)),Cell.list (prD (stAt ws i).2),.liter wi i,.enum (L + 2) i]
set_option maxHeartbeats 2000000 in
theorem pairs_ok (u:Und sg) (hw:sg[wi]? = some (wordsC ws)) (hs:ws.length ≤ 100000) (hp:prs 0 [] ws = some l):∃c1 c2 c3:Cell,Und (sg ++ [c1,Cell.list (prD l),c2,c3]) ∧ CodeOk y.cx 1 (.ref 583) [.obj wi] sg (some (.obj (sg.length + 1))) (sg ++ [c1,Cell.list (prD l),c2,c3]):=by
 have hwi:wi < sg.length:=(List.getElem?_eq_some_iff.mp hw).1
 have hle:=st_end hp
 have uf:Und (sg ++ [Cell.list ((stAt ws ws.length).1.reverse.map fun n:Nat=>D.int (n:Int)),Cell.list (prD l),.dead,.enum (sg.length + 2) ws.length]):=und_app u (by
  intro c hc
  simp only [List.mem_cons,List.not_mem_nil,or_false] at hc
  rcases hc with rfl | rfl | rfl | rfl
  ·exact unders_nat
  ·exact unders_prD
  ·rfl
  ·simp [Cell.under])
 refine ⟨_,_,_,uf,?_⟩
 unfold Und at uf
 have ul:(sg ++ [Cell.list ((stAt ws ws.length).1.reverse.map fun n:Nat=>D.int (n:Int)),Cell.list (prD l),.dead,.enum (sg.length + 2) ws.length]).length = sg.length + 4:=by simp
 rw [ul] at uf
 refine CodeOk.fnM (k:=0) (sg.length + 4) (o:=.ret (.obj (sg.length + 1))) (ro:=[("words",.obj wi)]) (sg':=sg ++ [Cell.list ((stAt ws ws.length).1.reverse.map fun n:Nat=>D.int (n:Int)),Cell.list (prD l),.dead,.enum (sg.length + 2) ws.length]) (by rfl) (by rfl) (by rfl) rfl ex0 (b_pairs _) rfl (by omega) (List.take_of_length_le (by rw [ul];omega)) uf (by simp [D.under]) (fun h=>by cases h) ⟨[],fun L=>?_⟩
 have e2:sg ++ [Cell.list [],Cell.list []] = (sg ++ [.list []]) ++ [.list []]:=by simp
 apply TS.swap2 (d1:=.obj sg.length) (d2:=.obj (sg.length + 1)) (sg1:=sg ++ [Cell.list [],Cell.list []])
 ·refine TEs.cons (sg1:=sg ++ [.list []]) rfl (TE.list (ds:=[]) TEs.nil (Nat.zero_le _)) ?_
  refine TEs.cons (sg1:=sg ++ [Cell.list [],Cell.list []]) rfl ?_ TEs.nil
  have o2:D.obj (sg.length + 1) = .obj (sg ++ [Cell.list []]).length:=by simp
  rw [e2,o2]
  exact TE.list (ds:=[]) TEs.nil (Nat.zero_le _)
 ·rfl
 ·rfl
 ·rfl
 ·rfl
 apply TS.forE (ee:=sg.length + 3) (it:=sg.length + 2) (i:=0) (sg1:=sg ++ pG sg.length wi ws 0) (sg2:=sg ++ [Cell.list ((stAt ws ws.length).1.reverse.map fun n:Nat=>D.int (n:Int)),Cell.list (prD l),.dead,.enum (sg.length + 2) ws.length]) (ro2:=[("words",.obj wi),("found",.obj (sg.length + 1)),("open_places",.obj sg.length)])
 ·have e3:sg ++ pG sg.length wi ws 0 = (sg ++ [Cell.list [],Cell.list []]) ++ [.liter wi 0,.enum (sg ++ [Cell.list [],Cell.list []]).length 0]:=by simp [pG,stAt,prD]
  have o3:D.obj (sg.length + 3) = .obj ((sg ++ [Cell.list [],Cell.list []]).length + 1):=by simp
  rw [e3,o3]
  refine TE.callM' (v:=.type "enumerate") (ds:=[.obj wi]) (sg1:=sg ++ [Cell.list [],Cell.list []]) (sg2:=sg ++ [Cell.list [],Cell.list []]) rfl (t_enumerate rfl) (TEs.cons (sg1:=sg ++ [Cell.list [],Cell.list []]) rfl (TE.name rfl rfl rfl) TEs.nil) rfl (call_enum (get_app hw))
 ·exact getR (i:=3) rfl
 ·exact fun _=>rfl
 ·refine TF.count (n:=ws.length) (fun _=>[("words",.obj wi),("found",.obj (sg.length + 1)),("open_places",.obj sg.length)]) (fun i=>sg ++ pG sg.length wi ws i) (fun i hi=>?_) ?_
  ·obtain ⟨w,hw'⟩:∃w,ws[i]? = some w:=⟨_,List.getElem?_eq_getElem hi⟩
   have hlen:=st_len (ws:=ws) i
   refine ⟨.tup [.int i,.str w.str],_,sg ++ [Cell.list ((stAt ws i).1.reverse.map fun n:Nat=>D.int (n:Int)),Cell.list (prD (stAt ws i).2),.liter wi (i + 1),.enum (sg.length + 2) (i + 1)],?_,TA.tup2 rfl rfl,?_⟩
   ·have e1:((sg ++ pG sg.length wi ws i).set (sg.length + 2) (.liter wi (i + 1))).set (sg.length + 3) (.enum (sg.length + 2) (i + 1)) = sg ++ [Cell.list ((stAt ws i).1.reverse.map fun n:Nat=>D.int (n:Int)),Cell.list (prD (stAt ws i).2),.liter wi (i + 1),.enum (sg.length + 2) (i + 1)]:=by
     rw [setR (i:=2) rfl,setR (i:=3) rfl];rfl
    rw [←e1]
    exact TN.enum (it:=sg.length + 2) (src:=wi) (l:=ws.map fun w=>.str w.str) (getR (i:=3) rfl) (getR (i:=2) rfl) (get_app hw) (by rw [List.getElem?_map,hw'];rfl) (by omega) (by omega)
   ·have hst:stAt ws (i + 1) = stp (stAt ws i) i (some w):=by simp only [stAt,hw']
    apply TS.cutTo (ro2:=[("words",.obj wi),("found",.obj (sg.length + 1)),("open_places",.obj sg.length),("at",.int i),("word",.str w.str)])
    ·by_cases h1:w = .lp
     ·subst h1
      have eG:sg ++ pG sg.length wi ws (i + 1) = (sg ++ [Cell.list ((stAt ws i).1.reverse.map fun n:Nat=>D.int (n:Int)),Cell.list (prD (stAt ws i).2),.liter wi (i + 1),.enum (sg.length + 2) (i + 1)]).set sg.length (Cell.list (((stAt ws i).1.reverse.map fun n:Nat=>D.int (n:Int)) ++ [.int i])):=by
       rw [setR (n:=sg.length) (i:=0) rfl]
       simp only [pG,hst,stp]
       simp
      apply TS.ifTn (sg2:=sg ++ pG sg.length wi ws (i + 1))
      ·walk_at "tb"
      ·rw [w_lp];rfl
      ·apply TS.expr (d:=.none) (sg1:=sg ++ pG sg.length wi ws (i + 1))
       ·rw [eG]
        apply TE.append (i:=sg.length) (l:=(stAt ws i).1.reverse.map fun n:Nat=>D.int (n:Int))
        ·rfl
        ·rfl
        ·rfl
        ·walk_at "te"
        ·exact getR (i:=0) rfl
        ·walk_at "tes"
        ·exact getR (i:=0) rfl
        ·rw [List.length_map,List.length_reverse];unfold sizeLine;omega
       ·rfl
       ·rfl
       ·exact TS.nil
      ·apply TS.ifF
       ·walk_at "tb"
       ·rw [w_rp];rfl
       ·exact TS.nil
     ·have n1:(w == W.lp) = false:=by simpa using h1
      apply TS.ifF
      ·walk_at "tb"
      ·rw [w_lp];exact n1
      by_cases h2:w = .rp
      ·subst h2
       obtain ⟨b,st,hb⟩:=st_pop hp hw'
       have hbl:st.length ≤ 100000:=by rw [hb] at hlen;simp at hlen;omega
       have eR:((stAt ws i).1.reverse.map fun n:Nat=>D.int (n:Int)) = (st.reverse.map fun n:Nat=>D.int (n:Int)) ++ [.int b]:=by rw [hb];simp
       have eG:sg ++ pG sg.length wi ws (i + 1) = (sg ++ [Cell.list (st.reverse.map fun n:Nat=>D.int (n:Int)),Cell.list (prD (stAt ws i).2),.liter wi (i + 1),.enum (sg.length + 2) (i + 1)]).set (sg.length + 1) (Cell.list (prD (stAt ws i).2 ++ [.tup [.int b,.int i]])):=by
        rw [setR (i:=1) rfl]
        simp only [pG,hst,stp,hb]
        simp [prD]
       apply TS.ifTn (sg2:=sg ++ pG sg.length wi ws (i + 1))
       ·walk_at "tb"
       ·rw [w_rp];rfl
       ·apply TS.expr (d:=.none) (sg1:=sg ++ pG sg.length wi ws (i + 1))
        ·rw [eG]
         apply TE.append (i:=sg.length + 1) (l:=prD (stAt ws i).2)
         ·rfl
         ·rfl
         ·rfl
         ·walk_at "te"
         ·exact getR (i:=1) rfl
         ·refine TEs.cons (sg1:=sg ++ [Cell.list (st.reverse.map fun n:Nat=>D.int (n:Int)),Cell.list (prD (stAt ws i).2),.liter wi (i + 1),.enum (sg.length + 2) (i + 1)]) rfl ?_ TEs.nil
          refine TE.pair (d1:=.int b) (d2:=.int i) (sg1:=sg ++ [Cell.list (st.reverse.map fun n:Nat=>D.int (n:Int)),Cell.list (prD (stAt ws i).2),.liter wi (i + 1),.enum (sg.length + 2) (i + 1)]) rfl ?_ (TE.name rfl rfl rfl)
          have eP:sg ++ [Cell.list (st.reverse.map fun n:Nat=>D.int (n:Int)),Cell.list (prD (stAt ws i).2),.liter wi (i + 1),.enum (sg.length + 2) (i + 1)] = (sg ++ [Cell.list ((stAt ws i).1.reverse.map fun n:Nat=>D.int (n:Int)),Cell.list (prD (stAt ws i).2),.liter wi (i + 1),.enum (sg.length + 2) (i + 1)]).set sg.length (Cell.list (st.reverse.map fun n:Nat=>D.int (n:Int))):=by
           rw [setR (n:=sg.length) (i:=0) rfl];rfl
          rw [eP]
          refine TE.pop (l:=st.reverse.map fun n:Nat=>D.int (n:Int)) rfl rfl (TE.name rfl rfl rfl) ?_ ?_
          ·rw [getR (n:=sg.length) (i:=0) rfl]
           simp only [List.getElem?_cons_zero,eR]
          ·rw [List.length_map,List.length_reverse];unfold sizeLine;omega
         ·exact getR (i:=1) rfl
         ·rw [List.length_map];unfold sizeLine;omega
        ·rfl
        ·rfl
        ·exact TS.nil
       ·exact TS.nil
      ·have n2:(w == W.rp) = false:=by simpa using h2
       have eG:sg ++ pG sg.length wi ws (i + 1) = sg ++ [Cell.list ((stAt ws i).1.reverse.map fun n:Nat=>D.int (n:Int)),Cell.list (prD (stAt ws i).2),.liter wi (i + 1),.enum (sg.length + 2) (i + 1)]:=by
        have:stAt ws (i + 1) = stAt ws i:=by rw [hst];cases w <;> first | rfl | exact absurd rfl h1 | exact absurd rfl h2
        simp only [pG,this]
       apply TS.ifF
       ·walk_at "tb"
       ·rw [w_rp];exact n2
       ·rw [eG];exact TS.nil
    ·exact ⟨_,rfl⟩
  ·have e1:(sg ++ pG sg.length wi ws ws.length).set (sg.length + 2) .dead = sg ++ [Cell.list ((stAt ws ws.length).1.reverse.map fun n:Nat=>D.int (n:Int)),Cell.list (prD l),.dead,.enum (sg.length + 2) ws.length]:=by
    rw [setR (i:=2) rfl];simp only [pG,hle];rfl
   rw [←e1]
   exact TN.enumEnd (it:=sg.length + 2) (src:=wi) (i:=ws.length) (l:=ws.map fun w=>.str w.str) (getR (i:=3) rfl) (getR (i:=2) rfl) (get_app hw) (by rw [List.getElem?_eq_none_iff];simp)
 ·refine TS.retE ?_
  walk_at "te"
end
section
variable {C:Cx} {fi:FI} {k:Nat} {outer:List Env} {h₀ h h' h'':Heap} {th₀ th tl:List Addr} {ro ro':List (Str × D)} {sg sg1 sg2 sg':List Cell} {d:D} {fs:List Env}
theorem InF.junk2 (I:InF C fi outer h₀ th₀ th sg ro h) {a:Addr} {ob:Obj} (ha:a ∉ th) (hn:h₀.get? a = none) (ho:h.get? a = some ob) (hc:∀vs n,ob.data ≠ .seq vs n) (hd:∀v,ob.data ≠ .cell v) (hf:∀env ∈ (fi.env :: outer),env.frame ≠ some a)
  (k:∀b o,b ≠ a → h.get? b = some o → h'.get? b = some o):InF C fi outer h₀ th₀ th sg ro h':=by
 have B:=I.below
 have aP:C.P ≠ a:=fun q=>I.basP (q ▸ hn)
 have tup:∀b vs,h.TupAt b vs → h'.TupAt b vs:=fun b vs ht=>by
  obtain ⟨o,n,ho',hc',q⟩:=ht
  refine ⟨o,n,k b o (fun z=>?_) ho',hc',q⟩
  subst z
  rw [ho] at ho';cases ho'
  exact hc _ _ q
 have J:HI C th sg (fi.env :: outer) h':=by
  refine ⟨fun b o n e=>k b o (fun z=>?_) (B.stays b o n e),?_,B.len,B.nd,B.high,fun i c b e1 e2=>?_,fun env he=>⟨(B.fr env he).kind,?_⟩⟩
  ·rw [z,I.base a hn] at e;cases e
  ·obtain ⟨ps,e,q⟩:=B.tab
   exact ⟨ps,k _ _ aP e,q⟩
  ·exact (B.cells i c b e1 e2).mono (fun _ _ e=>e) tup fun o e=>k b o (fun z=>ha (z ▸ List.mem_of_getElem? e2)) e
  ·obtain ⟨L,o,es,n,p,q,r,t,u⟩:=(B.fr env he).at_
   exact ⟨L,o,es,n,p,q,r,k L o (fun z=>hf env he (by rw [p,z])) t,u⟩
 obtain ⟨m,hm,hv⟩:=I.ns
 refine ⟨J.tail,⟨fun b o e=>?_,fun b o e n1 n2 n3=>k b o (fun z=>by rw [z,hn] at e;cases e) (I.kp.keep b o e n1 n2 n3),fun env he L hL o e=>?_⟩,I.pre,I.base,I.basP,I.lo,I.lth,I.lf,I.lk,⟨m,ns_slots hm fun o e=>⟨o.slots,k _ _ (fun z=>hf _ (.head _) (by rw [←z])) e⟩,fun x d e=>?_⟩,fun x d e=>?_⟩
 ·by_cases q:b = a
  ·rw [q,hn] at e;cases e
  ·obtain ⟨o',e'⟩:=I.kp.dom b o e
   exact ⟨o',k b o' q e'⟩
 ·obtain ⟨sl,e1⟩:=I.kp.frames env he L hL o e
  exact ⟨sl,k L _ (fun z=>hf env (.tail _ he) (by rw [hL,z])) e1⟩
 ·obtain ⟨v,e1,e2⟩:=hv x d e
  exact ⟨v,e1,e2.mono (fun _ _ e=>e) tup⟩
 ·obtain ⟨c,v,e1,⟨oc,e2,e3⟩,e4,n1,n2,n3,n4⟩:=I.cl x d e
  refine ⟨c,v,e1,⟨oc,k c oc (fun z=>?_) e2,e3⟩,e4.mono (fun _ _ e=>e) tup,n1,n2,n3,n4⟩
  subst z
  rw [ho] at e2;cases e2
  exact hd _ e3
theorem Kp.junk {a:Addr} (K:Kp C th fs h h') (hn:h.get? a = none) (hf:∀env ∈ fs,env.frame ≠ some a) (k:∀b o,b ≠ a → h'.get? b = some o → h''.get? b = some o):Kp C th fs h h'':=by
 have ne:∀b o,h.get? b = some o → b ≠ a:=fun b o e q=>by rw [q,hn] at e;cases e
 refine ⟨fun b o e=>?_,fun b o e n1 n2 n3=>k b o (ne b o e) (K.keep b o e n1 n2 n3),fun env he L hL o e=>?_⟩
 ·obtain ⟨o',e'⟩:=K.dom b o e
  exact ⟨o',k b o' (ne b o e) e'⟩
 ·obtain ⟨sl,e'⟩:=K.frames env he L hL o e
  exact ⟨sl,k L _ (ne L o e) e'⟩
theorem Ns_data {a:Addr} {m:Str → Option Value} (n:h.Ns a m):∃ob,h.get? a = some ob ∧ (∀vs n,ob.data ≠ .seq vs n) ∧ (∀v,ob.data ≠ .cell v):=by
 obtain ⟨o,es,ep,ho,hd,_⟩:=n
 exact ⟨o,ho,fun vs n q=>(by rw [hd] at q;cases q),fun v q=>(by rw [hd] at q;cases q)⟩
theorem junk_rep {a:Addr} {m:Str → Option Value} {v:Value} (n:h.Ns a m) (k:∀b o,b ≠ a → h.get? b = some o → h'.get? b = some o) (r:Rep th h d v):Rep th h' d v:=r.mono (fun _ _ e=>e) fun b vs ht=>by
 obtain ⟨o,n',ho,hc,hd⟩:=ht
 refine ⟨o,n',k b o (fun q=>?_) ho,hc,hd⟩
 obtain ⟨ob,h1,h2,_⟩:=Ns_data n
 rw [q,h1] at ho;cases ho
 exact h2 _ _ hd
theorem comp_go {f x:Str} {iter:Expr} {fv:Value} {p1 p2 p3 px pos:Pos} {scope:Scope} {src:Nat} {ds rs:List D} {A:Around} {s:Shared} {Q E:Value → Shared → Prop} {Ia:Addr}
  (hs:sg1[src]? = some (.list ds)) (hlen:rs.length = ds.length) (hz:ds.length ≤ 1000)
  (hcell:∀y ∈ scope.names,y.2 ≠ .cell) (hkind:scope.kind = .function) (hx:scope.names.lookup x = some .local) (hf:scope.names.lookup f = some .globalImplicit)
  (hfx:(x == ("__debug__":Str)) = false) (hff:(f == ("__debug__":Str)) = false) (hg:nsIn C.K mainGlobals f = some (some fv)) (hkf:keepIn C.K fv = true)
  (hcall:∀(j:Nat) (d r:D),ds[j]? = some d → rs[j]? = some r → CallOk C k fv [d] (sg1 ++ [.liter src (j + 1),.list (rs.take j)]) (some r) (sg1 ++ [.liter src (j + 1),.list (rs.take j)]))
  (a:AOk A k (fi.env :: outer)) (J:InF C fi outer h₀ th₀ th (sg1 ++ [.liter src 0]) ro s.heap) (hI:th[sg1.length]? = some Ia)
  (post:∀D h' tk,s.heap.get? D = none → InF C fi outer h₀ th₀ (th ++ [D]) (sg1 ++ [.dead,.list rs]) ro h' → Kp C th (fi.env :: outer) s.heap h' → Q (.ref D) { s with heap:=h',toks:=tk }):
  wpAny (model C.prog C.w) A (newList []) (fun acc s₃=>wpAny (model C.prog C.w) A (newFunctionEnv scope fi.env.globals [] [] fi.env.qual none .none (some fi.env)) (fun cenv s₄=>
    codeAny (model C.prog C.w) A (.compStart (.ListComp (.Call (.Name f p1) [.Name x p2] [] p3) (⟨.Name x px,iter,[],0⟩ :: []) scope pos) 0 (.ref Ia) acc { cenv with scope:=scope })
     (fun r s'=>∃m,s'.heap.Ns cenv.locals m ∧ ∀h',Heap.SameBut cenv.locals s'.heap h' →
      match r with | .ok _=>Q acc { s' with heap:=h' } | .error x=>wpAny (model C.prog C.w) A (passOn "comprehension.variables-let-go" x { cenv with scope:=scope }) Q E { s' with heap:=h' }) s₄) E s₃) E s:=by
 refine wpAny_newObj_type (wpAny_newFunctionEnv hcell (by intro y hy;simp at hy) (fun h3 hns hsb=>?_) hkind)
 dsimp only at hns hsb ⊢
 have J2:=J.grow (a:=s.heap.objs.size) (h':=s.heap.push { cls:=.type "list",dict:=none,data:=.seq ([]:List Value).toArray }) (c:=.list []) new_none push_ext ⟨[],0,Heap.get?_push_size _ rfl,rfl⟩
 have nD:s.heap.get? s.heap.objs.size = none:=new_none
 have up2:∀b o,s.heap.get? b = some o → (s.heap.push { cls:=.type "list",dict:=none,data:=.seq ([]:List Value).toArray }).get? b = some o:=push_ext
 have len:=J.hi.len
 generalize hD:s.heap.objs.size = D at *
 generalize hH2:s.heap.push { cls:=.type "list",dict:=none,data:=.seq ([]:List Value).toArray } = H2 at *
 have nLc:H2.get? H2.objs.size = none:=new_none
 have e2:sg1 ++ [.liter src 0] ++ [.list []] = sg1 ++ [Cell.liter src 0,.list (rs.take 0)]:=by simp
 rw [e2] at J2
 have hI2:(th ++ [D])[sg1.length]? = some Ia:=get_app hI
 have hD2:(th ++ [D])[sg1.length + 1]? = some D:=by
  simp only [List.length_append,List.length_cons,List.length_nil] at len
  rw [←len];simp
 have fr:∀env ∈ fi.env :: outer,env.frame ≠ some H2.objs.size:=fun env he q=>by
  obtain ⟨L,o,es,n,p,_,_,e,_⟩:=(J2.below.fr env he).at_
  rw [q] at p;cases p
  rw [nLc] at e;cases e
 have nth:H2.objs.size ∉ th ++ [D]:=fun m=>by
  obtain ⟨_,_,_,_,x⟩:=J2.below.cellAt m
  obtain ⟨o,e,_⟩:=x.get
  rw [nLc] at e;cases e
 have n0:h₀.get? H2.objs.size = none:=J2.kp.fresh nLc
 have ns0:s.heap.get? H2.objs.size = none:=by
  cases e:s.heap.get? H2.objs.size with
  | none=>rfl
  | some o=>rw [up2 _ o e] at nLc;cases nLc
 have nP:H2.objs.size ≠ C.P:=fun q=>J2.basP (q ▸ n0)
 have hnD:∀b ∈ [D],s.heap.get? b = none:=fun b m=>by rw [List.mem_singleton] at m;subst m;exact nD
 have J3:=(J2.push _).junk nth n0 (Heap.get?_push_size _ rfl) (by intro vs n q;cases q) (by intro v q;cases q) fr (fun b o nb e=>(hsb.2 b nb).trans e) (let ⟨ob,e,_⟩:=Ns_data hns;⟨ob,e⟩)
 have K3:Kp C th (fi.env :: outer) s.heap h3:=(Kp.of_ext (fun b o e=>push_ext b o (up2 b o e))).junk ns0 fr (fun b o nb e=>(hsb.2 b nb).trans e)
 generalize H2.objs.size = Lc at *
 have key:∀(hh:Heap) (tk:Tok) (m:Str → Option Value),InF C fi outer h₀ th₀ (th ++ [D]) (sg1 ++ [.liter src 0,.list (rs.take 0)]) ro hh → Kp C th (fi.env :: outer) s.heap hh → hh.Ns Lc m →
   codeAny (model C.prog C.w) A (.compLoop (.ListComp (.Call (.Name f p1) [.Name x p2] [] p3) [⟨.Name x px,iter,[],0⟩] scope pos) 0 (.ref Ia) (.ref D) { newEnv scope Lc fi.env.globals [] fi.env.qual none .none (some fi.env) fi.env.builtins with scope:=scope })
    (fun r s'=>∃m,s'.heap.Ns Lc m ∧ ∀h',Heap.SameBut Lc s'.heap h' → match r with | .ok _=>Q (.ref D) { s' with heap:=h' } | .error x=>wpAny (model C.prog C.w) A (passOn "comprehension.variables-let-go" x { newEnv scope Lc fi.env.globals [] fi.env.qual none .none (some fi.env) fi.env.builtins with scope:=scope }) Q E { s' with heap:=h' }) { s with heap:=hh,toks:=tk }:=by
  intro hh tk m JJ KK hm
  refine codeAny_compLoop_list (fun n s'=>∃(i:Nat) (hh:Heap) (tk:Tok) (m:Str → Option Value),n = ds.length + 1 - i ∧ i ≤ ds.length ∧ s' = { s with heap:=hh,toks:=tk } ∧ InF C fi outer h₀ th₀ (th ++ [D]) (sg1 ++ [.liter src i,.list (rs.take i)]) ro hh ∧ Kp C th (fi.env :: outer) s.heap hh ∧ hh.Ns Lc m) ?_ (ds.length + 1) ⟨0,hh,tk,m,rfl,Nat.zero_le _,rfl,JJ,KK,hm⟩
  rintro n s' ⟨i,hh,tk,m,rfl,hi,rfl,J,K,hm⟩
  obtain ⟨la,hla,hit⟩:=J.hi.cells sg1.length (.liter src i) Ia (getR (i:=0) rfl) hI2
  obtain ⟨vs,nn,hL0,hR⟩:=J.hi.cells src (.list ds) la (get_app hs) hla
  have hL:hh.IsList la vs.toArray:=⟨_,hL0,rfl,nn,rfl⟩
  have hIm:Ia ∈ th ++ [D]:=List.mem_of_getElem? hI2
  have IaL:Lc ≠ Ia:=fun q=>nth (q ▸ hIm)
  by_cases hlt:i < ds.length
  ·obtain ⟨d,hd⟩:∃d,ds[i]? = some d:=⟨_,List.getElem?_eq_getElem hlt⟩
   obtain ⟨r,hr⟩:∃r,rs[i]? = some r:=⟨_,List.getElem?_eq_getElem (by omega)⟩
   obtain ⟨v,hv,rv⟩:=hR.get hd
   refine wpAny_pyNext_list_item hit hL (x:=v) (by simpa using hv) fun h1 hit1 hsb1=>?_
   have k1:∀b o,b ≠ Ia → hh.get? b = some o → h1.get? b = some o:=fun b o nb e=>(hsb1.2 b nb).trans e
   have J1:=J.turn hI2 k1 (c:=.liter src (i + 1)) ⟨la,hla,hit1⟩
   rw [setR (n:=sg1.length) (i:=0) rfl] at J1
   simp only [List.set_cons_zero] at J1
   have r1:=J.hi.rep hIm k1 rv
   have K1:Kp C th (fi.env :: outer) s.heap h1:=K.trans hnD (Kp.turn hIm J.below k1 (let ⟨o,e,_⟩:=hit1;⟨o,e⟩))
   have hm1:h1.Ns Lc m:=hm.at' fun o e=>k1 Lc o IaL e
   refine wpAny_assign_Name (wpAny_storeName_local (env:={ newEnv scope Lc fi.env.globals [] fi.env.qual none .none (some fi.env) fi.env.builtins with scope:=scope }) hx hm1 (fun h2 hn2 hs2=>?_) (by show (scope.kind == .class || (scope.kind == .module && _)) = false;rw [hkind];rfl))
   have k2:∀b o,b ≠ Lc → h1.get? b = some o → h2.get? b = some o:=fun b o nb e=>(hs2.2 b nb).trans e
   obtain ⟨ob,ho1,hc1,hd1⟩:=Ns_data hm1
   have J2':=J1.junk nth n0 ho1 hc1 hd1 fr k2 (let ⟨ob,e,_⟩:=Ns_data hn2;⟨ob,e⟩)
   have r2:=junk_rep hm1 k2 r1
   have K2:=K1.junk ns0 fr k2
   rw [eval_call rfl]
   refine wpAny_bind (Name_function_global (env:={ newEnv scope Lc fi.env.globals [] fi.env.qual none .none (some fi.env) fi.env.builtins with scope:=scope }) hkind hf (loadGlobal_global (J2'.hi.g C.G) (mg_of C.KH C.G hg) ?_) hff)
   refine callWith_of (by rw [star_any (es:=[.Name x p2]) rfl];rfl) (keeps_K hkf) (evalArgs_uni rfl ?_)
   rw [starEach_plain rfl]
   refine Calls.spliced_cons (wpAny_Name (wpAny_loadName_local (env:={ newEnv scope Lc fi.env.globals [] fi.env.qual none .none (some fi.env) fi.env.builtins with scope:=scope }) hkind hx hn2 (if_pos rfl) ?_) hfx)
   refine Calls.spliced_nil ⟨J2'.hi.K,?_⟩
   refine hcall i d r hd hr A _ (th ++ [D]) _ _ _ _ a J2'.below ⟨v,[],rfl,r2,rfl⟩ fun v3 h3' tk3 tl3 I3 K3' n3 r3=>?_
   have e3:tl3 = []:=by
    have a1:=I3.len
    have a2:=J2'.hi.len
    rw [List.length_append,a2] at a1
    exact List.eq_nil_of_length_eq_zero (by omega)
   subst e3
   rw [List.append_nil] at I3 r3
   have J3':=J2'.step0 I3 K3'
   have hn3:=hn2.at' (h':=h3') fun o e=>K3'.keep Lc o e nth nP fr
   refine call_append (C:=C) (k:=k) (i:=sg1.length + 1) (l:=rs.take i) (getR (i:=1) rfl) (by rw [List.length_take];unfold sizeLine;omega) A _ (th ++ [D]) _ _ _ _ a J3'.below ⟨.ref D,[v3],rfl,⟨D,hD2,rfl⟩,v3,[],rfl,r3,rfl⟩ fun v4 h4 tk4 tl4 I4 K4 n4 r4=>?_
   have e4:tl4 = []:=by
    have a1:=I4.len
    have a2:=J3'.hi.len
    rw [List.length_append,a2,List.length_set] at a1
    exact List.eq_nil_of_length_eq_zero (by omega)
   subst e4
   rw [List.append_nil] at I4
   have J4:=J3'.step0 I4 K4
   rw [setR (n:=sg1.length + 1) (i:=1) rfl] at J4
   have e5:rs.take i ++ [r] = rs.take (i + 1):=by rw [List.take_add_one,hr];rfl
   simp only [List.set_cons_succ,List.set_cons_zero,e5] at J4
   exact ⟨ds.length + 1 - (i + 1),by omega,i + 1,h4,tk4,_,rfl,hlt,rfl,J4,(K2.trans hnD K3').trans hnD K4,hn3.at' (h':=h4) fun o e=>K4.keep Lc o e nth nP fr⟩
  ·have hie:i = ds.length:=by omega
   subst hie
   refine next_list_end a.hd hit hL (by simpa using hR.len ▸ Nat.le_refl _) fun h1 hE=>?_
   have J1:=J.turn hI2 (fun b o nb e=>hE.1 b o nb e) (c:=.dead) hE.2
   rw [setR (n:=sg1.length) (i:=0) rfl] at J1
   simp only [List.set_cons_zero] at J1
   rw [←hlen,List.take_length] at J1
   have hm1:h1.Ns Lc m:=hm.at' fun o e=>hE.1 Lc o IaL e
   have K1:Kp C th (fi.env :: outer) s.heap h1:=K.trans hnD (Kp.turn hIm J.below (fun b o nb e=>hE.1 b o nb e) (let ⟨o,e,_⟩:=hE.2;⟨o,e⟩))
   obtain ⟨ob,ho1,hc1,hd1⟩:=Ns_data hm1
   refine ⟨m,hm1,fun h5 hs5=>post D h5 _ nD (J1.junk2 nth n0 ho1 hc1 hd1 fr fun b o nb e=>(hs5.2 b nb).trans e) (K1.junk ns0 fr fun b o nb e=>(hs5.2 b nb).trans e)⟩
 obtain ⟨la,hla,hit⟩:=J3.hi.cells sg1.length (.liter src 0) Ia (getR (i:=0) rfl) hI2
 exact codeAny_compStart_list (key _ _ _ J3 K3 hns) (wpAny_pyIter_listiter (it:=Ia) (l:=la) (i:=0) hit (key _ _ _ J3 K3 hns))
theorem TE.comp {f x:Str} {iter:Expr} {fv:Value} {p1 p2 p3 px pos:Pos} {scope:Scope} {src:Nat} {ds rs:List D}
  (h1:TE C fi k iter ro sg (some (.obj src)) sg1) (hs:sg1[src]? = some (.list ds)) (hlen:rs.length = ds.length) (hz:ds.length ≤ 1000)
  (hfree:∀y ∈ scope.names,y.2 ≠ .free) (hcell:∀y ∈ scope.names,y.2 ≠ .cell) (hkind:scope.kind = .function) (hnames:∀y ∈ scope.names,y.2 = .local → scope.names.lookup y.1 = some .local) (hx:scope.names.lookup x = some .local) (hf:scope.names.lookup f = some .globalImplicit)
  (hfx:(x == ("__debug__":Str)) = false) (hff:(f == ("__debug__":Str)) = false) (hg:nsIn C.K mainGlobals f = some (some fv)) (hkf:keepIn C.K fv = true) (hfold:∀z,foldedSetIterable iter fi.env z = pure z)
  (hcall:∀(j:Nat) (d r:D),ds[j]? = some d → rs[j]? = some r → CallOk C k fv [d] (sg1 ++ [.liter src (j + 1),.list (rs.take j)]) (some r) (sg1 ++ [.liter src (j + 1),.list (rs.take j)])):
  TE C fi k (.ListComp (.Call (.Name f p1) [.Name x p2] [] p3) [⟨.Name x px,iter,[],0⟩] scope pos) ro sg (some (.obj (sg1.length + 1))) (sg1 ++ [.dead,.list rs]):=by
 intro A outer h₀ th₀ th s Q E a I post
 refine wpAny_ListComp hfree hkind hnames (h1 _ _ _ _ _ _ _ _ a I fun v h' tk tl J kp n r=>?_) hfold
 simp only [Rep] at r
 obtain ⟨la,hla,rfl⟩:=r
 obtain ⟨vs,nn,hL0,hR⟩:=J.hi.cells src _ la hs hla
 have hL:h'.IsList la vs.toArray:=⟨_,hL0,rfl,nn,rfl⟩
 have len:=J.hi.len
 refine wpAny_pyIter_list (s:={ s with heap:=h',toks:=tk }) hL ?_
 refine comp_go (th:=th ++ tl ++ [h'.objs.size]) hs hlen hz hcell hkind hx hf hfx hff hg hkf hcall a
  (J.grow (a:=h'.objs.size) (c:=.liter src 0) new_none push_ext ⟨la,keep_at hla,_,Heap.get?_push_size _ rfl,rfl,rfl⟩) (by rw [←len];simp) fun D h5 tk5 nD J5 K5=>?_
 have nI:h'.get? h'.objs.size = none:=new_none
 have e1:th ++ tl ++ [h'.objs.size] ++ [D] = th ++ (tl ++ [h'.objs.size,D]):=by simp
 rw [e1] at J5
 have nDh:h'.get? D = none:=by
  cases e:h'.get? D with
  | none=>rfl
  | some o=>
   dsimp only at nD
   rw [Heap.get?_push_of_some _ e] at nD
   cases nD
 refine post _ h5 tk5 (tl ++ [h'.objs.size,D]) J5 ?_ (fun b m=>?_) ?_
 ·rw [List.append_assoc] at K5
  exact Kp.trans (tl:=tl ++ [h'.objs.size]) (fun b m=>by
   rcases List.mem_append.mp m with m | m
   ·exact n b m
   ·rw [List.mem_singleton] at m;subst m;exact kp.fresh nI) (kp.trans n (Kp.push _)) K5
 ·rcases List.mem_append.mp m with m | m
  ·exact n b m
  ·simp only [List.mem_cons,List.not_mem_nil,or_false] at m
   rcases m with rfl | rfl
   ·exact kp.fresh nI
   ·exact kp.fresh nDh
 ·simp only [Rep]
  refine ⟨D,?_,rfl⟩
  rw [List.length_append] at len
  rw [←List.append_assoc,List.getElem?_append_right (by rw [List.length_append];omega)]
  have:sg1.length + 1 - (th ++ tl).length = 1:=by rw [List.length_append];omega
  rw [this];rfl
end
noncomputable def Ex.py:Ex → PyData
 | .bin o l r=>.tuple [.str o.w.str,l.py,r.py]
 | .neg e=>.tuple [.str "neg",e.py]
 | .ref n=>.tuple [.str "ref",.str n.str,.tuple [],.tuple [],.none]
 | .num u s=>.tuple [.str "number",.tuple [.int u,.int s]]
theorem py_D:∀{x:Ex},x.toD.py = some x.py
 | .bin o l r=>by simp [Ex.toD,Ex.py,D.py,D.pys,py_D (x:=l),py_D (x:=r)]
 | .neg e=>by simp [Ex.toD,Ex.py,D.py,D.pys,py_D (x:=e)]
 | .ref n=>rfl
 | .num u s=>rfl
theorem w_lay (w:W):(PyData.str w.str).canLay0 = true:=by cases w <;> decide +kernel
theorem lay_D:∀{x:Ex},x.py.canLay0 = true
 | .bin o l r=>by
  have h:=w_lay o.w
  simp only [PyData.canLay0] at h
  simp [Ex.py,PyData.canLay0,PyData.canLayAll0,lay_D (x:=l),lay_D (x:=r),h]
 | .neg e=>by
  have h:(PyData.str "neg").canLay0 = true:=by decide +kernel
  simp only [PyData.canLay0] at h
  simp [Ex.py,PyData.canLay0,PyData.canLayAll0,lay_D (x:=e),h]
 | .ref n=>by
  have h:=w_lay n
  have h2:(PyData.str "ref").canLay0 = true:=by decide +kernel
  simp only [PyData.canLay0] at h h2
  simp [Ex.py,PyData.canLay0,PyData.canLayAll0,h,h2]
 | .num u s=>by
  have h2:(PyData.str "number").canLay0 = true:=by decide +kernel
  simp only [PyData.canLay0] at h2
  simp [Ex.py,PyData.canLay0,PyData.canLayAll0,h2]
theorem depth_D:∀{x:Ex},x.py.depth ≤ x.hgt + 1
 | .bin o l r=>by
  have a:=depth_D (x:=l)
  have b:=depth_D (x:=r)
  simp only [Ex.py,PyData.depth,PyData.depthAll,Ex.hgt]
  omega
 | .neg e=>by
  have a:=depth_D (x:=e)
  simp only [Ex.py,PyData.depth,PyData.depthAll,Ex.hgt]
  omega
 | .ref n=>by simp [Ex.py,PyData.depth,PyData.depthAll,Ex.hgt]
 | .num u s=>by simp [Ex.py,PyData.depth,PyData.depthAll,Ex.hgt]
theorem str_inj:∀a b:W,(a.str == b.str) = true → a = b:=by
 intro a b
 cases a <;> cases b <;> first | (intro _;rfl) | (intro h;exact absurd h (by decide +kernel))
theorem op_inj:∀a b:Op,(a.w.str == b.w.str) = true → a = b:=by
 intro a b
 cases a <;> cases b <;> first | (intro _;rfl) | (intro h;exact absurd h (by decide +kernel))
theorem eqvAll_len:∀{xs ys:List PyData},PyData.eqvAll xs ys = true → xs.length = ys.length
 | [],[],_=>rfl
 | [],_ :: _,h=>by cases h
 | _ :: _,[],h=>by cases h
 | x :: xs,y :: ys,h=>by
  have h:(PyData.eqv x y && PyData.eqvAll xs ys) = true:=h
  rw [Bool.and_eq_true] at h
  simp only [List.length_cons]
  rw [eqvAll_len h.2]
theorem eqvAll_cons {x y:PyData} {xs ys:List PyData} (h:PyData.eqvAll (x :: xs) (y :: ys) = true):PyData.eqv x y = true ∧ PyData.eqvAll xs ys = true:=by
 have h:(PyData.eqv x y && PyData.eqvAll xs ys) = true:=h
 rwa [Bool.and_eq_true] at h
theorem eqvAll_hd {x y:PyData} {xs ys:List PyData} (h:PyData.eqvAll (x :: xs) (y :: ys) = true):PyData.eqv x y = true:=(eqvAll_cons h).1
theorem eqv_D' (x:Ex):∀z:Ex,x.py.eqv z.py = true → x = z:=by
 induction x with
 | bin o l r ihl ihr=>
  intro z h
  cases z with
  | bin o' l' r'=>
   obtain ⟨h1,h⟩:=eqvAll_cons h
   obtain ⟨h2,h⟩:=eqvAll_cons h
   obtain ⟨h3,_⟩:=eqvAll_cons h
   rw [op_inj _ _ h1,ihl _ h2,ihr _ h3]
  | neg _=>exact absurd (eqvAll_len h) (by simp)
  | ref _=>exact absurd (eqvAll_len h) (by simp)
  | num _ _=>exact absurd (eqvAll_len h) (by simp)
 | neg e ih=>
  intro z h
  cases z with
  | bin _ _ _=>exact absurd (eqvAll_len h) (by simp)
  | neg e'=>
   obtain ⟨_,h⟩:=eqvAll_cons h
   rw [ih _ (eqvAll_cons h).1]
  | ref _=>exact absurd (eqvAll_len h) (by simp)
  | num _ _=>
   exact absurd (eqvAll_hd h) (by decide +kernel)
 | ref n=>
  intro z h
  cases z with
  | bin _ _ _=>exact absurd (eqvAll_len h) (by simp)
  | neg _=>exact absurd (eqvAll_len h) (by simp)
  | ref n'=>
   obtain ⟨_,h⟩:=eqvAll_cons h
   rw [str_inj _ _ (eqvAll_cons h).1]
  | num _ _=>exact absurd (eqvAll_len h) (by simp)
 | num u s=>
  intro z h
  cases z with
  | bin _ _ _=>exact absurd (eqvAll_len h) (by simp)
  | neg _=>
   exact absurd (eqvAll_hd h) (by decide +kernel)
  | ref _=>exact absurd (eqvAll_len h) (by simp)
  | num u' s'=>
   obtain ⟨_,h⟩:=eqvAll_cons h
   have h:=(eqvAll_cons h).1
   obtain ⟨h1,h⟩:=eqvAll_cons (show PyData.eqvAll [.int u,.int s] [.int u',.int s'] = true from h)
   have h2:=(eqvAll_cons h).1
   have e1:u = u':=beq_iff_eq.mp h1
   have e2:(s:Int) = s':=beq_iff_eq.mp h2
   rw [e1,Int.ofNat.inj e2]
theorem eqv_D {x z:Ex} (h:x.py.eqv z.py = true):x = z:=eqv_D' x z h
noncomputable def rpy:Option (Ex × List W) → PyData
 | some (x,[])=>x.py
 | _=>.none
theorem rpy_D {r:Option (Ex × List W)}:(resD r).py = some (rpy r) ∧ (rpy r).canLay0 = true:=by
 cases r with
 | none=>exact ⟨rfl,rfl⟩
 | some q=>
  obtain ⟨x,t⟩:=q
  cases t with
  | nil=>exact ⟨py_D,lay_D⟩
  | cons a t=>exact ⟨rfl,rfl⟩
theorem rpy_ne {r:Option (Ex × List W)} {x:Ex} (h:r ≠ some (x,[])):(rpy r).eqv x.py = false:=by
 rw [←Bool.not_eq_true]
 intro z
 cases r with
 | none=>cases x <;> cases z
 | some q=>
  obtain ⟨y,t⟩:=q
  cases t with
  | nil=>exact h (by rw [eqv_D z])
  | cons a t=>cases x <;> cases z
theorem eqv_self {x:Ex}:x.py.eqv x.py = true:=PySem.SeqAt.eqv_refl _ lay_D
noncomputable abbrev wD (ws:List W):List D:=ws.map fun w=>D.str w.str
theorem und_words {sg:List Cell} (u:Und sg) (ws:List W):Und (sg ++ [wordsC ws]):=und_app u (by
 intro c hc
 rw [List.mem_singleton] at hc
 subst hc
 show D.unders _ (ws.map fun w=>D.str w.str) = true
 induction ws with
 | nil=>rfl
 | cons a ws ih=>simp only [List.map_cons,D.unders,Bool.and_eq_true];exact ⟨rfl,by simpa using ih⟩)
theorem clip_nat {n a:Nat} (h:a ≤ n):clipAt n (a:Int) = a:=by
 have:=clipAt_cast n (a:Int)
 rw [if_neg (by omega)] at this
 omega
theorem cut_ab {ws:List W} {a b:Nat} (hb:b ≤ ws.length) (ha:a ≤ b):cutList (wD ws) (some (a:Int)) (some (b:Int)) = wD ((ws.drop a).take (b - a)):=by
 unfold cutList wD
 simp only [Option.elim,List.length_map]
 rw [clip_nat hb,clip_nat (by omega),List.map_take,List.map_drop]
theorem cut_0b {ws:List W} {b:Nat} (hb:b ≤ ws.length):cutList (wD ws) none (some (b:Int)) = wD (ws.take b):=by
 unfold cutList wD
 simp only [Option.elim,List.length_map]
 rw [clip_nat hb,List.map_take]
 rfl
theorem cut_a {ws:List W} {a:Nat} (ha:a ≤ ws.length):cutList (wD ws) (some (a:Int)) none = wD (ws.drop a):=by
 unfold cutList wD
 simp only [Option.elim,List.length_map]
 rw [clip_nat ha,List.map_drop,List.take_of_length_le (by rw [List.length_drop,List.length_map];omega)]
theorem cut_pr {l:List (Nat × Nat)}:∃l6:List (Nat × Nat),cutList (prD l) none (some 6) = prD l6 ∧ (∀q ∈ l6,q ∈ l) ∧ l6.length ≤ l.length:=by
 refine ⟨(l.drop 0).take (((some (6:Int)).elim (prD l).length (clipAt (prD l).length)) - 0),?_,fun q hq=>List.mem_of_mem_drop (List.mem_of_mem_take hq),?_⟩
 ·unfold cutList prD
  rw [List.map_take,List.map_drop]
  rfl
 ·rw [List.length_take,List.length_drop];omega
noncomputable def jkA (ws:List W) (q:Nat × Nat):List W:=ws.take q.1
noncomputable def jkB (ws:List W) (q:Nat × Nat):List W:=(ws.drop (q.1 + 1)).take (q.2 - (q.1 + 1))
noncomputable def jkC (ws:List W) (q:Nat × Nat):List W:=ws.drop (q.2 + 1)
noncomputable def jk (ws:List W) (q:Nat × Nat):List Cell:=[wordsC (jkA ws q),wordsC (jkB ws q),wordsC (jkA ws q ++ jkB ws q),wordsC (jkC ws q),wordsC (jkA ws q ++ (jkB ws q ++ jkC ws q))] ++ (if q.2 = q.1 + 2 then [wordsC [W.minus],.list [.str "-"]] else [])
theorem jk_at {A B C:List W}:jkA (A ++ W.lp :: (B ++ W.rp :: C)) (A.length,A.length + 1 + B.length) = A ∧ jkB (A ++ W.lp :: (B ++ W.rp :: C)) (A.length,A.length + 1 + B.length) = B ∧ jkC (A ++ W.lp :: (B ++ W.rp :: C)) (A.length,A.length + 1 + B.length) = C:=by
 refine ⟨by simp [jkA],?_,?_⟩
 ·have e:A ++ W.lp :: (B ++ W.rp :: C) = (A ++ [W.lp]) ++ (B ++ W.rp :: C):=by simp
  unfold jkB
  simp only
  rw [e,show A.length + 1 = (A ++ [W.lp]).length by simp,List.drop_left,Nat.add_sub_cancel_left,List.take_left]
 ·have e:A ++ W.lp :: (B ++ W.rp :: C) = (A ++ W.lp :: (B ++ [W.rp])) ++ C:=by simp
  unfold jkC
  simp only
  rw [e,show A.length + 1 + B.length + 1 = (A ++ W.lp :: (B ++ [W.rp])).length by simp;omega,List.drop_left]
theorem leaf_in:∀{x:Ex},x.good = true → ∃w,w ∈ showW x ∧ isW w = true
 | .bin o l r,h=>by
  simp only [Ex.good,Bool.and_eq_true] at h
  obtain ⟨w,hw,q⟩:=leaf_in h.1
  refine ⟨w,?_,q⟩
  simp only [showW,List.mem_append]
  left
  unfold brk
  split
  ·simp [hw]
  ·exact hw
 | .neg e,h=>by
  simp only [Ex.good] at h
  obtain ⟨w,hw,q⟩:=leaf_in h
  refine ⟨w,?_,q⟩
  simp only [showW,List.mem_cons]
  right
  split
  ·simp [hw]
  ·unfold brk
   split
   ·simp [hw]
   ·exact hw
 | .ref n,h=>⟨n,by simp [showW],by simp only [Ex.good] at h;simp [isW,h]⟩
 | .num u s,h=>by
  refine ⟨tokOf u.natAbs s,?_,by simp [isW,(tok_num h).1]⟩
  simp only [showW]
  split <;> simp
theorem cut_ne {x:Ex} {A B C:List W} (h:x.good = true) (e:showW x = A ++ W.lp :: (B ++ W.rp :: C)):0 < (A ++ (B ++ C)).length:=by
 obtain ⟨w,hw,q⟩:=leaf_in h
 rw [e] at hw
 simp only [List.mem_append,List.mem_cons] at hw
 have:w ∈ A ++ (B ++ C):=by
  simp only [List.mem_append]
  rcases hw with h | rfl | h | rfl | h
  ·exact .inl h
  ·cases q
  ·exact .inr (.inl h)
  ·cases q
  ·exact .inr (.inr h)
 exact List.length_pos_of_mem this
section
variable {C:Cx} {fi:FI} {k:Nat} {ro:List (Str × D)} {sg:List Cell} {n n1 n2 n3 n4 n5 n6 n7 n8:Nat} {p1 p2 p3 p4 p5 p6 p7 p8 p9 pos:Pos}
end
noncomputable def smalls:List Ex:=[.bin .pow (.neg (.ref .nA)) (.num 2 0),.neg (.bin .pow (.num 5 0) (.num 2 0)),.neg (.num 5 0),.bin .sub (.ref .nA) (.num (-5) 0),.bin .pow (.num (-5) 0) (.num 2 0)]
theorem smalls_ok:∀z ∈ smalls,z.good = true ∧ z.hgt ≤ 3 ∧ (itm z).length ≤ 100:=by
 intro z hz
 simp only [smalls,List.mem_cons,List.not_mem_nil,or_false] at hz
 rcases hz with rfl | rfl | rfl | rfl | rfl <;> decide +kernel
noncomputable abbrev smD:List D:=smalls.map Ex.toD
noncomputable abbrev rsD:List D:=smalls.map fun z=>.str (rnd (itm z))
noncomputable abbrev litS:List Str:=["(- A) ** 2","- 5 ** 2","- (5)","A - -5","(-5) ** 2"]
theorem rs_eq:((PyData.list (smalls.map fun z=>PyData.str (rnd (itm z)))).eqv (.list (litS.map PyData.str))) = true:=by decide +kernel
theorem rs_lay:(PyData.list (smalls.map fun z=>PyData.str (rnd (itm z)))).canLay0 = true ∧ (PyData.list (litS.map PyData.str)).canLay0 = true:=by decide +kernel
theorem sm_under {m:Nat}:∀{l:List Ex},D.unders m (l.map Ex.toD) = true
 | []=>rfl
 | x :: l=>by simp only [List.map_cons,D.unders,Bool.and_eq_true];exact ⟨under_D,sm_under⟩
theorem str_under {m:Nat}:∀{l:List Str},D.unders m (l.map D.str) = true
 | []=>rfl
 | x :: l=>by simp only [List.map_cons,D.unders,Bool.and_eq_true];exact ⟨rfl,str_under⟩
theorem jk_und {ws:List W} {q:Nat × Nat} {m:Nat}:(jk ws q).all (Cell.under m) = true:=by
 have h:∀l:List W,Cell.under m (wordsC l) = true:=fun l=>by
  show D.unders m (l.map fun w=>D.str w.str) = true
  induction l with
  | nil=>rfl
  | cons a l ih=>simp only [List.map_cons,D.unders,Bool.and_eq_true];exact ⟨rfl,ih⟩
 unfold jk
 rw [List.all_append]
 simp only [List.all_cons,List.all_nil,h,Bool.and_true]
 split
 ·simp only [List.all_cons,List.all_nil,h,Bool.and_true];rfl
 ·rfl
section
variable {C:Cx} {fi:FI} {k:Nat} {ro:List (Str × D)} {sg:List Cell} {d1 d2 d3:D} {n1 n2 n3 n4 n5:Nat} {p1 p2 p3 p4 p5 pos:Pos} {l1 l2 l3:List Expr}
theorem TE.list3 (h1:TE C fi k (.Tuple l1 n1 p1) ro sg (some d1) sg) (h2:TE C fi k (.Tuple l2 n2 p2) ro sg (some d2) sg) (h3:TE C fi k (.Tuple l3 n3 p3) ro sg (some d3) sg):TE C fi k (.List [.Tuple l1 n1 p1,.Tuple l2 n2 p2,.Tuple l3 n3 p3] pos) ro sg (some (.obj sg.length)) (sg ++ [.list [d1,d2,d3]]):=
 TE.list (TEs.cons rfl h1 (TEs.cons rfl h2 (TEs.cons rfl h3 TEs.nil))) (Nat.le_of_ble_eq_true rfl)
theorem TE.list2 (h1:TE C fi k (.Tuple l1 n1 p1) ro sg (some d1) sg) (h2:TE C fi k (.Tuple l2 n2 p2) ro sg (some d2) sg):TE C fi k (.List [.Tuple l1 n1 p1,.Tuple l2 n2 p2] pos) ro sg (some (.obj sg.length)) (sg ++ [.list [d1,d2]]):=
 TE.list (TEs.cons rfl h1 (TEs.cons rfl h2 TEs.nil)) (Nat.le_of_ble_eq_true rfl)
theorem TE.list5s {a b c d e:Str}:TE C fi k (.List [.Constant (.str a) n1 p1,.Constant (.str b) n2 p2,.Constant (.str c) n3 p3,.Constant (.str d) n4 p4,.Constant (.str e) n5 p5] pos) ro sg (some (.obj sg.length)) (sg ++ [.list [.str a,.str b,.str c,.str d,.str e]]):=
 TE.list (TEs.cons rfl TE.cstr (TEs.cons rfl TE.cstr (TEs.cons rfl TE.cstr (TEs.cons rfl TE.cstr (TEs.cons rfl TE.cstr TEs.nil))))) (Nat.le_of_ble_eq_true rfl)
theorem TE.list1s {a:Str}:TE C fi k (.List [.Constant (.str a) n1 p1] pos) ro sg (some (.obj sg.length)) (sg ++ [.list [.str a]]):=
 TE.list (TEs.cons rfl TE.cstr TEs.nil) (Nat.le_of_ble_eq_true rfl)
end
section
variable {C:Cx} {fi:FI} {k:Nat} {ro ro2:List (Str × D)} {sg sg1 sg':List Cell} {d:D} {o:Out}
theorem TS.setList {x:Str} {es:List Expr} {lp pos pos':Pos} {rest:List Stmt} (h:TE C fi k (.List es lp) ro sg (some d) sg1) (hk:fi.scope.names.lookup x = some .local) (h2:TS C fi k rest (put x d ro) sg1 o ro2 sg'):TS C fi k (.Assign [.Name x pos'] (.List es lp) pos :: rest) ro sg o ro2 sg':=TS.set h hk rfl h2
theorem TS.setNL {x z:Str} {es:List Expr} {lp bp np pos pos':Pos} {rest:List Stmt} (h:TE C fi k (.BinOp (.Name z np) .Add (.List es lp) bp) ro sg (some d) sg1) (hk:fi.scope.names.lookup x = some .local) (hs:swapsWith (.BinOp (.Name z np) .Add (.List es lp) bp) (some (.Name x pos')) pos.line fi.env = pure false) (h2:TS C fi k rest (put x d ro) sg1 o ro2 sg'):TS C fi k (.Assign [.Name x pos'] (.BinOp (.Name z np) .Add (.List es lp) bp) pos :: rest) ro sg o ro2 sg':=TS.set h hk hs h2
end
noncomputable abbrev dA:D:=.tup [.str "ref",.str "A",.tup [],.tup [],.none]
noncomputable abbrev d2:D:=.tup [.str "number",.tup [.int 2,.int 0]]
noncomputable abbrev d5:D:=.tup [.str "number",.tup [.int 5,.int 0]]
noncomputable abbrev dm5:D:=.tup [.str "number",.tup [.int (-5),.int 0]]
noncomputable abbrev smL3:List D:=[.tup [.str "**",.tup [.str "neg",dA],d2],.tup [.str "neg",.tup [.str "**",d5,d2]],.tup [.str "neg",d5]]
noncomputable abbrev smL2:List D:=[.tup [.str "-",dA,dm5],.tup [.str "**",dm5,d2]]
theorem sm_3:smD.take 3 = smL3:=rfl
theorem sm_2:smD.drop 3 = smL2:=rfl
section
variable {C:Cx} {fi:FI} {k:Nat} {ro:List (Str × D)} {sg:List Cell} {d e:D} {n n1 n2 n3 n4 n5:Nat} {p1 p2 p3 p4 p5 pos:Pos} {a b:Str} {u c:Int} {l1 l2:List Expr}
theorem TE.mRef:TE C fi k (.Tuple [.Constant (.str a) n1 p1,.Constant (.str b) n2 p2,.Tuple [] n3 p3,.Tuple [] n4 p4,.Constant .none n5 p5] n pos) ro sg (some (.tup [.str a,.str b,.tup [],.tup [],.none])) sg:=
 TE.tup (TEs.cons rfl TE.cstr (TEs.cons rfl TE.cstr (TEs.cons rfl (TE.tup TEs.nil (Nat.zero_le _)) (TEs.cons rfl (TE.tup TEs.nil (Nat.zero_le _)) (TEs.cons rfl TE.cnone TEs.nil))))) (Nat.le_of_ble_eq_true rfl)
theorem TE.mNum:TE C fi k (.Tuple [.Constant (.str a) n1 p1,.Tuple [.Constant (.int u) n2 p2,.Constant (.int c) n3 p3] n4 p4] n pos) ro sg (some (.tup [.str a,.tup [.int u,.int c]])) sg:=TE.pair rfl TE.cstr TE.pairCC
theorem TE.mNumM:TE C fi k (.Tuple [.Constant (.str a) n1 p1,.Tuple [.UnaryOp .USub (.Constant (.int u) n2 p2) p5,.Constant (.int c) n3 p3] n4 p4] n pos) ro sg (some (.tup [.str a,.tup [.int (-u),.int c]])) sg:=TE.pair rfl TE.cstr TE.pairUC
theorem TE.mNeg (h:TE C fi k (.Tuple l1 n2 p2) ro sg (some d) sg):TE C fi k (.Tuple [.Constant (.str a) n1 p1,.Tuple l1 n2 p2] n pos) ro sg (some (.tup [.str a,d])) sg:=TE.pair rfl TE.cstr h
theorem TE.mBin (h1:TE C fi k (.Tuple l1 n2 p2) ro sg (some d) sg) (h2:TE C fi k (.Tuple l2 n3 p3) ro sg (some e) sg):TE C fi k (.Tuple [.Constant (.str a) n1 p1,.Tuple l1 n2 p2,.Tuple l2 n3 p3] n pos) ro sg (some (.tup [.str a,d,e])) sg:=
 TE.tup (TEs.cons rfl TE.cstr (TEs.cons rfl h1 (TEs.cons rfl h2 TEs.nil))) (Nat.le_of_ble_eq_true rfl)
end
local macro_rules
 | `(tactic| walk_at "op")=>`(tactic| first | with_reducible exact op_add_int | with_reducible exact op_sub_int | with_reducible exact op_eq_int | fail "no op")
section
variable {y:Cy} {sg:List Cell} {k:Nat} {la:Addr} {ns:List Int}
theorem b_law (P:Params):Bnd (theK P) 588 ["script"] 1 []:=fun S=>len1 fun a=>by kernel_rfl
set_option maxHeartbeats 4000000 in
theorem law_ok (u:Und sg) (hs:Script y la ns) (hn:ns.length ≤ 1000):CodeOk y.cx 132 (.ref 588) [.val (.ref la)] sg (some (.bool true)) sg:=by
 obtain ⟨ns',w,hw0,hw1,hnl,hpen⟩:=pen_ok (y:=y) u hs hn
 have uC:∀(i:Nat) (g:Int),Und (sg ++ [.list (ns'.map .int),.list (ns'.map .int),.list (ns'.map .int),penC (sg.length + 1) i g w]):=fun i g=>und_app u (by
  intro c hc
  simp only [List.mem_cons,List.not_mem_nil,or_false] at hc
  rcases hc with rfl | rfl | rfl | rfl
  ·exact unders_int
  ·exact unders_int
  ·exact unders_int
  ·simp [Cell.under,D.unders,D.under])
 have HP:Pen (sg ++ [.list (ns'.map .int),.list (ns'.map .int),.list (ns'.map .int),penC (sg.length + 1) 0 0 w]) (sg.length + 3) (sg.length + 1) 0 0 w ns':=
  ⟨getR (i:=3) rfl,getR (i:=1) rfl,by omega,uC 0 0,hnl,by omega,hw0,hw1⟩
 obtain ⟨x,i',g',hxl,hxh,hi',hexpr⟩:=expr_ok (y:=y) 3 _ 0 0 HP (by decide)
 have eS2:(sg ++ [Cell.list (ns'.map .int),.list (ns'.map .int),.list (ns'.map .int),penC (sg.length + 1) 0 0 w]).set (sg.length + 3) (penC (sg.length + 1) i' g' w) = sg ++ [.list (ns'.map .int),.list (ns'.map .int),.list (ns'.map .int),penC (sg.length + 1) i' g' w]:=by
  rw [setR (i:=3) rfl];rfl
 rw [eS2] at hexpr
 have u2:=uC i' g'
 obtain ⟨S2,hS2⟩:∃S2,S2 = sg ++ [Cell.list (ns'.map .int),.list (ns'.map .int),.list (ns'.map .int),penC (sg.length + 1) i' g' w]:=⟨_,rfl⟩
 rw [←hS2] at hexpr u2
 have l2:S2.length = sg.length + 4:=by rw [hS2];simp
 have hxg:=lg_good hxl
 have hsz:=sz_hgt (x:=x) (n:=4) hxh
 have hil:=itm_sz (x:=x)
 have hfl:=full_sz (x:=x)
 simp only [show 12 * 2 ^ 4 = 192 from rfl] at hsz
 have hshow:Shw y 24 x:=show_all 4 x hxg hxh (by omega)
 have hwl:(showW x).length ≤ 1000:=by
  rw [←itm_words]
  have:=List.length_filterMap_le id (itm x)
  omega
 have hfwl:(fullW x).length ≤ 1000:=by
  rw [←fullI_words]
  have:=List.length_filterMap_le id (fullI x)
  omega
 have okS:=okI_itm hxg [] rfl rfl
 rw [List.append_nil] at okS
 have okF:=okI_full hxg [] rfl rfl
 rw [List.append_nil] at okF
 have hW1:=words_ok (y:=y) okS (by omega) u2
 rw [itm_words] at hW1
 have u3:=und_words u2 (showW x)
 obtain ⟨S3,hS3⟩:∃S3,S3 = S2 ++ [wordsC (showW x)]:=⟨_,rfl⟩
 rw [←hS3] at hW1 u3
 have g3:S3[sg.length + 4]? = some (wordsC (showW x)):=by rw [hS3,←l2];exact get_last
 have l3:S3.length = sg.length + 5:=by rw [hS3,List.length_append,l2];rfl
 obtain ⟨lw,lt,hle⟩:=leaf_in hxg
 have hne1:0 < (showW x).length:=List.length_pos_of_mem lt
 have hR1:=law_read_ok (y:=y) (shown_read hxg (by omega)) u3 g3 hne1 (by omega)
 have hF:=full_ok (y:=y) 4 x hxl hxh (by omega) S3 u3
 have hW2:=words_ok (y:=y) okF (by omega) u3
 rw [fullI_words] at hW2
 have u4:=und_words u3 (fullW x)
 obtain ⟨S4,hS4⟩:∃S4,S4 = S3 ++ [wordsC (fullW x)]:=⟨_,rfl⟩
 rw [←hS4] at hW2 u4
 have g4:S4[sg.length + 5]? = some (wordsC (fullW x)):=by rw [hS4,←l3];exact get_last
 have g4':S4[sg.length + 4]? = some (wordsC (showW x)):=by rw [hS4];exact get_app g3
 have l4:S4.length = sg.length + 6:=by rw [hS4,List.length_append,l3];rfl
 have hne2:0 < (fullW x).length:=by cases x <;> simp only [fullW] <;> (try split) <;> simp
 have hR2:=law_read_ok (y:=y) (full_read hxg (by omega)) u4 g4 hne2 (by omega)
 obtain ⟨l,hpl,hq⟩:=shown_pairs hxg
 obtain ⟨c1,c2,c3,u5,hPr⟩:=pairs_ok (y:=y) u4 g4' (by omega) hpl
 obtain ⟨S5,hS5⟩:∃S5,S5 = S4 ++ [c1,.list (prD l),c2,c3]:=⟨_,rfl⟩
 rw [←hS5] at hPr u5
 have l5:S5.length = sg.length + 10:=by rw [hS5,List.length_append,l4];rfl
 have g5:S5[sg.length + 7]? = some (.list (prD l)):=by rw [hS5];exact getR (i:=1) (by omega)
 have g5w:S5[sg.length + 4]? = some (wordsC (showW x)):=by rw [hS5];exact get_app g4'
 obtain ⟨l6,hc6,hm6,hl6⟩:=cut_pr (l:=l)
 have hll:l.length ≤ 100000:=by
  have:=(st_len (ws:=showW x) (showW x).length).2
  rw [st_end hpl] at this
  omega
 obtain ⟨S6,hS6⟩:∃S6,S6 = S5 ++ [Cell.list (prD l6)]:=⟨_,rfl⟩
 have l6':S6.length = sg.length + 11:=by rw [hS6,List.length_append,l5];rfl
 have g6:S6[sg.length + 10]? = some (.list (prD l6)):=by rw [hS6,←l5];exact get_last
 have g6w:S6[sg.length + 4]? = some (wordsC (showW x)):=by rw [hS6];exact get_app g5w
 have u6:Und S6:=by
  rw [hS6]
  exact und_app u5 (by intro c hc;rw [List.mem_singleton] at hc;subst hc;exact unders_prD)
 obtain ⟨S7,hS7⟩:∃S7,S7 = S6 ++ ([Cell.dead] ++ l6.flatMap (jk (showW x))):=⟨_,rfl⟩
 have u7:Und S7:=by
  rw [hS7]
  refine und_app u6 fun c hc=>?_
  rcases List.mem_append.mp hc with hc | hc
  ·rw [List.mem_singleton] at hc;subst hc;rfl
  ·obtain ⟨q,_,hq⟩:=List.mem_flatMap.mp hc
   exact List.all_eq_true.mp jk_und c hq
 have pre7:∃m,S7 = sg ++ m:=⟨[.list (ns'.map .int),.list (ns'.map .int),.list (ns'.map .int),penC (sg.length + 1) i' g' w] ++ ([wordsC (showW x)] ++ ([wordsC (fullW x)] ++ ([c1,.list (prD l),c2,c3] ++ ([Cell.list (prD l6)] ++ ([Cell.dead] ++ l6.flatMap (jk (showW x))))))),by
  rw [hS7,hS6,hS5,hS4,hS3,hS2];simp only [List.append_assoc]⟩
 obtain ⟨m7,hm7⟩:=pre7
 have usm:Und (S7 ++ [.list (smD.take 3),.list (smD.drop 3),.list smD]):=und_app u7 (by
  intro c hc
  simp only [List.mem_cons,List.not_mem_nil,or_false] at hc
  rcases hc with rfl | rfl | rfl
  ·rw [←List.map_take];exact sm_under
  ·rw [←List.map_drop];exact sm_under
  ·exact sm_under)
 refine CodeOk.fnL (k:=131) (o:=.ret (.bool true)) (ro:=[("script",.val (.ref la))]) (sg':=S7 ++ [.list (smD.take 3),.list (smD.drop 3),.list smD,.dead,.list rsD,.list (litS.map .str)]) (by rfl) (by rfl) (by rfl) rfl ex0 (b_law _) rfl (by rw [hm7,List.append_assoc];exact take_app) u rfl fun L=>?_
 refine TS.set (d:=.obj (sg.length + 3)) (sg1:=sg ++ [.list (ns'.map .int),.list (ns'.map .int),.list (ns'.map .int),penC (sg.length + 1) 0 0 w]) ?_ rfl rfl ?_
 ·(with_reducible apply TE.call');(·rfl);(·walk_at "glob");(·walk_at "tes");(·walk_at "keep");(·exact hpen.up (by omega))
 refine TS.set (d:=x.toD) (sg1:=S2) ?_ rfl rfl ?_
 ·(with_reducible apply TE.call');(·rfl);(·walk_at "glob");(·walk_at "tes");(·walk_at "keep");(·exact hexpr.up (by omega))
 refine TS.set (d:=.obj (sg.length + 4)) (sg1:=S3) ?_ rfl rfl ?_
 ·rw [←l2]
  refine TE.call' (v:=.ref 555) (ds:=[.str (rnd (itm x))]) (sg1:=S2) (sg2:=S2) rfl (t_law_words rfl) ?_ (k_law_words _) (hW1.up (by omega))
  refine TEs.cons (sg1:=S2) rfl ?_ TEs.nil
  (with_reducible apply TE.call');(·rfl);(·walk_at "glob");(·walk_at "tes");(·walk_at "keep");(·exact hshow.c u2 (by omega))
 refine TS.ifF (b:=false) (sg1:=S4) ?_ rfl ?_
 ·refine TB.orF (sg1:=S3) ?_ (TB.orF (sg1:=S4) ?_ TB.or0)
  ·apply TB.as
   ·apply TB.cmp (d1:=x.toD) (d2:=x.toD) (sg1:=S3)
    ·(with_reducible apply TE.call');(·rfl);(·walk_at "glob");(·walk_at "tes");(·walk_at "keep");(·exact hR1.up (by omega))
    ·exact TE.name rfl rfl rfl
    ·exact op_ne_deep py_D py_D lay_D lay_D (by have:=depth_D (x:=x);omega)
    ·rfl
   ·rw [eqv_self];rfl
  ·apply TB.as
   ·apply TB.cmp (d1:=x.toD) (d2:=x.toD) (sg1:=S4)
    ·refine TE.call' (v:=.ref 576) (ds:=[.obj (sg.length + 5)]) (sg1:=S3) (sg2:=S4) rfl (t_law_read rfl) ?_ (k_law_read _) (hR2.up (by omega))
     refine TEs.cons (sg1:=S4) rfl ?_ TEs.nil
     rw [←l3]
     refine TE.call' (v:=.ref 555) (ds:=[.str (rnd (fullI x))]) (sg1:=S3) (sg2:=S3) rfl (t_law_words rfl) ?_ (k_law_words _) (hW2.up (by omega))
     refine TEs.cons (sg1:=S3) rfl ?_ TEs.nil
     (with_reducible apply TE.call');(·rfl);(·walk_at "glob");(·walk_at "tes");(·walk_at "keep");(·exact hF.up (by omega))
    ·exact TE.name rfl rfl rfl
    ·exact op_ne_deep py_D py_D lay_D lay_D (by have:=depth_D (x:=x);omega)
    ·rfl
   ·rw [eqv_self];rfl
 refine TS.set (d:=.obj (sg.length + 7)) (sg1:=S5) ?_ rfl rfl ?_
 ·rw [show sg.length + 7 = S4.length + 1 by omega]
  refine TE.call' (v:=.ref 583) (ds:=[.obj (sg.length + 4)]) (sg1:=S4) (sg2:=S4) rfl (t_law_pairs rfl) (TEs.cons (sg1:=S4) rfl (TE.name rfl rfl rfl) TEs.nil) (k_law_pairs _) (hPr.up (by omega))
 refine TS.forN (src:=sg.length + 10) (l:=prD l6) (sg1:=S6) (ro2:=[("script",.val (.ref la)),("pen",.obj (sg.length + 3)),("expr",x.toD),("words",.obj (sg.length + 4)),("pairs",.obj (sg.length + 7))]) (sg2:=S7) ?_ g6 (fun _=>rfl) ?_ ?_
 ·rw [hS6,←hc6,←l5]
  exact TE.sliceList (TE.name rfl rfl rfl) TP.none (TP.some TE.cint) g5 (by rw [List.length_map];unfold sizeLine;omega) (fun _ _=>rfl)
 ·have eG0:S6 ++ [Cell.liter (sg.length + 10) 0] = S6 ++ ([Cell.liter (sg.length + 10) 0] ++ (l6.take 0).flatMap (jk (showW x))):=by simp
  rw [eG0]
  refine TF.count (n:=l6.length) (fun _=>[("script",.val (.ref la)),("pen",.obj (sg.length + 3)),("expr",x.toD),("words",.obj (sg.length + 4)),("pairs",.obj (sg.length + 7))]) (fun i=>S6 ++ ([Cell.liter (sg.length + 10) i] ++ (l6.take i).flatMap (jk (showW x)))) (fun i hi=>?_) ?_
  ·obtain ⟨q,hqi⟩:∃q,l6[i]? = some q:=⟨_,List.getElem?_eq_getElem hi⟩
   obtain ⟨A,B,Ck,e,hqe,okc,hnot,hone⟩:=hq q (hm6 q (List.mem_of_getElem? hqi))
   obtain ⟨T0,hT0⟩:∃T0,T0 = S6 ++ ([Cell.liter (sg.length + 10) (i + 1)] ++ (l6.take i).flatMap (jk (showW x))):=⟨_,rfl⟩
   have uT0:Und T0:=by
    rw [hT0]
    refine und_app u6 fun c hc=>?_
    rcases List.mem_append.mp hc with hc | hc
    ·rw [List.mem_singleton] at hc
     subst hc
     simp only [Cell.under,decide_eq_true_eq,List.length_append]
     omega
    ·obtain ⟨q,_,hq⟩:=List.mem_flatMap.mp hc
     exact List.all_eq_true.mp jk_und c hq
   have gT0:T0[sg.length + 4]? = some (wordsC (showW x)):=by rw [hT0];exact get_app g6w
   have eN:S6 ++ ([Cell.liter (sg.length + 10) (i + 1)] ++ (l6.take (i + 1)).flatMap (jk (showW x))) = T0 ++ jk (showW x) q:=by
    rw [hT0,List.take_add_one,hqi]
    simp
   refine ⟨.tup [.int q.1,.int q.2],_,T0,?_,TA.tup2 rfl rfl,?_⟩
   ·have e1:(S6 ++ ([Cell.liter (sg.length + 10) i] ++ (l6.take i).flatMap (jk (showW x)))).set S6.length (.liter (sg.length + 10) (i + 1)) = T0:=by
     rw [setR (n:=S6.length) (i:=0) rfl,hT0];rfl
    rw [←e1]
    exact TN.list (l:=prD l6) (getR (i:=0) rfl) (get_app g6) (by rw [List.getElem?_map,hqi];rfl)
   ·rw [eN]
    obtain ⟨jA,jB,jC⟩:=jk_at (A:=A) (B:=B) (C:=Ck)
    rw [←e,←hqe] at jA jB jC
    have hjk:jk (showW x) q = [wordsC A,wordsC B,wordsC (A ++ B),wordsC Ck,wordsC (A ++ (B ++ Ck))] ++ (if q.2 = q.1 + 2 then [wordsC [W.minus],.list [.str "-"]] else []):=by
     unfold jk;rw [jA,jB,jC]
    have hlen:(showW x).length = A.length + 1 + B.length + 1 + Ck.length:=by rw [e];simp;omega
    have q1:q.1 = A.length:=by rw [hqe]
    have q2:q.2 = A.length + 1 + B.length:=by rw [hqe]
    obtain ⟨r,hr,_⟩:=(tot _ _ (Nat.le_refl _) okc).sum 0
    have hrn:=hnot 0 r hr
    obtain ⟨T1,hT1⟩:∃T1,T1 = T0 ++ [wordsC A]:=⟨_,rfl⟩
    obtain ⟨T2,hT2⟩:∃T2,T2 = T1 ++ [wordsC B]:=⟨_,rfl⟩
    obtain ⟨T3,hT3⟩:∃T3,T3 = T2 ++ [wordsC (A ++ B)]:=⟨_,rfl⟩
    obtain ⟨T4,hT4⟩:∃T4,T4 = T3 ++ [wordsC Ck]:=⟨_,rfl⟩
    obtain ⟨T5,hT5⟩:∃T5,T5 = T4 ++ [wordsC (A ++ (B ++ Ck))]:=⟨_,rfl⟩
    have m1:T1.length = T0.length + 1:=by rw [hT1,List.length_append];rfl
    have m2:T2.length = T0.length + 2:=by rw [hT2,List.length_append,m1];rfl
    have m3:T3.length = T0.length + 3:=by rw [hT3,List.length_append,m2];rfl
    have m4:T4.length = T0.length + 4:=by rw [hT4,List.length_append,m3];rfl
    have m5:T5.length = T0.length + 5:=by rw [hT5,List.length_append,m4];rfl
    have gT1:T1[sg.length + 4]? = some (wordsC (showW x)):=by rw [hT1];exact get_app gT0
    have gT3:T3[sg.length + 4]? = some (wordsC (showW x)):=by rw [hT3,hT2];exact get_app (get_app gT1)
    have gT5:T5[sg.length + 4]? = some (wordsC (showW x)):=by rw [hT5,hT4];exact get_app (get_app gT3)
    have uT4:Und T4:=by rw [hT4,hT3,hT2,hT1];exact und_words (und_words (und_words (und_words uT0 _) _) _) _
    have uT5:Und T5:=by rw [hT5];exact und_words uT4 _
    have eT5:T5 = T0 ++ [wordsC A,wordsC B,wordsC (A ++ B),wordsC Ck,wordsC (A ++ (B ++ Ck))]:=by rw [hT5,hT4,hT3,hT2,hT1];simp
    have hRd:=law_read_ok (y:=y) hr uT5 (wi:=T0.length + 4) (by rw [hT5,←m4];exact get_last) (cut_ne hxg e) (by simp only [List.length_append];omega)
    have hzw:(wD (showW x)).length ≤ sizeLine:=by rw [List.length_map];unfold sizeLine;omega
    have k1:cutList (wD (showW x)) none (some (q.1:Int)) = wD A:=by rw [cut_0b (by omega)];congr 1
    have k2:cutList (wD (showW x)) (some ((q.1:Int) + 1)) (some (q.2:Int)) = wD B:=by
     rw [show (q.1:Int) + 1 = ((q.1 + 1:Nat):Int) by omega,cut_ab (by omega) (by omega)]
     congr 1
    have k3:cutList (wD (showW x)) (some ((q.2:Int) + 1)) none = wD Ck:=by
     rw [show (q.2:Int) + 1 = ((q.2 + 1:Nat):Int) by omega,cut_a (by omega)]
     congr 1
    apply TS.cutTo (ro2:=[("script",.val (.ref la)),("pen",.obj (sg.length + 3)),("expr",x.toD),("words",.obj (sg.length + 4)),("pairs",.obj (sg.length + 7)),("begin",.int q.1),("end",.int q.2)])
    ·refine TS.ifF (b:=false) (sg1:=T5) ?_ rfl (TS.ifF (b:=false) (sg1:=T0 ++ jk (showW x) q) ?_ rfl TS.nil)
     ·apply TB.as
      ·apply TB.cmp (d1:=resD r) (d2:=x.toD) (sg1:=T5)
       ·refine TE.call' (v:=.ref 576) (ds:=[.obj (T0.length + 4)]) (sg1:=T0) (sg2:=T5) rfl (t_law_read rfl) (TEs.cons (sg1:=T5) rfl ?_ TEs.nil) (k_law_read _) (hRd.up (by omega))
        refine TE.binopG (d1:=.obj (T0.length + 2)) (d2:=.obj (T0.length + 3)) (sg1:=T3) (sg2:=T4) ?_ ?_ ?_
        ·refine TE.binopG (d1:=.obj T0.length) (d2:=.obj (T0.length + 1)) (sg1:=T1) (sg2:=T2) ?_ ?_ ?_
         ·rw [hT1,show wordsC A = .list (wD A) from rfl,←k1]
          exact TE.sliceList (TE.name rfl rfl rfl) TP.none (TP.some (TE.name rfl rfl rfl)) gT0 hzw (fun _ _=>rfl)
         ·rw [hT2,show wordsC B = .list (wD B) from rfl,←k2,←m1]
          exact TE.sliceList (TE.name rfl rfl rfl) (TP.some (TE.binop (TE.name rfl rfl rfl) TE.cint op_add_int)) (TP.some (TE.name rfl rfl rfl)) gT1 hzw (fun _ _=>rfl)
         ·have a1:T2[T0.length]? = some (.list (wD A)):=by rw [hT2,hT1];exact get_app get_last
          have a2:T2[T0.length + 1]? = some (.list (wD B)):=by rw [hT2,←m1];exact get_last
          have:=op_add_list (C:=y.cx) a1 a2 (by simp only [List.length_map];unfold sizeLine;omega)
          rw [m2] at this
          rw [hT3,show wordsC (A ++ B) = .list (wD A ++ wD B) by simp [wD]]
          exact this
        ·rw [hT4,show wordsC Ck = .list (wD Ck) from rfl,←k3,←m3]
         exact TE.sliceList (TE.name rfl rfl rfl) (TP.some (TE.binop (TE.name rfl rfl rfl) TE.cint op_add_int)) TP.none gT3 hzw (fun _ _=>rfl)
        ·have a1:T4[T0.length + 2]? = some (.list (wD (A ++ B))):=by rw [hT4,hT3,←m2];exact get_app get_last
         have a2:T4[T0.length + 3]? = some (.list (wD Ck)):=by rw [hT4,←m3];exact get_last
         have:=op_add_list (C:=y.cx) a1 a2 (by simp only [List.length_map,List.length_append];unfold sizeLine;omega)
         rw [m4] at this
         rw [hT5,show wordsC (A ++ (B ++ Ck)) = .list (wD (A ++ B) ++ wD Ck) by simp [wD]]
         exact this
       ·exact TE.name rfl rfl rfl
       ·exact op_eq_deep rpy_D.1 py_D rpy_D.2 lay_D (by have:=depth_D (x:=x);omega)
       ·rfl
      ·exact rpy_ne hrn
     ·by_cases hB:B.length = 1
      ·obtain ⟨A',hA'⟩:=hone hB
       have hq12:q.2 = q.1 + 2:=by omega
       have hAl:A.length = A'.length + 1:=by rw [hA'];simp
       rw [hjk,if_pos hq12,←List.append_assoc,←eT5]
       have k4:cutList (wD (showW x)) (some ((q.1:Int) - 1)) (some (q.1:Int)) = wD [W.minus]:=by
        rw [show (q.1:Int) - 1 = ((A'.length:Nat):Int) by omega,cut_ab (by omega) (by omega)]
        congr 1
        rw [e,hA',q1,hAl]
        simp
       refine TB.andT (sg1:=T5) ?_ (TB.andF ?_)
       ·apply TB.as
        ·apply TB.cmp
         ·exact TE.binop (TE.name rfl rfl rfl) (TE.name rfl rfl rfl) op_sub_int
         ·exact TE.cint
         ·exact op_eq_int
         ·rfl
        ·exact beq_iff_eq.mpr (by omega)
       ·apply TB.as
        ·refine TB.cmpG (d1:=.obj T5.length) (d2:=.obj (T5.length + 1)) (sg1:=T5 ++ [wordsC [W.minus]]) (sg2:=T5 ++ [wordsC [W.minus],.list [.str "-"]]) ?_ ?_ (op_ne_list (l:=wD [W.minus]) (l2:=[.str "-"]) (p:=[.str "-"]) (q:=[.str "-"]) (by simp) (by simp) rfl rfl (by decide +kernel) (by decide +kernel) (by decide +kernel)) rfl
         ·rw [show wordsC [W.minus] = .list (wD [W.minus]) from rfl,←k4]
          exact TE.sliceList (TE.name rfl rfl rfl) (TP.some (TE.binop (TE.name rfl rfl rfl) TE.cint op_sub_int)) (TP.some (TE.name rfl rfl rfl)) gT5 hzw (fun _ _=>rfl)
         ·have e8:T5 ++ [wordsC [W.minus],Cell.list [D.str "-"]] = (T5 ++ [wordsC [W.minus]]) ++ [.list [.str "-"]]:=by simp
          have e9:D.obj (T5.length + 1) = .obj (T5 ++ [wordsC [W.minus]]).length:=by simp
          rw [e8,e9]
          exact TE.list1s
        ·decide +kernel
      ·have hq12:¬ q.2 = q.1 + 2:=by omega
       rw [hjk,if_neg hq12,List.append_nil,←eT5]
       refine TB.andF ?_
       apply TB.as
       ·apply TB.cmp
        ·exact TE.binop (TE.name rfl rfl rfl) (TE.name rfl rfl rfl) op_sub_int
        ·exact TE.cint
        ·exact op_eq_int
        ·rfl
       ·exact beq_eq_false_iff_ne.mpr (by omega)
    ·exact ⟨_,rfl⟩
  ·have e1:(S6 ++ ([Cell.liter (sg.length + 10) l6.length] ++ (l6.take l6.length).flatMap (jk (showW x)))).set S6.length .dead = S7:=by
    rw [setR (n:=S6.length) (i:=0) rfl,hS7,List.take_length];rfl
   rw [←e1]
   exact TN.listEnd (l:=prD l6) (i:=l6.length) (getR (i:=0) rfl) (get_app g6) (by rw [List.getElem?_eq_none_iff];simp)
 ·have l7:(S7 ++ [Cell.list (smD.take 3)]).length = S7.length + 1:=by simp
  refine TS.setList (d:=.obj S7.length) (sg1:=S7 ++ [.list (smD.take 3)]) ?_ ?_ ?_
  ·rw [sm_3]
   refine TE.list3 ?_ ?_ ?_
   ·refine TE.mBin ?_ ?_
    ·refine TE.mNeg ?_
     exact TE.mRef
    ·exact TE.mNum
   ·refine TE.mNeg ?_
    refine TE.mBin ?_ ?_
    ·exact TE.mNum
    ·exact TE.mNum
   ·refine TE.mNeg ?_
    exact TE.mNum
  ·rfl
  refine TS.setNL (d:=.obj (S7.length + 2)) (sg1:=S7 ++ [.list (smD.take 3),.list (smD.drop 3),.list smD]) ?_ ?_ ?_ ?_
  ·refine TE.binopG (d1:=.obj S7.length) (d2:=.obj (S7.length + 1)) (sg1:=S7 ++ [.list (smD.take 3)]) (sg2:=S7 ++ [.list (smD.take 3),.list (smD.drop 3)]) ?_ ?_ ?_
   ·exact TE.name rfl rfl rfl
   ·have e1:S7 ++ [Cell.list (smD.take 3),.list (smD.drop 3)] = (S7 ++ [.list (smD.take 3)]) ++ [.list (smD.drop 3)]:=by simp
    have e2:D.obj (S7.length + 1) = .obj (S7 ++ [Cell.list (smD.take 3)]).length:=by simp
    rw [e1,e2]
    rw [sm_2]
    refine TE.list2 ?_ ?_
    ·refine TE.mBin ?_ ?_
     ·exact TE.mRef
     ·exact TE.mNumM
    ·refine TE.mBin ?_ ?_
     ·exact TE.mNumM
     ·exact TE.mNum
   ·have:=op_add_list (C:=y.cx) (sg:=S7 ++ [Cell.list (smD.take 3),.list (smD.drop 3)]) (i:=S7.length) (j:=S7.length + 1) (l:=smD.take 3) (l2:=smD.drop 3) (by simp) (by simp) (Nat.le_of_ble_eq_true rfl)
    rw [List.take_append_drop] at this
    simpa using this
  ·rfl
  ·rfl
  refine TS.retE ?_
  obtain ⟨S8,hS8⟩:∃S8,S8 = S7 ++ [Cell.list (smD.take 3),.list (smD.drop 3),.list smD]:=⟨_,rfl⟩
  rw [←hS8] at usm ⊢
  have l8:S8.length = S7.length + 3:=by rw [hS8];simp
  have g8:S8[S7.length + 2]? = some (.list smD):=by rw [hS8];exact getR (i:=2) rfl
  have e9:S7 ++ [Cell.list (smD.take 3),.list (smD.drop 3),.list smD,.dead,.list rsD,.list (litS.map .str)] = (S8 ++ [.dead,.list rsD]) ++ [.list (litS.map .str)]:=by rw [hS8];simp
  rw [e9]
  have hb:=rs_eq
  rw [←hb]
  refine TE.cmpG (d1:=.obj (S8.length + 1)) (d2:=.obj (S8 ++ [Cell.dead,.list rsD]).length) (sg1:=S8 ++ [.dead,.list rsD]) (sg2:=(S8 ++ [.dead,.list rsD]) ++ [.list (litS.map .str)]) ?_ ?_ ?_ ?_
  rotate_left
  ·exact TE.list5s
  ·exact op_eq_list (l:=rsD) (l2:=litS.map .str) (by simp) get_last rfl rfl rs_lay.1 rs_lay.2 (by decide +kernel)
  ·rfl
  refine TE.comp (src:=S7.length + 2) (ds:=smD) (rs:=rsD) (fv:=.ref 328) ?_ ?_ ?_ ?_ ?_ ?_ ?_ ?_ ?_ ?_ ?_ ?_ ?_ ?_ ?_ ?_
  ·exact TE.name rfl rfl rfl
  ·exact g8
  ·rfl
  ·exact Nat.le_of_ble_eq_true rfl
  ·decide
  ·decide
  ·rfl
  ·decide
  ·rfl
  ·rfl
  ·rfl
  ·rfl
  ·exact g_show_expression _
  ·exact k_show_expression _
  ·exact fun _=>rfl
  intro j d r hd hr
  rw [List.getElem?_map] at hd hr
  cases hz:smalls[j]? with
  | none=>rw [hz] at hd;cases hd
  | some z=>
   rw [hz] at hd hr
   cases hd
   cases hr
   obtain ⟨z1,z2,z3⟩:=smalls_ok z (List.mem_of_getElem? hz)
   refine (show_all (y:=y) 3 z z1 z2 (by omega)).c ?_ (by omega)
   refine und_app usm fun c hc=>?_
   simp only [List.mem_cons,List.not_mem_nil,or_false] at hc
   rcases hc with rfl | rfl
   ·simp only [Cell.under,decide_eq_true_eq,List.length_append];omega
   ·show D.unders _ (rsD.take j) = true
    have:rsD.take j = ((smalls.map fun z=>rnd (itm z)).take j).map D.str:=by rw [List.map_take,List.map_map];rfl
    rw [this]
    exact str_under
end
noncomputable def ySays (w:World) (h:Heap):Prop:=h.get? 302 = some (tabObj #[]) ∧ Frag.In (theK w.params) h
theorem law_at (P:Params):nsIn (theK P) mainGlobals "law" = some (some (.ref 588)):=by kernel_rfl
theorem ints_rep {ns:List Int} {vs:List Value} (hi:IntsAre vs ns) (th:List Addr) (h:Heap):RepL th h (ns.map .int) vs:=by
 induction hi with
 | nil=>simp [RepL]
 | cons n t _ ih=>
  simp only [List.map_cons,RepL]
  exact ⟨_,_,rfl,by simp [Rep],ih⟩
theorem codeTable_of {h:Heap} {c P:Addr} (x:CodeHd h c P):isCodeTable h P:=by
 obtain ⟨o,vs,file,tf,flags,tg,inF,text,tt,h1,h2,h3,h4,_⟩:=x
 exact ⟨c,o,vs,h1,h2,h3,h4⟩
set_option maxHeartbeats 4000000 in
theorem walk_any {q:Program} {loose:List Str} {XP:(Str → Option Value) → Heap → Prop} {d:DefRec} {kwd:List (Str × Expr)} (hd:d.name = "law"):
  WalkO q loose XP ySays PySem.Challenge.rw_pc0138_01.row.toRowW d kwd (fun f vs=>PySem.call f vs):=by
 intro w s₀ s₁ mg mb G Y a o pm cd doc dV kV ho hdat hcd hD hmg hg args vals as hpre hlay hrd hwl hlo
 have T:=G.T
 have ha:a = 588:=by
  have e:=mg_of Y.2 T.g (law_at _)
  rw [hd] at hmg
  have:=hmg.symm.trans e
  cases this;rfl
 subst ha
 wrow_args hpre hlay hrd hwl hlo
 rename_i ns _ _ _ _ _ _ _ la vs _ hL hra hw1 hr0 hI hrr hc _
 obtain ⟨vs',hvs'⟩:∃vs':List Value,s₁.heap.get? la = some { cls:=.type "list",data:=.seq vs'.toArray }:=by
  have h1:Well w.params s₁.heap (.ref la) (.list (W.ofPys (ns.map PyData.int))):=hw1
  cases h1 with | list h _=>exact ⟨_,h⟩
 have hvv:vs' = vs:=by
  obtain ⟨o2,h1,_,n2,h2⟩:=hL
  rw [hvs'] at h1;cases h1
  injection h2 with h3 _
  simpa using h3
 subst hvv
 let y:Cy:={ prog:=PySem.Challenge.rw_pc0138_01.row.prog,w:=w,H0:=s₁.heap,mg:=mg,mb:=mb,KH:=Y.2,G:=T.g,B:=T.b,blt:=T.builtins,nolim:=T.nolimit,bmain:=T.bmain,hP:=Y.1 }
 have hsc:Script y la ns:=⟨vs',hvs',ints_rep hI⟩
 have hlen:ns.length ≤ 1000:=by omega
 have hok:CodeOk y.cx 132 (.ref 588) [.val (.ref la)] [] (some (.bool true)) []:=law_ok (y:=y) rfl hsc hlen
 refine hok.call callerA [] [] s₁ [.ref la] _ _ ⟨rfl,rfl,by decide +kernel,by decide +kernel⟩ ?_ ?_ ?_
 ·refine { stays:=fun _ _ _ e=>e,tab:=⟨#[],Y.1,True.intro⟩,len:=rfl,nd:=List.nodup_nil,high:=(fun _ h=>nomatch h),cells:=(fun i c a e=>by simp at e),fr:=(fun _ h=>nomatch h) }
 ·simp only [RepL,Rep];exact ⟨_,_,rfl,rfl,rfl⟩
 ·intro v h' tk tl J kp fr r
  simp only [Rep] at r
  subst r
  have hl0:tl = []:=by
   have:=J.len
   simpa using this
  subst hl0
  refine ⟨.inl ⟨.bool true,.bool true,[],rfl,?_,.bool _,?_,?_⟩,⟨fun b o e=>?_,fun b o e=>?_⟩,rfl,.of_eq hg⟩
  ·exact raisesW_false (fun _ h=>nomatch h)
  ·exact postW_of (by wrow_shape) (by wtm_val) (by w_fin)
  ·exact fun _=>⟨List.nodup_nil,fun _ h=>nomatch h⟩
  ·by_cases hb:b = 302
   ·subst hb
    rw [Y.1] at e;cases e
    obtain ⟨ps,hps,_⟩:=J.tab
    have hct:isCodeTable s₁.heap 302:=codeTable_of y.cx.hd
    exact .inr (.inl ⟨hct,rfl,#[],ps,rfl,by rw [Array.empty_append];exact hps⟩)
   ·exact .inl (J.stays b o hb e)
  ·by_cases hb:b = 302
   ·subst hb
    obtain ⟨ps,hps,_⟩:=J.tab
    exact ⟨_,hps⟩
   ·exact ⟨o,J.stays b o hb e⟩
end
noncomputable section
noncomputable abbrev GoL (w:World) (os:OsState) (i n:Nat) (a b:Rw):Prop:=segRunT treeTable pgm w 11 (some (.ref 6)) 1 n (S a w os) (piecesOf [topSt i] envE cE a.pos [topFrame default]) = some (.next,S b w os,cE,b.pos)
noncomputable abbrev Go (w:World) (os:OsState) (i n:Nat) (a b:Rw):Prop:=segRunT treeTable pgm w 11 (some (.ref 6)) 1 n (S a w os) (pieceOf (topSt i) envE cE a.pos [topFrame default]) = some (.next,S b w os,cE,b.pos)
noncomputable def r0:Rw:=⟨"__main__",164,9,0,15,0,0,187,⟨0,0,0,0⟩⟩
noncomputable def r1:Rw:=⟨"__main__",164,10,3,22,0,0,194,⟨1,0,3,12⟩⟩
noncomputable def r2:Rw:=⟨"ledgerspeak.errors",194,10,3,22,0,0,196,⟨4,0,4,8⟩⟩
noncomputable def r3:Rw:=⟨"ledgerspeak.errors",194,11,6,51,0,2,236,⟨5,0,13,35⟩⟩
noncomputable def r4:Rw:=⟨"ledgerspeak.errors",194,12,9,63,1,2,252,⟨14,0,15,8⟩⟩
noncomputable def r5:Rw:=⟨"ledgerspeak.errors",194,13,12,75,2,2,268,⟨16,0,17,8⟩⟩
noncomputable def r6:Rw:=⟨"ledgerspeak.decimals",268,13,12,75,2,2,270,⟨18,0,18,8⟩⟩
noncomputable def r7:Rw:=⟨"ledgerspeak.decimals",268,14,12,75,2,2,272,⟨19,0,19,7⟩⟩
noncomputable def r8:Rw:=⟨"ledgerspeak.decimals",268,15,15,82,2,2,280,⟨20,0,23,34⟩⟩
noncomputable def r9:Rw:=⟨"ledgerspeak.decimals",268,16,18,90,2,2,289,⟨24,0,30,25⟩⟩
noncomputable def r10:Rw:=⟨"ledgerspeak.decimals",268,17,21,97,2,2,296,⟨31,0,32,24⟩⟩
noncomputable def r11:Rw:=⟨"ledgerspeak.decimals",268,18,24,104,2,2,307,⟨33,0,40,38⟩⟩
noncomputable def r12:Rw:=⟨"ledgerspeak.decimals",268,19,27,111,2,2,314,⟨41,0,42,20⟩⟩
noncomputable def r13:Rw:=⟨"ledgerspeak.decimals",268,20,30,118,2,2,321,⟨43,0,44,32⟩⟩
noncomputable def r14:Rw:=⟨"ledgerspeak.decimals",268,21,33,125,2,2,330,⟨45,0,49,17⟩⟩
noncomputable def r15:Rw:=⟨"ledgerspeak.decimals",268,22,36,132,2,2,343,⟨50,0,64,69⟩⟩
noncomputable def r16:Rw:=⟨"ledgerspeak.decimals",268,23,39,139,2,2,351,⟨65,0,70,49⟩⟩
noncomputable def r17:Rw:=⟨"ledgerspeak.tokens",351,23,39,139,2,2,353,⟨71,0,71,8⟩⟩
noncomputable def r18:Rw:=⟨"ledgerspeak.tokens",351,24,42,169,2,2,397,⟨72,0,81,38⟩⟩
noncomputable def r19:Rw:=⟨"ledgerspeak.tokens",351,25,45,176,2,2,404,⟨82,0,83,46⟩⟩
noncomputable def r20:Rw:=⟨"ledgerspeak.references",404,25,45,176,2,2,406,⟨84,0,84,8⟩⟩
noncomputable def r21:Rw:=⟨"ledgerspeak.references",404,26,45,176,2,2,408,⟨85,0,85,15⟩⟩
noncomputable def r22:Rw:=⟨"ledgerspeak.references",404,27,45,177,2,2,442,⟨86,0,86,12⟩⟩
noncomputable def r23:Rw:=⟨"ledgerspeak.references",404,28,45,178,2,2,458,⟨87,0,87,12⟩⟩
noncomputable def r24:Rw:=⟨"ledgerspeak.references",404,29,48,185,2,2,467,⟨88,0,100,16⟩⟩
noncomputable def r25:Rw:=⟨"ledgerspeak.references",404,30,51,192,2,2,476,⟨101,0,108,23⟩⟩
noncomputable def r26:Rw:=⟨"ledgerspeak.references",404,31,54,199,2,2,486,⟨109,0,115,26⟩⟩
noncomputable def r27:Rw:=⟨"ledgerspeak.references",404,32,57,206,2,2,498,⟨116,0,125,61⟩⟩
noncomputable def r28:Rw:=⟨"ledgerspeak.references",404,33,60,213,2,2,506,⟨126,0,132,17⟩⟩
noncomputable def r29:Rw:=⟨"ledgerspeak.references",404,34,63,220,2,2,513,⟨133,0,136,56⟩⟩
noncomputable def r30:Rw:=⟨"ledgerspeak.references",404,35,66,227,2,2,522,⟨137,0,145,68⟩⟩
noncomputable def r31:Rw:=⟨"ledgerspeak.references",404,36,69,232,2,2,528,⟨146,0,147,60⟩⟩
noncomputable def r32:Rw:=⟨"ledgerspeak.references",404,37,72,237,2,2,534,⟨148,0,152,39⟩⟩
noncomputable def r33:Rw:=⟨"ledgerspeak.references",404,38,75,244,2,2,544,⟨153,0,160,16⟩⟩
noncomputable def r34:Rw:=⟨"ledgerspeak.references",404,39,78,251,2,2,552,⟨161,0,168,77⟩⟩
noncomputable def r35:Rw:=⟨"ledgerspeak.expressions",552,39,78,251,2,2,554,⟨169,0,169,8⟩⟩
noncomputable def r36:Rw:=⟨"ledgerspeak.expressions",552,40,78,251,2,2,556,⟨170,0,170,9⟩⟩
noncomputable def r37:Rw:=⟨"ledgerspeak.expressions",552,41,78,251,2,2,558,⟨171,0,171,6⟩⟩
noncomputable def r38:Rw:=⟨"ledgerspeak.expressions",552,42,78,251,2,2,560,⟨172,0,172,6⟩⟩
noncomputable def r39:Rw:=⟨"ledgerspeak.expressions",552,43,78,251,2,2,562,⟨173,0,173,4⟩⟩
noncomputable def r40:Rw:=⟨"ledgerspeak.expressions",552,44,78,252,2,2,578,⟨174,0,174,6⟩⟩
noncomputable def r41:Rw:=⟨"ledgerspeak.expressions",552,45,81,259,2,2,585,⟨175,0,176,30⟩⟩
noncomputable def r42:Rw:=⟨"ledgerspeak.expressions",552,46,84,266,2,2,594,⟨177,0,181,22⟩⟩
noncomputable def r43:Rw:=⟨"ledgerspeak.expressions",552,47,87,273,2,2,604,⟨182,0,189,16⟩⟩
noncomputable def r44:Rw:=⟨"ledgerspeak.expressions",552,48,90,280,2,2,614,⟨190,0,195,16⟩⟩
noncomputable def r45:Rw:=⟨"ledgerspeak.expressions",552,49,93,287,2,2,625,⟨196,0,205,51⟩⟩
noncomputable def r46:Rw:=⟨"ledgerspeak.expressions",552,50,96,294,2,2,634,⟨206,0,210,74⟩⟩
noncomputable def r47:Rw:=⟨"ledgerspeak.expressions",552,51,99,301,2,2,643,⟨211,0,216,16⟩⟩
noncomputable def r48:Rw:=⟨"ledgerspeak.expressions",552,52,102,308,2,2,653,⟨217,0,224,16⟩⟩
noncomputable def r49:Rw:=⟨"ledgerspeak.expressions",552,53,105,315,2,2,660,⟨225,0,228,36⟩⟩
noncomputable def r50:Rw:=⟨"ledgerspeak.expressions",552,54,108,322,2,2,669,⟨229,0,231,63⟩⟩
noncomputable def r51:Rw:=⟨"ledgerspeak.expressions",552,55,111,329,2,2,678,⟨232,0,244,36⟩⟩
noncomputable def r52:Rw:=⟨"ledgerspeak.expressions",552,56,114,336,2,2,685,⟨245,0,246,101⟩⟩
noncomputable def r53:Rw:=⟨"ledgerspeak.expressions",552,57,117,343,2,2,692,⟨247,0,250,34⟩⟩
noncomputable def r54:Rw:=⟨"ledgerspeak.reader",692,57,117,343,2,2,694,⟨251,0,251,8⟩⟩
noncomputable def r55:Rw:=⟨"ledgerspeak.reader",692,58,117,343,2,2,696,⟨252,0,252,10⟩⟩
noncomputable def r56:Rw:=⟨"ledgerspeak.reader",692,59,117,343,2,2,698,⟨253,0,253,8⟩⟩
noncomputable def r57:Rw:=⟨"ledgerspeak.reader",692,60,120,350,2,2,705,⟨254,0,255,39⟩⟩
noncomputable def r58:Rw:=⟨"ledgerspeak.reader",692,61,123,355,2,2,711,⟨256,0,260,25⟩⟩
noncomputable def r59:Rw:=⟨"ledgerspeak.reader",692,62,126,528,2,2,918,⟨261,0,382,20⟩⟩
noncomputable def r60:Rw:=⟨"law_pc0138_01",918,62,126,528,2,2,920,⟨383,0,383,8⟩⟩
noncomputable def r61:Rw:=⟨"law_pc0138_01",918,63,129,535,2,2,932,⟨384,0,398,23⟩⟩
noncomputable def r62:Rw:=⟨"law_pc0138_01",918,64,132,542,2,2,939,⟨399,0,400,66⟩⟩
noncomputable def r63:Rw:=⟨"law_pc0138_01",918,65,135,549,2,2,950,⟨401,0,406,25⟩⟩
noncomputable def r64:Rw:=⟨"law_pc0138_01",918,66,138,556,2,2,960,⟨407,0,422,16⟩⟩
noncomputable def r65:Rw:=⟨"law_pc0138_01",918,67,141,563,2,2,971,⟨423,0,433,85⟩⟩
noncomputable def r66:Rw:=⟨"law_pc0138_01",918,68,144,570,2,2,978,⟨434,0,441,84⟩⟩
noncomputable def r67:Rw:=⟨"law_pc0138_01",918,69,147,577,2,2,989,⟨442,0,448,72⟩⟩
noncomputable def r68:Rw:=⟨"law_pc0138_01",918,70,150,584,2,2,1000,⟨449,0,456,16⟩⟩
theorem go0 (w:World) (os:OsState):Go w os 0 30 r0 r1:=by kernel_rfl
theorem go1 (w:World) (os:OsState):Go w os 1 10 r1 r2:=by kernel_rfl
theorem go2 (w:World) (os:OsState):Go w os 2 267 r2 r3:=by kernel_rfl
theorem go3 (w:World) (os:OsState):Go w os 3 214 r3 r4:=by kernel_rfl
theorem go4 (w:World) (os:OsState):Go w os 4 214 r4 r5:=by kernel_rfl
theorem go5 (w:World) (os:OsState):Go w os 5 10 r5 r6:=by kernel_rfl
theorem go6 (w:World) (os:OsState):Go w os 6 10 r6 r7:=by kernel_rfl
theorem go7 (w:World) (os:OsState):Go w os 7 31 r7 r8:=by kernel_rfl
theorem go8 (w:World) (os:OsState):Go w os 8 33 r8 r9:=by kernel_rfl
theorem go9 (w:World) (os:OsState):Go w os 9 30 r9 r10:=by kernel_rfl
theorem go10 (w:World) (os:OsState):Go w os 10 34 r10 r11:=by kernel_rfl
theorem go11 (w:World) (os:OsState):Go w os 11 30 r11 r12:=by kernel_rfl
theorem go12 (w:World) (os:OsState):Go w os 12 30 r12 r13:=by kernel_rfl
theorem go13 (w:World) (os:OsState):Go w os 13 32 r13 r14:=by kernel_rfl
theorem go14 (w:World) (os:OsState):Go w os 14 36 r14 r15:=by kernel_rfl
theorem go15 (w:World) (os:OsState):Go w os 15 31 r15 r16:=by kernel_rfl
theorem go16 (w:World) (os:OsState):Go w os 16 10 r16 r17:=by kernel_rfl
theorem go17 (w:World) (os:OsState):Go w os 17 265 r17 r18:=by kernel_rfl
theorem go18 (w:World) (os:OsState):Go w os 18 30 r18 r19:=by kernel_rfl
theorem go19 (w:World) (os:OsState):Go w os 19 10 r19 r20:=by kernel_rfl
theorem go20 (w:World) (os:OsState):Go w os 20 10 r20 r21:=by kernel_rfl
theorem gob21 (w:World) (os:OsState) (b:Bool):Go (w.withFollow "special-get-raises" b) os 21 176 r21 r22:=by cases b <;> kernel_rfl
theorem go21 (w:World) (os:OsState):Go w os 21 176 r21 r22:=by
 have h:=gob21 w os (w.params.followText "special-get-raises")
 rw [World.withFollow_self] at h
 exact h
theorem gob22 (w:World) (os:OsState) (b:Bool):Go (w.withFollow "special-get-raises" b) os 22 86 r22 r23:=by cases b <;> kernel_rfl
theorem go22 (w:World) (os:OsState):Go w os 22 86 r22 r23:=by
 have h:=gob22 w os (w.params.followText "special-get-raises")
 rw [World.withFollow_self] at h
 exact h
theorem go23 (w:World) (os:OsState):Go w os 23 32 r23 r24:=by kernel_rfl
theorem go24 (w:World) (os:OsState):Go w os 24 32 r24 r25:=by kernel_rfl
theorem go25 (w:World) (os:OsState):Go w os 25 33 r25 r26:=by kernel_rfl
theorem go26 (w:World) (os:OsState):Go w os 26 35 r26 r27:=by kernel_rfl
theorem go27 (w:World) (os:OsState):Go w os 27 31 r27 r28:=by kernel_rfl
theorem go28 (w:World) (os:OsState):Go w os 28 30 r28 r29:=by kernel_rfl
theorem go29 (w:World) (os:OsState):Go w os 29 32 r29 r30:=by kernel_rfl
theorem go30 (w:World) (os:OsState):Go w os 30 27 r30 r31:=by kernel_rfl
theorem go31 (w:World) (os:OsState):Go w os 31 27 r31 r32:=by kernel_rfl
theorem go32 (w:World) (os:OsState):Go w os 32 33 r32 r33:=by kernel_rfl
theorem go33 (w:World) (os:OsState):Go w os 33 31 r33 r34:=by kernel_rfl
theorem go34 (w:World) (os:OsState):Go w os 34 10 r34 r35:=by kernel_rfl
theorem go35 (w:World) (os:OsState):Go w os 35 10 r35 r36:=by kernel_rfl
theorem go36 (w:World) (os:OsState):Go w os 36 10 r36 r37:=by kernel_rfl
theorem go37 (w:World) (os:OsState):Go w os 37 10 r37 r38:=by kernel_rfl
theorem go38 (w:World) (os:OsState):Go w os 38 10 r38 r39:=by kernel_rfl
theorem gob39 (w:World) (os:OsState) (b:Bool):Go (w.withFollow "special-get-raises" b) os 39 86 r39 r40:=by cases b <;> kernel_rfl
theorem go39 (w:World) (os:OsState):Go w os 39 86 r39 r40:=by
 have h:=gob39 w os (w.params.followText "special-get-raises")
 rw [World.withFollow_self] at h
 exact h
theorem go40 (w:World) (os:OsState):Go w os 40 30 r40 r41:=by kernel_rfl
theorem go41 (w:World) (os:OsState):Go w os 41 32 r41 r42:=by kernel_rfl
theorem go42 (w:World) (os:OsState):Go w os 42 33 r42 r43:=by kernel_rfl
theorem go43 (w:World) (os:OsState):Go w os 43 33 r43 r44:=by kernel_rfl
theorem go44 (w:World) (os:OsState):Go w os 44 34 r44 r45:=by kernel_rfl
theorem go45 (w:World) (os:OsState):Go w os 45 32 r45 r46:=by kernel_rfl
theorem go46 (w:World) (os:OsState):Go w os 46 32 r46 r47:=by kernel_rfl
theorem go47 (w:World) (os:OsState):Go w os 47 33 r47 r48:=by kernel_rfl
theorem go48 (w:World) (os:OsState):Go w os 48 30 r48 r49:=by kernel_rfl
theorem go49 (w:World) (os:OsState):Go w os 49 32 r49 r50:=by kernel_rfl
theorem go50 (w:World) (os:OsState):Go w os 50 32 r50 r51:=by kernel_rfl
theorem go51 (w:World) (os:OsState):Go w os 51 30 r51 r52:=by kernel_rfl
theorem go52 (w:World) (os:OsState):Go w os 52 30 r52 r53:=by kernel_rfl
theorem go53 (w:World) (os:OsState):Go w os 53 10 r53 r54:=by kernel_rfl
theorem go54 (w:World) (os:OsState):Go w os 54 10 r54 r55:=by kernel_rfl
theorem go55 (w:World) (os:OsState):Go w os 55 10 r55 r56:=by kernel_rfl
theorem go56 (w:World) (os:OsState):Go w os 56 30 r56 r57:=by kernel_rfl
theorem go57 (w:World) (os:OsState):Go w os 57 27 r57 r58:=by kernel_rfl
theorem go58 (w:World) (os:OsState):Go w os 58 910 r58 r59:=by kernel_rfl
theorem go59 (w:World) (os:OsState):Go w os 59 10 r59 r60:=by kernel_rfl
theorem go60 (w:World) (os:OsState):Go w os 60 35 r60 r61:=by kernel_rfl
theorem go61 (w:World) (os:OsState):Go w os 61 30 r61 r62:=by kernel_rfl
theorem go62 (w:World) (os:OsState):Go w os 62 34 r62 r63:=by kernel_rfl
theorem go63 (w:World) (os:OsState):Go w os 63 33 r63 r64:=by kernel_rfl
theorem go64 (w:World) (os:OsState):Go w os 64 34 r64 r65:=by kernel_rfl
theorem go65 (w:World) (os:OsState):Go w os 65 30 r65 r66:=by kernel_rfl
theorem go66 (w:World) (os:OsState):Go w os 66 34 r66 r67:=by kernel_rfl
theorem go67 (w:World) (os:OsState):Go w os 67 34 r67 r68:=by kernel_rfl
theorem go68 (w:World) (os:OsState):Go w os 68 27 r68 r69:=by kernel_rfl
end
noncomputable section
theorem bt_open:∀w:World,(fencedOpening treeTable pgm w 8000).map (fun s=>(s.heap,s.gens,s.drawn,s.toks)) = some (boot_heap w.params,Array.mk [],boot_drawn,boot_toks):=
 boot_open (by kernel_rfl) (by kernel_rfl) (fun s=>by kernel_rfl)
theorem bt_size (w:World):((boot_heap w.params).isNs mainGlobals && (Array.mk []:Array GenState).size == 0,(boot_heap w.params).objs.size,(boot_heap w.params).nsMap mainGlobals "__annotations__") = (true,11,some (.ref 6)):=by kernel_rfl
noncomputable abbrev bodyB:List Stmt:=pgm.main.body
theorem body_len:bodyB.length = 69:=by kernel_rfl
theorem behind_body:behindTheImports pgm = bodyB:=by kernel_rfl
theorem drop_top (i:Nat) (h:i < 69):bodyB.drop i = topSt i :: bodyB.drop (i + 1):=by
 have hl:i < bodyB.length:=by rw [body_len];exact h
 rw [List.drop_eq_getElem_cons hl]
 congr 1
 unfold topSt
 rw [List.getElem?_eq_getElem hl]
 rfl
noncomputable def S0 (w:World) (os:OsState):Shared:=⟨boot_heap w.params,Array.mk [],boot_drawn,boot_toks,os⟩
noncomputable def tA:Thread:=⟨denote treeTable cE,cE,default,[topFrame default]⟩
theorem st_pre (w:World) (os:OsState):topGo treeTable pgm w 11 (some (.ref 6)) 12 (S0 w os) (topStub pgm) = some ((S r0 w os).abs,tA):=by kernel_rfl
theorem st_block (w:World) (os:OsState):segRun treeTable pgm w 11 (some (.ref 6)) 1 1 (S r0 w os).abs (blockOf (behindTheImports pgm) envE cE default [topFrame default]) = some (.next,(S r0 w os).abs,cE,default):=by kernel_rfl
noncomputable def heap1 (P:Params):Heap:=⟨⟨snapL r69 P⟩,(boot_heap P).life⟩
noncomputable def S1 (w:World) (os:OsState):Shared:=⟨heap1 w.params,Array.mk [],boot_drawn,1006,os⟩
noncomputable abbrev At (w:World) (os:OsState) (i N:Nat) (a:Rw):Prop:=topRun treeTable pgm w 11 (some (.ref 6)) N (S a w os).abs (restOf (bodyB.drop i) envE cE a.pos [topFrame default]) = some (S1 w os)
theorem step_top {w:World} {os:OsState} {i n N:Nat} {a b:Rw} (h:Go w os i n a b) (hi:i < 69) (k:At w os (i + 1) N b):At w os i (n + N) a:=by
 unfold At
 rw [drop_top i hi]
 exact piece_cons (segRun_of h) k
theorem st_fin (w:World) (os:OsState):topRun treeTable pgm w 11 (some (.ref 6)) 2 (S r69 w os).abs ⟨doneF .next,cE,r69.pos,[topFrame default]⟩ = some (S1 w os):=by kernel_rfl
theorem at_69 (w:World) (os:OsState):At w os 69 2 r69:=by
 unfold At
 rw [List.drop_of_length_le (by rw [body_len];exact Nat.le_refl _)]
 exact piece_nil (st_fin w os)
theorem at_68 (w:World) (os:OsState):At w os 68 (27 + 2) r68:=step_top (go68 w os) (by decide) (at_69 w os)
theorem at_67 (w:World) (os:OsState):At w os 67 (34 + 29) r67:=step_top (go67 w os) (by decide) (at_68 w os)
theorem at_66 (w:World) (os:OsState):At w os 66 (34 + 63) r66:=step_top (go66 w os) (by decide) (at_67 w os)
theorem at_65 (w:World) (os:OsState):At w os 65 (30 + 97) r65:=step_top (go65 w os) (by decide) (at_66 w os)
theorem at_64 (w:World) (os:OsState):At w os 64 (34 + 127) r64:=step_top (go64 w os) (by decide) (at_65 w os)
theorem at_63 (w:World) (os:OsState):At w os 63 (33 + 161) r63:=step_top (go63 w os) (by decide) (at_64 w os)
theorem at_62 (w:World) (os:OsState):At w os 62 (34 + 194) r62:=step_top (go62 w os) (by decide) (at_63 w os)
theorem at_61 (w:World) (os:OsState):At w os 61 (30 + 228) r61:=step_top (go61 w os) (by decide) (at_62 w os)
theorem at_60 (w:World) (os:OsState):At w os 60 (35 + 258) r60:=step_top (go60 w os) (by decide) (at_61 w os)
theorem at_59 (w:World) (os:OsState):At w os 59 (10 + 293) r59:=step_top (go59 w os) (by decide) (at_60 w os)
theorem at_58 (w:World) (os:OsState):At w os 58 (910 + 303) r58:=step_top (go58 w os) (by decide) (at_59 w os)
theorem at_57 (w:World) (os:OsState):At w os 57 (27 + 1213) r57:=step_top (go57 w os) (by decide) (at_58 w os)
theorem at_56 (w:World) (os:OsState):At w os 56 (30 + 1240) r56:=step_top (go56 w os) (by decide) (at_57 w os)
theorem at_55 (w:World) (os:OsState):At w os 55 (10 + 1270) r55:=step_top (go55 w os) (by decide) (at_56 w os)
theorem at_54 (w:World) (os:OsState):At w os 54 (10 + 1280) r54:=step_top (go54 w os) (by decide) (at_55 w os)
theorem at_53 (w:World) (os:OsState):At w os 53 (10 + 1290) r53:=step_top (go53 w os) (by decide) (at_54 w os)
theorem at_52 (w:World) (os:OsState):At w os 52 (30 + 1300) r52:=step_top (go52 w os) (by decide) (at_53 w os)
theorem at_51 (w:World) (os:OsState):At w os 51 (30 + 1330) r51:=step_top (go51 w os) (by decide) (at_52 w os)
theorem at_50 (w:World) (os:OsState):At w os 50 (32 + 1360) r50:=step_top (go50 w os) (by decide) (at_51 w os)
theorem at_49 (w:World) (os:OsState):At w os 49 (32 + 1392) r49:=step_top (go49 w os) (by decide) (at_50 w os)
theorem at_48 (w:World) (os:OsState):At w os 48 (30 + 1424) r48:=step_top (go48 w os) (by decide) (at_49 w os)
theorem at_47 (w:World) (os:OsState):At w os 47 (33 + 1454) r47:=step_top (go47 w os) (by decide) (at_48 w os)
theorem at_46 (w:World) (os:OsState):At w os 46 (32 + 1487) r46:=step_top (go46 w os) (by decide) (at_47 w os)
theorem at_45 (w:World) (os:OsState):At w os 45 (32 + 1519) r45:=step_top (go45 w os) (by decide) (at_46 w os)
theorem at_44 (w:World) (os:OsState):At w os 44 (34 + 1551) r44:=step_top (go44 w os) (by decide) (at_45 w os)
theorem at_43 (w:World) (os:OsState):At w os 43 (33 + 1585) r43:=step_top (go43 w os) (by decide) (at_44 w os)
theorem at_42 (w:World) (os:OsState):At w os 42 (33 + 1618) r42:=step_top (go42 w os) (by decide) (at_43 w os)
theorem at_41 (w:World) (os:OsState):At w os 41 (32 + 1651) r41:=step_top (go41 w os) (by decide) (at_42 w os)
theorem at_40 (w:World) (os:OsState):At w os 40 (30 + 1683) r40:=step_top (go40 w os) (by decide) (at_41 w os)
theorem at_39 (w:World) (os:OsState):At w os 39 (86 + 1713) r39:=step_top (go39 w os) (by decide) (at_40 w os)
theorem at_38 (w:World) (os:OsState):At w os 38 (10 + 1799) r38:=step_top (go38 w os) (by decide) (at_39 w os)
theorem at_37 (w:World) (os:OsState):At w os 37 (10 + 1809) r37:=step_top (go37 w os) (by decide) (at_38 w os)
theorem at_36 (w:World) (os:OsState):At w os 36 (10 + 1819) r36:=step_top (go36 w os) (by decide) (at_37 w os)
theorem at_35 (w:World) (os:OsState):At w os 35 (10 + 1829) r35:=step_top (go35 w os) (by decide) (at_36 w os)
theorem at_34 (w:World) (os:OsState):At w os 34 (10 + 1839) r34:=step_top (go34 w os) (by decide) (at_35 w os)
theorem at_33 (w:World) (os:OsState):At w os 33 (31 + 1849) r33:=step_top (go33 w os) (by decide) (at_34 w os)
theorem at_32 (w:World) (os:OsState):At w os 32 (33 + 1880) r32:=step_top (go32 w os) (by decide) (at_33 w os)
theorem at_31 (w:World) (os:OsState):At w os 31 (27 + 1913) r31:=step_top (go31 w os) (by decide) (at_32 w os)
theorem at_30 (w:World) (os:OsState):At w os 30 (27 + 1940) r30:=step_top (go30 w os) (by decide) (at_31 w os)
theorem at_29 (w:World) (os:OsState):At w os 29 (32 + 1967) r29:=step_top (go29 w os) (by decide) (at_30 w os)
theorem at_28 (w:World) (os:OsState):At w os 28 (30 + 1999) r28:=step_top (go28 w os) (by decide) (at_29 w os)
theorem at_27 (w:World) (os:OsState):At w os 27 (31 + 2029) r27:=step_top (go27 w os) (by decide) (at_28 w os)
theorem at_26 (w:World) (os:OsState):At w os 26 (35 + 2060) r26:=step_top (go26 w os) (by decide) (at_27 w os)
theorem at_25 (w:World) (os:OsState):At w os 25 (33 + 2095) r25:=step_top (go25 w os) (by decide) (at_26 w os)
theorem at_24 (w:World) (os:OsState):At w os 24 (32 + 2128) r24:=step_top (go24 w os) (by decide) (at_25 w os)
theorem at_23 (w:World) (os:OsState):At w os 23 (32 + 2160) r23:=step_top (go23 w os) (by decide) (at_24 w os)
theorem at_22 (w:World) (os:OsState):At w os 22 (86 + 2192) r22:=step_top (go22 w os) (by decide) (at_23 w os)
theorem at_21 (w:World) (os:OsState):At w os 21 (176 + 2278) r21:=step_top (go21 w os) (by decide) (at_22 w os)
theorem at_20 (w:World) (os:OsState):At w os 20 (10 + 2454) r20:=step_top (go20 w os) (by decide) (at_21 w os)
theorem at_19 (w:World) (os:OsState):At w os 19 (10 + 2464) r19:=step_top (go19 w os) (by decide) (at_20 w os)
theorem at_18 (w:World) (os:OsState):At w os 18 (30 + 2474) r18:=step_top (go18 w os) (by decide) (at_19 w os)
theorem at_17 (w:World) (os:OsState):At w os 17 (265 + 2504) r17:=step_top (go17 w os) (by decide) (at_18 w os)
theorem at_16 (w:World) (os:OsState):At w os 16 (10 + 2769) r16:=step_top (go16 w os) (by decide) (at_17 w os)
theorem at_15 (w:World) (os:OsState):At w os 15 (31 + 2779) r15:=step_top (go15 w os) (by decide) (at_16 w os)
theorem at_14 (w:World) (os:OsState):At w os 14 (36 + 2810) r14:=step_top (go14 w os) (by decide) (at_15 w os)
theorem at_13 (w:World) (os:OsState):At w os 13 (32 + 2846) r13:=step_top (go13 w os) (by decide) (at_14 w os)
theorem at_12 (w:World) (os:OsState):At w os 12 (30 + 2878) r12:=step_top (go12 w os) (by decide) (at_13 w os)
theorem at_11 (w:World) (os:OsState):At w os 11 (30 + 2908) r11:=step_top (go11 w os) (by decide) (at_12 w os)
theorem at_10 (w:World) (os:OsState):At w os 10 (34 + 2938) r10:=step_top (go10 w os) (by decide) (at_11 w os)
theorem at_9 (w:World) (os:OsState):At w os 9 (30 + 2972) r9:=step_top (go9 w os) (by decide) (at_10 w os)
theorem at_8 (w:World) (os:OsState):At w os 8 (33 + 3002) r8:=step_top (go8 w os) (by decide) (at_9 w os)
theorem at_7 (w:World) (os:OsState):At w os 7 (31 + 3035) r7:=step_top (go7 w os) (by decide) (at_8 w os)
theorem at_6 (w:World) (os:OsState):At w os 6 (10 + 3066) r6:=step_top (go6 w os) (by decide) (at_7 w os)
theorem at_5 (w:World) (os:OsState):At w os 5 (10 + 3076) r5:=step_top (go5 w os) (by decide) (at_6 w os)
theorem at_4 (w:World) (os:OsState):At w os 4 (214 + 3086) r4:=step_top (go4 w os) (by decide) (at_5 w os)
theorem at_3 (w:World) (os:OsState):At w os 3 (214 + 3300) r3:=step_top (go3 w os) (by decide) (at_4 w os)
theorem at_2 (w:World) (os:OsState):At w os 2 (267 + 3514) r2:=step_top (go2 w os) (by decide) (at_3 w os)
theorem at_1 (w:World) (os:OsState):At w os 1 (10 + 3781) r1:=step_top (go1 w os) (by decide) (at_2 w os)
theorem at_0 (w:World) (os:OsState):At w os 0 (30 + 3791) r0:=step_top (go0 w os) (by decide) (at_1 w os)
theorem run_top (w:World) (os:OsState):topRun treeTable pgm w 11 (some (.ref 6)) (12 + (1 + 3821)) (S0 w os) (topStub pgm) = some (S1 w os):=by
 refine go_top (st_pre w os) ?_
 refine piece_block (st_block w os) ?_
 rw [behind_body]
 exact at_0 w os
end
noncomputable section
noncomputable def qV:Program:=view pgm ((List.range 69).filter fun i=>!([1,5,8,16,19,34,53,59]:List Nat).contains i)
noncomputable def looseV:List Str:=["LedgerError","decimal","Token","FIGURE_NAMES","FIGURE_SHOWN","LEVELS"]
noncomputable def XtV:Shared → Bool:=fun s=>xlAt qV [] s && recOk (RowW.records PySem.Challenge.rw_pc0138_01.row.toRowW) s
noncomputable abbrev modsV:List Str:=importedModules pgm.main.body
theorem look_a (w:World) (os:OsState):(staticsOk modsV (boot_heap w.params) (heap1 w.params) && namesBound pgm (heap1 w.params) && gensDone (S1 w os) && laidKept (boot_heap w.params) (heap1 w.params)) = true:=by kernel_rfl
theorem look_1 (w:World) (os:OsState):seen ((recsOf qV).map (·.name)) (ownsOf qV) [] { S1 w os with gens:=#[] } = expectedOf qV:=by kernel_rfl
theorem look_2 (w:World) (os:OsState):(S1 w os).heap.bltView = bltViewBooted:=by kernel_rfl
theorem look_3 (w:World) (os:OsState):((S1 w os).heap.keysOk (looseW qV looseV) ((recsOf qV).map (·.name)) ((litsOf qV).map (·.1)) ((clssOf qV (looseW qV looseV)).map (·.name)) && (S1 w os).heap.accountedOkI modsV && (S1 w os).heap.isNs mainGlobals && (S1 w os).heap.isNs builtinsNs && tablesOk qV (S1 w os).heap && XtV (S1 w os) && (if true then (S1 w os).gens.size == 0 else !leftWithCleanup (S1 w os).gens)) = true:=by kernel_rfl
theorem all_but {f:Str → Bool} (l:List Str) (a:Str) (h1:(l.filter fun x=>x != a).all f = true) (h2:f a = true):l.all f = true:=by
 rw [List.all_eq_true] at h1 ⊢
 intro x hx
 by_cases e:x = a
 ·rw [e];exact h2
 ·exact h1 x (List.mem_filter.mpr ⟨hx,bne_iff_ne.mpr e⟩)
noncomputable def valsBut (p:Program) (h:Heap) (a:Str):Bool:=((valNames p).filter fun x:Str=>x != a).all fun x=>match valOf p x with
 | some d=>h.constOk x d
 | none=>true
theorem vals_but (p:Program) (h:Heap) (a:Str) (d:PyData) (h1:valsBut p h a = true) (h2:valOf p a = some d) (h3:h.constOk a d = true):valsOk p h = true:=by
 unfold valsOk
 refine all_but _ a h1 ?_
 rw [h2]
 exact h3
theorem lk_t (w:World) (os:OsState):((recsOf qV).all fun d=>(S1 w os).heap.tab0Ok d.name) = true:=by kernel_rfl
theorem lk_b (w:World) (os:OsState):(S1 w os).heap.bmainOk = true:=by kernel_rfl
theorem lk_s (w:World) (os:OsState):(!importsNone qV || (S1 w os).heap.noSeerOk) = true:=by kernel_rfl
theorem vo_R:valOf qV "RESERVED" = some (.str (strSt 55)):=by kernel_rfl
theorem ns_R (w:World) (os:OsState):(S1 w os).heap.nsMap mainGlobals "RESERVED" = some (.str (strSt 55) 696):=by kernel_rfl
theorem lk_o (w:World) (os:OsState):valsBut qV (S1 w os).heap "RESERVED" = true:=by kernel_rfl
theorem co_str {h:Heap} {x s:Str} {t:Nat} (e:h.nsMap mainGlobals x = some (.str s t)):h.constOk x (.str s) = true:=by
 unfold Heap.constOk
 rw [e]
 exact beq_self_eq_true _
theorem lk_v (w:World) (os:OsState):valsOk qV (S1 w os).heap = true:=vals_but _ _ _ _ (lk_o w os) vo_R (co_str (ns_R w os))
theorem look_4 (w:World) (os:OsState):tabsOk qV (S1 w os) = true:=by
 unfold tabsOk
 rw [lk_t,lk_b,lk_v,lk_s]
 rfl
theorem look_5 (w:World) (os:OsState):pinSeenD qV (drecsOf qV) (S1 w os) = pinGoodD (drecsOf qV):=by kernel_rfl
theorem look_6 (w:World) (os:OsState):plainSeenE qV (looseW qV looseV) (S1 w os) = plainGoodE qV (looseW qV looseV):=by kernel_rfl
theorem look_7 (w:World) (os:OsState):plainSeenD qV looseV (S1 w os) = plainGoodD qV looseV:=by kernel_rfl
theorem look_8 (w:World) (os:OsState):wideSeen qV (S1 w os) = wideGood qV:=by kernel_rfl
theorem look_9 (w:World) (os:OsState):clsSeenW qV looseV (S1 w os) = clsGoodW qV looseV:=by kernel_rfl
theorem look_b (w:World) (os:OsState):openSeen qV looseV modsV XtV true (S1 w os) = openGood qV looseV:=by
 unfold openSeen openGood
 exact looks_pair (look_1 w os) (looks_pair (look_2 w os) (looks_pair (look_3 w os) (looks_pair (look_4 w os) (looks_pair (look_5 w os) (looks_pair (look_6 w os) (looks_pair (look_7 w os) (looks_pair (look_8 w os) (look_9 w os))))))))
noncomputable def YfV (s:Shared):List Obj:=s.heap.objs.toList
noncomputable def YaV (w:World):List Obj:=snapL r69 w.params
theorem leftV:LeftO pgm qV looseV XtV YfV YaV 8000:=by
 refine LeftO.of_pieces (H₀:=boot_heap) (H₁:=heap1) (gs₀:=Array.mk []) (gs₁:=Array.mk []) (d₀:=boot_drawn) (d₁:=boot_drawn) (k₀:=boot_toks) (k₁:=1006) (m₀:=11) (ann:=some (.ref 6)) (M:=12 + (1 + 3821)) bt_open bt_size (fun w os=>run_top w os) (by rfl) (fun w=>?_)
 funext os
 exact looks_pair (look_a w os) (looks_pair (look_b w os) rfl)
end
noncomputable abbrev lw:=PySem.Challenge.rw_pc0138_01
noncomputable abbrev pgw:=PySem.Challenge.pw_pc0138_01
theorem road_cons (lk:Look) (s:Stmt) (l:List Stmt):noRoadLSs lk (s :: l) = (noRoadLS lk s && noRoadLSs lk l):=by rfl
theorem road_as (lk:Look) (t:List Expr) (s:Str) (n:Nat) (p q:Pos):noRoadLS lk (.Assign t (.Constant (.str s) n p) q) = (lk.stores t && noRoadLs lk t && lk.str s):=by rfl
theorem noRoadLSs_append (lk:Look):∀a b:List Stmt,noRoadLSs lk (a ++ b) = (noRoadLSs lk a && noRoadLSs lk b)
 | [],b=>by rw [show noRoadLSs lk [] = true from rfl,Bool.true_and];rfl
 | s :: a,b=>by rw [List.cons_append,road_cons,road_cons,noRoadLSs_append lk a b,Bool.and_assoc]
noncomputable abbrev theR:Str:=strSt 55
noncomputable def lk0:Look:={ strict:=false,foot:=none }
theorem R_stmt:∃t n p q,topSt 55 = .Assign t (.Constant (.str (strSt 55)) n p) q ∧ (lk0.stores t && noRoadLs lk0 t) = true:=⟨_,_,_,_,rfl,by kernel_rfl⟩
theorem body_split:pgw.main.body = pgw.main.body.take 55 ++ (topSt 55 :: pgw.main.body.drop 56):=by kernel_rfl
set_option maxHeartbeats 0 in
theorem road_a:noRoadLSs lk0 (pgw.main.body.take 55) = true:=by kernel_rfl
set_option maxHeartbeats 0 in
theorem road_b:noRoadLSs lk0 (pgw.main.body.drop 56) = true:=by kernel_rfl
set_option maxHeartbeats 0
theorem R_chars:(theR.cps.toList.all fun c=>Nat.ble c 45 || (Nat.ble 48 c && Nat.ble c 90)) = true:=(Bool.and_eq_true_iff.mp (Bool.and_eq_true_iff.mp R_chk).2).1
theorem R_first:(theR.cps.toList.take 1 == [32]) = true:=(Bool.and_eq_true_iff.mp (Bool.and_eq_true_iff.mp R_chk).2).2
theorem names_first:(frameAttrs.all fun s=>!(s.cps.toList.take 1 == [32])) = true:=by kernel_rfl
theorem R_road:roadStr theR = false:=by
 have h:=R_chars
 rw [List.all_eq_true] at h
 unfold roadStr
 rw [Bool.or_eq_false_iff,Bool.and_eq_false_iff]
 refine ⟨?_,.inl ?_⟩
 ·rw [←Array.any_toList,List.any_eq_false]
  intro c hc
  have:=h c hc
  simp only [Bool.or_eq_true,Bool.and_eq_true,Nat.ble_eq] at this
  simp only [Bool.or_eq_true,beq_iff_eq]
  omega
 ·rw [←Array.any_toList,List.any_eq_false]
  intro c hc
  have:=h c hc
  simp only [Bool.or_eq_true,Bool.and_eq_true,Nat.ble_eq] at this
  simp only [beq_iff_eq]
  omega
theorem R_word:attrL theR = true:=by
 unfold attrL
 rw [Bool.and_eq_true,Bool.or_eq_true]
 have f:=R_first
 rw [beq_iff_eq] at f
 refine ⟨?_,.inl ?_⟩
 ·rw [Bool.not_eq_true',←Bool.not_eq_true]
  intro h
  have hm:=List.contains_iff_mem.mp h
  have n:=names_first
  rw [List.all_eq_true] at n
  have:=n _ hm
  rw [f] at this
  simp at this
 ·rw [Bool.not_eq_true',Bool.and_eq_false_iff]
  left
  unfold Str.opensWith
  rw [←Bool.not_eq_true]
  intro h
  rw [beq_iff_eq] at h
  have h2:=congrArg (fun a=>a.toList.take 1) h
  have e:(Str.ofString "__").cps.size = 2:=by rfl
  have e2:(Str.ofString "__").cps.toList.take 1 = [95]:=by rfl
  simp only [e,e2] at h2
  rw [Array.toList_extract] at h2
  simp only [List.extract_eq_take_drop,List.drop_zero,List.take_take,Nat.sub_zero] at h2
  rw [show min 1 2 = 1 from rfl] at h2
  rw [f] at h2
  simp at h2
theorem road_R:noRoadLS lk0 (topSt 55) = true:=by
 obtain ⟨t,n,p,q,e,h⟩:=R_stmt
 have hs:lk0.str theR = true:=by
  unfold Look.str
  rw [R_road]
  have:lk0.word theR = true:=by
   unfold Look.word
   rw [R_word]
   rfl
  rw [this,Bool.or_true,Bool.true_and]
  rfl
 rw [e,road_as,h,hs]
 rfl
theorem road_all:noRoadLSs lk0 pgw.main.body = true:=by
 rw [body_split,noRoadLSs_append,road_a,road_cons,road_R,road_b]
 rfl
theorem no_imports:(importedModules pgw.main.body).all cThrough.contains = true:=by kernel_rfl
theorem no_bare:((["vars","dir","locals"]:List Str).all fun n=>!readsOut pgw pgw.main.body n) = true:=by kernel_rfl
theorem looks_ok:looksOpen pgw = true:=by
 unfold looksOpen
 have hb:(["vars","dir","locals"]:List Str).filter (readsOut pgw pgw.main.body) = []:=by
  rw [List.filter_eq_nil_iff]
  intro n hn
  have h:=no_bare
  rw [List.all_eq_true] at h
  have:=h n hn
  simpa using this
 rw [no_imports,hb]
 have h1:sreFenced pgw.main = true:=by kernel_rfl
 have h2:((moduleNames pgw.main.body).isEmpty || lookedIntoSs (moduleNames pgw.main.body) pgw.main.body) = true:=by kernel_rfl
 have h3:namesResolve pgw = true:=by kernel_rfl
 have h4:(pgw.boundNames.all fun n=>!worldNames.contains n) = true:=by kernel_rfl
 have h5:(namesMeet pgw pgw.main.body fun _ n=>attrL n) = true:=by kernel_rfl
 have h6:noRoadLSs { strict:=!true,foot:=none,bare:=[] } pgw.main.body = true:=road_all
 simp only [h1,h2,h3,h4,h5,h6,Bool.and_self]
theorem row_part:lw.row.partSaid = true:=by
 unfold OpenRow.partSaid
 have h1:looksOpen lw.row.prog = true:=looks_ok
 rw [h1]
 have h2:((r:OpenRow) → r = lw.row → (true && r.loose.isEmpty && r.makers.isEmpty &&
 (r.records.isEmpty || r.raises.all fun ct=>ct.1 != .builtin "AttributeError" && ct.1 != .builtin "TypeError") &&
 (r.raises.all fun ct=>match ct.1 with | .builtin n=>!r.prog.boundNames.contains (Str.ofString n) && !ofTheWorld.contains n | .own _=>true) &&
 decide (r.records.map (·.1)).Nodup && (r.records.all fun x=>!x.1.opensWith "__" && !builtinNamed x.1 && r.prog.boundNames.contains x.1 && x.2.all fun f=>!f.1.opensWith "__") &&
 r.toRowW.solid && r.pre.litsOk && r.post.litsOk && r.raises.all (·.2.litsOk) &&
 r.mutates.all (fun i=>match r.args[i]? with
  | some sh=>!sh.arms.any WShape.isObj
  | none=>false) &&
 r.within.all (fun i=>decide (i < r.args.length)) && r.same.all (fun i=>decide (i < r.args.length))) = true):=fun r e=>by
  subst e
  decide +kernel
 exact h2 _ rfl
theorem row_ws:lw.row.wellSaid = true:=by
 unfold OpenRow.wellSaid
 rw [row_part]
 have h1:lw.row.prog.boundNames.contains lw.row.name = true:=by kernel_rfl
 have h2:(!startupNames.contains lw.row.name) = true:=by kernel_rfl
 rw [h1,h2]
 rfl
theorem law_ws:lw.wellSaid = true:=by
 unfold OpenLaw.wellSaid
 rw [row_ws]
 simp only [Bool.and_eq_true]
 refine ⟨⟨⟨⟨⟨⟨⟨⟨⟨⟨⟨⟨⟨⟨⟨⟨⟨⟨trivial,?_⟩,?_⟩,?_⟩,?_⟩,?_⟩,?_⟩,?_⟩,?_⟩,?_⟩,?_⟩,?_⟩,?_⟩,?_⟩,?_⟩,?_⟩,?_⟩,?_⟩,?_⟩ <;> kernel_rfl
noncomputable def theAs:List Addr:=[3,29,30,36,37,46,47,48,71,72,82,88,89,95,96,123,124,130,131,137,138,146,147,153,154,163,164,165,166,176,183,184,204,205,218,219,225,226,242,243,249,250,251,257,258,264,265,271,272,278,279,285,286,292,293,299,300,306,307,313,314,320,321,327,328,334,335,341,342,348,349,362,368,369,370,376,377,390,391,397,398,399,405,406,412,413,419,420,433,434,442,448,449,455,456,464,470,471,477,478,484,485,491,492,498,499,522,523,524,525,533,534,540,541,547,548,554,555,561,562,568,569,575,576,582,583,587,588]
theorem theAs_eq (P:Params):theAs = (theK P).map (·.1):=by kernel_rfl
noncomputable def getL (l:List Obj) (a:Addr):Option Obj:=match l[a]? with
 | some ⟨_,_,.freed,_⟩=>none
 | o=>o
theorem get_L (h:Heap) (a:Addr):h.get? a = getL h.objs.toList a:=by
 unfold Heap.get? getL
 rw [Array.getElem?_toList]
 rfl
theorem K_L (P:Params):theAs.map (getL (snapL r69 P)) = (theK P).map fun p=>some p.2:=by kernel_rfl
theorem P_L (P:Params):getL (snapL r69 P) 302 = some (tabObj #[]):=by kernel_rfl
theorem hk_of (w:World) (s:Shared) (e:YfV s = YaV w):ySays w s.heap:=by
 have e:s.heap.objs.toList = snapL r69 w.params:=e
 refine ⟨?_,InK.of (K:=theK) (as:=theAs) theAs_eq w s ?_⟩
 ·rw [get_L,e]
  exact P_L _
 ·rw [show s.heap.get? = getL s.heap.objs.toList from funext fun a=>get_L _ _,e]
  exact K_L _
theorem hk_keeps (w:World) (h h':Heap) (y:ySays w h) (k:∀b o,h.get? b = some o → h'.get? b = some o):ySays w h':=⟨k _ _ y.1,InK.keeps (K:=theK) w h h' y.2 k⟩
end Mine
set_option maxHeartbeats 0 in
theorem PySem.Challenge.cw_pc0138_01_holds : PySem.Challenge.rw_pc0138_01.Holds := by
 w_on
 refine PySem.W.holds_law Mine.law_ws fun said=>?_
 refine PySem.W.holds_open (q:=Mine.qV) (loose:=Mine.looseV) (Xt:=Mine.XtV) (XP:=PySem.W.XL Mine.qV []) (Yf:=Mine.YfV) (Ya:=Mine.YaV) (YP:=Mine.ySays) (N:=8000) Mine.leftV Mine.hk_of Mine.hk_keeps (fun s e=>PySem.W.xl_of s (Bool.and_eq_true_iff.mp e).1) PySem.W.XL.keeps (by rfl) (by rfl) (by rfl) (fun s e=>PySem.W.recFacts_of (Bool.and_eq_true_iff.mp e).2) (by rfl) Mine.row_ws (by decide +kernel) ⟨rfl,rfl,rfl,rfl,rfl,by decide +kernel⟩ ?hw ?hc
 case hw=>w_witness2
 exact Mine.walk_any rfl
