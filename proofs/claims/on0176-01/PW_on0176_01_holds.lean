import PyProof.Rows.All
import KE.KItem
import KE.KDictOf
import KE.KPar
import KE.KStateDown
import Wide.FinOn
import OpenK.AllK
import Wide.All
import PySem.Challenge.RW_on0176_01
set_option Elab.async false
set_option maxRecDepth 100000
set_option linter.all false
set_option linter.unusedVariables false
set_option linter.unusedSimpArgs false
section
open PySem PySem.W PyProof.Rows PySem.Calls
namespace Mine
theorem cps {P:Prop} (h:∀ C:Prop,(P→C)→C):P:=h P id
theorem pn {a b:Nat} (h:a≠b):a∉[b]:=fun q=>h (List.mem_singleton.mp q)
theorem J8 {a b c:Nat} (h:a≠b) (h2:a≠c):a∉[b,c]:=fun q=>(List.mem_cons.mp q).elim h fun q=>h2 (List.mem_singleton.mp q)
theorem G5 {a b:Nat}:b∈[a,b]:=List.mem_cons_of_mem _ List.mem_cons_self
theorem in1 {a:Nat}:a∈[a]:=List.mem_cons_self
theorem nk {N i j:Nat} (h:i≠j):N + i≠N + j:=fun e=>h (Nat.add_left_cancel e)
theorem na {a N:Nat} (h:a < N) (k:Nat):a≠N + k:=Nat.ne_of_lt (Nat.lt_of_lt_of_le h (Nat.le_add_right N k))
theorem Cm {n i:Nat} (h:n - i=0) (hi:i≤n):i=n:=Nat.le_antisymm hi (Nat.sub_eq_zero_iff_le.mp h)
theorem EH {n i m:Nat} (h:n - i=m + 1):i < n:=Nat.lt_of_sub_pos (h▸Nat.succ_pos m)
theorem zl {n i m:Nat} (h:n - i=m + 1):n - (i + 1)=m:=congrArg Nat.pred h
theorem gz {α β:Type}{o:Option α}{f:α→Option β}{r:β}{P:Prop} (h:o.bind f=some r) (k:∀ a,o=some a→f a=some r→P):P:=by
  cases o with
  | none=>cases h
  | some a=>exact k a rfl h
theorem bf {α α' β:Type}{o:Option (α × α')}{f:α × α'→Option β}{r:β}{P:Prop} (h:o.bind f=some r) (k:∀ a b,o=some (a,b)→f (a,b)=some r→P):P:=gz h fun a=>k a.1 a.2
theorem fJ {α β:Type}{o:Option α}{f:α→β}{r:β}{P:Prop} (h:o.map f=some r) (k:∀ a,o=some a→f a=r→P):P:=by
  cases o with
  | none=>cases h
  | some a=>exact k a rfl (Option.some.inj h)
theorem yC {α α' β:Type}{o:Option (α × α')}{f:α × α'→β}{r:β}{P:Prop} (h:o.map f=some r) (k:∀ a b,o=some (a,b)→f (a,b)=r→P):P:=fJ h fun a=>k a.1 a.2
set_option genSizeOf false
inductive V where
  | none | bool (b:Bool) | int (i:Int) | str (s:List Nat) | tup (l:List V) | lst (l:List V)
  | jo (l:List (List Nat × V)) | inst (c:Nat) (fs:List V) | ref (k:Nat)
inductive Ob where
  | lst (l:List V) | jo (l:List (List Nat × V)) | inst (c:Nat) (fs:List V) | dead
noncomputable def Ob.isDead:Ob→Bool
  | .dead=>true
  | _=>false
theorem gl {o:Ob} (h:o.isDead=false):o ≠ .dead:=fun e=>by rw[e] at h; cases h
noncomputable abbrev Hp:=List Ob
noncomputable abbrev Loc:=List (Option V)
set_option genInjectivity false in
structure Hd where
  a:Addr
  d:Addr
  live:Bool
noncomputable def foot (ρ:List Hd):List Addr:=ρ.flatMap fun h=>if h.live then [h.a,h.d] else []
theorem bT {ρ:List Hd}{a:Addr}:a∈foot ρ↔∃ (k:Nat) (hd:Hd),ρ[k]? = some hd∧hd.live=true∧(a=hd.a∨a=hd.d):=by
  unfold foot
  rw[List.mem_flatMap]
  constructor
  · rintro ⟨hd,hm,ha⟩
    obtain⟨k,hk⟩:=List.getElem?_of_mem hm
    refine⟨k,hd,hk,?_⟩
    cases hl:hd.live with
    | true=>rw[hl,if_pos rfl] at ha; simpa using ha
    | false=>rw[hl] at ha; simp at ha
  · rintro ⟨k,hd,hk,hl,ha⟩
    refine⟨hd,List.mem_of_getElem? hk,?_⟩
    rw[hl,if_pos rfl]; simpa using ha
set_option genInjectivity false in
structure Vw where
  h:Heap
  ρ:List Hd
  R:List Addr
noncomputable def Vw.Fix (s:Vw) (a:Addr) (o:Obj):Prop:=s.h.get? a=some o∧a∉foot s.ρ∧a∉s.R
set_option genInjectivity false in
structure Jg where
  addr:Addr
  sI:List Str
set_option genInjectivity false in
structure LN where
  n:Nat
  d:Option Addr
  sl:Array (Option Value)
noncomputable abbrev ny (xs:List Value) (q:LN):Obj:={ cls := .type "list",data := .seq xs.toArray q.n,slots:=q.sl }
noncomputable abbrev su (xs:List Value) (n:Nat):Obj:={ cls := .type "tuple",data := .seq xs.toArray n }
set_option genInjectivity false in
structure Pg where
  prog:Program
  w:World
  cls:List Jg
mutual
inductive VR (G:Pg) (s:Vw):V→Value→Prop
  | none:VR G s .none .none
  | bool (b:Bool):VR G s (.bool b) (.bool b)
  | int (i:Int) (t:Tok):VR G s (.int i) (.int i t)
  | str (x:Str) (t:Tok):x.cps.size≤1048576→VR G s (.str x.cps.toList) (.str x t)
  | tup {l:List V}{a:Addr}{xs:List Value}{n:Nat}:s.Fix a (su xs n)→xs.length≤1048576→eZ G s l xs→VR G s (.tup l) (.ref a)
  | lst {l:List V}{a:Addr}{xs:List Value}{n:LN}:s.Fix a (ny xs n)→xs.length≤1048576→eZ G s l xs→VR G s (.lst l) (.ref a)
  | jo {l:List (List Nat × V)}{a:Addr}{o:Obj}{kvs:List (Str × Value)}:s.Fix a o→a≠sysModules→Obj.IsDictOf (PySem.strKind G.prog G.w) o kvs→kvs.length≤1048576→ER G s l kvs→VR G s (.jo l) (.ref a)
  | inst {c:Nat}{C:Jg}{fs:List V}{a d:Addr}{es:List DictEntry}{n:Nat}:G.cls[c]? = some C→s.Fix a (instObj C.addr d)→s.Fix d (dictOf es n)→FR G s fs C.sI es→VR G s (.inst c fs) (.ref a)
  | ref {k:Nat}{hd:Hd}:s.ρ[k]? = some hd→VR G s (.ref k) (.ref hd.a)
inductive eZ (G:Pg) (s:Vw):List V→List Value→Prop
  | nil:eZ G s [] []
  | cons {v:V}{x:Value}{l:List V}{xs:List Value}:VR G s v x→eZ G s l xs→eZ G s (v::l) (x::xs)
inductive ER (G:Pg) (s:Vw):List (List Nat × V)→List (Str × Value)→Prop
  | nil:ER G s [] []
  | cons {k:Str}{v:V}{x:Value}{l:List (List Nat × V)}{xs:List (Str × Value)}:VR G s v x→ER G s l xs→ER G s ((k.cps.toList,v)::l) ((k,x)::xs)
inductive FR (G:Pg) (s:Vw):List V→List Str→List DictEntry→Prop
  | nil {ns:List Str}:FR G s [] ns []
  | cons {v:V}{x:Value}{hs:Int}{n:Str}{t:Tok}{l:List V}{ns:List Str}{es:List DictEntry}:VR G s v x→FR G s l ns es→FR G s (v::l) (n::ns) (⟨hs, .str n t,x⟩::es)
end
structure Vw.Le (s s':Vw):Prop where
  fix:∀ a o,s.Fix a o→s'.Fix a o
  hd:∀ (k:Nat) (hd:Hd),s.ρ[k]? = some hd→∃ hd':Hd,s'.ρ[k]? = some hd'∧hd'.a=hd.a
theorem VR.mono {G:Pg}{s s':Vw} (q:s.Le s') {v:V}{x:Value} (r:VR G s v x):VR G s' v x:=
  VR.rec (motive_1:=fun v x _=>VR G s' v x) (motive_2:=fun l xs _=>eZ G s' l xs) (motive_3:=fun l k _=>ER G s' l k) (motive_4:=fun l n e _=>FR G s' l n e)
    .none .bool .int .str (fun hf hz _ ih => .tup (q.fix _ _ hf) hz ih) (fun hf hz _ ih => .lst (q.fix _ _ hf) hz ih) (fun hf hm hi hz _ ih => .jo (q.fix _ _ hf) hm hi hz ih) (fun hc h1 h2 _ ih => .inst hc (q.fix _ _ h1) (q.fix _ _ h2) ih)
    (fun hk=>(q.hd _ _ hk).elim fun hd' e=>e.2 ▸ .ref e.1) .nil (fun _ _ a b => .cons a b) .nil (fun _ _ a b => .cons a b) .nil (fun _ _ a b => .cons a b) r
theorem eZ.mono {G:Pg}{s s':Vw} (q:s.Le s') {l:List V}:∀ {xs:List Value},eZ G s l xs→eZ G s' l xs:=by
  induction l with
  | nil=>intro xs r; cases r; exact .nil
  | cons v l ih=>intro xs r; cases r with | cons a r=>exact .cons (a.mono q) (ih r)
theorem ER.mono {G:Pg}{s s':Vw} (q:s.Le s') {l:List (List Nat × V)}:∀ {xs:List (Str × Value)},ER G s l xs→ER G s' l xs:=by
  induction l with
  | nil=>intro xs r; cases r; exact .nil
  | cons v l ih=>intro xs r; cases r with | cons a r=>exact .cons (a.mono q) (ih r)
theorem FR.mono {G:Pg}{s s':Vw} (q:s.Le s') {l:List V}:∀ {ns:List Str}{x:List DictEntry},FR G s l ns x→FR G s' l ns x:=by
  induction l with
  | nil=>intro ns xs r; cases r; exact .nil
  | cons v l ih=>intro ns xs r; cases r with | cons a r=>exact .cons (a.mono q) (ih r)
structure Step (W:List Addr) (ρ:List Hd) (s:Shared) (ρ':List Hd) (s':Shared):Prop where
  keep:∀ a o,s.heap.get? a=some o→a∉foot ρ→a∉W→s'.heap.get? a=some o
  ex:∀ a o,s.heap.get? a=some o→∃ o',s'.heap.get? a=some o'
  ext:∀ (k:Nat) (hd:Hd),ρ[k]? = some hd→∃ hd':Hd,ρ'[k]? = some hd'∧hd'.a=hd.a
  ft:∀ a∈foot ρ',a∈foot ρ∨s.heap.get? a=none
  gens:s'.gens=s.gens
  os:s'.os=s.os
theorem Step.refl {W:List Addr}{ρ:List Hd}{s:Shared}:Step W ρ s ρ s:=⟨fun _ _ e _ _=>e,fun _ o e=>⟨o,e⟩,fun _ hd e=>⟨hd,e,rfl⟩,fun _ h => .inl h,rfl,rfl⟩
theorem Step.toks {W:List Addr}{ρ:List Hd}{s:Shared}{tk:Nat}:Step W ρ s ρ { s with toks:=tk }:=⟨fun _ _ e _ _=>e,fun _ o e=>⟨o,e⟩,fun _ hd e=>⟨hd,e,rfl⟩,fun _ h => .inl h,rfl,rfl⟩
theorem bB {h:Heap}{a:Addr}{o:Obj} (e:h.get? a=some o) (q:h.get? a=none):False:=by rw[e] at q; cases q
theorem Step.old {W:List Addr}{ρ ρ':List Hd}{s s':Shared} (x:Step W ρ s ρ' s') {a:Addr} (q:s'.heap.get? a=none):s.heap.get? a=none:=by
  cases e:s.heap.get? a with
  | none=>rfl
  | some o=>obtain⟨o',e'⟩:=x.ex a o e; rw[e'] at q; cases q
theorem Step.trans {W:List Addr}{ρ ρ' ρ'':List Hd}{s s' s'':Shared} (x:Step W ρ s ρ' s') (y:Step W ρ' s' ρ'' s''):Step W ρ s ρ'' s'':=by
  refine⟨fun a o e hf hw=>y.keep a o (x.keep a o e hf hw) (fun h=>?_) hw,fun a o e=>?_,fun k hd e=>?_,fun a h=>?_,y.gens.trans x.gens,y.os.trans x.os⟩
  · exact(x.ft a h).elim hf (bB e)
  · obtain⟨o',e'⟩:=x.ex a o e
    exact y.ex a o' e'
  · obtain⟨h1,e1,q1⟩:=x.ext k hd e
    obtain⟨h2,e2,q2⟩:=y.ext k h1 e1
    exact⟨h2,e2,q2.trans q1⟩
  · rcases y.ft a h with h | h
    · exact x.ft a h
    · exact .inr (x.old h)
theorem Step.more {W W':List Addr}{ρ ρ':List Hd}{s s':Shared} (x:Step W ρ s ρ' s') (h:∀ a∈W,a∈W'∨s.heap.get? a=none):Step W' ρ s ρ' s':=
  ⟨fun a o e hf hw=>x.keep a o e hf (fun q=>(h a q).elim hw (bB e)),x.ex,x.ext,x.ft,x.gens,x.os⟩
theorem Step.any {W:List Addr}{ρ ρ':List Hd}{s s':Shared} (x:Step [] ρ s ρ' s'):Step W ρ s ρ' s':=x.more (fun _ h=>nomatch h)
theorem Step.K0 {W R R':List Addr}{ρ ρ':List Hd}{s s':Shared} (x:Step W ρ s ρ' s') (hW:∀ a∈W,a∈R∨s.heap.get? a=none) (hR:∀ a∈R',a∈R∨s.heap.get? a=none):Vw.Le ⟨s.heap,ρ,R⟩ ⟨s'.heap,ρ',R'⟩:=by
  refine⟨fun a o h=>?_,x.ext⟩
  obtain⟨e,hf,hr⟩:=h
  exact⟨x.keep a o e hf (fun q=>(hW a q).elim hr (bB e)),fun q=>(x.ft a q).elim hf (bB e),fun q=>(hR a q).elim hr (bB e)⟩
theorem Step.le {W R:List Addr}{ρ ρ':List Hd}{s s':Shared} (x:Step W ρ s ρ' s') (hW:∀ a∈W,a∈R):Vw.Le ⟨s.heap,ρ,R⟩ ⟨s'.heap,ρ',R⟩:=x.K0 (fun a h => .inl (hW a h)) fun _ h => .inl h
theorem Step.D1 {R:List Addr}{ρ ρ':List Hd}{s s':Shared} (x:Step [] ρ s ρ' s'):Vw.Le ⟨s.heap,ρ,R⟩ ⟨s'.heap,ρ',R⟩:=x.le fun _ h=>nomatch h
noncomputable def OR (G:Pg) (s:Vw):Ob→Hd→Prop
  | .lst l,hd=>∃ xs n,s.h.get? hd.a=some (ny xs ⟨n,none,#[]⟩)∧xs.length≤1048576∧eZ G s l xs
  | .jo l,hd=>∃ o kvs,s.h.get? hd.a=some o∧hd.a≠sysModules∧Obj.IsDictOf (PySem.strKind G.prog G.w) o kvs∧kvs.length≤1048576∧ER G s l kvs
  | .inst c fs,hd=>∃ C es n,G.cls[c]? = some C∧s.h.get? hd.a=some (instObj C.addr hd.d)∧s.h.get? hd.d=some (dictOf es n)∧FR G s fs C.sI es∧hd.a≠hd.d
  | .dead,_=>True
structure Good (G:Pg) (top:Heap) (ρ:List Hd) (R:List Addr) (H:Hp) (h:Heap):Prop where
  top:∀ a o,top.get? a=some o→Vw.Fix ⟨h,ρ,R⟩ a o
  len:ρ.length=H.length
  ob:∀ (k:Nat) (ob:Ob) (hd:Hd),H[k]? = some ob→ρ[k]? = some hd→ob ≠ .dead→hd.live=true∧OR G ⟨h,ρ,R⟩ ob hd
  nd:∀ (i j:Nat) (hi hj:Hd),ρ[i]? = some hi→ρ[j]? = some hj→hi.live=true→hj.live=true→i≠j→hi.a≠hj.a∧hi.a≠hj.d∧hi.d≠hj.a∧hi.d≠hj.d
  lt:∀ a∈foot ρ,∃ o,h.get? a=some o
  rs:∀ a∈foot ρ,a∉R
  yr:∀ a∈R,∃ o,h.get? a=some o
theorem OR.mono {G:Pg}{s s':Vw} (q:s.Le s') {ob:Ob}{hd:Hd} (ha:∀ o,s.h.get? hd.a=some o→s'.h.get? hd.a=some o) (hdd:∀ o,s.h.get? hd.d=some o→s'.h.get? hd.d=some o)
    (x:OR G s ob hd):OR G s' ob hd:=by
  cases ob with
  | lst l=>obtain⟨xs,n,h1,hz,h5⟩:=x; exact⟨xs,n,ha _ h1,hz,h5.mono q⟩
  | jo l=>obtain⟨o,kvs,h1,h2,h3,hz,h4⟩:=x; exact⟨o,kvs,ha _ h1,h2,h3,hz,h4.mono q⟩
  | inst c fs=>obtain⟨C,es,n,h1,h2,h3,h4,h5⟩:=x; exact⟨C,es,n,h1,ha _ h2,hdd _ h3,h4.mono q,h5⟩
  | dead=>trivial
theorem Good.keeps {G:Pg}{top:Heap}{ρ:List Hd}{R R':List Addr}{H:Hp}{s s':Shared}{W:List Addr} (g:Good G top ρ R H s.heap) (x:Step W ρ s ρ s') (hW:∀ a∈W,a∈R∨s.heap.get? a=none)
    (hR:∀ a∈R',a∈R∨s.heap.get? a=none) (hlt:∀ a∈R',∃ o,s'.heap.get? a=some o) (hk:∀ a∈foot ρ,∀ o,s.heap.get? a=some o→s'.heap.get? a=some o):Good G top ρ R' H s'.heap:=by
  have le:=x.K0 hW hR
  refine⟨fun a o e=>le.fix a o (g.top a o e),g.len,fun k ob hd e1 e2 hne=>?_,g.nd,fun a h=>?_,fun a h q=>?_,hlt⟩
  · obtain⟨hl,ho⟩:=g.ob k ob hd e1 e2 hne
    have fa:hd.a∈foot ρ:=bT.mpr ⟨k,hd,e2,hl, .inl rfl⟩
    have fd:hd.d∈foot ρ:=bT.mpr ⟨k,hd,e2,hl, .inr rfl⟩
    exact⟨hl,ho.mono le (fun o e=>hk _ fa o e) (fun o e=>hk _ fd o e)⟩
  · obtain⟨o,e⟩:=g.lt a h; exact x.ex a o e
  · obtain⟨o,e⟩:=g.lt a h
    exact(hR a q).elim (g.rs a h) (bB e)
theorem Good.KN {G:Pg}{top:Heap}{ρ:List Hd}{R:List Addr}{H:Hp}{s s':Shared} (g:Good G top ρ R H s.heap) (x:Step [] ρ s ρ s') (hk:∀ a∈foot ρ,∀ o,s.heap.get? a=some o→s'.heap.get? a=some o):Good G top ρ R H s'.heap:=
  g.keeps x (fun _ h=>nomatch h) (fun _ h => .inl h) (fun a h=>by obtain⟨o,e⟩:=g.yr a h; exact x.ex a o e) hk
theorem cm {ρ:List Hd}{s:Shared}{h':Heap}{tk:Nat} (hk:∀ b o,s.heap.get? b=some o→h'.get? b=some o):Step [] ρ s ρ { s with heap:=h',toks:=tk }:=
  ⟨fun a o e _ _=>hk a o e,fun a o e=>⟨o,hk a o e⟩,fun _ hd e=>⟨hd,e,rfl⟩,fun _ h => .inl h,rfl,rfl⟩
theorem Good.grow {G:Pg}{top:Heap}{ρ:List Hd}{R:List Addr}{H:Hp}{s:Shared}{h':Heap} (g:Good G top ρ R H s.heap) (hk:∀ b o,s.heap.get? b=some o→h'.get? b=some o):Good G top ρ R H h':=
  g.KN (s':={ s with heap:=h',toks:=s.toks }) (cm hk) fun a _ o e=>hk a o e
theorem cN {h:Heap}{o:Obj}:∀ b ob,h.get? b=some ob→(h.push o).get? b=some ob:=fun _ _ e=>Heap.get?_push_of_some _ e
theorem iS {ρ:List Hd}{s:Shared}{o:Obj}{tk:Nat}:Step [] ρ s ρ { s with heap:=s.heap.push o,toks:=tk }:=cm cN
theorem Good.push {G:Pg}{top:Heap}{ρ:List Hd}{R:List Addr}{H:Hp}{s:Shared}{o:Obj}{tk:Nat} (g:Good G top ρ R H s.heap):Good G top ρ R H ({ s with heap:=s.heap.push o,toks:=tk }:Shared).heap:=g.grow cN
theorem rQ {G:Pg}{top:Heap}{ρ:List Hd}{R:List Addr}{H:Hp}{h:Heap}{o:Obj} (g:Good G top ρ R H h) (hf:o.isFreed=false):
    Vw.Fix ⟨h.push o,ρ,R⟩ h.objs.size o:=
  ⟨Heap.get?_push_size _ hf,fun q=>by obtain⟨o,e⟩:=g.lt _ q; exact Nat.lt_irrefl _ (Heap.lt_size e),fun q=>by obtain⟨o,e⟩:=g.yr _ q; exact Nat.lt_irrefl _ (Heap.lt_size e)⟩
theorem rV {G:Pg}{top:Heap}{ρ:List Hd}{R:List Addr}{H:Hp}{h h':Heap}{o:Obj}{D:Addr} (g:Good G top ρ R H h) (e:h'.get? D=some o) (hn:h.get? D=none):Vw.Fix ⟨h',ρ,R⟩ D o:=
  ⟨e,fun q=>by obtain⟨o,e⟩:=g.lt _ q; exact bB e hn,fun q=>by obtain⟨o,e⟩:=g.yr _ q; exact bB e hn⟩
theorem VR.step {G:Pg}{R:List Addr}{ρ ρ':List Hd}{s s':Shared}{v:V}{x:Value} (r:VR G ⟨s.heap,ρ,R⟩ v x) (q:Step [] ρ s ρ' s'):VR G ⟨s'.heap,ρ',R⟩ v x:=r.mono q.D1
theorem eZ.step {G:Pg}{R:List Addr}{ρ ρ':List Hd}{s s':Shared}{v:List V}{x:List Value} (r:eZ G ⟨s.heap,ρ,R⟩ v x) (q:Step [] ρ s ρ' s'):eZ G ⟨s'.heap,ρ',R⟩ v x:=r.mono q.D1
structure cX (G:Pg) (sc:Scope) (env:Env) (M:Loc) (P:List Addr) (ρ:List Hd) (R:List Addr) (h:Heap):Prop where
  scope:env.scope=sc
  HG:env.globals=mainGlobals
  Jd:env.builtins=builtinsNs
  loc:∃ m,h.Ns env.locals m∧∀ (i:Nat) (x:Str) (v:V),sc.names[i]? = some (x, .local)→M[i]? = some (some v)→∃ val,m x=some val∧VR G ⟨h,ρ,R⟩ v val
  vp:∀ (i:Nat) (x:Str) (k:NameKind) (v:V),sc.names[i]? = some (x,k)→(k = .cell∨k = .free)→M[i]? = some (some v)→∃ c val,env.cells.lookup x=some c∧h.IsCell c (some val)∧VR G ⟨h,ρ,R⟩ v val
  own:∀ (i:Nat) (x:Str),sc.names[i]? = some (x, .cell)→env.locals∈P→∃ c o,env.cells.lookup x=some c∧h.IsCell c o
  Ju:env.locals∈R
  Js:env.locals∉foot ρ
  AB:∀ (x:Str) (c:Addr),env.cells.lookup x=some c→c∈R∧c∉foot ρ∧c≠env.locals∧∃ o,h.get? c=some o
  Ic:∀ (x y:Str) (c:Addr),env.cells.lookup x=some c→env.cells.lookup y=some c→x=y
theorem Heap.IsCell.of {h h':Heap}{c:Addr}{v:Option Value} (x:h.IsCell c v) (k:∀ o,h.get? c=some o→h'.get? c=some o):h'.IsCell c v:=by
  obtain⟨o,e,d⟩:=x; exact⟨o,k o e,d⟩
theorem Heap.Ns.of {h h':Heap}{a:Addr}{m:Str→Option Value} (x:h.Ns a m) (k:∀ o,h.get? a=some o→h'.get? a=some o):h'.Ns a m:=by
  obtain⟨o,es,ep,e,r⟩:=x; exact⟨o,es,ep,k o e,r⟩
theorem cX.step {G:Pg}{sc:Scope}{env:Env}{M:Loc}{P:List Addr}{ρ ρ':List Hd}{R R' W:List Addr}{s s':Shared} (l:cX G sc env M P ρ R s.heap) (x:Step W ρ s ρ' s')
    (hW:∀ a∈W,a∈R∨s.heap.get? a=none) (hW2:env.locals∉W) (hW3:∀ x c,env.cells.lookup x=some c→c∉W)
    (hR:∀ a∈R',a∈R∨s.heap.get? a=none) (hR':∀ a∈R,a∈R'):cX G sc env M P ρ' R' s'.heap:=by
  have le:=x.K0 (R:=R) (R':=R') hW hR
  obtain⟨m,hn,hm⟩:=l.loc
  have kc:∀ {x c o},env.cells.lookup x=some c→s.heap.IsCell c o→s'.heap.IsCell c o:=fun e hc=>Heap.IsCell.of hc fun o' e'=>x.keep _ _ e' (l.AB _ _ e).2.1 (hW3 _ _ e)
  refine⟨l.scope,l.HG,l.Jd,⟨m,Heap.Ns.of hn fun o e=>x.keep _ _ e l.Js hW2,fun i y v e1 e2=>?_⟩,fun i y k v e1 hk e2=>?_,fun i y e hp=>?_,hR' _ l.Ju,fun q=>?_,fun y c e=>?_,l.Ic⟩
  · obtain⟨val,h1,h2⟩:=hm i y v e1 e2
    exact⟨val,h1,h2.mono le⟩
  · obtain⟨c,val,h1,h2,h3⟩:=l.vp i y k v e1 hk e2
    exact⟨c,val,h1,kc h1 h2,h3.mono le⟩
  · obtain⟨c,o,h1,h2⟩:=l.own i y e hp
    exact⟨c,o,h1,kc h1 h2⟩
  · obtain⟨o,es,ep,e,_⟩:=hn
    exact(x.ft _ q).elim l.Js (bB e)
  · obtain⟨h1,h2,h3,h4⟩:=l.AB y c e
    obtain⟨o,h4⟩:=h4
    exact⟨hR' _ h1,fun q=>(x.ft _ q).elim h2 (bB h4),h3,x.ex _ _ h4⟩
theorem cX.cT {G:Pg}{sc:Scope}{env:Env}{M:Loc}{P:List Addr}{ρ ρ':List Hd}{R:List Addr}{s s':Shared} (l:cX G sc env M P ρ R s.heap) (x:Step [] ρ s ρ' s'):cX G sc env M P ρ' R s'.heap:=
  l.step x (fun _ h=>nomatch h) (fun h=>nomatch h) (fun _ _ _ h=>nomatch h) (fun _ h => .inl h) fun _ h=>h
noncomputable def JF (sc:Scope):Bool:=
  decide (sc.kind = .function)&&decide ((sc.names.map (·.1)).Nodup)&&sc.names.all (fun p=>!(p.1==("__debug__":Str))&&!(p.1==("__classdict__":Str)))
structure jX (sc:Scope):Prop where
  kind:sc.kind = .function
  nd:(sc.names.map (·.1)).Nodup
  LQ:∀ p∈sc.names,(p.1==("__debug__":Str))=false∧(p.1==("__classdict__":Str))=false
theorem bt {sc:Scope} (h:JF sc=true:=by kernel_rfl):jX sc:=by
  unfold JF at h
  simp only[Bool.and_eq_true,decide_eq_true_eq,List.all_eq_true,Bool.not_eq_true'] at h
  exact⟨h.1.1,h.1.2,fun p hp=>h.2 p hp⟩
theorem lookup_at:∀ {l:List (Str × NameKind)}{i:Nat}{x:Str}{k:NameKind},(l.map (·.1)).Nodup→l[i]? = some (x,k)→l.lookup x=some k
  | [],_,_,_,_,h=>by cases h
  | (y,j)::l,0,x,k,_,h=>by
    simp only[List.getElem?_cons_zero,Option.some.injEq,Prod.mk.injEq] at h
    rw[List.lookup_cons,h.1,beq_self_eq_true,h.2]
  | (y,j)::l,i + 1,x,k,hn,h=>by
    rw[List.map_cons,List.nodup_cons] at hn
    rw[List.getElem?_cons_succ] at h
    have:(x==y)=false:=by
      rw[beq_eq_false_iff_ne]
      rintro rfl
      exact hn.1 (List.mem_map.mpr ⟨_,List.mem_of_getElem? h,rfl⟩)
    rw[List.lookup_cons,this]
    exact lookup_at hn.2 h
theorem eZ.length {G:Pg}{s:Vw}{l:List V}:∀ {xs:List Value},eZ G s l xs→xs.length=l.length:=by
  induction l with
  | nil=>intro xs r; cases r; rfl
  | cons v l ih=>intro xs r; cases r with | cons a r=>exact congrArg (· + 1) (ih r)
theorem eZ.get {G:Pg}{s:Vw}{l:List V}:∀ {xs:List Value}{i:Nat}{v:V},eZ G s l xs→l[i]? = some v→∃ x,xs[i]? = some x∧VR G s v x:=by
  induction l with
  | nil=>intro xs i v _ e; cases e
  | cons w l ih=>
    intro xs i v r e
    cases r with | cons a r=>
    cases i with
    | zero=>exact⟨_,rfl,Option.some.inj e▸a⟩
    | succ i=>
      obtain⟨x,h1,h2⟩:=ih r (show l[i]? = some v from e)
      exact⟨x,h1,h2⟩
theorem eZ.append {G:Pg}{s:Vw}{l l':List V}:∀ {xs xs':List Value},eZ G s l xs→eZ G s l' xs'→eZ G s (l++l') (xs++xs'):=by
  induction l with
  | nil=>intro xs xs' r y; cases r; exact y
  | cons v l ih=>intro xs xs' r y; cases r with | cons a r=>exact .cons a (ih r y)
end Mine
end
section
open PySem PySem.W PyProof.Rows PySem.Calls
namespace Mine
set_option genInjectivity false in
structure fL extends Pg where
  K:Frag
  p:Program
  loose:List Str
  mg:Str→Option Value
  mb:Str→Option Value
  top:Heap
  X:K.In top
  T:TopRead p loose mg mb top
structure ij (n:Nat) (A:Around):Prop where
  hd:A.handled=none
  dp:A.depth + 2 * n≤600
  un:A.units + 20 * n≤9000
theorem ij.le {n m:Nat}{A:Around} (r:ij n A) (h:m≤n):ij m A:=⟨r.hd,Nat.le_trans (Nat.add_le_add_left (Nat.mul_le_mul_left 2 h) _) r.dp,Nat.le_trans (Nat.add_le_add_left (Nat.mul_le_mul_left 20 h) _) r.un⟩
noncomputable abbrev EF:=Loc→Hp→Option (V × Hp)
noncomputable abbrev TF:=Loc→Hp→Option (Bool × Hp)
noncomputable def QE (U:fL) (ρ:List Hd) (R:List Addr) (s:Shared) (Q:Value→Shared→Prop) (v:V) (H':Hp):Prop:=∀ x s' ρ',Step [] ρ s ρ' s'→Good U.toPg U.top ρ' R H' s'.heap→VR U.toPg ⟨s'.heap,ρ',R⟩ v x→Q x s'
noncomputable def QT (U:fL) (ρ:List Hd) (R:List Addr) (s:Shared) (Q:Bool→Shared→Prop) (v:Bool) (H':Hp):Prop:=∀ s' ρ',Step [] ρ s ρ' s'→Good U.toPg U.top ρ' R H' s'.heap→Q v s'
noncomputable def QO (U:fL) (ρ:List Hd) (R:List Addr) (H:Hp) (s:Shared) (Q:Value→Shared→Prop) (v:V):Prop:=∀ z s',Step [] ρ s ρ s'→Good U.toPg U.top ρ R H s'.heap→VR U.toPg ⟨s'.heap,ρ,R⟩ v z→Q z s'
noncomputable def aA (U:fL) (n:Nat) (sc:Scope) (e:PySem.Expr) (f:EF):Prop:=
  ∀ (A:Around) (env:Env) (M:Loc) (P:List Addr) (ρ:List Hd) (R:List Addr) (H:Hp) (s:Shared) (Q:Value→Shared→Prop) (E:Value→Shared→Prop) (v:V) (H':Hp),
    ij n A→jX sc→Good U.toPg U.top ρ R H s.heap→cX U.toPg sc env M P ρ R s.heap→f M H=some (v,H')→
    QE U ρ R s Q v H'→
    wpAny (model U.prog U.w) A (eval e env) Q E s
noncomputable def kY (U:fL) (n:Nat) (sc:Scope) (e:PySem.Expr) (f:TF):Prop:=
  ∀ (A:Around) (env:Env) (M:Loc) (P:List Addr) (ρ:List Hd) (R:List Addr) (H:Hp) (s:Shared) (Q:Bool→Shared→Prop) (E:Value→Shared→Prop) (v:Bool) (H':Hp),
    ij n A→jX sc→Good U.toPg U.top ρ R H s.heap→cX U.toPg sc env M P ρ R s.heap→f M H=some (v,H')→
    QT U ρ R s Q v H'→
    wpAny (model U.prog U.w) A (isTrue e env (eval e env)) Q E s
noncomputable def cU (U:fL) (op:V→V→Hp→Option V) (real:Value→Value→Sem Value):Prop:=
  ∀ (A:Around) (ρ:List Hd) (R:List Addr) (H:Hp) (s:Shared) (Q:Value→Shared→Prop) (E:Value→Shared→Prop) (a b v:V) (x y:Value),
    ij 0 A→Good U.toPg U.top ρ R H s.heap→VR U.toPg ⟨s.heap,ρ,R⟩ a x→VR U.toPg ⟨s.heap,ρ,R⟩ b y→op a b H=some v→
    QO U ρ R H s Q v→
    wpAny (model U.prog U.w) A (real x y) Q E s
noncomputable def i7 (U:fL) (op:V→Hp→Option V) (real:Value→Sem Value):Prop:=
  ∀ (A:Around) (ρ:List Hd) (R:List Addr) (H:Hp) (s:Shared) (Q:Value→Shared→Prop) (E:Value→Shared→Prop) (a v:V) (x:Value),
    ij 0 A→Good U.toPg U.top ρ R H s.heap→VR U.toPg ⟨s.heap,ρ,R⟩ a x→op a H=some v→
    QO U ρ R H s Q v→
    wpAny (model U.prog U.w) A (real x) Q E s
noncomputable def aa (i:Nat):EF:=fun M H=>(M[i]?.join).map fun v=>(v,H)
noncomputable def ab (v:V):EF:=fun _ H=>some (v,H)
noncomputable def av (op:V→V→Hp→Option V) (f g:EF):EF:=fun M H=>(f M H).bind fun p=>(g M p.2).bind fun q=>(op p.1 q.1 q.2).map fun v=>(v,q.2)
noncomputable def aW (op:V→Hp→Option V) (f:EF):EF:=fun M H=>(f M H).bind fun p=>(op p.1 p.2).map fun v=>(v,p.2)
noncomputable def th (t:TF) (f g:EF):EF:=fun M H=>(t M H).bind fun p=>if p.1 then f M p.2 else g M p.2
noncomputable def truth:V→Hp→Option Bool
  | .none,_=>some false
  | .bool b,_=>some b
  | .int i,_=>some (i != 0)
  | .str s,_=>some (!s.isEmpty)
  | .lst l,_=>some (!l.isEmpty)
  | .ref k,H=>match H[k]? with
    | some (.lst l)=>some (!l.isEmpty)
    | _=>none
  | _,_=>none
noncomputable def cb (f:EF):TF:=fun M H=>(f M H).bind fun p=>(truth p.1 p.2).map fun b=>(b,p.2)
noncomputable def iF (f:TF):TF:=fun M H=>(f M H).map fun p=>(!p.1,p.2)
noncomputable def kM (f g:TF):TF:=fun M H=>(f M H).bind fun p=>if p.1 then g M p.2 else some (false,p.2)
noncomputable def u9 (f g:TF):TF:=fun M H=>(f M H).bind fun p=>if p.1 then some (true,p.2) else g M p.2
noncomputable def aG (op:V→V→Hp→Option Bool) (f g:EF):TF:=fun M H=>(f M H).bind fun p=>(g M p.2).bind fun q=>(op p.1 q.1 q.2).map fun b=>(b,q.2)
noncomputable def Io (f:EF) (g:EF):EF:=fun M H=>(f M H).bind fun p=>(truth p.1 p.2).bind fun b=>if b then some p else g M p.2
noncomputable def sz (op:V→V→Hp→Option Bool):V→V→Hp→Option V:=fun a b H=>(op a b H).map V.bool
section
variable {U:fL}{n:Nat}{sc:Scope}
theorem E.fK {k pos}:aA U n sc (.Constant .none k pos) (ab .none):=by
  intro A env M P ρ R H s Q E v H' _ _ g l hf hQ
  cases hf
  exact wpAny_Constant_none (hQ _ _ _ .refl g .none)
theorem E.io {b k pos}:aA U n sc (.Constant (.bool b) k pos) (ab (.bool b)):=by
  intro A env M P ρ R H s Q E v H' _ _ g l hf hQ
  cases hf
  exact wpAny_Constant_bool (hQ _ _ _ .refl g (.bool b))
theorem E.bp {i k pos}:aA U n sc (.Constant (.int i) k pos) (ab (.int i)):=by
  intro A env M P ρ R H s Q E v H' _ _ g l hf hQ
  cases hf
  exact wpAny_Constant_int (hQ _ _ _ .toks g (.int i _))
theorem E.aX {x:Str}{l:List Nat}{k pos} (h:x=⟨l.toArray⟩:=by kernel_rfl) (hz:l.length≤1048576:=by decide):aA U n sc (.Constant (.str x) k pos) (ab (.str l)):=by
  intro A env M P ρ R H s Q E v H' _ _ g lr hf hQ
  cases hf
  have:=VR.str (G:=U.toPg) (s:=⟨s.heap,ρ,R⟩) x s.toks (by rw[h]; simpa using hz)
  rw[h] at this
  exact wpAny_Constant_str (hQ _ _ _ .toks g (by rw[h]; exact this))
theorem E.loc {i:Nat}{x:Str}{k:NameKind}{pos:Pos} (h:sc.names[i]? = some (x,k)) (hk:k ≠ .globalImplicit∧k ≠ .globalExplicit):aA U n sc (.Name x pos) (aa i):=by
  intro A env M P ρ R H s Q E v H' _ so g l hf hQ
  unfold aa at hf
  refine fJ hf fun v' hv he=>?_
  cases he
  have hM:M[i]? = some (some v):=by
    cases q:M[i]? with
    | none=>rw[q] at hv; cases hv
    | some o=>rw[q] at hv; cases o with
      | none=>cases hv
      | some w=>cases hv; rfl
  have hkind:env.scope.kind = .function:=by rw[l.scope]; exact so.kind
  have hl:env.kindOf x=some k:=by show env.scope.names.lookup x=_; rw[l.scope]; exact lookup_at so.nd h
  have hdbg:=so.LQ _ (List.mem_of_getElem? h)
  obtain⟨m,hn,hm⟩:=l.loc
  cases k with
  | «local»=>
    obtain⟨val,h1,h2⟩:=hm i x v h hM
    exact wpAny_Name (wpAny_loadName_local hkind hl hn h1 (hQ _ _ _ .refl g h2)) hdbg.1
  | cell=>
    obtain⟨c,val,h1,h2,h3⟩:=l.vp i x _ v h (.inl rfl) hM
    exact wpAny_Name (wpAny_loadName_cell hkind hl h1 h2 (hQ _ _ _ .refl g h3)) hdbg.1
  | free=>
    obtain⟨c,val,h1,h2,h3⟩:=l.vp i x _ v h (.inr rfl) hM
    exact wpAny_Name (wpAny_loadName_free hkind hl h1 h2 (hQ _ _ _ .refl g h3) hdbg.2) hdbg.1
  | globalImplicit=>exact absurd rfl hk.1
  | globalExplicit=>exact absurd rfl hk.2
noncomputable def jP (U:fL) (x:Str) (v:V):Prop:=∃ val,nsIn U.K mainGlobals x=some (some val)∧∀ (ρ:List Hd) (R:List Addr) (H:Hp) (h:Heap),Good U.toPg U.top ρ R H h→VR U.toPg ⟨h,ρ,R⟩ v val
theorem Good.keep {G:Pg}{top:Heap}{ρ:List Hd}{R:List Addr}{H:Hp}{h:Heap} (g:Good G top ρ R H h):∀ a o,top.get? a=some o→h.get? a=some o:=fun a o e=>(g.top a o e).1
theorem Good.FZ {U:fL}{ρ:List Hd}{R:List Addr}{H:Hp}{h:Heap} (g:Good U.toPg U.top ρ R H h):U.K.In h:=U.X.keeps g.keep
theorem zT {i:Nat}{x:Str}{pos:Pos}{val:Value}{A:Around}{env:Env}{M:Loc}{P:List Addr}{ρ:List Hd}{R:List Addr}{H:Hp}{s:Shared}{Q:Value→Shared→Prop}{E:Value→Shared→Prop}
    (h:sc.names[i]? = some (x, .globalImplicit)) (so:jX sc) (g:Good U.toPg U.top ρ R H s.heap) (l:cX U.toPg sc env M P ρ R s.heap) (e:nsIn U.K mainGlobals x=some (some val)) (hQ:Q val s):
    wpAny (model U.prog U.w) A (eval (.Name x pos) env) Q E s:=by
  have hkind:env.scope.kind = .function:=by rw[l.scope]; exact so.kind
  have hl:env.kindOf x=some .globalImplicit:=by show env.scope.names.lookup x=_; rw[l.scope]; exact lookup_at so.nd h
  exact Name_function_global hkind hl (loadGlobal_global (by rw[l.HG]; exact Heap.Ns.of U.T.g fun o e=>g.keep _ _ e) (mg_of U.X U.T.g e) hQ) (so.LQ _ (List.mem_of_getElem? h)).1
theorem wc {i:Nat}{x:Str}{pos:Pos}{val:Value}{A:Around}{env:Env}{M:Loc}{P:List Addr}{ρ:List Hd}{R:List Addr}{H:Hp}{s:Shared}{Q:Value→Shared→Prop}{E:Value→Shared→Prop}
    (h:sc.names[i]? = some (x, .globalImplicit)) (so:jX sc) (g:Good U.toPg U.top ρ R H s.heap) (l:cX U.toPg sc env M P ρ R s.heap) (e:nsIn U.K mainGlobals x=some none) (hv:bootBuiltins x=some val) (hx:x≠"__name__") (hQ:Q val s):
    wpAny (model U.prog U.w) A (eval (.Name x pos) env) Q E s:=by
  have hkind:env.scope.kind = .function:=by rw[l.scope]; exact so.kind
  have hl:env.kindOf x=some .globalImplicit:=by show env.scope.names.lookup x=_; rw[l.scope]; exact lookup_at so.nd h
  exact Name_function_global hkind hl (loadGlobal_builtin (by rw[l.HG]; exact Heap.Ns.of U.T.g fun o e=>g.keep _ _ e) (mg_none_of U.X U.T.g e) (by rw[l.Jd]; exact Heap.Ns.of U.T.b fun o e=>g.keep _ _ e) ((U.T.builtins x hx).trans hv) hQ) (so.LQ _ (List.mem_of_getElem? h)).1
theorem E.glob {i:Nat}{x:Str}{v:V}{pos:Pos} (h:sc.names[i]? = some (x, .globalImplicit)) (hg:jP U x v):aA U n sc (.Name x pos) (ab v):=by
  intro A env M P ρ R H s Q E v' H' _ so g l hf hQ
  cases hf
  obtain⟨val,e,hv⟩:=hg
  exact zT h so g l e (hQ _ _ _ .refl g (hv _ _ _ _ g))
theorem E.bin {l r:PySem.Expr}{o:Operator}{pos:Pos}{op:V→V→Hp→Option V}{f g:EF} (h1:aA U n sc l f) (h2:aA U n sc r g) (ho:cU U op (binaryOp o)):aA U n sc (.BinOp l o r pos) (av op f g):=by
  intro A env M P ρ R H s Q E v H' hr so gd lr hf hQ
  unfold av at hf
  refine bf hf fun a H1 e1 hf=>?_
  refine bf hf fun b H2 e2 hf=>?_
  refine fJ hf fun c e3 hf=>?_
  cases hf
  refine wpAny_BinOp (h1 A env M P ρ R H s _ E a H1 hr so gd lr e1 fun x s1 ρ1 st1 g1 va=>?_)
  refine h2 A env M P ρ1 R H1 s1 _ E b H2 hr so g1 (lr.cT st1) e2 fun y s2 ρ2 st2 g2 vb=>?_
  exact ho A ρ2 R H2 s2 _ E a b v x y (hr.le (Nat.zero_le _)) g2 (va.step st2) vb e3 fun z s3 st3 g3 vc=>hQ z s3 ρ2 ((st1.trans st2).trans st3) g3 vc
theorem E.cmp {l r:PySem.Expr}{o:CmpOp}{pos:Pos}{op:V→V→Hp→Option V}{f g:EF} (h1:aA U n sc l f) (h2:aA U n sc r g) (ho:cU U op (compareOp o)) (hm:behindInMarks o r=false:=by kernel_rfl):aA U n sc (.Compare l [o] [r] pos) (av op f g):=by
  intro A env M P ρ R H s Q E v H' hr so gd lr hf hQ
  unfold av at hf
  refine bf hf fun a H1 e1 hf=>?_
  refine bf hf fun b H2 e2 hf=>?_
  refine fJ hf fun c e3 hf=>?_
  cases hf
  refine wpAny_Compare1 (h1 A env M P ρ R H s _ E a H1 hr so gd lr e1 fun x s1 ρ1 st1 g1 va=>?_) hm
  refine h2 A env M P ρ1 R H1 s1 _ E b H2 hr so g1 (lr.cT st1) e2 fun y s2 ρ2 st2 g2 vb=>?_
  exact ho A ρ2 R H2 s2 _ E a b v x y (hr.le (Nat.zero_le _)) g2 (va.step st2) vb e3 fun z s3 st3 g3 vc=>hQ z s3 ρ2 ((st1.trans st2).trans st3) g3 vc
theorem E.ite {t a b:PySem.Expr}{pos:Pos}{ft:TF}{f g:EF} (ht:kY U n sc t ft) (h1:aA U n sc a f) (h2:aA U n sc b g):aA U n sc (.IfExp t a b pos) (th ft f g):=by
  intro A env M P ρ R H s Q E v H' hr so gd lr hf hQ
  unfold th at hf
  refine bf hf fun c H1 e1 hf=>?_
  refine wpAny_IfExp (ht A env M P ρ R H s _ E c H1 hr so gd lr e1 fun s1 ρ1 st1 g1=>?_)
  cases c with
  | true=>exact h1 A env M P ρ1 R H1 s1 _ E v H' hr so g1 (lr.cT st1) hf fun z s2 ρ2 st2 g2 vc=>hQ z s2 ρ2 (st1.trans st2) g2 vc
  | false=>exact h2 A env M P ρ1 R H1 s1 _ E v H' hr so g1 (lr.cT st1) hf fun z s2 ρ2 st2 g2 vc=>hQ z s2 ρ2 (st1.trans st2) g2 vc
theorem T.not {x:PySem.Expr}{pos:Pos}{f:TF} (h:kY U n sc x f):kY U n sc (.UnaryOp .Not x pos) (iF f):=by
  intro A env M P ρ R H s Q E v H' hr so gd lr hf hQ
  unfold iF at hf
  refine yC hf fun c H1 e1 hf=>?_
  cases hf
  exact wpAny_isTrue_Not (h A env M P ρ R H s _ E c H1 hr so gd lr e1 fun s1 ρ1 st1 g1=>hQ s1 ρ1 st1 g1)
noncomputable def sp (U:fL) (n:Nat) (sc:Scope) (o:BoolOp) (es:List PySem.Expr) (f:TF):Prop:=
  ∀ (A:Around) (env:Env) (M:Loc) (P:List Addr) (ρ:List Hd) (R:List Addr) (H:Hp) (s:Shared) (Q:Bool→Shared→Prop) (E:Value→Shared→Prop) (v:Bool) (H':Hp),
    ij n A→jX sc→Good U.toPg U.top ρ R H s.heap→cX U.toPg sc env M P ρ R s.heap→f M H=some (v,H')→
    QT U ρ R s Q v H'→
    wpAny (model U.prog U.w) A (allTrue o es env) Q E s
theorem T.last {x:PySem.Expr}{o:BoolOp}{f:TF} (h:kY U n sc x f):sp U n sc o [x] f:=by
  intro A env M P ρ R H s Q E v H' hr so gd lr hf hQ
  cases o with
  | And=>
    refine wpAny_allTrue_And_cons (h A env M P ρ R H s _ E v H' hr so gd lr hf fun s1 ρ1 st1 g1=>?_)
    cases v with
    | true=>exact wpAny_allTrue_And_nil (hQ s1 ρ1 st1 g1)
    | false=>exact hQ s1 ρ1 st1 g1
  | Or=>
    refine wpAny_allTrue_Or_cons (h A env M P ρ R H s _ E v H' hr so gd lr hf fun s1 ρ1 st1 g1=>?_)
    cases v with
    | true=>exact hQ s1 ρ1 st1 g1
    | false=>exact wpAny_allTrue_Or_nil (hQ s1 ρ1 st1 g1)
theorem T.qB {x:PySem.Expr}{es:List PySem.Expr}{f g:TF} (h:kY U n sc x f) (h2:sp U n sc .And es g):sp U n sc .And (x::es) (kM f g):=by
  intro A env M P ρ R H s Q E v H' hr so gd lr hf hQ
  unfold kM at hf
  refine bf hf fun c H1 e1 hf=>?_
  refine wpAny_allTrue_And_cons (h A env M P ρ R H s _ E c H1 hr so gd lr e1 fun s1 ρ1 st1 g1=>?_)
  cases c with
  | true=>exact h2 A env M P ρ1 R H1 s1 _ E v H' hr so g1 (lr.cT st1) hf fun s2 ρ2 st2 g2=>hQ s2 ρ2 (st1.trans st2) g2
  | false=>cases hf; exact hQ s1 ρ1 st1 g1
theorem T.CL {x:PySem.Expr}{es:List PySem.Expr}{f g:TF} (h:kY U n sc x f) (h2:sp U n sc .Or es g):sp U n sc .Or (x::es) (u9 f g):=by
  intro A env M P ρ R H s Q E v H' hr so gd lr hf hQ
  unfold u9 at hf
  refine bf hf fun c H1 e1 hf=>?_
  refine wpAny_allTrue_Or_cons (h A env M P ρ R H s _ E c H1 hr so gd lr e1 fun s1 ρ1 st1 g1=>?_)
  cases c with
  | false=>exact h2 A env M P ρ1 R H1 s1 _ E v H' hr so g1 (lr.cT st1) hf fun s2 ρ2 st2 g2=>hQ s2 ρ2 (st1.trans st2) g2
  | true=>cases hf; exact hQ s1 ρ1 st1 g1
theorem T.bool {o:BoolOp}{es:List PySem.Expr}{pos:Pos}{f:TF} (h:sp U n sc o es f):kY U n sc (.BoolOp o es pos) f:=by
  intro A env M P ρ R H s Q E v H' hr so gd lr hf hQ
  exact wpAny_isTrue_BoolOp (h A env M P ρ R H s _ E v H' hr so gd lr hf hQ)
theorem T.cmp {l r:PySem.Expr}{o:CmpOp}{pos:Pos}{op:V→V→Hp→Option Bool}{f g:EF} (h1:aA U n sc l f) (h2:aA U n sc r g) (ho:cU U (sz op) (compareOp o)) (hm:behindInMarks o r=false:=by kernel_rfl):kY U n sc (.Compare l [o] [r] pos) (aG op f g):=by
  intro A env M P ρ R H s Q E v H' hr so gd lr hf hQ
  unfold aG at hf
  refine bf hf fun a H1 e1 hf=>?_
  refine bf hf fun b H2 e2 hf=>?_
  refine fJ hf fun c e3 hf=>?_
  cases hf
  refine wpAny_isTrue_Compare1 (h1 A env M P ρ R H s _ E a H1 hr so gd lr e1 fun x s1 ρ1 st1 g1 va=>?_) hm
  refine h2 A env M P ρ1 R H1 s1 _ E b H2 hr so g1 (lr.cT st1) e2 fun y s2 ρ2 st2 g2 vb=>?_
  refine ho A ρ2 R H2 s2 _ E a b (.bool v) x y (hr.le (Nat.zero_le _)) g2 (va.step st2) vb (by unfold sz; rw[e3]; rfl) fun z s3 st3 g3 vc=>?_
  cases vc
  exact wpAny_truthy_bool (hQ s3 ρ2 ((st1.trans st2).trans st3) g3)
end
end Mine
end
section
open PySem PySem.W PyProof.Rows PySem.Calls
namespace Mine
noncomputable def cw:V→Hp→Option (List V)
  | .lst l,_=>some l
  | .ref k,H=>match H[k]? with
    | some (.lst l)=>some l
    | _=>none
  | _,_=>none
noncomputable def br:V→V→Hp→Option V
  | .int a, .int b,_=>some (.int (a + b))
  | .str a, .str b,_=>if a.length + b.length≤1048576 then some (.str (a++b)) else none
  | .lst a, .lst b,_=>if a.length + b.length≤1048576 then some (.lst (a++b)) else none
  | _,_,_=>none
noncomputable def Gl:V→V→Hp→Option V
  | .int a, .int b,_=>some (.int (a - b))
  | _,_,_=>none
noncomputable def JL:V→V→Hp→Option V
  | .int a, .int b,_=>if a.natAbs < 1048576∧b.natAbs < 1048576 then some (.int (a * b)) else none
  | _,_,_=>none
noncomputable def yM:V→V→Hp→Option V
  | .int a, .int b,_=>if 0 < b then some (.int (a.fmod b)) else none
  | _,_,_=>none
noncomputable def GK:V→V→Hp→Option V
  | .int a, .int b,_=>if 0 < b∧a.natAbs < 1048576∧b < 1048576 then some (.int (a.fdiv b)) else none
  | _,_,_=>none
noncomputable def FM:V→V→Hp→Option V
  | .int a, .int b,_=>if a=2∧0≤b∧b < 1000 then some (.int (a ^ b.toNat)) else none
  | _,_,_=>none
section
variable {U:fL}
theorem Ae {x y:Str}:(x++y).cps.toList=x.cps.toList++y.cps.toList:=by
  rw[Str.cps_append,Array.toList_append]
theorem str_len (x:Str):x.length=x.cps.size:=rfl
theorem eE {k:Nat}{H:Hp}{l:List V}:cw (.ref k) H=some l↔H[k]? = some (.lst l):=by
  unfold cw
  dsimp only
  cases q:H[k]? with
  | none=>simp
  | some ob=>cases ob <;> simp
theorem Lh {n:Nat} (h:n≤1048576):n≤sizeLine:=Nat.le_trans h (by rw[sizeLine_eq]; decide)
theorem gJ {G:Pg}{s:Vw}{i:Int}{x:Value} (r:VR G s (.int i) x):∃ t,x = .int i t:=by cases r; exact⟨_,rfl⟩
theorem HT {G:Pg}{s:Vw}{x:Value} (r:VR G s .none x):x = .none:=by cases r; rfl
theorem HM {G:Pg}{top:Heap}{ρ:List Hd}{R:List Addr}{H:Hp}{h:Heap}{v:V}{x:Value}{l:List V} (g:Good G top ρ R H h) (r:VR G ⟨h,ρ,R⟩ v x) (e:cw v H=some l):
    ∃ a xs n,x = .ref a∧h.get? a=some (ny xs n)∧xs.length≤1048576∧eZ G ⟨h,ρ,R⟩ l xs:=by
  cases r with
  | lst hf hz hv=>
    cases e
    exact⟨_,_,_,rfl,hf.1,hz,hv⟩
  | ref hk=>
    obtain⟨_,xs,n,h1,h5,h6⟩:=g.ob _ _ _ (eE.mp e) hk (gl rfl)
    exact⟨_,xs,_,rfl,h1,h5,h6⟩
  | _=>cases e
theorem i8 {G:Pg}{top:Heap}{ρ:List Hd}{R:List Addr}{H:Hp}{h:Heap}{v:V}{x:Value}{l:List V} (g:Good G top ρ R H h) (r:VR G ⟨h,ρ,R⟩ v x) (e:cw v H=some l) {C:Prop} (K:∀ a xs n,x = .ref a→h.get? a=some (ny xs n)→xs.length≤1048576→eZ G ⟨h,ρ,R⟩ l xs→C):C:=by
  obtain⟨a,xs,n,e1,e2,e3,e4⟩:=HM g r e
  exact K a xs n e1 e2 e3 e4
theorem ee {G:Pg}{s:Vw}{l:List Nat}{x:Value} (r:VR G s (.str l) x) {C:Prop} (K:∀ y t,x = .str y t→y.cps.toList=l→y.cps.size≤1048576→C):C:=by cases r with | str y t h=>exact K y t rfl rfl h
theorem ke {G:Pg}{s:Vw}{l:List V}{x:Value} (r:VR G s (.lst l) x) {C:Prop} (K:∀ a xs n,x = .ref a→s.Fix a (ny xs n)→xs.length≤1048576→eZ G s l xs→C):C:=by
  cases r with | lst hf hz hv=>exact K _ _ _ rfl hf hz hv
theorem qa {G:Pg}{s:Vw}{l:List V}{x:Value} (r:VR G s (.tup l) x) {C:Prop} (K:∀ a xs n,x = .ref a→s.Fix a (su xs n)→xs.length≤1048576→eZ G s l xs→C):C:=by
  cases r with | tup hf hz hv=>exact K _ _ _ rfl hf hz hv
theorem bD {h:Heap}{a:Addr}{xs:List Value}{n:LN} (h1:h.get? a=some (ny xs n)):h.IsList a xs.toArray:=⟨_,h1,rfl,n.n,rfl⟩
theorem Cj {h:Heap}{a:Addr}{xs:List Value}{n:Nat} (h1:h.get? a=some (su xs n)):IsTup h a xs.toArray:=⟨_,h1,rfl,n,rfl⟩
theorem I0 {G:Pg}{top:Heap}{ρ:List Hd}{R:List Addr}{H:Hp}{s:Shared}{o:Obj}{tk:Nat} (g:Good G top ρ R H s.heap) (hf:o.isFreed=false):
    Vw.Fix ⟨({ s with heap:=s.heap.push o,toks:=tk }:Shared).heap,ρ,R⟩ s.heap.objs.size o:=rQ g hf
theorem dm:cU U br (binaryOp .Add):=by
  intro A ρ R H s Q E a b v x y hr g ra rb hop hQ
  unfold br at hop
  split at hop
  · cases hop; cases ra; cases rb
    exact PyProof.Rows.add_int (hQ _ _ .toks g (.int _ _))
  · split at hop
    · rename_i hz
      cases hop; cases ra; cases rb
      rename_i x t hx y u hy
      refine PyProof.Rows.add_str (fun t' tk=>hQ _ _ .toks g ?_) (by simp only[str_len,sizeLine_eq]; simp only[Array.length_toList] at hz; omega)
      rw[← Ae]
      exact .str _ _ (by rw[Str.cps_append,Array.size_append]; simpa using hz)
    · cases hop
  · split at hop
    · rename_i hz
      cases hop
      refine ke ra fun a xs n e_3 hf hx hv=>?_
      subst e_3
      refine ke rb fun a' xs' n' e_3 hf' hx' hv'=>?_
      subst e_3
      have l1:=hv.length; have l2:=hv'.length
      refine concat_meets ⟨_,hf.1,rfl⟩ ⟨_,hf'.1,rfl⟩ noFill_list_add seq_list_add PySem.F.slot_list_add PySem.F.entry_list_add (PySem.F.args_list_add_2 _ _) (list_addW a a' xs.toArray xs'.toArray n.n n'.n none none n.sl n'.sl (by simp only[List.size_toArray,sizeLine_eq]; omega)) ⟨hf.1,hf'.1,?_⟩
      refine hQ _ _ (iS (tk:=s.toks)) (g.push (tk:=s.toks)) ?_
      refine VR.lst (n:=⟨0,none,#[]⟩) (xs:=xs++xs') ?_ (by rw[List.length_append]; omega) (eZ.step (hv.append hv') (iS (tk:=s.toks)))
      have:=I0 (tk:=s.toks) g (o:={ cls := .type "list",data := .seq (xs.toArray++xs'.toArray) }) rfl
      simpa using this
    · cases hop
  · cases hop
theorem KJ:cU U Gl (binaryOp .Sub):=by
  intro A ρ R H s Q E a b v x y hr g ra rb hop hQ
  unfold Gl at hop
  split at hop
  · cases hop; cases ra; cases rb
    exact PyProof.Rows.sub_int (hQ _ _ .toks g (.int _ _))
  · cases hop
theorem Ly:cU U JL (binaryOp .Mult):=by
  intro A ρ R H s Q E a b v x y hr g ra rb hop hQ
  unfold JL at hop
  split at hop
  · split at hop
    · rename_i hz
      cases hop; cases ra; cases rb
      exact PyProof.Rows.mul_int (hQ _ _ .toks g (.int _ _))
    · cases hop
  · cases hop
theorem Im:cU U yM (binaryOp .Mod):=by
  intro A ρ R H s Q E a b v x y hr g ra rb hop hQ
  unfold yM at hop
  split at hop
  · split at hop
    · rename_i hz
      cases hop; cases ra; cases rb
      exact PyProof.Rows.mod_int_or hr.hd (fun e=>by omega) (fun _=>hQ _ _ .toks g (.int _ _))
    · cases hop
  · cases hop
theorem KQ:cU U GK (binaryOp .FloorDiv):=by
  intro A ρ R H s Q E a b v x y hr g ra rb hop hQ
  unfold GK at hop
  split at hop
  · split at hop
    · rename_i hz
      cases hop; cases ra; cases rb
      exact PyProof.Rows.floordiv_int_or hr.hd (fun e=>by omega) (fun _=>hQ _ _ .toks g (.int _ _))
    · cases hop
  · cases hop
theorem KG:cU U FM (binaryOp .Pow):=by
  intro A ρ R H s Q E a b v x y hr g ra rb hop hQ
  unfold FM at hop
  split at hop
  · split at hop
    · rename_i hz
      obtain⟨rfl,h0,h1⟩:=hz
      cases hop; cases ra; cases rb
      refine PyProof.Rows.pow_int h0 ?_ (hQ _ _ .toks g (.int _ _))
      have:Builtin.Int.intBits 2=2:=by decide +kernel
      rw[this]; omega
    · cases hop
  · cases hop
end
end Mine
end
section
open PySem PySem.W PyProof.Rows PySem.Calls PySem.SeqAt
namespace Mine
noncomputable def qf (f:V→V→Option Bool):List V→List V→Option Bool
  | [],[]=>some true
  | a::l,b::l'=>(f a b).bind fun c=>(qf f l l').map (c&&·)
  | _,_=>some false
noncomputable def Mv:V→Option Bool
  | .none=>some true
  | .int _=>some false
  | .str _=>some false
  | _=>none
noncomputable def eqB (a:Bool):V→Option Bool
  | .bool b=>some (a==b)
  | _=>none
noncomputable def L3 (a:Int):V→Option Bool
  | .none=>some false
  | .int b=>some (a==b)
  | .str _=>some false
  | _=>none
noncomputable def Mn (a:List Nat):V→Option Bool
  | .none=>some false
  | .int _=>some false
  | .str b=>some (a==b)
  | _=>none
noncomputable def eqT (f:List V→Option Bool):V→Option Bool
  | .tup l=>f l
  | _=>none
noncomputable def L8 (f:List V→Option Bool):V→Option Bool
  | .lst l=>f l
  | _=>none
noncomputable def FA (o:Option (V→V→Option Bool)):V→V→Option Bool
  | .none=>Mv
  | .bool a=>eqB a
  | .int a=>L3 a
  | .str a=>Mn a
  | .tup l=>eqT fun l'=>o.bind fun f=>qf f l l'
  | .lst l=>L8 fun l'=>o.bind fun f=>if l.length=l'.length then qf f l l' else some false
  | _=>fun _=>none
noncomputable def qA:Nat→V→V→Option Bool
  | 0=>FA none
  | n + 1=>FA (some (qA n))
noncomputable def Gu (f:V→V→Option Bool) (l l':List V) (j:Nat):Bool:=((l[j]?).bind fun a=>(l'[j]?).bind fun b=>f a b).getD false
theorem uM {f:V→V→Option Bool}{a b:V}{l l':List V}{c:Bool} (h:qf f (a::l) (b::l')=some c):∃ d e,f a b=some d∧qf f l l'=some e∧(d&&e)=c:=by
  refine gz h fun d h1 h2=>?_
  refine fJ h2 fun e h3 h4=>?_
  exact⟨d,e,h1,h3,h4⟩
theorem xf {f:V→V→Option Bool}{l:List V}:∀ {l':List V}{c:Bool},qf f l l'=some c→((List.range (min l.length l'.length)).all (Gu f l l')&&l.length==l'.length)=c:=by
  induction l with
  | nil=>intro l' c h; cases l' <;> exact Option.some.inj h
  | cons a l ih=>
    intro l' c h
    cases l' with
    | nil=>exact Option.some.inj h
    | cons b l'=>
      obtain⟨d,e,h1,h3,rfl⟩:=uM h
      have e0:Gu f (a::l) (b::l') 0=d:=congrArg (Option.getD · false) h1
      rw[← ih h3,List.length_cons,List.length_cons,Nat.succ_min_succ,List.range_succ_eq_map,List.all_cons,List.all_map,e0,Bool.and_assoc,show(l.length + 1==l'.length + 1)=(l.length==l'.length) from Bool.eq_iff_iff.mpr (beq_iff_eq.trans (Nat.succ_inj.trans beq_iff_eq.symm))]
      rfl
theorem HD {f:V→V→Option Bool}{l:List V}:∀ {l':List V}{c:Bool},qf f l l'=some c→∀ {j:Nat}{a b:V},l[j]? = some a→l'[j]? = some b→∃ d,f a b=some d:=by
  induction l with
  | nil=>intro _ _ _ _ _ _ h; cases h
  | cons a l ih=>
    intro l' c h j x y hx hy
    cases l' with
    | nil=>cases hy
    | cons b l'=>
      obtain⟨d,e,h1,h3,_⟩:=uM h
      cases j with
      | zero=>exact⟨d,Option.some.inj hx▸Option.some.inj hy▸h1⟩
      | succ j=>exact ih h3 hx hy
theorem v8 {p q:Str} (e:p.cps.toList=q.cps.toList):p=q:=by
  cases p with | mk a=>cases q with | mk b=>exact congrArg Str.mk (Array.toList_inj.mp e)
theorem str_beq (p q:Str):(p==q)=(p.cps.toList==q.cps.toList):=Bool.eq_iff_iff.mpr (beq_iff_eq.trans (Iff.trans ⟨fun e=>e▸rfl,v8⟩ beq_iff_eq.symm))
theorem bC {P:Prop}{α:Type}{c:α} (h:(none:Option α)=some c):P:=nomatch h
theorem wW {G:Pg}{s:Vw}{o:Option (V→V→Option Bool)}{P:Value→Value→Bool→Prop} (h1:P .none .none true) (h2:∀ i t,P .none (.int i t) false) (h3:∀ i t,P .none (.str i t) false) (h4:∀ a b,P (.bool a) (.bool b) (a==b))
    (h5:∀ i t,P (.int i t) .none false) (h6:∀ i t j u,P (.int i t) (.int j u) (i==j)) (h7:∀ i t j u,P (.int i t) (.str j u) false) (h8:∀ i t,P (.str i t) .none false) (h9:∀ i t j u,P (.str i t) (.int j u) false) (h10:∀ i t j u,P (.str i t) (.str j u) (i==j))
    (h11:∀ {f l l' a xs n a' xs' n' c},o=some f→s.Fix a (su xs n)→eZ G s l xs→s.Fix a' (su xs' n')→eZ G s l' xs'→qf f l l'=some c→P (.ref a) (.ref a') c)
    (h12:∀ {f l l' a xs n a' xs' n' c},o=some f→s.Fix a (ny xs n)→eZ G s l xs→s.Fix a' (ny xs' n')→eZ G s l' xs'→(if l.length=l'.length then qf f l l' else some false)=some c→P (.ref a) (.ref a') c)
    {a b:V}{c:Bool}{x y:Value} (ra:VR G s a x) (rb:VR G s b y) (hc:FA o a b=some c):P x y c:=by
  cases ra with
  | none=>
    cases rb with
    | none=>exact Option.some.inj hc▸h1
    | int=>exact Option.some.inj hc▸h2 _ _
    | str=>exact Option.some.inj hc▸h3 _ _
    | _=>exact bC hc
  | bool=>
    cases rb with
    | bool=>exact Option.some.inj hc▸h4 _ _
    | _=>exact bC hc
  | int=>
    cases rb with
    | none=>exact Option.some.inj hc▸h5 _ _
    | int=>exact Option.some.inj hc▸h6 _ _ _ _
    | str=>exact Option.some.inj hc▸h7 _ _ _ _
    | _=>exact bC hc
  | str p=>
    cases rb with
    | none=>exact Option.some.inj hc▸h8 _ _
    | int=>exact Option.some.inj hc▸h9 _ _ _ _
    | str q=>exact Option.some.inj hc▸str_beq p q▸h10 _ _ _ _
    | _=>exact bC hc
  | tup hf hz hv=>
    cases rb with
    | tup hf' hz' hv'=>
      obtain⟨f,e,hc⟩:=Option.bind_eq_some_iff.mp (hc:Option.bind _ _=some c)
      exact h11 e hf hv hf' hv' hc
    | _=>exact bC hc
  | lst hf hz hv=>
    cases rb with
    | lst hf' hz' hv'=>
      obtain⟨f,e,hc⟩:=Option.bind_eq_some_iff.mp (hc:Option.bind _ _=some c)
      exact h12 e hf hv hf' hv' hc
    | _=>exact bC hc
  | _=>exact bC hc
theorem GR {s:Vw}{a:Addr}{xs ys:List Value}{n m:Nat} (h:s.Fix a (su xs n)) (h':s.Fix a (su ys m)):xs=ys:=by
  have e:=h.1.symm.trans h'.1
  injection e with e; injection e with e1 e2 e3 e4; injection e3 with e5 e6
  exact List.toArray_inj e5
theorem GT {s:Vw}{a:Addr}{xs ys:List Value}{n m:LN} (h:s.Fix a (ny xs n)) (h':s.Fix a (ny ys m)):xs=ys:=by
  have e:=h.1.symm.trans h'.1
  injection e with e; injection e with e1 e2 e3 e4; injection e3 with e5 e6
  exact List.toArray_inj e5
theorem yZ {G:Pg}{s:Vw}{f:V→V→Option Bool} (ih:∀ {a b:V}{c:Bool}{x:Value},VR G s a x→VR G s b x→f a b=some c→c=true) {l:List V}:∀ {l':List V}{c:Bool}{xs:List Value},eZ G s l xs→eZ G s l' xs→qf f l l'=some c→c=true:=by
  induction l with
  | nil=>intro l' c xs r1 r2 h; cases r1; cases r2; exact(Option.some.inj h).symm
  | cons a l ihl=>
    intro l' c xs r1 r2 h
    cases r1 with | cons h1 r1=>
    cases r2 with | cons h2 r2=>
    obtain⟨d,e,e1,e3,rfl⟩:=uM h
    rw[ih h1 h2 e1,ihl r1 r2 e3]; rfl
theorem uS {G:Pg}{s:Vw}{o:Option (V→V→Option Bool)} (ih:∀ f,o=some f→∀ {a b:V}{c:Bool}{x:Value},VR G s a x→VR G s b x→f a b=some c→c=true) {a b:V}{c:Bool}{x:Value} (ra:VR G s a x) (rb:VR G s b x) (h:FA o a b=some c):c=true:=by
  refine wW (P:=fun x y c=>x=y→c=true) (fun _=>rfl) (fun _ _ e=>nomatch e) (fun _ _ e=>nomatch e) (fun a b e=>?_) (fun _ _ e=>nomatch e) (fun _ _ _ _ e=>?_) (fun _ _ _ _ e=>nomatch e) (fun _ _ e=>nomatch e) (fun _ _ _ _ e=>nomatch e) (fun _ _ _ _ e=>?_) (fun ho h1 r1 h2 r2 hc e=>?_) (fun ho h1 r1 h2 r2 hc e=>?_) ra rb h rfl
  · injection e with e; exact beq_iff_eq.mpr e
  · injection e with e; exact beq_iff_eq.mpr e
  · injection e with e; exact beq_iff_eq.mpr e
  · injection e with e
    subst e
    obtain rfl:=GR h1 h2
    exact yZ (ih _ ho) r1 r2 hc
  · injection e with e
    subst e
    obtain rfl:=GT h1 h2
    rw[if_pos (r1.length.symm.trans r2.length)] at hc
    exact yZ (ih _ ho) r1 r2 hc
theorem G7 {G:Pg}{s:Vw} (n:Nat):∀ {a b:V}{c:Bool}{x:Value},VR G s a x→VR G s b x→qA n a b=some c→c=true:=by
  induction n with
  | zero=>exact fun ra rb h=>uS (fun _ e=>bC e) ra rb h
  | succ n ih=>exact fun ra rb h=>uS (fun f e=>Option.some.inj e▸ih) ra rb h
theorem units_in1 {A:Around}{n:Nat} (h:A.units + (n + 1) < 9900):A.in1.units + n < 9900:=by
  rw[Around.in1_units]; omega
theorem Ee {G:Pg}{s:Vw}{EA:Value→Value→Bool→Prop}{f:V→V→Option Bool} (ih:∀ {a b:V}{c:Bool}{x y:Value},VR G s a x→VR G s b y→f a b=some c→EA x y c)
    {l l':List V}{xs ys:List Value}{c:Bool} (r1:eZ G s l xs) (r2:eZ G s l' ys) (hc:qf f l l'=some c):
    ∀ j (h1:j < xs.toArray.size) (h2:j < ys.toArray.size),EA xs.toArray[j] ys.toArray[j] (Gu f l l' j):=by
  intro j h1 h2
  obtain⟨a,ha⟩:∃ a,l[j]? = some a:=⟨_,List.getElem?_eq_getElem (r1.length▸h1)⟩
  obtain⟨b,hb⟩:∃ b,l'[j]? = some b:=⟨_,List.getElem?_eq_getElem (r2.length▸h2)⟩
  obtain⟨x,hx,rx⟩:=r1.get ha
  obtain⟨y,hy,ry⟩:=r2.get hb
  obtain⟨d,hd⟩:=HD hc ha hb
  have ex:xs.toArray[j]=x:=(List.getElem?_eq_some_iff.mp hx).2
  have ey:ys.toArray[j]=y:=(List.getElem?_eq_some_iff.mp hy).2
  have ed:Gu f l l' j=d:=by unfold Gu; rw[ha,Option.bind_some,hb,Option.bind_some,hd]; rfl
  rw[ed,ex,ey]
  exact ih rx ry hd
theorem uW {h:Heap}{ρ:List Hd}{R:List Addr}{a:Addr}{xs:List Value}{n:Nat} (hf:Vw.Fix ⟨h,ρ,R⟩ a (su xs n)):h.IsTuple a xs.toArray:=⟨_,hf.1,rfl,_,rfl⟩
theorem qV {h:Heap}{ρ:List Hd}{R:List Addr}{a:Addr}{xs:List Value}{n:LN} (hf:Vw.Fix ⟨h,ρ,R⟩ a (ny xs n)):h.IsList a xs.toArray:=⟨_,hf.1,rfl,_,rfl⟩
theorem Em {G:Pg}{h:Heap}{ρ:List Hd}{R:List Addr}{st:Shared} (hs:st.heap=h) {A:Around}{o:Option (V→V→Option Bool)} (hu:A.units < 9900) (ih:∀ f,o=some f→∀ {a b:V}{c:Bool}{x y:Value},VR G ⟨h,ρ,R⟩ a x→VR G ⟨h,ρ,R⟩ b y→f a b=some c→EqAt A.in1 st x y c)
    {a b:V}{c:Bool}{x y:Value} (ra:VR G ⟨h,ρ,R⟩ a x) (rb:VR G ⟨h,ρ,R⟩ b y) (hc:FA o a b=some c):RcAt A st x y c∧RcNeAt A st x y (!c):=by
  subst hs
  refine wW (P:=fun x y c=>RcAt A st x y c∧RcNeAt A st x y (!c)) ⟨RcAt.none_none,RcNeAt.none_none⟩ (fun _ _=>⟨RcAt.none_int _ _,RcNeAt.none_int _ _⟩) (fun _ _=>⟨RcAt.none_str _ _,RcNeAt.none_str _ _⟩) (fun _ _=>⟨RcAt.bool_bool _ _,RcNeAt.bool_bool _ _⟩)
    (fun _ _=>⟨RcAt.int_none _ _,RcNeAt.int_none _ _⟩) (fun _ _ _ _=>⟨RcAt.int_int _ _ _ _,RcNeAt.int_int _ _ _ _⟩) (fun _ _ _ _=>⟨RcAt.int_str _ _ _ _,RcNeAt.int_str _ _ _ _⟩) (fun _ _=>⟨RcAt.str_none _ _,RcNeAt.str_none _ _⟩) (fun _ _ _ _=>⟨RcAt.str_int _ _ _ _,RcNeAt.str_int _ _ _ _⟩)
    (fun _ _ _ _=>⟨RcAt.str_str _ _ _ _,RcNeAt.str_str _ _ _ _⟩) (fun ho h1 r1 h2 r2 hc=>?_) (fun ho h1 r1 h2 r2 hc=>?_) ra rb hc
  · have e:=Ee (ih _ ho) r1 r2 hc
    have q:=xf hc
    rw[← r1.length,← r2.length] at q
    exact q▸⟨RcAt.tuples (uW h1) (uW h2) hu e,RcNeAt.tuples (uW h1) (uW h2) hu e⟩
  · rename_i f l l' a xs n a' xs' n' c
    by_cases hl:l.length=l'.length
    · rw[if_pos hl] at hc
      have e:=Ee (ih _ ho) r1 r2 hc
      have q:=xf hc
      rw[← hl,Nat.min_self,beq_self_eq_true,Bool.and_true,← r1.length] at q
      have hz:xs.toArray.size=xs'.toArray.size:=r1.length.trans (hl.trans r2.length.symm)
      exact q▸⟨RcAt.lists (qV h1) (qV h2) hz hu e,RcNeAt.lists (qV h1) (qV h2) hz hu e⟩
    · rw[if_neg hl] at hc
      have hz:(xs.toArray.size != xs'.toArray.size)=true:=bne_iff_ne.mpr fun e=>hl (r1.length.symm.trans (e.trans r2.length))
      exact Option.some.inj hc▸⟨RcAt.lists_lengths (qV h1) (qV h2) hz hu,RcNeAt.lists_lengths (qV h1) (qV h2) hz hu⟩
theorem D2 {G:Pg}{h:Heap}{ρ:List Hd}{R:List Addr}{st:Shared} (hs:st.heap=h) {A:Around}{o:Option (V→V→Option Bool)} (hu:A.units < 9900) (ih:∀ f,o=some f→∀ {a b:V}{c:Bool}{x y:Value},VR G ⟨h,ρ,R⟩ a x→VR G ⟨h,ρ,R⟩ b y→f a b=some c→EqAt A.in1 st x y c)
    (ih2:∀ f,o=some f→∀ {a b:V}{c:Bool}{x:Value},VR G ⟨h,ρ,R⟩ a x→VR G ⟨h,ρ,R⟩ b x→f a b=some c→c=true) {a b:V}{c:Bool}{x y:Value} (ra:VR G ⟨h,ρ,R⟩ a x) (rb:VR G ⟨h,ρ,R⟩ b y) (hc:FA o a b=some c):EqAt A st x y c:=by
  have hrc:=(Em hs hu ih ra rb hc).1
  have hsm:x=y→c=true:=fun e=>uS ih2 (e▸ra) rb hc
  by_cases hxy:x=y
  · rw[hsm hxy,hxy]; exact EqAt.same _
  revert hrc hsm hxy
  refine wW (P:=fun x y c=>RcAt A st x y c→(x=y→c=true)→x≠y→EqAt A st x y c) (fun _ _ e=>absurd rfl e) (fun _ _ _ _ _=>EqAt.none_int _ _) (fun _ _ _ _ _=>EqAt.none_str _ _) (fun _ _ _ _ _=>EqAt.bool_bool _ _) (fun _ _ _ _ _=>EqAt.int_none _ _) (fun _ _ _ _ _ _ _=>EqAt.int_int _ _ _ _) (fun _ _ _ _ _ _ _=>EqAt.int_str _ _ _ _)
    (fun _ _ _ _ _=>EqAt.str_none _ _) (fun _ _ _ _ _ _ _=>EqAt.str_int _ _ _ _) (fun _ _ _ _ _ _ _=>EqAt.str_str _ _ _ _) (fun _ _ _ _ _ _ r _ e=>EqAt.of_refs (fun q=>e (q▸rfl)) r) (fun _ _ _ _ _ _ r _ e=>EqAt.of_refs (fun q=>e (q▸rfl)) r) ra rb hc
theorem CU {G:Pg}{h:Heap}{ρ:List Hd}{R:List Addr}{st:Shared} (hs:st.heap=h) (n:Nat):∀ {A:Around}{a b:V}{c:Bool}{x y:Value},VR G ⟨h,ρ,R⟩ a x→VR G ⟨h,ρ,R⟩ b y→qA n a b=some c→A.units + n < 9900→EqAt A st x y c:=by
  induction n with
  | zero=>exact fun ra rb hc hu=>D2 hs hu (fun _ e=>bC e) (fun _ e=>bC e) ra rb hc
  | succ n ih=>exact fun ra rb hc hu=>D2 hs (Nat.lt_of_le_of_lt (Nat.le_add_right _ _) hu) (fun f e=>Option.some.inj e▸fun ra rb hc=>ih ra rb hc (units_in1 hu)) (fun f e=>Option.some.inj e▸G7 n) ra rb hc
theorem GL {G:Pg}{h:Heap}{ρ:List Hd}{R:List Addr}{st:Shared} (hs:st.heap=h) (n:Nat) {A:Around}{a b:V}{c:Bool}{x y:Value} (ra:VR G ⟨h,ρ,R⟩ a x) (rb:VR G ⟨h,ρ,R⟩ b y) (hc:qA (n + 1) a b=some c) (hu:A.units + (n + 1) < 9900):RcAt A st x y c∧RcNeAt A st x y (!c):=
  Em hs (Nat.lt_of_le_of_lt (Nat.le_add_right _ _) hu) (fun f e=>Option.some.inj e▸fun ra rb hc=>CU hs n ra rb hc (units_in1 hu)) ra rb hc
end Mine
end
section
open PySem PySem.W PyProof.Rows PySem.Calls PySem.SeqAt
namespace Mine
noncomputable def vEq:V→V→Hp→Option Bool:=fun a b _=>qA 9 a b
noncomputable def mK:V→V→Hp→Option Bool:=fun a b _=>(qA 9 a b).map (!·)
noncomputable def L4:V→Option Bool
  | .none=>some true
  | .ref _=>some false
  | .inst _ _=>some false
  | .str _=>some false
  | .int _=>some false
  | .lst _=>some false
  | _=>none
noncomputable def uu (a b:V) (_:Hp):Option Bool:=match b with
  | .none=>L4 a
  | _=>none
noncomputable def uR:V→V→Hp→Option Bool:=fun a b H=>(uu a b H).map (!·)
noncomputable def Ao:V→V→Hp→Option Bool
  | .int a, .int b,_=>some (decide (a < b))
  | _,_,_=>none
noncomputable def JG:V→V→Hp→Option Bool
  | .int a, .int b,_=>some (decide (b < a))
  | _,_,_=>none
noncomputable def KH:V→V→Hp→Option Bool
  | .int a, .int b,_=>some (decide (b≤a))
  | _,_,_=>none
noncomputable def qR (x:V):List V→Option Bool
  | []=>some false
  | y::l=>(qA 8 y x).bind fun c=>(qR x l).map (c||·)
noncomputable def qt:V→Hp→Option (List (List Nat × V))
  | .jo l,_=>some l
  | .ref k,H=>match H[k]? with
    | some (.jo l)=>some l
    | _=>none
  | _,_=>none
noncomputable def o9 (l:List (List Nat × V)) (k:List Nat):Option V:=(l.find? (·.1==k)).map (·.2)
noncomputable def LZ (s:List Nat):V→Option Bool
  | .str [c]=>some (decide (c∈s))
  | _=>none
noncomputable def inD (d:List (List Nat × V)):V→Option Bool
  | .str k=>some (o9 d k).isSome
  | _=>none
noncomputable def pN (a b:V) (H:Hp):Option Bool:=match b with
  | .str s=>LZ s a
  | .tup l=>qR a l
  | b=>match cw b H with
    | some l=>qR a l
    | none=>(qt b H).bind fun d=>inD d a
noncomputable def gi:V→V→Hp→Option Bool:=fun a b H=>(pN a b H).map (!·)
section
variable {U:fL}
theorem r9 {A:Around} (hr:ij 0 A):A.units + 9 < 9900:=by have:=hr.un; omega
theorem sEq:cU U (sz vEq) (compareOp .Eq):=by
  intro A ρ R H s Q E a b v x y hr g ra rb hop hQ
  refine fJ hop fun c hc e_2=>?_
  subst e_2
  exact(GL rfl 8 ra rb hc (r9 hr)).1 _ _ _ _ (hQ _ _ .refl g (.bool c))
theorem yx:cU U (sz mK) (compareOp .NotEq):=by
  intro A ρ R H s Q E a b v x y hr g ra rb hop hQ
  refine fJ hop fun c hc e_2=>?_
  subst e_2
  refine fJ hc fun d hd e_2=>?_
  subst e_2
  exact(GL rfl 8 ra rb hd (r9 hr)).2 _ _ _ _ (hQ _ _ .refl g (.bool (!d)))
theorem F1 {G:Pg}{s:Vw}{a b:V}{H:Hp}{c:Bool}{x y:Value} (ra:VR G s a x) (rb:VR G s b y) (h:uu a b H=some c):y = .none∧(x == .none)=c:=by
  cases rb with
  | none=>exact⟨rfl,by cases ra <;> first | exact Option.some.inj h | exact bC h⟩
  | _=>exact bC h
theorem EO:cU U (sz uu) (compareOp .Is):=by
  intro A ρ R H s Q E a b v x y hr g ra rb hop hQ
  refine fJ hop fun c hc e_2=>?_
  subst e_2
  obtain⟨rfl,e⟩:=F1 ra rb hc
  refine PySem.is_none ?_
  rw[e]; exact hQ _ _ .refl g (.bool c)
theorem DR:cU U (sz uR) (compareOp .IsNot):=by
  intro A ρ R H s Q E a b v x y hr g ra rb hop hQ
  refine fJ hop fun c hc e_2=>?_
  subst e_2
  refine fJ hc fun d hd e_2=>?_
  subst e_2
  obtain⟨rfl,e⟩:=F1 ra rb hd
  refine PySem.isNot_none ?_
  rw[e]; exact hQ _ _ .refl g (.bool (!d))
theorem FY:cU U (sz Ao) (compareOp .Lt):=by
  intro A ρ R H s Q E a b v x y hr g ra rb hop hQ
  refine fJ hop fun c hc e_2=>?_
  subst e_2
  cases ra with
  | int=>
    cases rb with
    | int=>exact PyProof.Rows.lt_int (hQ _ _ .refl g (Option.some.inj hc ▸ .bool _))
    | _=>exact bC hc
  | _=>exact bC hc
theorem Lp:cU U (sz JG) (compareOp .Gt):=by
  intro A ρ R H s Q E a b v x y hr g ra rb hop hQ
  refine fJ hop fun c hc e_2=>?_
  subst e_2
  cases ra with
  | int=>
    cases rb with
    | int=>exact PyProof.Rows.gt_int (hQ _ _ .refl g (Option.some.inj hc ▸ .bool _))
    | _=>exact bC hc
  | _=>exact bC hc
theorem LM:cU U (sz KH) (compareOp .GtE):=by
  intro A ρ R H s Q E a b v x y hr g ra rb hop hQ
  refine fJ hop fun c hc e_2=>?_
  subst e_2
  cases ra with
  | int=>
    cases rb with
    | int=>exact PyProof.Rows.ge_int (hQ _ _ .refl g (Option.some.inj hc ▸ .bool _))
    | _=>exact bC hc
  | _=>exact bC hc
theorem GJ {x:V}{l:List V}:∀ {c:Bool},qR x l=some c→l.any (fun y=>(qA 8 y x).getD false)=c∧∀ y∈l,∃ d,qA 8 y x=some d:=by
  induction l with
  | nil=>exact fun h=>⟨Option.some.inj h,fun _ h=>nomatch h⟩
  | cons y l ih=>
    intro c h
    refine gz h fun d h1 h2=>?_
    refine fJ h2 fun e h3 h4=>?_
    obtain⟨i1,i2⟩:=ih h3
    refine⟨by rw[List.any_cons,i1,h1]; exact h4,fun z hz=>?_⟩
    rcases List.mem_cons.mp hz with rfl | hz
    · exact⟨d,h1⟩
    · exact i2 z hz
theorem Hk {G:Pg}{h:Heap}{ρ:List Hd}{R:List Addr}{st:Shared} (hs:st.heap=h) {A:Around} (hu:A.units + 9 < 9900) {x:V}{z:Value} (rx:VR G ⟨h,ρ,R⟩ x z):
    ∀ {l:List V}{xs:List Value},eZ G ⟨h,ρ,R⟩ l xs→(∀ y∈l,∃ d,qA 8 y x=some d)→∃ e:Value→Bool,(∀ y,y∈xs→EqAt A.in1 st y z (e y))∧xs.any e=l.any (fun y=>(qA 8 y x).getD false):=by
  intro l xs r hd
  classical
  refine⟨fun y=>decide (∃ a∈l,VR G ⟨h,ρ,R⟩ a y∧qA 8 a x=some true),fun y hy=>?_,?_⟩
  · obtain⟨j,hj⟩:=List.getElem?_of_mem hy
    obtain⟨a,ha⟩:∃ a,l[j]? = some a:=⟨_,List.getElem?_eq_getElem (by have:=r.length; have:=(List.getElem?_eq_some_iff.mp hj).1; omega)⟩
    obtain⟨y',hy',ry⟩:=r.get ha
    rw[hj] at hy'
    cases hy'
    obtain⟨d,hd'⟩:=hd a (List.mem_of_getElem? ha)
    show EqAt A.in1 st y z (decide (∃ a∈l,VR G ⟨h,ρ,R⟩ a y∧qA 8 a x=some true))
    by_cases q:∃ a∈l,VR G ⟨h,ρ,R⟩ a y∧qA 8 a x=some true
    · obtain⟨a',hm',ra',ha'⟩:=q
      rw[decide_eq_true ⟨a',hm',ra',ha'⟩]
      exact CU hs 8 (A:=A.in1) ra' rx ha' (by rw[Around.in1_units]; omega)
    · rw[decide_eq_false q]
      cases d with
      | true=>exact absurd ⟨a,List.mem_of_getElem? ha,ry,hd'⟩ q
      | false=>exact CU hs 8 (A:=A.in1) ry rx hd' (by rw[Around.in1_units]; omega)
  · rw[Bool.eq_iff_iff,List.any_eq_true,List.any_eq_true]
    constructor
    · rintro ⟨y,hy,he⟩
      obtain⟨a,ha,_,h2⟩:=of_decide_eq_true he
      exact⟨a,ha,by rw[h2]; rfl⟩
    · rintro ⟨a,ha,h2⟩
      obtain⟨d,hd'⟩:=hd a ha
      rw[hd'] at h2
      obtain⟨j,hj⟩:=List.getElem?_of_mem ha
      obtain⟨y,hy,ry⟩:=r.get hj
      exact⟨y,List.mem_of_getElem? hy,decide_eq_true ⟨a,ha,ry,by rw[hd']; exact congrArg some h2⟩⟩
theorem Gc {G:Pg}{s:Vw} (k:Str) {l:List (List Nat × V)}:∀ {kvs:List (Str × Value)},ER G s l kvs→(o9 l k.cps.toList=none∧PySem.valueAt kvs k=none)∨∃ v x,o9 l k.cps.toList=some v∧PySem.valueAt kvs k=some x∧VR G s v x:=by
  induction l with
  | nil=>intro kvs r; cases r; exact .inl ⟨rfl,rfl⟩
  | cons e l ih=>
    intro kvs r
    cases r with | @cons k' v x _ xs h r=>
    unfold o9 PySem.valueAt
    rw[List.find?_cons,List.find?_cons]
    by_cases e:k'=k
    · subst e
      rw[beq_self_eq_true,decide_eq_true rfl]
      exact .inr ⟨v,x,rfl,rfl,h⟩
    · rw[beq_eq_false_iff_ne.mpr fun q=>e (v8 q),decide_eq_false e]
      exact ih r
theorem zd {k:Nat}{H:Hp}{l:List (List Nat × V)}:qt (.ref k) H=some l↔H[k]? = some (.jo l):=by
  unfold qt
  dsimp only
  cases q:H[k]? with
  | none=>simp
  | some ob=>cases ob <;> simp
theorem JT {G:Pg}{top:Heap}{ρ:List Hd}{R:List Addr}{H:Hp}{h:Heap}{v:V}{x:Value}{l:List (List Nat × V)} (g:Good G top ρ R H h) (r:VR G ⟨h,ρ,R⟩ v x) (e:qt v H=some l):
    ∃ a o kvs,x = .ref a∧h.get? a=some o∧a≠sysModules∧Obj.IsDictOf (PySem.strKind G.prog G.w) o kvs∧kvs.length≤1048576∧ER G ⟨h,ρ,R⟩ l kvs:=by
  cases r with
  | jo hf hm hi hz hv=>exact⟨_,_,_,rfl,hf.1,hm,hi,hz,Option.some.inj e▸hv⟩
  | ref hk=>
    obtain⟨_,o,kvs,h1,h2,h3,h4,h5⟩:=g.ob _ _ _ (zd.mp e) hk (gl rfl)
    exact⟨_,o,kvs,rfl,h1,h2,h3,h4,h5⟩
  | _=>exact bC e
theorem Ei {G:Pg}{top:Heap}{ρ:List Hd}{R:List Addr}{H:Hp}{h:Heap}{v:V}{x:Value}{l:List (List Nat × V)} (g:Good G top ρ R H h) (r:VR G ⟨h,ρ,R⟩ v x) (e:qt v H=some l) {C:Prop}
    (K:∀ a o kvs,x = .ref a→h.get? a=some o→a≠sysModules→Obj.IsDictOf (PySem.strKind G.prog G.w) o kvs→kvs.length≤1048576→ER G ⟨h,ρ,R⟩ l kvs→C):C:=by
  obtain⟨a,o,kvs,e1,e2,e3,e4,e5,e6⟩:=JT g r e
  exact K a o kvs e1 e2 e3 e4 e5 e6
theorem uE {G:Pg}{h:Heap}{a:Addr}{o:Obj}{kvs:List (Str × Value)} (h1:h.get? a=some o) (h2:Obj.IsDictOf (PySem.strKind G.prog G.w) o kvs):h.DictOf (PySem.strKind G.prog G.w) a kvs:=by
  obtain⟨es,ep,r⟩:=h2; exact⟨o,es,ep,h1,r⟩
theorem AM {y:Str}{c:Nat} (h:y.cps.toList=[c]):y=⟨#[c]⟩:=by
  cases y with | mk cps=>simp only at h; congr 1; exact Array.ext' h
noncomputable def DF (U:fL) (A:Around) (s:Shared) (x y:Value) (c:Bool):Prop:=∀ (Q:Value→Shared→Prop) (E:Value→Shared→Prop),
  ((∀ tk,Q (.bool c) { s with toks:=tk })→wpAny (model U.prog U.w) A (compareOp .In x y) Q E s)∧((∀ tk,Q (.bool (!c)) { s with toks:=tk })→wpAny (model U.prog U.w) A (compareOp .NotIn x y) Q E s)
theorem Ie {s:List Nat}{a:V}{c:Bool} (h:LZ s a=some c):∃ k,a = .str [k]∧decide (k∈s)=c:=by
  cases a with
  | str l=>rcases l with _ | ⟨k,_ | ⟨_,_⟩⟩ <;> first | exact bC h | exact⟨k,rfl,Option.some.inj h⟩
  | _=>exact bC h
section
variable {A:Around}{ρ:List Hd}{R:List Addr}{H:Hp}{s:Shared}{a b:V}{c:Bool}{x y:Value}
theorem Ct (hr:ij 0 A) (ra:VR U.toPg ⟨s.heap,ρ,R⟩ a x) {l:List V}{xs:List Value} (h3:eZ U.toPg ⟨s.heap,ρ,R⟩ l xs) (hc:qR a l=some c):∃ e:Value→Bool,(∀ y∈xs.toArray,EqAt A.in1 s y x (e y))∧xs.toArray.any e=c:=by
  obtain⟨q1,q2⟩:=GJ hc
  obtain⟨e,e3,e4⟩:=Hk rfl (r9 hr) ra h3 q2
  exact⟨e,fun y hy=>e3 y (List.mem_toArray.mp hy),List.any_toArray.symm▸e4.trans q1⟩
theorem in_list (hr:ij 0 A) (g:Good U.toPg U.top ρ R H s.heap) (ra:VR U.toPg ⟨s.heap,ρ,R⟩ a x) (rb:VR U.toPg ⟨s.heap,ρ,R⟩ b y) {l:List V} (e1:cw b H=some l) (hc:qR a l=some c):DF U A s x y c:=by
  refine i8 g rb e1 fun p xs n e_3 h1 h2 h3=>?_
  subst e_3
  obtain⟨e,e3,rfl⟩:=Ct hr ra h3 hc
  exact fun Q E=>⟨fun hQ=>in_listAt e (bD h1) e3 (hQ s.toks),fun hQ=>notIn_listAt e (bD h1) e3 (hQ s.toks)⟩
theorem in_dict (g:Good U.toPg U.top ρ R H s.heap) (ra:VR U.toPg ⟨s.heap,ρ,R⟩ a x) (rb:VR U.toPg ⟨s.heap,ρ,R⟩ b y) {d:List (List Nat × V)} (e1:qt b H=some d) (hc:inD d a=some c):DF U A s x y c:=by
  cases ra with
  | str p t _=>
    refine Ei g rb e1 fun a' o kvs e_3 h1 h2 h3 h4 h5=>?_
    subst e_3
    have hm:=(uE h1 h3).mapOf
    have e:(PySem.valueAt kvs p).isSome=c:=by
      rw[← Option.some.inj hc]
      rcases Gc p h5 with ⟨e1,e2⟩ | ⟨v,x,e1,e2,_⟩ <;> rw[e1,e2] <;> rfl
    subst e
    exact fun Q E=>⟨fun hQ=>wpAny_in_of (k:=p) (PySem.strKind_is _ _ p t) (beq_eq_false_iff_ne.mpr h2) hm (hQ _),fun hQ=>wpAny_notIn_of (k:=p) (PySem.strKind_is _ _ p t) (beq_eq_false_iff_ne.mpr h2) hm (hQ _)⟩
  | _=>exact bC hc
theorem EI (hr:ij 0 A) (g:Good U.toPg U.top ρ R H s.heap) (ra:VR U.toPg ⟨s.heap,ρ,R⟩ a x) (rb:VR U.toPg ⟨s.heap,ρ,R⟩ b y) (hc:pN a b H=some c):DF U A s x y c:=by
  cases b with
  | str=>
    obtain⟨k,rfl,rfl⟩:=Ie hc
    refine ee ra fun p t e_2 hp _=>?_
    subst e_2
    refine ee rb fun q u e_2 e_3 _=>?_
    subst e_2
    subst e_3
    obtain rfl:=AM hp
    have e:=StrLaws.found_one q
    exact fun Q E=>⟨fun hQ=>PyProof.Rows.in_str (by rw[e]; exact hQ s.toks),fun hQ=>PySem.P.notIn_str (by rw[e]; exact hQ s.toks)⟩
  | tup=>
    refine qa rb fun p xs n e_3 hf hz h3=>?_
    subst e_3
    obtain⟨e,e3,rfl⟩:=Ct hr ra h3 hc
    exact fun Q E=>⟨fun hQ=>in_tupleAt e (uW hf) e3 (hQ s.toks),fun hQ=>notIn_tupleAt e (uW hf) e3 (hQ s.toks)⟩
  | lst=>exact in_list hr g ra rb rfl hc
  | jo=>exact in_dict g ra rb rfl hc
  | ref k=>
    have hc:(match cw (.ref k) H with
      | some l=>qR a l
      | none=>(qt (.ref k) H).bind fun d=>inD d a)=some c:=hc
    cases e:cw (.ref k) H with
    | some l=>rw[e] at hc; exact in_list hr g ra rb e hc
    | none=>
      rw[e] at hc
      refine gz hc fun d e1 hc=>?_
      exact in_dict g ra rb e1 hc
  | _=>exact bC hc
end
theorem A2:cU U (sz pN) (compareOp .In):=by
  intro A ρ R H s Q E a b v x y hr g ra rb hop hQ
  refine fJ hop fun c hc e_2=>?_
  subst e_2
  exact(EI hr g ra rb hc Q E).1 fun tk=>hQ _ _ .toks g (.bool c)
theorem p9:cU U (sz gi) (compareOp .NotIn):=by
  intro A ρ R H s Q E a b v x y hr g ra rb hop hQ
  refine fJ hop fun c hc e_2=>?_
  subst e_2
  refine fJ hc fun d hd e_2=>?_
  subst e_2
  exact(EI hr g ra rb hd Q E).2 fun tk=>hQ _ _ .toks g (.bool (!d))
end
end Mine
end
section
open PySem PySem.W PyProof.Rows PySem.Calls PySem.SeqAt
namespace Mine
section
variable {U:fL}{n:Nat}{sc:Scope}
theorem yp {A:Around}{ρ:List Hd}{R:List Addr}{H:Hp}{s:Shared}{v:V}{x:Value}{b:Bool}{Q:Bool→Shared→Prop}{E:Value→Shared→Prop} (g:Good U.toPg U.top ρ R H s.heap)
    (r:VR U.toPg ⟨s.heap,ρ,R⟩ v x) (h:truth v H=some b) (hQ:∀ tk,Q b { s with toks:=tk }):wpAny (model U.prog U.w) A (truthy x) Q E s:=by
  have lists:∀ {l:List V},cw v H=some l→(!l.isEmpty)=b→wpAny (model U.prog U.w) A (truthy x) Q E s:=fun {l} e1 e2=>by
    refine i8 g r e1 fun p xs m e_3 h1 h2 h3=>?_
    subst e_3
    refine wpAny_truthy_list (bD h1) (by simp only[List.size_toArray]; omega) ?_
    have:(!xs.toArray.isEmpty)=b:=by
      rw[← e2]
      have:=h3.length
      cases xs <;> cases l <;> first | rfl | (simp at this)
    rw[this]; exact hQ _
  cases r with
  | none=>cases h; exact PyProof.Rows.truthy_none (hQ _)
  | bool c=>cases h; exact wpAny_truthy_bool (hQ _)
  | int i t=>cases h; exact PyProof.Rows.truthy_int (hQ _)
  | str y t hz=>
    cases h
    refine PySem.P.truthy_str (by rw[str_len]; omega) ?_
    have:((y.length:Int) != 0)=!y.cps.toList.isEmpty:=by
      rw[str_len]
      obtain⟨⟨l⟩⟩:=y
      cases l with
      | nil=>rfl
      | cons c l=>simp; omega
    rw[this]; exact hQ _
  | lst hf hz hv=>exact lists rfl (by unfold truth at h; exact Option.some.inj h)
  | ref hk=>
    unfold truth at h
    dsimp only at h
    split at h
    · rename_i l e
      exact lists (eE.mpr e) (Option.some.inj h)
    · cases h
  | _=>cases h
theorem T.val {e:PySem.Expr}{f:EF} (h:aA U n sc e f) (he:∀ env whole,isTrue e env whole=(do let v ← whole; standAt e.pos; holding [v] (truthy v)):=by exact fun _ _=>rfl):kY U n sc e (cb f):=by
  intro A env M P ρ R H s Q E v H' hr so gd lr hf hQ
  unfold cb at hf
  refine bf hf fun a H1 e1 hf=>?_
  refine fJ hf fun c e2 hf=>?_
  cases hf
  refine wpAny_isTrue_value (h A env M P ρ R H s _ E a H1 hr so gd lr e1 fun x s1 ρ1 st1 g1 va=>?_) (he env _)
  exact yp g1 va e2 fun tk=>hQ _ ρ1 (st1.trans .toks) g1
theorem E.LU {a b:PySem.Expr}{pos:Pos}{f g:EF} (h1:aA U n sc a f) (h2:aA U n sc b g):aA U n sc (.BoolOp .Or [a,b] pos) (Io f g):=by
  intro A env M P ρ R H s Q E v H' hr so gd lr hf hQ
  unfold Io at hf
  refine bf hf fun p H1 e1 hf=>?_
  refine gz hf fun c e2 hf=>?_
  refine wpAny_Or2 (h1 A env M P ρ R H s _ E p H1 hr so gd lr e1 fun x s1 ρ1 st1 g1 va=>yp g1 va e2 fun tk=>?_)
  have st1':=st1.trans (Step.toks (tk:=tk))
  cases c with
  | false=>exact h2 A env M P ρ1 R H1 _ _ E v H' hr so g1 (lr.cT st1') hf fun z s2 ρ2 st2 g2 vc=>hQ z s2 ρ2 (st1'.trans st2) g2 vc
  | true=>cases hf; exact hQ x _ ρ1 st1' g1 va
noncomputable abbrev LF:=Loc→Hp→Option (List V × Hp)
noncomputable def aj:LF:=fun _ H=>some ([],H)
noncomputable def ae (f:EF) (g:LF):LF:=fun M H=>(f M H).bind fun p=>(g M p.2).map fun q=>(p.1::q.1,q.2)
noncomputable def QL (U:fL) (ρ:List Hd) (R:List Addr) (s:Shared) (Q:List Value→Shared→Prop) (vs:List V) (H':Hp):Prop:=∀ xs s' ρ',Step [] ρ s ρ' s'→Good U.toPg U.top ρ' R H' s'.heap→eZ U.toPg ⟨s'.heap,ρ',R⟩ vs xs→Q xs s'
structure iz (U:fL) (n:Nat) (sc:Scope) (es:List PySem.Expr) (f:LF):Prop where
  run:∀ (A:Around) (env:Env) (M:Loc) (P:List Addr) (ρ:List Hd) (R:List Addr) (H:Hp) (s:Shared) (Q:List Value→Shared→Prop) (E:Value→Shared→Prop) (vs:List V) (H':Hp) (pos:Pos),
    ij n A→jX sc→Good U.toPg U.top ρ R H s.heap→cX U.toPg sc env M P ρ R s.heap→f M H=some (vs,H')→
    QL U ρ R s Q vs H'→
    wpAny (model U.prog U.w) A (spliced (backTo pos (starEach es env))) Q E s
  plain:∀ env pos,(backTo pos (starEach es env)).any (·.1)=false
theorem L.n0:iz U n sc [] aj:=by
  refine⟨?_,fun _ _=>rfl⟩
  intro A env M P ρ R H s Q E vs H' pos hr so gd lr hf hQ
  cases hf
  exact wpAny_items_nil (hQ _ _ _ .refl gd .nil)
theorem L.c1 {e:PySem.Expr}{es:List PySem.Expr}{f:EF}{g:LF} (h1:aA U n sc e f) (h2:iz U n sc es g) (he:∀ env,starEach (e::es) env=(false,eval e env)::starEach es env:=by exact fun _=>rfl):iz U n sc (e::es) (ae f g):=by
  refine⟨?_,fun env pos=>?_⟩
  · intro A env M P ρ R H s Q E vs H' pos hr so gd lr hf hQ
    unfold ae at hf
    refine bf hf fun p H1 e1 hf=>?_
    refine yC hf fun q H2 e2 hf=>?_
    cases hf
    refine wpAny_items_cons (h1 A env M P ρ R H s _ E p H1 hr so gd lr e1 fun x s1 ρ1 st1 g1 va=>?_) (he env)
    exact h2.run A env M P ρ1 R H1 s1 _ E q H2 pos hr so g1 (lr.cT st1) e2 fun xs s2 ρ2 st2 g2 vb=>hQ _ s2 ρ2 (st1.trans st2) g2 (.cons (va.step st2) vb)
  · rw[he]
    show(false||(backTo pos (starEach es env)).any (·.1))=false
    rw[h2.plain]; rfl
noncomputable def Kept (U:fL) (f:Value):Prop:=(∃ id,f = .builtin id)∨(∃ T,f = .type T)∨keepIn U.K f=true
theorem qd {f:Value} (hk:Kept U f) {h:Heap} (X:U.K.In h):∃ k,(k=Keeper.frame∨k=Keeper.machine∨k=Keeper.boundFrame)∧Looks (model U.prog U.w) h (keeperOf f) k:=by
  rcases hk with ⟨id,rfl⟩ | ⟨T,rfl⟩ | hk
  · exact⟨.machine, .inr (.inl rfl),Looks.of_pure rfl⟩
  · exact⟨.machine, .inr (.inl rfl),Looks.of_pure rfl⟩
  · exact keeps_K hk h X
theorem xO {f:Value}{first:List Value}{A:Around}{env:Env}{ρ:List Hd}{R:List Addr}{H:Hp}{s:Shared}{Q:Value→Shared→Prop}{E:Value→Shared→Prop}{pos:Pos}
    (hk:Kept U f) (gd:Good U.toPg U.top ρ R H s.heap) (hQ:wpAny (model U.prog U.w) A (call f (first++[])) Q E s):
    wpAny (model U.prog U.w) A (callWith pos f first (backTo pos (starEach [] env)) []) Q E s:=
  callWith_of (P:=fun h=>U.K.In h) rfl (fun h X=>qd hk X) (evalArgs_nil3 ⟨gd.FZ,hQ⟩)
theorem js {f:Value}{first:List Value}{e:PySem.Expr}{es:List PySem.Expr}{g:LF}{A:Around}{env:Env}{M:Loc}{P:List Addr}{ρ:List Hd}{R:List Addr}{H:Hp}{s:Shared}{Q:Value→Shared→Prop}{E:Value→Shared→Prop}{vs:List V}{H':Hp}{pos:Pos}
    (hk:Kept U f) (h:iz U n sc (e::es) g) (he:starEach (e::es) env=(false,eval e env)::starEach es env) (hr:ij n A) (so:jX sc) (gd:Good U.toPg U.top ρ R H s.heap) (lr:cX U.toPg sc env M P ρ R s.heap) (hf:g M H=some (vs,H'))
    (hQ:∀ xs s' ρ',Step [] ρ s ρ' s'→Good U.toPg U.top ρ' R H' s'.heap→eZ U.toPg ⟨s'.heap,ρ',R⟩ vs xs→wpAny (model U.prog U.w) A (call f (first++xs)) Q E s'):
    wpAny (model U.prog U.w) A (callWith pos f first (backTo pos (starEach (e::es) env)) []) Q E s:=by
  refine callWith_of (P:=fun h=>U.K.In h) (by rw[h.plain]; rfl) (fun h X=>qd hk X) ?_
  have key:wpAny (model U.prog U.w) A (spliced (backTo pos (starEach (e::es) env))) (fun vs s₁=>U.K.In s₁.heap∧wpAny (model U.prog U.w) A (call f (first++vs)) Q E s₁) E s:=
    h.run A env M P ρ R H s _ E vs H' pos hr so gd lr hf fun xs s1 ρ1 st1 g1 vb=>⟨g1.FZ,hQ xs s1 ρ1 st1 g1 vb⟩
  rw[he] at key ⊢
  exact Calls.evalArgs_plain key
theorem E.KT {i:Nat}{x:Str}{p pos:Pos}{e:PySem.Expr}{callee:Value}{op:V→Hp→Option V}{f:EF} (h:sc.names[i]? = some (x, .globalImplicit)) (hg:nsIn U.K mainGlobals x=some none) (hb:bootBuiltins x=some callee) (hx:x≠"__name__") (hk:Kept U callee)
    (h1:aA U n sc e f) (ho:i7 U op (fun v=>call callee [v])) (he:∀ env,starEach [e] env=[(false,eval e env)]):aA U n sc (.Call (.Name x p) [e] [] pos) (aW op f):=by
  intro A env M P ρ R H s Q E v H' hr so gd lr hf hQ
  unfold aW at hf
  refine bf hf fun a H1 e1 hf=>?_
  refine fJ hf fun c e2 hf=>?_
  cases hf
  refine wpAny_Call_NameR (wc h so gd lr hg hb hx ?_)
  refine js hk (L.c1 h1 L.n0 he) (he env) hr so gd lr (vs:=[a]) (H':=H1) (by show(f M H).bind _=_; rw[e1]; rfl) fun xs s1 ρ1 st1 g1 vb=>?_
  cases vb with
  | cons va vn=>
    cases vn
    exact ho A ρ1 R H1 s1 _ E a v _ (hr.le (Nat.zero_le _)) g1 va e2 fun z s3 st3 g3 vc=>hQ z s3 ρ1 (st1.trans st3) g3 vc
noncomputable def cL:V→Hp→Option V
  | .str s,_=>some (.int s.length)
  | .tup l,_=>some (.int l.length)
  | v,H=>(cw v H).map fun l => .int l.length
theorem gp:i7 U cL (fun v=>call (.builtin "len") [v]):=by
  intro A ρ R H s Q E a v x hr g ra hop hQ
  unfold cL at hop
  split at hop
  · cases hop
    refine ee ra fun y t e_2 hy hz=>?_
    subst e_2
    refine PyProof.Rows.len_str (by rw[str_len]; omega) (hQ _ _ .toks g ?_)
    have e:(y.length:Int)=(List.length y.cps.toList:Int):=by rw[str_len]; simp
    rw[e,hy]; exact .int _ _
  · cases hop
    refine qa ra fun p xs m e_3 hf hz h3=>?_
    subst e_3
    refine PyProof.Rows.len_tuple (Cj hf.1) (by simp only[List.size_toArray]; omega) (hQ _ _ .toks g ?_)
    rw[List.size_toArray,h3.length]; exact .int _ _
  · refine fJ hop fun l e hop=>?_
    cases hop
    refine i8 g ra e fun p xs m e_3 h1 hz h3=>?_
    subst e_3
    refine PyProof.Rows.len_list (bD h1) (by simp only[List.size_toArray]; omega) (hQ _ _ .toks g ?_)
    rw[List.size_toArray,h3.length]; exact .int _ _
noncomputable def jE:V→Hp→Option V:=fun v H=>(cw v H).map V.tup
theorem pO:i7 U jE (fun v=>call (.type "tuple") [v]):=by
  intro A ρ R H s Q E a v x hr g ra hop hQ
  refine fJ hop fun l e e_2=>?_
  subst e_2
  refine i8 g ra e fun p xs m e_3 h1 hz h3=>?_
  subst e_3
  refine PySem.call_tuple_list (bD h1) (fun h' hk=>?_) (by simp only[List.size_toArray,sizeLine_eq]; omega)
  have k:∀ b o,s.heap.get? b=some o→(h'.push (su xs 0)).get? b=some o:=fun b o e=>Heap.get?_push_of_some _ (hk b o e)
  refine hQ _ _ (cm (tk:=s.toks) k) (g.grow k) (.tup (n:=0) (xs:=xs) ?_ hz (h3.step (s':={ s with heap:=h'.push (su xs 0),toks:=s.toks }) (cm k)))
  exact rQ (g.grow hk) rfl
noncomputable def GQ:V→Hp→Option V
  | .tup l,_=>some (.lst l)
  | v,H=>(cw v H).map V.lst
theorem KW:i7 U GQ (fun v=>call (.type "list") [v]):=by
  intro A ρ R H s Q E a v x hr g ra hop hQ
  have key:∀ {p:Addr}{o:Obj}{xs:List Value}{m:Nat}{l:List V}{T:String},x = .ref p→s.heap.get? p=some o→(T="list"∨T="tuple")→o.cls = .type T→o.data = .seq xs.toArray m→xs.length≤1048576→eZ U.toPg ⟨s.heap,ρ,R⟩ l xs→v = .lst l→wpAny (model U.prog U.w) A (call (.type "list") [x]) Q E s:=by
    intro p o xs m l T ex h1 hT hc hd hz h3 ev
    subst ex ev
    refine PySem.call_list_seq (hsz:=by simp only[List.size_toArray,sizeLine_eq]; omega) p hT h1 hc hd fun h' c' hk hD=>?_
    exact hQ _ _ (cm (tk:=s.toks) hk) (g.grow hk) (.lst (n:=⟨c',none,#[]⟩) (xs:=xs) (rV g hD (Heap.get?_none_of_le (Nat.le_refl _))) hz (h3.step (s':={ s with heap:=h',toks:=s.toks }) (cm hk)))
  unfold GQ at hop
  split at hop
  · cases hop
    refine qa ra fun p xs m e_3 hf hz h3=>?_
    subst e_3
    exact key rfl hf.1 (.inr rfl) rfl rfl hz h3 rfl
  · refine fJ hop fun l e e_2=>?_
    subst e_2
    refine i8 g ra e fun p xs m e_3 h1 hz h3=>?_
    subst e_3
    exact key rfl h1 (.inl rfl) rfl rfl hz h3 rfl
end
end Mine
end
section
open PySem PySem.W PyProof.Rows PySem.Calls PySem.SeqAt
namespace Mine
noncomputable def jf (p:Nat→Bool) (t:List Nat):List Nat:=(t.reverse.dropWhile p).reverse
noncomputable def sY (p:Nat→Bool) (t:List Nat):List Nat:=jf p (t.dropWhile p)
theorem jD {p:Nat→Bool}:∀ l:List Nat,l.dropWhile p=l.drop (l.takeWhile p).length
  | []=>rfl
  | a::l=>by
    rw[List.dropWhile_cons,List.takeWhile_cons]
    split
    · rw[List.length_cons,List.drop_succ_cons,jD l]
    · rfl
theorem qn {p:Nat→Bool} (t:List Nat):t.take (t.length - (t.reverse.takeWhile p).length)=jf p t:=by
  unfold jf
  rw[jD,List.reverse_drop,List.reverse_reverse,List.length_reverse]
theorem Ft {goes:Nat→Bool}{x:Str}:(Txt.stripBy goes true true x).cps.toList=sY goes x.cps.toList:=by
  have key:(Builtin.Str.strSub x (stripLo goes true x) (stripHi goes true x (stripLo goes true x))).cps.toList=sY goes x.cps.toList:=by
    rw[StrLaws.strSub_toList]
    unfold sY
    rw[← qn,jD]
    unfold stripHi stripLo
    simp only[if_true]
    congr 1
    rw[List.length_drop,str_len,← Array.length_toList]
    omega
  unfold Txt.stripBy
  split
  · rename_i h
    unfold stripSame at h
    simp only[Bool.and_eq_true,beq_iff_eq] at h
    obtain⟨h1,h2⟩:=h
    rw[h1] at h2 key
    rw[h2,StrLaws.strSub_toList] at key
    rw[← key]
    simp only[List.drop_zero,Nat.sub_zero,str_len,← Array.length_toList,List.take_length]
  · exact key
theorem DP {goes:Nat→Bool}{x:Str}:(Txt.stripBy goes false true x).cps.toList=jf goes x.cps.toList:=by
  have key:(Builtin.Str.strSub x (stripLo goes false x) (stripHi goes true x (stripLo goes false x))).cps.toList=jf goes x.cps.toList:=by
    rw[StrLaws.strSub_toList]
    rw[← qn]
    unfold stripHi stripLo
    simp only[if_true,Bool.false_eq_true,if_false,List.drop_zero,Nat.sub_zero,str_len,← Array.length_toList]
  unfold Txt.stripBy
  split
  · rename_i h
    unfold stripSame at h
    simp only[Bool.and_eq_true,beq_iff_eq] at h
    obtain⟨h1,h2⟩:=h
    rw[h1] at h2 key
    rw[h2,StrLaws.strSub_toList] at key
    rw[← key]
    simp only[List.drop_zero,Nat.sub_zero,str_len,← Array.length_toList,List.take_length]
  · exact key
noncomputable def jB (c:Nat) (s:List Nat) (i:Nat):Int:=match (s.drop i).findIdx? (·==c) with
  | some k=>(i + k:Nat)
  | none=>-1
noncomputable def Eg:List Nat→List V→Hp→Option V
  | s,[.str [c], .int i],_=>if 0≤i∧i≤s.length then some (.int (jB c s i.toNat)) else none
  | _,_,_=>none
noncomputable def lm:List Nat→List V→Hp→Option V
  | s,[.str t],_=>some (.bool (s.take t.length==t))
  | _,_,_=>none
noncomputable def Du:List Nat→List V→Hp→Option V
  | s,[.str t],_=>some (.str (sY (fun c=>t.contains c) s))
  | _,_,_=>none
noncomputable def mL:List Nat→List V→Hp→Option V
  | s,[.str t],_=>some (.str (jf (fun c=>t.contains c) s))
  | _,_,_=>none
noncomputable def cB (sep:List Nat):List (List Nat)→List Nat
  | []=>[]
  | [x]=>x
  | x::y::r=>x++sep++cB sep (y::r)
noncomputable def strsOf:List V→Option (List (List Nat))
  | []=>some []
  | .str s::l=>(strsOf l).map (s::·)
  | _=>none
noncomputable def ka:List Nat→List V→Hp→Option V
  | s,[v],H=>(cw v H).bind fun l=>(strsOf l).bind fun t=>if (t.map List.length).sum + t.length * s.length≤1048576 then some (.str (cB s t)) else none
  | _,_,_=>none
section
variable {U:fL}
structure r8 (U:fL) (name:Str) (op:List Nat→List V→Hp→Option V):Prop where
  ex:∃ id:String,(∀ (A:Around) (s:Shared) (x:Str) (t:Tok) (pl:Sem Bool) (Q:Value × List Value→Shared→Prop) (E:Value→Shared→Prop),Q (.builtin id,[.str x t]) s→wpAny (model U.prog U.w) A (getMethod (.str x t) name pl) Q E s)∧
    ∀ (A:Around) (ρ:List Hd) (R:List Addr) (H:Hp) (s:Shared) (Q:Value→Shared→Prop) (E:Value→Shared→Prop) (x:Str) (t:Tok) (as:List V) (xs:List Value) (v:V),
      ij 0 A→Good U.toPg U.top ρ R H s.heap→x.cps.size≤1048576→eZ U.toPg ⟨s.heap,ρ,R⟩ as xs→op x.cps.toList as H=some v→
      QO U ρ R H s Q v→wpAny (model U.prog U.w) A (call (.builtin id) (.str x t::xs)) Q E s
theorem GD (x:Str) (c:Nat) (i:Nat) (hi:i≤x.cps.toList.length):Txt.find3 x ⟨#[c]⟩ i=jB c x.cps.toList i:=by
  have hfi:fromIndex x.length (i:Int)=i:=by
    unfold fromIndex
    rw[if_neg (Int.not_lt.mpr (Int.natCast_nonneg i)),Int.max_eq_right (Int.natCast_nonneg i)]
    rfl
  have hx:x.length=x.cps.toList.length:=by rw[str_len,Array.length_toList]
  have get:∀ v,v < x.length→x.cps.toList[v]? = some (x.cps.getD v 0):=fun v hv=>by
    rw[str_len] at hv
    simp[hv]
  unfold jB
  rcases StrLaws.find3_spec x c i with ⟨h,hn⟩ | ⟨k,h,h1,h2,h3,h4⟩
  · rw[hfi] at hn
    have e:(x.cps.toList.drop i).findIdx? (·==c)=none:=by
      refine List.findIdx?_eq_none_iff.mpr fun a ha=>?_
      obtain⟨j,hj⟩:=List.getElem?_of_mem ha
      rw[List.getElem?_drop] at hj
      have hlt:i + j < x.length:=hx.symm▸(List.getElem?_eq_some_iff.mp hj).1
      exact beq_eq_false_iff_ne.mpr fun e=>hn (i + j) (Nat.le_add_right i j) hlt ((Option.some.inj ((get _ hlt).symm.trans hj)).trans e)
    rw[h,e]
  · rw[hfi] at h1 h4
    obtain⟨d,rfl⟩:=Nat.exists_eq_add_of_le h1
    have el:∀ j (hj:j < (x.cps.toList.drop i).length),i + j < x.length→(x.cps.toList.drop i)[j]=x.cps.getD (i + j) 0:=fun j hj hlt=>by
      rw[List.getElem_drop]
      exact(List.getElem?_eq_some_iff.mp (get _ hlt)).2
    have e:(x.cps.toList.drop i).findIdx? (·==c)=some d:=by
      refine List.findIdx?_eq_some_iff_getElem.mpr ⟨?_,?_,fun j hj=>?_⟩
      · rw[List.length_drop]
        exact Nat.lt_sub_iff_add_lt.mpr (Nat.add_comm i d▸hx▸h2)
      · rw[el d _ h2,h3]
        exact beq_self_eq_true c
      · rw[el j _ (Nat.lt_trans (Nat.add_lt_add_left hj i) h2)]
        exact fun q=>h4 (i + j) (Nat.le_add_right i j) (Nat.add_lt_add_left hj i) (beq_iff_eq.mp q)
    rw[h,e]
theorem Fa (x:Str) (c:Nat) (i:Int) (h:0≤i∧i≤x.cps.toList.length):Txt.find3 x ⟨#[c]⟩ i=jB c x.cps.toList i.toNat:=by
  have:=GD x c i.toNat (Int.toNat_le.mpr h.2)
  rwa [Int.toNat_of_nonneg h.1] at this
theorem Kb:r8 U (PySem.Str.ofString "find") Eg:=⟨"str.find",fun A s x t pl Q E h=>by with_reducible exact GM.find h,by
  intro A ρ R H s Q E x t as xs v hr g hz ra hop hQ
  unfold Eg at hop
  split at hop
  · split at hop
    · rename_i hi
      cases hop
      cases ra with | cons r1 r2=>cases r2 with | cons r2 r3=>cases r3 with | nil=>
      refine ee r1 fun y u e_2 hy _=>?_
      subst e_2
      obtain⟨w,rfl⟩:=gJ r2
      obtain rfl:=AM hy
      refine SC.find3 (hQ _ _ .toks g ?_)
      rw[Fa x _ _ hi]; exact .int _ _
    · cases hop
  · cases hop⟩
theorem uf:r8 U (PySem.Str.ofString "startswith") lm:=⟨"str.startswith",fun A s x t pl Q E h=>by with_reducible exact GM.startswith h,by
  intro A ρ R H s Q E x t as xs v hr g hz ra hop hQ
  unfold lm at hop
  split at hop
  · cases hop
    cases ra with | cons r1 r2=>cases r2 with | nil=>
    refine ee r1 fun y u e_2 hy _=>?_
    subst e_2
    refine SC.startswith (hQ _ _ .refl g ?_)
    have:Txt.startswith x y=(x.cps.toList.take y.cps.toList.length==y.cps.toList):=by
      unfold Txt.startswith
      rw[StrLaws.subAt_eq,List.drop_zero]
      by_cases h:y.length≤x.length
      · simp only[Nat.zero_add,h,decide_true,Bool.true_and]; rw[str_len y,← Array.length_toList]
      · simp only[Nat.zero_add,h,decide_false,Bool.false_and]
        symm
        rw[beq_eq_false_iff_ne]
        intro e
        have:=congrArg List.length e
        rw[List.length_take,Array.length_toList,Array.length_toList] at this
        rw[str_len,str_len] at h
        omega
    rw[this,hy]; exact .bool _
  · cases hop⟩
theorem yk {p:Nat→Bool} (t:List Nat):(jf p t).length≤t.length:=by
  rw[← qn]; exact List.length_take_le' _ _
theorem Af {p:Nat→Bool} (t:List Nat):(t.dropWhile p).length≤t.length:=by
  rw[jD,List.length_drop]; omega
theorem ue (y:Str):(fun c=>y.cps.contains c)=fun c=>y.cps.toList.contains c:=by
  funext c; simp
theorem HW:r8 U (PySem.Str.ofString "strip") Du:=⟨"str.strip",fun A s x t pl Q E h=>by with_reducible exact GM.strip h,by
  intro A ρ R H s Q E x t as xs v hr g hz ra hop hQ
  unfold Du at hop
  split at hop
  · cases hop
    cases ra with | cons r1 r2=>cases r2 with | nil=>
    refine ee r1 fun y u e_2 hy _=>?_
    subst e_2
    refine SC.stripChars (fun t' k=>hQ _ _ .toks g ?_) (by rw[str_len,sizeLine_eq]; omega)
    have e:(Txt.stripChars x y).cps.toList=sY (fun c=>y.cps.toList.contains c) x.cps.toList:=by rw[← ue]; exact Ft
    rw[← hy,← e]
    refine .str _ _ ?_
    rw[← Array.length_toList,e]
    refine Nat.le_trans (Nat.le_trans (yk _) (Af _)) ?_
    rw[Array.length_toList]; exact hz
  · cases hop⟩
theorem yi:r8 U (PySem.Str.ofString "rstrip") mL:=⟨"str.rstrip",fun A s x t pl Q E h=>by with_reducible exact GM.rstrip h,by
  intro A ρ R H s Q E x t as xs v hr g hz ra hop hQ
  unfold mL at hop
  split at hop
  · cases hop
    cases ra with | cons r1 r2=>cases r2 with | nil=>
    refine ee r1 fun y u e_2 hy _=>?_
    subst e_2
    refine SC.rstripChars (fun t' k=>hQ _ _ .toks g ?_) (by rw[str_len,sizeLine_eq]; omega)
    have e:(Txt.rstripChars x y).cps.toList=jf (fun c=>y.cps.toList.contains c) x.cps.toList:=by rw[← ue]; exact DP
    rw[← hy,← e]
    refine .str _ _ ?_
    rw[← Array.length_toList,e]
    refine Nat.le_trans (yk _) ?_
    rw[Array.length_toList]; exact hz
  · cases hop⟩
end
end Mine
end
section
open PySem PySem.W PyProof.Rows PySem.Calls PySem.SeqAt
namespace Mine
noncomputable def jy {α:Type} (lo hi:Option Int) (s:List α):List α:=(s.drop (lo.elim 0 Int.toNat)).take ((hi.elim s.length Int.toNat) - (lo.elim 0 Int.toNat))
noncomputable def qs (lo hi:Option Int):Bool:=lo.elim true (0≤·)&&hi.elim true (0≤·)
theorem I1 {α:Type} (s:List α) (a b:Nat):(s.drop (min a s.length)).take (min b s.length - min a s.length)=(s.drop a).take (b - a):=by
  rcases Nat.le_total a s.length with h | h
  · rw[Nat.min_eq_left h]
    rcases Nat.le_total b s.length with h' | h'
    · rw[Nat.min_eq_left h']
    · rw[Nat.min_eq_right h',List.take_of_length_le (by simp),List.take_of_length_le (by simp; omega)]
  · rw[Nat.min_eq_right h,List.drop_of_length_le (Nat.le_refl _),List.drop_of_length_le h]; simp
theorem wf {i:Int} (len:Nat) (h:decide (0≤i)=true):max 0 (min (if i < 0 then i + (len:Int) else i) (len:Int))=((min i.toNat len:Nat):Int):=by
  obtain⟨n,rfl⟩:=Int.eq_ofNat_of_zero_le (of_decide_eq_true h)
  rw[if_neg (Int.not_lt.mpr (Int.natCast_nonneg n)),Int.toNat_natCast]
  omega
theorem Km (a b:Nat):sliceRange (a:Int) (b:Int) 1=(List.range (b - a)).map (fun k=>a + k):=by
  have e:(if (a:Int) < b then ((b:Int) - a + 1 - 1) / 1 else 0).toNat=b - a:=by
    by_cases h:(a:Int) < b
    · rw[if_pos h,Int.ediv_one,Int.add_sub_cancel,Int.toNat_sub]
    · rw[if_neg h,Nat.sub_eq_zero_of_le (Int.ofNat_le.mp (Int.not_lt.mp h))]; rfl
  show(List.range (if (a:Int) < b then ((b:Int) - a + 1 - 1) / 1 else 0).toNat).map (fun(k:Nat)=>((a:Int) + 1 * (k:Int)).toNat)=_
  rw[e]
  exact List.map_congr_left fun k _=>by rw[Int.one_mul]; rfl
theorem str_idx (lo hi:Option Int) (len:Nat) (h:qs lo hi=true):Builtin.Str.strSliceIndices lo hi 1 len=(List.range ((hi.elim len fun i=>min i.toNat len) - (lo.elim 0 fun i=>min i.toNat len))).map (fun k=>(lo.elim 0 fun i=>min i.toNat len) + k):=by
  obtain⟨h1,h2⟩:=Bool.and_eq_true_iff.mp h
  refine Eq.trans ?_ (Km _ _)
  cases lo with
  | none=>
    cases hi with
    | none=>rfl
    | some j=>exact congrArg (sliceRange 0 · 1) (wf len h2)
  | some i=>
    cases hi with
    | none=>exact congrArg (sliceRange · len 1) (wf len h1)
    | some j=>exact(congrArg (sliceRange · _ 1) (wf len h1)).trans (congrArg (sliceRange _ · 1) (wf len h2))
theorem CG {α:Type} (lo hi:Option Int) (s:List α):(s.drop (lo.elim 0 fun i=>min i.toNat s.length)).take ((hi.elim s.length fun i=>min i.toNat s.length) - (lo.elim 0 fun i=>min i.toNat s.length))=jy lo hi s:=by
  have e1:(lo.elim 0 fun i=>min i.toNat s.length)=min (lo.elim 0 Int.toNat) s.length:=by
    cases lo with
    | none=>exact(Nat.zero_min _).symm
    | some i=>rfl
  have e2:(hi.elim s.length fun i=>min i.toNat s.length)=min (hi.elim s.length Int.toNat) s.length:=by
    cases hi with
    | none=>exact(Nat.min_self _).symm
    | some i=>rfl
  rw[e1,e2,I1]
  rfl
theorem CA {α:Type} (lo hi:Option Int) (s:List α):(jy lo hi s).Sublist s:=(List.take_sublist _ _).trans (List.drop_sublist _ _)
theorem KV {hi:Option Int}{n:Nat}:(hi.elim n fun i=>min i.toNat n)≤n:=by
  cases hi with
  | none=>exact Nat.le_refl n
  | some i=>exact Nat.min_le_right _ _
theorem zp (x:Str) (lo hi:Option Int) (h:qs lo hi=true):(Txt.slice x lo hi).cps.toList=jy lo hi x.cps.toList:=by
  have e:x.length=x.cps.toList.length:=by rw[str_len,Array.length_toList]
  have hi':=KV (hi:=hi) (n:=x.cps.toList.length)
  have si:=str_idx lo hi x.length h
  have ce:=CG lo hi x.cps.toList
  rw[e] at si
  generalize (lo.elim 0 fun i=>min i.toNat x.cps.toList.length)=A at si ce
  generalize (hi.elim x.cps.toList.length fun i=>min i.toNat x.cps.toList.length)=B at si ce hi'
  have pk:((Builtin.Str.strSliceIndices lo hi 1 x.length).filterMap (x.cps[·]?))=jy lo hi x.cps.toList:=by
    rw[e,si,← ce]
    rcases Nat.le_total A B with hl | hl
    · have q:=StrLaws.picks x.cps.toList (B - A) A ((Nat.add_sub_cancel' hl).symm▸hi')
      simpa using q
    · rw[Nat.sub_eq_zero_of_le hl]; rfl
  unfold Txt.slice
  split
  · rename_i hc
    simp only[Bool.and_eq_true,beq_iff_eq] at hc
    refine((CA lo hi x.cps.toList).eq_of_length_le ?_).symm
    have l:=congrArg List.length si
    rw[List.length_map,List.length_range,← e,hc.2,e] at l
    rw[← ce,List.length_take,List.length_drop]
    exact Nat.le_min.mpr ⟨Nat.le_of_eq l,Nat.le_trans (Nat.le_of_eq l) (Nat.sub_le_sub_right hi' A)⟩
  · exact pk
end Mine
end
section
open PySem PySem.W PyProof.Rows PySem.Calls PySem.SeqAt
namespace Mine
theorem Co (sep:Str):∀ l:List Str,(Str.join sep l).cps.toList=cB sep.cps.toList (l.map (·.cps.toList))
  | []=>rfl
  | [x]=>rfl
  | x::y::r=>by
    show(x++sep++Str.join sep (y::r)).cps.toList=_
    rw[Ae,Ae,Co sep (y::r)]
    rfl
theorem za {G:Pg}{s:Vw}:∀ {l:List V}{xs:List Value}{ts:List (List Nat)},eZ G s l xs→strsOf l=some ts→∃ ys:List Str,StrsAre xs ys∧ys.map (·.cps.toList)=ts
  | [],_,ts, .nil,h=>by cases h; exact⟨[], .nil,rfl⟩
  | v::l,_,ts, .cons r1 r2,h=>by
    unfold strsOf at h
    split at h
    · rename_i e; cases e
    · rename_i e
      refine fJ h fun ts' e1 e_2=>?_
      subst e_2
      cases e
      obtain⟨ys,h1,h2⟩:=za r2 e1
      refine ee r1 fun y t e_2 hy _=>?_
      subst e_2
      exact⟨y::ys, .cons y t h1,by rw[List.map_cons,h2,hy]⟩
    · cases h
theorem y8 (sep:List Nat):∀ l:List (List Nat),(cB sep l).length≤(l.map List.length).sum + l.length * sep.length
  | []=>by simp[cB]
  | [x]=>by simp[cB]
  | x::y::r=>by
    have:=y8 sep (y::r)
    unfold cB
    simp only[List.length_append,List.map_cons,List.sum_cons,List.length_cons] at this ⊢
    rw[Nat.add_mul (r.length + 1)]
    omega
theorem log2_small {n:Nat} (h:n < 1000000):n.log2 < 1920:=by
  by_cases hz:n=0
  · subst hz; decide
  · exact Nat.lt_of_lt_of_le ((Nat.log2_lt hz (k:=20)).mpr (by omega)) (by decide)
section
variable {U:fL}{n:Nat}{sc:Scope}
theorem rk:r8 U (PySem.Str.ofString "join") ka:=⟨"str.join",fun A s x t pl Q E h=>by with_reducible exact GM.join h,by
  intro A ρ R H s Q E x t as xs v hr g hz ra hop hQ
  unfold ka at hop
  split at hop
  · refine gz hop fun l e1 hop=>?_
    refine gz hop fun ts e2 hop=>?_
    split at hop
    · rename_i hs
      cases hop
      cases ra with | cons r1 r2=>cases r2 with | nil=>
      refine i8 g r1 e1 fun p ys m e_3 h1 h2 h3=>?_
      subst e_3
      obtain⟨zs,h4,h5⟩:=za h3 e2
      have l1:(zs.map (·.length)).sum=(ts.map List.length).sum:=by
        rw[← h5,List.map_map]
        exact congrArg List.sum (List.map_congr_left fun y _=>by simp[str_len])
      have l2:zs.length=ts.length:=by rw[← h5,List.length_map]
      refine PyProof.Rows.join_list (ys:=zs) (bD h1) (by simpa using h4) (by rw[l1,l2,str_len,← Array.length_toList]; omega) fun t' k=>hQ _ _ .toks g ?_
      have e:(Txt.join x zs).cps.toList=cB x.cps.toList ts:=by
        show(Builtin.Str.glued x zs).cps.toList=_
        rw[StrLaws.glued_eq_join,Co,h5]
      rw[← e]
      refine .str _ _ ?_
      rw[← Array.length_toList,e]
      exact Nat.le_trans (y8 _ _) hs
    · cases hop
  · cases hop⟩
noncomputable def tf (op:List Nat→List V→Hp→Option V) (f:EF) (g:LF):EF:=fun M H=>(f M H).bind fun p=>match p.1 with
  | .str x=>(g M p.2).bind fun q=>(op x q.1 q.2).map fun v=>(v,q.2)
  | _=>none
noncomputable def pG (o:PySem.Expr) (name:Str) (apos:Pos) (args:List PySem.Expr) (pos:Pos):Prop:=∀ env,∃ pl:Sem Bool,eval (.Call (.Attribute o name apos) args [] pos) env=(do
      let ov ← eval o env
      standAt apos.atName
      let (f,first) ← holding [ov] (getMethod ov name pl)
      callWith pos f first (backTo pos (starEach args env)) (backToKw pos (keywordEach [] env)))
theorem E.ms {o a:PySem.Expr}{name:Str}{apos pos:Pos}{args:List PySem.Expr}{op:List Nat→List V→Hp→Option V}{f:EF}{g:LF} (hf:pG o name apos (a::args) pos) (hm:r8 U name op) (h1:aA U n sc o f) (h2:iz U n sc (a::args) g) (he:∀ env,starEach (a::args) env=(false,eval a env)::starEach args env):
    aA U n sc (.Call (.Attribute o name apos) (a::args) [] pos) (tf op f g):=by
  intro A env M P ρ R H s Q E v H' hr so gd lr hfn hQ
  unfold tf at hfn
  refine bf hfn fun p H1 e1 hfn=>?_
  obtain⟨pl,heq⟩:=hf env
  obtain⟨id,hg,hc⟩:=hm.ex
  refine methodCall_KW (pl:=pl) (h1 A env M P ρ R H s _ E p H1 hr so gd lr e1 fun x s1 ρ1 st1 g1 va=>?_) heq
  dsimp only at hfn
  split at hfn
  · rename_i xl
    refine bf hfn fun q H2 e2 hfn=>?_
    refine fJ hfn fun w e3 hfn=>?_
    cases hfn
    refine ee va fun y t e_2 hy hz=>?_
    subst e_2
    refine hg A s1 y t pl _ E ?_
    refine js (.inl ⟨id,rfl⟩) h2 (he env) hr so g1 (lr.cT st1) e2 fun xs s2 ρ2 st2 g2 vb=>?_
    exact hc A ρ2 R H2 s2 Q E y t q xs v (hr.le (Nat.zero_le _)) g2 hz vb (by rw[hy]; exact e3) fun z s3 st3 g3 vc=>hQ z s3 ρ2 ((st1.trans st2).trans st3) g3 vc
  · cases hfn
noncomputable def vStr:V→Hp→Option V
  | .str s,_=>some (.str s)
  | .int i,_=>if i.natAbs < 1000000∧(PySem.Str.ofString (toString i)).cps.size≤1048576 then some (.str (PySem.Str.ofString (toString i)).cps.toList) else none
  | _,_=>none
theorem Ku:i7 U vStr (fun v=>call (.type "str") [v]):=by
  intro A ρ R H s Q E a v x hr g ra hop hQ
  unfold vStr at hop
  split at hop
  · cases hop
    refine ee ra fun y t e_2 hy hz=>?_
    subst e_2
    exact PySem.P.str_of_str (hQ _ _ .refl g (by rw[← hy]; exact .str _ _ hz))
  · split at hop
    · rename_i hi
      cases hop
      obtain⟨t,rfl⟩:=gJ ra
      exact PySem.P.str_of_int (log2_small hi.1) (hQ _ _ .toks g (.str _ _ hi.2))
    · cases hop
  · cases hop
noncomputable def vInt:V→Hp→Option V
  | .int i,_=>some (.int i)
  | .str [a,b],_=>if 48≤a∧a≤57∧48≤b∧b≤57 then some (.int ((a - 48) * 10 + (b - 48))) else none
  | _,_=>none
theorem CY:∀ a < 10,∀ b < 10,PySem.intText? ⟨#[48 + a,48 + b]⟩=some ((((48 + a:Nat):Int) - 48) * 10 + (((48 + b:Nat):Int) - 48)):=by decide +kernel
theorem Id {p q:Nat} (hi:48≤p∧p≤57∧48≤q∧q≤57):PySem.intText? ⟨#[p,q]⟩=some (((p:Int) - 48) * 10 + ((q:Int) - 48)):=by
  obtain⟨a,rfl⟩:=Nat.exists_eq_add_of_le hi.1
  obtain⟨b,rfl⟩:=Nat.exists_eq_add_of_le hi.2.2.1
  exact CY a (Nat.lt_of_add_lt_add_left (Nat.lt_succ_of_le hi.2.1)) b (Nat.lt_of_add_lt_add_left (Nat.lt_succ_of_le hi.2.2.2))
theorem Jc {y:Str}{p q:Nat} (hy:y.cps.toList=[p,q]):y=⟨#[p,q]⟩:=by cases y with | mk cps=>simp only at hy; congr 1; exact Array.ext' hy
theorem KZ:i7 U vInt (fun v=>call (.type "int") [v]):=by
  intro A ρ R H s Q E a v x hr g ra hop hQ
  unfold vInt at hop
  split at hop
  · cases hop
    obtain⟨t,rfl⟩:=gJ ra
    exact PySem.call_int_int (hQ _ _ .refl g (.int _ _))
  · split at hop
    · rename_i hi
      cases hop
      refine ee ra fun y t e_2 hy hz=>?_
      subst e_2
      obtain rfl:=Jc hy
      exact KIN.call_text (Id hi) (by show 2≤640; omega) (hQ _ _ .toks g (.int _ _))
    · cases hop
  · cases hop
noncomputable def Kl:V→Hp→Option V
  | .str [a],_=>some (.int a)
  | _,_=>none
theorem Lz:i7 U Kl (fun v=>call (.builtin "ord") [v]):=by
  intro A ρ R H s Q E a v x hr g ra hop hQ
  unfold Kl at hop
  split at hop
  · cases hop
    refine ee ra fun y t e_2 hy hz=>?_
    subst e_2
    obtain rfl:=AM hy
    exact PySem.P.ord_of_char (hQ _ _ .toks g (.int _ _))
  · cases hop
noncomputable def wa {α:Type} (l:List α) (i:Int):Option α:=if 0≤i then l[i.toNat]? else if -(l.length:Int)≤i then l[(i + l.length).toNat]? else none
noncomputable def aI:V→V→Hp→Option V
  | .str s, .int i,_=>if 0≤i then (s[i.toNat]?).map fun c => .str [c] else none
  | .tup l, .int i,_=>wa l i
  | c, .int i,H=>(cw c H).bind fun l=>wa l i
  | c, .str k,H=>(qt c H).bind fun l=>o9 l k
  | _,_,_=>none
theorem Aa {n:Nat}{k:Int} (hz:n≤1048576) (hb:-(n:Int)≤k∧k < n):-(2 ^ 63)≤k∧k < 2 ^ 63:=by omega
theorem uC {α:Type}{l:List α}{i:Int}{v:α} (h:wa l i=some v):-(l.length:Int)≤i∧i < l.length:=by
  unfold wa at h
  split at h
  · rename_i h0
    exact⟨Int.le_trans (Int.neg_nonpos_of_nonneg (Int.natCast_nonneg _)) h0,(Int.toNat_lt h0).mp (List.getElem?_eq_some_iff.mp h).1⟩
  · rename_i h0
    split at h
    · rename_i h1
      exact⟨h1,Int.lt_of_lt_of_le (Int.not_le.mp h0) (Int.natCast_nonneg _)⟩
    · cases h
theorem BI {G:Pg}{s:Vw}{l:List V}{xs:List Value}{i:Int}{v:V} (r:eZ G s l xs) (h:wa l i=some v):∃ x,wa xs i=some x∧VR G s v x:=by
  unfold wa at h ⊢
  split at h
  · rename_i h0
    obtain⟨x,h1,h2⟩:=r.get h
    exact⟨x,by rw[if_pos h0]; exact h1,h2⟩
  · rename_i h0
    split at h
    · rename_i h1
      obtain⟨x,h2,h3⟩:=r.get h
      exact⟨x,by rw[if_neg h0,r.length,if_pos h1]; exact h2,h3⟩
    · cases h
theorem Il {α:Type}{l:List α}{i:Int}{v:α} (h:wa l i=some v):∃ j,seqIndex? i l.length=some j∧l[j]? = some v:=by
  have hb:=uC h
  unfold wa at h
  simp only[seqIndex?]
  split at h
  · rename_i h0
    rw[if_neg (Int.not_lt.mpr h0),if_pos (Bool.and_eq_true_iff.mpr ⟨decide_eq_true h0,decide_eq_true hb.2⟩)]
    exact⟨_,rfl,h⟩
  · rename_i h0
    split at h
    · rename_i h1
      have h2:0≤i + (l.length:Int):=by have:=Int.add_le_add_right h1 (l.length:Int); rwa [Int.add_left_neg] at this
      rw[if_pos (Int.not_le.mp h0),if_pos (Bool.and_eq_true_iff.mpr ⟨decide_eq_true h2,decide_eq_true (Int.lt_of_lt_of_le (Int.add_lt_add_right (Int.not_le.mp h0) (l.length:Int)) (Int.le_of_eq (Int.zero_add _)))⟩)]
      exact⟨_,rfl,h⟩
    · cases h
theorem Je {G:Pg}{s:Vw}{z:Str}{i:Int}{c:Nat}{tk:Tok} (h0:0≤i) (e:z.cps.toList[i.toNat]? = some c):VR G s (.str [c]) (.str (Txt.item z i) tk):=by
  have hlt:=(List.getElem?_eq_some_iff.mp e).1
  have:(Txt.item z i).cps.toList=[c]:=by
    unfold Txt.item Txt.charAt
    rw[Array.length_toList] at hlt
    simp only[seqIndex?]
    have e1:(if i < 0 then i + (z.length:Int) else i)=i:=if_neg (by omega)
    have e2:0≤i∧i < (z.length:Int):=⟨h0,by rw[str_len]; omega⟩
    rw[e1,if_pos (by simp only[Bool.and_eq_true,decide_eq_true_eq]; exact e2)]
    simp only[Option.bind_some]
    rw[← Array.getElem?_toList,e]
    rfl
  rw[← this]
  exact .str _ _ (by unfold Txt.item; show 1≤_; omega)
theorem Ko {value slice:PySem.Expr} (hs:∀ o i,subscripted slice false o i=operate [o,i] (getItem o i)):cU U aI (fun o i=>subscriptTail value slice o i):=by
  intro A ρ R H s Q E a b v x y hr g ra rb hop hQ
  have lists:∀ {l:List V}{i:Int},cw a H=some l→b = .int i→wa l i=some v→wpAny (model U.prog U.w) A (subscriptTail value slice x y) Q E s:=fun {l i} e1 e2 e3=>by
    subst e2
    obtain⟨t,rfl⟩:=gJ rb
    refine i8 g ra e1 fun p xs m e_3 h1 hz h3=>?_
    subst e_3
    obtain⟨z,h4,h5⟩:=BI h3 e3
    have hb:=uC h4
    refine tail_any (s:=s) (T:="list") ⟨_,h1,rfl⟩ slot_list_getitem.lookup ?_ (hs _ _)
    unfold wa at h4
    split at h4
    · rename_i h0
      exact wpAny_getItem_list (bD h1) h0 (Aa hz hb).2 (by simpa using h4) (hQ _ _ .refl g h5)
    · rename_i h0
      split at h4
      · exact wpAny_getItem_list_neg (bD h1) (Int.not_le.mp h0) hb.1 (Aa hz hb).1 (by simpa using h4) (hQ _ _ .refl g h5)
      · cases h4
  unfold aI at hop
  split at hop
  · split at hop
    · rename_i h0
      refine fJ hop fun c e e_2=>?_
      subst e_2
      obtain⟨t,rfl⟩:=gJ rb
      refine ee ra fun z u e_2 hz hl=>?_
      subst e_2
      have hlt:=(List.getElem?_eq_some_iff.mp e).1
      rw[← hz,Array.length_toList] at hlt
      obtain⟨T,id,k1,k2,k3⟩:=SB.item (prog:=U.prog) (w:=U.w) (A:=A) (E:=E) (s:=s) (x:=z) (t:=u) (u:=t) (Q:=Q) (by unfold fitsSsize; simp; omega) (charAt_isSome (by rw[str_len]; omega) (by rw[str_len]; omega)) (hQ _ _ .toks g (Je h0 (by rw[hz]; exact e)))
      exact tail_any k2 k1 k3 (hs _ _)
    · cases hop
  · obtain⟨t,rfl⟩:=gJ rb
    refine qa ra fun p xs m e_3 hf hz h3=>?_
    subst e_3
    obtain⟨z,h4,h5⟩:=BI h3 hop
    have hb:=uC h4
    obtain⟨j,hj,hx⟩:=Il h4
    refine tail_any (s:=s) (T:="tuple") ⟨_,hf.1,rfl⟩ slot_tuple_getitem.lookup (PyProof.Rows.getItem_tuple (Cj hf.1) (Aa hz hb).1 (Aa hz hb).2 (j:=j) (by simpa using hj) (by simpa using hx) (hQ _ _ .refl g h5)) (hs _ _)
  · refine gz hop fun l e1 e2=>?_
    exact lists e1 rfl e2
  · refine gz hop fun l e1 e2=>?_
    refine ee rb fun z u e_2 hz hl=>?_
    subst e_2
    refine Ei g ra e1 fun p o kvs e_3 h1 h2 h3 h4 h5=>?_
    subst e_3
    have hm:=(uE h1 h3).mapOf
    rcases Gc z h5 with ⟨e3,e4⟩ | ⟨w,x,e3,e4,e5⟩
    · rw[hz] at e3; rw[e3] at e2; cases e2
    · rw[hz] at e3; rw[e3] at e2; cases e2
      refine tail_any (s:=s) (T:="dict") hm.typeIs slot_dict_getitem.lookup (wpAny_getItem_of (PySem.strKind_is _ _ z u) hm e4 (hQ _ _ .toks g e5)) (hs _ _)
  · cases hop
end
end Mine
end
section
open PySem PySem.W PyProof.Rows PySem.Calls PySem.SeqAt
namespace Mine
section
variable {U:fL}{n:Nat}{sc:Scope}
noncomputable def oTup (g:LF):EF:=fun M H=>(g M H).bind fun p=>if p.1.length≤1048576 then some (.tup p.1,p.2) else none
noncomputable def oLst (g:LF):EF:=fun M H=>(g M H).bind fun p=>if p.1.length≤1048576 then some (.lst p.1,p.2) else none
theorem E.tup {es:List PySem.Expr}{k pos}{g:LF} (h:iz U n sc es g):aA U n sc (.Tuple es k pos) (oTup g):=by
  intro A env M P ρ R H s Q E v H' hr so gd lr hf hQ
  unfold oTup at hf
  refine bf hf fun vs H1 e1 hf=>?_
  split at hf
  · rename_i hz
    cases hf
    refine wpAny_Tuple_spliced (h.run A env M P ρ R H s _ E vs H1 pos hr so gd lr e1 fun xs s1 ρ1 st1 g1 vb=>?_)
    have l:=vb.length
    refine⟨by rw[sizeLine_eq]; simp only at hz; omega,hQ _ _ ρ1 (st1.trans (iS (tk:=s1.toks))) (g1.push (tk:=s1.toks)) ?_⟩
    exact .tup (n:=0) (xs:=xs) (rQ g1 rfl) (by simp only at hz; omega) (vb.step (iS (tk:=s1.toks)))
  · cases hf
theorem E.lst {es:List PySem.Expr}{pos}{g:LF} (h:iz U n sc es g):aA U n sc (.List es pos) (oLst g):=by
  intro A env M P ρ R H s Q E v H' hr so gd lr hf hQ
  unfold oLst at hf
  refine bf hf fun vs H1 e1 hf=>?_
  split at hf
  · rename_i hz
    cases hf
    refine wpAny_List_spliced (h.run A env M P ρ R H s _ E vs H1 pos hr so gd lr e1 fun xs s1 ρ1 st1 g1 vb=>?_)
    have l:=vb.length
    refine⟨by rw[sizeLine_eq]; simp only at hz; omega,hQ _ _ ρ1 (st1.trans (iS (tk:=s1.toks))) (g1.push (tk:=s1.toks)) ?_⟩
    exact .lst (n:=⟨0,none,#[]⟩) (xs:=xs) (rQ g1 rfl) (by simp only at hz; omega) (vb.step (iS (tk:=s1.toks)))
  · cases hf
theorem Good.alloc {G:Pg}{top:Heap}{ρ:List Hd}{R:List Addr}{H:Hp}{h:Heap}{hd:Hd}{ob:Ob} (g:Good G top ρ R H h) (hl:hd.live=true)
    (h':Heap) (hk:∀ b o,h.get? b=some o→h'.get? b=some o) (na:h.get? hd.a=none) (nd:h.get? hd.d=none) (ea:∃ o,h'.get? hd.a=some o) (ed:∃ o,h'.get? hd.d=some o)
    (ho:OR G ⟨h',ρ++[hd],R⟩ ob hd):Good G top (ρ++[hd]) R (H++[ob]) h':=by
  have le:Vw.Le ⟨h,ρ,R⟩ ⟨h',ρ++[hd],R⟩:=by
    refine⟨fun a o x=>⟨hk _ _ x.1,fun q=>?_,x.2.2⟩,fun k hd' e=>⟨hd',?_,rfl⟩⟩
    · obtain⟨k,hd',e,hl',q⟩:=bT.mp q
      rcases Nat.lt_or_ge k ρ.length with hlt | hge
      · rw[List.getElem?_append_left hlt] at e
        exact x.2.1 (bT.mpr ⟨k,hd',e,hl',q⟩)
      · rw[List.getElem?_append_right hge] at e
        have:k - ρ.length=0:=by
          have:=(List.getElem?_eq_some_iff.mp e).1; simp at this; omega
        rw[this] at e; cases e
        rcases q with q | q
        · exact bB x.1 (q▸na)
        · exact bB x.1 (q▸nd)
    · exact(List.getElem?_append_left (List.getElem?_eq_some_iff.mp e).1).trans e
  have old:∀ (k:Nat) (hd':Hd),ρ[k]? = some hd'→hd'.live=true→(∃ o,h.get? hd'.a=some o)∧∃ o,h.get? hd'.d=some o:=fun k hd' e hl'=>⟨g.lt _ (bT.mpr ⟨k,hd',e,hl', .inl rfl⟩),g.lt _ (bT.mpr ⟨k,hd',e,hl', .inr rfl⟩)⟩
  have split:∀ {k:Nat}{x:Hd},(ρ++[hd])[k]? = some x→(k < ρ.length∧ρ[k]? = some x)∨(k=ρ.length∧x=hd):=fun {k x} e=>by
    rcases Nat.lt_or_ge k ρ.length with hlt | hge
    · rw[List.getElem?_append_left hlt] at e; exact .inl ⟨hlt,e⟩
    · rw[List.getElem?_append_right hge] at e
      have hz:k - ρ.length=0:=by have:=(List.getElem?_eq_some_iff.mp e).1; simp at this; omega
      rw[hz] at e; cases e; exact .inr ⟨by omega,rfl⟩
  refine⟨fun a o e=>le.fix a o (g.top a o e),by simp[g.len],fun k ob' hd' e1 e2 hne=>?_,fun i j hi hj ei ej li lj hij=>?_,fun a q=>?_,fun a q hr=>?_,fun a q=>?_⟩
  · rcases split e2 with ⟨hlt,e2⟩ | ⟨rfl,rfl⟩
    · rw[List.getElem?_append_left (by rw[← g.len]; exact hlt)] at e1
      obtain⟨x1,x2⟩:=g.ob k ob' hd' e1 e2 hne
      exact⟨x1,x2.mono le (fun o e=>hk _ _ e) (fun o e=>hk _ _ e)⟩
    · rw[g.len,List.getElem?_append_right (Nat.le_refl _)] at e1
      simp at e1
      subst e1
      exact⟨hl,ho⟩
  · rcases split ei with ⟨h1,ei1⟩ | ⟨h1,ei1⟩ <;> rcases split ej with ⟨h2,ej1⟩ | ⟨h2,ej1⟩
    · exact g.nd i j hi hj ei1 ej1 li lj hij
    · obtain⟨⟨o1,e1⟩,⟨o2,e2⟩⟩:=old _ _ ei1 li
      rw[ej1]
      exact⟨fun q=>bB e1 (q▸na),fun q=>bB e1 (q▸nd),fun q=>bB e2 (q▸na),fun q=>bB e2 (q▸nd)⟩
    · obtain⟨⟨o1,e1⟩,⟨o2,e2⟩⟩:=old _ _ ej1 lj
      rw[ei1]
      exact⟨fun q=>bB e1 (q▸na),fun q=>bB e2 (q▸na),fun q=>bB e1 (q▸nd),fun q=>bB e2 (q▸nd)⟩
    · exact absurd (h1.trans h2.symm) hij
  · obtain⟨k,hd',e,hl',q1⟩:=bT.mp q
    rcases split e with ⟨_,e0⟩ | ⟨_,e0⟩
    · obtain⟨⟨o1,e1⟩,⟨o2,e2⟩⟩:=old _ _ e0 hl'
      rcases q1 with q1 | q1
      · rw[q1]; exact⟨o1,hk _ _ e1⟩
      · rw[q1]; exact⟨o2,hk _ _ e2⟩
    · rw[e0] at q1
      rcases q1 with q1 | q1
      · rw[q1]; exact ea
      · rw[q1]; exact ed
  · obtain⟨k,hd',e,hl',q1⟩:=bT.mp q
    obtain⟨o,eo⟩:=g.yr a hr
    rcases split e with ⟨_,e0⟩ | ⟨_,e0⟩
    · exact g.rs a (bT.mpr ⟨k,hd',e0,hl',q1⟩) hr
    · rw[e0] at q1
      rcases q1 with q1 | q1
      · exact bB eo (q1▸na)
      · exact bB eo (q1▸nd)
  · obtain⟨o,eo⟩:=g.yr a q
    exact⟨o,hk _ _ eo⟩
theorem step_alloc {ρ:List Hd}{s:Shared}{hd:Hd}{h':Heap}{tk:Nat} (hk:∀ b o,s.heap.get? b=some o→h'.get? b=some o) (na:s.heap.get? hd.a=none) (nd:s.heap.get? hd.d=none):Step [] ρ s (ρ++[hd]) { s with heap:=h',toks:=tk }:=by
  refine⟨fun a o e _ _=>hk a o e,fun a o e=>⟨o,hk a o e⟩,fun k hd' e=>⟨hd',(List.getElem?_append_left (List.getElem?_eq_some_iff.mp e).1).trans e,rfl⟩,fun a q=>?_,rfl,rfl⟩
  obtain⟨k,hd',e,hl',q⟩:=bT.mp q
  rcases Nat.lt_or_ge k ρ.length with hlt | hge
  · rw[List.getElem?_append_left hlt] at e
    exact .inl (bT.mpr ⟨k,hd',e,hl',q⟩)
  · rw[List.getElem?_append_right hge] at e
    have hz:k - ρ.length=0:=by have:=(List.getElem?_eq_some_iff.mp e).1; simp at this; omega
    rw[hz] at e; cases e
    rcases q with q | q
    · rw[q]; exact .inr na
    · rw[q]; exact .inr nd
theorem DG {G:Pg}{h:Heap}{ρ:List Hd}{R:List Addr}{H:Hp}{hd:Hd}{top:Heap} (g:Good G top ρ R H h) {h':Heap}:VR G ⟨h',ρ++[hd],R⟩ (.ref H.length) (.ref hd.a):=
  .ref (by rw[← g.len]; simp)
theorem Good.upd {G:Pg}{top:Heap}{ρ:List Hd}{R:List Addr}{H:Hp}{s:Shared}{k:Nat}{hd:Hd}{ob ob':Ob}{h':Heap}{tk:Nat} (g:Good G top ρ R H s.heap) (hk:ρ[k]? = some hd) (hH:H[k]? = some ob) (hne:ob ≠ .dead)
    (same:∀ b,b≠hd.a→b≠hd.d→h'.get? b=s.heap.get? b) (ea:∃ o,h'.get? hd.a=some o) (ed:∃ o,h'.get? hd.d=some o) (ho:OR G ⟨h',ρ,R⟩ ob' hd):
    Step [] ρ s ρ { s with heap:=h',toks:=tk }∧Good G top ρ R (H.set k ob') h':=by
  have hl:=(g.ob k ob hd hH hk hne).1
  have fa:hd.a∈foot ρ:=bT.mpr ⟨k,hd,hk,hl, .inl rfl⟩
  have fd:hd.d∈foot ρ:=bT.mpr ⟨k,hd,hk,hl, .inr rfl⟩
  have st:Step [] ρ s ρ { s with heap:=h',toks:=tk }:=by
    refine⟨fun a o e hf _=>(same a (fun q=>hf (q▸fa)) (fun q=>hf (q▸fd))).trans e,fun a o e=>?_,fun _ hd e=>⟨hd,e,rfl⟩,fun _ h => .inl h,rfl,rfl⟩
    by_cases q:a=hd.a
    · rw[q]; exact ea
    · by_cases q2:a=hd.d
      · rw[q2]; exact ed
      · exact⟨o,(same a q q2).trans e⟩
  have le:Vw.Le ⟨s.heap,ρ,R⟩ ⟨h',ρ,R⟩:=st.D1
  refine⟨st,fun a o e=>le.fix a o (g.top a o e),by simp[g.len],fun j ob2 hd2 e1 e2 hne2=>?_,g.nd,fun a q=>?_,g.rs,fun a q=>?_⟩
  · by_cases hj:k=j
    · subst hj
      rw[hk] at e2; cases e2
      rw[List.getElem?_set_self (List.getElem?_eq_some_iff.mp hH).1] at e1
      cases e1
      exact⟨hl,ho⟩
    · rw[List.getElem?_set_ne hj] at e1
      obtain⟨x1,x2⟩:=g.ob j ob2 hd2 e1 e2 hne2
      obtain⟨n1,n2,n3,n4⟩:=g.nd k j hd hd2 hk e2 hl x1 hj
      exact⟨x1,x2.mono le (fun o e=>(same _ (Ne.symm n1) (Ne.symm n3)).trans e) (fun o e=>(same _ (Ne.symm n2) (Ne.symm n4)).trans e)⟩
  · obtain⟨o,e⟩:=g.lt a q; exact st.ex a o e
  · obtain⟨o,e⟩:=g.yr a q; exact st.ex a o e
theorem Good.freeze {G:Pg}{top:Heap}{ρ:List Hd}{R:List Addr}{H:Hp}{s:Shared}{k:Nat}{hd:Hd}{ob:Ob} (g:Good G top ρ R H s.heap) (hk:ρ[k]? = some hd) (hH:H[k]? = some ob) (hne:ob ≠ .dead):
    Step [] ρ s (ρ.set k { hd with live:=false }) s∧Good G top (ρ.set k { hd with live:=false }) R (H.set k .dead) s.heap∧(∀ o,s.heap.get? hd.a=some o→Vw.Fix ⟨s.heap,ρ.set k { hd with live:=false },R⟩ hd.a o)∧Vw.Le ⟨s.heap,ρ,R⟩ ⟨s.heap,ρ.set k { hd with live:=false },R⟩:=by
  have hl:=(g.ob k ob hd hH hk hne).1
  have hlt:=(List.getElem?_eq_some_iff.mp hk).1
  have sub:∀ a∈foot (ρ.set k { hd with live:=false }),a∈foot ρ∧a≠hd.a:=fun a q=>by
    obtain⟨j,hd2,e,hl2,q⟩:=bT.mp q
    by_cases hj:k=j
    · subst hj
      rw[List.getElem?_set_self hlt] at e
      cases e; cases hl2
    · rw[List.getElem?_set_ne hj] at e
      obtain⟨n1,n2,n3,n4⟩:=g.nd k j hd hd2 hk e hl hl2 hj
      refine⟨bT.mpr ⟨j,hd2,e,hl2,q⟩,?_⟩
      rcases q with rfl | rfl
      · exact Ne.symm n1
      · exact Ne.symm n2
  have st:Step [] ρ s (ρ.set k { hd with live:=false }) s:=by
    refine⟨fun a o e _ _=>e,fun a o e=>⟨o,e⟩,fun j hd2 e=>?_,fun a q => .inl (sub a q).1,rfl,rfl⟩
    by_cases hj:k=j
    · subst hj
      rw[hk] at e; cases e
      exact⟨_,List.getElem?_set_self hlt,rfl⟩
    · exact⟨hd2,(List.getElem?_set_ne hj).trans e,rfl⟩
  have le:Vw.Le ⟨s.heap,ρ,R⟩ ⟨s.heap,ρ.set k { hd with live:=false },R⟩:=st.D1
  refine⟨st,⟨fun a o e=>le.fix a o (g.top a o e),by simp[g.len],fun j ob2 hd2 e1 e2 hne2=>?_,fun i j hi hj ei ej li lj hij=>?_,fun a q=>g.lt a (sub a q).1,fun a q=>g.rs a (sub a q).1,g.yr⟩,fun o e=>⟨e,fun q=>(sub _ q).2 rfl,g.rs _ (bT.mpr ⟨k,hd,hk,hl, .inl rfl⟩)⟩,le⟩
  · by_cases hj:k=j
    · subst hj
      rw[List.getElem?_set_self (List.getElem?_eq_some_iff.mp hH).1] at e1
      cases e1; exact absurd rfl hne2
    · rw[List.getElem?_set_ne hj] at e1 e2
      obtain⟨x1,x2⟩:=g.ob j ob2 hd2 e1 e2 hne2
      exact⟨x1,x2.mono le (fun o e=>e) (fun o e=>e)⟩
  · have back:∀ {i:Nat}{x:Hd},(ρ.set k { hd with live:=false })[i]? = some x→x.live=true→ρ[i]? = some x:=fun {i x} e l=>by
      by_cases hi:k=i
      · subst hi
        rw[List.getElem?_set_self hlt] at e; cases e; cases l
      · rwa [List.getElem?_set_ne hi] at e
    exact g.nd i j hi hj (back ei li) (back ej lj) li lj hij
end
end Mine
end
section
open PySem PySem.W PyProof.Rows PySem.Calls PySem.SeqAt
namespace Mine
inductive Fl where
  | next | brk | cont | ret (v:V)
noncomputable def Kn (G:Pg) (s:Vw):Fl→Flow→Prop
  | .next, .next=>True
  | .brk, .brk=>True
  | .cont, .cont=>True
  | .ret v, .ret x=>VR G s v x
  | _,_=>False
noncomputable abbrev SF:=Loc→Hp→Option (Fl × Loc × Hp)
noncomputable abbrev AF:=V→Loc→Hp→Option (Loc × Hp)
structure Own (b:Bool) (sc:Scope) (env:Env) (P R:List Addr):Prop where
  loc:env.locals∈P
  vp:b=true→∀ (i:Nat) (x:Str) (c:Addr),sc.names[i]? = some (x, .cell)→env.cells.lookup x=some c→c∈P
  sub:∀ a∈P,a∈R
noncomputable def QX (U:fL) (sc:Scope) (env:Env) (P:List Addr) (ρ:List Hd) (R:List Addr) (s:Shared) (Q:Flow→Shared→Prop) (r:Fl) (M':Loc) (H':Hp):Prop:=∀ y s' ρ',Step P ρ s ρ' s'→Good U.toPg U.top ρ' R H' s'.heap→cX U.toPg sc env M' P ρ' R s'.heap→Kn U.toPg ⟨s'.heap,ρ',R⟩ r y→Q y s'
noncomputable def QA (U:fL) (sc:Scope) (env:Env) (P:List Addr) (ρ:List Hd) (R:List Addr) (s:Shared) (Q:Unit→Shared→Prop) (M':Loc) (H':Hp):Prop:=∀ s' ρ',Step P ρ s ρ' s'→Good U.toPg U.top ρ' R H' s'.heap→cX U.toPg sc env M' P ρ' R s'.heap→Q () s'
noncomputable def gY (U:fL) (n:Nat) (sc:Scope) (st:Stmt) (f:SF):Prop:=
  ∀ (A:Around) (env:Env) (M:Loc) (P:List Addr) (ρ:List Hd) (R:List Addr) (H:Hp) (s:Shared) (Q:Flow→Shared→Prop) (E:Value→Shared→Prop) (r:Fl) (M':Loc) (H':Hp),
    ij n A→jX sc→Good U.toPg U.top ρ R H s.heap→cX U.toPg sc env M P ρ R s.heap→Own true sc env P R→f M H=some (r,M',H')→
    QX U sc env P ρ R s Q r M' H'→
    wpAny (model U.prog U.w) A (exec st env) Q E s
noncomputable def aK (U:fL) (n:Nat) (sc:Scope) (ss:List Stmt) (f:SF):Prop:=
  ∀ (A:Around) (env:Env) (M:Loc) (P:List Addr) (ρ:List Hd) (R:List Addr) (H:Hp) (s:Shared) (Q:Flow→Shared→Prop) (E:Value→Shared→Prop) (r:Fl) (M':Loc) (H':Hp),
    ij n A→jX sc→Good U.toPg U.top ρ R H s.heap→cX U.toPg sc env M P ρ R s.heap→Own true sc env P R→f M H=some (r,M',H')→
    QX U sc env P ρ R s Q r M' H'→
    wpAny (model U.prog U.w) A (execs ss env) Q E s
noncomputable def i3 (U:fL) (b:Bool) (n:Nat) (sc:Scope) (t:PySem.Expr) (f:AF):Prop:=
  ∀ (A:Around) (env:Env) (M:Loc) (P:List Addr) (ρ:List Hd) (R:List Addr) (H:Hp) (s:Shared) (Q:Unit→Shared→Prop) (E:Value→Shared→Prop) (v:V) (x:Value) (M':Loc) (H':Hp),
    ij n A→jX sc→Good U.toPg U.top ρ R H s.heap→cX U.toPg sc env M P ρ R s.heap→Own b sc env P R→VR U.toPg ⟨s.heap,ρ,R⟩ v x→f v M H=some (M',H')→
    QA U sc env P ρ R s Q M' H'→
    wpAny (model U.prog U.w) A (assign t env x) Q E s
theorem r7:∀ {l:List (Str × NameKind)}{i j:Nat}{x:Str}{k k':NameKind},(l.map (·.1)).Nodup→l[i]? = some (x,k)→l[j]? = some (x,k')→i=j
  | [],_,_,_,_,_,_,h,_=>by cases h
  | (y,q)::l,0,0,x,k,k',_,_,_=>rfl
  | (y,q)::l,0,j + 1,x,k,k',hn,h,h'=>by
    rw[List.map_cons,List.nodup_cons] at hn
    cases h
    exact absurd ((List.mem_map (f:=(·.1)) (l:=l)).mpr ⟨_,List.mem_of_getElem? h',rfl⟩) hn.1
  | (y,q)::l,i + 1,0,x,k,k',hn,h,h'=>by
    rw[List.map_cons,List.nodup_cons] at hn
    cases h'
    exact absurd ((List.mem_map (f:=(·.1)) (l:=l)).mpr ⟨_,List.mem_of_getElem? h,rfl⟩) hn.1
  | (y,q)::l,i + 1,j + 1,x,k,k',hn,h,h'=>by
    rw[List.map_cons,List.nodup_cons] at hn
    exact congrArg (· + 1) (r7 hn.2 h h')
theorem step_same {W:List Addr}{ρ:List Hd}{s:Shared}{h':Heap}{tk:Nat}{a:Addr} (ha:a∈W) (e:∃ o,h'.get? a=some o) (same:∀ b,b≠a→h'.get? b=s.heap.get? b):
    Step W ρ s ρ { s with heap:=h',toks:=tk }:=by
  refine⟨fun b o q _ hw=>(same b (fun z=>hw (z▸ha))).trans q,fun b o q=>?_,fun _ hd q=>⟨hd,q,rfl⟩,fun _ h => .inl h,rfl,rfl⟩
  by_cases hb:b=a
  · rw[hb]; exact e
  · exact⟨o,(same b hb).trans q⟩
theorem Good.same {G:Pg}{top:Heap}{ρ:List Hd}{R:List Addr}{H:Hp}{s:Shared}{h':Heap}{a:Addr} (g:Good G top ρ R H s.heap) (ha:a∈R) (e:∃ o,h'.get? a=some o) (same:∀ b,b≠a→h'.get? b=s.heap.get? b):
    Good G top ρ R H h':=by
  have st:Step [a] ρ s ρ { s with heap:=h',toks:=s.toks }:=step_same (List.mem_singleton.mpr rfl) e same
  refine g.keeps st (fun b hb => .inl (by rw[List.mem_singleton.mp hb]; exact ha)) (fun _ h => .inl h) (fun b hb=>?_) (fun b hb o q=>(same b fun z=>g.rs b hb (z▸ha)).trans q)
  obtain⟨o,q⟩:=g.yr b hb
  exact st.ex b o q
section
variable {U:fL}{n:Nat}{sc:Scope}{b:Bool}
theorem Ky {env:Env} (hk:env.scope.kind = .function):(env.scope.kind == .class||(env.scope.kind == .module&&env.locals != env.globals))=false:=by rw[hk]; rfl
theorem rY {A:Around}{env:Env}{M:Loc}{P:List Addr}{ρ:List Hd}{R:List Addr}{H:Hp}{s:Shared}{Q:Unit→Shared→Prop}{E:Value→Shared→Prop}{v:V}{val:Value}{i:Nat}{x:Str}
    (so:jX sc) (g:Good U.toPg U.top ρ R H s.heap) (l:cX U.toPg sc env M P ρ R s.heap) (o:Own b sc env P R) (h:sc.names[i]? = some (x, .local)) (r:VR U.toPg ⟨s.heap,ρ,R⟩ v val)
    (hQ:∀ s',Step P ρ s ρ s'→Good U.toPg U.top ρ R H s'.heap→cX U.toPg sc env (M.set i (some v)) P ρ R s'.heap→Q () s'):wpAny (model U.prog U.w) A (storeName env x val) Q E s:=by
  have hkind:env.scope.kind = .function:=by rw[l.scope]; exact so.kind
  have hl:env.kindOf x=some .local:=by show env.scope.names.lookup x=_; rw[l.scope]; exact lookup_at so.nd h
  obtain⟨m,hn,hm⟩:=l.loc
  refine wpAny_storeName_local hl hn (fun h' hn' hs=>?_) (Ky hkind)
  have ex:∃ o,h'.get? env.locals=some o:=by obtain⟨o,es,ep,e,_⟩:=hn'; exact⟨o,e⟩
  have st:∀ tk,Step P ρ s ρ { s with heap:=h',toks:=tk }:=fun tk=>step_same o.loc ex hs.2
  have le:Vw.Le ⟨s.heap,ρ,R⟩ ⟨h',ρ,R⟩:=(st s.toks).le o.sub
  have kc:∀ {y c q},env.cells.lookup y=some c→s.heap.IsCell c q→h'.IsCell c q:=fun e hc=>Heap.IsCell.of hc fun o' e'=>(hs.2 _ (l.AB _ _ e).2.2.1).trans e'
  refine hQ _ (st _) (g.same (o.sub _ o.loc) ex hs.2) ⟨l.scope,l.HG,l.Jd,⟨_,hn',fun j y w e1 e2=>?_⟩,fun j y k w e1 hk e2=>?_,fun j y e hp=>?_,l.Ju,l.Js,fun y c e=>?_,l.Ic⟩
  · by_cases hij:i=j
    · subst hij
      rw[h] at e1; cases e1
      have e3:w=v:=by
        rw[List.getElem?_set] at e2
        simp only[if_true] at e2
        split at e2
        · exact(Option.some.inj (Option.some.inj e2)).symm
        · cases e2
      subst e3
      exact⟨val,if_pos rfl,r.mono le⟩
    · rw[List.getElem?_set_ne hij] at e2
      obtain⟨val',h1,h2⟩:=hm j y w e1 e2
      exact⟨val',by show(if y=x then some val else m y)=_; rw[if_neg (fun q=>hij (r7 so.nd h (q▸e1)))]; exact h1,h2.mono le⟩
  · have hij:i≠j:=by
      rintro rfl
      rw[h] at e1; cases e1; rcases hk with hk | hk <;> cases hk
    rw[List.getElem?_set_ne hij] at e2
    obtain⟨c,val',h1,h2,h3⟩:=l.vp j y k w e1 hk e2
    exact⟨c,val',h1,kc h1 h2,h3.mono le⟩
  · obtain⟨c,q,h1,h2⟩:=l.own j y e hp
    exact⟨c,q,h1,kc h1 h2⟩
  · obtain⟨h1,h2,h3,h4⟩:=l.AB y c e
    obtain⟨q,h4⟩:=h4
    exact⟨h1,h2,h3,q,(hs.2 _ h3).trans h4⟩
theorem E9 {A:Around}{env:Env}{M:Loc}{P:List Addr}{ρ:List Hd}{R:List Addr}{H:Hp}{s:Shared}{Q:Unit→Shared→Prop}{E:Value→Shared→Prop}{v:V}{val:Value}{i:Nat}{x:Str}
    (so:jX sc) (g:Good U.toPg U.top ρ R H s.heap) (l:cX U.toPg sc env M P ρ R s.heap) (o:Own true sc env P R) (h:sc.names[i]? = some (x, .cell)) (r:VR U.toPg ⟨s.heap,ρ,R⟩ v val)
    (hQ:∀ s',Step P ρ s ρ s'→Good U.toPg U.top ρ R H s'.heap→cX U.toPg sc env (M.set i (some v)) P ρ R s'.heap→Q () s'):wpAny (model U.prog U.w) A (storeName env x val) Q E s:=by
  have hkind:env.scope.kind = .function:=by rw[l.scope]; exact so.kind
  have hl:env.kindOf x=some .cell:=by show env.scope.names.lookup x=_; rw[l.scope]; exact lookup_at so.nd h
  obtain⟨m,hn,hm⟩:=l.loc
  obtain⟨c,q0,hc,hcc⟩:=l.own i x h o.loc
  have hcP:=o.vp rfl i x c h hc
  obtain⟨c1,c2,c3,c4⟩:=l.AB x c hc
  refine wpAny_storeName_cell hkind hl hc hcc fun h' hn' hs=>?_
  have ex:∃ o,h'.get? c=some o:=by obtain⟨o,e,_⟩:=hn'; exact⟨o,e⟩
  have st:Step P ρ s ρ { s with heap:=h',toks:=s.toks }:=step_same hcP ex hs.2
  have le:Vw.Le ⟨s.heap,ρ,R⟩ ⟨h',ρ,R⟩:=st.le o.sub
  have kc:∀ {y d q},y≠x→env.cells.lookup y=some d→s.heap.IsCell d q→h'.IsCell d q:=fun hne e hd=>Heap.IsCell.of hd fun o' e'=>(hs.2 _ (fun z=>hne (l.Ic _ _ c (z▸e) hc))).trans e'
  refine hQ _ st (g.same c1 ex hs.2) ⟨l.scope,l.HG,l.Jd,⟨m,Heap.Ns.of hn fun o e=>(hs.2 _ (Ne.symm c3)).trans e,fun j y w e1 e2=>?_⟩,fun j y k w e1 hk e2=>?_,fun j y e hp=>?_,l.Ju,l.Js,fun y d e=>?_,l.Ic⟩
  · have hij:i≠j:=by rintro rfl; rw[h] at e1; cases e1
    rw[List.getElem?_set_ne hij] at e2
    obtain⟨val',h1,h2⟩:=hm j y w e1 e2
    exact⟨val',h1,h2.mono le⟩
  · by_cases hij:i=j
    · subst hij
      rw[h] at e1; cases e1
      have e3:w=v:=by
        rw[List.getElem?_set] at e2
        simp only[if_true] at e2
        split at e2
        · exact(Option.some.inj (Option.some.inj e2)).symm
        · cases e2
      subst e3
      exact⟨c,val,hc,hn',r.mono le⟩
    · rw[List.getElem?_set_ne hij] at e2
      obtain⟨d,val',h1,h2,h3⟩:=l.vp j y k w e1 hk e2
      exact⟨d,val',h1,kc (fun q=>hij (r7 so.nd h (q▸e1))) h1 h2,h3.mono le⟩
  · by_cases hij:i=j
    · subst hij
      rw[h] at e; cases e
      exact⟨c,_,hc,hn'⟩
    · obtain⟨d,q,h1,h2⟩:=l.own j y e hp
      exact⟨d,q,h1,kc (fun q=>hij (r7 so.nd h (q▸e))) h1 h2⟩
  · obtain⟨h1,h2,h3,h4⟩:=l.AB y d e
    obtain⟨q,h4⟩:=h4
    exact⟨h1,h2,h3,st.ex _ _ h4⟩
noncomputable def aw (i:Nat):AF:=fun v M H=>some (M.set i (some v),H)
theorem A.loc (i:Nat) {x:Str}{pos:Pos} (h:sc.names[i]? = some (x, .local):=by kernel_rfl):i3 U b n sc (.Name x pos) (aw i):=by
  intro A env M P ρ R H s Q E v val M' H' hr so g l o r hf hQ
  cases hf
  exact wpAny_assign_Name (rY so g l o h r fun s' h1 h2 h3=>hQ s' ρ h1 h2 h3)
theorem A.vp (i:Nat) {x:Str}{pos:Pos} (h:sc.names[i]? = some (x, .cell):=by kernel_rfl):i3 U true n sc (.Name x pos) (aw i):=by
  intro A env M P ρ R H s Q E v val M' H' hr so g l o r hf hQ
  cases hf
  exact wpAny_assign_Name (E9 so g l o h r fun s' h1 h2 h3=>hQ s' ρ h1 h2 h3)
noncomputable def mC:List V→Loc→Hp→Option (Loc × Hp)
  | [],M,H=>some (M,H)
  | _,_,_=>none
noncomputable def bN (f:AF) (g:List V→Loc→Hp→Option (Loc × Hp)):List V→Loc→Hp→Option (Loc × Hp)
  | v::l,M,H=>(f v M H).bind fun p=>g l p.1 p.2
  | _,_,_=>none
structure v6 (U:fL) (b:Bool) (n:Nat) (sc:Scope) (ts:List PySem.Expr) (f:List V→Loc→Hp→Option (Loc × Hp)):Prop where
  Iw:∀ env,(assignEach ts env).length=ts.length∧(assignEach ts env).findIdx? (·.1)=none
  len:∀ l M H r,f l M H=some r→l.length=ts.length
  run:∀ (A:Around) (env:Env) (M:Loc) (P:List Addr) (ρ:List Hd) (R:List Addr) (H:Hp) (s:Shared) (Q:Unit→Shared→Prop) (E:Value→Shared→Prop) (l:List V) (xs:List Value) (M':Loc) (H':Hp),
    ij n A→jX sc→Good U.toPg U.top ρ R H s.heap→cX U.toPg sc env M P ρ R s.heap→Own b sc env P R→eZ U.toPg ⟨s.heap,ρ,R⟩ l xs→f l M H=some (M',H')→
    QA U sc env P ρ R s Q M' H'→
    wpAny (model U.prog U.w) A (assignInOrder ((assignEach ts env).map (·.2)) xs) Q E s
theorem As.nil:v6 U b n sc [] mC:=by
  refine⟨fun env=>⟨rfl,rfl⟩,fun l M H r h=>?_,?_⟩
  · cases l with
    | nil=>rfl
    | cons=>cases h
  intro A env M P ρ R H s Q E l xs M' H' hr so g lr o r hf hQ
  cases r with
  | nil=>cases hf; exact wpAny_assignInOrder_none (hQ s ρ .refl g lr)
  | cons=>cases hf
theorem As.cons {t:PySem.Expr}{ts:List PySem.Expr}{f:AF}{g:List V→Loc→Hp→Option (Loc × Hp)} (h1:i3 U b n sc t f) (h2:v6 U b n sc ts g) (he:∀ env,assignEach (t::ts) env=(false,assign t env)::assignEach ts env:=by exact fun _=>rfl):v6 U b n sc (t::ts) (bN f g):=by
  refine⟨fun env=>?_,fun l M H r h=>?_,?_⟩
  · rw[he]; exact⟨by rw[List.length_cons,(h2.Iw env).1,List.length_cons],by rw[List.findIdx?_cons,(h2.Iw env).2]; rfl⟩
  · cases l with
    | nil=>cases h
    | cons v l=>
      refine gz h fun p e1 e2=>?_
      rw[List.length_cons,List.length_cons,h2.len _ _ _ _ e2]
  intro A env M P ρ R H s Q E l xs M' H' hr so g lr o r hf hQ
  cases r with
  | nil=>cases hf
  | cons r1 r2=>
    refine bf hf fun M1 H1 e1 e2=>?_
    rw[he,List.map_cons]
    refine wpAny_assignInOrder_more (h1 A env M P ρ R H s _ E _ _ M1 H1 hr so g lr o r1 e1 fun s1 ρ1 st1 g1 l1=>?_)
    exact h2.run A env M1 P ρ1 R H1 s1 _ E _ _ M' H' hr so g1 l1 o (r2.mono (st1.le o.sub)) e2 fun s2 ρ2 st2 g2 l2=>hQ s2 ρ2 (st1.trans st2) g2 l2
end
end Mine
end
section
open PySem PySem.W PyProof.Rows PySem.Calls PySem.SeqAt
namespace Mine
theorem Kn.mono {G:Pg}{s s':Vw} (q:s.Le s') {f:Fl}{y:Flow} (h:Kn G s f y):Kn G s' f y:=by
  cases f <;> cases y <;> first | trivial | exact h.elim | exact VR.mono q h
section
variable {U:fL}{n:Nat}{sc:Scope}{b:Bool}
noncomputable def mF (g:List V→Loc→Hp→Option (Loc × Hp)):AF
  | .tup l,M,H=>g l M H
  | _,_,_=>none
theorem A.tup {ts:List PySem.Expr}{k:Nat}{pos:Pos}{g:List V→Loc→Hp→Option (Loc × Hp)} (h:v6 U b n sc ts g):i3 U b n sc (.Tuple ts k pos) (mF g):=by
  intro A env M P ρ R H s Q E v x M' H' hr so gd l o r hf hQ
  cases v with
  | tup vs=>
    refine qa r fun a xs m e_3 hfx hz hv=>?_
    subst e_3
    have hlen:=h.len _ _ _ _ hf
    have l1:=hv.length
    refine wpAny_assign_Tuple hr.hd ⟨_,hfx.1,rfl,_,rfl⟩ (by rw[(h.Iw env).1,List.size_toArray]; omega) (h.Iw env).2 fun h' hx=>?_
    have k:∀ q ob,s.heap.get? q=some ob→h'.get? q=some ob:=fun q ob e=>hx q ob (Nat.ne_of_lt (Heap.lt_size e)) e
    have st:Step [] ρ s ρ { s with heap:=h',toks:=s.toks }:=cm k
    refine h.run A env M P ρ R H _ _ E vs xs.toArray.toList M' H' hr so (gd.grow k) (l.cT st) o (by simpa using hv.step st) hf fun s' ρ' st' g' l'=>hQ s' ρ' (st.any.trans st') g' l'
  | _=>cases hf
noncomputable def af (f:EF) (a:AF):SF:=fun M H=>(f M H).bind fun p=>(a p.1 M p.2).map fun q=>(.next,q.1,q.2)
theorem X.stop {st:Stmt}:gY U n sc st (fun _ _=>none):=by
  intro A env M P ρ R H s Q E r M' H' hr so gd l o hf hQ
  cases hf
theorem S.stop {ss:List Stmt}:aK U n sc ss (fun _ _=>none):=by
  intro A env M P ρ R H s Q E r M' H' hr so gd l o hf hQ
  cases hf
theorem T.stop {e:PySem.Expr}:kY U n sc e (fun _ _=>none):=by
  intro A env M P ρ R H s Q E v H' hr so gd l hf hQ
  cases hf
noncomputable def bj:SF:=fun M H=>some (.next,M,H)
noncomputable def al (f g:SF):SF:=fun M H=>(f M H).bind fun r=>match r.1 with
  | .next=>g r.2.1 r.2.2
  | _=>some r
theorem S.nil:aK U n sc [] bj:=by
  intro A env M P ρ R H s Q E r M' H' hr so gd l o hf hQ
  cases hf
  exact wpAny_execs_nil (hQ .next s ρ .refl gd l trivial)
theorem S.cons {st:Stmt}{ss:List Stmt}{f g:SF} (h1:gY U n sc st f) (h2:aK U n sc ss g):aK U n sc (st::ss) (al f g):=by
  intro A env M P ρ R H s Q E r M' H' hr so gd l o hf hQ
  unfold al at hf
  obtain⟨⟨r1,M1,H1⟩,e1,hf⟩:=Option.bind_eq_some_iff.mp hf
  refine wpAny_execs_cons (h1 A env M P ρ R H s _ E r1 M1 H1 hr so gd l o e1 fun y s1 ρ1 st1 g1 l1 fr=>?_)
  dsimp only at hf
  cases r1 with
  | next=>
    cases y <;> first | exact fr.elim | skip
    exact h2 A env M1 P ρ1 R H1 s1 Q E r M' H' hr so g1 l1 o hf fun z s2 ρ2 st2 g2 l2 fr2=>hQ z s2 ρ2 (st1.trans st2) g2 l2 fr2
  | brk=>cases hf; cases y <;> first | exact fr.elim | exact hQ _ s1 ρ1 st1 g1 l1 fr
  | cont=>cases hf; cases y <;> first | exact fr.elim | exact hQ _ s1 ρ1 st1 g1 l1 fr
  | ret v=>cases hf; cases y <;> first | exact fr.elim | exact hQ _ s1 ρ1 st1 g1 l1 fr
theorem S.one {st:Stmt}{f:SF} (h1:gY U n sc st f):aK U n sc [st] f:=by
  intro A env M P ρ R H s Q E r M' H' hr so gd l o hf hQ
  refine wpAny_execs_cons (h1 A env M P ρ R H s _ E r M' H' hr so gd l o hf fun y s1 ρ1 st1 g1 l1 fr=>?_)
  cases y <;> first | exact wpAny_execs_nil (hQ _ s1 ρ1 st1 g1 l1 fr) | exact hQ _ s1 ρ1 st1 g1 l1 fr
noncomputable def cK (t:TF) (f g:SF):SF:=fun M H=>(t M H).bind fun p=>if p.1 then f M p.2 else g M p.2
theorem X.if {t:PySem.Expr}{a c:List Stmt}{pos:Pos}{ft:TF}{f g:SF} (ht:kY U n sc t ft) (h1:aK U n sc a f) (h2:aK U n sc c g):gY U n sc (.If t a c pos) (cK ft f g):=by
  intro A env M P ρ R H s Q E r M' H' hr so gd l o hf hQ
  unfold cK at hf
  refine bf hf fun q H1 e1 hf=>?_
  refine wpAny_If (ht A env M P ρ R H s _ E q H1 hr so gd l e1 fun s1 ρ1 st1 g1=>?_)
  cases q with
  | true=>exact h1 A env M P ρ1 R H1 s1 Q E r M' H' hr so g1 (l.cT st1) o hf fun z s2 ρ2 st2 g2 l2 fr=>hQ z s2 ρ2 (st1.any.trans st2) g2 l2 fr
  | false=>exact h2 A env M P ρ1 R H1 s1 Q E r M' H' hr so g1 (l.cT st1) o hf fun z s2 ρ2 st2 g2 l2 fr=>hQ z s2 ρ2 (st1.any.trans st2) g2 l2 fr
noncomputable def bw (f:EF):SF:=fun M H=>(f M H).map fun p=>(.ret p.1,M,p.2)
theorem X.ret {e:PySem.Expr}{pos:Pos}{f:EF} (h:aA U n sc e f):gY U n sc (.Return (some e) pos) (bw f):=by
  intro A env M P ρ R H s Q E r M' H' hr so gd l o hf hQ
  refine yC hf fun v H1 e1 hf=>?_
  cases hf
  exact wpAny_Return_some (h A env M P ρ R H s _ E v H1 hr so gd l e1 fun x s1 ρ1 st1 g1 va=>hQ (.ret x) s1 ρ1 st1.any g1 (l.cT st1) va)
noncomputable def EB:SF:=fun M H=>some (.ret .none,M,H)
theorem X.Lj {pos:Pos}:gY U n sc (.Return none pos) EB:=by
  intro A env M P ρ R H s Q E r M' H' hr so gd l o hf hQ
  cases hf
  exact wpAny_Return_none (hQ (.ret .none) s ρ .refl gd l .none)
noncomputable def K5:SF:=fun M H=>some (.brk,M,H)
noncomputable def Jv:SF:=fun M H=>some (.cont,M,H)
theorem X.brk {pos:Pos}:gY U n sc (.Break pos) K5:=by
  intro A env M P ρ R H s Q E r M' H' hr so gd l o hf hQ
  cases hf
  exact wpAny_Break (hQ .brk s ρ .refl gd l trivial)
theorem X.cont {pos:Pos}:gY U n sc (.Continue pos) Jv:=by
  intro A env M P ρ R H s Q E r M' H' hr so gd l o hf hQ
  cases hf
  exact wpAny_Continue (hQ .cont s ρ .refl gd l trivial)
noncomputable def cj (f:EF):SF:=fun M H=>(f M H).map fun p=>(.next,M,p.2)
theorem vH {env:Env} (hk:env.scope.kind = .function):interactive env=false:=by
  unfold interactive
  rw[hk]; rfl
theorem X.expr {e:PySem.Expr}{pos:Pos}{f:EF} (h:aA U n sc e f) (hs:∀ env,swapsWith e none pos.line env=pure false):gY U n sc (.Expr e pos) (cj f):=by
  intro A env M P ρ R H s Q E r M' H' hr so gd l o hf hQ
  refine yC hf fun v H1 e1 hf=>?_
  cases hf
  exact wpAny_Expr_any (h A env M P ρ R H s _ E v H1 hr so gd l e1 fun x s1 ρ1 st1 g1 va=>hQ .next s1 ρ1 st1.any g1 (l.cT st1) trivial) (vH (by rw[l.scope]; exact so.kind)) (hs env)
noncomputable def B6 (i:Nat) (f:EF):SF:=fun M H=>(aa i M H).bind fun p=>(f M p.2).bind fun q=>match p.1,q.1 with
  | .int a, .int c=>some (.next,M.set i (some (.int (a + c))),q.2)
  | _,_=>none
theorem X.aug {i:Nat}{x:Str}{v:PySem.Expr}{p pos:Pos}{f:EF} (hx:sc.names[i]? = some (x, .local)) (h:aA U n sc v f):gY U n sc (.AugAssign (.Name x p) .Add v pos) (B6 i f):=by
  intro A env M P ρ R H s Q E r M' H' hr so gd l o hf hQ
  unfold B6 aa at hf
  refine bf hf fun w H1 e1 hf=>?_
  refine fJ e1 fun w' e0 e1=>?_
  cases e1
  refine bf hf fun q H2 e2 hf=>?_
  have hM:M[i]? = some (some w):=by
    cases z:M[i]? with
    | none=>rw[z] at e0; cases e0
    | some y=>rw[z] at e0; cases y with
      | none=>cases e0
      | some u=>cases e0; rfl
  dsimp only at hf e2
  split at hf
  · cases hf
    have hkind:env.scope.kind = .function:=by rw[l.scope]; exact so.kind
    have hl:env.kindOf x=some .local:=by show env.scope.names.lookup x=_; rw[l.scope]; exact lookup_at so.nd hx
    obtain⟨m,hn,hm⟩:=l.loc
    obtain⟨val,h1,h2⟩:=hm i x _ hx hM
    obtain⟨t,rfl⟩:=gJ h2
    refine wpAny_AugAssign_Name (wpAny_loadName_local hkind hl hn h1 ?_)
    refine h A env M P ρ R H s _ E _ _ hr so gd l e2 fun y s1 ρ1 st1 g1 va=>?_
    obtain⟨u,rfl⟩:=gJ va
    refine wpAny_iadd_int ?_
    have st2:Step [] ρ s ρ1 { s1 with toks:=s1.toks + 1 }:=st1.trans .toks
    exact rY so g1 (l.cT st2) o hx (.int _ _) fun s2 st3 g3 l3=>hQ .next s2 ρ1 (st2.any.trans st3) g3 l3 trivial
  · cases hf
noncomputable def wh (t:TF) (f:SF):Nat→SF
  | 0,_,_=>none
  | k + 1,M,H=>(t M H).bind fun p=>if p.1 then (f M p.2).bind fun r=>match r.1 with
      | .next | .cont=>wh t f k r.2.1 r.2.2
      | .brk=>some (.next,r.2.1,r.2.2)
      | .ret v=>some (.ret v,r.2.1,r.2.2)
    else some (.next,M,p.2)
theorem v9 {t:TF}{f:SF}:∀ {k j:Nat}{M:Loc}{H:Hp}{r:Fl × Loc × Hp},k≤j→wh t f k M H=some r→wh t f j M H=some r
  | 0,_,_,_,_,_,h=>by cases h
  | k + 1,0,_,_,_,hle,_=>by omega
  | k + 1,j + 1,M,H,r,hle,h=>by
    unfold wh at h ⊢
    refine bf h fun p H1 e1 h=>?_
    rw[e1,Option.bind_some]
    dsimp only at h ⊢
    split at h
    · rename_i hp
      rw[if_pos hp]
      obtain⟨⟨r1,M1,H2⟩,e2,h⟩:=Option.bind_eq_some_iff.mp h
      rw[e2,Option.bind_some]
      cases r1 with
      | next=>exact v9 (Nat.le_of_succ_le_succ hle) h
      | cont=>exact v9 (Nat.le_of_succ_le_succ hle) h
      | brk=>exact h
      | ret v=>exact h
    · rename_i hp
      rw[if_neg hp]; exact h
open Classical in
noncomputable def aY (t:TF) (f:SF):SF:=fun M H=>if h:∃ r,∃ k,wh t f k M H=some r then some h.choose else none
theorem kQ {t:TF}{f:SF}{M:Loc}{H:Hp}{r:Fl × Loc × Hp}:aY t f M H=some r↔∃ k,wh t f k M H=some r:=by
  classical
  unfold aY
  constructor
  · intro h
    split at h
    · rename_i q
      cases h
      exact q.choose_spec
    · cases h
  · rintro ⟨k,h⟩
    have q:∃ r,∃ k,wh t f k M H=some r:=⟨r,k,h⟩
    rw[dif_pos q]
    obtain⟨j,hj⟩:=q.choose_spec
    have e1:=v9 (Nat.le_max_left k j) h
    have e2:=v9 (Nat.le_max_right k j) hj
    rw[e1] at e2
    exact e2.symm
theorem rW {t:TF}{f:SF}{M:Loc}{H:Hp}:aY t f M H=(t M H).bind fun p=>if p.1 then (f M p.2).bind fun r=>match r.1 with
      | .next | .cont=>aY t f r.2.1 r.2.2
      | .brk=>some (.next,r.2.1,r.2.2)
      | .ret v=>some (.ret v,r.2.1,r.2.2)
    else some (.next,M,p.2):=by
  apply Option.ext
  intro r
  rw[kQ]
  constructor
  · rintro ⟨k,h⟩
    cases k with
    | zero=>cases h
    | succ k=>
      unfold wh at h
      refine bf h fun p H1 e1 h=>?_
      rw[e1,Option.bind_some]
      dsimp only at h ⊢
      split at h
      · rename_i hp
        rw[if_pos hp]
        obtain⟨⟨r1,M1,H2⟩,e2,h⟩:=Option.bind_eq_some_iff.mp h
        rw[e2,Option.bind_some]
        cases r1 with
        | next=>exact kQ.mpr ⟨k,h⟩
        | cont=>exact kQ.mpr ⟨k,h⟩
        | brk=>exact h
        | ret v=>exact h
      · rename_i hp
        rw[if_neg hp]; exact h
  · intro h
    refine bf h fun p H1 e1 h=>?_
    dsimp only at h
    split at h
    · rename_i hp
      obtain⟨⟨r1,M1,H2⟩,e2,h⟩:=Option.bind_eq_some_iff.mp h
      cases r1 with
      | next=>
        obtain⟨k,hk⟩:=kQ.mp h
        exact⟨k + 1,by unfold wh; rw[e1,Option.bind_some]; dsimp only; rw[if_pos hp,e2]; exact hk⟩
      | cont=>
        obtain⟨k,hk⟩:=kQ.mp h
        exact⟨k + 1,by unfold wh; rw[e1,Option.bind_some]; dsimp only; rw[if_pos hp,e2]; exact hk⟩
      | brk=>exact⟨1,by unfold wh; rw[e1,Option.bind_some]; dsimp only; rw[if_pos hp,e2]; exact h⟩
      | ret v=>exact⟨1,by unfold wh; rw[e1,Option.bind_some]; dsimp only; rw[if_pos hp,e2]; exact h⟩
    · rename_i hp
      exact⟨1,by unfold wh; rw[e1,Option.bind_some]; dsimp only; rw[if_neg hp]; exact h⟩
theorem xg {G:Pg}{s:Vw}{fl r:Fl}{y:Flow}{M3 M':Loc}{H3 H':Hp}{o:Option (Fl × Loc × Hp)}{Ag:Prop}{Rt:Flow→Prop} (fr:Kn G s fl y)
    (hk:(match (generalizing:=false) fl with | .next | .cont=>o | .brk=>some (.next,M3,H3) | .ret v=>some (.ret v,M3,H3))=some (r,M',H'))
    (h1:o=some (r,M',H')→Ag) (h2:∀ fl' y',(fl',M3,H3)=(r,M',H')→Kn G s fl' y'→Rt y'):
    match (generalizing:=false) y with | .next | .cont=>Ag | .brk=>Rt .next | .ret v=>Rt (.ret v):=by
  cases fl with
  | next=>cases y with | next=>exact h1 hk | _=>exact fr.elim
  | cont=>cases y with | cont=>exact h1 hk | _=>exact fr.elim
  | brk=>cases y with | brk=>exact h2 .next .next (Option.some.inj hk) trivial | _=>exact fr.elim
  | ret v=>cases y with | ret x=>exact h2 (.ret v) (.ret x) (Option.some.inj hk) fr | _=>exact fr.elim
theorem HN {t:TF}{f:SF}{M:Loc}{H:Hp}{r:Fl × Loc × Hp} (h:aY t f M H=some r) {C:Prop} (K:∀ k,wh t f k M H=some r→C):C:=(kQ.mp h).elim K
theorem X.qJ {t:PySem.Expr}{body:List Stmt}{pos:Pos}{ft:TF}{f:SF} (ht:kY U n sc t ft) (h1:aK U n sc body f):gY U n sc (.While t body [] pos) (aY ft f):=by
  intro A env M P ρ R H s Q E r M' H' hr so gd l o hf hQ
  refine HN hf fun k hk=>?_
  clear hf
  refine wpAny_While (codeAny_whileLoop (fun k s'=>∃ M1 H1 ρ1,Step P ρ s ρ1 s'∧Good U.toPg U.top ρ1 R H1 s'.heap∧cX U.toPg sc env M1 P ρ1 R s'.heap∧wh ft f k M1 H1=some (r,M',H')) (fun k s1 hI=>?_) k ⟨M,H,ρ, .refl,gd,l,hk⟩)
  refine cps fun CC KK=>?_
  obtain⟨M1,H1,ρ1,st1,g1,l1,hk⟩:=hI
  cases k with
  | zero=>cases hk
  | succ k=>
    unfold wh at hk
    refine bf hk fun q H2 e1 hk=>?_
    refine KK (ht A env M1 P ρ1 R H1 s1 _ _ q H2 hr so g1 l1 e1 fun s2 ρ2 st2 g2=>?_)
    have st12:=st1.trans (st2.any (W:=P))
    dsimp only at hk
    cases q with
    | false=>
      rw[if_neg (by decide)] at hk ⊢
      cases hk
      exact wpAny_execs_nil (hQ .next s2 ρ2 st12 g2 (l1.cT st2) trivial)
    | true=>
      rw[if_pos rfl] at hk ⊢
      refine gz hk fun t e2 hk=>?_
      refine h1 A env M1 P ρ2 R H2 s2 _ _ t.1 t.2.1 t.2.2 hr so g2 (l1.cT st2) o e2 fun y s3 ρ3 st3 g3 l3 fr=>?_
      exact xg (Rt:=fun y=>Q y s3) fr hk (fun hk=>⟨k,Nat.lt_succ_self k,t.2.1,t.2.2,ρ3,st12.trans st3,g3,l3,hk⟩) fun fl' y' e fr=>by cases e; exact hQ y' s3 ρ3 (st12.trans st3) g3 l3 fr
end
end Mine
end
section
open PySem PySem.W PyProof.Rows PySem.Calls PySem.SeqAt
namespace Mine
structure Iter (U:fL) (A:Around) (tgt:PySem.Expr) (I:Addr) (fp wr:List Addr) (l:List V) (St:Nat→Heap→Prop) (dat:Vw→Prop):Prop where
  frame:∀ i h h',St i h→(∀ b∈fp,∀ o,h.get? b=some o→h'.get? b=some o)→St i h'
  mono:∀ s s',Vw.Le s s'→dat s→dat s'
  item:∀ (i:Nat) (v0:V) (ρ:List Hd) (R:List Addr) (H:Hp) (s:Shared) (Q:Value→Shared→Prop) (E:Value→Shared→Prop),l[i]? = some v0→St i s.heap→Good U.toPg U.top ρ R H s.heap→(∀ b∈wr,b∈R)→dat ⟨s.heap,ρ,R⟩→
    (∀ v s2,Step wr ρ s ρ s2→Good U.toPg U.top ρ R H s2.heap→St (i + 1) s2.heap→VR U.toPg ⟨s2.heap,ρ,R⟩ v0 v→Q v s2)→
    wpAny (model U.prog U.w) A (pyNext (.ref I)) (fun r s1=>∃ v,r=some v∧wpAny (model U.prog U.w) A (letOwnedTupleGo tgt (.ref I) v) (fun _ s2=>Q v s2) E s1) E s
  done:∀ (s:Shared) (Q:Shared→Prop) (E:Value→Shared→Prop),St l.length s.heap→
    (∀ h' tk,(∀ b o,b∉wr→s.heap.get? b=some o→h'.get? b=some o)→Q { s with heap:=h',toks:=tk })→wpAny (model U.prog U.w) A (pyNext (.ref I)) (fun r s1=>r=none∧Q s1) E s
  self:∀ (i:Nat) (s:Shared) (Q:Value→Shared→Prop) (E:Value→Shared→Prop),St i s.heap→Q (.ref I) s→wpAny (model U.prog U.w) A (pyIter (.ref I)) Q E s
noncomputable abbrev IF:=Loc→Hp→Option (List V × Hp)
noncomputable def Bp (U:fL) (A:Around) (tgt:PySem.Expr) (ρ:List Hd) (R:List Addr) (l:List V) (s s':Shared) (it:Value):Prop:=
  ∃ (I:Addr) (fp wr:List Addr) (St:Nat→Heap→Prop) (dat:Vw→Prop) (h':Heap) (tk:Nat),it = .ref I∧s'={ s with heap:=h',toks:=tk }∧(∀ b o,s.heap.get? b=some o→h'.get? b=some o)∧
    (∀ b∈wr,s.heap.get? b=none)∧(∀ b∈wr,∃ o,h'.get? b=some o)∧Iter U A tgt I fp wr l St dat∧St 0 h'∧dat ⟨h',ρ,wr++R⟩∧(∀ b∈fp,b∈wr∨∃ o,Vw.Fix ⟨h',ρ,wr++R⟩ b o)
noncomputable def QI (U:fL) (A:Around) (tgt:PySem.Expr) (ρ:List Hd) (R:List Addr) (s:Shared) (Q:Value→Shared→Prop) (l:List V) (H':Hp):Prop:=∀ it s1 ρ1 s',Step [] ρ s ρ1 s1→Good U.toPg U.top ρ1 R H' s1.heap→Bp U A tgt ρ1 R l s1 s' it→Q it s'
noncomputable def pX (U:fL) (n:Nat) (sc:Scope) (tgt e:PySem.Expr) (f:IF):Prop:=
  ∀ (A:Around) (env:Env) (M:Loc) (P:List Addr) (ρ:List Hd) (R:List Addr) (H:Hp) (s:Shared) (Q:Value→Shared→Prop) (E:Value→Shared→Prop) (l:List V) (H':Hp),
    ij n A→jX sc→Good U.toPg U.top ρ R H s.heap→cX U.toPg sc env M P ρ R s.heap→f M H=some (l,H')→
    QI U A tgt ρ R s Q l H'→
    wpAny (model U.prog U.w) A (eval e env) (fun x s1=>wpAny (model U.prog U.w) A (pyIter x) Q E s1) E s
theorem Vw.shrink {h:Heap}{ρ:List Hd}{R R':List Addr} (q:∀ a∈R,a∈R'):Vw.Le ⟨h,ρ,R'⟩ ⟨h,ρ,R⟩:=⟨fun a o x=>⟨x.1,x.2.1,fun z=>x.2.2 (q a z)⟩,fun _ hd e=>⟨hd,e,rfl⟩⟩
theorem Good.shrink {G:Pg}{top:Heap}{ρ:List Hd}{R R':List Addr}{H:Hp}{h:Heap} (g:Good G top ρ R' H h) (q:∀ a∈R,a∈R'):Good G top ρ R H h:=by
  have le:=Vw.shrink (h:=h) (ρ:=ρ) q
  exact⟨fun a o e=>le.fix a o (g.top a o e),g.len,fun k ob hd e1 e2 hne=>⟨(g.ob k ob hd e1 e2 hne).1,(g.ob k ob hd e1 e2 hne).2.mono le (fun _ e=>e) fun _ e=>e⟩,g.nd,g.lt,fun a h z=>g.rs a h (q a z),fun a h=>g.yr a (q a h)⟩
theorem cX.back {G:Pg}{sc:Scope}{env:Env}{M M0:Loc}{P:List Addr}{ρ ρ':List Hd}{R R':List Addr}{h h':Heap} (l:cX G sc env M P ρ' R' h') (l0:cX G sc env M0 P ρ R h) (q:∀ a∈R,a∈R'):cX G sc env M P ρ' R h':=by
  have le:=Vw.shrink (h:=h') (ρ:=ρ') q
  obtain⟨m,hn,hm⟩:=l.loc
  refine⟨l.scope,l.HG,l.Jd,⟨m,hn,fun i x v e1 e2=>?_⟩,fun i x k v e1 hk e2=>?_,l.own,l0.Ju,l.Js,fun x c e=>?_,l.Ic⟩
  · obtain⟨val,h1,h2⟩:=hm i x v e1 e2
    exact⟨val,h1,h2.mono le⟩
  · obtain⟨c,val,h1,h2,h3⟩:=l.vp i x k v e1 hk e2
    exact⟨c,val,h1,h2,h3.mono le⟩
  · obtain⟨h1,h2,h3,h4⟩:=l.AB x c e
    exact⟨(l0.AB x c e).1,h2,h3,h4⟩
theorem F0 {G:Pg}{top:Heap}{ρ:List Hd}{R wr:List Addr}{H:Hp}{s:Shared}{h':Heap}{tk:Nat} (g:Good G top ρ R H s.heap) (hk:∀ b o,s.heap.get? b=some o→h'.get? b=some o) (hw:∀ b∈wr,s.heap.get? b=none) (hx:∀ b∈wr,∃ o,h'.get? b=some o):
    Good G top ρ (wr++R) H h'∧Vw.Le ⟨s.heap,ρ,R⟩ ⟨h',ρ,wr++R⟩∧∀ {sc env M P},cX G sc env M P ρ R s.heap→cX G sc env M P ρ (wr++R) h':=by
  have st:Step [] ρ s ρ { s with heap:=h',toks:=tk }:=cm hk
  have hR:∀ a∈wr++R,a∈R∨s.heap.get? a=none:=fun a q=>(List.mem_append.mp q).elim (fun q => .inr (hw a q)) .inl
  have ex:∀ a∈wr++R,∃ o,h'.get? a=some o:=fun a q=>(List.mem_append.mp q).elim (hx a) fun q=>by
    obtain⟨o,e⟩:=g.yr a q; exact⟨o,hk a o e⟩
  exact⟨g.keeps st (fun _ h=>nomatch h) hR ex fun a _ o e=>hk a o e,st.K0 (fun _ h=>nomatch h) hR,fun l=>l.step st (fun _ h=>nomatch h) (fun h=>nomatch h) (fun _ _ _ h=>nomatch h) hR fun a q=>List.mem_append_right _ q⟩
theorem wP {G:Pg}{top:Heap}{ρ:List Hd}{R wr:List Addr}{H:Hp}{s:Shared}{h':Heap}{tk:Nat} (g:Good G top ρ R H s.heap) (hk:∀ b o,s.heap.get? b=some o→h'.get? b=some o) (hw:∀ b∈wr,s.heap.get? b=none) (hx:∀ b∈wr,∃ o,h'.get? b=some o) {C:Prop}
    (K:Good G top ρ (wr++R) H h'→Vw.Le ⟨s.heap,ρ,R⟩ ⟨h',ρ,wr++R⟩→(∀ {sc env M P},cX G sc env M P ρ R s.heap→cX G sc env M P ρ (wr++R) h')→C):C:=
  have q:=F0 (tk:=tk) g hk hw hx
  K q.1 q.2.1 q.2.2
theorem cX.wr {G:Pg}{sc:Scope}{env:Env}{M:Loc}{P:List Addr}{ρ ρ':List Hd}{R wr:List Addr}{s s':Shared} (l:cX G sc env M P ρ R s.heap) (x:Step wr ρ s ρ' s') (hW:∀ a∈wr,a∈R) (h1:env.locals∉wr) (h2:∀ x c,env.cells.lookup x=some c→c∉wr):cX G sc env M P ρ' R s'.heap:=
  l.step x (fun a q => .inl (hW a q)) h1 h2 (fun _ h => .inl h) fun _ h=>h
noncomputable def lP (M:Model) (A:Around) (tgt:PySem.Expr) (it:Value) (E:Value→Shared→Prop) (N:Shared→Prop) (B:Value→Shared→Prop):Option Value→Shared→Prop
  | none,s=>N s
  | some v,s=>wpAny M A (letOwnedTupleGo tgt it v) (fun _ s2=>B v s2) E s
theorem Iter.next {U:fL}{A:Around}{tgt:PySem.Expr}{I:Addr}{fp wr:List Addr}{l:List V}{St:Nat→Heap→Prop}{dat:Vw→Prop} (W:Iter U A tgt I fp wr l St dat) {i:Nat}{v0:V}{ρ:List Hd}{R:List Addr}{H:Hp}{s:Shared}{N:Shared→Prop}{B:Value→Shared→Prop}{E:Value→Shared→Prop}
    (h0:l[i]? = some v0) (h1:St i s.heap) (h2:Good U.toPg U.top ρ R H s.heap) (h3:∀ b∈wr,b∈R) (h4:dat ⟨s.heap,ρ,R⟩)
    (hQ:∀ v s2,Step wr ρ s ρ s2→Good U.toPg U.top ρ R H s2.heap→St (i + 1) s2.heap→VR U.toPg ⟨s2.heap,ρ,R⟩ v0 v→B v s2):
    wpAny (model U.prog U.w) A (pyNext (.ref I)) (lP (model U.prog U.w) A tgt (.ref I) E N B) E s:=by
  refine wpAny_mono (W.item i v0 ρ R H s B E h0 h1 h2 h3 h4 hQ) (fun q s4 hq=>?_) fun _ _ e=>e
  obtain⟨v,rfl,hq⟩:=hq
  exact hq
theorem Iter.last {U:fL}{A:Around}{tgt:PySem.Expr}{I:Addr}{fp wr:List Addr}{l:List V}{St:Nat→Heap→Prop}{dat:Vw→Prop} (W:Iter U A tgt I fp wr l St dat) {s:Shared}{N:Shared→Prop}{B:Value→Shared→Prop}{E:Value→Shared→Prop}
    (h1:St l.length s.heap) (hQ:∀ h' tk,(∀ b o,b∉wr→s.heap.get? b=some o→h'.get? b=some o)→N { s with heap:=h',toks:=tk }):
    wpAny (model U.prog U.w) A (pyNext (.ref I)) (lP (model U.prog U.w) A tgt (.ref I) E N B) E s:=by
  refine wpAny_mono (W.done s N E h1 hQ) (fun q s4 hq=>?_) fun _ _ e=>e
  obtain⟨rfl,hq⟩:=hq
  exact hq
noncomputable def IJ (fp wr:List Addr) (St:Nat→Heap→Prop) (dat:Vw→Prop) (i:Nat) (ρ:List Hd) (R:List Addr) (h:Heap):Prop:=St i h∧dat ⟨h,ρ,R⟩∧∀ b∈fp,b∈wr∨∃ o,Vw.Fix ⟨h,ρ,R⟩ b o
section
variable {U:fL}{A:Around}{tgt:PySem.Expr}{I:Addr}{fp wr:List Addr}{l:List V}{St:Nat→Heap→Prop}{dat:Vw→Prop}{i:Nat}{ρ ρ':List Hd}{R Wx:List Addr}{H:Hp}{s s':Shared}
theorem Iter.Jw (W:Iter U A tgt I fp wr l St dat) (j:IJ fp wr St dat i ρ R s.heap) (g:Good U.toPg U.top ρ R H s.heap) (hwR:∀ b∈wr,b∈R) (st:Step Wx ρ s ρ' s') (hW:∀ b∈Wx,b∈R) (hn:∀ b∈Wx,b∉wr):IJ fp wr St dat i ρ' R s'.heap:=by
  have le:=st.le hW
  refine⟨W.frame _ _ _ j.1 fun c hc oc ec=>?_,W.mono _ _ le j.2.1,fun b hb=>(j.2.2 b hb).imp id fun⟨o,x⟩=>⟨o,le.fix b o x⟩⟩
  rcases j.2.2 c hc with hcw | ⟨ob,fx⟩
  · exact st.keep c oc ec (fun q=>g.rs c q (hwR c hcw)) fun q=>hn c q hcw
  · have q1:=fx.1.symm.trans ec
    cases q1
    exact(le.fix c _ fx).1
theorem Iter.Jr (W:Iter U A tgt I fp wr l St dat) {v0:V}{N:Shared→Prop}{B:Value→Shared→Prop}{E:Value→Shared→Prop} (h0:l[i]? = some v0) (j:IJ fp wr St dat i ρ R s.heap) (g:Good U.toPg U.top ρ R H s.heap) (hwR:∀ b∈wr,b∈R)
    (hQ:∀ v s2,Step wr ρ s ρ s2→Good U.toPg U.top ρ R H s2.heap→IJ fp wr St dat (i + 1) ρ R s2.heap→VR U.toPg ⟨s2.heap,ρ,R⟩ v0 v→B v s2):wpAny (model U.prog U.w) A (pyNext (.ref I)) (lP (model U.prog U.w) A tgt (.ref I) E N B) E s:=
  W.next h0 j.1 g hwR j.2.1 fun v s2 st g2 hst hv=>hQ v s2 st g2 ⟨hst,W.mono _ _ (st.le hwR) j.2.1,fun b hb=>(j.2.2 b hb).imp id fun⟨o,x⟩=>⟨o,(st.le hwR).fix b o x⟩⟩ hv
end
theorem Step.sK {W wr:List Addr}{ρ ρ':List Hd}{s s':Shared}{h'':Heap}{tk:Nat} (x:Step W ρ s ρ' s') (hs:∀ b o,b∉wr→s'.heap.get? b=some o→h''.get? b=some o) (hw:∀ b∈wr,s.heap.get? b=none):Step W ρ s ρ' { s' with heap:=h'',toks:=tk }:=by
  have ne:∀ {a o},s.heap.get? a=some o→a∉wr:=fun {a o} e q=>bB e (hw a q)
  exact⟨fun a o e hf hW=>hs a o (ne e) (x.keep a o e hf hW),fun a o e=>by obtain⟨o',e'⟩:=x.ex a o e; exact⟨o',hs a o' (ne e) e'⟩,x.ext,x.ft,x.gens,x.os⟩
theorem Good.sK {G:Pg}{top:Heap}{ρ:List Hd}{R wr:List Addr}{H:Hp}{h h'':Heap} (g:Good G top ρ (wr++R) H h) (hs:∀ b o,b∉wr→h.get? b=some o→h''.get? b=some o) (hC:∀ b∈R,b∉wr):Good G top ρ R H h''∧Vw.Le ⟨h,ρ,wr++R⟩ ⟨h'',ρ,R⟩:=by
  have nf:∀ a∈foot ρ,a∉wr:=fun a q z=>g.rs a q (List.mem_append_left _ z)
  have le:Vw.Le ⟨h,ρ,wr++R⟩ ⟨h'',ρ,R⟩:=⟨fun a o x=>⟨hs a o (fun z=>x.2.2 (List.mem_append_left _ z)) x.1,x.2.1,fun z=>x.2.2 (List.mem_append_right _ z)⟩,fun _ hd e=>⟨hd,e,rfl⟩⟩
  refine⟨⟨fun a o e=>le.fix a o (g.top a o e),g.len,fun k ob hd e1 e2 hne=>?_,g.nd,fun a q=>?_,fun a q z=>g.rs a q (List.mem_append_right _ z),fun a q=>?_⟩,le⟩
  · obtain⟨hl,ho⟩:=g.ob k ob hd e1 e2 hne
    exact⟨hl,ho.mono le (fun o e=>hs _ o (nf _ (bT.mpr ⟨k,hd,e2,hl, .inl rfl⟩)) e) fun o e=>hs _ o (nf _ (bT.mpr ⟨k,hd,e2,hl, .inr rfl⟩)) e⟩
  · obtain⟨o,e⟩:=g.lt a q; exact⟨o,hs a o (nf a q) e⟩
  · obtain⟨o,e⟩:=g.yr a (List.mem_append_right _ q)
    exact⟨o,hs a o (hC a q) e⟩
theorem cX.sK {G:Pg}{sc:Scope}{env:Env}{M M0:Loc}{P:List Addr}{ρ ρ':List Hd}{R wr:List Addr}{h h' h'':Heap} (l:cX G sc env M P ρ' (wr++R) h') (l0:cX G sc env M0 P ρ R h) (le:Vw.Le ⟨h',ρ',wr++R⟩ ⟨h'',ρ',R⟩)
    (hs:∀ b o,b∉wr→h'.get? b=some o→h''.get? b=some o) (nL:env.locals∉wr) (nC:∀ x c,env.cells.lookup x=some c→c∉wr):cX G sc env M P ρ' R h'':=by
  obtain⟨m,hn,hm⟩:=l.loc
  refine⟨l.scope,l.HG,l.Jd,⟨m,Heap.Ns.of hn fun o e=>hs _ o nL e,fun i x v e1 e2=>?_⟩,fun i x k v e1 hk e2=>?_,fun i x e hp=>?_,l0.Ju,l.Js,fun x c e=>?_,l.Ic⟩
  · obtain⟨val,h1,h2⟩:=hm i x v e1 e2
    exact⟨val,h1,h2.mono le⟩
  · obtain⟨c,val,h1,h2,h3⟩:=l.vp i x k v e1 hk e2
    exact⟨c,val,h1,Heap.IsCell.of h2 fun o e=>hs _ o (nC _ _ h1) e,h3.mono le⟩
  · obtain⟨c,o,h1,h2⟩:=l.own i x e hp
    exact⟨c,o,h1,Heap.IsCell.of h2 fun o e=>hs _ o (nC _ _ h1) e⟩
  · obtain⟨h1,h2,h3,o,h4⟩:=l.AB x c e
    exact⟨(l0.AB x c e).1,h2,h3,o,hs _ o (nC _ _ e) h4⟩
section
variable {U:fL}{n:Nat}{sc:Scope}{b:Bool}
theorem uG {prog:Program}{w:World}{A:Around}{s:Shared}{R:Result→Shared→Prop}{target:PySem.Expr}{it:Value}{body orelse:List Stmt}{env:Env} (I:Nat→Shared→Prop)
    (turn:∀ n s,I n s→wpAny (model prog w) A (pyNext it) (lP (model prog w) A target it (notedBy (model prog w) A env fun e s'=>R (.error e) s')
      (fun s₁=>wpAny (model prog w) A (execs orelse env) (fun f s₃=>R (.ok f) s₃) (notedBy (model prog w) A env fun e s'=>R (.error e) s') s₁)
      (fun v s₁=>wpAny (model prog w) A (assign target env v) (fun _ s₂=>wpAny (model prog w) A (execs body env) (fun f s₃=>match f with
          | .next | .cont=>∃ m,m < n∧I m s₃
          | .brk=>R (.ok .next) s₃
          | .ret v=>R (.ok (.ret v)) s₃) (notedBy (model prog w) A env fun e s'=>R (.error e) s') s₂) (notedBy (model prog w) A env fun e s'=>R (.error e) s') s₁)) (notedBy (model prog w) A env fun e s'=>R (.error e) s') s)
    (n:Nat) (h:I n s):codeAny (model prog w) A (.forLoop target it body orelse env) R s:=by
  refine codeAny_loop' rfl I (fun n s hI=>?_) n h
  show wpAny _ _ ((forTurn target it body orelse env).onRaise (fun x=>do noteFrame x env; theTreesLotGoes x)) _ _ s
  refine wpAny_noted ?_
  simp only[forTurn]
  refine wpAny_bind (wpAny_standAt (wpAny_bind (wpAny_onRaise (wpAny_mono (turn n s hI) (fun r s₁ h₁=>?_) fun _ _ h'=>wpAny_standAt h'))))
  cases r with
  | none=>exact wpAny_pure (.inr ⟨rfl,codeAny_block h₁⟩)
  | some v=>
    refine wpAny_bind (wpAny_mono h₁ (fun _ s₁ h₁=>?_) fun _ _ h'=>h')
    refine wpAny_bind (wpAny_mono h₁ (fun _ s₂ h₂=>wpAny_bind (wpAny_mono h₂ (fun f s₃ h₃=>?_) fun _ _ h'=>h')) fun _ _ h'=>h')
    cases f with
    | next=>exact wpAny_pure (.inl ⟨rfl,h₃⟩)
    | cont=>exact wpAny_pure (.inl ⟨rfl,h₃⟩)
    | brk=>exact wpAny_pure h₃
    | ret v=>exact wpAny_pure h₃
noncomputable def forL (a:AF) (f:SF):List V→SF
  | [],M,H=>some (.next,M,H)
  | v::l,M,H=>(a v M H).bind fun q=>(f q.1 q.2).bind fun r=>match r.1 with
    | .next | .cont=>forL a f l r.2.1 r.2.2
    | .brk=>some (.next,r.2.1,r.2.2)
    | .ret v=>some (.ret v,r.2.1,r.2.2)
noncomputable def m4 (it:IF) (a:AF) (f:SF):SF:=fun M H=>(it M H).bind fun p=>forL a f p.1 M p.2
noncomputable def FI (U:fL) (sc:Scope) (env:Env) (P W W0:List Addr) (J:Nat→List Hd→List Addr→Heap→Prop) (a:AF) (f:SF) (vs:List V) (r:Fl × Loc × Hp) (ρ1:List Hd) (sB:Shared) (k:Nat) (s':Shared):Prop:=
  ∃ (i:Nat) (M1:Loc) (H1:Hp) (ρ':List Hd),k + i=vs.length∧Step W0 ρ1 sB ρ' s'∧Good U.toPg U.top ρ' W H1 s'.heap∧cX U.toPg sc env M1 P ρ' W s'.heap∧J i ρ' W s'.heap∧forL a f (vs.drop i) M1 H1=some r
theorem X.A3 {t e:PySem.Expr}{body:List Stmt}{pos:Pos}{it:IF}{a:AF}{f:SF} (h0:pX U n sc t e it) (ha:i3 U true n sc t a) (h1:aK U n sc body f)
    (hs:∀ env x,foldedSetIterable e env x=pure x):gY U n sc (.For t e body [] pos) (m4 it a f):=by
  intro A env M P ρ R H s Q E r M' H' hr so gd l o hf hQ
  refine bf hf fun vs H0 e0 hf=>?_
  refine wpAny_For (h0 A env M P ρ R H s _ E vs H0 hr so gd l e0 fun itv s1 ρ1 s2 st1 g1 hb=>?_) (hs env)
  obtain⟨I,fp,wr,St,dat,h',tk,rfl,rfl,hk,hw,hx,W,hj⟩:=hb
  refine wP (tk:=tk) g1 hk hw hx fun g2 le2 LT=>?_
  have l1:=l.cT st1
  have l2:=LT l1
  have n1:∀ {a:Addr},(∃ o,s1.heap.get? a=some o)→a∉wr:=fun⟨o,e⟩ q=>bB e (hw _ q)
  have nL:env.locals∉wr:=n1 (by obtain⟨m,⟨o,es,ep,e,_⟩,_⟩:=l1.loc; exact⟨o,e⟩)
  have nC:∀ x c,env.cells.lookup x=some c→c∉wr:=fun x c e=>n1 (l1.AB x c e).2.2.2
  have o2:Own true sc env P (wr++R):=⟨o.loc,o.vp,fun a q=>List.mem_append_right _ (o.sub a q)⟩
  have nP:∀ a∈P,a∉wr:=fun a q=>n1 (g1.yr a (o.sub a q))
  have hwR:∀ a∈wr,a∈wr++R:=fun a q=>List.mem_append_left _ q
  have back:∀ {s3:Shared}{ρ3:List Hd},Step (wr++P) ρ1 s1 ρ3 s3→Step P ρ s ρ3 s3:=fun st=>st1.any.trans (st.more fun a q=>(List.mem_append.mp q).elim (fun q => .inr (hw a q)) .inl)
  refine uG (FI U sc env P (wr++R) (wr++P) (IJ fp wr St dat) a f vs (r,M',H') ρ1 { s1 with heap:=h',toks:=tk }) ?_ vs.length ⟨0,M,H0,ρ1,rfl, .refl,g2,l2,hj,hf⟩
  intro k s' hI
  refine cps fun CC KK=>?_
  obtain⟨i,M1,H1,ρ',hik,st3,g3,l3,j3,hf3⟩:=hI
  have st3':=(cm (tk:=tk) hk).any.trans st3
  cases k with
  | succ k=>
    have hlt:i < vs.length:=by omega
    rw[List.drop_eq_getElem_cons hlt] at hf3
    refine bf hf3 fun M4 H4 e4 hf3=>?_
    refine gz hf3 fun t5 e5 hf3=>?_
    refine KK (W.Jr (List.getElem?_eq_getElem hlt) j3 g3 hwR fun v s4 st4 g4 j4 hv4=>?_)
    refine ha A env M1 P ρ' (wr++R) H1 s4 _ _ _ v M4 H4 hr so g4 (l3.wr st4 hwR nL nC) o2 hv4 e4 fun s5 ρ5 st5 g5 l5=>?_
    refine h1 A env M4 P ρ5 (wr++R) H4 s5 _ _ t5.1 t5.2.1 t5.2.2 hr so g5 l5 o2 e5 fun y s6 ρ6 st6 g6 l6 fr6=>?_
    have st46:Step P ρ' s4 ρ6 s6:=st5.trans st6
    have st36:Step (wr++P) ρ' s' ρ6 s6:=(st4.more fun a q => .inl (List.mem_append_left _ q)).trans (st46.more fun a q => .inl (List.mem_append_right _ q))
    refine xg (Rt:=fun y=>Q y s6) fr6 hf3 (fun hf6=>⟨k,Nat.lt_succ_self k,i + 1,t5.2.1,t5.2.2,ρ6,(by omega),st3.trans st36,g6,l6,W.Jw j4 g4 hwR st46 o2.sub nP,hf6⟩) fun fl' y' e fr=>?_
    cases e
    exact hQ y' s6 ρ6 (back (st3'.trans st36)) (g6.shrink fun a q=>List.mem_append_right _ q) (l6.back l fun a q=>List.mem_append_right _ q) (fr.mono (Vw.shrink fun a q=>List.mem_append_right _ q))
  | zero=>
    obtain rfl:i=vs.length:=(Nat.zero_add i).symm.trans hik
    refine KK (W.last j3.1 fun h4 tk4 hk4=>?_)
    rw[List.drop_of_length_le (Nat.le_refl _)] at hf3
    cases hf3
    obtain⟨g4,le4⟩:=g3.sK hk4 fun b q=>n1 (g1.yr b q)
    exact wpAny_execs_nil (hQ .next _ ρ' (back (st3'.sK hk4 hw)) g4 (l3.sK l le4 hk4 nL nC) trivial)
end
end Mine
end
section
open PySem PySem.W PyProof.Rows PySem.Calls PySem.SeqAt
namespace Mine
theorem Step.same {W:List Addr}{ρ ρ':List Hd}{s s':Shared}{h'':Heap}{tk:Nat}{C:Addr} (x:Step W ρ s ρ' s') (hs:∀ b,b≠C→h''.get? b=s'.heap.get? b) (hC:s.heap.get? C=none):Step W ρ s ρ' { s' with heap:=h'',toks:=tk }:=by
  have ne:∀ {a o},s.heap.get? a=some o→a≠C:=fun {a o} e q=>by subst q; exact bB e hC
  exact⟨fun a o e hf hw=>(hs a (ne e)).trans (x.keep a o e hf hw),fun a o e=>by obtain⟨o',e'⟩:=x.ex a o e; exact⟨o',(hs a (ne e)).trans e'⟩,x.ext,x.ft,x.gens,x.os⟩
theorem Good.leave {G:Pg}{top:Heap}{ρ:List Hd}{R:List Addr}{H:Hp}{h h'':Heap}{C:Addr} (g:Good G top ρ (C::R) H h) (hs:∀ b,b≠C→h''.get? b=h.get? b) (hC:C∉R):Good G top ρ R H h''∧Vw.Le ⟨h,ρ,C::R⟩ ⟨h'',ρ,R⟩:=by
  have nf:∀ a∈foot ρ,a≠C:=fun a q z=>g.rs a q (z▸List.mem_cons_self)
  have le:Vw.Le ⟨h,ρ,C::R⟩ ⟨h'',ρ,R⟩:=⟨fun a o x=>⟨(hs a fun z=>x.2.2 (z▸List.mem_cons_self)).trans x.1,x.2.1,fun z=>x.2.2 (List.mem_cons_of_mem _ z)⟩,fun _ hd e=>⟨hd,e,rfl⟩⟩
  refine⟨⟨fun a o e=>le.fix a o (g.top a o e),g.len,fun k ob hd e1 e2 hne=>?_,g.nd,fun a q=>?_,fun a q z=>g.rs a q (List.mem_cons_of_mem _ z),fun a q=>?_⟩,le⟩
  · obtain⟨hl,ho⟩:=g.ob k ob hd e1 e2 hne
    exact⟨hl,ho.mono le (fun o e=>(hs _ (nf _ (bT.mpr ⟨k,hd,e2,hl, .inl rfl⟩))).trans e) fun o e=>(hs _ (nf _ (bT.mpr ⟨k,hd,e2,hl, .inr rfl⟩))).trans e⟩
  · obtain⟨o,e⟩:=g.lt a q; exact⟨o,(hs a (nf a q)).trans e⟩
  · obtain⟨o,e⟩:=g.yr a (List.mem_cons_of_mem _ q)
    exact⟨o,(hs a fun z=>hC (z▸q)).trans e⟩
noncomputable def kb (scope sc:Scope):Scope:={ scope with names:=scope.names.map fun(n,k)=>if (k == .free&&sc.kind == .function&&sc.names.lookup n==some .cell) then (n, .cell) else (n,k) }
theorem CT {scope sc:Scope}{env:Env} (h:env.scope=sc):relabel scope env=kb scope sc:=by subst h; rfl
theorem oZ {env:Env}:∀ (names:List (Str × NameKind)),(∀ x∈names,x.2 = .free→∃ c,env.cells.lookup x.1=some c)→∀ acc:List (Str × Addr),
    ∃ cl,(forIn names acc fun(x:Str × NameKind) cs=>(if x.2 == .free then (cellOf env x.1 >>= fun c=>pure (ForInStep.yield ((x.1,c)::cs))) else pure (ForInStep.yield cs):Sem (ForInStep (List (Str × Addr)))))=pure cl∧
      (∀ p∈cl,p∈acc∨env.cells.lookup p.1=some p.2)∧(∀ p∈acc,p∈cl)∧∀ x∈names,x.2 = .free→∃ c,(x.1,c)∈cl
  | [],_,acc=>⟨acc,rfl,fun p h => .inl h,fun p h=>h,fun _ h=>nomatch h⟩
  | (n,k)::r,h,acc=>by
    by_cases hk:k = .free
    · subst hk
      obtain⟨c,hc⟩:=h (n, .free) List.mem_cons_self rfl
      obtain⟨cl,e,h1,h2,h3⟩:=oZ r (fun x hx=>h x (List.mem_cons_of_mem _ hx)) ((n,c)::acc)
      refine⟨cl,?_,fun p hp=>?_,fun p hp=>h2 p (List.mem_cons_of_mem _ hp),fun x hx hf=>?_⟩
      · rw[List.forIn_cons]
        have e2:cellOf env n=pure c:=by unfold cellOf; rw[hc]
        simp only[beq_self_eq_true,if_true,e2,pure_bind]
        exact e
      · rcases h1 p hp with q | q
        · rcases List.mem_cons.mp q with rfl | q
          · exact .inr hc
          · exact .inl q
        · exact .inr q
      · rcases List.mem_cons.mp hx with rfl | hx
        · exact⟨c,h2 _ List.mem_cons_self⟩
        · exact h3 x hx hf
    · obtain⟨cl,e,h1,h2,h3⟩:=oZ r (fun x hx=>h x (List.mem_cons_of_mem _ hx)) acc
      refine⟨cl,?_,h1,h2,fun x hx hf=>?_⟩
      · rw[List.forIn_cons]
        have:(k==NameKind.free)=false:=by simpa using hk
        simp only[this,Bool.false_eq_true,if_false,pure_bind]
        exact e
      · rcases List.mem_cons.mp hx with rfl | hx
        · exact absurd hf hk
        · exact h3 x hx hf
theorem Dz {env:Env}{cl:List (Str × Addr)} (h1:∀ p∈cl,env.cells.lookup p.1=some p.2) {x:Str}{c:Addr} (h:(x,c)∈cl):cl.lookup x=some c:=by
  have hx:=h1 _ h
  have:∃ d,cl.lookup x=some d:=by
    cases e:cl.lookup x with
    | some d=>exact⟨d,rfl⟩
    | none=>
      have:=List.lookup_eq_none_iff.mp e _ h
      simp at this
  obtain⟨d,hd⟩:=this
  have:=h1 _ (mem_of_lookup hd)
  rw[hd,← hx]
  exact this.symm
theorem yz {env:Env}{scope:Scope} (h:∀ x∈scope.names,x.2 = .free→∃ c,env.cells.lookup x.1=some c):
    ∃ cl,closureFor scope env=pure cl∧(∀ x c,cl.lookup x=some c→env.cells.lookup x=some c)∧∀ x∈scope.names,x.2 = .free→cl.lookup x.1=env.cells.lookup x.1:=by
  obtain⟨cl,e,h1,h2,h3⟩:=oZ scope.names h []
  have h1':∀ p∈cl,env.cells.lookup p.1=some p.2:=fun p hp=>(h1 p hp).elim (fun q=>nomatch q) id
  refine⟨cl,?_,fun x c q=>h1' _ (mem_of_lookup q),fun x hx hf=>?_⟩
  · unfold closureFor
    refine Eq.trans ?_ (congrArg (· >>= pure) e)
    have e2:(fun(x:Str × NameKind) (r:List (Str × Addr))=>(match x with
        | (name,kind)=>if (kind==NameKind.free)=true then (do let c ← cellOf env name; pure (ForInStep.yield ((name,c)::r))) else (pure (ForInStep.yield r)):Sem (ForInStep (List (Str × Addr))))) =
        fun x cs=>if x.2 == .free then (cellOf env x.1 >>= fun c=>pure (ForInStep.yield ((x.1,c)::cs))) else pure (ForInStep.yield cs):=by
      funext x r; rfl
    rw[← e2]
  · obtain⟨c,hc⟩:=h3 x hx hf
    rw[Dz h1' hc,h1' _ hc]
theorem xX {env:Env}{scope:Scope} (h:∀ x∈scope.names,x.2 = .free→∃ c,env.cells.lookup x.1=some c) {C:Prop} (K:∀ cl,closureFor scope env=pure cl→(∀ x c,cl.lookup x=some c→env.cells.lookup x=some c)→(∀ x∈scope.names,x.2 = .free→cl.lookup x.1=env.cells.lookup x.1)→C):C:=
  (yz h).elim fun cl h=>K cl h.1 h.2.1 h.2.2
noncomputable def ik:TF:=fun _ H=>some (true,H)
noncomputable def sV (U:fL) (n:Nat) (sc:Scope) (ifs:List PySem.Expr) (f:TF):Prop:=
  ∀ (A:Around) (env:Env) (M:Loc) (P:List Addr) (ρ:List Hd) (R:List Addr) (H:Hp) (s:Shared) (Q:Bool→Shared→Prop) (E:Value→Shared→Prop) (v:Bool) (H':Hp),
    ij n A→jX sc→Good U.toPg U.top ρ R H s.heap→cX U.toPg sc env M P ρ R s.heap→f M H=some (v,H')→
    QT U ρ R s Q v H'→
    wpAny (model U.prog U.w) A (forIn ifs true fun c r=>if r=true then do let ok ← isTrue c env (eval c env); pure (ForInStep.yield ok) else pure (ForInStep.yield r)) Q E s
section
variable {U:fL}{n:Nat}{sc:Scope}{b:Bool}
theorem C.nil:sV U n sc [] ik:=by
  intro A env M P ρ R H s Q E v H' hr so gd l hf hQ
  cases hf
  exact wpAny_tests_nil (hQ s ρ .refl gd)
theorem C.one {c:PySem.Expr}{f:TF} (h:kY U n sc c f):sV U n sc [c] f:=by
  intro A env M P ρ R H s Q E v H' hr so gd l hf hQ
  exact wpAny_tests_one (h A env M P ρ R H s Q E v H' hr so gd l hf hQ)
theorem tC {prog:Program}{w:World}{A:Around}{s:Shared}{R:Result→Shared→Prop}{elt target iter:PySem.Expr}{ifs:List PySem.Expr}{scope:Scope}{pos:Pos}{it acc:Value}{env:Env} (I:Nat→Shared→Prop)
    (turn:∀ n s,I n s→wpAny (model prog w) A (pyNext it) (lP (model prog w) A target it (notedBy (model prog w) A env fun e s'=>R (.error e) s') (fun s₁=>R (.ok .next) s₁)
      (fun v s₁=>wpAny (model prog w) A (assign target env v) (fun _ s₂=>
          wpAny (model prog w) A (forIn ifs true fun c r=>if r=true then do let ok ← isTrue c env (eval c env); pure (ForInStep.yield ok) else pure (ForInStep.yield r)) (fun ok s₃=>
            if ok=true then wpAny (model prog w) A (eval elt env) (fun x s₄=>
              wpAny (model prog w) A (call (.builtin "list.append") [acc,x]) (fun _ s₅=>∃ m,m < n∧I m s₅) (notedBy (model prog w) A env fun e s'=>R (.error e) s') s₄) (notedBy (model prog w) A env fun e s'=>R (.error e) s') s₃
            else ∃ m,m < n∧I m s₃) (notedBy (model prog w) A env fun e s'=>R (.error e) s') s₂) (notedBy (model prog w) A env fun e s'=>R (.error e) s') s₁)) (notedBy (model prog w) A env fun e s'=>R (.error e) s') s)
    (n:Nat) (h:I n s):
    codeAny (model prog w) A (.compLoop (.ListComp elt [⟨target,iter,ifs,0⟩] scope pos) 0 it acc env) R s:=by
  refine codeAny_loop rfl I (fun n s hI=>?_) n h
  show wpAny _ A ((compTurn (.ListComp elt [⟨target,iter,ifs,0⟩] scope pos) 0 it acc env).onRaise (fun x=>do noteFrame x env; theTreesLotGoes x)) _ _ s
  refine wpAny_noted ?_
  rw[compTurn_list]
  refine wpAny_bind (wpAny_standAt (wpAny_bind (wpAny_mono (turn n s hI) (fun r s₁ h₁=>?_) fun _ _ h'=>h')))
  cases r with
  | none=>exact wpAny_pure h₁
  | some v=>
    refine wpAny_bind (wpAny_mono h₁ (fun _ s₁ h₁=>?_) fun _ _ h'=>h')
    refine wpAny_bind (wpAny_mono h₁ (fun _ s₂ h₂=>wpAny_bind (wpAny_mono h₂ (fun ok s₃ h₃=>?_) fun _ _ h'=>h')) fun _ _ h'=>h')
    cases ok with
    | false=>exact wpAny_pure ⟨rfl,h₃⟩
    | true=>
      exact wpAny_bind (wpAny_bind (wpAny_mono h₃ (fun x s₄ h₄=>wpAny_bind (wpAny_mono h₄ (fun _ s₅ h₅=>wpAny_pure (wpAny_pure ⟨rfl,h₅⟩)) fun _ _ h'=>h')) fun _ _ h'=>h'))
noncomputable def rt (a:AF) (t:TF) (f:EF):List V→Loc→Hp→Option (List V × Hp)
  | [],M,H=>some ([],H)
  | v::l,M,H=>(a v M H).bind fun q=>(t q.1 q.2).bind fun c=>if c.1 then (f q.1 c.2).bind fun x=>(rt a t f l q.1 x.2).map fun z=>(x.1::z.1,z.2) else rt a t f l q.1 c.2
noncomputable def inner (sel:List (Option Nat)) (M:Loc):Loc:=sel.map fun o=>o.bind fun i=>M[i]?.join
noncomputable def gL (sel:List (Option Nat)) (M:Loc):Bool:=sel.all fun o=>o.all fun i=>(M[i]?.join).isSome
noncomputable def em (sel:List (Option Nat)) (it:IF) (a:AF) (t:TF) (f:EF):LF:=fun M H=>(it M H).bind fun p=>if gL sel M then (rt a t f p.1 (inner sel M) p.2).bind fun q=>if p.1.length≤1048576 then some q else none else none
noncomputable def c6 (sel:List (Option Nat)) (it:IF) (a:AF) (t:TF) (f:EF):EF:=fun M H=>(em sel it a t f M H).map fun q=>(.lst q.1,q.2)
structure Sel (sc scope:Scope) (sel:List (Option Nat)):Prop where
  free:∀ (j:Nat) (x:Str),scope.names[j]? = some (x, .free)→∃ (i:Nat) (k:NameKind),sel[j]? = some (some i)∧sc.names[i]? = some (x,k)∧(k = .cell∨k = .free)
  other:∀ (j:Nat) (x:Str) (k:NameKind),scope.names[j]? = some (x,k)→k ≠ .free→sel[j]? = some none
  cell:∀ y∈scope.names,y.2 ≠ .cell
noncomputable def Jj (sc scope:Scope) (sel:List (Option Nat)):Bool:=
  sel.length==scope.names.length&&(scope.names.zip sel).all fun(p:(Str × NameKind) × Option Nat)=>match p.1.2,p.2 with
    | .free,some i=>match sc.names[i]? with
      | some (y, .cell)=>y==p.1.1
      | some (y, .free)=>y==p.1.1
      | _=>false
    | .free,none=>false
    | .cell,_=>false
    | _,some _=>false
    | _,none=>true
theorem bh {sc scope:Scope}{sel:List (Option Nat)} (h:Jj sc scope sel=true:=by kernel_rfl):Sel sc scope sel:=by
  unfold Jj at h
  rw[Bool.and_eq_true,List.all_eq_true] at h
  obtain⟨h1,h2⟩:=h
  have h1:=beq_iff_eq.mp h1
  have key:∀ (j:Nat) (x:Str) (k:NameKind),scope.names[j]? = some (x,k)→∃ o,sel[j]? = some o∧(match k,o with
    | .free,some i=>match sc.names[i]? with
      | some (y, .cell)=>y==x
      | some (y, .free)=>y==x
      | _=>false
    | .free,none=>false
    | .cell,_=>false
    | _,some _=>false
    | _,none=>true)=true:=fun j x k e=>by
    have hlt:=(List.getElem?_eq_some_iff.mp e).1
    obtain⟨o,ho⟩:∃ o,sel[j]? = some o:=⟨_,List.getElem?_eq_getElem (by omega)⟩
    refine⟨o,ho,h2 ((x,k),o) ?_⟩
    refine List.mem_of_getElem? (i:=j) ?_
    rw[List.getElem?_zip_eq_some]
    exact⟨e,ho⟩
  refine⟨fun j x e=>?_,fun j x k e hk=>?_,fun y hy hk=>?_⟩
  · obtain⟨o,ho,hm⟩:=key j x .free e
    cases o with
    | none=>cases hm
    | some i=>
      refine⟨i,?_⟩
      cases q:sc.names[i]? with
      | none=>simp only[q] at hm; cases hm
      | some p=>
        obtain⟨y,k⟩:=p
        simp only[q] at hm
        cases k <;> first | (cases hm; done) | exact⟨_,ho,by rw[beq_iff_eq.mp hm],by first | exact .inl rfl | exact .inr rfl⟩
  · obtain⟨o,ho,hm⟩:=key j x k e
    cases o with
    | none=>exact ho
    | some i=>cases k <;> first | exact absurd rfl hk | cases hm
  · obtain⟨j,hj⟩:=List.getElem?_of_mem hy
    obtain⟨x,k⟩:=y
    cases hk
    obtain⟨o,ho,hm⟩:=key j x .cell hj
    cases hm
end
end Mine
end
section
open PySem PySem.W PyProof.Rows PySem.Calls PySem.SeqAt
namespace Mine
section
variable {U:fL}{n:Nat}{sc:Scope}{b:Bool}
theorem join_some {M:Loc}{i:Nat}{v:V} (h:M[i]?.join=some v):M[i]? = some (some v):=by
  cases q:M[i]? with
  | none=>rw[q] at h; cases h
  | some o=>rw[q] at h; cases o with
    | none=>cases h
    | some w=>cases h; rfl
theorem Bb {sel:List (Option Nat)}{M:Loc}{j:Nat}{v:V} (h:(inner sel M)[j]? = some (some v)):∃ i,sel[j]? = some (some i)∧M[i]? = some (some v):=by
  unfold inner at h
  rw[List.getElem?_map] at h
  refine fJ h fun o e1 e2=>?_
  obtain⟨i,rfl,e3⟩:=Option.bind_eq_some_iff.mp e2
  exact⟨i,e1,join_some e3⟩
theorem zL {sel:List (Option Nat)}{M:Loc} (h:gL sel M=true) {j i:Nat} (e:sel[j]? = some (some i)):∃ v,M[i]? = some (some v):=by
  unfold gL at h
  rw[List.all_eq_true] at h
  have:=h _ (List.mem_of_getElem? e)
  simp only[Option.all_some] at this
  obtain⟨v,hv⟩:=Option.isSome_iff_exists.mp this
  exact⟨v,join_some hv⟩
theorem Ev {scope sc:Scope}{j:Nat}{x:Str}{k:NameKind} (h:(kb scope sc).names[j]? = some (x,k)):∃ k0,scope.names[j]? = some (x,k0)∧(k=k0∨(k0 = .free∧k = .cell)):=by
  unfold kb at h
  dsimp only at h
  rw[List.getElem?_map] at h
  refine yC h fun y k0 e1 e2=>?_
  dsimp only at e2
  split at e2
  · rename_i hc
    cases e2
    simp only[Bool.and_eq_true,beq_iff_eq] at hc
    exact⟨k0,e1, .inr ⟨hc.1.1,rfl⟩⟩
  · cases e2; exact⟨_,e1, .inl rfl⟩
theorem ne1 {b D:Nat} (h:b < D):b≠D + 1:=by omega
theorem LV {b D:Nat} (h:b < D):b≠D:=by omega
theorem Lq {D:Nat}:D≠D + 1:=by omega
noncomputable def Jy (a:AF) (ft:TF) (f:EF) (k:Loc→Hp→Option (List V × Hp)) (v:V):Loc→Hp→Option (List V × Hp):=fun M H=>(a v M H).bind fun q=>(ft q.1 q.2).bind fun c=>if c.1 then (f q.1 c.2).bind fun x=>(k q.1 x.2).map fun z=>(x.1::z.1,z.2) else k q.1 c.2
structure KI (U:fL) (A:Around) (t:PySem.Expr) (a:AF) (ft:TF) (f:EF) (I:Addr) (wr:List Addr) (N:Nat) (J:Nat→List Hd→List Addr→Heap→Prop) (cG:Nat→Nat→Loc→Hp→Option (List V × Hp)) (Hz:Hp):Prop where
  step:∀ {i:Nat}{ρa ρb:List Hd}{Ra Wx:List Addr}{sa sb:Shared}{Ha:Hp},J i ρa Ra sa.heap→Good U.toPg U.top ρa Ra Ha sa.heap→(∀ b∈wr,b∈Ra)→Step Wx ρa sa ρb sb→(∀ b∈Wx,b∈Ra)→(∀ b∈Wx,b∉wr)→J i ρb Ra sb.heap
  item:∀ {m i:Nat}{M:Loc}{H1:Hp}{z:List V}{ρ:List Hd}{R:List Addr}{s:Shared},cG (m + 1) i M H1=some (z,Hz)→m + 1 + i=N→J i ρ R s.heap→Good U.toPg U.top ρ R H1 s.heap→(∀ b∈wr,b∈R)→∃ v0,Jy a ft f (cG m (i + 1)) v0 M H1=some (z,Hz)∧
    ∀ (Nn:Shared→Prop) (B E:Value→Shared→Prop),(∀ v s2,Step wr ρ s ρ s2→Good U.toPg U.top ρ R H1 s2.heap→J (i + 1) ρ R s2.heap→VR U.toPg ⟨s2.heap,ρ,R⟩ v0 v→B v s2)→wpAny (model U.prog U.w) A (pyNext (.ref I)) (lP (model U.prog U.w) A t (.ref I) E Nn B) E s
  done:∀ {M:Loc}{H1:Hp}{z:List V}{ρ:List Hd}{R:List Addr}{s:Shared},cG 0 N M H1=some (z,Hz)→J N ρ R s.heap→Good U.toPg U.top ρ R H1 s.heap→z=[]∧H1=Hz∧
    ∀ (Nn:Shared→Prop) (B E:Value→Shared→Prop),(∀ h' tk,(∀ b o,b∉wr→s.heap.get? b=some o→h'.get? b=some o)→Nn { s with heap:=h',toks:=tk })→wpAny (model U.prog U.w) A (pyNext (.ref I)) (lP (model U.prog U.w) A t (.ref I) E Nn B) E s
noncomputable def CI (U:fL) (sc':Scope) (en:Env) (W W0:List Addr) (D:Addr) (J:Nat→List Hd→List Addr→Heap→Prop) (cG:Nat→Nat→Loc→Hp→Option (List V × Hp)) (Hz:Hp) (q:List V) (ρ1:List Hd) (sB:Shared) (m i:Nat) (s':Shared):Prop:=
  ∃ (M1:Loc) (H1:Hp) (ρ':List Hd) (done:List V) (xs:List Value) (z:List V),Step W0 ρ1 sB ρ' s'∧Good U.toPg U.top ρ' W H1 s'.heap∧cX U.toPg sc' en M1 [en.locals] ρ' W s'.heap∧J i ρ' W s'.heap∧s'.heap.PlainList D xs.toArray∧eZ U.toPg ⟨s'.heap,ρ',W⟩ done xs∧
    cG m i M1 H1=some (z,Hz)∧done++z=q∧done.length≤i
section
variable {elt t iter:PySem.Expr}{ifs:List PySem.Expr}{a:AF}{ft:TF}{f:EF}{A:Around}{I D:Addr}{wr W W0:List Addr}{N:Nat}{J:Nat→List Hd→List Addr→Heap→Prop}{cG:Nat→Nat→Loc→Hp→Option (List V × Hp)}{Hz:Hp}{q:List V}{ρ1:List Hd}{sB:Shared}{sc':Scope}{en:Env}
theorem um {α:Type}{x y:α}{l:List α} (h:x∈[y]) (hy:y∈l):x∈l:=List.mem_singleton.mp h▸hy
theorem Fp (C:KI U A t a ft f I wr N J cG Hz) (ha:i3 U false n sc' t a) (ht:sV U n sc' ifs ft) (h1:aA U n sc' elt f) (hr:ij n A) (hso:jX sc') (hW:∀ b∈W0,b∈W) (hw0:∀ b∈wr,b∈W0) (hL:en.locals∈W0) (hD:D∈W0) (nLw:en.locals∉wr) (nDw:D∉wr) (nLD:en.locals≠D) (nc:∀ x c,en.cells.lookup x=some c→c∉wr∧c≠D)
    {m i:Nat}{s':Shared}{P Nn:Shared→Prop}{E:Value→Shared→Prop} (hmi:m + 1 + i=N) (hi:i≤16777216) (h:CI U sc' en W W0 D J cG Hz q ρ1 sB (m + 1) i s') (hP:∀ s,CI U sc' en W W0 D J cG Hz q ρ1 sB m (i + 1) s→P s):
    wpAny (model U.prog U.w) A (pyNext (.ref I)) (lP (model U.prog U.w) A t (.ref I) E Nn (fun v s₁=>wpAny (model U.prog U.w) A (assign t en v) (fun _ s₂=>
          wpAny (model U.prog U.w) A (forIn ifs true fun c r=>if r=true then do let ok ← isTrue c en (eval c en); pure (ForInStep.yield ok) else pure (ForInStep.yield r)) (fun ok s₃=>
            if ok=true then wpAny (model U.prog U.w) A (eval elt en) (fun x s₄=>
              wpAny (model U.prog U.w) A (call (.builtin "list.append") [.ref D,x]) (fun _ s₅=>P s₅) E s₄) E s₃
            else P s₃) E s₂) E s₁)) E s':=by
  refine cps fun CC KK=>?_
  obtain⟨M1,H1,ρ',dn,xs,z,st5,g5,l5,j5,pl5,vr5,hf5,hz,hdn⟩:=h
  have hwW:∀ b∈wr,b∈W:=fun b hb=>hW b (hw0 b hb)
  have ow:Own false sc' en [en.locals] W:=⟨List.mem_cons_self,(fun z=>nomatch z),fun a q=>um q (hW _ hL)⟩
  have nD:∀ {ρa:List Hd}{Ha:Hp}{h:Heap},Good U.toPg U.top ρa W Ha h→D∉foot ρa:=fun g z=>g.rs _ z (hW _ hD)
  obtain⟨v0,hf5,nx⟩:=C.item hf5 hmi j5 g5 hwW
  refine bf hf5 fun M6 H6 e6 hf5=>?_
  refine bf hf5 fun c7 H7 e7 hf5=>?_
  refine KK (nx _ _ _ fun v s6 st6 g6 j6 hv6=>?_)
  have l6:=l5.wr st6 hwW nLw fun x c e=>(nc x c e).1
  have pl6:=pl5.at fun o e=>st6.keep D o e (nD g5) nDw
  refine ha A en M1 _ ρ' W H1 s6 _ _ v0 v M6 H6 hr hso g6 l6 ow hv6 e6 fun s7 ρ7 st7 g7 l7=>?_
  have pl7:=pl6.at fun o e=>st7.keep D o e (nD g6) fun q=>nLD (List.mem_singleton.mp q).symm
  refine ht A en M6 _ ρ7 W H6 s7 _ _ c7 H7 hr hso g7 l7 e7 fun s8 ρ8 st8 g8=>?_
  have l8:=l7.cT st8
  have pl8:=pl7.at fun o e=>st8.keep D o e (nD g7) fun q=>nomatch q
  have st58:Step W0 ρ' s' ρ8 s8:=((st6.more fun a q => .inl (hw0 a q)).trans (st7.more fun a q => .inl (um q hL))).trans st8.any
  have j8:J (i + 1) ρ8 W s8.heap:=C.step j6 g6 hwW (st7.trans st8.any) (fun b q=>um q (hW _ hL)) fun b q=>(List.mem_singleton.mp q).symm▸nLw
  cases c7 with
  | false=>exact hP s8 ⟨M6,H7,ρ8,dn,xs,z,st5.trans st58,g8,l8,j8,pl8,vr5.mono (st58.le hW),hf5,hz,Nat.le_succ_of_le hdn⟩
  | true=>
    have hf5:((f M6 H7).bind fun x=>(cG m (i + 1) M6 x.2).map fun z=>(x.1::z.1,z.2))=some (z,Hz):=hf5
    refine bf hf5 fun x9 H9 e9 hf5=>?_
    refine yC hf5 fun z' H10 e10 hf5=>?_
    cases hf5
    refine h1 A en M6 _ ρ8 W H7 s8 _ _ x9 H9 hr hso g8 l8 e9 fun y s9 ρ9 st9 g9 vy=>?_
    have pl9:=pl8.at fun o e=>st9.keep D o e (nD g8) fun q=>nomatch q
    refine wpAny_list_append_plain pl9 (fun hA plA sbA=>?_) (by rw[sizeLine_eq,List.size_toArray,vr5.length]; exact Nat.le_trans hdn hi)
    have DW:∀ a∈[D],a∈W:=fun a q=>um q (hW _ hD)
    have stA:Step [D] ρ9 s9 ρ9 { s9 with heap:=hA,toks:=s9.toks }:=step_same List.mem_cons_self ⟨_,plA.choose_spec⟩ sbA.2
    have st8A:=(st9.any (W:=[D])).trans stA
    refine hP { s9 with heap:=hA,toks:=s9.toks } ⟨M6,H9,ρ9,dn++[x9],xs++[y],z',st5.trans (st58.trans (st8A.more fun a q => .inl (um q hD))),g9.same (hW _ hD) ⟨_,plA.choose_spec⟩ sbA.2,(l8.cT st9).wr stA DW (fun z=>nLD (List.mem_singleton.mp z)) fun x c e z=>(nc x c e).2 (List.mem_singleton.mp z),
      C.step j8 g8 hwW st8A DW (fun b q=>(List.mem_singleton.mp q).symm▸nDw),List.push_toArray ..▸plA,?_,e10,?_,?_⟩
    · exact((vr5.mono ((st58.trans st9.any).le hW)).append (.cons vy .nil)).mono (stA.le DW)
    · rw[← hz,List.append_assoc]; rfl
    · rw[List.length_append]; exact Nat.succ_le_succ hdn
end
theorem IX {scope:Scope}{sel:List (Option Nat)}{env:Env}{M:Loc}{P:List Addr}{ρ:List Hd}{W:List Addr}{h₁:Heap}{cl:List (Str × Addr)}{C:Addr} (hs:Sel sc scope sel) (l:cX U.toPg sc env M P ρ W h₁) (hcg:gL sel M=true) (hns:h₁.Ns C fun _=>none) (hC:C∈W) (hf:C∉foot ρ) (hlt:∀ x c,env.cells.lookup x=some c→c≠C)
    (hcl:∀ x c,cl.lookup x=some c→env.cells.lookup x=some c) (hcl2:∀ x∈scope.names,x.2 = .free→cl.lookup x.1=env.cells.lookup x.1):cX U.toPg (kb scope sc) (compEnvC scope cl C env) (inner sel M) [C] ρ W h₁:=by
  have other:∀ {j:Nat}{x:Str}{k:NameKind},(kb scope sc).names[j]? = some (x,k)→(k = .cell∨k = .free)→∃ (i:Nat) (k':NameKind),sel[j]? = some (some i)∧sc.names[i]? = some (x,k')∧(k' = .cell∨k' = .free)∧cl.lookup x=env.cells.lookup x:=fun {j x k} e hk=>by
    obtain⟨k0,e3,e4⟩:=Ev e
    have hk0:k0 = .free:=by
      rcases e4 with rfl | e4
      · exact hk.resolve_left (hs.cell _ (List.mem_of_getElem? e3))
      · exact e4.1
    subst hk0
    obtain⟨i,k',e7,e8,e9⟩:=hs.free j x e3
    exact⟨i,k',e7,e8,e9,hcl2 _ (List.mem_of_getElem? e3) rfl⟩
  refine⟨CT l.scope,l.HG,l.Jd,⟨_,hns,fun j x v e1 e2=>?_⟩,fun j x k v e1 hk e2=>?_,fun j x e _=>?_,hC,hf,fun x c e=>?_,fun x y c e1 e2=>l.Ic x y c (hcl _ _ e1) (hcl _ _ e2)⟩
  · obtain⟨k0,e3,e4⟩:=Ev e1
    obtain⟨i,e5,_⟩:=Bb e2
    have:=hs.other j x k0 e3 (e4.elim (fun e=>e▸nofun) fun e=>nomatch e.2)
    rw[e5] at this; cases this
  · obtain⟨i,k',e7,e8,e9,e10⟩:=other e1 hk
    obtain⟨i',e5,e6⟩:=Bb e2
    rw[e7] at e5; cases e5
    obtain⟨c,val,c1,c2,c3⟩:=l.vp i x k' v e8 e9 e6
    exact⟨c,val,e10.trans c1,c2,c3⟩
  · obtain⟨i,k',e7,e8,e9,e10⟩:=other e (.inl rfl)
    obtain⟨v,hv⟩:=zL hcg e7
    obtain⟨c,val,c1,c2,c3⟩:=l.vp i x k' v e8 e9 hv
    exact⟨c,_,e10.trans c1,c2⟩
  · obtain⟨c1,c2,c3,c4⟩:=l.AB x c (hcl _ _ e)
    exact⟨c1,c2,hlt x c (hcl _ _ e),c4⟩
theorem x7 {elt t iter:PySem.Expr}{ifs:List PySem.Expr}{scope:Scope}{pos:Pos}{a:AF}{ft:TF}{f:EF}{sel:List (Option Nat)}{RR:Value→Addr→Result→Shared→Prop}
    (ha:i3 U false n (kb scope sc) t a) (ht:sV U n (kb scope sc) ifs ft) (h1:aA U n (kb scope sc) elt f) (hs:Sel sc scope sel) (hk:scope.kind = .function) (hso:jX (kb scope sc))
    {A:Around}{env:Env}{M:Loc}{P:List Addr}{ρ1:List Hd}{R:List Addr}{H0:Hp}{s1:Shared}{E:Value→Shared→Prop}{q:List V}{Hz:Hp}{cl:List (Str × Addr)}{I:Addr}{wr:List Addr}{N:Nat}{J:Nat→List Hd→List Addr→Heap→Prop}{cG:Nat→Nat→Loc→Hp→Option (List V × Hp)}
    (hr:ij n A) (g1:Good U.toPg U.top ρ1 R H0 s1.heap) (l1:cX U.toPg sc env M P ρ1 R s1.heap) (hcg:gL sel M=true) (hN:N≤1048576) (C:KI U A t a ft f I wr N J cG Hz) (hc0:cG N 0 (inner sel M) H0=some (q,Hz))
    (hcl:∀ x c,cl.lookup x=some c→env.cells.lookup x=some c) (hcl2:∀ x∈scope.names,x.2 = .free→cl.lookup x.1=env.cells.lookup x.1) {h':Heap}{tk:Nat} (hkp:∀ b o,s1.heap.get? b=some o→h'.get? b=some o) (hw:∀ b∈wr,s1.heap.get? b=none) (hx:∀ b∈wr,∃ o,h'.get? b=some o)
    (hJ:∀ h₂ R₂,Vw.Le ⟨h',ρ1,wr++R⟩ ⟨h₂,ρ1,R₂⟩→(∀ b o,h'.get? b=some o→h₂.get? b=some o)→J 0 ρ1 R₂ h₂) (hself:∀ (R₂:List Addr) (s2:Shared) (Q E:Value→Shared→Prop),J 0 ρ1 R₂ s2.heap→Q (.ref I) s2→wpAny (model U.prog U.w) A (pyIter (.ref I)) Q E s2)
    (hRR:∀ C D s5 ρ',Step [C] ρ1 s1 ρ' s5→s1.heap.get? C=none→Good U.toPg U.top ρ' (C::R) Hz s5.heap→(∃ m,s5.heap.Ns C m)→VR U.toPg ⟨s5.heap,ρ',C::R⟩ (.lst q) (.ref D)→RR (.ref D) C (.ok .next) s5):
    wpAny (model U.prog U.w) A (newList []) (fun acc s₃=>wpAny (model U.prog U.w) A (newFunctionEnv scope env.globals cl [] env.qual none .none (some env)) (fun cenv s₄=>
        codeAny (model U.prog U.w) A (.compStart (.ListComp elt [⟨t,iter,ifs,0⟩] scope pos) 0 (.ref I) acc { cenv with scope:=relabel scope env }) (RR acc cenv.locals) s₄) E s₃) E { s1 with heap:=h',toks:=tk }:=by
  refine wpAny_newObj_type (wpAny_newFunctionEnv hs.cell (by intro y hy; simp at hy) (fun h₁ hns₁ hsb₁=>?_) hk)
  dsimp only at hns₁ hsb₁ ⊢
  generalize hD:h'.objs.size=D at hns₁ hsb₁ ⊢
  have eH2:(h'.push { cls := .type "list",dict:=none,data := .seq ([]:List Value).toArray }).objs.size=D + 1:=by rw[Heap.size_push,hD]
  generalize hH2:h'.push { cls := .type "list",dict:=none,data := .seq ([]:List Value).toArray }=H2 at hns₁ hsb₁ eH2 ⊢
  generalize hC:H2.objs.size=C0 at hns₁ hsb₁ eH2 ⊢
  subst eH2
  generalize tk + ([]:List (Str × Value)).length=tk'
  refine cps fun CC KK=>?_
  have keep4:∀ b o,h'.get? b=some o→h₁.get? b=some o:=fun b o e=>hsb₁.extBut b o (ne1 (hD▸Heap.lt_size e)) (Heap.get?_push_of_some _ (hH2▸Heap.get?_push_of_some _ e))
  have keep14:∀ b o,s1.heap.get? b=some o→h₁.get? b=some o:=fun b o e=>keep4 b o (hkp b o e)
  have none':∀ b,D≤b→h'.get? b=none:=fun b hb=>Heap.get?_none_of_le (by rw[hD]; exact hb)
  have none1:∀ b,D≤b→s1.heap.get? b=none:=fun b hb=>by
    cases e:s1.heap.get? b with
    | none=>rfl
    | some o=>exact absurd (hkp b o e) fun q=>bB q (none' b hb)
  have exD:h₁.PlainList D #[]:=⟨0,hsb₁.extBut _ _ Lq (Heap.get?_push_of_some _ (by rw[← hH2,← hD]; exact Heap.get?_push_size _ rfl))⟩
  have hw4:∀ b∈(D + 1)::D::wr,s1.heap.get? b=none:=fun b hb=>(List.mem_cons.mp hb).elim (fun e=>none1 _ (e▸Nat.le_succ D)) fun hb=>(List.mem_cons.mp hb).elim (fun e=>none1 _ (e▸Nat.le_refl _)) (hw b)
  have hx4:∀ b∈(D + 1)::D::wr,∃ o,h₁.get? b=some o:=fun b hb=>by
    rcases List.mem_cons.mp hb with rfl | hb
    · obtain⟨o,es,ep,e,_⟩:=hns₁; exact⟨o,e⟩
    · rcases List.mem_cons.mp hb with rfl | hb
      · exact⟨_,exD.choose_spec⟩
      · exact(hx b hb).imp fun o e=>keep4 b o e
  refine wP (tk:=tk') g1 keep14 hw4 hx4 fun g4 le4 LJ=>?_
  have old1:∀ {b:Addr},(∃ o,s1.heap.get? b=some o)→b < D:=fun {b} ⟨o,e⟩=>hD▸Heap.lt_size (hkp b o e)
  have wrlt:∀ b∈wr,b < D:=fun b hb=>(hx b hb).elim fun o e=>hD▸Heap.lt_size e
  have j4:J 0 ρ1 (((D + 1)::D::wr)++R) h₁:=by
    refine hJ _ _ ((cm (ρ:=ρ1) (s:={ s1 with heap:=h',toks:=tk }) (tk:=tk') keep4).K0 (fun _ h=>nomatch h) fun b hb=>?_) keep4
    rcases List.mem_append.mp hb with hb | hb
    · rcases List.mem_cons.mp hb with rfl | hb
      · exact .inr (none' _ (Nat.le_succ D))
      · rcases List.mem_cons.mp hb with rfl | hb
        · exact .inr (none' _ (Nat.le_refl _))
        · exact .inl (List.mem_append_left _ hb)
    · exact .inl (List.mem_append_right _ hb)
  have ceD:∀ x c,env.cells.lookup x=some c→c < D:=fun x c e=>old1 (l1.AB x c e).2.2.2
  have inl:cX U.toPg (kb scope sc) (compEnvC scope cl (D + 1) env) (inner sel M) [D + 1] ρ1 (((D + 1)::D::wr)++R) h₁:=
    IX hs (LJ l1) hcg hns₁ (List.mem_append_left _ List.mem_cons_self) (fun z=>absurd (old1 (g1.lt _ z)) (Nat.not_lt.mpr (Nat.le_succ D))) (fun x c e=>ne1 (ceD x c e)) hcl hcl2
  have hwR:∀ b∈wr,b∈(D + 1)::D::wr:=fun b hb=>List.mem_cons_of_mem _ (List.mem_cons_of_mem _ hb)
  have nDw:∀ b,D≤b→b∉wr:=fun b hb z=>absurd (wrlt _ z) (Nat.not_lt.mpr hb)
  have loop:codeAny (model U.prog U.w) A (.compLoop (.ListComp elt [⟨t,iter,ifs,0⟩] scope pos) 0 (.ref I) (.ref D) (compEnvC scope cl (D + 1) env)) (RR (.ref D) (D + 1)) { s1 with heap:=h₁,toks:=tk' }:=by
    refine tC (fun k s'=>∃ i,k + i=N∧CI U (kb scope sc) (compEnvC scope cl (D + 1) env) (((D + 1)::D::wr)++R) ((D + 1)::D::wr) D J cG Hz q ρ1 { s1 with heap:=h₁,toks:=tk' } k i s') ?_ N
      ⟨0,rfl,inner sel M,H0,ρ1,[],[],q, .refl,g4,inl,j4,exD, .nil,hc0,rfl,Nat.le_refl _⟩
    rintro k s' ⟨i,hik,h⟩
    refine cps fun CC2 K2=>?_
    cases k with
    | succ k=>
      exact K2 (Fp C ha ht h1 hr hso (fun b hb=>List.mem_append_left _ hb) hwR List.mem_cons_self (List.mem_cons_of_mem _ List.mem_cons_self) (nDw _ (Nat.le_succ D)) (nDw _ (Nat.le_refl D)) (Ne.symm Lq) (fun x c e=>⟨fun z=>by obtain⟨o,e⟩:=(l1.AB x c (hcl _ _ e)).2.2.2; exact bB e (hw c z),LV (ceD x c (hcl _ _ e))⟩)
        hik (Nat.le_trans (hik▸Nat.le_add_left _ _) (Nat.le_trans hN (by decide))) h fun s h=>⟨k,Nat.lt_succ_self _,i + 1,(by omega),h⟩)
    | zero=>
      obtain⟨M1,H1,ρ',dn,xs,z,st5,g5,l5,j5,pl5,vr5,hf5,hz,hdn⟩:=h
      obtain rfl:i=N:=(Nat.zero_add i).symm.trans hik
      obtain⟨rfl,rfl,fin⟩:=C.done hf5 j5 g5
      rw[List.append_nil] at hz
      subst hz
      refine K2 (fin _ _ _ fun h6 tk6 hk6=>cps fun CC3 K3=>?_)
      have nD:D∉foot ρ':=fun z=>g5.rs _ z (List.mem_append_left _ (List.mem_cons_of_mem _ List.mem_cons_self))
      have pl6:h6.PlainList D xs.toArray:=pl5.at fun o e=>hk6 D o (nDw _ (Nat.le_refl D)) e
      have st16:Step ((D + 1)::D::wr) ρ1 s1 ρ' { s' with heap:=h6,toks:=tk6 }:=((cm (tk:=tk') keep14).any.trans st5).sK hk6 hw
      have sub:∀ a∈wr++((D + 1)::R),a∈((D + 1)::D::wr)++R:=fun a q=>(List.mem_append.mp q).elim (fun q=>List.mem_append_left _ (hwR a q)) fun q=>(List.mem_cons.mp q).elim (fun e=>e▸List.mem_append_left _ List.mem_cons_self) (List.mem_append_right _)
      obtain⟨g6,le6⟩:=(g5.shrink sub).sK hk6 (fun b hb z=>by
        rcases List.mem_cons.mp hb with rfl | hb
        · exact nDw _ (Nat.le_succ D) z
        · obtain⟨o,e⟩:=g1.yr b hb; exact bB e (hw b z))
      obtain⟨m5,hn5,_⟩:=l5.loc
      refine K3 (hRR (D + 1) D _ ρ' (st16.more fun a q=>(List.mem_cons.mp q).elim (fun e => .inl (e▸List.mem_cons_self)) fun q => .inr (hw4 a (List.mem_cons_of_mem _ q))) (none1 _ (Nat.le_succ D)) g6 ⟨m5,Heap.Ns.of hn5 fun o e=>hk6 _ o (nDw _ (Nat.le_succ D)) e⟩
        (.lst (n:=⟨pl6.choose,none,#[]⟩) (xs:=xs) ⟨pl6.choose_spec,nD,fun z=>?_⟩ (by rw[vr5.length]; exact Nat.le_trans hdn hN) ((vr5.mono (Vw.shrink sub)).mono le6)))
      exact(List.mem_cons.mp z).elim Lq fun z=>Nat.lt_irrefl _ (old1 (g1.yr _ z))
  exact KK (codeAny_compStart_list loop (hself _ _ _ _ j4 loop))
theorem FC {sel:List (Option Nat)}{it:IF}{a:AF}{t:TF}{f:EF}{M:Loc}{H:Hp}{r:List V × Hp} (hf:em sel it a t f M H=some r):∃ vs H0,it M H=some (vs,H0)∧gL sel M=true∧rt a t f vs (inner sel M) H0=some r∧vs.length≤1048576:=by
  refine bf hf fun vs H0 e0 hf=>?_
  by_cases hc:gL sel M=true
  · refine gz ((if_pos hc).symm.trans hf) fun r' eL hf=>?_
    by_cases hl:vs.length≤1048576
    · exact⟨vs,H0,e0,hc,Option.some.inj ((if_pos hl).symm.trans hf)▸eL,hl⟩
    · exact bC ((if_neg hl).symm.trans hf)
  · exact bC ((if_neg hc).symm.trans hf)
theorem Dc {sel:List (Option Nat)}{it:IF}{a:AF}{t:TF}{f:EF}{M:Loc}{H:Hp}{r:List V × Hp} (hf:em sel it a t f M H=some r) {C:Prop} (K:∀ vs H0,it M H=some (vs,H0)→gL sel M=true→rt a t f vs (inner sel M) H0=some r→vs.length≤1048576→C):C:=
  (FC hf).elim fun vs h=>h.elim fun H0 h=>K vs H0 h.1 h.2.1 h.2.2.1 h.2.2.2
theorem De {scope:Scope}{sel:List (Option Nat)}{env:Env}{M:Loc}{P:List Addr}{ρ:List Hd}{R:List Addr}{h:Heap} (hs:Sel sc scope sel) (l:cX U.toPg sc env M P ρ R h) (hcg:gL sel M=true):∀ x∈scope.names,x.2 = .free→∃ c,env.cells.lookup x.1=some c:=fun x hx hxf=>by
  obtain⟨j,hj⟩:=List.getElem?_of_mem hx
  obtain⟨y,k⟩:=x
  cases hxf
  obtain⟨i,k',e7,e8,e9⟩:=hs.free j y hj
  obtain⟨w,hw⟩:=zL hcg e7
  obtain⟨c,val,c1,_⟩:=l.vp i y k' w e8 e9 hw
  exact⟨c,c1⟩
theorem xE {A:Around}{ρ ρ':List Hd}{R:List Addr}{H H1:Hp}{s s5:Shared}{E Q:Value→Shared→Prop}{C D:Addr}{v:V} (gd:Good U.toPg U.top ρ R H s.heap) (hQ:∀ x s' ρ',Step [] ρ s ρ' s'→Good U.toPg U.top ρ' R H1 s'.heap→VR U.toPg ⟨s'.heap,ρ',R⟩ v x→Q x s')
    (st:Step [C] ρ s ρ' s5) (hC:s.heap.get? C=none) (g:Good U.toPg U.top ρ' (C::R) H1 s5.heap) (hns:∃ m,s5.heap.Ns C m) (vr:VR U.toPg ⟨s5.heap,ρ',C::R⟩ v (.ref D)):compPost (model U.prog U.w) A E none Q (.ref D) C (.ok .next) s5:=by
  obtain⟨m,hn⟩:=hns
  refine⟨m,hn,fun h' hsb=>?_⟩
  obtain⟨g',le⟩:=g.leave hsb.2 fun z=>by obtain⟨o,e⟩:=gd.yr C z; exact bB e hC
  exact hQ _ { s5 with heap:=h',toks:=s5.toks } ρ' ((st.same hsb.2 hC).more fun a q => .inr ((List.mem_singleton.mp q).symm▸hC)) g' (vr.mono le)
theorem zg {elt t iter:PySem.Expr}{ifs:List PySem.Expr}{scope:Scope}{pos:Pos}{it:IF}{a:AF}{ft:TF}{f:EF}{sel:List (Option Nat)}{RR:Value→Addr→Result→Shared→Prop}
    (h0:pX U n sc t iter it) (ha:i3 U false n (kb scope sc) t a) (ht:sV U n (kb scope sc) ifs ft) (h1:aA U n (kb scope sc) elt f)
    (hs:Sel sc scope sel) (hk:scope.kind = .function) (hso:jX (kb scope sc))
    {A:Around}{env:Env}{M:Loc}{P:List Addr}{ρ:List Hd}{R:List Addr}{H:Hp}{s:Shared}{E:Value→Shared→Prop}{q:List V}{H':Hp}{cl:List (Str × Addr)}
    (hr:ij n A) (so:jX sc) (gd:Good U.toPg U.top ρ R H s.heap) (l:cX U.toPg sc env M P ρ R s.heap) (hf:em sel it a ft f M H=some (q,H'))
    (hcl:∀ x c,cl.lookup x=some c→env.cells.lookup x=some c) (hcl2:∀ x∈scope.names,x.2 = .free→cl.lookup x.1=env.cells.lookup x.1)
    (hRR:∀ C D s5 ρ',Step [C] ρ s ρ' s5→s.heap.get? C=none→Good U.toPg U.top ρ' (C::R) H' s5.heap→(∃ m,s5.heap.Ns C m)→VR U.toPg ⟨s5.heap,ρ',C::R⟩ (.lst q) (.ref D)→RR (.ref D) C (.ok .next) s5):
    wpAny (model U.prog U.w) A (eval iter env) (fun x s₁=>wpAny (model U.prog U.w) A (pyIter x) (fun it s₂=>wpAny (model U.prog U.w) A (newList []) (fun acc s₃=>
      wpAny (model U.prog U.w) A (newFunctionEnv scope env.globals cl [] env.qual none .none (some env)) (fun cenv s₄=>
        codeAny (model U.prog U.w) A (.compStart (.ListComp elt [⟨t,iter,ifs,0⟩] scope pos) 0 it acc { cenv with scope:=relabel scope env }) (RR acc cenv.locals) s₄) E s₃) E s₂) E s₁) E s:=by
  refine cps fun CC KK=>?_
  refine Dc hf fun vs H0 e0 hcg eL hlen=>?_
  refine KK (h0 A env M P ρ R H s _ E vs H0 hr so gd l e0 fun itv s1 ρ1 s2 st1 g1 hb=>?_)
  obtain⟨I,fp,wr,St,dat,h',tk,rfl,rfl,hkp,hw,hx,W,hst,hd,hfp⟩:=hb
  refine x7 (N:=vs.length) (J:=IJ fp wr St dat) (cG:=fun m i M H=>rt a ft f (vs.drop i) M H) ha ht h1 hs hk hso hr g1 (l.cT st1) hcg hlen ⟨W.Jw,fun {m i M H1 z ρ R s} hc hmi j g hwR=>?_,fun {M H1 z ρ R s} hc j g=>?_⟩ eL hcl hcl2 hkp hw hx
    (fun h₂ R₂ le kp=>⟨W.frame _ _ _ hst fun b _ o e=>kp b o e,W.mono _ _ le hd,fun b hb=>(hfp b hb).imp id fun⟨o,x⟩=>⟨o,le.fix b o x⟩⟩) (fun R₂ s2 Q E j=>W.self 0 s2 Q E j.1)
    fun C D s5 ρ' st hC=>hRR C D s5 ρ' (st1.any.trans st) (st1.old hC)
  · have hlt:i < vs.length:=by omega
    rw[List.drop_eq_getElem_cons hlt] at hc
    exact⟨vs[i],hc,fun Nn B E hB=>W.Jr (List.getElem?_eq_getElem hlt) j g hwR hB⟩
  · rw[List.drop_of_length_le (Nat.le_refl _)] at hc
    cases hc
    exact⟨rfl,rfl,fun Nn B E hN=>W.last j.1 hN⟩
theorem E.comp {elt t iter:PySem.Expr}{ifs:List PySem.Expr}{scope:Scope}{pos:Pos}{it:IF}{a:AF}{ft:TF}{f:EF}{sel:List (Option Nat)}
    (h0:pX U n sc t iter it) (ha:i3 U false n (kb scope sc) t a) (ht:sV U n (kb scope sc) ifs ft) (h1:aA U n (kb scope sc) elt f)
    (hs:Sel sc scope sel) (hk:scope.kind = .function) (hso:jX (kb scope sc)) (hnm:∀ x∈scope.names,x.2 = .local→scope.names.lookup x.1=some .local) (hfs:∀ env x,foldedSetIterable iter env x=pure x):
    aA U n sc (.ListComp elt [⟨t,iter,ifs,0⟩] scope pos) (c6 sel it a ft f):=by
  intro A env M P ρ R H s Q E v H' hr so gd l hf hQ
  refine yC hf fun q H1 e1 hf=>?_
  cases hf
  refine Dc e1 fun _ _ _ hcg _ _=>?_
  refine xX (De hs l hcg) fun cl c1 c2 c3=>?_
  rw[eval_ListComp]
  refine wpAny_comprehension_free (use:=none) rfl (hfs env) c1 hk hnm ?_
  refine zg (RR:=fun acc C=>compPost (model U.prog U.w) A E none Q acc C) h0 ha ht h1 hs hk hso hr so gd l e1 c2 c3 fun C D s5 ρ' st hC g hns vr=>xE gd hQ st hC g hns vr
noncomputable def qu (sel:List (Option Nat)) (it:IF) (a:AF) (t:TF) (f:EF) (i:Nat):SF:=fun M H=>(em sel it a t f M H).map fun q=>(.next,M.set i (some (.lst q.1)),q.2)
theorem X.oK {elt t iter:PySem.Expr}{ifs:List PySem.Expr}{scope:Scope}{pos ps px:Pos}{it:IF}{a:AF}{ft:TF}{f:EF}{sel:List (Option Nat)}{i:Nat}{x:Str}
    (h0:pX U n sc t iter it) (ha:i3 U false n (kb scope sc) t a) (ht:sV U n (kb scope sc) ifs ft) (h1:aA U n (kb scope sc) elt f)
    (hs:Sel sc scope sel) (hk:scope.kind = .function) (hso:jX (kb scope sc)) (hnm:∀ x∈scope.names,x.2 = .local→scope.names.lookup x.1=some .local) (hfs:∀ env x,foldedSetIterable iter env x=pure x)
    (hx:sc.names[i]? = some (x, .local)) (hsw:∀ env,env.scope=sc→swapsWith (.ListComp elt [⟨t,iter,ifs,0⟩] scope pos) (some (.Name x px)) ps.line env=pure true):
    gY U n sc (.Assign [.Name x px] (.ListComp elt [⟨t,iter,ifs,0⟩] scope pos) ps) (qu sel it a ft f i):=by
  intro A env M P ρ R H s Q E r M' H' hr so gd l o hf hQ
  refine yC hf fun q H1 e1 hf=>?_
  cases hf
  refine Dc e1 fun _ _ _ hcg _ _=>?_
  refine xX (De hs l hcg) fun cl c1 c2 c3=>?_
  rw[exec_Assign_Name_used _ _ _ _ (hsw env l.scope)]
  refine wpAny_bind (wpAny_standAt (wpAny_bind ?_))
  show wpAny _ A (do let _ ← comprehension (.ListComp elt [⟨t,iter,ifs,0⟩] scope pos) scope env _ (newList []) false (eval iter env) (some (assign (.Name x px) env))) _ _ s
  refine wpAny_bind (wpAny_mono (wpAny_comprehension_free (use:=some (assign (.Name x px) env)) (Q:=fun _ s'=>Q .next s') rfl (hfs env) c1 hk hnm ?_) (fun _ s' hq=>wpAny_pure (wpAny_pure hq)) fun _ _ e=>e)
  refine zg (RR:=fun acc C=>compPost (model U.prog U.w) A E (some (assign (.Name x px) env)) (fun _ s'=>Q .next s') acc C) h0 ha ht h1 hs hk hso hr so gd l e1 c2 c3 fun C D s5 ρ' st hC g hns vr=>?_
  obtain⟨m,hn⟩:=hns
  have nCR:C∉R:=fun z=>by obtain⟨o,e⟩:=gd.yr C z; exact bB e hC
  have nL:env.locals≠C:=fun z=>nCR (z▸l.Ju)
  have exC:∃ ob,s5.heap.get? C=some ob:=by obtain⟨ob,es,ep,e,_⟩:=hn; exact⟨ob,e⟩
  have lC:cX U.toPg sc env M P ρ' (C::R) s5.heap:=by
    refine l.step st (fun a q => .inr (by rw[List.mem_singleton.mp q]; exact hC)) (fun z=>nL (List.mem_singleton.mp z)) (fun y c e z=>?_) (fun a q=>?_) fun a q=>List.mem_cons_of_mem _ q
    · rw[List.mem_singleton.mp z] at e
      obtain⟨o,e'⟩:=(l.AB y C e).2.2.2
      exact bB e' hC
    · rcases List.mem_cons.mp q with rfl | q
      · exact .inr hC
      · exact .inl q
  have oC:Own true sc env P (C::R):=⟨o.loc,o.vp,fun a q=>List.mem_cons_of_mem _ (o.sub a q)⟩
  show wpAny (model U.prog U.w) A (assign (.Name x px) env (.ref D)) _ _ _
  refine wpAny_assign_Name (rY so g lC oC hx vr fun s6 st6 g6 l6=>?_)
  have hn6:s6.heap.Ns C m:=Heap.Ns.of hn fun ob e=>st6.keep C ob e (fun z=>g.rs C z List.mem_cons_self) fun z=>nCR (o.sub C z)
  refine⟨m,hn6,fun h' hsb=>?_⟩
  obtain⟨g',le⟩:=g6.leave hsb.2 nCR
  have st':Step P ρ s ρ' { s6 with heap:=h',toks:=s6.toks }:=((st.more (W':=C::P) fun a q => .inl (by rw[List.mem_singleton.mp q]; exact List.mem_cons_self)).trans (st6.more (W':=C::P) fun a q => .inl (List.mem_cons_of_mem _ q)) |>.same hsb.2 hC).more fun a q=>by
    rcases List.mem_cons.mp q with rfl | q
    · exact .inr hC
    · exact .inl q
  refine hQ .next _ ρ' st' g' ?_ trivial
  obtain⟨m6,hm6,hv6⟩:=l6.loc
  have ne:∀ {y c},env.cells.lookup y=some c→c≠C:=fun {y c} e z=>by subst z; exact nCR (l.AB y _ e).1
  refine⟨l6.scope,l6.HG,l6.Jd,⟨m6,Heap.Ns.of hm6 fun ob e=>(hsb.2 _ nL).trans e,fun j y v e1 e2=>?_⟩,fun j y k v e1 hk e2=>?_,fun j y e hp=>?_,l.Ju,l6.Js,fun y c e=>?_,l6.Ic⟩
  · obtain⟨val,h1,h2⟩:=hv6 j y v e1 e2
    exact⟨val,h1,h2.mono le⟩
  · obtain⟨c,val,h1,h2,h3⟩:=l6.vp j y k v e1 hk e2
    exact⟨c,val,h1,Heap.IsCell.of h2 fun ob e=>(hsb.2 _ (ne h1)).trans e,h3.mono le⟩
  · obtain⟨c,ob,h1,h2⟩:=l6.own j y e hp
    exact⟨c,ob,h1,Heap.IsCell.of h2 fun ob e=>(hsb.2 _ (ne h1)).trans e⟩
  · obtain⟨h1,h2,h3,ob,h4⟩:=l6.AB y c e
    exact⟨(l.AB y c e).1,h2,h3,ob,(hsb.2 _ (ne e)).trans h4⟩
end
end Mine
end
section
open PySem PySem.W PyProof.Rows PySem.Calls PySem.SeqAt
namespace Mine
section
variable {U:fL}{n:Nat}{sc:Scope}{b:Bool}
theorem tK {wr:List Addr}{ρ:List Hd}{s:Shared}{h':Heap}{tk:Nat} (hk:∀ b o,b∉wr→s.heap.get? b=some o→h'.get? b=some o) (hx:∀ b∈wr,∃ o,h'.get? b=some o):Step wr ρ s ρ { s with heap:=h',toks:=tk }:=by
  refine⟨fun a o e _ hw=>hk a o hw e,fun a o e=>?_,fun _ hd e=>⟨hd,e,rfl⟩,fun _ h => .inl h,rfl,rfl⟩
  by_cases ha:a∈wr
  · exact hx a ha
  · exact⟨o,hk a o ha e⟩
theorem Good.wr {G:Pg}{top:Heap}{ρ:List Hd}{R wr:List Addr}{H:Hp}{s:Shared}{h':Heap} (g:Good G top ρ R H s.heap) (hk:∀ b o,b∉wr→s.heap.get? b=some o→h'.get? b=some o) (hx:∀ b∈wr,∃ o,h'.get? b=some o) (hw:∀ b∈wr,b∈R):Good G top ρ R H h':=
  g.keeps (s':={ s with heap:=h',toks:=s.toks }) (tK hk hx) (fun b q => .inl (hw b q)) (fun _ h => .inl h) (fun b q=>by
    obtain⟨o,e⟩:=g.yr b q; exact(tK (ρ:=ρ) (tk:=s.toks) hk hx).ex b o e) fun b q o e=>hk b o (fun z=>g.rs b q (hw b z)) e
theorem Iter.pI {A:Around}{tgt:PySem.Expr}{I:Addr}{fp wr:List Addr}{l:List V}{m:Nat}{P:Nat→Value→Prop}{St:Nat→Heap→Prop}{dat:Vw→Prop} (W:Walks U.prog U.w A I fp wr m P St) (hm:m=l.length)
    (live:∀ i h,St i h→∀ b∈wr,∃ o,h.get? b=some o) (mono:∀ s s',Vw.Le s s'→dat s→dat s')
    (go:∀ i (s:Shared) v (Q:Unit→Shared→Prop) (E:Value→Shared→Prop),St i s.heap→Q () s→wpAny (model U.prog U.w) A (letOwnedTupleGo tgt (.ref I) v) Q E s)
    (val:∀ i v v0 s,P i v→l[i]? = some v0→dat s→VR U.toPg s v0 v):Iter U A tgt I fp wr l St dat where
  frame:=W.frame
  mono:=mono
  item:=fun i v0 ρ R H s Q E h0 hst g hw hd hQ=>by
    refine W.item i s _ E (by have:=(List.getElem?_eq_some_iff.mp h0).1; omega) hst fun v h' tk hP hst' hk=>⟨v,rfl,go (i + 1) _ _ _ _ hst' ?_⟩
    have st:=tK (ρ:=ρ) (tk:=tk) hk (live _ _ hst')
    exact hQ v _ st (g.wr hk (live _ _ hst') hw) hst' (val i v v0 _ hP h0 (mono _ _ (st.le hw) hd))
  done:=fun s Q E hst hQ=>by
    subst hm
    exact W.done s _ E hst fun h' tk hk=>⟨rfl,hQ h' tk hk⟩
  self:=W.self
noncomputable def drawn:V→Option (List V)
  | .lst l=>some l
  | .tup l=>some l
  | .str s=>some (s.map fun c => .str [c])
  | .jo l=>if l.all (fun e=>e.1.length≤1048576) then some (l.map fun e => .str e.1) else none
  | _=>none
noncomputable def kx (f:EF):IF:=fun M H=>(f M H).bind fun p=>(drawn p.1).map fun l=>(l,p.2)
theorem Jm {G:Pg}{s:Vw}:∀ {l:List (List Nat × V)}{kvs:List (Str × Value)}{i:Nat}{k:Str}{x:Value},ER G s l kvs→kvs[i]? = some (k,x)→∃ v,l[i]? = some (k.cps.toList,v)
  | _,_,_,_,_, .nil,h=>by cases h
  | _,_,0,_,_, .cons _ _,h=>by cases h; exact⟨_,rfl⟩
  | _,_,i + 1,_,_, .cons _ r,h=>by
    obtain⟨v,e⟩:=Jm r (by simpa using h)
    exact⟨v,by simpa using e⟩
theorem Ai {G:Pg}{s:Vw}:∀ {l:List (List Nat × V)}{kvs:List (Str × Value)},ER G s l kvs→kvs.length=l.length
  | _,_, .nil=>rfl
  | _,_, .cons _ r=>congrArg (· + 1) (Ai r)
theorem sT {A:Around}{tgt:PySem.Expr}{ρ:List Hd}{R:List Addr}{H:Hp}{l:List V}{s:Shared}{o:Obj}{ax:Addr}{ob:Obj}{St:Nat→Heap→Prop}{dat:Vw→Prop} (g:Good U.toPg U.top ρ R H s.heap) (hf:o.isFreed=false) (fx:Vw.Fix ⟨s.heap,ρ,R⟩ ax ob)
    (W:Iter U A tgt s.heap.objs.size [s.heap.objs.size,ax] [s.heap.objs.size] l St dat) (hst:St 0 (s.heap.push o)) (hd:dat ⟨s.heap,ρ,R⟩):Bp U A tgt ρ R l s { s with heap:=s.heap.push o } (.ref s.heap.objs.size):=by
  have hn:s.heap.get? s.heap.objs.size=none:=Heap.get?_none_of_le (Nat.le_refl _)
  have hx:∀ b∈[s.heap.objs.size],∃ o',(s.heap.push o).get? b=some o':=fun b q=>by rw[List.mem_singleton.mp q]; exact⟨o,Heap.get?_push_size _ hf⟩
  obtain⟨g2,le,_⟩:=F0 (tk:=s.toks) g cN (fun b q=>by rw[List.mem_singleton.mp q]; exact hn) hx
  refine⟨_,_,_,_,_,_,s.toks,rfl,rfl,cN,fun b q=>by rw[List.mem_singleton.mp q]; exact hn,hx,W,hst,W.mono _ _ le hd,fun b q=>?_⟩
  rcases List.mem_cons.mp q with rfl | q
  · exact .inl List.mem_cons_self
  · exact .inr ⟨ob,by rw[List.mem_singleton.mp q]; exact le.fix ax ob fx⟩
theorem qU {A:Around}{tgt:PySem.Expr}{ρ:List Hd}{R:List Addr}{H:Hp}{l:List V}{s:Shared}{o:Obj}{St:Nat→Heap→Prop}{dat:Vw→Prop} (g:Good U.toPg U.top ρ R H s.heap) (hf:o.isFreed=false)
    (W:Iter U A tgt s.heap.objs.size [s.heap.objs.size] [s.heap.objs.size] l St dat) (hst:St 0 (s.heap.push o)) (hd:dat ⟨s.heap,ρ,R⟩):Bp U A tgt ρ R l s { s with heap:=s.heap.push o } (.ref s.heap.objs.size):=by
  have hn:s.heap.get? s.heap.objs.size=none:=Heap.get?_none_of_le (Nat.le_refl _)
  have hx:∀ b∈[s.heap.objs.size],∃ o',(s.heap.push o).get? b=some o':=fun b q=>by rw[List.mem_singleton.mp q]; exact⟨o,Heap.get?_push_size _ hf⟩
  obtain⟨g2,le,_⟩:=F0 (tk:=s.toks) g cN (fun b q=>by rw[List.mem_singleton.mp q]; exact hn) hx
  exact⟨_,_,_,_,_,_,s.toks,rfl,rfl,cN,fun b q=>by rw[List.mem_singleton.mp q]; exact hn,hx,W,hst,W.mono _ _ le hd,fun b q => .inl q⟩
theorem xY {A:Around}{tgt:PySem.Expr}{ρ:List Hd}{R:List Addr}{H:Hp}{l:List V}{s:Shared}{a:Addr}{xs:List Value}{m:LN}{Q:Value→Shared→Prop}{E:Value→Shared→Prop} (hr:A.handled=none) (g:Good U.toPg U.top ρ R H s.heap) (fx:Vw.Fix ⟨s.heap,ρ,R⟩ a (ny xs m)) (hv:eZ U.toPg ⟨s.heap,ρ,R⟩ l xs)
    (hgo:(∀ it v,letOwnedTupleGo tgt it v=pure ())∨∃ elts k pos,tgt = .Tuple elts k pos) (hQ:∀ it s',Bp U A tgt ρ R l s s' it→Q it s'):wpAny (model U.prog U.w) A (pyIter (.ref a)) Q E s:=by
  have hl:=bD fx.1
  refine wpAny_pyIter_list hl (hQ _ _ ?_)
  have hlt:=Heap.lt_size fx.1
  have W:=Walks.list (prog:=U.prog) (w:=U.w) hr s.heap.objs.size a (Nat.ne_of_lt hlt) xs.toArray
  refine sT g rfl fx (Iter.pI (dat:=fun vw=>eZ U.toPg vw l xs) W (by rw[List.size_toArray]; exact hv.length) (fun i h st b q=>?_) (fun s s' le d=>d.mono le) (fun i s' v Q' E' st q=>?_) fun i v v0 vw hP h0 d=>?_) ⟨⟨_,Heap.get?_push_size _ rfl,rfl,rfl⟩,bD (Heap.get?_push_of_some _ fx.1)⟩ hv
  · obtain⟨o,e,_⟩:=st.1; rw[List.mem_singleton.mp q]; exact⟨o,e⟩
  · rcases hgo with hgo | ⟨elts,k,pos,rfl⟩
    · rw[hgo]; exact wpAny_pure q
    · cases v with
      | ref T=>exact wpAny_letOwnedTupleGo_listiter st.1 q
      | _=>exact wpAny_pure q
  · obtain⟨x,h1,h2⟩:=d.get h0
    have:v=x:=by
      have hP':xs[i]? = some v:=by simpa using hP
      rw[h1] at hP'; exact(Option.some.inj hP').symm
    rw[this]; exact h2
theorem I.val {tgt e:PySem.Expr}{f:EF} (h:aA U n sc e f) (hgo:∀ it v,letOwnedTupleGo tgt it v=pure ():=by exact fun _ _=>rfl):pX U n sc tgt e (kx f):=by
  intro A env M P ρ R H s Q E l H' hr so gd lr hf hQ
  refine bf hf fun v H1 e1 hf=>?_
  refine fJ hf fun l' e2 hf=>?_
  cases hf
  refine h A env M P ρ R H s _ E v H1 hr so gd lr e1 fun x s1 ρ1 st1 g1 va=>?_
  refine cps fun CC KK=>?_
  dsimp only at e2
  cases v with
  | lst l0=>
    cases e2
    refine ke va fun a xs m e_3 fx hz hv=>?_
    subst e_3
    exact KK (xY hr.hd g1 fx hv (.inl hgo) fun it s' hb=>hQ it s1 ρ1 s' st1 g1 hb)
  | tup l0=>
    cases e2
    refine qa va fun a xs m e_3 fx hz hv=>?_
    subst e_3
    refine KK (wpAny_pyIter_tuple ⟨_,fx.1,rfl,_,rfl⟩ (hQ _ s1 ρ1 _ st1 g1 ?_))
    have hlt:=Heap.lt_size fx.1
    have W:=Walks.tuple (prog:=U.prog) (w:=U.w) hr.hd s1.heap.objs.size a (Nat.ne_of_lt hlt) xs.toArray
    refine sT g1 rfl fx (Iter.pI (dat:=fun vw=>eZ U.toPg vw _ xs) W (by rw[List.size_toArray]; exact hv.length) (fun i h st b q=>?_) (fun s s' le d=>d.mono le) (fun i s' v Q' E' st q=>by rw[hgo]; exact wpAny_pure q) fun i v v0 vw hP h0 d=>?_) ⟨⟨_,Heap.get?_push_size _ rfl,rfl,rfl⟩,⟨_,Heap.get?_push_of_some _ fx.1,rfl,_,rfl⟩⟩ hv
    · obtain⟨o,e,_⟩:=st.1; rw[List.mem_singleton.mp q]; exact⟨o,e⟩
    · obtain⟨x,h1,h2⟩:=d.get h0
      have:v=x:=by
        have hP':xs[i]? = some v:=by simpa using hP
        rw[h1] at hP'; exact(Option.some.inj hP').symm
      rw[this]; exact h2
  | str s0=>
    cases e2
    refine ee va fun y t e_2 hy hz=>?_
    subst e_2
    have hv:∀ (i:Nat) (v:Value) (v0:V) (s:Vw),SignAt y i v→(s0.map fun c=>V.str [c])[i]? = some v0→True→VR U.toPg s v0 v:=fun i v v0 s hP h0 _=>by
      obtain⟨c,u,h1,rfl⟩:=hP
      rw[List.getElem?_map] at h0
      refine fJ h0 fun c' h2 e_2=>?_
      subst e_2
      rw[← hy] at h2
      have:c'=c:=by
        rw[Array.getElem?_toList,h1] at h2
        exact(Option.some.inj h2).symm
      subst this
      exact .str ⟨#[c']⟩ u (by show 1≤_; omega)
    have hlen:y.cps.size=(s0.map fun c=>V.str [c]).length:=by rw[List.length_map,← hy,Array.length_toList]
    cases ha:y.cps.all (· < 128)
    · refine KK (wpAny_pyIter_wide ha (hQ _ s1 ρ1 _ st1 g1 ?_))
      refine qU g1 rfl (Iter.pI (dat:=fun _=>True) (Walks.strWide hr.hd s1.heap.objs.size y t) hlen (fun i h st b q=>?_) (fun _ _ _ _=>trivial) (fun i s' v Q' E' st q=>by rw[hgo]; exact wpAny_pure q) hv) ⟨_,Heap.get?_push_size _ rfl,rfl,rfl⟩ trivial
      obtain⟨o,e,_⟩:=st; rw[List.mem_singleton.mp q]; exact⟨o,e⟩
    · refine KK (wpAny_pyIter_ascii ha (hQ _ s1 ρ1 _ st1 g1 ?_))
      refine qU g1 rfl (Iter.pI (dat:=fun _=>True) (Walks.strAscii hr.hd s1.heap.objs.size y t) hlen (fun i h st b q=>?_) (fun _ _ _ _=>trivial) (fun i s' v Q' E' st q=>by rw[hgo]; exact wpAny_pure q) hv) ⟨_,Heap.get?_push_size _ rfl,rfl,rfl⟩ trivial
      obtain⟨o,e,_⟩:=st; rw[List.mem_singleton.mp q]; exact⟨o,e⟩
  | jo l0=>
    simp only[drawn] at e2
    split at e2
    rotate_left
    · cases e2
    rename_i hks
    cases e2
    cases va with
    | jo fx hm hi hz hv=>
      rename_i a o kvs
      obtain⟨es,ep,e1',r1,r2,r3,r4⟩:=hi
      have hA:∀ {h:Heap},h.get? a=some o→h.DictAt (PySem.strKind U.prog U.w) a kvs ep:=fun e=>⟨o,es,e,e1',r1,r2,r3,r4⟩
      refine KK (wpAny_pyIter_dict (knd:=PySem.strKind U.prog U.w) (by simpa using hm) (hA fx.1) (hQ _ s1 ρ1 _ st1 g1 ?_))
      have hlt:=Heap.lt_size fx.1
      refine sT g1 rfl fx (Iter.pI (dat:=fun vw=>ER U.toPg vw l0 kvs) (Walks.dictKeys (knd:=PySem.strKind U.prog U.w) hr.hd s1.heap.objs.size a (Nat.ne_of_lt hlt) kvs ep) (by rw[List.length_map]; exact Ai hv) (fun i h st b q=>?_) (fun s s' le d=>d.mono le) (fun i s' v Q' E' st q=>by rw[hgo]; exact wpAny_pure q) fun i v v0 vw hP h0 d=>?_)
        ⟨⟨_,Heap.get?_push_size _ rfl,rfl,rfl⟩,hA (Heap.get?_push_of_some _ fx.1)⟩ hv
      · obtain⟨o,e,_⟩:=st.1; rw[List.mem_singleton.mp q]; exact⟨o,e⟩
      · obtain⟨k,x,h1,h2⟩:=hP
        obtain⟨t,rfl⟩:=Value.isStrOf_shape h2
        obtain⟨w,h3⟩:=Jm d h1
        rw[List.getElem?_map,h3] at h0
        cases h0
        refine .str k t ?_
        rw[List.all_eq_true] at hks
        have:=hks _ (List.mem_of_getElem? h3)
        simpa using this
  | _=>cases e2
end
end Mine
end
section
open PySem PySem.W PyProof.Rows PySem.Calls PySem.SeqAt
namespace Mine
section
variable {U:fL}{n:Nat}{sc:Scope}{b:Bool}
structure Boot (U:fL) (x:Str) (callee:Value):Prop where
  free:nsIn U.K mainGlobals x=some none
  is:bootBuiltins x=some callee
  ne:x≠"__name__"
  kept:Kept U callee
noncomputable def oo (e:PySem.Expr) (es:List PySem.Expr):Prop:=∀ env,starEach (e::es) env=(false,eval e env)::starEach es env
theorem pz {i:Nat}{x:Str}{p pos:Pos}{e:PySem.Expr}{es:List PySem.Expr}{callee:Value}{g:LF} (h:sc.names[i]? = some (x, .globalImplicit)) (hb:Boot U x callee) (hL:iz U n sc (e::es) g) (he:oo e es)
    {A:Around}{env:Env}{M:Loc}{P:List Addr}{ρ:List Hd}{R:List Addr}{H:Hp}{s:Shared}{Q:Value→Shared→Prop}{E:Value→Shared→Prop}{vs:List V}{H':Hp}
    (hr:ij n A) (so:jX sc) (gd:Good U.toPg U.top ρ R H s.heap) (lr:cX U.toPg sc env M P ρ R s.heap) (hf:g M H=some (vs,H'))
    (hQ:∀ xs s' ρ',Step [] ρ s ρ' s'→Good U.toPg U.top ρ' R H' s'.heap→eZ U.toPg ⟨s'.heap,ρ',R⟩ vs xs→wpAny (model U.prog U.w) A (call callee xs) Q E s'):
    wpAny (model U.prog U.w) A (eval (.Call (.Name x p) (e::es) [] pos) env) Q E s:=
  wpAny_Call_NameR (wc h so gd lr hb.free hb.is hb.ne (js hb.kept hL (he env) hr so gd lr hf fun xs s1 ρ1 st1 g1 vb=>hQ xs s1 ρ1 st1 g1 vb))
noncomputable def pH (f:EF):IF:=fun M H=>(f M H).bind fun p=>match p.1 with
  | .lst l=>some (l,p.2)
  | _=>none
theorem I.yQ {e:PySem.Expr}{elts:List PySem.Expr}{k:Nat}{tp:Pos}{f:EF} (h:aA U n sc e f):pX U n sc (.Tuple elts k tp) e (pH f):=by
  intro A env M P ρ R H s Q E l H' hr so gd lr hf hQ
  refine bf hf fun v H1 e1 hf=>?_
  refine h A env M P ρ R H s _ E v H1 hr so gd lr e1 fun x s1 ρ1 st1 g1 va=>?_
  dsimp only at hf
  split at hf
  · cases hf
    refine ke va fun a xs m e_3 fx hz hv=>?_
    subst e_3
    exact xY hr.hd g1 fx hv (.inr ⟨_,_,_,rfl⟩) fun it s' hb=>hQ it s1 ρ1 s' st1 g1 hb
  · cases hf
noncomputable def upTo (k:Int):List V:=(List.range k.toNat).map fun i=>V.int (i:Nat)
noncomputable def qZ (k:Int):List V:=(List.range (k + 1).toNat).map fun i=>V.int (k - (i:Nat))
noncomputable def gt (g:LF):IF:=fun M H=>(g M H).bind fun p=>match p.1 with
  | [.int k]=>if 0≤k∧k < 1048576 then some (upTo k,p.2) else none
  | [.int k, .int m, .int c]=>if m=-1∧c=-1∧-1≤k∧k < 1048576 then some (qZ k,p.2) else none
  | _=>none
theorem u0 {A:Around}{tgt:PySem.Expr}{ρ:List Hd}{R:List Addr}{H:Hp}{s:Shared}{r:Addr}{a c e:Int}{t u v:Tok}{m:Nat}{Q:Value→Shared→Prop}{E:Value→Shared→Prop} (hr:A.handled=none) (g:Good U.toPg U.top ρ R H s.heap)
    (hr':IsRange s.heap r a e c t u v) (hs:Builtin.Range.small a e c=true) (hm:Builtin.Range.rangeSize a e c=m) (hgo:∀ it v,letOwnedTupleGo tgt it v=pure ())
    (hQ:∀ it s',Bp U A tgt ρ R ((List.range m).map fun i=>V.int (a + (i:Nat) * c)) s s' it→Q it s'):wpAny (model U.prog U.w) A (pyIter (.ref r)) Q E s:=by
  refine wpAny_pyIter_range hr' hs (hQ _ _ ?_)
  refine qU g rfl (Iter.pI (dat:=fun _=>True) (Walks.range hr s.heap.objs.size a c m) (by simp) (fun i h st b q=>?_) (fun _ _ _ _=>trivial) (fun i s' v Q' E' st q=>by rw[hgo]; exact wpAny_pure q) fun i v v0 vw hP h0 _=>?_) ?_ trivial
  · rw[List.mem_singleton.mp q]; exact⟨_,st⟩
  · obtain⟨t,rfl⟩:=hP
    rw[List.getElem?_map] at h0
    refine fJ h0 fun j h1 e_2=>?_
    subst e_2
    obtain⟨h2,h3⟩:=List.getElem?_eq_some_iff.mp h1
    have:j=i:=by rw[← h3,List.getElem_range]
    subst this
    exact .int _ _
  · show IsRangeIter (s.heap.push _) s.heap.objs.size (a + (0:Nat) * c) ((m:Int) - (0:Nat)) c
    have e0:a + ((0:Nat):Int) * c=a:=by simp
    have e1:(m:Int) - ((0:Nat):Int)=m:=by simp
    rw[e0,e1,← hm]
    exact Heap.get?_push_size _ rfl
theorem BX (k:Int) (h:k < 1048576) (h0:0≤k):Builtin.Range.small 0 k 1=true∧Builtin.Range.rangeSize 0 k 1=k.toNat:=by
  refine⟨small_one (by decide) (by decide) (Int.le_trans (by decide) h0) (Int.lt_trans h (by decide)),(rangeSize_one 0 k).trans ?_⟩
  rw[Int.toNat_of_nonneg h0,Int.sub_zero]
  exact ite_eq_left_iff.mpr fun q=>(Int.le_antisymm h0 (Int.not_lt.mp q))
theorem small_down (k:Int) (h:k < 1048576) (h0:-1≤k):Builtin.Range.small k (-1) (-1)=true∧Builtin.Range.rangeSize k (-1) (-1)=(k + 1).toNat:=
  ⟨PySem.W.small_down (Int.le_trans (by decide) h0) (Int.lt_trans h (by decide)) (by decide) (by decide),PySem.W.rangeSize_downNat k (-1)⟩
theorem I.range {tgt:PySem.Expr}{i:Nat}{x:Str}{p pos:Pos}{e:PySem.Expr}{es:List PySem.Expr}{g:LF} (h:sc.names[i]? = some (x, .globalImplicit)) (hb:Boot U x (.type "range")) (hL:iz U n sc (e::es) g) (he:oo e es)
    (hgo:∀ it v,letOwnedTupleGo tgt it v=pure ()):pX U n sc tgt (.Call (.Name x p) (e::es) [] pos) (gt g):=by
  intro A env M P ρ R H s Q E l H' hr so gd lr hf hQ
  refine bf hf fun vs H1 e1 hf=>?_
  refine pz h hb hL he hr so gd lr e1 fun xs s1 ρ1 st1 g1 va=>?_
  dsimp only at hf
  split at hf
  · split at hf
    · cases hf
      cases va with | cons v1 v2=>cases v2 with | nil=>
      obtain⟨t,rfl⟩:=gJ v1
      rename_i k hk
      obtain⟨h1,h2⟩:=BX k hk.2 hk.1
      refine call_range_1 ?_
      have g2:=g1.push (o:={ cls := .type "range",data := .fields #[.int 0 s1.toks, .int k t, .int 1 (s1.toks + 1)] }) (tk:=s1.toks + 1 + 1)
      refine u0 (a:=0) (c:=1) (e:=k) (m:=k.toNat) hr.hd g2 (Heap.get?_push_size _ rfl) h1 h2 hgo fun it s' hbg=>hQ it _ ρ1 s' (st1.trans (iS (tk:=s1.toks + 1 + 1))) g2 ?_
      have e:(List.range k.toNat).map (fun i=>V.int (0 + (i:Nat) * 1))=upTo k:=by unfold upTo; congr 1; funext i; congr 1; omega
      rw[← e]; exact hbg
    · cases hf
  · split at hf
    · rename_i k m c hk
      obtain⟨rfl,rfl,h3,h4⟩:=hk
      cases hf
      cases va with | cons v1 v2=>cases v2 with | cons v2 v3=>cases v3 with | cons v3 v4=>cases v4 with | nil=>
      obtain⟨t,rfl⟩:=gJ v1
      obtain⟨u,rfl⟩:=gJ v2
      obtain⟨v,rfl⟩:=gJ v3
      obtain⟨h1,h2⟩:=small_down k h4 h3
      refine call_range_3 (by decide) ?_ (Or.inl (PyProof.noPylong_small (by omega)))
      have g2:=g1.push (o:={ cls := .type "range",data := .fields #[.int k t, .int (-1) u, .int (-1) v] }) (tk:=s1.toks)
      refine u0 (a:=k) (c:=-1) (e:=-1) (m:=(k + 1).toNat) hr.hd g2 (Heap.get?_push_size _ rfl) h1 h2 hgo fun it s' hbg=>hQ it _ ρ1 s' (st1.trans (iS (tk:=s1.toks))) g2 ?_
      have e:(List.range (k + 1).toNat).map (fun i=>V.int (k + (i:Nat) * (-1)))=qZ k:=by unfold qZ; congr 1; funext i; congr 1; omega
      rw[← e]; exact hbg
    · cases hf
  · cases hf
noncomputable def numbered:Nat→List V→List V
  | _,[]=>[]
  | i,v::l => .tup [.int i,v]::numbered (i + 1) l
theorem u8:∀ {l:List V}{j i:Nat}{v:V},(numbered i l)[j]? = some v→∃ w,l[j]? = some w∧v = .tup [.int (i + j:Nat),w]
  | [],_,_,_,h=>by cases h
  | w::l,0,i,v,h=>by cases h; exact⟨w,rfl,rfl⟩
  | w::l,j + 1,i,v,h=>by
    obtain⟨u,h1,h2⟩:=u8 (l:=l) (j:=j) (i:=i + 1) (by simpa [numbered] using h)
    exact⟨u,by simpa using h1,by rw[h2,show i + 1 + j=i + (j + 1) by omega]⟩
theorem t9:∀ (l:List V) (i:Nat),(numbered i l).length=l.length
  | [],_=>rfl
  | _::l,i=>congrArg (· + 1) (t9 l (i + 1))
noncomputable def u4 (g:LF):IF:=fun M H=>(g M H).bind fun p=>match p.1 with
  | [.lst l]=>some (numbered 0 l,p.2)
  | _=>none
theorem Fm {A:Around}{l:List V}{xs:List Value}{e it a:Addr}{elts:List PySem.Expr}{k:Nat}{tp:Pos}{m:LN} (hh:A.handled=none) (hei:e≠it) (hea:e≠a) (hia:a≠it) (hlen:xs.length=l.length):
    Iter U A (.Tuple elts k tp) e [e,it,a] [e,it] (numbered 0 l) (fun i h=>(∃ old,IsEnum h e it i old)∧h.IsListIter it a i∧h.get? a=some (ny xs m)) (fun vw=>eZ U.toPg vw l xs) where
  frame:=fun i h h' st hk=>by
    obtain⟨⟨old,he⟩,hs,ha⟩:=st
    exact⟨⟨old,hk e (by simp) _ he⟩,hs.at fun o x=>hk it (by simp) o x,hk a (by simp) _ ha⟩
  mono:=fun s s' le d=>d.mono le
  item:=fun i v0 ρ R H s Q E h0 st g hw hd hQ=>cps fun CC KK=>by
    obtain⟨⟨old,he⟩,hs,ha⟩:=st
    obtain⟨w,h1,rfl⟩:=u8 h0
    have hlt:i < l.length:=(List.getElem?_eq_some_iff.mp h1).1
    obtain⟨x,hx,rx⟩:=hd.get h1
    have D:=Draws.list (prog:=U.prog) (w:=U.w) (A:=A.in1) (by show A.handled=none; exact hh) it a hia xs.toArray
    refine KK (wpAny_pyNext_enum_itemD (n:=xs.toArray.size) D he ⟨hs,bD ha⟩ (by rw[List.size_toArray]; omega) hei (by simp[hei,hea]) fun x' h' tk hP ho hst' hT hsz hk=>⟨_,rfl,?_⟩)
    have ex:x'=x:=by
      have hP':xs[i]? = some x':=by simpa using hP
      rw[hx] at hP'; exact(Option.some.inj hP').symm
    subst ex
    have hn:s.heap.get? s.heap.objs.size=none:=Heap.get?_none_of_le (Nat.le_refl _)
    refine wpAny_letOwnedTupleGo_enum ho fun h2 he2 hs2=>?_
    have helt:=Heap.lt_size he
    have k2:∀ b o,b∉[e,it]→s.heap.get? b=some o→h2.get? b=some o:=fun b o hb e'=>by
      simp only[List.mem_cons,List.not_mem_nil,or_false,not_or] at hb
      exact(hs2.2 b hb.1).trans (hk b o hb.1 hb.2 e')
    have hst2:(∃ old,IsEnum h2 e it ((i + 1:Nat):Int) old)∧h2.IsListIter it a (i + 1)∧h2.get? a=some (ny xs m):=⟨⟨_,by simpa using he2⟩,hst'.1.extBut hs2.extBut (Ne.symm hei),k2 a _ (by simp[Ne.symm hea,hia]) ha⟩
    have live:∀ b∈[e,it],∃ o,h2.get? b=some o:=fun b hb=>by
      simp only[List.mem_cons,List.not_mem_nil,or_false] at hb
      rcases hb with rfl | rfl
      · exact⟨_,he2⟩
      · obtain⟨o,eo,_⟩:=hst2.2.1; exact⟨o,eo⟩
    have st2:=tK (ρ:=ρ) (tk:=tk + 1) k2 live
    have g2:=g.wr k2 live hw
    refine hQ _ _ st2 g2 hst2 (.tup (n:=0) (xs:=[.int (i:Nat) tk,x']) ?_ (by simp) (.cons (by rw[Nat.zero_add]; exact .int _ _) (.cons (rx.mono (st2.le hw)) .nil)))
    refine⟨?_,fun q=>?_,fun q=>?_⟩
    · exact(hs2.2 _ (fun z=>by rw[← z] at helt; exact Nat.lt_irrefl _ helt)).trans hT
    · obtain⟨o,eo⟩:=g.lt _ q; exact bB eo hn
    · obtain⟨o,eo⟩:=g.yr _ q; exact bB eo hn
  done:=fun s Q E st hQ=>by
    obtain⟨⟨old,he⟩,hs,ha⟩:=st
    have D:=Draws.list (prog:=U.prog) (w:=U.w) (A:=A.in1) (by show A.handled=none; exact hh) it a hia xs.toArray
    rw[t9,← hlen] at hs
    refine wpAny_pyNext_enum_endD (n:=xs.toArray.size) D he ⟨by rw[List.size_toArray]; exact hs,bD ha⟩ fun h' hx=>⟨rfl,hQ h' s.toks fun b o hb e'=>hx b o (fun z=>hb (by simp[z])) e'⟩
  self:=fun i s Q E st h=>by
    obtain⟨⟨old,he⟩,_⟩:=st
    exact wpAny_pyIter_enum he h
theorem I.enum {elts:List PySem.Expr}{k:Nat}{tp:Pos}{i:Nat}{x:Str}{p pos:Pos}{e:PySem.Expr}{g:LF} (h:sc.names[i]? = some (x, .globalImplicit)) (hb:Boot U x (.type "enumerate")) (hL:iz U n sc [e] g) (he:oo e []):
    pX U n sc (.Tuple elts k tp) (.Call (.Name x p) [e] [] pos) (u4 g):=by
  intro A env M P ρ R H s Q E l H' hr so gd lr hf hQ
  refine bf hf fun vs H1 e1 hf=>?_
  refine pz h hb hL he hr so gd lr e1 fun xs s1 ρ1 st1 g1 va=>?_
  refine cps fun CC KK=>?_
  dsimp only at hf
  split at hf
  · cases hf
    rename_i l0
    cases va with | cons v1 v2=>cases v2 with | nil=>
    refine ke v1 fun a ys m e_3 fx hz hv=>?_
    subst e_3
    refine KK (call_enumerate_list (bD fx.1) fun h' h1 h2 h3 h4=>?_)
    refine wpAny_pyIter_enum h1 (hQ _ s1 ρ1 _ st1 g1 ?_)
    have alt:=Heap.lt_size fx.1
    have hw:∀ b∈[s1.heap.objs.size + 1,s1.heap.objs.size],s1.heap.get? b=none:=fun b q=>by
      simp only[List.mem_cons,List.not_mem_nil,or_false] at q
      rcases q with rfl | rfl
      · exact Heap.get?_none_of_le (Nat.le_succ _)
      · exact Heap.get?_none_of_le (Nat.le_refl _)
    have hx:∀ b∈[s1.heap.objs.size + 1,s1.heap.objs.size],∃ o,h'.get? b=some o:=fun b q=>by
      simp only[List.mem_cons,List.not_mem_nil,or_false] at q
      rcases q with rfl | rfl
      · exact⟨_,h1⟩
      · obtain⟨o,eo,_⟩:=h2; exact⟨o,eo⟩
    refine wP (tk:=s1.toks) g1 h4 hw hx fun _ le _=>?_
    refine⟨_,_,_,_,_,h',s1.toks,rfl,rfl,h4,hw,hx,Fm (m:=m) (it:=s1.heap.objs.size) (a:=a) hr.hd (Ne.symm Lq) (Ne.symm (ne1 alt)) (LV alt) hv.length,⟨⟨_,h1⟩,h2,h4 _ _ fx.1⟩,hv.mono le,fun b q=>?_⟩
    simp only[List.mem_cons,List.not_mem_nil,or_false] at q
    rcases q with rfl | rfl | rfl
    · exact .inl (by simp)
    · exact .inl (by simp)
    · exact .inr ⟨_,le.fix _ _ fx⟩
  · cases hf
end
end Mine
end
section
open PySem PySem.W PyProof.Rows PySem.Calls PySem.SeqAt
namespace Mine
section
variable {U:fL}{n:Nat}{sc:Scope}{b:Bool}
noncomputable def pq:List V→List V→List V
  | v::l,w::l' => .tup [v,w]::pq l l'
  | _,_=>[]
theorem zn:∀ {l l':List V}{j:Nat}{v:V},(pq l l')[j]? = some v→∃ x y,l[j]? = some x∧l'[j]? = some y∧v = .tup [x,y]
  | [],_,_,_,h=>by cases h
  | _::_,[],_,_,h=>by cases h
  | x::l,y::l',0,v,h=>by cases h; exact⟨x,y,rfl,rfl,rfl⟩
  | x::l,y::l',j + 1,v,h=>by
    obtain⟨a,c,h1,h2,h3⟩:=zn (l:=l) (l':=l') (j:=j) (by simpa [pq] using h)
    exact⟨a,c,by simpa using h1,by simpa using h2,h3⟩
theorem xG:∀ {l l':List V},l.length=l'.length→(pq l l').length=l.length
  | [],[],_=>rfl
  | _::l,_::l',h=>congrArg (· + 1) (xG (by simpa using h))
noncomputable def Ks (g:LF):IF:=fun M H=>(g M H).bind fun p=>match p.1 with
  | [.lst l, .lst l']=>if l.length=l'.length then some (pq l l',p.2) else none
  | _=>none
theorem GA {A:Around}{l l':List V}{xs ys:List Value}{z TI TO i1 i2 a1 a2:Addr}{elts:List PySem.Expr}{k:Nat}{tp:Pos}{m1 m2:LN} (hh:A.handled=none) (D:ZipApart z TI TO i1 i2 a1 a2) (h1:xs.length=l.length) (h2:ys.length=l'.length) (hl:l.length=l'.length) (nTI1:a1≠TI) (nTI2:a2≠TI):
    Iter U A (.Tuple elts k tp) z [z,TI,TO,i1,i2,a1,a2] [z,TI,TO,i1,i2] (pq l l') (fun i h=>IsZip h z TI TO .none∧IsPair h TI (.ref i1) (.ref i2)∧(∃ a b,IsPair h TO a b)∧h.IsListIter i1 a1 i∧h.IsListIter i2 a2 i∧h.get? a1=some (ny xs m1)∧h.get? a2=some (ny ys m2)) (fun vw=>eZ U.toPg vw l xs∧eZ U.toPg vw l' ys) where
  frame:=fun i h h' st hk=>by
    obtain⟨s1,s2,⟨a,b,s3⟩,s4,s5,s6,s7⟩:=st
    exact⟨hk z (by simp) _ s1,hk TI (by simp) _ s2,⟨a,b,hk TO (by simp) _ s3⟩,s4.at fun o x=>hk i1 (by simp) o x,s5.at fun o x=>hk i2 (by simp) o x,hk a1 (by simp) _ s6,hk a2 (by simp) _ s7⟩
  mono:=fun s s' le d=>⟨d.1.mono le,d.2.mono le⟩
  item:=fun i v0 ρ R H s Q E h0 st g hw hd hQ=>cps fun CC KK=>by
    obtain⟨s1,s2,⟨a,b,s3⟩,s4,s5,s6,s7⟩:=st
    obtain⟨v,w,q1,q2,rfl⟩:=zn h0
    obtain⟨x,hx,rx⟩:=hd.1.get q1
    obtain⟨y,hy,ry⟩:=hd.2.get q2
    refine KK (wpAny_pyNext_zip_item D s1 s2 s3 s4 s5 (bD s6) (bD s7) (x:=x) (y:=y) (by simpa using hx) (by simpa using hy) fun h' t1 t3 t4 t5 t6 t7 t8=>⟨_,rfl,?_⟩)
    have hn:s.heap.get? s.heap.objs.size=none:=Heap.get?_none_of_le (Nat.le_refl _)
    refine wpAny_letOwnedTupleGo_zip t1 fun h2 u1 u2=>cps fun CC2 K2=>?_
    have hk:∀ c o,c∉[z,TI,TO,i1,i2]→s.heap.get? c=some o→h2.get? c=some o:=fun c o hc e=>by
      simp only[List.mem_cons,List.not_mem_nil,or_false,not_or] at hc
      exact(u2.2 c hc.1).trans (t8 c o hc.1 hc.2.2.1 hc.2.2.2.1 hc.2.2.2.2 e)
    have hTI:IsPair h2 TI (.ref i1) (.ref i2):=(u2.2 TI D.TIz).trans (t8 TI _ D.TIz D.TITO D.TIi1 D.TIi2 s2)
    have hst2:IsZip h2 z TI TO .none∧IsPair h2 TI (.ref i1) (.ref i2)∧(∃ a b,IsPair h2 TO a b)∧h2.IsListIter i1 a1 (i + 1)∧h2.IsListIter i2 a2 (i + 1)∧h2.get? a1=some (ny xs m1)∧h2.get? a2=some (ny ys m2):=
      ⟨u1,hTI,⟨x,y,(u2.2 TO D.TOz).trans t3⟩,t4.extBut u2.extBut D.i1z,t5.extBut u2.extBut D.i2z,(u2.2 a1 D.l1z).trans (t8 a1 _ D.l1z D.l1TO D.l1i1 D.l1i2 s6),(u2.2 a2 D.l2z).trans (t8 a2 _ D.l2z D.l2TO D.l2i1 D.l2i2 s7)⟩
    have live:∀ b∈[z,TI,TO,i1,i2],∃ o,h2.get? b=some o:=fun c hc=>by
      simp only[List.mem_cons,List.not_mem_nil,or_false] at hc
      obtain⟨r1,r2,⟨_,_,r3⟩,⟨o4,r4,_⟩,⟨o5,r5,_⟩,_⟩:=hst2
      rcases hc with rfl | rfl | rfl | rfl | rfl
      · exact⟨_,r1⟩
      · exact⟨_,r2⟩
      · exact⟨_,r3⟩
      · exact⟨_,r4⟩
      · exact⟨_,r5⟩
    have st2:=tK (ρ:=ρ) (tk:=s.toks) hk live
    have g2:=g.wr hk live hw
    have zlt:=Heap.lt_size s1
    refine K2 (hQ _ _ st2 g2 hst2 (.tup (n:=0) (xs:=[x,y]) ⟨(u2.2 _ fun q=>Nat.lt_irrefl _ (q▸zlt)).trans t6,fun q=>?_,fun q=>?_⟩ (by simp) (.cons (rx.mono (st2.le hw)) (.cons (ry.mono (st2.le hw)) .nil))))
    · obtain⟨o,eo⟩:=g.lt _ q; exact bB eo hn
    · obtain⟨o,eo⟩:=g.yr _ q; exact bB eo hn
  done:=fun s Q E st hQ=>cps fun CC KK=>by
    obtain⟨s1,s2,⟨a,b,s3⟩,s4,s5,s6,s7⟩:=st
    rw[xG hl] at s4 s5
    refine KK (wpAny_pyNext_zip_end hh D s1 s2 s3 s4 s5 (bD s6) (bD s7) (.inl (by simp[h1])) fun h' hk=>⟨rfl,hQ h' s.toks fun c o hc e=>?_⟩)
    simp only[List.mem_cons,List.not_mem_nil,or_false,not_or] at hc
    exact hk c o hc.1 hc.2.2.1 hc.2.2.2.1 hc.2.2.2.2 e
  self:=fun i s Q E st h=>wpAny_pyIter_zip st.1 h
theorem GU {N a a':Nat} (h:a < N) (h':a' < N):ZipApart (N + 4) (N + 2) (N + 3) N (N + 1) a a':=
  ⟨nk (by decide),nk (by decide),nk (i:=0) (by decide),nk (by decide),nk (by decide),nk (j:=0) (by decide),nk (by decide),nk (j:=0) (by decide),nk (by decide),nk (i:=0) (by decide),na h _,na h _,na h 0,na h _,na h' _,na h' _,na h' 0,na h' _⟩
theorem I.zip {elts:List PySem.Expr}{k:Nat}{tp:Pos}{i:Nat}{x:Str}{p pos:Pos}{e e':PySem.Expr}{g:LF} (h:sc.names[i]? = some (x, .globalImplicit)) (hb:Boot U x (.type "zip")) (hL:iz U n sc [e,e'] g) (he:oo e [e']):
    pX U n sc (.Tuple elts k tp) (.Call (.Name x p) [e,e'] [] pos) (Ks g):=by
  intro A env M P ρ R H s Q E l H' hr so gd lr hf hQ
  refine bf hf fun vs H1 e1 hf=>?_
  refine pz h hb hL he hr so gd lr e1 fun xs s1 ρ1 st1 g1 va=>?_
  refine cps fun CC KK=>?_
  dsimp only at hf
  split at hf
  · split at hf
    · rename_i l0 l0' hl
      cases hf
      cases va with | cons v1 v2=>cases v2 with | cons v2 v3=>cases v3 with | nil=>
      refine ke v1 fun a xs m e_3 fx hz hv=>?_
      subst e_3
      refine ke v2 fun a' ys m' e_3 fx' hz' hv'=>?_
      subst e_3
      refine KK (call_zip_2 (bD fx.1) (bD fx'.1) fun h' h1 h2 h3 h4 h5 h6 h7=>?_)
      have alt:=Heap.lt_size fx.1
      have alt':=Heap.lt_size fx'.1
      have hn:∀ b:Nat,s1.heap.objs.size≤b→s1.heap.get? b=none:=fun b hb=>Heap.get?_none_of_le hb
      have hw:∀ b∈[s1.heap.objs.size + 4,s1.heap.objs.size + 2,s1.heap.objs.size + 3,s1.heap.objs.size,s1.heap.objs.size + 1],s1.heap.get? b=none:=fun b q=>by
        simp only[List.mem_cons,List.not_mem_nil,or_false] at q
        rcases q with rfl | rfl | rfl | rfl | rfl <;> first | exact hn _ (Nat.le_add_right _ _) | exact hn _ (Nat.le_refl _)
      have hx:∀ b∈[s1.heap.objs.size + 4,s1.heap.objs.size + 2,s1.heap.objs.size + 3,s1.heap.objs.size,s1.heap.objs.size + 1],∃ o,h'.get? b=some o:=fun b q=>by
        simp only[List.mem_cons,List.not_mem_nil,or_false] at q
        obtain⟨o4,r4,_⟩:=h4
        obtain⟨o5,r5,_⟩:=h5
        rcases q with rfl | rfl | rfl | rfl | rfl
        · exact⟨_,h1⟩
        · exact⟨_,h2⟩
        · exact⟨_,h3⟩
        · exact⟨_,r4⟩
        · exact⟨_,r5⟩
      refine wP (tk:=s1.toks) g1 h7 hw hx fun _ le _=>?_
      refine wpAny_pyIter_zip h1 (hQ _ s1 ρ1 _ st1 g1 ?_)
      refine⟨_,_,_,_,_,h',s1.toks,rfl,rfl,h7,hw,hx,GA (m1:=m) (m2:=m') hr.hd (GU alt alt') hv.length hv'.length hl (na alt 2) (na alt' 2),⟨h1,h2,⟨_,_,h3⟩,h4,h5,h7 _ _ fx.1,h7 _ _ fx'.1⟩,⟨hv.mono le,hv'.mono le⟩,fun b q=>?_⟩
      simp only[List.mem_cons,List.not_mem_nil,or_false] at q
      rcases q with rfl | rfl | rfl | rfl | rfl | rfl | rfl
      · exact .inl (by simp)
      · exact .inl (by simp)
      · exact .inl (by simp)
      · exact .inl (by simp)
      · exact .inl (by simp)
      · exact .inr ⟨_,le.fix _ _ fx⟩
      · exact .inr ⟨_,le.fix _ _ fx'⟩
    · cases hf
  · cases hf
end
end Mine
end
section
open PySem PySem.W PyProof.Rows PySem.Calls PySem.SeqAt
namespace Mine
noncomputable abbrev a9:=List V→Hp→Option (V × Hp)
noncomputable def aO (U:fL) (n:Nat) (f:Value) (F:a9):Prop:=
  ∀ (A:Around) (ρ:List Hd) (R:List Addr) (H:Hp) (s:Shared) (Q:Value→Shared→Prop) (E:Value→Shared→Prop) (vs:List V) (xs:List Value) (v:V) (H':Hp),
    ij n A→Good U.toPg U.top ρ R H s.heap→eZ U.toPg ⟨s.heap,ρ,R⟩ vs xs→F vs H=some (v,H')→
    QE U ρ R s Q v H'→
    codeAny (model U.prog U.w) A (.call f ⟨xs,[]⟩) (fun r s'=>match r with | .ok (.ret v)=>Q v s' | .ok _=>False | .error e=>E e s') s
theorem aO.le {U:fL}{n m:Nat}{f:Value}{F:a9} (h:aO U m f F) (q:m≤n):aO U n f F:=fun A ρ R H s Q E vs xs v H' hr=>h A ρ R H s Q E vs xs v H' (hr.le q)
structure ci (U:fL) (f:Addr) (sc:Scope) (body:List Stmt) (ps:List Str) (ds:List V):Prop where
  ex:∃ (oc:Value) (od:Option Addr) (osl:Array (Option Value)) (name qual:Str) (params:Arguments) (dV kV doc pm cdv ct:Value) (an:Option Addr),
    U.K.lookup f=some ⟨oc,od, .func (fnOf name qual params body sc dV kV doc pm an cdv ct),osl⟩∧codeIn U.K cdv qual=true∧
    ∀ vals:List Value,ps.length≤vals.length + ds.length→vals.length≤ps.length→∃ dvals:List Value,vals.length + dvals.length=ps.length∧
      (∀ S,peek U.K S (bindArgs (fnOf name qual params body sc dV kV doc pm an cdv ct) ⟨vals,[]⟩)=some (ps.zip (vals++dvals)))∧
      (∀ (ρ:List Hd) (R:List Addr) (H:Hp) (h:Heap),Good U.toPg U.top ρ R H h→eZ U.toPg ⟨h,ρ,R⟩ (ds.drop (vals.length + ds.length - ps.length)) dvals)
  params:∀ (i:Nat) (x:Str),ps[i]? = some x→∃ k,sc.names[i]? = some (x,k)∧(k = .local∨k = .cell)
  nd:ps.Nodup
  ok:jX sc
  co:sc.isCoroutine=false
  gen:sc.isGenerator=false
  keep:keepIn U.K (.ref f)=true
noncomputable def bn (np nn:Nat) (ds:List V) (body:SF):a9:=fun vs H=>
  if vs.length≤np∧np≤vs.length + ds.length then
    (body ((vs++ds.drop (vs.length + ds.length - np)).map some++List.replicate (nn - np) none) H).bind fun r=>match r.1 with
      | .ret v=>some (v,r.2.2)
      | .next=>some (.none,r.2.2)
      | _=>none
  else none
theorem i6:∀ (names:List (Str × NameKind)) (m:Nat) (acc:List (Str × Addr)) (x:Str),((∃ c,acc.lookup x=some c)∨(x,NameKind.cell)∈names)→∃ c,(cellsFrom m names acc).lookup x=some c
  | [],_,acc,x,h=>h.elim id fun q=>nomatch q
  | (y,k)::r,m,acc,x,h=>by
    unfold cellsFrom
    split
    · rename_i hk
      refine i6 r (m + 1) ((y,m)::acc) x ?_
      by_cases hxy:x=y
      · subst hxy; exact .inl ⟨m,by rw[List.lookup_cons,beq_self_eq_true]⟩
      · have hb:(x==y)=false:=beq_eq_false_iff_ne.mpr hxy
        rcases h with ⟨c,hc⟩ | h
        · exact .inl ⟨c,by rw[List.lookup_cons,hb]; exact hc⟩
        · rcases List.mem_cons.mp h with h | h
          · exact absurd (Prod.mk.inj h).1 hxy
          · exact .inr h
    · rename_i hk
      refine i6 r m acc x ?_
      rcases h with h | h
      · exact .inl h
      · rcases List.mem_cons.mp h with h | h
        · cases h; exact absurd rfl hk
        · exact .inr h
theorem x8 {kindOf:Str→Option NameKind}:∀ {binds:List (Str × Value)}{m:Str→Option Value}{x:Str},x∉binds.map (·.1)→bindL kindOf binds m x=m x
  | [],_,_,_=>rfl
  | (y,v)::r,m,x,h=>by
    rw[List.map_cons,List.mem_cons,not_or] at h
    unfold bindL
    rw[x8 h.2]
    split
    · exact if_neg h.1
    · rfl
theorem Cc {kindOf:Str→Option NameKind}:∀ {binds:List (Str × Value)}{m:Str→Option Value}{x:Str}{v:Value},(binds.map (·.1)).Nodup→(x,v)∈binds→kindOf x=some .local→bindL kindOf binds m x=some v
  | (y,w)::r,m,x,v,hn,h,hk=>by
    rw[List.map_cons,List.nodup_cons] at hn
    unfold bindL
    rcases List.mem_cons.mp h with e | h
    · cases e
      rw[x8 hn.1,if_pos hk]; exact if_pos rfl
    · exact Cc hn.2 h hk
theorem ye {kindOf:Str→Option NameKind}:∀ {binds:List (Str × Value)}{m:Str→Option Value}{x:Str},x∉binds.map (·.1)→bindC kindOf binds m x=m x
  | [],_,_,_=>rfl
  | (y,v)::r,m,x,h=>by
    rw[List.map_cons,List.mem_cons,not_or] at h
    unfold bindC
    rw[ye h.2]
    split
    · rfl
    · exact if_neg h.1
theorem BL {kindOf:Str→Option NameKind}:∀ {binds:List (Str × Value)}{m:Str→Option Value}{x:Str}{v:Value},(binds.map (·.1)).Nodup→(x,v)∈binds→kindOf x≠some .local→bindC kindOf binds m x=some v
  | (y,w)::r,m,x,v,hn,h,hk=>by
    rw[List.map_cons,List.nodup_cons] at hn
    unfold bindC
    rcases List.mem_cons.mp h with e | h
    · cases e
      rw[ye hn.1,if_neg hk]; exact if_pos rfl
    · exact BL hn.2 h hk
theorem ij.deeper {n:Nat}{A:Around}{env:Env} (r:ij (n + 1) A):ij n (A.deeper env):=
  ⟨r.hd,(Nat.add_right_comm A.depth 1 (2 * n)).symm▸(Nat.le_of_succ_le r.dp:A.depth + 2 * n + 1≤600),by have:=r.un; rw[Around.deeper_units]; omega⟩
section
variable {U:fL}{n:Nat}{sc:Scope}{b:Bool}
theorem GW {f:Addr}{body:List Stmt}{ps:List Str}{ds:List V}{F:SF} (K:ci U f sc body ps ds) (hb:aK U n sc body F):aO U (n + 1) (.ref f) (bn ps.length sc.names.length ds F):=by
  intro A ρ R H s Q E vs xs v H' hr gd hv hf hQ
  unfold bn at hf
  split at hf
  rotate_left
  · cases hf
  rename_i hlen
  refine cps fun CC KK=>?_
  obtain⟨⟨r,M',H1⟩,eB,hf⟩:=Option.bind_eq_some_iff.mp hf
  obtain⟨oc,od,osl,name,qual,params,dV,kV,doc,pm,cdv,ct,an,ho,hcd,hbd⟩:=K.ex
  have lx:=hv.length
  obtain⟨dvals,hdl,hpk,hdv⟩:=hbd xs (lx.symm▸hlen.2) (lx.symm▸hlen.1)
  have X:=gd.FZ
  have hroom:A.depth < recursionLimit:=Nat.lt_of_le_of_lt (Nat.le_trans (Nat.le_add_right _ _) hr.dp) (show 600 < 1000 by decide)
  have hdep:=hdv ρ R H s.heap gd
  rw[lx] at hdep
  have hall:=hv.append hdep
  generalize hds:vs++ds.drop (vs.length + ds.length - ps.length)=all at eB hall
  have hal:all.length=ps.length:=by have:=hall.length; rw[List.length_append,hdl] at this; exact this.symm
  generalize hxs:xs++dvals=axs at hpk hall
  have hax:axs.length=ps.length:=by rw[← hal]; exact hall.length
  have nmap:(ps.zip axs).map (·.1)=ps:=List.map_fst_zip (Nat.le_of_eq hax.symm)
  have nd:((ps.zip axs).map (·.1)).Nodup:=by rw[nmap]; exact K.nd
  have kindp:∀ x∈ps,∃ k,sc.names.lookup x=some k∧(k = .local∨k = .cell):=fun x hx=>by
    obtain⟨i,hi⟩:=List.getElem?_of_mem hx
    obtain⟨k,e1,e2⟩:=K.params i x hi
    exact⟨k,lookup_at K.ok.nd e1,e2⟩
  have hkind:∀ x∈ps.zip axs,sc.names.lookup x.1=some .local∨(sc.names.lookup x.1=some .cell∧((cellsFrom (s.heap.objs.size + 1) sc.names []).lookup x.1).isSome=true):=fun x hx=>by
    have hx1:x.1∈ps:=(List.of_mem_zip (by exact hx:(x.1,x.2)∈ps.zip axs)).1
    obtain⟨i,hi⟩:=List.getElem?_of_mem hx1
    obtain⟨k,e1,e2⟩:=K.params i x.1 hi
    have e3:=lookup_at K.ok.nd e1
    rcases e2 with rfl | rfl
    · exact .inl e3
    · obtain⟨c,hc⟩:=i6 sc.names (s.heap.objs.size + 1) [] x.1 (.inr (List.mem_of_getElem? e1))
      exact .inr ⟨e3,by rw[hc]; rfl⟩
  refine KK (codeAny_call_function (fd:=fnOf name qual params body sc dV kV doc pm an cdv ct) (body:=body) hroom (X _ _ ho) rfl K.co K.gen rfl (codeRec_of X hcd) (kp_binds X hpk _ _ _ _ ?_))
  refine wpAny_newFunctionEnv_cells K.ok.kind hkind fun env he s1 ic=>?_
  subst he
  refine⟨(U.T.nolimit.keeps gd.keep).keeps ic.toInCall.keep,codeAny_func ?_⟩
  generalize hL:s.heap.objs.size=L at ic ⊢
  generalize hcells:cellsFrom (L + 1) sc.names []=cells at ic ⊢
  obtain⟨h1,tk,rfl⟩:=ic.toInCall.same
  refine cps fun CC2 K2=>?_
  have keep:=ic.toInCall.keep
  have fresh:∀ a:Nat,L≤a→s.heap.get? a=none:=fun a ha=>Heap.get?_none_of_le (by rw[hL]; exact ha)
  have above:∀ x c,(x,c)∈cells→L < c:=ic.above
  generalize hwr:L::(cells.map (·.1)).filterMap (fun x=>cells.lookup x)=wr
  have wr1:∀ a∈wr,a=L∨∃ x,cells.lookup x=some a:=fun a ha=>by
    rw[← hwr] at ha
    rcases List.mem_cons.mp ha with rfl | ha
    · exact .inl rfl
    · obtain⟨x,_,e⟩:=List.mem_filterMap.mp ha
      exact .inr ⟨x,e⟩
  have wr2:∀ x c,cells.lookup x=some c→c∈wr:=fun x c e=>by
    rw[← hwr]
    exact List.mem_cons_of_mem _ (List.mem_filterMap.mpr ⟨x,List.mem_map.mpr ⟨_,mem_of_lookup e,rfl⟩,e⟩)
  have wrL:L∈wr:=by rw[← hwr]; exact List.mem_cons_self
  have cellex:∀ x c,cells.lookup x=some c→h1.IsCell c (bindC (newEnv sc L mainGlobals cells (qual++".<locals>.") (some f) cdv Option.none builtinsNs).kindOf (ps.zip axs) (fun _=>Option.none) x):=fun x c h=>ic.cell x c h
  have wfresh:∀ a∈wr,s.heap.get? a=Option.none:=fun a ha=>by
    rcases wr1 a ha with rfl | ⟨x,e⟩
    · exact fresh _ (Nat.le_refl _)
    · exact fresh _ (Nat.le_of_lt (above x a (mem_of_lookup e)))
  have wex:∀ a∈wr,∃ o,h1.get? a=some o:=fun a ha=>by
    rcases wr1 a ha with rfl | ⟨x,e⟩
    · obtain⟨o,es,ep,e,_⟩:=ic.toInCall.ns; exact⟨o,e⟩
    · obtain⟨o,e,_⟩:=cellex x a e; exact⟨o,e⟩
  refine wP (tk:=tk) gd keep wfresh wex fun g1 Lx _=>?_
  have st1:Step [] ρ s ρ { s with heap:=h1,toks:=tk }:=cm keep
  have nf:∀ a∈wr,a∉foot ρ:=fun a ha q=>g1.rs a q (List.mem_append_left _ ha)
  have hall1:=hall.mono Lx
  have Mat:∀ {i:Nat}{x:Str}{k:NameKind}{v:V},sc.names[i]? = some (x,k)→(all.map some++List.replicate (sc.names.length - ps.length) Option.none)[i]? = some (some v)→∃ val,(x,val)∈ps.zip axs∧VR U.toPg ⟨h1,ρ,wr++R⟩ v val∧(k = .local∨k = .cell):=fun {i x k v} e1 e2=>by
    have hi:i < ps.length:=by
      rcases Nat.lt_or_ge i ps.length with h | h
      · exact h
      · rw[List.getElem?_append_right (by rw[List.length_map,hal]; exact h),List.getElem?_replicate] at e2
        split at e2 <;> cases e2
    rw[List.getElem?_append_left (by rw[List.length_map,hal]; exact hi),List.getElem?_map] at e2
    refine fJ e2 fun v' e3 e4=>?_
    cases e4
    obtain⟨val,h4,h5⟩:=hall1.get e3
    obtain⟨y,hy⟩:∃ y,ps[i]? = some y:=⟨_,List.getElem?_eq_getElem hi⟩
    obtain⟨k',h6,h7⟩:=K.params i y hy
    rw[e1] at h6; cases h6
    exact⟨val,List.mem_of_getElem? (i:=i) (List.getElem?_zip_eq_some.mpr ⟨hy,h4⟩),h5,h7⟩
  have lr:cX U.toPg sc (newEnv sc L mainGlobals cells (qual++".<locals>.") (some f) cdv Option.none builtinsNs) (all.map some++List.replicate (sc.names.length - ps.length) Option.none) wr ρ (wr++R) h1:=by
    refine⟨rfl,rfl,rfl,⟨_,ic.toInCall.ns,fun i x v e1 e2=>?_⟩,fun i x k v e1 hk e2=>?_,fun i x e _=>?_,List.mem_append_left _ wrL,nf _ wrL,fun x c e=>?_,fun x y c e1 e2=>name_of_addr ic.apart (mem_of_lookup e1) (mem_of_lookup e2)⟩
    · obtain⟨val,h1',h2,_⟩:=Mat e1 e2
      exact⟨val,Cc nd h1' (lookup_at K.ok.nd e1),h2⟩
    · obtain⟨val,h1',h2,h3⟩:=Mat e1 e2
      have hk':k = .cell:=by
        rcases hk with rfl | rfl
        · rfl
        · rcases h3 with h3 | h3 <;> cases h3
      subst hk'
      obtain⟨c,hc⟩:=i6 sc.names (L + 1) [] x (.inr (List.mem_of_getElem? e1))
      rw[hcells] at hc
      have:=cellex x c hc
      rw[BL nd h1' (by show sc.names.lookup x≠_; rw[lookup_at K.ok.nd e1]; intro q; cases q)] at this
      exact⟨c,val,hc,this,h2⟩
    · obtain⟨c,hc⟩:=i6 sc.names (L + 1) [] x (.inr (List.mem_of_getElem? e))
      rw[hcells] at hc
      exact⟨c,_,hc,cellex x c hc⟩
    · have hm:=wr2 x c e
      obtain⟨o,eo⟩:=wex c hm
      exact⟨List.mem_append_left _ hm,nf c hm,Nat.ne_of_gt (above x c (mem_of_lookup e)),o,eo⟩
  have ow:Own true sc (newEnv sc L mainGlobals cells (qual++".<locals>.") (some f) cdv Option.none builtinsNs) wr (wr++R):=⟨wrL,fun _ i x c _ e=>wr2 x c e,fun a q=>List.mem_append_left _ q⟩
  refine K2 (hb (A.deeper _) _ _ wr ρ (wr++R) H _ _ _ r M' H1 hr.deeper K.ok g1 lr ow eB fun y s2 ρ2 st2 g2 l2 fr=>?_)
  have stT:Step [] ρ s ρ2 s2:=(st1.any (W:=wr)).trans st2 |>.more fun a q => .inr (wfresh a q)
  have gT:=g2.shrink (R:=R) fun a q=>List.mem_append_right _ q
  dsimp only at hf
  cases r with
  | ret u=>
    cases hf
    cases y <;> first | exact fr.elim | exact hQ _ s2 ρ2 stT gT (VR.mono (Vw.shrink fun a q=>List.mem_append_right _ q) fr)
  | next=>
    cases hf
    cases y <;> first | exact fr.elim | exact hQ _ s2 ρ2 stT gT .none
  | _=>cases hf
end
end Mine
end
section
open PySem PySem.W PyProof.Rows PySem.Calls PySem.SeqAt
namespace Mine
structure pK (U:fL) (c:Nat) (C:Jg):Prop where
  is:U.cls[c]? = some C
  ga:findIn U.K (.ref C.addr) "__getattribute__"=some (some (.builtin "object.__getattribute__"))
  gm:findIn U.K (.ref C.addr) "__getattr__"=some none
  sa:findIn U.K (.ref C.addr) "__setattr__"=some (some (.builtin "object.__setattr__"))
  plain:plainOver U.K C.addr=true
  dict:hasDictIn U.K C.addr=true
  make:makesIn U.K C.addr=true
  own:∀ x∈C.sI,findIn U.K (.ref C.addr) x=some none
  nd:C.sI.Nodup
  LS:C.sI.length≤100
section
variable {U:fL}{n:Nat}{sc:Scope}{b:Bool}
theorem AV {G:Pg}{s:Vw}:∀ {fs:List V}{ns:List Str}{es:List DictEntry}{i:Nat}{v:V}{x:Str},FR G s fs ns es→ns.Nodup→fs[i]? = some v→ns[i]? = some x→∃ val e,es.find? (·.key.isStr x)=some e∧e.val=val∧VR G s v val
  | _,_,_,_,_,_, .nil,_,h,_=>by cases h
  | _,_,_,0,_,x, .cons (x:=val) (hs:=hs) (t:=t) (n:=m) h r,_,e1,e2=>by
    cases e1; cases e2
    refine⟨val,⟨hs, .str x t,val⟩,?_,rfl,h⟩
    rw[List.find?_cons]
    have:Value.isStr (.str x t) x=true:=by show(x==x)=true; exact beq_self_eq_true x
    simp only[this]
  | _,_,_,i + 1,_,x, .cons (n:=m) (t:=t) (x:=val0) (hs:=hs) h r,hn,e1,e2=>by
    rw[List.nodup_cons] at hn
    obtain⟨val,e,q1,q2,q3⟩:=AV r hn.2 (by simpa using e1) (by simpa using e2)
    refine⟨val,e,?_,q2,q3⟩
    rw[List.find?_cons]
    have:Value.isStr (.str m t) x=false:=by
      show(m==x)=false
      rw[beq_eq_false_iff_ne]
      rintro rfl
      exact hn.1 (List.mem_of_getElem? (i:=i) (by simpa using e2))
    simp only[this]
    exact q1
theorem Aw {G:Pg}{s:Vw}:∀ {fs:List V}{ns:List Str}{es:List DictEntry}{x:Str},FR G s fs ns es→x∉ns.take fs.length→es.find? (·.key.isStr x)=none∧es.any (·.refKey)=false
  | _,_,_,_, .nil,_=>⟨rfl,rfl⟩
  | _,_,_,x, .cons (n:=m) (t:=t) (x:=val0) (hs:=hs) h r,hx=>by
    rw[List.length_cons,List.take_succ_cons,List.mem_cons,not_or] at hx
    obtain⟨q1,q2⟩:=Aw r hx.2
    have:Value.isStr (.str m t) x=false:=by
      show(m==x)=false
      rw[beq_eq_false_iff_ne]
      exact fun e=>hx.1 e.symm
    refine⟨?_,?_⟩
    · rw[List.find?_cons]; simp only[this]; exact q1
    · rw[List.any_cons,q2]; rfl
theorem CP {G:Pg}{s:Vw}:∀ {fs:List V}{ns:List Str}{es:List DictEntry},FR G s fs ns es→es.length=fs.length∧fs.length≤ns.length
  | _,_,_, .nil=>⟨rfl,Nat.zero_le _⟩
  | _,_,_, .cons h r=>by have:=CP r; simp only[List.length_cons]; omega
theorem Dp {G:Pg}{s:Vw}{hsh:Int}{t:Tok}{v:V}{val:Value}:∀ {fs:List V}{ns:List Str}{es:List DictEntry}{i:Nat}{x:Str},FR G s fs ns es→ns.Nodup→i≤fs.length→ns[i]? = some x→VR G s v val→
    FR G s (if i < fs.length then fs.set i v else fs++[v]) ns (putL x hsh (.str x t) val es)
  | [],ns,_,i,x, .nil,hn,hi,hx,r=>by
    have:i=0:=by simpa using hi
    subst this
    cases ns with
    | nil=>cases hx
    | cons m ns=>cases hx; exact .cons r .nil
  | _::fs,_,_,0,x, .cons (n:=m) (t:=t') (x:=val0) (hs:=hs) h r,hn,hi,hx,rv=>by
    cases hx
    unfold putL
    have:Value.isStr (.str x t') x=true:=by show(x==x)=true; exact beq_self_eq_true x
    simp only[this,if_true,List.length_cons,Nat.zero_lt_succ,List.set_cons_zero]
    exact .cons rv r
  | u::fs,_,_,i + 1,x, .cons (n:=m) (t:=t') (x:=val0) (hs:=hs) h r,hn,hi,hx,rv=>by
    rw[List.nodup_cons] at hn
    have hx':_:=(by simpa using hx:_)
    have ih:=Dp (hsh:=hsh) (t:=t) (v:=v) (val:=val) r hn.2 (by simpa using hi) hx' rv
    unfold putL
    have:Value.isStr (.str m t') x=false:=by
      show(m==x)=false
      rw[beq_eq_false_iff_ne]
      rintro rfl
      exact hn.1 (List.mem_of_getElem? (i:=i) hx')
    simp only[this,Bool.false_eq_true,if_false,List.length_cons,Nat.add_lt_add_iff_right,List.set_cons_succ,List.cons_append]
    split at ih
    · rename_i hlt; rw[if_pos hlt]; exact .cons h ih
    · rename_i hlt; rw[if_neg hlt]; exact .cons h ih
noncomputable def qk:V→Hp→Option (Nat × List V)
  | .inst c fs,_=>some (c,fs)
  | .ref k,H=>match H[k]? with
    | some (.inst c fs)=>some (c,fs)
    | _=>none
  | _,_=>none
theorem DH {k:Nat}{H:Hp}{c:Nat}{fs:List V}:qk (.ref k) H=some (c,fs)↔H[k]? = some (.inst c fs):=by
  unfold qk
  dsimp only
  cases q:H[k]? with
  | none=>simp
  | some ob=>cases ob <;> simp
theorem zD {G:Pg}{top:Heap}{ρ:List Hd}{R:List Addr}{H:Hp}{h:Heap}{v:V}{x:Value}{c:Nat}{fs:List V} (g:Good G top ρ R H h) (r:VR G ⟨h,ρ,R⟩ v x) (e:qk v H=some (c,fs)):
    ∃ C a d es n,x = .ref a∧G.cls[c]? = some C∧h.get? a=some (instObj C.addr d)∧h.get? d=some (dictOf es n)∧FR G ⟨h,ρ,R⟩ fs C.sI es:=by
  cases r with
  | inst hc hf hd hv=>
    cases e
    exact⟨_,_,_,_,_,rfl,hc,hf.1,hd.1,hv⟩
  | ref hk=>
    obtain⟨_,C,es,n,h1,h2,h3,h4,_⟩:=g.ob _ _ _ (DH.mp e) hk (gl rfl)
    exact⟨C,_,_,es,n,rfl,h1,h2,h3,h4⟩
  | _=>cases e
theorem sm {h:Heap}{a d C:Addr}{es:List DictEntry}{n:Nat} (h1:h.get? a=some (instObj C d)) (h2:h.get? d=some (dictOf es n)):InstAt h a (instObj C d) C (some (dictOf es n)):=⟨h1,rfl,rfl,h2⟩
theorem EW {G:Pg}{s:Vw}{v:V}{x:Value} (r:VR G s v x):handedIn x=true:=by cases r <;> rfl
noncomputable def am (tab:List (Nat × Nat)):V→Hp→Option V:=fun v H=>(qk v H).bind fun p=>(tab.lookup p.1).bind fun i=>p.2[i]?
theorem lookup_mem {α:Type}:∀ {l:List (Nat × α)}{c:Nat}{v:α},l.lookup c=some v→(c,v)∈l
  | (k,w)::r,c,v,h=>by
    rw[List.lookup_cons] at h
    cases hb:c==k with
    | true=>rw[hb] at h; cases h; rw[beq_iff_eq.mp hb]; exact List.mem_cons_self
    | false=>rw[hb] at h; exact List.mem_cons_of_mem _ (lookup_mem h)
noncomputable def gP (U:fL) (name:Str) (tab:List (Nat × Nat)):Prop:=∀ p∈tab,∃ C,pK U p.1 C∧C.sI[p.2]? = some name
theorem Jk {name:Str}{tab:List (Nat × Nat)}{expr:Bool} (ht:gP U name tab):i7 U (am tab) (fun o=>getAttr o name expr):=by
  intro A ρ R H s Q E a v x hr g ra hop hQ
  refine bf hop fun c fs e1 hop=>?_
  refine gz hop fun i e2 e3=>?_
  obtain⟨C,p,d,es,m,rfl,h1,h2,h3,h4⟩:=zD g ra e1
  obtain⟨C',K,hi⟩:=ht _ (lookup_mem e2)
  have:C'=C:=by have:=K.is; dsimp only at this; rw[h1] at this; exact(Option.some.inj this).symm
  subst this
  obtain⟨val,e,q1,q2,q3⟩:=AV h4 K.nd e3 hi
  have hl:getL name es=some (some val):=by unfold getL; rw[q1,← q2]
  exact get_value g.FZ (sm h2 h3) K.ga (findObj_own K.dict (K.own name (List.mem_of_getElem? hi)) rfl hl) (EW q3) (hQ _ _ .toks g q3)
noncomputable def Gv (o:PySem.Expr) (name:Str) (pos:Pos):Prop:=∀ env,eval (.Attribute o name pos) env=(do
      let v ← eval o env
      standAt pos.atName
      let r ← holding [v] (getAttr v name true)
      letTemporaryGo o v r
      pure r)
theorem E.attr {o:PySem.Expr}{name:Str}{pos:Pos}{tab:List (Nat × Nat)}{f:EF} (h:aA U n sc o f) (ht:gP U name tab) (hf:Gv o name pos):aA U n sc (.Attribute o name pos) (aW (am tab) f):=by
  intro A env M P ρ R H s Q E v H' hr so gd lr hfn hQ
  unfold aW at hfn
  refine bf hfn fun a H1 e1 hfn=>?_
  refine fJ hfn fun c e2 hfn=>?_
  cases hfn
  refine Attribute_any_ (h A env M P ρ R H s _ E a H1 hr so gd lr e1 fun x s1 ρ1 st1 g1 va=>?_) (hf env)
  exact Jk ht A ρ1 R H1 s1 _ E a v x (hr.le (Nat.zero_le _)) g1 va e2 fun z s3 st3 g3 vc=>hQ z s3 ρ1 (st1.trans st3) g3 vc
theorem GC {A:Around}{K:Frag}{C x d:Addr}{name:Str}{tk:Tok}{v:Value}{es:List DictEntry}{m:Nat}{s:Shared}{prog:Program}{w:World}{R:Result→Shared→Prop} (X:K.In s.heap) (I:InstAt s.heap x (instObj C d) C (some (dictOf es m)))
    (hp:plainOver K C=true) (ht:findIn K (.ref C) name=some none) (hh:hasDictIn K C=true) (hl:(getL name es).isSome=true) (hz:(putL name (PyData.keyHash w.params name) (.str name s.toks) v es).length≤1000)
    (h:∀ h',h'.get? d=some (dictOf (putL name (PyData.keyHash w.params name) (.str name s.toks) v es) (putN name es m))→(∀ b,b≠d→h'.get? b=s.heap.get? b)→R (.ok (.ret .none)) { s with heap:=h',toks:=s.toks + 1 }):
    codeAny (model prog w) A (.call (.builtin "object.__setattr__") ⟨[.ref x, .str name tk,v],[]⟩) R s:=by
  refine osa_open (r:=none) X I hp (by unfold takerIn; rw[ht]; rfl) fun _=>?_
  obtain⟨cd,hc,hd'⟩:=any_some hh
  have hD:=I.dict
  dsimp only at hD
  refine wpAny_bind (wpAny_pure (wpAny_bind (wpAny_bind (wpAny_loadPart I.at_ (wpAny_bind ((looks_clsIn X hc).here ?_))))))
  rw[hd']
  refine wpAny_pure (a:=some d) (wpAny_bind (wpAny_pure (wpAny_bind ?_)))
  unfold nsSet
  refine wpAny_bind (wpAny_bind (wpAny_askSetting (wpAny_pure (wpAny_bind (wpAny_mkText (wpAny_bind (wpAny_loadPart hD ?_)))))))
  have hc':(!(es.toArray).any (·.key.isStr name)&&(es.toArray).any (·.refKey))=false:=by
    rw[List.any_toArray,List.any_toArray]
    unfold getL at hl
    split at hl
    · rename_i en he
      rw[List.any_eq_true.mpr ⟨en,List.mem_of_find?_eq_some he,List.find?_some he⟩]; rfl
    · split at hl
      · cases hl
      · rename_i z; rw[Bool.not_eq_true] at z; rw[z,Bool.and_false]
  show wpAny _ _ (match (dictOf es m).data with | _=>_) _ _ _
  dsimp only
  rw[aRefKeyMayBeTheName_at,hc']
  have e:=putName_dict name (PyData.keyHash w.params name) (.str name s.toks) v es m
  have hD':(s.heap.update d (Obj.putName name (PyData.keyHash w.params name) (.str name s.toks) v)).get? d=some (dictOf (putL name (PyData.keyHash w.params name) (.str name s.toks) v es) (putN name es m)):=by
    rw[← e]; exact Heap.get?_update_self _ hD (by rw[e]; rfl)
  refine wpAny_updatePart hD ?_
  refine wpAny_bind (wpAny_lookBehind hD' (pastItsLine_dict (by rw[List.size_toArray,sizeLine_eq]; omega)) ?_)
  exact wpAny_pure (h _ hD' fun b hb=>Heap.get?_update_ne _ _ _ _ hb)
end
end Mine
end
section
open PySem PySem.W PyProof.Rows PySem.Calls PySem.SeqAt
namespace Mine
section
variable {U:fL}{n:Nat}{sc:Scope}{b:Bool}
theorem tH {G:Pg}{top:Heap}{ρ:List Hd}{R:List Addr}{H:Hp}{h:Heap}{k:Nat}{hd:Hd}{ob:Ob} (g:Good G top ρ R H h) (hk:ρ[k]? = some hd) (hH:H[k]? = some ob) (hne:ob ≠ .dead):hd.live=true∧hd.a∈foot ρ∧hd.d∈foot ρ:=
  have hl:=(g.ob k ob hd hH hk hne).1
  ⟨hl,bT.mpr ⟨k,hd,hk,hl, .inl rfl⟩,bT.mpr ⟨k,hd,hk,hl, .inr rfl⟩⟩
theorem rq {ρ:List Hd}{s:Shared}{hd:Hd}{h':Heap}{tk:Nat} (fa:hd.a∈foot ρ) (fd:hd.d∈foot ρ) (same:∀ b,b≠hd.a→b≠hd.d→h'.get? b=s.heap.get? b) (ea:∃ o,h'.get? hd.a=some o) (ed:∃ o,h'.get? hd.d=some o):
    Step [] ρ s ρ { s with heap:=h',toks:=tk }:=by
  refine⟨fun a o e hf _=>(same a (fun q=>hf (q▸fa)) (fun q=>hf (q▸fd))).trans e,fun a o e=>?_,fun _ hd e=>⟨hd,e,rfl⟩,fun _ h => .inl h,rfl,rfl⟩
  by_cases q:a=hd.a
  · rw[q]; exact ea
  · by_cases q2:a=hd.d
    · rw[q2]; exact ed
    · exact⟨o,(same a q q2).trans e⟩
theorem oW {G:Pg}{s:Vw}{k:Nat}{x:Value} (r:VR G s (.ref k) x) {C:Prop} (K:∀ hd:Hd,s.ρ[k]? = some hd→x = .ref hd.a→C):C:=by
  cases r with
  | ref hk=>exact K _ hk rfl
theorem wK {α:Type}:∀ {l:List α}{i j:Nat}{x:α},l.Nodup→l[i]? = some x→l[j]? = some x→i=j
  | [],_,_,_,_,h,_=>by cases h
  | a::l,0,0,_,_,_,_=>rfl
  | a::l,0,j + 1,x,hn,h,h'=>by
    rw[List.nodup_cons] at hn
    cases h
    exact absurd (List.mem_of_getElem? (i:=j) (by simpa using h')) hn.1
  | a::l,i + 1,0,x,hn,h,h'=>by
    rw[List.nodup_cons] at hn
    cases h'
    exact absurd (List.mem_of_getElem? (i:=i) (by simpa using h)) hn.1
  | a::l,i + 1,j + 1,x,hn,h,h'=>by
    rw[List.nodup_cons] at hn
    exact congrArg (· + 1) (wK hn.2 (by simpa using h) (by simpa using h'))
noncomputable def BN (i:Nat) (v:V) (fs:List V):List V:=if i < fs.length then fs.set i v else fs++[v]
theorem Bz {name:Str}{tab:List (Nat × Nat)} (ht:gP U name tab) {A:Around}{ρ:List Hd}{R:List Addr}{H:Hp}{s:Shared}{k c i:Nat}{fs:List V}{v:V}{x val:Value}{Q:Unit→Shared→Prop}{E:Value→Shared→Prop} (g:Good U.toPg U.top ρ R H s.heap) (rx:VR U.toPg ⟨s.heap,ρ,R⟩ (.ref k) x) (rv:VR U.toPg ⟨s.heap,ρ,R⟩ v val)
    (hH:H[k]? = some (.inst c fs)) (hc:tab.lookup c=some i) (hi:i≤fs.length) (hQ:∀ s',Step [] ρ s ρ s'→Good U.toPg U.top ρ R (H.set k (.inst c (BN i v fs))) s'.heap→Q () s'):wpAny (model U.prog U.w) A (setAttr x name val) Q E s:=by
  refine oW rx fun hd hk e_2=>?_
  subst e_2
  obtain⟨C',K,hi'⟩:=ht _ (lookup_mem hc)
  obtain⟨hl,fa,fd⟩:=tH g hk hH (gl rfl)
  obtain⟨_,C,es,m,h1,h2,h3,h4,h5⟩:=g.ob k _ hd hH hk (gl rfl)
  dsimp only at h2 h3 h4 hi' hk
  have:C'=C:=by have:=K.is; dsimp only at this; rw[h1] at this; exact(Option.some.inj this).symm
  subst this
  have hl2:(getL name es).isSome=true:=by
    unfold getL
    by_cases hlt:i < fs.length
    · obtain⟨v0,hv0⟩:∃ v0,fs[i]? = some v0:=⟨_,List.getElem?_eq_getElem hlt⟩
      obtain⟨val,e,q1,_⟩:=AV h4 K.nd hv0 hi'
      rw[q1]; rfl
    · have hn:name∉C'.sI.take fs.length:=fun q=>by
        obtain⟨j,hj⟩:=List.getElem?_of_mem q
        have hjl:=(List.getElem?_eq_some_iff.mp hj).1
        rw[List.length_take] at hjl
        rw[List.getElem?_take] at hj
        split at hj
        · have:=wK K.nd hj hi'
          omega
        · cases hj
      obtain⟨q1,q2⟩:=Aw h4 hn
      rw[q1,q2]; rfl
  have hlen:=CP h4
  refine set_plain g.FZ (sm h2 h3) K.sa (GC (s:={ s with toks:=s.toks + 1 }) g.FZ (sm h2 h3) K.plain (K.own name (List.mem_of_getElem? hi')) K.dict hl2 ?_ fun h' e1 e2=>?_)
  · have q:=CP (Dp (hsh:=PyData.keyHash U.w.params name) (t:=s.toks + 1) h4 K.nd hi hi' rv)
    have:=K.LS
    exact Nat.le_trans (Nat.le_of_eq q.1) (Nat.le_trans q.2 (Nat.le_trans this (by decide)))
  · have same:∀ b,b≠hd.a→b≠hd.d→h'.get? b=s.heap.get? b:=fun b _ hb=>e2 b hb
    have ea:∃ o,h'.get? hd.a=some o:=⟨_,(e2 _ h5).trans h2⟩
    have st:Step [] ρ s ρ { s with heap:=h',toks:=s.toks + 1 + 1 }:=rq fa fd same ea ⟨_,e1⟩
    have fr:=Dp (hsh:=PyData.keyHash U.w.params name) (t:=s.toks + 1) h4 K.nd hi hi' rv
    obtain⟨st2,g2⟩:=g.upd (tk:=s.toks + 1 + 1) (ob' := .inst c (BN i v fs)) hk hH (gl rfl) same ea ⟨_,e1⟩ ⟨C',_,_,h1,(e2 _ h5).trans h2,e1,FR.mono st.D1 fr,h5⟩
    exact hQ _ st g2
noncomputable def dC (tab:List (Nat × Nat)) (f:EF):AF:=fun v M H=>(f M H).bind fun p=>match p.1 with
  | .ref k=>match p.2[k]? with
    | some (.inst c fs)=>(tab.lookup c).bind fun i=>if i≤fs.length then some (M,p.2.set k (.inst c (BN i v fs))) else none
    | _=>none
  | _=>none
theorem A.attr {o:PySem.Expr}{name:Str}{pos:Pos}{tab:List (Nat × Nat)}{f:EF} (h:aA U n sc o f) (ht:gP U name tab):i3 U b n sc (.Attribute o name pos) (dC tab f):=by
  intro A env M P ρ R H s Q E v x M' H' hr so gd l ow r hf hQ
  refine bf hf fun p H1 e1 hf=>?_
  rw[arm_assign_Attribute]
  refine wpAny_bind (wpAny_holding (h A env M P ρ R H s _ E p H1 hr so gd l e1 fun y s1 ρ1 st1 g1 va=>?_))
  refine wpAny_bind (wpAny_standAt (wpAny_bind (wpAny_holding ?_)))
  dsimp only at hf
  split at hf
  · split at hf
    · rename_i k c fs hH
      refine gz hf fun i e2 hf=>?_
      split at hf
      · rename_i hi
        cases hf
        refine Bz ht g1 va (r.step st1) hH e2 hi fun s2 st2 g2=>wpAny_release (hQ s2 ρ1 (st1.trans st2).any g2 (l.cT (st1.trans st2)))
      · cases hf
    · cases hf
  · cases hf
noncomputable def pE (tab:List (Nat × Nat)) (f g:EF):SF:=fun M H=>(f M H).bind fun p=>(am tab p.1 p.2).bind fun a=>(g M p.2).bind fun q=>match p.1,a,q.1 with
  | .ref k, .int i, .int j=>match q.2[k]? with
    | some (.inst c fs)=>(tab.lookup c).bind fun ix=>if ix≤fs.length then some (.next,M,q.2.set k (.inst c (BN ix (.int (i + j)) fs))) else none
    | _=>none
  | _,_,_=>none
theorem X.EN {o v:PySem.Expr}{name:Str}{tpos pos:Pos}{tab:List (Nat × Nat)}{f g:EF} (h:aA U n sc o f) (ht:gP U name tab) (h2:aA U n sc v g):gY U n sc (.AugAssign (.Attribute o name tpos) .Add v pos) (pE tab f g):=by
  intro A env M P ρ R H s Q E r M' H' hr so gd l ow hf hQ
  refine bf hf fun p H1 e1 hf=>?_
  refine gz hf fun a e2 hf=>?_
  refine bf hf fun q H2 e3 hf=>?_
  refine wpAny_AugAssign_AttributeAny (h A env M P ρ R H s _ E p H1 hr so gd l e1 fun y s1 ρ1 st1 g1 va=>?_)
  refine Jk ht A ρ1 R H1 s1 _ E p a y (hr.le (Nat.zero_le _)) g1 va e2 fun z s2 st2 g2 vz=>?_
  have l2:=l.cT (st1.trans st2)
  refine h2 A env M P ρ1 R H1 s2 _ E q H2 hr so g2 l2 e3 fun u s3 ρ3 st3 g3 vu=>?_
  dsimp only at hf
  split at hf
  · split at hf
    · rename_i k i j c fs hH
      refine gz hf fun ix e4 hf=>?_
      split at hf
      · rename_i hi
        cases hf
        obtain⟨t,rfl⟩:=gJ vz
        obtain⟨t',rfl⟩:=gJ vu
        refine wpAny_iadd_int ?_
        have st4:Step [] ρ1 s1 ρ3 { s3 with toks:=s3.toks + 1 }:=(st2.trans st3).trans .toks
        refine Bz (s:={ s3 with toks:=s3.toks + 1 }) ht g3 (va.step st4) (.int _ _) hH e4 hi fun s5 st5 g5=>hQ .next s5 ρ3 ((st1.trans st4).trans st5).any g5 (l.cT ((st1.trans st4).trans st5)) trivial
      · cases hf
    · cases hf
  · cases hf
noncomputable def putAt:V→V→V→Hp→Option Hp
  | .ref k, .int i,v,H=>match H[k]? with
    | some (.lst l)=>if 0≤i∧i < l.length then some (H.set k (.lst (l.set i.toNat v))) else none
    | _=>none
  | .ref k, .str x,v,H=>match H[k]? with
    | some (.jo d)=>if d.length < 1000000∧(o9 d x).isNone=true then some (H.set k (.jo (d++[(x,v)]))) else none
    | _=>none
  | _,_,_,_=>none
theorem eZ.set {G:Pg}{s:Vw}{v:V}{x:Value} (r:VR G s v x):∀ {l:List V}{xs:List Value} (i:Nat),eZ G s l xs→eZ G s (l.set i v) (xs.set i x)
  | _,_,_, .nil => .nil
  | _,_,0, .cons h t => .cons r t
  | _,_,i + 1, .cons h t => .cons h (eZ.set r i t)
theorem ze {G:Pg}{s:Vw}{k:Str}{v:V}{x:Value} (r:VR G s v x):∀ {l:List (List Nat × V)}{kvs:List (Str × Value)},ER G s l kvs→ER G s (l++[(k.cps.toList,v)]) (kvs++[(k,x)])
  | _,_, .nil => .cons r .nil
  | _,_, .cons h t => .cons h (ze r t)
theorem y3 {G:Pg}{s:Vw}{k:Str}:∀ {l:List (List Nat × V)}{kvs:List (Str × Value)},ER G s l kvs→(o9 l k.cps.toList).isNone=true→kvs.any (fun kv=>kv.1=k)=false
  | _,_, .nil,_=>rfl
  | _,_, .cons (k:=k') h t,e=>by
    unfold o9 at e
    rw[List.find?_cons] at e
    rw[List.any_cons]
    by_cases q:k'=k
    · subst q
      simp only[beq_self_eq_true] at e
      cases e
    · have:(k'.cps.toList==k.cps.toList)=false:=by rw[beq_eq_false_iff_ne]; exact fun z=>q (v8 z)
      simp only[this] at e
      rw[y3 t e]
      simp[q]
theorem Ki {A:Around}{ρ:List Hd}{R:List Addr}{H H':Hp}{s:Shared}{o i v:V}{x y val:Value}{Q:Unit→Shared→Prop}{E:Value→Shared→Prop} (g:Good U.toPg U.top ρ R H s.heap) (ro:VR U.toPg ⟨s.heap,ρ,R⟩ o x) (ri:VR U.toPg ⟨s.heap,ρ,R⟩ i y) (rv:VR U.toPg ⟨s.heap,ρ,R⟩ v val)
    (h:putAt o i v H=some H') (hQ:∀ s',Step [] ρ s ρ s'→Good U.toPg U.top ρ R H' s'.heap→Q () s'):wpAny (model U.prog U.w) A (setItem x y val) Q E s:=by
  unfold putAt at h
  split at h
  · rename_i k j
    split at h
    · rename_i l hH
      split at h
      · rename_i hj
        cases h
        refine oW ro fun hd hk e_2=>?_
        subst e_2
        obtain⟨hl,fa,fd⟩:=tH g hk hH (gl rfl)
        obtain⟨_,xs,m,h1,h2,h3⟩:=g.ob k _ hd hH hk (gl rfl)
        obtain⟨t,rfl⟩:=gJ ri
        have ll:=h3.length
        have hj2:j < (xs.toArray.size:Int):=by rw[List.size_toArray,ll]; exact hj.2
        have e1:(s.heap.update hd.a (Obj.mapSeq (·.setIfInBounds j.toNat val))).get? hd.a=some (ny (xs.set j.toNat val) ⟨m,none,#[]⟩):=by
          rw[Heap.get?_update_self _ h1 (Obj.isFreed_of_seq (xs:=xs.toArray.setIfInBounds j.toNat val) (n:=m) (by simp[Obj.mapSeq]))]
          simp[Obj.mapSeq]
        refine ki_setAt (n:=m) h1 hj.1 (by omega) hj2 ?_
        have e2:∀ b,b≠hd.a→(s.heap.update hd.a (Obj.mapSeq (·.setIfInBounds j.toNat val))).get? b=s.heap.get? b:=fun b hb=>Heap.get?_update_ne _ _ _ _ hb
        have ed:∃ o,(s.heap.update hd.a (Obj.mapSeq (·.setIfInBounds j.toNat val))).get? hd.d=some o:=by
          by_cases q:hd.d=hd.a
          · rw[q]; exact⟨_,e1⟩
          · obtain⟨o,eo⟩:=g.lt _ fd; exact⟨o,(e2 _ q).trans eo⟩
        have st:Step [] ρ s ρ { s with heap:=s.heap.update hd.a (Obj.mapSeq (·.setIfInBounds j.toNat val)),toks:=s.toks }:=rq fa fd (fun b hb _=>e2 b hb) ⟨_,e1⟩ ed
        obtain⟨st2,g2⟩:=g.upd (tk:=s.toks) (ob' := .lst (l.set j.toNat v)) hk hH (gl rfl) (fun b hb _=>e2 b hb) ⟨_,e1⟩ ed ⟨_,m,e1,by rw[List.length_set]; exact h2,(eZ.set rv _ h3).mono st.D1⟩
        exact hQ _ st g2
      · cases h
    · cases h
  · rename_i k z
    split at h
    · rename_i d hH
      split at h
      · rename_i hz
        cases h
        refine oW ro fun hd hk e_2=>?_
        subst e_2
        obtain⟨hl,fa,fd⟩:=tH g hk hH (gl rfl)
        obtain⟨_,ob,kvs,h1,h2,h3,h4,h5⟩:=g.ob k _ hd hH hk (gl rfl)
        refine ee ri fun w u e_2 hw hwl=>?_
        subst e_2
        have lk:=Ai h5
        subst hw
        refine wpAny_setItem_pairs (knd:=PySem.strKind U.prog U.w) (k:=w) (PySem.strKind_is _ _ w u) (uE h1 h3) (fun h' e1 e2=>?_) (by rw[sizeLine_eq]; omega)
        obtain⟨ob',es',ep',q1,q2,q3⟩:=e1
        have hst:PySem.stored kvs w val=kvs++[(w,val)]:=by
          unfold PySem.stored
          rw[y3 h5 hz.2]; rfl
        have ed:∃ o,h'.get? hd.d=some o:=by
          by_cases q:hd.d=hd.a
          · rw[q]; exact⟨_,q1⟩
          · obtain⟨o,eo⟩:=g.lt _ fd; exact⟨o,(e2.2 _ q).trans eo⟩
        have st:Step [] ρ s ρ { s with heap:=h',toks:=s.toks + 1 }:=rq fa fd (fun b hb _=>e2.2 b hb) ⟨_,q1⟩ ed
        obtain⟨st2,g2⟩:=g.upd (tk:=s.toks + 1) (ob' := .jo (d++[(w.cps.toList,v)])) hk hH (gl rfl) (fun b hb _=>e2.2 b hb) ⟨_,q1⟩ ed ⟨ob',kvs++[(w,val)],q1,h2,⟨es',ep',q2,by rw[← hst]; exact q3⟩,by rw[List.length_append,List.length_singleton]; omega,(ze rv h5).mono st.D1⟩
        exact hQ _ st g2
      · cases h
    · cases h
  · cases h
noncomputable def aSub (f g:EF):AF:=fun v M H=>(f M H).bind fun p=>(g M p.2).bind fun q=>(putAt p.1 q.1 v q.2).map fun H'=>(M,H')
theorem A.sub {o i:PySem.Expr}{pos:Pos}{f g:EF} (h:aA U n sc o f) (h2:aA U n sc i g):i3 U b n sc (.Subscript o i pos) (aSub f g):=by
  intro A env M P ρ R H s Q E v x M' H' hr so gd l ow r hf hQ
  refine bf hf fun p H1 e1 hf=>?_
  refine bf hf fun q H2 e2 hf=>?_
  refine fJ hf fun H3 e3 hf=>?_
  cases hf
  rw[arm_assign_Subscript]
  refine wpAny_bind (wpAny_holding (h A env M P ρ R H s _ E p H1 hr so gd l e1 fun y s1 ρ1 st1 g1 va=>?_))
  refine wpAny_bind (wpAny_holding (h2 A env M P ρ1 R H1 s1 _ E q H2 hr so g1 (l.cT st1) e2 fun z s2 ρ2 st2 g2 vb=>?_))
  refine wpAny_bind (wpAny_standAt (wpAny_bind (wpAny_holding ?_)))
  refine Ki g2 (va.step st2) vb (r.step (st1.trans st2)) e3 fun s3 st3 g3=>wpAny_release (hQ s3 ρ2 ((st1.trans st2).trans st3).any g3 (l.cT ((st1.trans st2).trans st3)))
end
end Mine
end
section
open PySem PySem.W PyProof.Rows PySem.Calls PySem.SeqAt
namespace Mine
section
variable {U:fL}{n:Nat}{sc:Scope}{b:Bool}
structure iT (U:fL) (x:Str) (f:Value):Prop where
  is:nsIn U.K mainGlobals x=some (some f)
  kept:Kept U f
noncomputable def pg (F:a9) (g:LF):EF:=fun M H=>(g M H).bind fun p=>F p.1 p.2
theorem E.fn {i:Nat}{x:Str}{p pos:Pos}{e:PySem.Expr}{es:List PySem.Expr}{f:Value}{F:a9}{g:LF} (h:sc.names[i]? = some (x, .globalImplicit)) (hg:iT U x f) (hF:aO U n f F) (hL:iz U n sc (e::es) g) (he:oo e es:=by exact fun _=>rfl):aA U n sc (.Call (.Name x p) (e::es) [] pos) (pg F g):=by
  intro A env M P ρ R H s Q E v H' hr so gd lr hf hQ
  refine bf hf fun vs H1 e1 hf=>?_
  refine wpAny_Call_NameR (zT h so gd lr hg.is (js hg.kept hL (he env) hr so gd lr e1 fun xs s1 ρ1 st1 g1 vb=>?_))
  exact wpAny_call (hF A ρ1 R H1 s1 Q E vs xs v H' hr g1 vb hf fun x s2 ρ2 st2 g2 vx=>hQ x s2 ρ2 (st1.trans st2) g2 vx)
noncomputable def bS (U:fL) (n:Nat) (name:Str) (c:Nat) (F:a9):Prop:=∃ C f,pK U c C∧name∉C.sI∧findIn U.K (.ref C.addr) name=some (some (.ref f))∧typeIn U.K (.ref f)=some (.type "function")∧Kept U (.ref f)∧aO U n (.ref f) F
noncomputable def aJ (tab:List (Nat × a9)) (f:EF) (g:LF):EF:=fun M H=>(f M H).bind fun p=>(qk p.1 p.2).bind fun c=>(tab.lookup c.1).bind fun F=>(g M p.2).bind fun q=>F (p.1::q.1) q.2
theorem BR {name:Str}{c:Nat}{fs:List V}{F:a9} (hm:bS U n name c F) {A:Around}{ρ:List Hd}{R:List Addr}{H:Hp}{s:Shared}{v:V}{x:Value}{pl:Sem Bool}{Q:Value × List Value→Shared→Prop}{E:Value→Shared→Prop} (g:Good U.toPg U.top ρ R H s.heap) (r:VR U.toPg ⟨s.heap,ρ,R⟩ v x) (e:qk v H=some (c,fs))
    (hQ:∀ f,Kept U (.ref f)→aO U n (.ref f) F→Q (.ref f,[x]) s):wpAny (model U.prog U.w) A (getMethod x name pl) Q E s:=by
  obtain⟨C',f,K,hn,hf,ht,hk,hF⟩:=hm
  obtain⟨C,a,d,es,m,rfl,h1,h2,h3,h4⟩:=zD g r e
  have:C'=C:=by have:=K.is; rw[h1] at this; exact(Option.some.inj this).symm
  subst this
  obtain⟨q1,q2⟩:=Aw h4 (fun z=>hn (List.mem_of_mem_take z))
  refine method_fn g.FZ (sm h2 h3) K.ga K.gm hf ht ?_ (hQ f hk hF)
  show(lookIn name (dictOf es m)).map _=_
  rw[lookIn_dict]
  unfold getL
  rw[q1,q2]
  rfl
theorem E.kA {o a:PySem.Expr}{name:Str}{apos pos:Pos}{args:List PySem.Expr}{tab:List (Nat × a9)}{f:EF}{g:LF} (hf:pG o name apos (a::args) pos) (hm:∀ p∈tab,bS U n name p.1 p.2) (h1:aA U n sc o f) (h2:iz U n sc (a::args) g) (he:oo a args:=by exact fun _=>rfl):
    aA U n sc (.Call (.Attribute o name apos) (a::args) [] pos) (aJ tab f g):=by
  intro A env M P ρ R H s Q E v H' hr so gd lr hfn hQ
  refine bf hfn fun p H1 e1 hfn=>?_
  refine bf hfn fun c fs e2 hfn=>?_
  refine gz hfn fun F e3 hfn=>?_
  refine bf hfn fun q H2 e4 hfn=>?_
  obtain⟨pl,heq⟩:=hf env
  refine methodCall_KW (pl:=pl) (h1 A env M P ρ R H s _ E p H1 hr so gd lr e1 fun x s1 ρ1 st1 g1 va=>?_) heq
  refine BR (hm _ (lookup_mem e3)) g1 va e2 fun fa hk hF=>?_
  refine js hk h2 (he env) hr so g1 (lr.cT st1) e4 fun xs s2 ρ2 st2 g2 vb=>?_
  exact wpAny_call (hF A ρ2 R H2 s2 Q E (p::q) (x::xs) v H' hr g2 (.cons (va.step st2) vb) hfn fun z s3 ρ3 st3 g3 vz=>hQ z s3 ρ3 ((st1.trans st2).trans st3) g3 vz)
theorem E.b8 {o:PySem.Expr}{name:Str}{apos pos:Pos}{tab:List (Nat × a9)}{f:EF} (hf:pG o name apos [] pos) (hm:∀ p∈tab,bS U n name p.1 p.2) (h1:aA U n sc o f):
    aA U n sc (.Call (.Attribute o name apos) [] [] pos) (aJ tab f aj):=by
  intro A env M P ρ R H s Q E v H' hr so gd lr hfn hQ
  refine bf hfn fun p H1 e1 hfn=>?_
  refine bf hfn fun c fs e2 hfn=>?_
  refine gz hfn fun F e3 hfn=>?_
  refine bf hfn fun q H2 e4 hfn=>?_
  cases e4
  obtain⟨pl,heq⟩:=hf env
  refine methodCall_KW (pl:=pl) (h1 A env M P ρ R H s _ E p H1 hr so gd lr e1 fun x s1 ρ1 st1 g1 va=>?_) heq
  refine BR (hm _ (lookup_mem e3)) g1 va e2 fun fa hk hF=>?_
  refine xO hk g1 ?_
  exact wpAny_call (hF A ρ1 R H1 s1 Q E [p] [x] v H' hr g1 (.cons va .nil) hfn fun z s3 ρ3 st3 g3 vz=>hQ z s3 ρ3 (st1.trans st3) g3 vz)
structure vd (U:fL) (n:Nat) (x:Str) (c:Nat) (F:a9):Prop where
  ex:∃ C f,pK U c C∧nsIn U.K mainGlobals x=some (some (.ref C.addr))∧Kept U (.ref C.addr)∧findIn U.K (.ref C.addr) "__init__"=some (some (.ref f))∧typeIn U.K (.ref f)=some (.type "function")∧aO U n (.ref f) F
noncomputable def oq (c:Nat) (F:a9) (g:LF):EF:=fun M H=>(g M H).bind fun p=>(F (.ref p.2.length::p.1) (p.2++[.inst c []])).bind fun r=>match r.1 with
  | .none=>some (.ref p.2.length,r.2)
  | _=>none
theorem ij.under {A:Around} (r:ij (n + 1) A) (args:Args):ij n (A.under (.builtin "type.__call__" args)):=by
  have hw:(Code.builtin "type.__call__" args).weight≤1:=by
    have h1:(Code.builtin "type.__call__" args).frames=0:=rfl
    have h2:(Code.builtin "type.__call__" args).isGuard=false:=by show guardIds.contains "type.__call__"=false; decide +kernel
    have h3:(Code.builtin "type.__call__" args).isCaller=false:=rfl
    unfold Code.weight
    rw[h1,h2,h3]
    simp only[Bool.false_eq_true,if_false]
    split <;> omega
  have hc:(Code.builtin "type.__call__" args).cUnits=1:=rfl
  refine⟨r.hd,?_,?_⟩
  · have:=r.dp; show A.depth + (Code.builtin "type.__call__" args).weight + 2 * n≤600; omega
  · have:=r.un; show A.units + (Code.builtin "type.__call__" args).cUnits + 20 * n≤9000; rw[hc]; omega
theorem E.new {i:Nat}{x:Str}{p pos:Pos}{e:PySem.Expr}{es:List PySem.Expr}{c:Nat}{F:a9}{g:LF} (h:sc.names[i]? = some (x, .globalImplicit)) (hg:vd U n x c F) (hL:iz U (n + 1) sc (e::es) g) (he:oo e es):aA U (n + 1) sc (.Call (.Name x p) (e::es) [] pos) (oq c F g):=by
  intro A env M P ρ R H s Q E v H' hr so gd lr hf hQ
  refine bf hf fun vs H1 e1 hf=>?_
  refine bf hf fun r H2 e2 hf=>?_
  obtain⟨C,f,K,hx,hk,hi,ht,hF⟩:=hg.ex
  refine wpAny_Call_NameR (zT h so gd lr hx (js hk hL (he env) hr so gd lr e1 fun xs s1 ρ1 st1 g1 vb=>?_))
  refine wpAny_call ?_
  obtain⟨hp,gn,dr,tk,os⟩:=s1
  refine make_core (makes_of g1.FZ K.make) (looks_findIn g1.FZ hi) (fun self=>bind_fn g1.FZ self ht) (.inl rfl) ?_
  have hn1:hp.get? hp.objs.size=none:=Heap.get?_none_of_le (Nat.le_refl _)
  have hn2:hp.get? (hp.objs.size + 1)=none:=Heap.get?_none_of_le (Nat.le_succ _)
  have kp:∀ b o,hp.get? b=some o→((hp.push emptyDict).push (instObj C.addr hp.objs.size)).get? b=some o:=fun b o e=>Heap.get?_push_of_some _ (Heap.get?_push_of_some _ e)
  have ga:((hp.push emptyDict).push (instObj C.addr hp.objs.size)).get? (hp.objs.size + 1)=some (instObj C.addr hp.objs.size):=by
    have:=Heap.get?_push_size (hp.push emptyDict) (o:=instObj C.addr hp.objs.size) rfl
    rwa [Heap.size_push] at this
  have gdd:((hp.push emptyDict).push (instObj C.addr hp.objs.size)).get? hp.objs.size=some (dictOf [] 0):=Heap.get?_push_of_some _ (Heap.get?_push_size _ rfl)
  let hd:Hd:=⟨hp.objs.size + 1,hp.objs.size,true⟩
  have st2:Step [] ρ1 ⟨hp,gn,dr,tk,os⟩ (ρ1++[hd]) ⟨(hp.push emptyDict).push (instObj C.addr hp.objs.size),gn,dr,tk,os⟩:=step_alloc (s:=⟨hp,gn,dr,tk,os⟩) (hd:=hd) (tk:=tk) kp hn2 hn1
  have g2:Good U.toPg U.top (ρ1++[hd]) R (H1++[.inst c []]) ((hp.push emptyDict).push (instObj C.addr hp.objs.size)):=
    Good.alloc (hd:=hd) g1 rfl _ kp hn2 hn1 ⟨_,ga⟩ ⟨_,gdd⟩ ⟨C,[],0,K.is,ga,gdd, .nil,Nat.succ_ne_self _⟩
  have vself:VR U.toPg ⟨(hp.push emptyDict).push (instObj C.addr hp.objs.size),ρ1++[hd],R⟩ (.ref H1.length) (.ref (hp.objs.size + 1)):=DG (hd:=hd) g1
  have hroom:ij n (A.under (.builtin "type.__call__" ⟨.ref C.addr::([]++xs),[]⟩)):=hr.under _
  refine codeAny_mono (hF _ (ρ1++[hd]) R (H1++[.inst c []]) _ (fun y s3=>y = .none∧Q (.ref (hp.objs.size + 1)) s3) E (.ref H1.length::vs) (.ref (hp.objs.size + 1)::xs) r H2 hroom g2 (.cons vself (eZ.step vb st2)) e2 fun y s3 ρ3 st3 g3 vy=>?_) fun rr s3 z=>?_
  · dsimp only at hf
    split at hf
    · cases hf
      refine⟨HT vy,hQ _ s3 ρ3 ((st1.trans st2).trans st3) g3 ?_⟩
      exact vself.mono (st3.D1)
    · cases hf
  · rcases rr with e | (v | _ | _ | _) <;> first | exact z | exact z.elim
end
end Mine
end
section
open PySem PySem.W PyProof.Rows PySem.Calls PySem.SeqAt
namespace Mine
section
variable {U:fL}{n:Nat}{sc:Scope}{b:Bool}
noncomputable abbrev PF:=Loc→Hp→Option (Option Int × Hp)
noncomputable def pM:PF:=fun _ H=>some (none,H)
noncomputable def eO (f:EF):PF:=fun M H=>(f M H).bind fun p=>match p.1 with
  | .int i=>some (some i,p.2)
  | _=>none
noncomputable def qv:Option (Int × Tok)→Value
  | none => .none
  | some q => .int q.1 q.2
theorem Ez:∀ (p:Option (Int × Tok)),IsPart (qv p) (p.map (·.1))
  | none => .none
  | some q => .int _ _
noncomputable def zQ (U:fL) (n:Nat) (sc:Scope) (e:Option PySem.Expr) (f:PF):Prop:=
  ∀ (A:Around) (env:Env) (M:Loc) (P:List Addr) (ρ:List Hd) (R:List Addr) (H:Hp) (s:Shared) (Q:Value→Shared→Prop) (E:Value→Shared→Prop) (o:Option Int) (H':Hp),
    ij n A→jX sc→Good U.toPg U.top ρ R H s.heap→cX U.toPg sc env M P ρ R s.heap→f M H=some (o,H')→
    (∀ p s' ρ',Step [] ρ s ρ' s'→Good U.toPg U.top ρ' R H' s'.heap→Q (qv p) s'∨p.map (·.1)≠o)→
    wpAny (model U.prog U.w) A (evalPart e env) Q E s
theorem P.none:zQ U n sc none pM:=by
  intro A env M P ρ R H s Q E o H' hr so gd l hf hQ
  cases hf
  exact evalPart_none_step ((hQ Option.none s ρ .refl gd).resolve_right fun h=>h rfl)
theorem P.some {e:PySem.Expr}{f:EF} (h:aA U n sc e f):zQ U n sc (some e) (eO f):=by
  intro A env M P ρ R H s Q E o H' hr so gd l hf hQ
  refine bf hf fun v H1 e1 hf=>?_
  refine evalPart_some_step (h A env M P ρ R H s _ E v H1 hr so gd l e1 fun x s1 ρ1 st1 g1 va=>?_)
  dsimp only at hf
  split at hf
  · cases hf
    obtain⟨t,rfl⟩:=gJ va
    exact(hQ (Option.some (_,t)) s1 ρ1 st1 g1).resolve_right fun h=>h rfl
  · cases hf
noncomputable def IW (lo hi:Option Int):V→Hp→Option V
  | .str s,_=>if qs lo hi then some (.str (jy lo hi s)) else none
  | v,H=>(cw v H).bind fun l=>if qs lo hi then some (.lst (jy lo hi l)) else none
noncomputable def d9 (f:EF) (lo hi:PF):EF:=fun M H=>(f M H).bind fun p=>(lo M p.2).bind fun q=>(hi M q.2).bind fun r=>(IW q.1 r.1 p.1 r.2).map fun v=>(v,r.2)
theorem EJ {α:Type} (lo hi:Option Int) (l:List α):(jy lo hi l).length≤l.length:=by
  exact(CA lo hi l).length_le
theorem eZ.drop {G:Pg}{s:Vw}:∀ {l:List V}{xs:List Value} (i:Nat),eZ G s l xs→eZ G s (l.drop i) (xs.drop i)
  | _,_,0,h=>h
  | _,_,i + 1, .nil=>by simpa using eZ.nil
  | _,_,i + 1, .cons _ t=>by simpa using eZ.drop i t
theorem eZ.take {G:Pg}{s:Vw}:∀ {l:List V}{xs:List Value} (i:Nat),eZ G s l xs→eZ G s (l.take i) (xs.take i)
  | _,_,0,h=>by simpa using eZ.nil
  | _,_,i + 1, .nil=>by simpa using eZ.nil
  | _,_,i + 1, .cons h t=>by simpa using eZ.cons h (eZ.take i t)
theorem eZ.cut {G:Pg}{s:Vw}{l:List V}{xs:List Value} (lo hi:Option Int) (h:eZ G s l xs):eZ G s (jy lo hi l) (jy lo hi xs):=by
  unfold jy
  rw[h.length]
  exact(h.drop _).take _
theorem yK (xs:List Value) (lo hi:Option Int) (h:qs lo hi=true):slicePick xs.toArray lo hi none=(jy lo hi xs).toArray:=by
  unfold qs at h
  rw[Bool.and_eq_true] at h
  rw[slicePick_plain]
  simp only[List.size_toArray]
  congr 1
  have c:∀ i:Int,0≤i→clipAt xs.length i=min i.toNat xs.length:=fun i hi=>by
    obtain⟨j,rfl⟩:=Int.eq_ofNat_of_zero_le hi
    rw[clipAt_nat]; rfl
  rw[← CG]
  congr 1
  · congr 1
    · cases hi with
      | none=>rfl
      | some j=>exact c j (of_decide_eq_true h.2)
    · cases lo with
      | none=>rfl
      | some i=>exact c i (of_decide_eq_true h.1)
  · cases lo with
    | none=>rfl
    | some i=>show List.drop _ _=List.drop _ _; congr 1; exact c i (of_decide_eq_true h.1)
theorem E1 {G:Pg}{s:Vw}{x:Str}{t:Tok}{lo hi:Option Int}{l:List Nat} (hx:x.cps.toList=l) (hz:x.cps.size≤1048576) (h:qs lo hi=true):VR G s (.str (jy lo hi l)) (.str (Txt.slice x lo hi) t):=by
  rw[← hx,← zp x lo hi h]
  refine .str _ _ ?_
  rw[← Array.length_toList,zp x lo hi h]
  exact Nat.le_trans (EJ _ _ _) (by rw[Array.length_toList]; exact hz)
theorem FS {prog:Program}{w:World}{A:Around}{E:Value→Shared→Prop}{s:Shared}{env:Env}{pos:Pos}{value:PySem.Expr}{lower upper:Option PySem.Expr}{p:Pos}{Q:Value→Shared→Prop}
    (h:wpAny (model prog w) A (eval value env) (fun o s₁=>wpAny (model prog w) A (eval (.Slice lower upper none p) env) (fun i s₂=>ItemOn (model prog w) A E o i Q s₂) E s₁) E s):
    wpAny (model prog w) A (eval (.Subscript value (.Slice lower upper none p) pos) env) Q E s:=by
  rw[eval_Subscript]
  refine wpAny_bind (wpAny_mono h (fun o s₁ h₁=>wpAny_bind (wpAny_holding (wpAny_mono h₁ (fun i s₂ h₂=>wpAny_bind (wpAny_standAt ?_)) fun _ _ x=>x)))
    fun _ _ x=>x)
  obtain⟨T,id,hl,hT,hg⟩:=h₂
  first
    | (refine wpAny_bind ?_; rw[getitemInPython_of_ne hT.not_modules]; refine wpAny_bind (wpAny_specialOf hT hl ?_))
    | refine wpAny_bind (wpAny_specialOf hT hl ?_)
  have fin:wpAny (model prog w) A (operate [i,o] (getItem o i)) (fun r s₃=>wpAny (model prog w) A (letTemporaryGo value o r >>= fun _=>pure r) Q E s₃) E s₂:=
    wpAny_operating (wpAny_mono hg (fun r s₃ h₃=>wpAny_bind (wpAny_letTemporaryGo (wpAny_pure h₃))) fun _ _ x=>x)
  first
    | exact wpAny_pure (wpAny_bind fin)
    | exact wpAny_bind (wpAny_pure (wpAny_bind fin))
    | exact wpAny_bind fin
theorem E.slice {value:PySem.Expr}{lower upper:Option PySem.Expr}{p pos:Pos}{f:EF}{lo hi:PF} (h:aA U n sc value f) (h1:zQ U n sc lower lo) (h2:zQ U n sc upper hi):aA U n sc (.Subscript value (.Slice lower upper none p) pos) (d9 f lo hi):=by
  intro A env M P ρ R H s Q E v H' hr so gd l hf hQ
  refine cps fun CC KK=>?_
  refine bf hf fun a H1 e1 hf=>?_
  refine bf hf fun i H2 e2 hf=>?_
  refine bf hf fun j H3 e3 hf=>?_
  refine fJ hf fun w e4 hf=>?_
  cases hf
  refine KK (FS (h A env M P ρ R H s _ E a H1 hr so gd l e1 fun x s1 ρ1 st1 g1 va=>wpAny_Slice ?_))
  have l1:=l.cT st1
  refine h1 A env M P ρ1 R H1 s1 _ E i H2 hr so g1 l1 e2 fun pi s2 ρ2 st2 g2=>?_
  by_cases qi:pi.map (·.1)=i
  rotate_left
  · exact .inr qi
  refine .inl ?_
  have l2:=l1.cT st2
  refine h2 A env M P ρ2 R H2 s2 _ E j H3 hr so g2 l2 e3 fun pj s3 ρ3 st3 g3=>?_
  by_cases qj:pj.map (·.1)=j
  rotate_left
  · exact .inr qj
  refine .inl (evalPart_none_step ?_)
  have st13:=st2.trans st3
  have va3:=va.step st13
  have stT:=st1.trans st13
  dsimp only at e4
  have lists:∀ {l0:List V},cw a H3=some l0→qs i j=true→v = .lst (jy i j l0)→ItemOn (model U.prog U.w) A E x (.ref s3.heap.objs.size) Q { s3 with heap:=s3.heap.push { cls := .type "slice",data := .fields #[qv pi,qv pj, .none] } }:=fun {l0} q1 q2 q3=>by
    subst q3
    refine i8 g3 va3 q1 fun c xs m e_3 h1 hz hv=>?_
    subst e_3
    have hl:=(bD h1).push { cls := .type "slice",data := .fields #[qv pi,qv pj, .none] }
    subst qi qj
    refine⟨"list",_,slot_list_getitem.lookup,hl.typeIs,wpAny_getItem_list_slice hl (Heap.IsSliceOf.new ..) (Ez pi) (Ez pj) .none (by simp) ?_ (by rw[List.size_toArray,sizeLine_eq]; omega)⟩
    have k1:∀ b o,s3.heap.get? b=some o→((s3.heap.push { cls := .type "slice",data := .fields #[qv pi,qv pj, .none] }).push { cls := .type "list",data := .seq (slicePick xs.toArray (pi.map (·.1)) (pj.map (·.1)) none) }).get? b=some o:=fun b o e=>Heap.get?_push_of_some _ (Heap.get?_push_of_some _ e)
    have st5:Step [] ρ3 s3 ρ3 { s3 with heap:=(s3.heap.push { cls := .type "slice",data := .fields #[qv pi,qv pj, .none] }).push { cls := .type "list",data := .seq (slicePick xs.toArray (pi.map (·.1)) (pj.map (·.1)) none) },toks:=s3.toks }:=cm k1
    refine hQ _ _ ρ3 (stT.trans st5) (g3.grow k1) ?_
    have g4:=g3.push (o:={ cls := .type "slice",data := .fields #[qv pi,qv pj, .none] }) (tk:=s3.toks)
    have fx:=rQ (o:={ cls := .type "list",data := .seq (slicePick xs.toArray (pi.map (·.1)) (pj.map (·.1)) none) }) g4 rfl
    refine .lst (n:=⟨0,none,#[]⟩) (xs:=jy (pi.map (·.1)) (pj.map (·.1)) xs) ?_ (Nat.le_trans (EJ _ _ _) hz) ((eZ.cut _ _ hv).mono st5.D1)
    rw[yK xs _ _ q2] at fx ⊢
    exact fx
  refine cps fun CC2 K2=>?_
  cases a with
  | str xs=>
    simp only[IW] at e4
    split at e4
    rotate_left
    · cases e4
    rename_i hc
    cases e4
    refine ee va3 fun y t e_2 hy hz=>?_
    subst e_2
    have kh:KeptH (fun h=>∀ b o,s3.heap.get? b=some o→h.get? b=some o):=fun h ob hp b o e=>Heap.get?_push_of_some _ (hp b o e)
    have fin:∀ h' t' k,(∀ b o,s3.heap.get? b=some o→h'.get? b=some o)→Q (.str (Txt.slice y i j) t') { s3 with heap:=h',toks:=k }:=fun h' t' k hk=>
      hQ _ _ ρ3 (stT.trans (cm (tk:=k) hk)) (g3.grow hk) (E1 hy hz hc)
    subst qi qj
    have hsz:y.length≤sizeLine:=by rw[str_len,sizeLine_eq]; omega
    cases pi with
    | none=>
      cases pj with
      | none=>exact K2 (SBH.sliceItem_nn kh (fun _ _ e=>e) fin hsz)
      | some q=>exact K2 (SBH.sliceItem_ns kh (fun _ _ e=>e) fin hsz)
    | some p=>
      cases pj with
      | none=>exact K2 (SBH.sliceItem_sn kh (fun _ _ e=>e) fin hsz)
      | some q=>exact K2 (SBH.sliceItem_ss kh (fun _ _ e=>e) fin hsz)
  | lst xl=>
    have e4':((cw (.lst xl) H3).bind fun l=>if qs i j then some (V.lst (jy i j l)) else none)=some v:=e4
    refine gz e4' fun l0 q1 q2=>?_
    split at q2
    · rename_i hc; exact K2 (lists q1 hc (Option.some.inj q2).symm)
    · cases q2
  | ref k=>
    have e4':((cw (.ref k) H3).bind fun l=>if qs i j then some (V.lst (jy i j l)) else none)=some v:=e4
    refine gz e4' fun l0 q1 q2=>?_
    split at q2
    · rename_i hc; exact K2 (lists q1 hc (Option.some.inj q2).symm)
    · cases q2
  | _=>simp only[IW,cw] at e4; cases e4
theorem E.item {value slice:PySem.Expr}{pos:Pos}{f g:EF} (h:aA U n sc value f) (h1:aA U n sc slice g) (hs:∀ o i,subscripted slice false o i=operate [o,i] (getItem o i):=by exact fun _ _=>rfl):aA U n sc (.Subscript value slice pos) (av aI f g):=by
  intro A env M P ρ R H s Q E v H' hr so gd l hf hQ
  refine bf hf fun a H1 e1 hf=>?_
  refine bf hf fun i H2 e2 hf=>?_
  refine fJ hf fun c e3 hf=>?_
  cases hf
  refine Subscript_ (h A env M P ρ R H s _ E a H1 hr so gd l e1 fun x s1 ρ1 st1 g1 va=>?_)
  refine h1 A env M P ρ1 R H1 s1 _ E i H2 hr so g1 (l.cT st1) e2 fun y s2 ρ2 st2 g2 vb=>?_
  exact Ko (value:=value) hs A ρ2 R H2 s2 _ E a i v x y (hr.le (Nat.zero_le _)) g2 (va.step st2) vb e3 fun z s3 st3 g3 vc=>hQ z s3 ρ2 ((st1.trans st2).trans st3) g3 vc
end
end Mine
end
section
open PySem PySem.W PyProof.Rows PySem.Calls PySem.SeqAt
namespace Mine
section
variable {U:fL}{n:Nat}{sc:Scope}{b:Bool}
noncomputable def kF (g:LF):EF:=fun M H=>(g M H).bind fun p=>if p.1.length≤1048576 then some (.ref p.2.length,p.2++[.lst p.1]) else none
theorem xq {ρ:List Hd}{R:List Addr}{H:Hp}{s:Shared}{l:List V}{xs:List Value}{tk:Nat} (g:Good U.toPg U.top ρ R H s.heap) (hv:eZ U.toPg ⟨s.heap,ρ,R⟩ l xs) (hz:l.length≤1048576):
    Step [] ρ s (ρ++[⟨s.heap.objs.size,s.heap.objs.size,true⟩]) { s with heap:=s.heap.push { cls := .type "list",data := .seq xs.toArray },toks:=tk }∧
    Good U.toPg U.top (ρ++[⟨s.heap.objs.size,s.heap.objs.size,true⟩]) R (H++[.lst l]) (s.heap.push { cls := .type "list",data := .seq xs.toArray })∧
    VR U.toPg ⟨s.heap.push { cls := .type "list",data := .seq xs.toArray },ρ++[⟨s.heap.objs.size,s.heap.objs.size,true⟩],R⟩ (.ref H.length) (.ref s.heap.objs.size):=by
  have hn:s.heap.get? s.heap.objs.size=none:=Heap.get?_none_of_le (Nat.le_refl _)
  have ha:(s.heap.push { cls := .type "list",data := .seq xs.toArray }).get? s.heap.objs.size=some (ny xs ⟨0,none,#[]⟩):=Heap.get?_push_size _ rfl
  have st:=step_alloc (tk:=tk) (hd:=⟨s.heap.objs.size,s.heap.objs.size,true⟩) (ρ:=ρ) (s:=s) (cN (o:={ cls := .type "list",data := .seq xs.toArray })) hn hn
  exact⟨st,Good.alloc (hd:=⟨s.heap.objs.size,s.heap.objs.size,true⟩) g rfl _ cN hn hn ⟨_,ha⟩ ⟨_,ha⟩ ⟨xs,0,ha,by rw[hv.length]; exact hz,hv.mono st.D1⟩,DG (hd:=⟨s.heap.objs.size,s.heap.objs.size,true⟩) g⟩
theorem E.ti {es:List PySem.Expr}{pos}{g:LF} (h:iz U n sc es g):aA U n sc (.List es pos) (kF g):=by
  intro A env M P ρ R H s Q E v H' hr so gd lr hf hQ
  refine bf hf fun vs H1 e1 hf=>?_
  split at hf
  · rename_i hz
    cases hf
    refine wpAny_List_spliced (h.run A env M P ρ R H s _ E vs H1 pos hr so gd lr e1 fun xs s1 ρ1 st1 g1 vb=>?_)
    have l:=vb.length
    obtain⟨st2,g2,v2⟩:=xq (tk:=s1.toks) g1 vb hz
    exact⟨by rw[sizeLine_eq]; simp only at hz; omega,hQ _ _ _ (st1.trans st2) g2 v2⟩
  · cases hf
noncomputable def He:EF:=fun M H=>some (.ref H.length,H++[.jo []])
theorem E.La {pos:Pos}:aA U n sc (.Dict [] [] pos) He:=by
  intro A env M P ρ R H s Q E v H' hr so gd lr hf hQ
  cases hf
  have hn:s.heap.get? s.heap.objs.size=none:=Heap.get?_none_of_le (Nat.le_refl _)
  have ha:(s.heap.push { cls := .type "dict",data := .dict #[] }).get? s.heap.objs.size=some { cls := .type "dict",data := .dict #[] }:=Heap.get?_push_size _ rfl
  have st:=step_alloc (tk:=s.toks) (hd:=⟨s.heap.objs.size,s.heap.objs.size,true⟩) (ρ:=ρ) (s:=s) (cN (o:={ cls := .type "dict",data := .dict #[] })) hn hn
  refine wpAny_Dict_empty (hQ _ _ _ st (Good.alloc (hd:=⟨s.heap.objs.size,s.heap.objs.size,true⟩) gd rfl _ cN hn hn ⟨_,ha⟩ ⟨_,ha⟩ ?_) (DG (hd:=⟨s.heap.objs.size,s.heap.objs.size,true⟩) gd))
  obtain⟨o,es,ep,e1,e2⟩:=Heap.DictOf.new (knd:=PySem.strKind U.prog U.w) s.heap
  refine⟨o,[],e1,?_,⟨es,ep,e2⟩,Nat.zero_le _, .nil⟩
  intro z
  obtain⟨o2,es2,ep2,e,_⟩:=U.T.g
  have hlt:=Heap.lt_size (gd.keep _ _ e)
  have z':s.heap.objs.size=1:=z
  rw[z'] at hlt
  exact absurd hlt (by decide)
noncomputable def Ew (f g:EF):EF:=fun M H=>(f M H).bind fun p=>(g M p.2).bind fun q=>match p.1,q.1 with
  | .lst l, .lst l'=>if l.length + l'.length≤1048576 then some (.ref q.2.length,q.2++[.lst (l++l')]) else none
  | _,_=>none
theorem E.Lv {l r:PySem.Expr}{pos:Pos}{f g:EF} (h1:aA U n sc l f) (h2:aA U n sc r g):aA U n sc (.BinOp l .Add r pos) (Ew f g):=by
  intro A env M P ρ R H s Q E v H' hr so gd lr hf hQ
  refine bf hf fun a H1 e1 hf=>?_
  refine bf hf fun b H2 e2 hf=>?_
  refine wpAny_BinOp (h1 A env M P ρ R H s _ E a H1 hr so gd lr e1 fun x s1 ρ1 st1 g1 va=>?_)
  refine h2 A env M P ρ1 R H1 s1 _ E b H2 hr so g1 (lr.cT st1) e2 fun y s2 ρ2 st2 g2 vb=>?_
  dsimp only at hf
  split at hf
  · split at hf
    · rename_i hz
      cases hf
      refine ke (va.step st2) fun a xs m e_3 hf hx hv=>?_
      subst e_3
      refine ke vb fun a' xs' m' e_3 hf' hx' hv'=>?_
      subst e_3
      have l1:=hv.length; have l2:=hv'.length
      refine concat_meets ⟨_,hf.1,rfl⟩ ⟨_,hf'.1,rfl⟩ noFill_list_add seq_list_add PySem.F.slot_list_add PySem.F.entry_list_add (PySem.F.args_list_add_2 _ _) (list_addW a a' xs.toArray xs'.toArray m.n m'.n none none m.sl m'.sl (by simp only[List.size_toArray,sizeLine_eq]; omega)) ⟨hf.1,hf'.1,?_⟩
      obtain⟨st3,g3,v3⟩:=xq (tk:=s2.toks) g2 (hv.append hv') (by rw[List.length_append]; exact hz)
      have e:xs.toArray++xs'.toArray=(xs++xs').toArray:=by simp
      rw[e]
      exact hQ _ _ _ ((st1.trans st2).trans st3) g3 v3
    · cases hf
  · cases hf
noncomputable def frozen (k:Nat) (H:Hp):Option (V × Hp):=match H[k]? with
  | some (.lst l)=>some (.lst l,H.set k .dead)
  | some (.jo l)=>some (.jo l,H.set k .dead)
  | some (.inst c fs)=>some (.inst c fs,H.set k .dead)
  | _=>none
theorem zu {ρ:List Hd}{R:List Addr}{H H':Hp}{s:Shared}{k:Nat}{v:V}{x:Value} (g:Good U.toPg U.top ρ R H s.heap) (r:VR U.toPg ⟨s.heap,ρ,R⟩ (.ref k) x) (h:frozen k H=some (v,H')):
    ∃ ρ',Step [] ρ s ρ' s∧Good U.toPg U.top ρ' R H' s.heap∧VR U.toPg ⟨s.heap,ρ',R⟩ v x:=by
  refine oW r fun hd hk e_2=>?_
  subst e_2
  dsimp only at hk
  unfold frozen at h
  split at h
  · rename_i l hH
    cases h
    obtain⟨st,g',fx,le⟩:=g.freeze hk hH (gl rfl)
    obtain⟨_,xs,m,h1,h2,h3⟩:=g.ob k _ hd hH hk (gl rfl)
    exact⟨_,st,g', .lst (n:=⟨m,none,#[]⟩) (fx _ h1) h2 (h3.mono le)⟩
  · rename_i l hH
    cases h
    obtain⟨st,g',fx,le⟩:=g.freeze hk hH (gl rfl)
    obtain⟨_,o,kvs,h1,h2,h3,h4,h5⟩:=g.ob k _ hd hH hk (gl rfl)
    exact⟨_,st,g', .jo (fx _ h1) h2 h3 h4 (h5.mono le)⟩
  · rename_i c fs hH
    cases h
    obtain⟨st,g',fx,le⟩:=g.freeze hk hH (gl rfl)
    obtain⟨hl,C,es,m,h1,h2,h3,h4,h5⟩:=g.ob k _ hd hH hk (gl rfl)
    have fa:hd.a∈foot ρ:=bT.mpr ⟨k,hd,hk,hl, .inl rfl⟩
    have fd:hd.d∈foot ρ:=bT.mpr ⟨k,hd,hk,hl, .inr rfl⟩
    refine⟨_,st,g', .inst h1 (fx _ h2) ⟨h3,fun q=>?_,g.rs _ fd⟩ (h4.mono le)⟩
    obtain⟨j,hd2,e,hl2,q⟩:=bT.mp q
    by_cases hj:k=j
    · subst hj
      rw[List.getElem?_set_self (List.getElem?_eq_some_iff.mp hk).1] at e
      cases e; cases hl2
    · rw[List.getElem?_set_ne hj] at e
      obtain⟨n1,n2,n3,n4⟩:=g.nd k j hd hd2 hk e hl hl2 hj
      rcases q with q | q
      · exact n3 q
      · exact n4 q
  · cases h
noncomputable def iZ (f:EF):EF:=fun M H=>(f M H).bind fun p=>match p.1 with
  | .ref k=>frozen k p.2
  | _=>none
theorem E.vD {e:PySem.Expr}{f:EF} (h:aA U n sc e f):aA U n sc e (iZ f):=by
  intro A env M P ρ R H s Q E v H' hr so gd lr hf hQ
  refine bf hf fun a H1 e1 hf=>?_
  refine h A env M P ρ R H s _ E a H1 hr so gd lr e1 fun x s1 ρ1 st1 g1 va=>?_
  dsimp only at hf
  split at hf
  · obtain⟨ρ2,st2,g2,v2⟩:=zu g1 va hf
    exact hQ x s1 ρ2 (st1.trans st2) g2 v2
  · cases hf
theorem cX.K8 {G:Pg}{env:Env}{M:Loc}{P:List Addr}{ρ:List Hd}{R:List Addr}{h:Heap}{i:Nat}{v v':V} (l:cX G sc env M P ρ R h) (hM:M[i]? = some (some v)) (q:∀ x,VR G ⟨h,ρ,R⟩ v x→VR G ⟨h,ρ,R⟩ v' x):cX G sc env (M.set i (some v')) P ρ R h:=by
  have at_:∀ {j:Nat}{w:V},(M.set i (some v'))[j]? = some (some w)→∃ u,M[j]? = some (some u)∧∀ x,VR G ⟨h,ρ,R⟩ u x→VR G ⟨h,ρ,R⟩ w x:=fun {j w} e=>by
    by_cases hij:i=j
    · subst hij
      rw[List.getElem?_set_self (List.getElem?_eq_some_iff.mp hM).1] at e
      cases e
      exact⟨v,hM,q⟩
    · rw[List.getElem?_set_ne hij] at e
      exact⟨w,e,fun _ h=>h⟩
  obtain⟨m,hn,hm⟩:=l.loc
  refine⟨l.scope,l.HG,l.Jd,⟨m,hn,fun j x w e1 e2=>?_⟩,fun j x k w e1 hk e2=>?_,l.own,l.Ju,l.Js,l.AB,l.Ic⟩
  · obtain⟨u,e3,e4⟩:=at_ e2
    obtain⟨val,h1,h2⟩:=hm j x u e1 e3
    exact⟨val,h1,e4 _ h2⟩
  · obtain⟨u,e3,e4⟩:=at_ e2
    obtain⟨c,val,h1,h2,h3⟩:=l.vp j x k u e1 hk e3
    exact⟨c,val,h1,h2,e4 _ h3⟩
noncomputable def Gp (i:Nat) (f:SF):SF:=fun M H=>match M[i]?.join with
  | some (.ref k)=>(frozen k H).bind fun p=>f (M.set i (some p.1)) p.2
  | _=>none
theorem S.vD {ss:List Stmt}{f:SF}{i:Nat} (h:aK U n sc ss f):aK U n sc ss (Gp i f):=by
  intro A env M P ρ R H s Q E r M' H' hr so gd l o hf hQ
  unfold Gp at hf
  split at hf
  · rename_i k hM
    refine bf hf fun v H1 e1 hf=>?_
    have hM':=join_some hM
    have hk:∃ hd,ρ[k]? = some hd:=by
      have:k < ρ.length:=by
        rw[gd.len]
        unfold frozen at e1
        cases q:H[k]? with
        | none=>rw[q] at e1; cases e1
        | some ob=>exact(List.getElem?_eq_some_iff.mp q).1
      exact⟨_,List.getElem?_eq_getElem this⟩
    obtain⟨hd,hk⟩:=hk
    obtain⟨ρ',st,g',hv⟩:=zu (s:=s) gd (VR.ref (G:=U.toPg) (s:=⟨s.heap,ρ,R⟩) hk) e1
    have hv':∀ x,VR U.toPg ⟨s.heap,ρ',R⟩ (.ref k) x→VR U.toPg ⟨s.heap,ρ',R⟩ v x:=fun x hx=>by
      refine oW hx fun hd2 hk2 e_2=>?_
      subst e_2
      obtain⟨hd3,hk3,e3⟩:=st.ext k hd hk
      dsimp only at hk2
      rw[hk2] at hk3; cases hk3
      rw[e3]; exact hv
    exact h A env _ P ρ' R H1 s Q E r M' H' hr so g' ((l.cT st).K8 hM' hv') o hf fun y s2 ρ2 st2 g2 l2 fr=>hQ y s2 ρ2 (st.any.trans st2) g2 l2 fr
  · cases hf
end
end Mine
end
section
open PySem PySem.W PyProof.Rows PySem.Calls PySem.SeqAt
namespace Mine
section
variable {U:fL}{n:Nat}{sc:Scope}{b:Bool}
theorem pT {A:Around}{H:Hp}{ρ:List Hd}{R:List Addr}{s:Shared}{v:V}{x:Value}{l:List V}{name:Str}{id:String}{pl:Sem Bool}{Q:Value × List Value→Shared→Prop}{E:Value→Shared→Prop} (slot:Slot "list" name id) (hty:typeOf (.builtin id)=pure (.type "method_descriptor"))
    (g:Good U.toPg U.top ρ R H s.heap) (r:VR U.toPg ⟨s.heap,ρ,R⟩ v x) (e:cw v H=some l) (hQ:Q (.builtin id,[x]) s):wpAny (model U.prog U.w) A (getMethod x name pl) Q E s:=by
  refine i8 g r e fun a xs m e_3 h1 hz hv=>?_
  subst e_3
  exact getMethod_list_of slot hty (bD h1) ⟨_,h1,rfl⟩ hQ
noncomputable def cu (f g:EF):EF:=fun M H=>(f M H).bind fun p=>match p.1 with
  | .ref k=>match p.2[k]? with
    | some (.lst _)=>(g M p.2).bind fun q=>match q.2[k]? with
      | some (.lst l)=>if l.length < 1048576 then some (.none,q.2.set k (.lst (l++[q.1]))) else none
      | _=>none
    | _=>none
  | _=>none
theorem E.append {o a:PySem.Expr}{apos pos:Pos}{f g:EF} (hf:pG o (PySem.Str.ofString "append") apos [a] pos) (h1:aA U n sc o f) (h2:aA U n sc a g) (he:oo a []:=by exact fun _=>rfl):aA U n sc (.Call (.Attribute o (PySem.Str.ofString "append") apos) [a] [] pos) (cu f g):=by
  intro A env M P ρ R H s Q E v H' hr so gd lr hfn hQ
  refine bf hfn fun p H1 e1 hfn=>?_
  obtain⟨pl,heq⟩:=hf env
  refine methodCall_KW (pl:=pl) (h1 A env M P ρ R H s _ E p H1 hr so gd lr e1 fun x s1 ρ1 st1 g1 va=>?_) heq
  dsimp only at hfn
  split at hfn
  · split at hfn
    · rename_i k l0 hH
      refine bf hfn fun q H2 e2 hfn=>?_
      dsimp only at hfn
      split at hfn
      · split at hfn
        · rename_i l hH2 hz
          cases hfn
          refine pT PySem.F.slot_list_append PySem.F.type_list_append g1 va (eE.mpr hH) ?_
          refine js (.inl ⟨_,rfl⟩) (L.c1 h2 L.n0 he) (he env) hr so g1 (lr.cT st1) (vs:=[q]) (H':=H2) (by show(g M H1).bind _=_; rw[e2]; rfl) fun xs s2 ρ2 st2 g2 vb=>?_
          cases vb with | cons vq vn=>cases vn with | nil=>
          rename_i zq
          refine oW (va.step st2) fun hd hk ex=>?_
          subst ex
          obtain⟨hl,fa,fd⟩:=tH g2 hk hH2 (gl rfl)
          obtain⟨_,ys,m,h3,h4,h5⟩:=g2.ob _ _ hd hH2 hk (gl rfl)
          have ly:=h5.length
          refine wpAny_list_append_plain ⟨m,h3⟩ (fun h' pl' sb=>?_) (by rw[sizeLine_eq,List.size_toArray]; omega)
          obtain⟨m',hm'⟩:=pl'
          have hm2:h'.get? hd.a=some (ny (ys++[zq]) ⟨m',none,#[]⟩):=by rw[hm']; simp
          have ed:∃ o,h'.get? hd.d=some o:=by
            by_cases z:hd.d=hd.a
            · rw[z]; exact⟨_,hm'⟩
            · obtain⟨o,eo⟩:=g2.lt _ fd; exact⟨o,(sb.2 _ z).trans eo⟩
          have st3:Step [] ρ2 s2 ρ2 { s2 with heap:=h',toks:=s2.toks }:=rq fa fd (fun b hb _=>sb.2 b hb) ⟨_,hm'⟩ ed
          obtain⟨_,g3⟩:=g2.upd (tk:=s2.toks) (ob' := .lst (l++[q])) hk hH2 (gl rfl) (fun b hb _=>sb.2 b hb) ⟨_,hm'⟩ ed ⟨_,m',hm2,by rw[List.length_append,List.length_singleton]; omega,(h5.append (.cons vq .nil)).mono st3.D1⟩
          exact hQ _ _ ρ2 ((st1.trans st2).trans st3) g3 .none
        · cases hfn
      · cases hfn
    · cases hfn
  · cases hfn
noncomputable def tE (f:EF):EF:=fun M H=>(f M H).bind fun p=>match p.1 with
  | .ref k=>match p.2[k]? with
    | some (.lst l)=>some (.none,p.2.set k (.lst l.reverse))
    | _=>none
  | _=>none
theorem eZ.rev {G:Pg}{s:Vw}{l:List V}{xs:List Value} (h:eZ G s l xs):eZ G s l.reverse xs.reverse:=by
  induction l generalizing xs with
  | nil=>cases h; exact .nil
  | cons v l ih=>
    cases h with
    | cons r t=>rw[List.reverse_cons,List.reverse_cons]; exact(ih t).append (.cons r .nil)
theorem E.reverse {o:PySem.Expr}{apos pos:Pos}{f:EF} (hf:pG o (PySem.Str.ofString "reverse") apos [] pos) (h1:aA U n sc o f):aA U n sc (.Call (.Attribute o (PySem.Str.ofString "reverse") apos) [] [] pos) (tE f):=by
  intro A env M P ρ R H s Q E v H' hr so gd lr hfn hQ
  refine bf hfn fun p H1 e1 hfn=>?_
  obtain⟨pl,heq⟩:=hf env
  refine methodCall_KW (pl:=pl) (h1 A env M P ρ R H s _ E p H1 hr so gd lr e1 fun x s1 ρ1 st1 g1 va=>?_) heq
  dsimp only at hfn
  split at hfn
  · split at hfn
    · rename_i k l hH
      cases hfn
      refine pT PySem.F.slot_list_reverse PySem.F.type_list_reverse g1 va (eE.mpr hH) ?_
      refine xO (.inl ⟨_,rfl⟩) g1 ?_
      refine oW va fun hd hk ex=>?_
      subst ex
      obtain⟨hl,fa,fd⟩:=tH g1 hk hH (gl rfl)
      obtain⟨_,ys,m,h3,h4,h5⟩:=g1.ob _ _ hd hH hk (gl rfl)
      have ly:=h5.length
      refine call_meets PySem.F.slot_list_reverse ⟨_,h3,rfl⟩ PySem.F.entry_list_reverse (PySem.F.args_list_reverse_1 _) (AutoListH.list_reverse_list_0 hd.a ys.toArray m (by rw[sizeLine_eq,List.size_toArray]; omega)) ⟨h3,?_⟩
      have e1:(s1.heap.update hd.a (Obj.mapSeq fun x=>x.reverse)).get? hd.a=some (ny ys.reverse ⟨m,none,#[]⟩):=by
        rw[Heap.get?_update_self _ h3 (Obj.isFreed_of_seq (xs:=ys.toArray.reverse) (n:=m) (by simp[Obj.mapSeq]))]
        simp[Obj.mapSeq]
      have e2:∀ b,b≠hd.a→(s1.heap.update hd.a (Obj.mapSeq fun x=>x.reverse)).get? b=s1.heap.get? b:=fun b hb=>Heap.get?_update_ne _ _ _ _ hb
      have ed:∃ o,(s1.heap.update hd.a (Obj.mapSeq fun x=>x.reverse)).get? hd.d=some o:=by
        by_cases z:hd.d=hd.a
        · rw[z]; exact⟨_,e1⟩
        · obtain⟨o,eo⟩:=g1.lt _ fd; exact⟨o,(e2 _ z).trans eo⟩
      have st3:Step [] ρ1 s1 ρ1 { s1 with heap:=s1.heap.update hd.a (Obj.mapSeq fun x=>x.reverse),toks:=s1.toks }:=rq fa fd (fun b hb _=>e2 b hb) ⟨_,e1⟩ ed
      obtain⟨_,g3⟩:=g1.upd (tk:=s1.toks) (ob' := .lst l.reverse) hk hH (gl rfl) (fun b hb _=>e2 b hb) ⟨_,e1⟩ ed ⟨_,m,e1,by rw[List.length_reverse]; exact h4,h5.rev.mono st3.D1⟩
      exact hQ _ _ ρ1 (st1.trans st3) g3 .none
    · cases hfn
  · cases hfn
noncomputable def BP (x:List Nat):List V→Option Nat
  | []=>none
  | .str y::l=>if y=x then (if l.all (fun v=>match v with | .str _=>true | _=>false) then some 0 else none) else (BP x l).map (· + 1)
  | _=>none
theorem y9 {x:List Nat}:∀ {l:List V}{j:Nat},BP x l=some j→l[j]? = some (.str x)∧(∀ m,m < j→∃ y,l[m]? = some (.str y)∧y≠x)∧∀ v∈l,∃ y,v = .str y
  | [],j,h=>by cases h
  | v::l,j,h=>by
    unfold BP at h
    split at h
    · rename_i e; cases e
    · rename_i y l' e
      cases e
      split at h
      · rename_i hy
        subst hy
        split at h
        · rename_i hm
          cases h
          refine⟨rfl,fun m hm=>absurd hm (Nat.not_lt_zero _),fun w hw=>?_⟩
          rcases List.mem_cons.mp hw with rfl | hw
          · exact⟨_,rfl⟩
          · rw[List.all_eq_true] at hm
            have:=hm w hw
            cases w <;> first | exact⟨_,rfl⟩ | cases this
        · cases h
      · rename_i hy
        refine fJ h fun i e2 e_2=>?_
        subst e_2
        obtain⟨q1,q2,q3⟩:=y9 e2
        refine⟨by simpa using q1,fun m hl=>?_,fun w hw=>?_⟩
        · cases m with
          | zero=>exact⟨y,rfl,hy⟩
          | succ m=>obtain⟨z,h1,h2⟩:=q2 m (by omega); exact⟨z,by simpa using h1,h2⟩
        · rcases List.mem_cons.mp hw with rfl | hw
          · exact⟨_,rfl⟩
          · exact q3 w hw
    · cases h
noncomputable def Az (f g:EF):EF:=fun M H=>(f M H).bind fun p=>(cw p.1 p.2).bind fun _=>(g M p.2).bind fun q=>match q.1 with
  | .str x=>(cw p.1 q.2).bind fun l=>(BP x l).map fun j=>(.int (j:Nat),q.2)
  | _=>none
noncomputable def GX (x:Str):Value→Bool
  | .str y _=>y==x
  | _=>false
theorem E.index {o a:PySem.Expr}{apos pos:Pos}{f g:EF} (hf:pG o (PySem.Str.ofString "index") apos [a] pos) (h1:aA U n sc o f) (h2:aA U n sc a g) (he:oo a []):aA U n sc (.Call (.Attribute o (PySem.Str.ofString "index") apos) [a] [] pos) (Az f g):=by
  intro A env M P ρ R H s Q E v H' hr so gd lr hfn hQ
  refine bf hfn fun p H1 e1 hfn=>?_
  refine gz hfn fun l0 e2 hfn=>?_
  refine bf hfn fun q H2 e3 hfn=>?_
  dsimp only at hfn
  split at hfn
  · rename_i x0
    refine gz hfn fun l e4 hfn=>?_
    refine fJ hfn fun j e5 hfn=>?_
    cases hfn
    obtain⟨pl,heq⟩:=hf env
    refine methodCall_KW (pl:=pl) (h1 A env M P ρ R H s _ E p H1 hr so gd lr e1 fun x s1 ρ1 st1 g1 va=>?_) heq
    refine pT PySem.F.slot_list_index PySem.F.type_list_index g1 va e2 ?_
    refine js (.inl ⟨_,rfl⟩) (L.c1 h2 L.n0 he) (he env) hr so g1 (lr.cT st1) (vs:=[.str x0]) (H':=_) (by show(g M H1).bind _=_; rw[e3]; rfl) fun xs s2 ρ2 st2 g2 vb=>?_
    cases vb with | cons vq vn=>cases vn with | nil=>
    refine i8 g2 (va.step st2) e4 fun c ys m e_3 h3 h4 h5=>?_
    subst e_3
    obtain⟨q1,q2,q3⟩:=y9 e5
    refine ee vq fun z t e_2 hz _=>?_
    subst e_2
    have ly:=h5.length
    have jl:j < l.length:=(List.getElem?_eq_some_iff.mp q1).1
    have at_:∀ {i:Nat}{y:List Nat},l[i]? = some (.str y)→∃ w u,ys[i]? = some (.str w u)∧w.cps.toList=y:=fun {i y} h=>by
      obtain⟨x',h6,h7⟩:=h5.get h
      refine ee h7 fun w u e_2 hw _=>?_
      subst e_2
      exact⟨w,u,h6,hw⟩
    have eqat:∀ y,y∈ys.toArray→EqAt A.in1 s2 y (.str z t) (GX z y):=fun y hy=>by
      obtain⟨i,hi⟩:=List.getElem?_of_mem (by simpa using hy:y∈ys)
      obtain⟨a,ha⟩:∃ a,l[i]? = some a:=⟨_,List.getElem?_eq_getElem (by have:=(List.getElem?_eq_some_iff.mp hi).1; omega)⟩
      obtain⟨b,rfl⟩:=q3 a (List.mem_of_getElem? ha)
      obtain⟨w,u,h6,h7⟩:=at_ ha
      rw[hi] at h6
      cases h6
      exact EqAt.str_str w u z t
    obtain⟨w,u,h6,h7⟩:=at_ q1
    have hjs:j < ys.toArray.size:=by rw[List.size_toArray]; omega
    refine call_meets PySem.F.slot_list_index ⟨_,h3,rfl⟩ PySem.F.entry_list_index (PySem.F.args_list_index_2 _ _) (list_indexAt c ys.toArray m.n none m.sl (.str z t) (GX z) j hjs (by omega) ?_ fun i hm hlt=>?_) ⟨h3,eqat,?_⟩
    · have:ys.toArray[j] = .str w u:=by
        have:=(List.getElem?_eq_some_iff.mp h6).2
        simpa using this
      rw[this]
      have:w=z:=v8 (h7.trans hz.symm)
      rw[this]
      exact beq_self_eq_true z
    · obtain⟨y,hy1,hy2⟩:=q2 i hlt
      obtain⟨w',u',h8,h9⟩:=at_ hy1
      have:ys.toArray[i] = .str w' u':=by
        have:=(List.getElem?_eq_some_iff.mp h8).2
        simpa using this
      rw[this]
      show(w'==z)=false
      rw[beq_eq_false_iff_ne]
      rintro rfl
      exact hy2 (h9.symm.trans hz)
    · exact hQ _ _ ρ2 ((st1.trans st2).trans .toks) g2 (.int _ _)
  · cases hfn
theorem E.neg {e:PySem.Expr}{pos:Pos}{f:EF} (h:aA U n sc e f):aA U n sc (.UnaryOp .USub e pos) (aW (fun v _=>match v with | .int i=>some (.int (-i)) | _=>none) f):=by
  intro A env M P ρ R H s Q E v H' hr so gd lr hf hQ
  refine bf hf fun a H1 e1 hf=>?_
  refine fJ hf fun c e2 hf=>?_
  cases hf
  refine wpAny_UnaryOp (h A env M P ρ R H s _ E a H1 hr so gd lr e1 fun x s1 ρ1 st1 g1 va=>?_)
  dsimp only at e2
  split at e2
  · cases e2
    obtain⟨t,rfl⟩:=gJ va
    exact PyProof.Rows.neg_int (hQ _ _ ρ1 (st1.trans .toks) g1 (.int _ _))
  · cases e2
noncomputable def kZ (g:LF):EF:=fun M H=>(g M H).bind fun p=>match p.1 with
  | [.int k]=>if 0≤k∧k < 1048576 then some (.lst (upTo k),p.2) else none
  | _=>none
theorem B1 {G:Pg}{s:Vw}:∀ (m k:Nat) (ys:List Value),ys.length=m→(∀ (j:Nat) (v:Value),ys[j]? = some v→∃ t,v = .int (((k + j:Nat):Int)) t)→eZ G s ((List.range m).map fun i=>V.int ((k + i:Nat):Int)) ys
  | 0,k,ys,h,_=>by cases ys with | nil=>exact .nil | cons=>cases h
  | m + 1,k,ys,h,hv=>by
    cases ys with
    | nil=>cases h
    | cons y ys=>
      rw[List.range_succ_eq_map,List.map_cons,List.map_map]
      obtain⟨t,rfl⟩:=hv 0 y rfl
      refine .cons (.int _ _) ?_
      have ih:=B1 (G:=G) (s:=s) m (k + 1) ys (by simpa using h) fun j v hj=>by
        obtain⟨t,e⟩:=hv (j + 1) v (by simpa using hj)
        exact⟨t,by rw[e,show k + (j + 1)=k + 1 + j by omega]⟩
      have e:((fun i=>V.int ((k + i:Nat):Int))∘Nat.succ)=fun i=>V.int ((k + 1 + i:Nat):Int):=by
        funext i
        show V.int _=V.int _
        rw[show k + Nat.succ i=k + 1 + i by omega]
      rw[e]; exact ih
theorem E.zF {i j:Nat}{x y:Str}{p p' pos pos':Pos}{e:PySem.Expr}{g:LF} (h:sc.names[i]? = some (x, .globalImplicit)) (hb:Boot U x (.type "list")) (h':sc.names[j]? = some (y, .globalImplicit)) (hb':Boot U y (.type "range"))
    (hL:iz U n sc [e] g) (he:oo e []) (he':∀ env,starEach [.Call (.Name y p') [e] [] pos'] env=[(false,eval (.Call (.Name y p') [e] [] pos') env)]):aA U n sc (.Call (.Name x p) [.Call (.Name y p') [e] [] pos'] [] pos) (kZ g):=by
  intro A env M P ρ R H s Q E v H' hr so gd lr hf hQ
  refine bf hf fun vs H1 e1 hf=>?_
  refine wpAny_Call_NameR (wc h so gd lr hb.free hb.is hb.ne ?_)
  refine callWith_of (P:=fun h=>U.K.In h) (by rw[he']; rfl) (fun h X=>qd hb.kept X) ?_
  have key:wpAny (model U.prog U.w) A (spliced (backTo pos (starEach [.Call (.Name y p') [e] [] pos'] env))) (fun vs s₁=>U.K.In s₁.heap∧wpAny (model U.prog U.w) A (call (.type "list") ([]++vs)) Q E s₁) E s:=by
    refine wpAny_items_cons (pz h' hb' hL he hr so gd lr e1 fun xs s1 ρ1 st1 g1 va=>?_) (he' env)
    dsimp only at hf
    split at hf
    · split at hf
      · rename_i k hk
        cases hf
        cases va with | cons v1 v2=>cases v2 with | nil=>
        obtain⟨t,rfl⟩:=gJ v1
        obtain⟨q1,q2⟩:=BX k hk.2 hk.1
        refine call_range_1 (wpAny_items_nil ?_)
        have g2:=g1.push (o:={ cls := .type "range",data := .fields #[.int 0 s1.toks, .int k t, .int 1 (s1.toks + 1)] }) (tk:=s1.toks + 1 + 1)
        refine⟨g2.FZ,?_⟩
        refine PySem.call_list_range hr.hd (Heap.get?_push_size _ rfl) q1 q2 (by omega) fun h' tk acc' c' hk' hS hacc=>?_
        have hs0:s1.heap.get? s1.heap.objs.size=none:=Heap.get?_none_of_le (Nat.le_refl _)
        have st2:=st1.trans ((iS (tk:=s1.toks + 1 + 1)).trans (cm (tk:=tk) hk'))
        refine hQ _ _ ρ1 st2 (g2.grow hk') (.lst (n:=⟨c',none,#[]⟩) (xs:=acc'.toList) (rV g2 hS (Heap.get?_none_of_le (Nat.le_refl _))) (by rw[Array.length_toList,hacc.1]; omega) ?_)
        have:=B1 (G:=U.toPg) (s:=⟨h',ρ1,R⟩) k.toNat 0 acc'.toList (by rw[Array.length_toList,hacc.1]) fun j v hj=>by
          obtain⟨t,e⟩:=hacc.2 j v (by simpa using hj)
          exact⟨t,by rw[e]; congr 1; omega⟩
        unfold upTo
        simpa using this
      · cases hf
    · cases hf
  rw[he'] at key ⊢
  exact Calls.evalArgs_plain key
end
end Mine
end
section
open PySem PySem.W PyProof.Rows PySem.Calls PySem.SeqAt
namespace Mine
section
variable {U:fL}{n:Nat}{sc:Scope}{b:Bool}
noncomputable def Ay:List Nat→List V→Loc→Option Loc
  | [],[],M=>some M
  | i::is,v::l,M=>Ay is l (M.set i (some v))
  | _,_,_=>none
theorem wN {A:Around}{env:Env}{P:List Addr}{R:List Addr}{E:Value→Shared→Prop}{H:Hp}{ρ:List Hd} (so:jX sc) (o:Own b sc env P R):∀ {is:List Nat}{names:List Str}{l:List V}{xs:List Value}{M M':Loc}{s:Shared}{Q:Unit→Shared→Prop},
    names.length=is.length→(∀ (j i:Nat) (x:Str),is[j]? = some i→names[j]? = some x→sc.names[i]? = some (x, .local))→Good U.toPg U.top ρ R H s.heap→cX U.toPg sc env M P ρ R s.heap→eZ U.toPg ⟨s.heap,ρ,R⟩ l xs→Ay is l M=some M'→
    (∀ s',Step P ρ s ρ s'→Good U.toPg U.top ρ R H s'.heap→cX U.toPg sc env M' P ρ R s'.heap→Q () s')→wpAny (model U.prog U.w) A (assignInOrder (names.map fun n=>bindName env n) xs) Q E s
  | [],[],[],_,M,M',s,Q,_,_,g,lr, .nil,h,hQ=>by cases h; exact wpAny_assignInOrder_none (hQ s .refl g lr)
  | i::is,x::names,v::l,_,M,M',s,Q,hl,hn,g,lr, .cons r rs,h,hQ=>by
    refine wpAny_assignInOrder_more (wpAny_bindName (rY so g lr o (hn 0 i x rfl rfl) r fun s1 st1 g1 l1=>?_))
    exact wN so o (by simpa using hl) (fun j i' x' e1 e2=>hn (j + 1) i' x' (by simpa using e1) (by simpa using e2)) g1 l1 (rs.mono (st1.le o.sub)) h fun s2 st2 g2 l2=>hQ s2 (st1.trans st2) g2 l2
  | [],_::_,_,_,_,_,_,_,hl,_,_,_,_,_,_=>by cases hl
  | _::_,[],_,_,_,_,_,_,hl,_,_,_,_,_,_=>by cases hl
  | [],[],_::_,_,_,_,_,_,_,_,_,_,_,h,_=>by cases h
  | _::_,_::_,[],_,_,_,_,_,_,_,_,_,_,h,_=>by cases h
noncomputable def yh (f:EF) (is:List Nat):SF:=fun M H=>(f M H).bind fun p=>match p.1 with
  | .tup l=>if l.length=is.length then (Ay is.reverse l.reverse M).map fun M'=>(.next,M',p.2) else none
  | _=>none
theorem X.wk {ts:List PySem.Expr}{k:Nat}{tp pos:Pos}{v:PySem.Expr}{f:EF}{is:List Nat}{names:List Str} (h:aA U n sc v f) (hs:∀ env,swapsWithSole [.Tuple ts k tp] v pos.line env=pure false) (hw:∀ env,env.scope=sc→swappedStores [.Tuple ts k tp] v env=pure (some names))
    (hl:names.length=is.length) (hn:∀ (j i:Nat) (x:Str),is[j]? = some i→names[j]? = some x→sc.names[i]? = some (x, .local)):gY U n sc (.Assign [.Tuple ts k tp] v pos) (yh f is):=by
  intro A env M P ρ R H s Q E r M' H' hr so gd l o hf hQ
  refine bf hf fun p H1 e1 hf=>?_
  rw[exec_Assign_arm]
  refine wpAny_bind (wpAny_standAt ?_)
  rw[hs]
  refine wpAny_bind (wpAny_pure ?_)
  rw[if_neg (by decide)]
  refine wpAny_bind (h A env M P ρ R H s _ E p H1 hr so gd l e1 fun x s1 ρ1 st1 g1 va=>?_)
  rw[hw env l.scope]
  refine wpAny_bind (wpAny_pure ?_)
  dsimp only at hf
  split at hf
  · split at hf
    · rename_i vs hlen
      refine fJ hf fun M2 e2 hf=>?_
      cases hf
      refine qa va fun a xs m e_3 hfx hz hv=>?_
      subst e_3
      have lx:=hv.length
      unfold assignStores
      refine wpAny_bind (wpAny_rule ?_)
      have e:names.length=xs.toArray.size:=by rw[List.size_toArray]; omega
      rw[e]
      refine wpAny_bind (wpAny_unpackItems_tuple hr.hd ⟨_,hfx.1,rfl,_,rfl⟩ fun h' hx=>?_)
      have kp:∀ q ob,s1.heap.get? q=some ob→h'.get? q=some ob:=fun q ob e=>hx q ob (Nat.ne_of_lt (Heap.lt_size e)) e
      have st2:Step [] ρ1 s1 ρ1 { s1 with heap:=h',toks:=s1.toks }:=cm kp
      have rv:=(eZ.rev hv).mono st2.D1
      refine wpAny_bind (wN (H:=_) so o (is:=is.reverse) (names:=names.reverse) (l:=vs.reverse) (M:=M) (by simp[hl]) (fun j i x q1 q2=>?_) (g1.grow kp) ((l.cT st1).cT st2) (by simpa using rv) e2 fun s3 st3 g3 l3=>wpAny_pure (hQ .next s3 ρ1 ((st1.trans st2).any.trans st3) g3 l3 trivial))
      have hj:j < is.length:=by have:=(List.getElem?_eq_some_iff.mp q1).1; simpa using this
      rw[List.getElem?_reverse hj] at q1
      rw[List.getElem?_reverse (by omega)] at q2
      rw[hl] at q2
      exact hn _ i x q1 q2
    · cases hf
  · cases hf
end
end Mine
end
section
open PySem PySem.W PyProof.Rows PySem.Calls PySem.SeqAt
namespace Mine
open Builtin in
theorem yw {prog:Program}{w:World}{A:Around}{E:Value→Shared→Prop}{s:Shared}{a:Addr}{xs:Array Value}{k:Nat}{sl:Array (Option Value)}{name:Str}{Q:Option Value→Shared→Prop}
    (hx:s.heap.get? a=some { cls := .type "list",dict:=none,data := .seq xs k,slots:=sl }) (hmiss:typeLookup (.type "list") name=pure none) (hname:(["__module__","__name__","__qualname__","__doc__","__annotations__"]:List Str).contains name=false) (hA:A.handled=none)
    (h:∀ h' tk,(∀ b o,s.heap.get? b=some o→h'.get? b=some o)→Q none { s with heap:=h',toks:=tk }) (hsz:name.length + 100≤sizeLine:=by size_fits):
    wpAny (model prog w) A (getAttr? (.ref a) name) Q E s:=by
  obtain⟨hp,g,d,tk,os⟩:=s
  have hT:∀ tk',(⟨hp,g,d,tk',os⟩:Shared).TypeIs (.ref a) "list":=fun _=>⟨_,hx,rfl⟩
  have f1:=sub_AttributeError
  have f3:=PySem.F.slot_list_getattribute.lookup
  have f4:=PySem.F.slot_list_getattribute.bind (.ref a)
  have f5:=am_list_getattr_none
  unfold getAttr? getAttrBy? getAttrBy
  repeat (any_goals (first | assumption | exact hT _ | ((with_reducible show wpAny _ _ (call (Value.builtin "list.__getattribute__") _ _) _ _ _); refine call_meets PySem.F.slot_list_getattribute (hT _) am_entry_list_getattribute (PySem.F.args_list_getattribute_2 _ _) (meets_getattribute_miss_list a xs k sl name _ hmiss hname hsz) ⟨hx,hA,fun h' tk' e hx'=>?_⟩) | wp_step))
  obtain⟨t',u',he⟩:=hx'.there
  have hE:Heap.NewExcOf hp h' e "AttributeError":=hx'.of
  have hTe:∀ tk,(⟨h',g,d,tk,os⟩:Shared).TypeIs (.ref e) "AttributeError":=fun _=>by
    first | exact⟨_,he,rfl⟩ | exact hE.typeIs
  show wpAny _ _ (getattributeRaised _ _ _ _ _ _ _) _ _ _
  unfold getattributeRaised
  repeat (any_goals (first | assumption | exact hTe _ | wp_step))
  exact h h' tk' (fun b o e=>hE.keeps b o e)
end Mine
end
section
open PySem PySem.W PyProof.Rows PySem.Calls PySem.SeqAt
namespace Mine
theorem ko:entryFor table "dict.update.loop"=some Builtin.«dict.update.loop»:=entryFor_of_tree (by kernel_rfl)
theorem d8:plainId "dict.update.loop"=true:=by decide +kernel
theorem wF:typeLookup (.type "list") "keys"=pure none:=by rw[typeLookup_type,builtinLookup_eq_fast]; kernel_rfl
theorem FW {prog:Program}{w:World}{A:Around}{R:Result→Shared→Prop}{h0:Heap}{I S a:Addr}{xs:Array Value}{ps:List (Str × Value)}
    (hh:A.handled=none) (hI:h0.get? I=none) (hS:h0.get? S=none) (hIS:S≠I) (hl:h0.IsList a xs)
    (hp:∀ (j:Nat) (v:Value),xs[j]? = some v→∃ T t k x n,v = .ref T∧h0.get? T=some (su [.str k t,x] n)∧ps[j]? = some (k,x)) (hsz:xs.size=ps.length) (hlen:ps.length≤1000) (nd:(ps.map (·.1)).Nodup):
    ∀ (m i:Nat) (z:Int) (t:Tok) (s:Shared),ps.length - i=m→i≤ps.length→(∀ b o,h0.get? b=some o→s.heap.get? b=some o)→s.heap.IsListIter I a i→s.heap.DictOf (PySem.strKind prog w) S (ps.take i)→
      (∀ h' tk,(∀ b o,h0.get? b=some o→h'.get? b=some o)→h'.DictOf (PySem.strKind prog w) S ps→R (.ok (.ret .none)) { s with heap:=h',toks:=tk })→
      codeAny (model prog w) A (.builtin "dict.update.loop" ⟨[.ref S, .ref I, .int z t, .none],[]⟩) R s:=by
  have nI:∀ b o,h0.get? b=some o→b≠I:=fun b o e q=>by rw[q,hI] at e; cases e
  have nS:∀ b o,h0.get? b=some o→b≠S:=fun b o e q=>by rw[q,hS] at e; cases e
  have haI:∃ ol,h0.get? a=some ol:=by obtain⟨o,e,_⟩:=hl; exact⟨o,e⟩
  intro m
  induction m with
  | zero=>
    intro i z t s hm hi hk hit hd hR
    have hin:=Cm hm hi
    subst hin
    refine codeAny_builtin ko ?_
    rw[Around.under_plainId d8 _]
    show wpAny _ A.in1 (pyNext (.ref I) >>= _) _ _ s
    have hl':s.heap.IsList a xs:=hl.at fun o e=>hk a o e
    have hh1:A.in1.handled=none:=by simp[hh]
    refine wpAny_bind (wpAny_pyNext_list_end hh1 hit hl' (by simp[hsz]) fun h' he'=>?_)
    show wpAny _ A.in1 (Builtin.Dict.addKeywords S [] >>= fun _=>ret Value.none) _ _ _
    refine wpAny_bind (wpAny_pure (wpAny_pure ?_))
    have hSI:S≠I:=hIS
    rw[List.take_length] at hd
    obtain⟨o,es,ep,q1,q2⟩:=hd
    exact hR h' s.toks (fun b o e=>he' b o (nI b o e) (hk b o e)) ⟨o,es,ep,he' S o hSI q1,q2⟩
  | succ m ih=>
    intro i z t s hm hi hk hit hd hR
    have hlt:=EH hm
    refine codeAny_builtin ko ?_
    rw[Around.under_plainId d8 _]
    show wpAny _ A.in1 (pyNext (.ref I) >>= _) _ _ s
    have hl':s.heap.IsList a xs:=hl.at fun o e=>hk a o e
    have hx:xs[i]? = some xs[i]:=by simp[hsz,hlt]
    refine wpAny_bind (wpAny_pyNext_list_item hit hl' hx fun h' hit' hs'=>?_)
    obtain⟨T,t',k,x,n,e1,e2,e3⟩:=hp i _ hx
    rw[e1]
    have eT:h'.get? T=some (su [.str k t',x] n):=(hs'.2 T (nI T _ e2)).trans (hk T _ e2)
    have tT:Shared.TypeIs { s with heap:=h' } (.ref T) "tuple":=⟨_,eT,rfl⟩
    have hk':∀ b o,h0.get? b=some o→h'.get? b=some o:=fun b o e=>(hs'.2 b (nI b o e)).trans (hk b o e)
    have hd':h'.DictOf (PySem.strKind prog w) S (ps.take i):=hd.sameBut hs' hIS
    refine wpAny_bind (wpAny_holding ?_)
    refine wpAny_bind (wpAny_tryCatch ?_)
    unfold Builtin.Dict.pairItems
    refine wpAny_bind (wpAny_typeOf tT ?_)
    rw[if_pos (by decide)]
    refine wpAny_bind (wpAny_seqItems eT rfl (wpAny_pure ?_))
    show wpAny _ A.in1 (holding [Value.str k t',x] (dictSet S (.str k t') x)) _ _ _
    refine wpAny_holding (wpAny_dictSet_pairs (knd:=PySem.strKind prog w) (k:=k) (PySem.strKind_is _ _ k t') hd' (fun h2 q1 q2=>?_) (Lh (Nat.le_trans (List.length_take_le' _ _) (Nat.le_trans hlen (by decide)))))
    have hst:PySem.stored (ps.take i) k x=ps.take (i + 1):=by
      have hn:(ps.take i).any (fun kv=>kv.1=k)=false:=by
        rw[Bool.eq_false_iff]
        intro q
        obtain⟨y,hy,hyk⟩:=List.any_eq_true.mp q
        obtain⟨j,hj⟩:=List.getElem?_of_mem hy
        have hji:j < i:=by
          obtain⟨hjl,_⟩:=List.getElem?_eq_some_iff.mp hj
          exact Nat.lt_of_lt_of_le hjl (List.length_take_le _ _)
        rw[List.getElem?_take_of_lt hji] at hj
        have a1:(ps.map (·.1))[j]? = some k:=by rw[List.getElem?_map,hj]; simpa using hyk
        have a2:(ps.map (·.1))[i]? = some k:=by rw[List.getElem?_map,e3]; rfl
        exact absurd (wK nd a1 a2) (Nat.ne_of_lt hji)
      unfold PySem.stored
      rw[hn]
      have:ps[i]=(k,x):=by rw[List.getElem?_eq_getElem hlt] at e3; exact Option.some.inj e3
      rw[List.take_add_one,e3]; rfl
    rw[hst] at q1
    refine wpAny_pure ⟨plainId_quiet d8 _,ih (i + 1) _ _ _ (zl hm) hlt (fun b o e=>(q2.2 b (nS b o e)).trans (hk' b o e)) ?_ q1 fun h3 tk r1 r2=>hR h3 tk r1 r2⟩
    obtain⟨o,r1,r2⟩:=hit'
    exact⟨o,(q2.2 I (Ne.symm hIS)).trans r1,r2⟩
theorem ww {prog:Program}{w:World}{A:Around}{E:Value→Shared→Prop}{s:Shared}{a:Addr}{xs:List Value}{m:Nat}{sl:Array (Option Value)}{ps:List (Str × Value)}{Q:Value→Shared→Prop}
    (hh:A.handled=none) (hl:s.heap.get? a=some { cls := .type "list",dict:=none,data := .seq xs.toArray m,slots:=sl })
    (hp:∀ (j:Nat) (v:Value),xs[j]? = some v→∃ T t k x n,v = .ref T∧s.heap.get? T=some (su [.str k t,x] n)∧ps[j]? = some (k,x)) (hsz:xs.length=ps.length) (hlen:ps.length≤1000) (nd:(ps.map (·.1)).Nodup)
    (h:∀ h' tk,(∀ b o,s.heap.get? b=some o→h'.get? b=some o)→h'.DictOf (PySem.strKind prog w) s.heap.objs.size ps→Q (.ref s.heap.objs.size) { s with heap:=h',toks:=tk }):
    wpAny (model prog w) A (call (.type "dict") [.ref a]) Q E s:=by
  refine callType_codes (Q₁:=fun obj s₁=>obj = .ref s.heap.objs.size∧s₁={ s with heap:=s.heap.push { cls := .type "dict",data := .dict #[] } }) F.kt_called_dict (F.kt_typeCall_dict_1 _) F.entry_dict_init (kt_code_dict_new _ ⟨rfl,rfl⟩) ?_
  rintro obj s₁ ⟨rfl,rfl⟩
  have hnew:(s.heap.push { cls := .type "dict",data := .dict #[] }).DictOf (PySem.strKind prog w) s.heap.objs.size []:=Heap.DictOf.new s.heap
  have pk:∀ b o,s.heap.get? b=some o→(s.heap.push { cls := .type "dict",data := .dict #[] }).get? b=some o:=cN
  refine⟨hnew.typeIs,F.args_dict_init_2 _ _,?_⟩
  unfold Builtin.«dict.__init__»
  refine wpAny_bind ?_
  unfold Builtin.Dict.selfAndRest
  refine wpAny_bind (wpAny_notOrdered_dict hnew.typeIs ?_)
  show wpAny _ _ (pure (s.heap.objs.size,[Value.ref a])) _ _ _
  refine wpAny_pure ?_
  show wpAny _ _ (Builtin.Dict.updateFrom "dict.__init__" s.heap.objs.size (.ref a) [] .none) _ _ _
  unfold Builtin.Dict.updateFrom
  have hT:Shared.TypeIs { s with heap:=s.heap.push { cls := .type "dict",data := .dict #[] } } (.ref a) "list":=⟨_,pk _ _ hl,rfl⟩
  refine wpAny_bind (wpAny_typeOf hT ?_)
  rw[if_pos (by decide)]
  have hn0:s.heap.get? s.heap.objs.size=none:=Heap.get?_none_of_le (Nat.le_refl _)
  refine wpAny_bind (yw (s:={ s with heap:=s.heap.push { cls := .type "dict",data := .dict #[] } }) (pk _ _ hl) wF (by decide) (by simp[hh]) fun h1 tk1 k1=>?_)
  rw[if_pos (by rfl)]
  refine wpAny_bind (wpAny_rule ?_)
  have l1:h1.get? a=some { cls := .type "list",dict:=none,data := .seq xs.toArray m,slots:=sl }:=k1 _ _ (pk _ _ hl)
  have hl1:h1.IsList a xs.toArray:=⟨_,l1,rfl,m,rfl⟩
  have d1:h1.DictOf (PySem.strKind prog w) s.heap.objs.size []:=by
    obtain⟨o,es,ep,q1,q2⟩:=hnew
    exact⟨o,es,ep,k1 _ _ q1,q2⟩
  refine wpAny_bind (wpAny_pyIter_list hl1 (wpAny_pure ⟨plainId_quiet d8 _,?_⟩))
  have hS1:s.heap.objs.size < h1.objs.size:=by
    obtain⟨o,es,ep,q1,q2⟩:=d1
    exact Heap.lt_size q1
  refine FW (h0:=s.heap) (xs:=xs.toArray) (ps:=ps) (by simp[hh]) (Heap.get?_none_of_le (Nat.le_of_lt hS1)) hn0 (Nat.ne_of_lt hS1) ⟨_,hl,rfl,m,rfl⟩ (fun j v hj=>hp j v (by simpa using hj)) (by simpa using hsz) hlen nd (ps.length - 0) 0 _ _ _ rfl (Nat.zero_le _)
    (fun b o e=>cN _ _ (k1 _ _ (pk _ _ e))) ⟨_,Heap.get?_push_size _ rfl,rfl,rfl⟩ ?_ fun h' tk k2 d2=>⟨rfl,h h' tk k2 d2⟩
  obtain⟨o,es,ep,q1,q2⟩:=d1
  exact⟨o,es,ep,cN _ _ q1,q2⟩
noncomputable def kvOf:V→Option (List Nat × V)
  | .tup l=>match l with
    | []=>none
    | k::l=>match k with
      | .str k=>match l with
        | []=>none
        | v::l=>match l with
          | []=>some (k,v)
          | _::_=>none
      | _=>none
  | _=>none
noncomputable def kvsOf (l:List V):Option (List (List Nat × V)):=l.foldr (fun x o=>(kvOf x).bind fun p=>o.map (p::·)) (some [])
noncomputable def tM:V→Hp→Option V
  | .lst l,_=>(kvsOf l).bind fun ps=>if ps.length≤1000∧(ps.map (·.1)).Nodup then some (.jo ps) else none
  | _,_=>none
theorem kv_real {G:Pg}{s:Vw}{v:V}{x:Value}{p:List Nat × V} (r:VR G s v x) (e:kvOf v=some p) {C:Prop} (k:∀ T y t u w n,x = .ref T→s.h.get? T=some (su [.str y t,u] n)→p=(y.cps.toList,w)→VR G s w u→C):C:=by
  cases r with
  | tup fx hz rv=>cases rv with
    | nil=>cases e
    | cons r1 rv=>cases r1 with
      | str y t hy=>cases rv with
        | nil=>cases e
        | cons r2 rv=>cases rv with
          | nil=>cases e; exact k _ _ _ _ _ _ rfl fx.1 rfl r2
          | cons _ _=>cases e
      | _=>cases e
  | _=>cases e
noncomputable abbrev KvAt (h:Heap) (xs:List Value) (kvs:List (Str × Value)):Prop:=∀ (j:Nat) (v:Value),xs[j]? = some v→∃ T t k x n,v = .ref T∧h.get? T=some (su [.str k t,x] n)∧kvs[j]? = some (k,x)
theorem Gx {G:Pg}{s:Vw}{l:List V}{xs:List Value}{ps:List (List Nat × V)} (r:eZ G s l xs) (e:kvsOf l=some ps) {C:Prop}
    (q:∀ kvs:List (Str × Value),ER G s ps kvs→kvs.map (fun p=>p.1.cps.toList)=ps.map (·.1)→xs.length=kvs.length→KvAt s.h xs kvs→C):C:=by
  induction l generalizing xs ps C with
  | nil=>cases r; cases e; exact q [] .nil rfl rfl fun j v h=>nomatch h
  | cons v l ih=>
    cases r with | cons r rs=>
    refine gz e fun p e1 e=>?_
    refine fJ e fun ps' e2 e=>?_
    subst e
    refine ih rs e2 fun kvs h1 h2 h3 h4=>?_
    refine kv_real r e1 fun T y t u w n g1 g2 g3 g4=>?_
    subst g3
    exact q ((y,u)::kvs) (.cons g4 h1) (congrArg (List.cons _) h2) (congrArg Nat.succ h3) fun j w hj=>by
      cases j with
      | zero=>cases hj; exact⟨T,t,y,u,n,g1,g2,rfl⟩
      | succ j=>exact h4 j w hj
section
variable {U:fL}
theorem IV:i7 U tM (fun v=>call (.type "dict") [v]):=by
  intro A ρ R H s Q E a v x hr gd r hf hQ
  unfold tM at hf
  split at hf
  · rename_i l
    refine gz hf fun ps e1 hf=>?_
    split at hf
    · rename_i hc
      cases hf
      refine ke r fun a xs m e_3 fx hz rv=>?_
      subst e_3
      refine Gx rv e1 fun kvs h1 h2 h3 h4=>?_
      have lk:kvs.length=ps.length:=Ai h1
      refine ww hr.hd fx.1 h4 h3 (by rw[lk]; exact hc.1) ?_ fun h' tk k1 d1=>?_
      · have:(kvs.map (fun p=>p.1.cps.toList)).Nodup:=by rw[h2]; exact hc.2
        have e:kvs.map (fun p=>p.1.cps.toList)=(kvs.map (·.1)).map (fun k=>k.cps.toList):=by rw[List.map_map]; rfl
        rw[e] at this
        exact List.Pairwise.of_map _ (fun _ _ q h=>q (by rw[h])) this
      · obtain⟨o,es,ep,q1,q2⟩:=d1
        have st:Step [] ρ s ρ { s with heap:=h',toks:=tk }:=cm k1
        have g':Good U.toPg U.top ρ R H ({ s with heap:=h',toks:=tk }:Shared).heap:=gd.grow k1
        refine hQ _ _ st g' (.jo (o:=o) (kvs:=kvs) (rV gd q1 (Heap.get?_none_of_le (Nat.le_refl _))) ?_ ⟨es,ep,q2⟩ (by rw[lk]; have:=hc.1; omega) (h1.mono st.D1))
        intro z
        obtain⟨o2,es2,ep2,e,_⟩:=U.T.g
        have hlt:=Heap.lt_size (gd.keep _ _ e)
        have z':s.heap.objs.size=1:=z
        rw[z'] at hlt
        exact absurd hlt (by decide)
    · cases hf
  · cases hf
end
end Mine
end
section
open PySem PySem.W PyProof.Rows PySem.Calls PySem.SeqAt
namespace Mine
noncomputable def dO (ns:List Nat) (led:Bool):SetTable:={ mask:=7,place:=ns.toArray,dummies:=#[],finger:=0,led,moves:=0,plain:=true }
noncomputable def bi:List Nat→List Value→List (Int × Value)
  | n::ns,v::vs=>(hashInt n,v)::bi ns vs
  | _,_=>[]
noncomputable def eN:List (List Nat):=[[],[0],[1],[2],[3],[0,1],[0,2],[0,3],[1,2],[1,3],[2,3],[0,1,2],[0,1,3],[0,2,3],[1,2,3],[0,1,2,3]]
noncomputable def qS (ns:List Nat) (vs:List Value) (led:Bool) (ep:Nat):Obj:={ cls := .type "set",dict:=none,data := .set (bi ns vs).toArray ep (dO ns led) }
noncomputable def qr (h:Heap) (S:Addr) (ns:List Nat) (vs:List Value) (led:Bool):Prop:=∃ ep,h.get? S=some (qS ns vs led ep)
noncomputable abbrev sE (ns:List Nat):List Int:=ns.map Int.ofNat
set_option maxHeartbeats 2000000 in
theorem xV:∀ led:Bool,∀ ns∈eN,∀ x∈List.range 4,ns.all (· < x)=true→(dO ns led).freeSlot (hashInt x)=some (x,false)∧(dO ns led).put x=(dO (ns++[x]) led,ns.length)∧(dO (ns++[x]) led).fits (ns.length + 1)=true∧(dO (ns++[x]) led).tooFull=false∧(dO ns led).fits ns.length=true:=by decide +kernel
theorem n7:∀ led:Bool,∀ ns∈eN,(dO ns led).fits ns.length=true:=by decide +kernel
theorem Dg:∀ ns∈eN,∀ i∈List.range 4,i < ns.length→ns.take i∈eN∧(ns.take i).all (· < ns.getD i 0)=true∧ns.getD i 0∈List.range 4∧ns.take i++[ns.getD i 0]=ns.take (i + 1):=by decide +kernel
theorem mQ:∀ ns∈eN,ns.length≤4:=by decide +kernel
theorem gy:∀ {ns:List Nat}{vs:List Value},IntsAre vs (sE ns)→(bi ns vs).length=ns.length
  | [],_, .nil=>rfl
  | n::ns,_, .cons _ _ r=>by simp[bi,gy (ns:=ns) r]
theorem Cl {ns:List Nat}{vs:List Value}{x:Nat}{v:Value}:IntsAre vs (sE ns)→bi (ns++[x]) (vs++[v])=bi ns vs++[(hashInt x,v)]:=by
  induction ns generalizing vs with
  | nil=>intro h; cases h; rfl
  | cons n ns ih=>intro h; cases h with | cons _ t r=>simp[bi,ih r]
theorem vg {ns:List Nat}{vs:List Value} (h:IntsAre vs (sE ns)):∀ e∈bi ns vs,∃ n∈ns,∃ t,e=(hashInt n, .int n t):=by
  induction ns generalizing vs with
  | nil=>cases h; intro e he; cases he
  | cons n ns ih=>
    cases h with
    | cons _ t r=>
      intro e he
      rcases List.mem_cons.mp he with rfl | he
      · exact⟨n, .head _,t,rfl⟩
      · obtain⟨m,h1,h2⟩:=ih r e he
        exact⟨m, .tail _ h1,h2⟩
theorem Cz {vs:List Value}{ns:List Int} (h:IntsAre vs ns) {x:Int}{t:Tok}:IntsAre (vs++[.int x t]) (ns++[x]):=by
  induction h with
  | nil=>exact .cons _ _ .nil
  | cons n t' r ih=>exact .cons n t' ih
theorem Ar {vs:List Value}{ns:List Int} (h:IntsAre vs ns):∀ i,IntsAre (vs.take i) (ns.take i):=by
  induction h with
  | nil=>intro i; simp; exact .nil
  | cons n t r ih=>intro i; cases i with
    | zero=>exact .nil
    | succ i=>exact .cons n t (ih i)
theorem DT {α:Type} (xs:Array α) (x:α):SetTable.insertAt xs xs.size x=xs.push x:=by
  simp[SetTable.insertAt]
section
variable {prog:Program}{w:World}{A:Around}{E:Value→Shared→Prop}{s:Shared}
theorem Bc {ns:List Nat}{vs:List Value} (hvs:IntsAre vs (sE ns)):ElemsOf (intKind prog w) (bi ns vs):=by
  intro e he
  obtain⟨n,_,t,rfl⟩:=vg hvs e he
  exact⟨⟨n,by simp[intKind,Value.isInt],rfl⟩,rfl⟩
theorem AN {ns:List Nat}{vs:List Value}{x:Nat}{t:Tok}{led:Bool} (hns:ns∈eN) (hx:x∈List.range 4) (hlt:ns.all (· < x)=true) (hvs:IntsAre vs (sE ns)):
    layNew (dO ns led) (bi ns vs).toArray (hashInt x) (.int x t)=((bi (ns++[x]) (vs++[.int x t])).toArray,dO (ns++[x]) led,false,false):=by
  obtain⟨h1,h2,h3,h4,h5⟩:=xV led ns hns x hx hlt
  have hl:=gy hvs
  unfold layNew
  rw[h1]
  dsimp only
  rw[h2]
  dsimp only
  have hsz:(bi ns vs).toArray.size=ns.length:=by simpa using hl
  rw[← hsz,DT]
  rw[Cl hvs]
  have e:((bi ns vs).toArray.push (hashInt x,Value.int x t))=(bi ns vs++[(hashInt (x:Int),Value.int x t)]).toArray:=by simp
  rw[e]
  have hsz2:(bi ns vs++[(hashInt (x:Int),Value.int x t)]).toArray.size=ns.length + 1:=by simp[hl]
  rw[hsz2]
  unfold SetTable.orStandIn
  rw[h3]
  rfl
theorem zM {S:Addr}{ns:List Nat}{vs:List Value}{x:Nat}{t:Tok}{led:Bool}{Q:Bool→Shared→Prop} (hns:ns∈eN) (hx:x∈List.range 4) (hlt:ns.all (· < x)=true) (hvs:IntsAre vs (sE ns)) (hS:qr s.heap S ns vs led)
    (hQ:∀ h',qr h' S (ns++[x]) (vs++[.int x t]) led→Heap.SameBut S s.heap h'→Q true { s with heap:=h',toks:=s.toks + 1 }):
    wpAny (model prog w) A (setAdd S (.int x t)) Q E s:=by
  obtain⟨ep,hS⟩:=hS
  have hl:=gy hvs
  have hsz:(bi ns vs).toArray.size=ns.length:=by simpa using hl
  have h4:=mQ ns hns
  have hf:(dO ns led).fits (bi ns vs).toArray.size=true:=by rw[hsz]; exact n7 led ns hns
  unfold setAdd
  refine wpAny_holding (wpAny_bind ((intKind prog w).pyHash (k:=(x:Int)) (by simp[intKind,Value.isInt]) ?_))
  unfold setAddHashed setAddHashedIn
  refine wpAny_holding (wpAny_bind (wpAny_setState_of (s:={ s with toks:=s.toks + 1 }) hS rfl hf ?_))
  dsimp only
  have hel:ElemsOf (intKind prog w) (bi ns vs).toArray.toList:=by simpa using Bc hvs
  rw[byScan_of (knd:=intKind prog w) (x := .int x t) rfl (by rw[hsz]; unfold scanBound; omega) hel]
  simp only[↓reduceIte]
  unfold setAddByScan
  refine wpAny_bind ?_
  refine wpAny_bind (wpAny_rule ?_)
  refine wpAny_bind (wpAny_setScan_of (knd:=intKind prog w) (k:=(x:Int)) (by simp[intKind,Value.isInt]) hS rfl hf hel ?_)
  have hno:List.findIdx? (fun e=>(intKind prog w).is (x:Int) e.2) (bi ns vs).toArray.toList=none:=by
    rw[List.findIdx?_eq_none_iff]
    intro e he
    obtain⟨n,hn,t',rfl⟩:=vg hvs e (by simpa using he)
    have:n < x:=by simpa using List.all_eq_true.mp hlt n hn
    simp[intKind,Value.isInt]
    omega
  rw[hno]
  dsimp only
  have hlay:layNew (dO ns led) (bi ns vs).toArray ((intKind prog w).hash (x:Int)) (.int x t)=_:=AN (t:=t) (led:=led) hns hx hlt hvs
  rw[hlay]
  dsimp only
  refine wpAny_bind (wpAny_pure ?_)
  refine wpAny_bind (wpAny_of_eq (a:=true) rfl ?_)
  simp only[↓reduceIte]
  refine wpAny_bind (wpAny_storeSet_of hS rfl ?_ ?_)
  · obtain⟨h1,h2,h3,h4',h5⟩:=xV led ns hns x hx hlt
    rw[h4']
    refine wpAny_pure (wpAny_pure (hQ _ ⟨ep + 1,?_⟩ (Heap.SameBut.update ..)))
    have:=Heap.get?_update_self (Obj.putSet (bi (ns++[x]) (vs++[.int x t])).toArray (dO (ns++[x]) led)) hS (by rfl)
    exact this
  · have:=gy (ns:=ns++[x]) (vs:=vs++[.int x t]) (by have:=Cz hvs (x:=(x:Int)) (t:=t); simpa [sE] using this)
    simp only[List.size_toArray,this,List.length_append,List.length_singleton,sizeLine_eq]
    omega
end
end Mine
end
section
open PySem PySem.W PyProof.Rows PySem.Calls PySem.SeqAt
namespace Mine
theorem DJ {vs:List Value}{ns:List Nat} (h:IntsAre vs (sE ns)) {i:Nat}{v:Value} (e:vs[i]? = some v):∃ t,v = .int ((ns.getD i 0:Nat):Int) t:=by
  obtain⟨t,q⟩:=IntsAre.int_at h i v e
  refine⟨t,q.trans ?_⟩
  congr 1
  have hi:i < ns.length:=by
    have:=h.length
    obtain⟨hl,_⟩:=List.getElem?_eq_some_iff.mp e
    simp[sE] at this; omega
  simp[sE,hi]
theorem Hg {prog:Program}{w:World}{A:Around}{R:Result→Shared→Prop}{h0:Heap}{I S a:Addr}{xs:List Value}{ns:List Nat}{led:Bool}
    (hh:A.handled=none) (hI:h0.get? I=none) (hS:h0.get? S=none) (hIS:S≠I) (hl:h0.IsList a xs.toArray) (hns:ns∈eN) (hxs:IntsAre xs (sE ns)):
    ∀ (m i:Nat) (s:Shared),ns.length - i=m→i≤ns.length→(∀ b o,h0.get? b=some o→s.heap.get? b=some o)→s.heap.IsListIter I a i→qr s.heap S (ns.take i) (xs.take i) led→
      (∀ h' tk,(∀ b o,h0.get? b=some o→h'.get? b=some o)→qr h' S ns xs led→R (.ok (.ret .none)) { s with heap:=h',toks:=tk })→
      codeAny (model prog w) A (.builtin "set.update.loop" ⟨[.ref S, .ref I],[]⟩) R s:=by
  have nI:∀ b o,h0.get? b=some o→b≠I:=fun b o e q=>by rw[q,hI] at e; cases e
  have nS:∀ b o,h0.get? b=some o→b≠S:=fun b o e q=>by rw[q,hS] at e; cases e
  have hlen:xs.length=ns.length:=by have:=hxs.length; simpa [sE] using this
  intro m
  induction m with
  | zero=>
    intro i s hm hi hk hit hd hR
    have hin:=Cm hm hi
    subst hin
    refine codeAny_builtin F.entry_set_update_loop ?_
    rw[Around.under_plainId F.plain_set_update_loop _]
    show wpAny _ A.in1 (pyNext (.ref I) >>= _) _ _ s
    have hl':s.heap.IsList a xs.toArray:=hl.at fun o e=>hk a o e
    have hh1:A.in1.handled=none:=by simp[hh]
    refine wpAny_bind (wpAny_pyNext_list_end hh1 hit hl' (by simp[hlen]) fun h' he'=>?_)
    show wpAny _ A.in1 (ret Value.none) _ _ _
    rw[List.take_length,← hlen,List.take_length] at hd
    obtain⟨ep,q1⟩:=hd
    exact wpAny_pure (hR h' s.toks (fun b o e=>he' b o (nI b o e) (hk b o e)) ⟨ep,he' S _ hIS q1⟩)
  | succ m ih=>
    intro i s hm hi hk hit hd hR
    have hlt:=EH hm
    refine codeAny_builtin F.entry_set_update_loop ?_
    rw[Around.under_plainId F.plain_set_update_loop _]
    show wpAny _ A.in1 (pyNext (.ref I) >>= _) _ _ s
    have hl':s.heap.IsList a xs.toArray:=hl.at fun o e=>hk a o e
    have hx:xs.toArray[i]? = some xs[i]:=by simp[hlen,hlt]
    refine wpAny_bind (wpAny_pyNext_list_item hit hl' hx fun h' hit' hs'=>?_)
    obtain⟨t,et⟩:=DJ hxs (i:=i) (v:=xs[i]) (by simp)
    rw[et]
    have hk':∀ b o,h0.get? b=some o→h'.get? b=some o:=fun b o e=>(hs'.2 b (nI b o e)).trans (hk b o e)
    have hd':qr h' S (ns.take i) (xs.take i) led:=by obtain⟨ep,q⟩:=hd; exact⟨ep,(hs'.2 S hIS).trans q⟩
    have h4:=mQ ns hns
    obtain⟨c1,c2,c3,c4⟩:=Dg ns hns i (List.mem_range.mpr (Nat.lt_of_lt_of_le hlt h4)) hlt
    show wpAny _ A.in1 (holding [Value.int ((ns.getD i 0:Nat):Int) t] (setAdd S (.int ((ns.getD i 0:Nat):Int) t)) >>= _) _ _ _
    refine wpAny_bind (wpAny_holding (zM c1 c3 c2 (by have:=Ar hxs i; simpa [sE,List.map_take] using this) hd' fun h2 q1 q2=>?_))
    rw[c4] at q1
    have ev:xs.take i++[Value.int ((ns.getD i 0:Nat):Int) t]=xs.take (i + 1):=by
      rw[← et]; simp
    rw[ev] at q1
    refine wpAny_pure ⟨plainId_quiet F.plain_set_update_loop _,ih (i + 1) _ (zl hm) hlt (fun b o e=>(q2.2 b (nS b o e)).trans (hk' b o e)) ?_ q1 fun h3 tk r1 r2=>hR h3 tk r1 r2⟩
    obtain⟨o,r1,r2⟩:=hit'
    exact⟨o,(q2.2 I (Ne.symm hIS)).trans r1,r2⟩
section
variable {prog:Program}{w:World}{A:Around}{E:Value→Shared→Prop}{s:Shared}
noncomputable def gR (w:World):Bool:=!(w.params.followText "set-order")
theorem sO (a:Value) {Q₁:Value→Shared→Prop}
    (h:Q₁ (.ref s.heap.objs.size) { s with heap:=s.heap.push { cls := .type "set",dict:=none,data := .set #[] 0 (.fresh 0 0 (gR w)) } }):
    codeAny (model prog w) A (.call (.builtin "set.__new__") ⟨[.type "set",a],[]⟩) (wants Q₁ E) s:=by
  refine codeAny_of_tree ?_
  show wpAny _ A.in1 (do checkBuiltinCall "set.__new__" ⟨[.type "set",a],[]⟩; again (.builtin "set.__new__" ⟨[.type "set",a],[]⟩)) _ _ s
  refine wpAny_bind (wpAny_of_eq (F.newCall_set_1 a) (wpAny_pure ⟨plainId_quiet F.plain_set_new _,codeAny_builtin F.entry_set_new ?_⟩))
  rw[Around.under_plainId F.plain_set_new _]
  unfold Builtin.«set.__new__» Builtin.Frozenset.newClass
  have hsub:=sub_set_self
  obtain⟨hp,g,d,tk,os⟩:=s
  dsimp only
  wp_walk
  refine wpAny_askSetting (wpAny_pure ?_)
  dsimp only
  simp only[newObj]
  refine wpAny_bind (wpAny_alloc (wpAny_pure ?_))
  exact wpAny_pure h
set_option maxHeartbeats 3200000 in
theorem xH {l:Addr}{xs:List Value}{ns:List Nat}{m:Nat}{sl:Array (Option Value)}{Q:Value→Shared→Prop}
    (hh:A.handled=none) (hl:s.heap.get? l=some { cls := .type "list",dict:=none,data := .seq xs.toArray m,slots:=sl }) (hns:ns∈eN) (hi:IntsAre xs (sE ns))
    (h:∀ (h':Heap) (tk:Nat),qr h' s.heap.objs.size ns xs (gR w)→(∀ b o,s.heap.get? b=some o→h'.get? b=some o)→Q (.ref s.heap.objs.size) { s with heap:=h',toks:=tk }):
    wpAny (model prog w) A (call (.type "set") [.ref l]) Q E s:=by
  obtain⟨c,tl,hmro⟩:=F.called_set.mro
  have hmade:=F.called_set.made
  have hsub:=F.called_set.sub
  refine wpAny_call (codeAny_of_tree ?_)
  show wpAny _ _ (callAny (.type "set") _) _ _ _
  refine wpAny_pure ⟨Code.quiet_builtin _ (by decide +kernel),codeAny_builtin F.entry_type_call ?_⟩
  rw[Around.under_plain (weight_type_call_type "set" [.ref l] []) rfl]
  have h1:=F.called_set.notType
  have h2:=F.called_set.canCreate
  have hct:=F.typeCall_set_1 (.ref l)
  repeat (any_goals (first | assumption | wp_step))
  refine codeAny_mono (sO (.ref l) (E:=E) (Q₁:=fun obj s₁=>obj = .ref s.heap.objs.size∧s₁={ s with heap:=s.heap.push { cls := .type "set",dict:=none,data := .set #[] 0 (.fresh 0 0 (gR w)) } }) ⟨rfl,rfl⟩) fun r s₁ hr=>?_
  cases r with
  | error e=>exact hr
  | ok fl=>
    cases fl with
    | ret obj=>
      obtain⟨rfl,rfl⟩:=hr
      have hS:(s.heap.push { cls := .type "set",dict:=none,data := .set #[] 0 (.fresh 0 0 (gR w)) }).get? s.heap.objs.size=some { cls := .type "set",dict:=none,data := .set #[] 0 (.fresh 0 0 (gR w)) }:=Heap.get?_push_size _ rfl
      have hT:Shared.TypeIs { s with heap:=s.heap.push { cls := .type "set",dict:=none,data := .set #[] 0 (.fresh 0 0 (gR w)) } } (.ref s.heap.objs.size) "set":=⟨_,hS,rfl⟩
      have hli:=F.called_set.init.lookup
      have hbi:=F.called_set.init.bind (.ref s.heap.objs.size)
      repeat (any_goals (first | assumption | wp_step))
      refine codeAny_mono (codeAny_call_builtin (R:=wants (fun r s₂=>r = .none∧∃ h' tk,s₂={ s with heap:=h',toks:=tk }∧
          qr h' s.heap.objs.size ns xs (gR w)∧(∀ b o,s.heap.get? b=some o→h'.get? b=some o)) E) F.called_set.init.plain F.entry_set_init (check_set_init_1 hT ?_)) fun r₂ s₂ hr₂=>?_
      · have hol':(s.heap.push { cls := .type "set",dict:=none,data := .set #[] 0 (.fresh 0 0 (gR w)) }).get? l=some { cls := .type "list",dict:=none,data := .seq xs.toArray m,slots:=sl }:=Heap.get?_push_of_some _ hl
        have hsls:=F.sub_list_set
        have hslf:=F.sub_list_frozenset
        have hne:(Value.type "list"==Value.type "dict")=false:=by decide
        have hl1:(s.heap.push { cls := .type "set",dict:=none,data := .set #[] 0 (.fresh 0 0 (gR w)) }).IsList l xs.toArray:=⟨_,hol',rfl,m,rfl⟩
        unfold Builtin.«set.__init__» noKeywords Builtin.Frozenset.updateFrom
        generalize hPI:pyIter=PI
        wp_walk
        subst hPI
        refine wpAny_pyIter_list hl1 ?_
        refine wpAny_bind (wpAny_runValue ?_)
        have hn0:s.heap.get? s.heap.objs.size=none:=Heap.get?_none_of_le (Nat.le_refl _)
        have hIs:(s.heap.push { cls := .type "set",dict:=none,data := .set #[] 0 (.fresh 0 0 (gR w)) }).objs.size=s.heap.objs.size + 1:=Heap.size_push _ _
        refine Hg (h0:=s.heap) (led:=gR w) (xs:=xs) (a:=l) (by simp[hh]) (Heap.get?_none_of_le (by rw[hIs]; exact Nat.le_succ _)) hn0 (by rw[hIs]; exact Nat.ne_of_lt (Nat.lt_succ_self _)) ⟨_,hl,rfl,m,rfl⟩ hns hi (ns.length - 0) 0 _ rfl (Nat.zero_le _)
          (fun b o e=>cN _ _ (cN _ _ e)) ⟨_,Heap.get?_push_size _ rfl,rfl,rfl⟩ ⟨0,Heap.get?_push_of_some _ hS⟩ fun h' tk k1 k2=>?_
        show wpAny _ _ _ _ _ _
        refine wpAny_pure ?_
        show wpAny _ _ (ret Value.none) _ _ _
        exact wpAny_pure ⟨rfl,h',tk,rfl,k2,k1⟩
      · cases r₂ with
        | error e=>exact hr₂
        | ok fl₂=>
          cases fl₂ with
          | ret r=>
            obtain⟨rfl,h',tk,rfl,hS',hk'⟩:=hr₂
            repeat (any_goals (first | assumption | wp_step))
            exact h _ _ hS' hk'
          | next=>exact hr₂
          | brk=>exact hr₂
          | cont=>exact hr₂
    | next=>exact hr
    | brk=>exact hr
    | cont=>exact hr
end
end Mine
end
section
open PySem PySem.W PyProof.Rows PySem.Calls PySem.SeqAt
namespace Mine
theorem xa:entryFor table "set.__iter__"=some Builtin.«frozenset.__iter__»:=entryFor_alias (id':="frozenset.__iter__") (by kernel_rfl) rfl (by decide +kernel) (by kernel_rfl)
theorem dT:Slot "set_iterator" "__next__" "set_iterator.__next__":=
  .of (owner:="set_iterator") (n:="__next__") (by rw[typeLookup_type,builtinLookup_eq_fast]; kernel_rfl) (by decide +kernel) (by decide +kernel) (by decide +kernel)
    (by first | exact .inl (by decide +kernel) | exact .inr (by decide +kernel)) (by rw[isSubtype_type]; kernel_rfl)
theorem nr:entryFor table "set_iterator.__next__"=some Builtin.«set_iterator.__next__»:=entryFor_of_tree (by kernel_rfl)
theorem oB (a:Value):argsOk "set_iterator.__next__" ⟨[a],[]⟩:=by unfold argsOk; kernel_rfl
theorem go_step {α:Type}{next:Nat→Nat}{fuel k:Nat}{left:List α}{out:Array α}{x:α} (h:left[next k % left.length]? = some x):
    pickOrder.go next (fuel + 1) k left out=pickOrder.go next fuel (k + 1) (left.eraseIdx (next k % left.length)) (out.push x):=by
  show(match left[next k % left.length]? with
    | some x=>pickOrder.go next fuel (k + 1) (left.eraseIdx (next k % left.length)) (out.push x)
    | none=>out)=_
  rw[h]
theorem It {α:Type} (next:Nat→Nat) (fuel:Nat):∀ (k:Nat) (left:List α) (out:Array α),left.length=fuel→(pickOrder.go next fuel k left out).toList.Perm (out.toList++left):=by
  induction fuel with
  | zero=>
    intro k left out h
    cases left with
    | nil=>exact List.Perm.of_eq (List.append_nil _).symm
    | cons=>cases h
  | succ fuel ih=>
    intro k left out h
    have hlt:next k % left.length < left.length:=Nat.mod_lt _ (h▸Nat.succ_pos fuel)
    rw[go_step (List.getElem?_eq_getElem hlt)]
    refine(ih (k + 1) _ _ ((List.length_eraseIdx_of_lt hlt).trans (congrArg Nat.pred h))).trans ?_
    rw[Array.toList_push,List.append_assoc]
    refine List.Perm.append_left _ ?_
    show(left[next k % left.length]::left.eraseIdx (next k % left.length)).Perm left
    rw[List.eraseIdx_eq_take_drop_succ]
    have e:left=left.take (next k % left.length)++left[next k % left.length]::left.drop (next k % left.length + 1):=by
      rw[← List.drop_eq_getElem_cons hlt,List.take_append_drop]
    exact(List.perm_middle.symm).trans (List.Perm.of_eq e.symm)
theorem FE {α:Type} (next:Nat→Nat) (xs:Array α):(pickOrder next xs).toList.Perm xs.toList:=by
  unfold pickOrder
  have:=It next xs.size 0 xs.toList #[] (by simp)
  simpa using this
theorem B3 {ns:List Nat}{vs:List Value} (h:IntsAre vs (sE ns)):(bi ns vs).map (·.2)=vs:=by
  induction ns generalizing vs with
  | nil=>cases h; rfl
  | cons n ns ih=>cases h with | cons _ t r=>simp[bi,ih r]
theorem Bv {ns:List Nat}{vs:List Value} (h:IntsAre vs (sE ns)):∀ {i:Nat}{v:Value},vs[i]? = some v→(bi ns vs)[i]? = some (hashInt (ns.getD i 0:Nat),v):=by
  induction ns generalizing vs with
  | nil=>cases h; intro i v e; simp at e
  | cons n ns ih=>cases h with
    | cons _ t r=>
      intro i v e
      cases i with
      | zero=>simp at e; subst e; rfl
      | succ i=>simpa [bi] using ih r (by simpa using e)
noncomputable def tn (w:World):Bool:=w.params.followText "set-order"
noncomputable def walkVals (w:World) (S:Addr) (ep:Nat) (ns:List Nat) (xs:List Value):List Value:=
  if tn w then (pickOrder (w.params.setOrder S ep) (bi ns xs).toArray).toList.map (·.2) else xs
theorem sn {w:World}{S:Addr}{ep:Nat}{ns:List Nat}{xs:List Value} (h:IntsAre xs (sE ns)):(walkVals w S ep ns xs).Perm xs:=by
  unfold walkVals
  split
  · have:=(FE (w.params.setOrder S ep) (bi ns xs).toArray).map (·.2)
    rw[List.toList_toArray,B3 h] at this
    exact this
  · exact .refl _
noncomputable def lc (w:World) (ns:List Nat):Nat→Nat
  | 0=>0
  | i + 1=>if tn w then 0 else ns.getD i 0 + 1
theorem BD:∀ ns∈eN,SetTable.below ns.toArray 0=0∧∀ i∈List.range 4,i < ns.length→SetTable.below ns.toArray (ns.getD i 0 + 1)=i + 1:=by decide +kernel
section
variable {prog:Program}{w:World}{A:Around}{E:Value→Shared→Prop}{s:Shared}
theorem uX {Q:Bool→Shared→Prop} (h:Q (tn w) s):wpAny (model prog w) A setsByText Q E s:=wpAny_bind (wpAny_askSetting (wpAny_pure h))
theorem Ab {M:Model}{α:Type}{c:Bool}{a b:Sem α}{Q:α→Shared→Prop} (hc:c=false) (h:wpAny M A b Q E s):wpAny M A (if c=true then a else b) Q E s:=by subst hc; exact h
theorem sD {S:Addr}{ep i:Nat}{ns:List Nat}{xs:List Value}{Q:Option (Value × Nat)→Shared→Prop} (hns:ns∈eN) (hxs:IntsAre xs (sE ns)) (hi:i≤ns.length) (hS:s.heap.get? S=some (qS ns xs (gR w) ep))
    (h1:∀ v,(walkVals w S ep ns xs)[i]? = some v→Q (some (v,lc w ns (i + 1))) s) (h2:i=ns.length→Q none s):
    wpAny (model prog w) A (setNext S (lc w ns i) i ep) Q E s:=by
  have hl:=gy hxs
  have hlen:xs.length=ns.length:=by have:=hxs.length; simpa [sE] using this
  have hsz:(bi ns xs).toArray.size=ns.length:=by simpa using hl
  have hf:(dO ns (gR w)).fits (bi ns xs).toArray.size=true:=by rw[hsz]; exact n7 _ ns hns
  have h4:=mQ ns hns
  unfold setNext
  refine wpAny_bind (wpAny_setState_of hS rfl hf ?_)
  dsimp only
  refine wpAny_bind (uX ?_)
  by_cases hb:tn w=true
  · rw[if_pos hb,if_neg (by simp)]
    unfold setWalk
    refine wpAny_bind (wpAny_bind (wpAny_setState_of hS rfl hf ?_))
    dsimp only
    refine wpAny_bind (uX ?_)
    rw[if_pos hb]
    refine wpAny_bind (wpAny_askSetting (wpAny_pure (wpAny_pure ?_)))
    have hw:walkVals w S ep ns xs=(pickOrder (w.params.setOrder S ep) (bi ns xs).toArray).toList.map (·.2):=by unfold walkVals; rw[if_pos hb]
    have hpl:=(sn (w:=w) (S:=S) (ep:=ep) hxs).length_eq
    rw[hlen] at hpl
    show Q (((pickOrder (w.params.setOrder S ep) (bi ns xs).toArray)[i]?).map fun e=>(e.2,lc w ns i)) s
    have hs1:lc w ns i=lc w ns (i + 1):=by cases i <;> simp[lc,hb]
    cases hg:(pickOrder (w.params.setOrder S ep) (bi ns xs).toArray)[i]? with
    | none=>
      refine h2 ?_
      have:(walkVals w S ep ns xs)[i]? = none:=by rw[hw,List.getElem?_map]; simp[hg]
      rw[List.getElem?_eq_none_iff] at this
      omega
    | some e=>
      rw[hs1]
      refine h1 e.2 ?_
      rw[hw,List.getElem?_map]
      simp[hg]
  · rw[if_neg hb]
    have hled:gR w=true:=by unfold gR; unfold tn at hb; simpa using hb
    refine Ab rfl ?_
    refine wpAny_bind (wpAny_of_eq (a:=()) ?_ ?_)
    · show(if (!(gR w)&&!(bi ns xs).toArray.isEmpty)=true then unsupported "set:maker-not-led" else pure ())=pure ()
      rw[hled]; rfl
    refine wpAny_pure ?_
    have hw:walkVals w S ep ns xs=xs:=by unfold walkVals; rw[if_neg hb]
    have hbel:SetTable.below ns.toArray (lc w ns i)=i:=by
      obtain⟨b1,b2⟩:=BD ns hns
      cases i with
      | zero=>exact b1
      | succ i=>
        show SetTable.below ns.toArray (if tn w then 0 else ns.getD i 0 + 1)=i + 1
        rw[if_neg hb]
        exact b2 i (by simp; omega) (by omega)
    show Q (match (bi ns xs).toArray[SetTable.below ns.toArray (lc w ns i)]?,ns.toArray[SetTable.below ns.toArray (lc w ns i)]? with | some (_,x),some j=>some (x,j + 1) | _,_=>none) s
    rw[hbel]
    by_cases hin:i=ns.length
    · have e1:(bi ns xs).toArray[i]? = none:=by simp[hl,hin]
      rw[e1]
      exact h2 hin
    · have hlt:i < ns.length:=by omega
      have e0:xs[i]? = some xs[i]:=by simp[hlen,hlt]
      have e1:(bi ns xs).toArray[i]? = some (hashInt (ns.getD i 0:Nat),xs[i]):=by simpa using Bv hxs e0
      have e2:ns.toArray[i]? = some (ns.getD i 0):=by simp[hlt]
      rw[e1,e2]
      have:=h1 xs[i] (by rw[hw]; exact e0)
      have hs1:lc w ns (i + 1)=ns.getD i 0 + 1:=by simp[lc,hb]
      rw[hs1] at this
      exact this
end
end Mine
end
section
open PySem PySem.W PyProof.Rows PySem.Calls PySem.SeqAt
namespace Mine
theorem oO:Slot "set_iterator" "__iter__" "set_iterator.__iter__":=
  .of (owner:="set_iterator") (n:="__iter__") (by rw[typeLookup_type,builtinLookup_eq_fast]; kernel_rfl) (by decide +kernel) (by decide +kernel) (by decide +kernel)
    (by first | exact .inl (by decide +kernel) | exact .inr (by decide +kernel)) (by rw[isSubtype_type]; kernel_rfl)
theorem sG:entryFor table "set_iterator.__iter__"=some Builtin.«dict_keyiterator.__iter__»:=entryFor_alias (id':="dict_keyiterator.__iter__") (by kernel_rfl) rfl (by decide +kernel) (by kernel_rfl)
theorem ut (a:Value):argsOk "set_iterator.__iter__" ⟨[a],[]⟩:=by unfold argsOk; kernel_rfl
noncomputable def zR (w:World) (ns:List Nat) (S:Addr) (ep i:Nat):Obj:={ cls := .type "set_iterator",dict:=none,data := .fields #[.int (lc w ns i:Nat) 0, .int i 0, .ref S, .int (ns.length:Nat) 0, .int ep 0] }
section
variable {prog:Program}{w:World}
theorem DL {A:Around}{E:Value→Shared→Prop}{s:Shared}{S:Addr}{ns:List Nat}{xs:List Value}{ep:Nat}{Q:Value→Shared→Prop} (hns:ns∈eN) (hxs:IntsAre xs (sE ns)) (hS:s.heap.get? S=some (qS ns xs (gR w) ep))
    (hQ:Q (.ref s.heap.objs.size) { s with heap:=s.heap.push (zR w ns S ep 0) }):wpAny (model prog w) A (pyIter (.ref S)) Q E s:=by
  have hl:=gy hxs
  have hsz:(bi ns xs).toArray.size=ns.length:=by simpa using hl
  have hf:(dO ns (gR w)).fits (bi ns xs).toArray.size=true:=by rw[hsz]; exact n7 _ ns hns
  have hT:s.TypeIs (.ref S) "set":=⟨_,hS,rfl⟩
  refine wpAny_pyIter_slot hT F.slot_set_iter (wpAny_call_entry F.slot_set_iter hT xa ?_ (F.args_set_iter_1 _))
  unfold Builtin.«frozenset.__iter__» Builtin.Frozenset.slot0 slotArgs
  simp only[List.isEmpty_nil,Bool.not_true,Bool.false_eq_true,↓reduceIte,bind_assoc,List.length_nil,bne_self_eq_false]
  unfold Builtin.Frozenset.addrOf Builtin.Frozenset.sizeOf
  refine wpAny_bind (wpAny_pure ?_)
  try dsimp only
  refine wpAny_bind (wpAny_pure ?_)
  refine wpAny_bind (wpAny_bind (wpAny_setEntries_of hS rfl hf (wpAny_pure ?_)))
  unfold setDrawn
  refine wpAny_bind (wpAny_bind (wpAny_setState_of hS rfl hf ?_))
  dsimp only
  refine wpAny_bind (uX (wpAny_pure ?_))
  refine Ab (c:=!tn w&&(false&&decide ((bi ns xs).toArray.size > 1))) (by simp) ?_
  refine wpAny_bind (wpAny_pure ?_)
  refine wpAny_bind (wpAny_setEpoch_of hS rfl hf ?_)
  rw[hsz]
  exact wpAny_bind (wpAny_newObj_type (wpAny_pure ⟨_,rfl,"set_iterator",_,⟨_,Heap.get?_push_size _ rfl,rfl⟩,dT.lookup,hQ⟩))
theorem Walks.small {A:Around} (hh:A.handled=none) (I S:Addr) (hne:S≠I) {ns:List Nat}{xs:List Value}{ep:Nat} (hns:ns∈eN) (hxs:IntsAre xs (sE ns)):
    Walks prog w A I [I,S] [I] ns.length (fun i v=>(walkVals w S ep ns xs)[i]? = some v) (fun i h=>h.get? I=some (zR w ns S ep i)∧h.get? S=some (qS ns xs (gR w) ep)∧i≤ns.length) where
  sub:=fun b hb=>by simp at hb; simp[hb]
  frame:=fun _ _ _ st hk=>⟨hk I (by simp) _ st.1,hk S (by simp) _ st.2.1,st.2.2⟩
  item:=fun i s Q E hi st hQ=>by
    obtain⟨hI,hS,_⟩:=st
    have hl:=gy hxs
    have hsz:(bi ns xs).toArray.size=ns.length:=by simpa using hl
    have hf:(dO ns (gR w)).fits (bi ns xs).toArray.size=true:=by rw[hsz]; exact n7 _ ns hns
    have hT:s.TypeIs (.ref I) "set_iterator":=⟨_,hI,rfl⟩
    unfold pyNext
    refine wpAny_bind (wpAny_attempt (wpAny_callSpecial?_slot (name:=Str.ofString "__next__") hT dT
      (wpAny_call_entry dT hT nr ?_ (oB _))))
    show wpAny _ _ (fieldsOf (.ref I) >>= _) _ _ s
    refine wpAny_bind (wpAny_fieldsOf hI rfl ?_)
    dsimp only
    refine wpAny_bind (wpAny_setEntries_of hS rfl hf ?_)
    rw[hsz]
    refine Ab (by simp) ?_
    refine wpAny_bind (sD (i:=i) hns hxs (Nat.le_of_lt hi) hS (fun v hv=>?_) fun q=>absurd q (Nat.ne_of_lt hi))
    dsimp only
    refine wpAny_bind (wpAny_setField hI rfl (by simp) ?_)
    have e1:=Heap.get?_update_self (Obj.mapFields (·.setIfInBounds 0 (rawInt (lc w ns (i + 1):Nat)))) hI rfl
    refine wpAny_bind (wpAny_setField e1 rfl (by simp[Obj.mapFields,zR]) ?_)
    refine wpAny_pure ⟨v,rfl,wpAny_pure (hQ v _ s.toks hv ⟨?_,?_,hi⟩ fun b o hb e=>?_)⟩
    · have e2:=Heap.get?_update_self (Obj.mapFields (·.setIfInBounds 1 (rawInt ((i:Int) + 1)))) e1 rfl
      exact e2
    · exact(Heap.get?_update_other _ _ (Ne.symm hne)).trans ((Heap.get?_update_other _ _ (Ne.symm hne)).trans hS)
    · have hb':I≠b:=fun q=>hb (by simp[q])
      exact(Heap.get?_update_other _ _ hb').trans ((Heap.get?_update_other _ _ hb').trans e)
  done:=fun s Q E st hQ=>by
    obtain⟨hI,hS,_⟩:=st
    have hl:=gy hxs
    have hsz:(bi ns xs).toArray.size=ns.length:=by simpa using hl
    have hf:(dO ns (gR w)).fits (bi ns xs).toArray.size=true:=by rw[hsz]; exact n7 _ ns hns
    have hT:s.TypeIs (.ref I) "set_iterator":=⟨_,hI,rfl⟩
    have hpl:=(sn (w:=w) (S:=S) (ep:=ep) hxs).length_eq
    have hlen:xs.length=ns.length:=by have:=hxs.length; simpa [sE] using this
    unfold pyNext
    refine wpAny_bind (wpAny_attempt (wpAny_callSpecial?_slot (name:=Str.ofString "__next__") hT dT
      (wpAny_call_entry dT hT nr ?_ (oB _))))
    show wpAny _ _ (fieldsOf (.ref I) >>= _) _ _ s
    refine wpAny_bind (wpAny_fieldsOf hI rfl ?_)
    dsimp only
    refine wpAny_bind (wpAny_setEntries_of hS rfl hf ?_)
    rw[hsz]
    refine Ab (by simp) ?_
    refine wpAny_bind (sD (i:=ns.length) hns hxs (Nat.le_refl _) hS (fun v hv=>?_) fun _=>?_)
    · have h9:ns.length < (walkVals w S ep ns xs).length:=(List.getElem?_eq_some_iff.mp hv).1
      omega
    dsimp only
    refine wpAny_bind (wpAny_setField hI rfl (by simp[zR]) ?_)
    show wpAny _ _ (newExc (.type "StopIteration") [] >>= _) _ _ _
    refine wpAny_bind ?_
    simp only[newExc,newTuple]
    refine wpAny_bind (wpAny_newObj_type ?_ (by size_fits))
    refine wpAny_bind (m:=firstArgMember _ _) (wpAny_of_eq (a:=Value.none) (by first | rfl | (simp only[firstArgMember]; rfl)) ?_)
    refine wpAny_newObj_type ?_ (by size_fits)
    simp only[raiseNew]
    refine wpAny_bind (wpAny_handled ?_)
    rw[show A.in1.handled=none from hh]
    refine wpAny_bind (wpAny_pure (wpAny_throw ?_))
    refine wpAny_bind (wpAny_isInstance (T:="StopIteration") (b:=true) ⟨_,Heap.get?_push_size _ rfl,rfl⟩ isSubtype_stop ?_)
    exact wpAny_pure (hQ _ s.toks fun b o hb e=>(((Heap.SameBut.update ..).extBut.push _).push _) b o (fun q=>hb (by simp[q])) e)
  self:=fun i s Q E st hQ=>by
    have hT:s.TypeIs (.ref I) "set_iterator":=⟨_,st.1,rfl⟩
    refine wpAny_pyIter_slot hT oO (wpAny_call_entry oO hT sG ?_ (ut _))
    show wpAny _ _ (ret (.ref I)) _ _ s
    exact wpAny_pure ⟨_,rfl,"set_iterator",_,hT,dT.lookup,hQ⟩
end
end Mine
end
section
open PySem PySem.W PyProof.Rows PySem.Calls PySem.SeqAt
namespace Mine
section
variable {prog:Program}{w:World}{A:Around}{E:Value→Shared→Prop}{s:Shared}
theorem yO {S:Addr}{ns:List Nat}{xs:List Value}{ep:Nat}{Q:List Value→Shared→Prop} (hh:A.handled=none) (hns:ns∈eN) (hxs:IntsAre xs (sE ns)) (hS:s.heap.get? S=some (qS ns xs (gR w) ep))
    (hQ:∀ ys h' tk,ys.Perm xs→(∀ b o,s.heap.get? b=some o→h'.get? b=some o)→Q ys { s with heap:=h',toks:=tk }):wpAny (model prog w) A (collect (.ref S)) Q E s:=by
  have hlen:xs.length=ns.length:=by have:=hxs.length; simpa [sE] using this
  have h4:=mQ ns hns
  have hlt:S < s.heap.objs.size:=Heap.lt_size hS
  unfold collect
  refine wpAny_bind (wpAny_runValue (codeAny_builtin F.entry_proto_collect ?_))
  rw[Around.under_plainId F.plain_proto_collect _]
  show wpAny _ A.in1 (newList [] >>= fun l=>again (.builtin "list.__iadd__" ⟨[l, .ref S],[]⟩)) _ _ s
  refine wpAny_bind (wpAny_newObj_type ?_)
  refine wpAny_pure ⟨plainId_quiet F.plain_list_iadd _,codeAny_builtin F.entry_list_iadd ?_⟩
  rw[Around.under_plainId F.plain_list_iadd _]
  show wpAny _ A.in1 (Builtin.List.listExtendWith (.ref s.heap.objs.size) (.ref S) (.ref s.heap.objs.size)) _ _ _
  unfold Builtin.List.listExtendWith
  have hS1:(s.heap.push { cls := .type "list",data := .seq ([]:List Value).toArray }).get? S=some (qS ns xs (gR w) ep):=Heap.get?_push_of_some _ hS
  have hT1:Shared.TypeIs { s with heap:=s.heap.push { cls := .type "list",data := .seq ([]:List Value).toArray } } (.ref S) "set":=⟨_,hS1,rfl⟩
  refine wpAny_bind (wpAny_typeOf hT1 ?_)
  have h1:Builtin.List.listSameRef (.ref s.heap.objs.size) (.ref S)=false:=by simp[Builtin.List.listSameRef]; exact Ne.symm (Nat.ne_of_lt hlt)
  have h2:(Value.type "set"==Value.type "list")=false:=by decide
  have h3:(Value.type "set"==Value.type "tuple")=false:=by decide
  simp only[h1,h2,h3,Bool.or_false,Bool.false_eq_true,if_false]
  refine wpAny_bind (DL hns hxs hS1 ?_)
  refine wpAny_bind (wpAny_holding ?_)
  generalize hH:s.heap.push { cls := .type "list",data := .seq ([]:List Value).toArray }=H at hS1 ⊢
  have hHs:H.objs.size=s.heap.objs.size + 1:=by rw[← hH,Heap.size_push]
  have hS2:(H.push (zR w ns S ep 0)).get? S=some (qS ns xs (gR w) ep):=Heap.get?_push_of_some _ hS1
  have hT2:Shared.TypeIs { s with heap:=H.push (zR w ns S ep 0) } (.ref S) "set":=⟨_,hS2,rfl⟩
  unfold Builtin.List.listLengthHint
  refine wpAny_bind (wpAny_specialOf hT2 F.slot_set_len.lookup ?_)
  wp_delta
  refine wpAny_bind (wpAny_isInstance hT2 sub_set_self ?_)
  show wpAny _ A.in1 (typeOf (Value.ref S) >>= _) _ _ _
  refine wpAny_bind (wpAny_typeOf hT2 ?_)
  refine wpAny_pure ?_
  show wpAny _ A.in1 (rule "list.extend.makes-room" >>= fun _=>Builtin.List.listTouch (.ref s.heap.objs.size) >>= fun _=>
    again (.builtin "list.extend.loop" ⟨[.ref s.heap.objs.size, .ref H.objs.size, .ref s.heap.objs.size],[]⟩)) _ _ _
  refine wpAny_bind (wpAny_rule ?_)
  have hSf:s.heap.objs.size∉[H.objs.size,S]:=fun hm=>by
    rcases List.mem_cons.mp hm with q | q
    · rw[hHs] at q; exact absurd q (Nat.ne_of_lt (Nat.lt_succ_self _))
    · exact Nat.lt_irrefl _ (Nat.lt_of_le_of_lt (Nat.le_of_eq (List.mem_singleton.mp q)) hlt)
  have hL1:(H.push (zR w ns S ep 0)).get? s.heap.objs.size=some { cls := .type "list",data := .seq ([]:List Value).toArray }:=Heap.get?_push_of_some _ (hH▸Heap.get?_push_size _ rfl)
  refine wpAny_bind ?_
  show wpAny _ A.in1 (updateSeq s.heap.objs.size (·.push .none) >>= fun _=>updateSeq s.heap.objs.size (·.pop)) _ _ _
  refine wpAny_bind (wpAny_updateSeq hL1 rfl ?_)
  have hL2:=Heap.get?_update_self (Obj.mapSeq (·.push Value.none)) hL1 rfl
  refine wpAny_updateSeq hL2 rfl ?_
  have hL3:=Heap.get?_update_self (Obj.mapSeq (·.pop)) hL2 rfl
  have oth:∀ b o,b≠s.heap.objs.size→(H.push (zR w ns S ep 0)).get? b=some o→(((H.push (zR w ns S ep 0)).update s.heap.objs.size (Obj.mapSeq (·.push Value.none))).update s.heap.objs.size (Obj.mapSeq (·.pop))).get? b=some o:=
    fun b o hb e=>(Heap.get?_update_other _ _ (Ne.symm hb)).trans ((Heap.get?_update_other _ _ (Ne.symm hb)).trans e)
  have nS:S≠s.heap.objs.size:=Nat.ne_of_lt hlt
  have nI:H.objs.size≠s.heap.objs.size:=by rw[hHs]; exact Ne.symm (Nat.ne_of_lt (Nat.lt_succ_self _))
  have hSI:S≠H.objs.size:=by rw[hHs]; exact Nat.ne_of_lt (Nat.lt_succ_of_lt hlt)
  have W:=Walks.small (prog:=prog) (w:=w) (A:=A.in1) (by simp[hh]) H.objs.size S hSI (ep:=ep) hns hxs
  refine wpAny_pure ⟨plainId_quiet F.plain_extend_loop _,codeAny_extend_loopS W.toS (by rw[sizeLine_eq]; omega) _ hSf _ ns.length 0 _ _ _ rfl (Nat.zero_le _)
    ⟨oth _ _ nI (Heap.get?_push_size _ rfl),oth _ _ nS hS2,Nat.zero_le _⟩ hL3 (ItemsOf.nil _) fun s' acc' c' hm hS' hacc=>?_⟩
  show wpAny _ A (load s.heap.objs.size >>= _) _ _ s'
  refine wpAny_bind (wpAny_load hS' (wpAny_pure ?_))
  obtain⟨h',g',d',tk',os'⟩:=s'
  have eg:g'=s.gens:=hm.gens
  have ed:d'=s.drawn:=hm.drawn
  have eo:os'=s.os:=hm.os
  subst eg; subst ed; subst eo
  refine hQ acc'.toList h' tk' ?_ fun b o e=>?_
  · have hpl:=(sn (w:=w) (S:=S) (ep:=ep) hxs).length_eq
    have:acc'.toList=walkVals w S ep ns xs:=by
      refine List.ext_getElem? fun i=>?_
      by_cases hi:i < ns.length
      · have hs:acc'.size=ns.length:=hacc.1
        have e1:acc'.toList[i]? = some acc'[i]:=by simp[hs,hi]
        have:=hacc.2 i acc'[i] (by simp[hs,hi])
        rw[e1]; exact this.symm
      · have hs:acc'.size=ns.length:=hacc.1
        rw[List.getElem?_eq_none (by simp[hs]; omega),List.getElem?_eq_none (by rw[hpl,hlen]; omega)]
    rw[this]
    exact sn hxs
  · have hb:=Heap.lt_size e
    refine hm.heap b o ?_ (oth b o (Nat.ne_of_lt hb) (Heap.get?_push_of_some _ (hH▸Heap.get?_push_of_some _ e)))
    intro hmem
    rcases List.mem_cons.mp hmem with q | q
    · exact Nat.lt_irrefl _ (Nat.lt_of_le_of_lt (Nat.le_of_eq q.symm) hb)
    · have q':b=H.objs.size:=List.mem_singleton.mp q
      rw[hHs] at q'
      exact absurd hb (by rw[q']; exact Nat.not_lt.mpr (Nat.le_succ _))
end
end Mine
end
section
open PySem PySem.W PyProof.Rows PySem.Calls PySem.SeqAt
namespace Mine
theorem Fb {ys xs:List Value} (p:ys.Perm xs):∀ {ns:List Int},IntsAre xs ns→∃ ms,IntsAre ys ms∧ms.Perm ns:=by
  induction p with
  | nil=>intro ns h; exact⟨ns,h, .refl _⟩
  | cons x p ih=>intro ns h; cases h with
    | cons n t r=>obtain⟨ms,h1,h2⟩:=ih r; exact⟨n::ms, .cons n t h1, .cons n h2⟩
  | swap x y l=>intro ns h; cases h with
    | cons n t r=>cases r with
      | cons m u r=>exact⟨_, .cons _ _ (.cons _ _ r), .swap _ _ _⟩
  | trans p q ih1 ih2=>intro ns h; obtain⟨ms,h1,h2⟩:=ih2 h; obtain⟨ks,h3,h4⟩:=ih1 h1; exact⟨ks,h3,h4.trans h2⟩
theorem AT:∀ ns∈eN,(sE ns).Pairwise (·≤·):=by decide +kernel
theorem FD:∀ {l l':List Int},l.Perm l'→l.Pairwise (·≤·)→l'.Pairwise (·≤·)→l=l':=by
  intro l
  induction l with
  | nil=>intro l' p _ _; exact(List.Perm.nil_eq p)
  | cons a l ih=>
    intro l' p h1 h2
    cases l' with
    | nil=>exact absurd p.length_eq (by simp)
    | cons b l'=>
      rw[List.pairwise_cons] at h1 h2
      have hab:a=b:=by
        have ha:a∈b::l':=p.mem_iff.mp (.head _)
        have hb:b∈a::l:=p.mem_iff.mpr (.head _)
        rcases List.mem_cons.mp ha with q | q
        · exact q
        · rcases List.mem_cons.mp hb with q' | q'
          · exact q'.symm
          · have:=h1.1 _ q'; have:=h2.1 _ q; omega
      subst hab
      rw[ih (List.Perm.cons_inv p) h1.2 h2.2]
section
variable {prog:Program}{w:World}{A:Around}{E:Value→Shared→Prop}{s:Shared}
theorem Ah {S:Addr}{ns:List Nat}{xs:List Value}{ep:Nat}{Q:Value→Shared→Prop} (hh:A.handled=none) (hns:ns∈eN) (hxs:IntsAre xs (sE ns)) (hS:s.heap.get? S=some (qS ns xs (gR w) ep))
    (h:∀ (out:List Value) L n h' tk,IntsAre out (sE ns)→s.heap.get? L=none→h'.get? L=some { cls := .type "list",dict:=none,data := .seq out.toArray n }→(∀ b o,s.heap.get? b=some o→h'.get? b=some o)→Q (.ref L) { s with heap:=h',toks:=tk }):
    wpAny (model prog w) A (call (.builtin "sorted") [.ref S]) Q E s:=by
  have h4:=mQ ns hns
  have hlen:xs.length=ns.length:=by have:=hxs.length; simpa [sE] using this
  refine Calls.call_function_entry kind_sorted plain_sorted entry_sorted (args_sorted1 _) ?_
  unfold Builtin.«sorted»
  refine wpAny_bind (m:=checkCount "sorted" 1 1 _) (wpAny_pure ?_)
  refine wpAny_bind (yO (by simp[hh]) hns hxs hS fun ys h1 tk p k1=>?_)
  obtain⟨ms,q1,q2⟩:=Fb p hxs
  have hyl:ys.length=ns.length:=p.length_eq.trans hlen
  refine wpAny_bind (wpAny_newList ?_)
  have hoL:(h1.push (seqObj "list" ys.toArray 0)).get? h1.objs.size=some (seqObj "list" ys.toArray 0):=Heap.get?_push_size _ rfl
  have hlt:h1.objs.size < (h1.push (seqObj "list" ys.toArray 0)).objs.size:=Heap.lt_size hoL
  refine wpAny_bind (wpAny_holding (wpAny_call_entry slot_list_sort ⟨_,hoL,rfl⟩ entry_list_sort (list_sort_tree hoL q1 (by omega) fun out ns' a1 a2 a3=>⟨_,rfl,?_⟩) (args_list_sort _)))
  have e:ns'=sE ns:=FD (a2.trans q2) a3 (AT ns hns)
  subst e
  have hn0:s.heap.get? h1.objs.size=none:=by
    cases e:s.heap.get? h1.objs.size with
    | none=>rfl
    | some o=>exact absurd (Heap.lt_size (k1 _ _ e)) (Nat.lt_irrefl _)
  obtain⟨n2,hat⟩:∃ n2,(sortedHeap (h1.push (seqObj "list" ys.toArray 0)) h1.objs.size ys out).get? h1.objs.size=some (seqObj "list" out n2):=sortedHeap_at hoL
  refine wpAny_pure ⟨_,rfl,h out.toList h1.objs.size n2 (sortedHeap (h1.push (seqObj "list" ys.toArray 0)) h1.objs.size ys out) tk a1 hn0 hat fun b o e=>?_⟩
  have hb:b < h1.objs.size:=Heap.lt_size (k1 _ _ e)
  rw[sortedHeap_old (Nat.ne_of_lt hb) (Nat.lt_trans hb hlt)]
  exact cN _ _ (k1 _ _ e)
end
noncomputable def uB:List V→Option (List Nat)
  | []=>some []
  | .int i::l=>if 0≤i then (uB l).map (i.toNat::·) else none
  | _=>none
theorem zc:∀ {l:List V}{ns:List Nat},uB l=some ns→l=ns.map fun n=>V.int (n:Nat)
  | [],ns,h=>by cases h; rfl
  | v::l,ns,h=>by
    unfold uB at h
    split at h
    · rename_i q; cases q
    · rename_i i l' q
      cases q
      split at h
      · rename_i hi
        refine fJ h fun ms h1 h2=>?_
        subst h2
        rw[zc h1]
        simp
        omega
      · cases h
    · cases h
theorem xN {G:Pg}{s:Vw}:∀ {ns:List Nat}{xs:List Value},eZ G s (ns.map fun n=>V.int (n:Nat)) xs→IntsAre xs (sE ns)
  | [],_, .nil => .nil
  | n::ns,_, .cons r rs=>by
    obtain⟨t,rfl⟩:=gJ r
    exact .cons _ t (xN rs)
theorem uZ {G:Pg}{s:Vw}:∀ {ns:List Nat}{xs:List Value},IntsAre xs (sE ns)→eZ G s (ns.map fun n=>V.int (n:Nat)) xs
  | [],_, .nil => .nil
  | n::ns,_, .cons _ t r => .cons (.int _ t) (uZ r)
noncomputable def qL (g:LF):EF:=fun M H=>(g M H).bind fun p=>match p.1 with
  | [.lst l]=>(uB l).bind fun ns=>if ns∈eN then some (.lst l,p.2) else none
  | _=>none
section
variable {U:fL}{n:Nat}{sc:Scope}
theorem E.Iq {i j:Nat}{x y:Str}{p p' pos pos':Pos}{e:PySem.Expr}{g:LF} (h:sc.names[i]? = some (x, .globalImplicit)) (hb:Boot U x (.builtin "sorted")) (h':sc.names[j]? = some (y, .globalImplicit)) (hb':Boot U y (.type "set"))
    (hL:iz U n sc [e] g) (he:oo e []) (he':∀ env,starEach [.Call (.Name y p') [e] [] pos'] env=[(false,eval (.Call (.Name y p') [e] [] pos') env)]):aA U n sc (.Call (.Name x p) [.Call (.Name y p') [e] [] pos'] [] pos) (qL g):=by
  intro A env M P ρ R H s Q E v H' hr so gd lr hf hQ
  refine bf hf fun vs H1 e1 hf=>?_
  refine wpAny_Call_NameR (wc h so gd lr hb.free hb.is hb.ne ?_)
  refine callWith_of (P:=fun h=>U.K.In h) (by rw[he']; rfl) (fun h X=>qd hb.kept X) ?_
  have key:wpAny (model U.prog U.w) A (spliced (backTo pos (starEach [.Call (.Name y p') [e] [] pos'] env))) (fun vs s₁=>U.K.In s₁.heap∧wpAny (model U.prog U.w) A (call (.builtin "sorted") ([]++vs)) Q E s₁) E s:=by
    refine wpAny_items_cons (pz h' hb' hL he hr so gd lr e1 fun xs s1 ρ1 st1 g1 va=>?_) (he' env)
    dsimp only at hf
    split at hf
    · refine gz hf fun ns hn hf=>?_
      split at hf
      · rename_i l hk
        cases hf
        cases va with | cons v1 v2=>cases v2 with | nil=>
        refine ke v1 fun a ys m e_3 fx hz rv=>?_
        subst e_3
        have hl:=zc hn
        subst hl
        refine xH hr.hd fx.1 hk (xN rv) fun h1 tk hS k1=>?_
        obtain⟨ep,hS⟩:=hS
        have st2:Step [] ρ1 s1 ρ1 { s1 with heap:=h1,toks:=tk }:=cm k1
        have g2:Good U.toPg U.top ρ1 R H' ({ s1 with heap:=h1,toks:=tk }:Shared).heap:=g1.grow k1
        refine wpAny_items_nil ⟨g2.FZ,?_⟩
        refine Ah hr.hd hk (xN rv) hS fun out L n2 h2 tk2 b1 b2 b3 k2=>?_
        have st3:=st1.trans (st2.trans (cm (tk:=tk2) k2))
        refine hQ _ _ ρ1 st3 (g2.grow k2) (.lst (n:=⟨n2,none,#[]⟩) (xs:=out) (rV g2 b3 b2) ?_ (uZ b1))
        have hl:=b1.length
        have:=mQ ns hk
        simp[sE] at hl
        omega
      · cases hf
    · cases hf
  rw[he'] at key ⊢
  exact Calls.evalArgs_plain key
end
end Mine
end
section
open PySem PySem.W PyProof.Rows PySem.Calls PySem.SeqAt
namespace Mine
section
variable {U:fL}{n:Nat}{sc:Scope}{b:Bool}
noncomputable def my (k:Nat) (a:AF) (f:EF):Nat→Nat→Loc→Hp→Option (List V × Hp)
  | 0,i,M,H=>match H[k]? with
    | some (.lst l)=>if l.length=i then some ([],H) else none
    | _=>none
  | m + 1,i,M,H=>match H[k]? with
    | some (.lst l)=>match l[i]? with
      | some v=>(a v M H).bind fun q=>(f q.1 q.2).bind fun x=>(my k a f m (i + 1) q.1 x.2).map fun z=>(x.1::z.1,z.2)
      | none=>none
    | _=>none
noncomputable def zU (sel:List (Option Nat)) (fe:EF) (a:AF) (f:EF):LF:=fun M H=>(fe M H).bind fun p=>match p.1 with
  | .ref k=>match p.2[k]? with
    | some (.lst l)=>if gL sel M=true∧l.length≤1048576 then my k a f l.length 0 (inner sel M) p.2 else none
    | _=>none
  | _=>none
noncomputable def zX (sel:List (Option Nat)) (fe:EF) (a:AF) (f:EF):EF:=fun M H=>(zU sel fe a f M H).map fun q=>(.lst q.1,q.2)
theorem xw {sel:List (Option Nat)}{fe:EF}{a:AF}{f:EF}{M:Loc}{H:Hp}{r:List V × Hp} (hf:zU sel fe a f M H=some r):
    ∃ k H0 l,fe M H=some (.ref k,H0)∧H0[k]? = some (.lst l)∧gL sel M=true∧l.length≤1048576∧my k a f l.length 0 (inner sel M) H0=some r:=by
  refine bf hf fun v0 H0 e0 hf=>?_
  cases v0 with
  | ref k=>
    dsimp only at hf
    cases e:H0[k]? with
    | none=>rw[e] at hf; exact bC hf
    | some o=>
      rw[e] at hf
      cases o with
      | lst l=>
        by_cases hc:gL sel M=true∧l.length≤1048576
        · exact⟨k,H0,l,e0,e,hc.1,hc.2,(if_pos hc).symm.trans hf⟩
        · exact bC ((if_neg hc).symm.trans hf)
      | _=>exact bC hf
  | _=>exact bC hf
theorem CS {k m i:Nat}{a:AF}{f:EF}{M:Loc}{H:Hp}{r:List V × Hp} (h:my k a f (m + 1) i M H=some r):∃ l v,H[k]? = some (.lst l)∧l[i]? = some v∧Jy a ik f (my k a f m (i + 1)) v M H=some r:=by
  unfold my at h
  cases e:H[k]? with
  | none=>rw[e] at h; exact bC h
  | some o=>
    rw[e] at h
    cases o with
    | lst l=>
      dsimp only at h
      cases e2:l[i]? with
      | none=>rw[e2] at h; exact bC h
      | some v=>rw[e2] at h; exact⟨l,v,rfl,e2,h⟩
    | _=>exact bC h
theorem Dx {k i:Nat}{a:AF}{f:EF}{M:Loc}{H H':Hp}{z:List V} (h:my k a f 0 i M H=some (z,H')):∃ l,H[k]? = some (.lst l)∧l.length=i∧z=[]∧H=H':=by
  unfold my at h
  cases e:H[k]? with
  | none=>rw[e] at h; exact bC h
  | some o=>
    rw[e] at h
    cases o with
    | lst l=>
      by_cases hl:l.length=i
      · have:=Option.some.inj ((if_pos hl).symm.trans h)
        exact⟨l,rfl,hl,(congrArg Prod.fst this).symm,congrArg Prod.snd this⟩
      · exact bC ((if_neg hl).symm.trans h)
    | _=>exact bC h
theorem CO {elt iter:PySem.Expr}{elts:List PySem.Expr}{kk:Nat}{tp:Pos}{scope:Scope}{pos:Pos}{fe:EF}{a:AF}{f:EF}{sel:List (Option Nat)}{RR:Value→Addr→Result→Shared→Prop}
    (h0:aA U n sc iter fe) (ha:i3 U false n (kb scope sc) (.Tuple elts kk tp) a) (h1:aA U n (kb scope sc) elt f)
    (hs:Sel sc scope sel) (hk:scope.kind = .function) (hso:jX (kb scope sc))
    {A:Around}{env:Env}{M:Loc}{P:List Addr}{ρ:List Hd}{R:List Addr}{H:Hp}{s:Shared}{E:Value→Shared→Prop}{q:List V}{H':Hp}{cl:List (Str × Addr)}
    (hr:ij n A) (so:jX sc) (gd:Good U.toPg U.top ρ R H s.heap) (l:cX U.toPg sc env M P ρ R s.heap) (hf:zU sel fe a f M H=some (q,H'))
    (hcl:∀ x c,cl.lookup x=some c→env.cells.lookup x=some c) (hcl2:∀ x∈scope.names,x.2 = .free→cl.lookup x.1=env.cells.lookup x.1)
    (hRR:∀ C D s5 ρ',Step [C] ρ s ρ' s5→s.heap.get? C=none→Good U.toPg U.top ρ' (C::R) H' s5.heap→(∃ m,s5.heap.Ns C m)→VR U.toPg ⟨s5.heap,ρ',C::R⟩ (.lst q) (.ref D)→RR (.ref D) C (.ok .next) s5):
    wpAny (model U.prog U.w) A (eval iter env) (fun x s₁=>wpAny (model U.prog U.w) A (pyIter x) (fun it s₂=>wpAny (model U.prog U.w) A (newList []) (fun acc s₃=>
      wpAny (model U.prog U.w) A (newFunctionEnv scope env.globals cl [] env.qual none .none (some env)) (fun cenv s₄=>
        codeAny (model U.prog U.w) A (.compStart (.ListComp elt [⟨.Tuple elts kk tp,iter,[],0⟩] scope pos) 0 it acc { cenv with scope:=relabel scope env }) (RR acc cenv.locals) s₄) E s₃) E s₂) E s₁) E s:=by
  obtain⟨kq,H0,vs,e0,hvs,hcg,hlen,eL⟩:=xw hf
  refine h0 A env M P ρ R H s _ E _ H0 hr so gd l e0 fun itv s1 ρ1 st1 g1 vx=>?_
  refine oW vx fun hd hk0 e_2=>?_
  subst e_2
  obtain⟨xs0,n0,lo0,lz0,lv0⟩:=(g1.ob kq _ hd hvs hk0 (gl rfl)).2
  refine wpAny_pyIter_list (bD lo0) ?_
  have itAt:∀ {I:Addr}{h h2:Heap}{i:Nat},h.IsListIter I hd.a i→(∀ o,h.get? I=some o→h2.get? I=some o)→h2.IsListIter I hd.a i:=fun⟨o,e,r⟩ k=>⟨o,k o e,r⟩
  have hst:(s1.heap.push { cls := .type "list_iterator",data := .fields #[.ref hd.a, .int 0 0] }).IsListIter s1.heap.objs.size hd.a 0:=⟨_,Heap.get?_push_size _ rfl,rfl,rfl⟩
  have hIf:s1.heap.get? s1.heap.objs.size=none:=Heap.get?_none_of_le (Nat.le_refl _)
  have hkp:∀ b o,s1.heap.get? b=some o→(s1.heap.push { cls := .type "list_iterator",data := .fields #[.ref hd.a, .int 0 0] }).get? b=some o:=cN
  show wpAny (model U.prog U.w) A (newList []) _ _ { s1 with heap:=s1.heap.push { cls := .type "list_iterator",data := .fields #[.ref hd.a, .int 0 0] },toks:=s1.toks }
  generalize s1.heap.push { cls := .type "list_iterator",data := .fields #[.ref hd.a, .int 0 0] }=h' at hst hkp ⊢
  generalize s1.heap.objs.size=I at hst hIf ⊢
  refine x7 (I:=I) (wr:=[I]) (N:=vs.length) (tk:=s1.toks) (J:=fun i ρ _ h=>h.IsListIter I hd.a i∧∃ hd',ρ[kq]? = some hd'∧hd'.a=hd.a) (cG:=my kq a f) ha C.nil h1 hs hk hso hr g1 (l.cT st1) hcg hlen ?_ eL hcl hcl2 hkp
    (fun b hb=>(List.mem_singleton.mp hb).symm▸hIf) (fun b hb=>(List.mem_singleton.mp hb).symm▸hst.imp fun o x=>x.1) (fun h₂ R₂ le kp=>⟨itAt hst fun o e=>kp _ o e,hd,hk0,rfl⟩) (fun R₂ s2 Q E j=>wpAny_pyIter_listiter j.1)
    fun C D s5 ρ' st hC=>hRR C D s5 ρ' (st1.any.trans st) (st1.old hC)
  refine⟨fun⟨j1,hd5,hk5,ha5⟩ g hwR st hW hn=>?_,fun {m i M H1 z ρ R s} hc hmi ⟨j1,hd5,hk5,ha5⟩ g hwR=>?_,fun {M H1 z ρ R s} hc ⟨j1,hd5,hk5,ha5⟩ g=>?_⟩
  · obtain⟨hd6,hk6,ha6⟩:=st.ext kq hd5 hk5
    exact⟨itAt j1 fun o e=>st.keep I o e (fun q=>g.rs I q (hwR I List.mem_cons_self)) fun q=>hn I q List.mem_cons_self,hd6,hk6,ha6.trans ha5⟩
  · obtain⟨lk,v0,hlk,hv0,hc⟩:=CS hc
    obtain⟨ys5,n5,lo5,lz5,lv5⟩:=(g.ob kq _ hd5 hlk hk5 (gl rfl)).2
    rw[ha5] at lo5
    obtain⟨x5,hx5,vx5⟩:=lv5.get hv0
    refine⟨v0,hc,fun Nn B E hB=>wpAny_pyNext_list_item j1 (bD lo5) (x:=x5) (by simpa using hx5) fun h6 hit6 sb6=>?_⟩
    have exI:∃ o,h6.get? I=some o:=hit6.imp fun o x=>x.1
    have st6:Step [I] ρ s ρ { s with heap:=h6,toks:=s.toks }:=step_same List.mem_cons_self exI sb6.2
    have go:∀ {Q:Unit→Shared→Prop}{E:Value→Shared→Prop},Q () { s with heap:=h6,toks:=s.toks }→wpAny (model U.prog U.w) A (letOwnedTupleGo (.Tuple elts kk tp) (.ref I) x5) Q E { s with heap:=h6,toks:=s.toks }:=fun h=>by
      cases x5 with
      | ref T=>exact wpAny_letOwnedTupleGo_listiter hit6 h
      | _=>exact wpAny_pure h
    exact go (hB x5 _ st6 (g.same (hwR I List.mem_cons_self) exI sb6.2) ⟨hit6,hd5,hk5,ha5⟩ (vx5.mono (st6.le hwR)))
  · obtain⟨lk,hlk,hl,rfl,rfl⟩:=Dx hc
    obtain⟨ys5,n5,lo5,lz5,lv5⟩:=(g.ob kq _ hd5 hlk hk5 (gl rfl)).2
    rw[ha5] at lo5
    exact⟨rfl,rfl,fun Nn B E hN=>wpAny_pyNext_list_end hr.hd j1 (bD lo5) (by rw[List.getElem?_toArray]; exact List.getElem?_eq_none (by rw[lv5.length,hl]; exact Nat.le_refl _)) fun h6 hk6=>hN h6 s.toks fun b o hb e=>hk6 b o (fun q=>hb (q▸List.mem_cons_self)) e⟩
theorem E.my {elt iter:PySem.Expr}{elts:List PySem.Expr}{kk:Nat}{tp:Pos}{scope:Scope}{pos:Pos}{fe:EF}{a:AF}{f:EF}{sel:List (Option Nat)}
    (h0:aA U n sc iter fe) (ha:i3 U false n (kb scope sc) (.Tuple elts kk tp) a) (h1:aA U n (kb scope sc) elt f)
    (hs:Sel sc scope sel) (hk:scope.kind = .function) (hso:jX (kb scope sc)) (hnm:∀ x∈scope.names,x.2 = .local→scope.names.lookup x.1=some .local) (hfs:∀ env x,foldedSetIterable iter env x=pure x):
    aA U n sc (.ListComp elt [⟨.Tuple elts kk tp,iter,[],0⟩] scope pos) (zX sel fe a f):=by
  intro A env M P ρ R H s Q E v H' hr so gd l hf hQ
  refine yC hf fun q H1 e1 hf=>?_
  cases hf
  obtain⟨_,_,_,_,_,hcg,_,_⟩:=xw e1
  refine xX (De hs l hcg) fun cl c1 c2 c3=>?_
  rw[eval_ListComp]
  refine wpAny_comprehension_free (use:=none) rfl (hfs env) c1 hk hnm ?_
  refine CO (RR:=fun acc C=>compPost (model U.prog U.w) A E none Q acc C) h0 ha h1 hs hk hso hr so gd l e1 c2 c3 fun C D s5 ρ' st hC g hns vr=>xE gd hQ st hC g hns vr
end
end Mine
end
section
open PySem PySem.W PyProof.Rows
namespace Mine
noncomputable abbrev pw:Program:=PySem.Challenge.rw_on0176_01.row.toRowW.prog
noncomputable def sd (i:Nat):Stmt:=PySem.Challenge.pw_on0176_01.main.body.getD i (.Pass default)
noncomputable def cd (i j:Nat):Stmt:=match sd i with
  | .ClassDef _ _ _ b ..=>b.getD j (.Pass default)
  | s=>s
noncomputable def fP:Stmt→Arguments
  | .FunctionDef _ a ..=>a
  | _=>default
noncomputable def fB:Stmt→List Stmt
  | .FunctionDef _ _ b ..=>b
  | _=>[]
noncomputable def fS:Stmt→Scope
  | .FunctionDef (scope:=s) ..=>s
  | _=>default
noncomputable def fd (s:Stmt) (n q:Str):FuncData:={ name:=n,qualname:=q,params:=fP s,body := .stmts (fB s),scope:=fS s,globals:=0,closure:=[],defaults := .none,kwdefaults := .none }
noncomputable def tu (l:List Value):Obj:={ cls := .type "tuple",data := .seq l.toArray }
noncomputable def nf (l:List Value):Obj:={ cls := .none,data := .fields l.toArray }
noncomputable def co (l:List Value):Obj:={ cls := .type "code",data := .fields l.toArray }
noncomputable def cq (a:Str) (t:Nat) (q:Str) (ln ar fl:Int) (r:Nat) (b:Bool) (x y z:Value) (u:Nat):Obj:=co [.str a t, .str q (t + 1), .str "/claim/cut.py" (t + 2), .int ln 0, .int ar 0, .int 0 0, .int 0 0, .int fl 0, .ref r, .bool b, .int 181 0, .ref (r + 1), .none,x,y,z, .int (u:Int) 0, .int ln 0, .str "/claim/cut.py" (u + 1)]
noncomputable def fi (c:String) (l:List Value):Obj:={ cls := .type c,data := .fields l.toArray }
noncomputable def en (P:Params) (l:List (Str × Tok × Value)):List DictEntry:=l.map fun e=>{ hash:=PyData.keyHash P e.1,key := .str e.1 e.2.1,val:=e.2.2 }
noncomputable def di (P:Params) (n:Nat) (l:List (Str × Tok × Value)):Obj:={ cls := .type "dict",data := .dict (en P l).toArray n }
noncomputable def dn (P:Params) (n:Nat) (l:List (Str × Tok × Value)):Obj:={ cls := .none,data := .dict (en P l).toArray n }
noncomputable def rf (s:Stmt) (n q:Str):Obj:={ cls := .none,data := .func (fd s n q) }
noncomputable def fo (s:Stmt) (n q:Str) (d k c m e t:Value):Obj:={ cls := .type "function",data := .func { fd s n q with globals:=3,defaults:=d,kwdefaults:=k,doc:=c,pyModule:=m,code:=e,closureTuple:=t } }
noncomputable def fr (l:List (Option Value)):Obj:={ cls := .type "frame",slots:=l.toArray }
noncomputable def ty (n:Str) (b m:List Value) (ns:Addr) (q:Str) (s:List Value) (l:List (Option Value)):Obj:={ cls := .type "type",data := .cls { name:=n,bases:=b,mro:=m,ns:=ns,qualname:=q,subclasses:=s },slots:=l.toArray }
noncomputable abbrev m3 (k:Str) (t:Tok) (v:Value):Str × Tok × Value:=(k,t,v)
noncomputable abbrev N:=BT.node
noncomputable abbrev L (o:Obj):BT := .node o .nil .nil
noncomputable abbrev E:=BT.nil
noncomputable def ML:List (Str × Tok × Value):=[m3 "__name__" 165 (.str "law_on0176_01" 1084),m3 "__doc__" 166 (.none),m3 "__package__" 167 (.none),m3 "__loader__" 168 (.builtin "__main__.__loader__#opaque"),m3 "__spec__" 169 (.none),m3 "__annotations__" 170 (.ref 6),m3 "__builtins__" 171 (.ref 4),m3 "__file__" 173 (.str "/claim/cut.py" 172),m3 "__cached__" 174 (.none),m3 "_wall" 193 (.ref 21),m3 "SMALL" 197 (.str "abcdefghijklmnopqrstuvwxyz" 196),m3 "LETTERS" 200 (.str "abcdefghijklmnopqrstuvwxyzABCDEFGHIJKLMNOPQRSTUVWXYZ" 199),m3 "FIGURES" 202 (.str "0123456789" 201),m3 "NAME_SIGNS" 206 (.str "abcdefghijklmnopqrstuvwxyzABCDEFGHIJKLMNOPQRSTUVWXYZ_0123456789" 205),m3 "HEX_SIGNS" 209 (.str "0123456789abcdefABCDEF" 208),m3 "OCTAL_SIGNS" 211 (.str "01234567" 210),m3 "MOST_FIGURES_source" 213 (.int 4000 212),m3 "PLAIN_ESCAPES" 235 (.ref 22),m3 "Position" 275 (.ref 46),m3 "position_of" 287 (.ref 57),m3 "ToolError" 325 (.ref 82),m3 "LexError" 341 (.ref 95),m3 "Cursor" 501 (.ref 222),m3 "hex_escape" 509 (.ref 233),m3 "escaped_sign" 518 (.ref 240),m3 "escaped" 524 (.ref 245),m3 "BLANKS" 528 (.str " \t" 527),m3 "MARK" 530 (.str "%%" 529),m3 "REMARK" 532 (.str "//" 531),m3 "END_WORD" 534 (.str "<<EOF>>" 533),m3 "FIRST_CONDITION" 536 (.str "INITIAL" 535),m3 "MOST_FIGURES_lexfile" 538 (.int 6 537),m3 "STEP_WORTHS" 566 (.ref 246),m3 "LAST_STEPS" 569 (.ref 247),m3 "NOT_AT_END" 573 (.ref 248),m3 "LexStep" 618 (.ref 280),m3 "LexRule" 699 (.ref 339),m3 "RawPattern" 735 (.ref 367),m3 "LexFile" 809 (.ref 418),m3 "fail" 818 (.ref 429),m3 "lines_of" 828 (.ref 436),m3 "is_left_out" 835 (.ref 443),m3 "quote_end" 845 (.ref 450),m3 "class_end" 856 (.ref 457),m3 "raw_at" 866 (.ref 464),m3 "step_at" 880 (.ref 471),m3 "steps_at" 889 (.ref 478),m3 "OutlineReader" 1034 (.ref 568),m3 "read_outline" 1041 (.ref 579),m3 "show_steps" 1047 (.ref 584),m3 "show_conditions" 1053 (.ref 589),m3 "show_rule" 1063 (.ref 596),m3 "show_rows" 1077 (.ref 603),m3 "show_outline" 1083 (.ref 608),m3 "_law_RAWS" 1098 (.ref 609),m3 "_law_TAILS" 1104 (.ref 610),m3 "_law_WORDS" 1115 (.ref 611),m3 "_law_draw" 1125 (.ref 618),m3 "_law_steps" 1140 (.ref 625),m3 "_law_parts" 1146 (.ref 630),m3 "_law_rows" 1152 (.ref 635),m3 "_law_file_right" 1158 (.ref 640),m3 "law" 1164 (.ref 645)]
noncomputable def TL:List Value:=[Value.int 1 0,Value.int 0 0,Value.ref 20,Value.int 13 0,Value.int 0 0,Value.ref 28,Value.int 22 0,Value.int 0 0,Value.ref 56,Value.int 31 0,Value.int 0 0,Value.ref 63,Value.int 42 0,Value.int 0 0,Value.ref 91,Value.int 44 0,Value.int 0 0,Value.ref 103,Value.int 141 0,Value.int 0 0,Value.ref 232,Value.int 144 0,Value.int 0 0,Value.ref 239,Value.int 155 0,Value.int 0 0,Value.ref 244,Value.int 167 0,Value.int 0 0,Value.ref 254,Value.int 180 0,Value.int 0 0,Value.ref 290,Value.int 213 0,Value.int 0 0,Value.ref 349,Value.int 220 0,Value.int 0 0,Value.ref 377,Value.int 249 0,Value.int 0 0,Value.ref 428,Value.int 251 0,Value.int 0 0,Value.ref 435,Value.int 261 0,Value.int 0 0,Value.ref 442,Value.int 263 0,Value.int 0 0,Value.ref 449,Value.int 271 0,Value.int 0 0,Value.ref 456,Value.int 286 0,Value.int 0 0,Value.ref 463,Value.int 303 0,Value.int 0 0,Value.ref 470,Value.int 329 0,Value.int 0 0,Value.ref 477,Value.int 343 0,Value.int 0 0,Value.ref 484,Value.int 513 0,Value.int 0 0,Value.ref 578,Value.int 515 0,Value.int 0 0,Value.ref 583,Value.int 517 0,Value.int 0 0,Value.ref 588,Value.int 523 0,Value.int 0 0,Value.ref 595,Value.int 530 0,Value.int 0 0,Value.ref 602,Value.int 545 0,Value.int 0 0,Value.ref 607,Value.int 555 0,Value.int 0 0,Value.ref 617,Value.int 559 0,Value.int 0 0,Value.ref 624,Value.int 575 0,Value.int 0 0,Value.ref 629,Value.int 592 0,Value.int 0 0,Value.ref 634,Value.int 605 0,Value.int 0 0,Value.ref 639,Value.int 627 0,Value.int 0 0,Value.ref 644]
noncomputable def Ld (P:Params):BT:=(N (boot_o_7 P) (N (tu []) (N (nf []) (N (cq "ToolError" 290 "ToolError" 31 0 0 61 false .none .none .none 293) (N (fo (cd 14 2) "peek" "Cursor.peek" (.ref 120) .none .none (.str "grammarmill.source" 194) (.ref 126) .none) (N (fr [some (.ref 254),some (.ref 3),some (.ref 251),none,some (.str "grammarmill.lexfile" 525),none,some (.ref 0)]) (L (fo (cd 40 3) "definition_of" "OutlineReader.definition_of" .none .none .none (.str "grammarmill.lexfile" 525) (.ref 510) .none)) E) (N (tu []) (L (cq "_law_file_right" 1153 "_law_file_right" 605 3 3 636 true .none .none (.ref 638) 1156)) E)) (N (fo (cd 14 11) "position" "Cursor.position" .none .none .none (.str "grammarmill.source" 194) (.ref 190) .none) (N (fo (cd 29 3) "has_step" "LexRule.has_step" .none .none .none (.str "grammarmill.lexfile" 525) (.ref 318) .none) (L (tu [.str "text" 1038])) E) (L (tu [])))) (N (ty "LexError" [.ref 82] [.ref 95, .ref 82, .type "Exception", .type "BaseException", .type "object"] 94 "LexError" [] [some (.ref 86),none,some (.str "LexError" 326),some (.str "LexError" 334),some (.builtin "Exception.__new__"),some (.bool true)]) (N (tu []) (N (di P 11 [m3 "__module__" 626 (.str "grammarmill.lexfile" 525),m3 "__qualname__" 628 (.str "LexRule" 627),m3 "__firstlineno__" 630 (.int 180 629),m3 "__init__" 642 (.ref 298),m3 "is_end" 649 (.ref 305),m3 "is_live" 657 (.ref 312),m3 "has_step" 666 (.ref 319),m3 "kind" 674 (.ref 326),m3 "goals" 680 (.ref 331),m3 "told" 686 (.ref 336),m3 "__static_attributes__" 692 (.ref 337)]) (L (tu [])) E) (L (fo (cd 31 5) "told" "LexFile.told" .none .none .none (.str "grammarmill.lexfile" 525) (.ref 414) .none))) (N (fi "getset_descriptor" [.str "__dict__" 495, .ref 222, .builtin "function.__dict__", .builtin "function.__dict__#set"]) (N (tu []) (L (cq "show_outline" 1078 "show_outline" 545 1 3 604 true .none .none (.ref 606) 1081)) E) (L (tu []))))) (N (fi "getset_descriptor" [.str "__dict__" 269, .ref 46, .builtin "function.__dict__", .builtin "function.__dict__#set"]) (N (fo (cd 12 1) "told" "ToolError.told" .none .none .none (.str "grammarmill.source" 194) (.ref 78) .none) (N (nf []) (N (tu []) (L (nf [])) E) (L (tu []))) (N (nf []) (N (cq "told" 681 "LexRule.told" 210 1 3 332 true .none .none (.ref 334) 684) (L (nf [])) E) (L (cq "raw_at" 857 "raw_at" 286 1 3 458 true (.ref 460) (.ref 461) (.ref 462) 864)))) (N (cq "__init__" 355 "Cursor.__init__" 46 3 3 106 true (.ref 108) (.ref 109) (.ref 110) 361) (N (rf (cd 14 9) "name" "Cursor.name") (N (rf (cd 29 1) "is_end" "LexRule.is_end") (L (tu [])) E) (L (nf []))) (N (cq "escaped_sign" 510 "escaped_sign" 144 2 3 234 true (.ref 236) (.ref 237) (.ref 238) 516) (N (ty "RawPattern" [.type "object"] [.ref 367, .type "object"] 366 "RawPattern" [] [none,none,some (.str "RawPattern" 700),some (.str "RawPattern" 708),some (.builtin "object.__new__"),some (.bool true)]) (L (rf (sd 52) "_law_steps" "_law_steps")) E) (L (rf (cd 40 1) "names" "OutlineReader.names")))))) (N (tu []) (N (tu [.str "self" 261]) (N (cq "__init__" 300 "ToolError.__init__" 33 3 3 66 true (.ref 68) (.ref 69) (.ref 70) 306) (N (tu []) (N (fo (cd 28 0) "__init__" "LexStep.__init__" (.ref 256) .none .none (.str "grammarmill.lexfile" 525) (.ref 262) .none) (L (tu [])) E) (L (rf (cd 31 1) "condition_number" "LexFile.condition_number"))) (N (tu []) (N (tu []) (L (cq "show_steps" 1042 "show_steps" 515 1 3 580 true .none .none (.ref 582) 1045)) E) (L (rf (sd 36) "class_end" "class_end")))) (N (cq "Cursor" 344 "Cursor" 44 0 0 101 false .none .none .none 347) (N (tu []) (N (tu []) (L (fo (cd 40 9) "read_line" "OutlineReader.read_line" .none .none .none (.str "grammarmill.lexfile" 525) (.ref 550) .none)) E) (L (tu []))) (N (rf (sd 15) "hex_escape" "hex_escape") (N (nf []) (L (tu [])) E) (L (nf []))))) (N (rf (sd 11) "position_of" "position_of") (N (fi "builtin_function_or_method" [.builtin "type.__prepare__", .type "type"]) (N (tu [.str "self" 408, .str "signs" 409, .str "begun" 410]) (N (di P 4 [m3 "__module__" 581 (.str "grammarmill.lexfile" 525),m3 "__firstlineno__" 585 (.int 167 584),m3 "__init__" 594 (.ref 263),m3 "told" 601 (.ref 270),m3 "show" 608 (.ref 277),m3 "__static_attributes__" 611 (.ref 278),m3 "__dict__" 613 (.ref 281),m3 "__weakref__" 615 (.ref 282),m3 "__doc__" 616 (.none)]) (L (tu [.str "self" 966, .str "cursor" 967, .str "start" 968, .str "name" 969, .str "node" 970])) E) (L (tu []))) (N (tu [.str "self" 485, .str "end" 486, .str "signs" 487, .str "sign" 488]) (N (fi "builtin_function_or_method" [.builtin "object.__init_subclass__", .ref 339]) (L (tu [.str "file" 1067, .str "definitions" 1068, .str "patterns" 1069, .str "rows" 1070, .str "name" 1071, .str "is_exclusive" 1072, .str "rule" 1073, .str "text" 1074])) E) (L (fo (sd 38) "step_at" "step_at" .none .none .none (.str "grammarmill.lexfile" 525) (.ref 470) .none)))) (N (fo (cd 14 1) "is_done" "Cursor.is_done" .none .none .none (.str "grammarmill.source" 194) (.ref 118) .none) (N (cq "number" 438 "Cursor.number" 93 1 3 178 true (.ref 180) (.ref 181) (.ref 182) 444) (N (cq "is_live" 650 "LexRule.is_live" 192 2 3 306 true (.ref 308) (.ref 309) (.ref 310) 655) (L (di P 4 [m3 "__module__" 897 (.str "grammarmill.lexfile" 525),m3 "__firstlineno__" 901 (.int 343 900),m3 "__init__" 909 (.ref 492),m3 "names" 915 (.ref 497),m3 "pattern_of" 923 (.ref 504),m3 "definition_of" 931 (.ref 511),m3 "read" 939 (.ref 518),m3 "read_definitions" 950 (.ref 525),m3 "read_declaration" 962 (.ref 532),m3 "read_definition" 973 (.ref 539),m3 "read_rules" 983 (.ref 546),m3 "read_line" 989 (.ref 551),m3 "conditions_at" 1001 (.ref 558),m3 "built_rules" 1017 (.ref 565),m3 "__static_attributes__" 1027 (.ref 566),m3 "__dict__" 1029 (.ref 569),m3 "__weakref__" 1031 (.ref 570),m3 "__doc__" 1032 (.none)])) E) (L (tu [.str "line" 832]))) (N (tu [.str "return" 567, .str "reject" 568]) (N (tu []) (L (tu [])) E) (L (cq "pattern_of" 916 "OutlineReader.pattern_of" 359 2 3 498 true (.ref 500) (.ref 501) (.ref 502) 921)))))))
noncomputable def K6 (P:Params):BT:=(N (tu []) (N (rf (sd 0) "_wall" "_wall") (N (cq "__init__" 248 "Position.__init__" 15 4 3 30 true (.ref 32) (.ref 33) (.ref 34) 255) (N (nf []) (N (tu []) (N (tu [.str "self" 589, .str "word" 590, .str "worth" 591]) (L (tu [])) E) (N (tu []) (L (rf (sd 56) "law" "law")) E)) (N (tu []) (N (tu []) (L (fo (sd 41) "read_outline" "read_outline" .none .none .none (.str "grammarmill.lexfile" 525) (.ref 578) .none)) E) (L (tu [])))) (N (fi "builtin_function_or_method" [.builtin "type.__prepare__", .type "type"]) (N (tu [.str " \t" 421]) (N (fr [some (.ref 290),some (.ref 3),some (.ref 287),none,some (.str "grammarmill.lexfile" 525),none,some (.ref 0)]) (L (tu [])) E) (L (fi "getset_descriptor" [.str "__dict__" 803, .ref 418, .builtin "function.__dict__", .builtin "function.__dict__#set"]))) (N (tu []) (N (rf (cd 30 0) "__init__" "RawPattern.__init__") (L (tu [.str "return" 1105, .str "return" 1106, .str "skip" 1107, .str "begin" 1108, .str "push" 1109, .str "pop" 1110, .str "echo" 1111, .str "more" 1112, .str "less" 1113, .str "reject" 1114])) E) (L (nf [.int 345 0, .int 4 0, .ref 491, .int 356 0, .int 4 0, .ref 496, .int 359 0, .int 4 0, .ref 503, .int 362 0, .int 4 0, .ref 510, .int 365 0, .int 4 0, .ref 517, .int 371 0, .int 4 0, .ref 524, .int 387 0, .int 4 0, .ref 531, .int 413 0, .int 4 0, .ref 538, .int 429 0, .int 4 0, .ref 545, .int 442 0, .int 4 0, .ref 550, .int 479 0, .int 4 0, .ref 557, .int 497 0, .int 4 0, .ref 564]))))) (N (tu []) (N (fi "getset_descriptor" [.str "__weakref__" 319, .ref 82, .builtin "ExceptionGroup.__weakref__", .none]) (N (cq "skip" 397 "Cursor.skip" 69 2 3 142 true (.ref 144) (.ref 145) (.ref 146) 402) (N (rf (cd 28 2) "show" "LexStep.show") (L (cq "read_declaration" 951 "OutlineReader.read_declaration" 387 2 3 526 true (.ref 528) (.ref 529) (.ref 530) 960)) E) (L (fo (cd 31 3) "live_rules" "LexFile.live_rules" .none .none .none (.str "grammarmill.lexfile" 525) (.ref 402) .none))) (N (cq "escape" 474 "Cursor.escape" 115 1 3 206 true (.ref 208) (.ref 209) (.ref 210) 479) (N (ty "LexRule" [.type "object"] [.ref 339, .type "object"] 338 "LexRule" [] [none,none,some (.str "LexRule" 619),some (.str "LexRule" 627),some (.builtin "object.__new__"),some (.bool true)]) (L (cq "show_rule" 1054 "show_rule" 523 3 3 590 true (.ref 592) (.ref 593) (.ref 594) 1061)) E) (L (tu [.str "cursor" 870, .str "names" 871, .str "at" 872, .str "word" 873, .str "wanted" 874, .str "figures" 875, .str "sign" 876, .str "name" 877])))) (N (tu [.str "self" 367]) (N (nf []) (N (nf []) (L (rf (cd 40 11) "built_rules" "OutlineReader.built_rules")) E) (L (cq "lines_of" 819 "lines_of" 251 1 3 430 true (.ref 432) (.ref 433) (.ref 434) 826))) (N (rf (sd 17) "escaped" "escaped") (N (fi "builtin_function_or_method" [.builtin "object.__init_subclass__", .ref 367]) (L (nf [])) E) (L (nf [])))))) (N (nf [.int 15 0, .int 4 0, .ref 35, .int 20 0, .int 4 0, .ref 42]) (N (fo (cd 10 1) "told" "Position.told" .none .none .none (.str "grammarmill.source" 194) (.ref 42) .none) (N (tu [.str "self" 312]) (N (rf (cd 14 4) "take" "Cursor.take") (N (tu []) (L (rf (cd 40 5) "read_definitions" "OutlineReader.read_definitions")) E) (L (nf []))) (N (rf (cd 14 13) "coded" "Cursor.coded") (N (fo (cd 29 5) "goals" "LexRule.goals" .none .none .none (.str "grammarmill.lexfile" 525) (.ref 330) .none) (L (rf (sd 43) "show_conditions" "show_conditions")) E) (L (nf [])))) (N (nf []) (N (tu []) (N (tu []) (L (tu [])) E) (L (rf (sd 32) "fail" "fail"))) (N (nf []) (N (cq "told" 720 "RawPattern.told" 218 1 3 358 true (.ref 360) (.ref 361) (.ref 362) 724) (L (tu [])) E) (L (cq "__init__" 902 "OutlineReader.__init__" 345 2 3 486 true (.ref 488) (.ref 489) (.ref 490) 907))))) (N (fi "builtin_function_or_method" [.builtin "type.__prepare__", .type "type"]) (N (cq "LexError" 328 "LexError" 42 0 0 89 false .none .none .none 331) (N (fo (cd 14 6) "take_while" "Cursor.take_while" .none .none .none (.str "grammarmill.source" 194) (.ref 154) .none) (N (fi "super" [.ref 280, .ref 280, .ref 280]) (L (fo (cd 40 7) "read_definition" "OutlineReader.read_definition" .none .none .none (.str "grammarmill.lexfile" 525) (.ref 538) .none)) E) (L (tu []))) (N (fo (cd 14 15) "quoted" "Cursor.quoted" .none .none .none (.str "grammarmill.source" 194) (.ref 218) .none) (N (tu []) (L (fo (sd 45) "show_rows" "show_rows" .none .none .none (.str "grammarmill.lexfile" 525) (.ref 602) .none)) E) (L (tu [])))) (N (tu [.str "self" 375, .str "ahead" 376, .str "at" 377]) (N (tu [.str "self" 450]) (N (tu [.str "self" 661, .str "word" 662, .str "step" 663]) (L (fi "super" [.ref 568, .ref 568, .ref 568])) E) (L (fo (sd 34) "is_left_out" "is_left_out" .none .none .none (.str "grammarmill.lexfile" 525) (.ref 442) .none))) (N (di P 7 [m3 "__module__" 581 (.str "grammarmill.lexfile" 525),m3 "__qualname__" 583 (.str "LexStep" 582),m3 "__firstlineno__" 585 (.int 167 584),m3 "__init__" 594 (.ref 263),m3 "told" 601 (.ref 270),m3 "show" 608 (.ref 277),m3 "__static_attributes__" 611 (.ref 278)]) (N (tu [.bool true, .str "" 748]) (L (fo (sd 54) "_law_rows" "_law_rows" .none .none .none (.str "law_on0176_01" 1084) (.ref 634) .none)) E) (L (tu [.str "self" 927, .str "cursor" 928])))))))
noncomputable def K7 (P:Params):BT:=(N (boot_o_9 P) (N (tu [.str "k" 190]) (N (tu []) (N (tu [.none]) (N (nf []) (N (tu []) (L (nf [])) E) (N (cq "__init__" 749 "LexFile.__init__" 222 6 3 380 true (.ref 382) (.ref 383) (.ref 384) 758) (L (tu [])) E)) (N (nf []) (N (nf []) (L (rf (sd 41) "read_outline" "read_outline")) E) (L (cq "quote_end" 836 "quote_end" 263 2 3 444 true (.ref 446) (.ref 447) (.ref 448) 843)))) (N (fi "builtin_function_or_method" [.builtin "object.__init_subclass__", .ref 95]) (N (cq "take_line" 414 "Cursor.take_line" 81 1 3 156 true (.ref 158) (.ref 159) (.ref 160) 418) (N (nf [.int 182 0, .int 4 0, .ref 297, .int 189 0, .int 4 0, .ref 304, .int 192 0, .int 4 0, .ref 311, .int 195 0, .int 4 0, .ref 318, .int 201 0, .int 4 0, .ref 325, .int 207 0, .int 4 0, .ref 330, .int 210 0, .int 4 0, .ref 335]) (L (cq "read_rules" 974 "OutlineReader.read_rules" 429 1 3 540 true (.ref 542) (.ref 543) (.ref 544) 981)) E) (L (di P 4 [m3 "__module__" 743 (.str "grammarmill.lexfile" 525),m3 "__firstlineno__" 747 (.int 220 746),m3 "__init__" 760 (.ref 386),m3 "condition_number" 769 (.ref 393),m3 "plain_conditions" 775 (.ref 398),m3 "live_rules" 781 (.ref 403),m3 "end_rule" 790 (.ref 410),m3 "told" 796 (.ref 415),m3 "__static_attributes__" 802 (.ref 416),m3 "__dict__" 804 (.ref 419),m3 "__weakref__" 806 (.ref 420),m3 "__doc__" 807 (.none)]))) (N (fi "super" [.ref 222, .ref 222, .ref 222]) (N (tu [.str "self" 715, .str "text" 716]) (L (tu [.str "a+" 1086, .str "\"x y\"" 1087, .str "[ ]b" 1088, .str "\\ z" 1089, .str "<q" 1090, .str "//r" 1091, .str "%%s" 1092, .str "{D}" 1093, .str "a/b" 1094, .str "^x$" 1095, .str "}" 1096, .str "<A>t" 1097])) E) (L (di P 16 [m3 "__module__" 897 (.str "grammarmill.lexfile" 525),m3 "__qualname__" 899 (.str "OutlineReader" 898),m3 "__firstlineno__" 901 (.int 343 900),m3 "__init__" 909 (.ref 492),m3 "names" 915 (.ref 497),m3 "pattern_of" 923 (.ref 504),m3 "definition_of" 931 (.ref 511),m3 "read" 939 (.ref 518),m3 "read_definitions" 950 (.ref 525),m3 "read_declaration" 962 (.ref 532),m3 "read_definition" 973 (.ref 539),m3 "read_rules" 983 (.ref 546),m3 "read_line" 989 (.ref 551),m3 "conditions_at" 1001 (.ref 558),m3 "built_rules" 1017 (.ref 565),m3 "__static_attributes__" 1027 (.ref 566)]))))) (N (fi "super" [.ref 46, .ref 46, .ref 46]) (N (di P 3 [m3 "__module__" 295 (.str "grammarmill.source" 194),m3 "__firstlineno__" 299 (.int 31 298),m3 "__init__" 308 (.ref 72),m3 "told" 315 (.ref 79),m3 "__static_attributes__" 318 (.ref 80),m3 "__weakref__" 320 (.ref 83),m3 "__doc__" 321 (.none)]) (N (tu []) (N (tu [.str "self" 605]) (L (tu [])) E) (L (rf (cd 31 3) "live_rules" "LexFile.live_rules"))) (N (tu []) (N (tu [.str "conditions" 687, .str "line" 688, .str "number" 689, .str "pattern" 690, .str "steps" 691]) (L (tu [])) E) (L (tu [])))) (N (tu []) (N (fo (cd 14 9) "name" "Cursor.name" .none .none .none (.str "grammarmill.source" 194) (.ref 176) .none) (N (fo (cd 29 1) "is_end" "LexRule.is_end" .none .none .none (.str "grammarmill.lexfile" 525) (.ref 304) .none) (L (tu [.str "self" 1005, .str "rules" 1006, .str "steps" 1007, .str "number" 1008, .str "conditions" 1009, .str "pattern" 1010, .str "own" 1011, .str "start" 1012, .str "line" 1013, .str "step" 1014])) E) (L (tu []))) (N (tu []) (N (fi "getset_descriptor" [.str "__weakref__" 731, .ref 367, .builtin "ExceptionGroup.__weakref__", .none]) (L (fo (sd 52) "_law_steps" "_law_steps" .none .none .none (.str "law_on0176_01" 1084) (.ref 624) .none)) E) (L (fo (cd 40 1) "names" "OutlineReader.names" .none .none .none (.str "grammarmill.lexfile" 525) (.ref 496) .none)))))) (N (di P 6 [m3 "__module__" 243 (.str "grammarmill.source" 194),m3 "__qualname__" 245 (.str "Position" 244),m3 "__firstlineno__" 247 (.int 13 246),m3 "__init__" 257 (.ref 36),m3 "told" 264 (.ref 43),m3 "__static_attributes__" 268 (.ref 44)]) (N (rf (cd 10 1) "told" "Position.told") (N (tu []) (N (tu [.str "self" 392, .str "sign" 393]) (N (nf []) (L (tu [.str "self" 943, .str "start" 944, .str "end" 945, .str "line" 946, .str "cursor" 947])) E) (L (fo (cd 31 1) "condition_number" "LexFile.condition_number" .none .none .none (.str "grammarmill.lexfile" 525) (.ref 392) .none))) (N (tu [.str "self" 465, .str "signs" 466, .str "most" 467, .str "base" 468, .str "code" 469, .str "taken" 470]) (N (rf (cd 29 5) "goals" "LexRule.goals") (L (tu [])) E) (L (fo (sd 36) "class_end" "class_end" .none .none .none (.str "grammarmill.lexfile" 525) (.ref 456) .none)))) (N (tu [.int 0 354]) (N (cq "skip_blanks" 422 "Cursor.skip_blanks" 84 2 3 164 true (.ref 166) (.ref 167) (.ref 168) 427) (N (cq "__init__" 631 "LexRule.__init__" 182 6 3 292 true (.ref 294) (.ref 295) (.ref 296) 640) (L (nf [])) E) (L (tu [.str "cursor" 813, .str "what" 814, .str "at" 815]))) (N (fo (sd 15) "hex_escape" "hex_escape" .none .none .none (.str "grammarmill.source" 194) (.ref 232) .none) (N (tu []) (L (cq "_law_draw" 1116 "_law_draw" 555 2 3 612 true (.ref 614) (.ref 615) (.ref 616) 1123)) E) (L (tu []))))) (N (fo (sd 11) "position_of" "position_of" .none .none .none (.str "grammarmill.source" 194) (.ref 56) .none) (N (tu []) (N (rf (cd 14 6) "take_while" "Cursor.take_while") (N (fi "getset_descriptor" [.str "__dict__" 612, .ref 280, .builtin "function.__dict__", .builtin "function.__dict__#set"]) (L (rf (cd 40 7) "read_definition" "OutlineReader.read_definition")) E) (L (cq "end_rule" 782 "LexFile.end_rule" 241 2 3 404 true (.ref 406) (.ref 407) (.ref 408) 788))) (N (rf (cd 14 15) "quoted" "Cursor.quoted") (N (fi "builtin_function_or_method" [.builtin "type.__prepare__", .type "type"]) (L (rf (sd 45) "show_rows" "show_rows")) E) (L (nf [])))) (N (tu []) (N (tu []) (N (tu []) (L (fi "getset_descriptor" [.str "__dict__" 1028, .ref 568, .builtin "function.__dict__", .builtin "function.__dict__#set"])) E) (L (rf (sd 34) "is_left_out" "is_left_out"))) (N (tu []) (N (cq "LexFile" 738 "LexFile" 220 0 0 375 false .none .none .none 741) (L (rf (sd 54) "_law_rows" "_law_rows")) E) (L (tu [])))))))
noncomputable def Lm (P:Params):BT:=(N (cq "<module>" 182 "<module>" 1 0 0 11 false .none .none .none 185) (N (fo (sd 0) "_wall" "_wall" .none .none .none (.str "__main__" 164) (.ref 20) .none) (N (tu []) (N (tu []) (N (cq "starts" 381 "Cursor.starts" 59 2 3 128 true (.ref 130) (.ref 131) (.ref 132) 386) (N (rf (cd 28 0) "__init__" "LexStep.__init__") (L (cq "read" 932 "OutlineReader.read" 365 1 3 512 true (.ref 514) (.ref 515) (.ref 516) 937)) E) (N (tu [.str "self" 764, .str "name" 765, .str "number" 766]) (L (fo (sd 56) "law" "law" .none .none .none (.str "law_on0176_01" 1084) (.ref 644) .none)) E)) (N (cq "position_at" 454 "Cursor.position_at" 104 2 3 192 true (.ref 194) (.ref 195) (.ref 196) 459) (N (cq "kind" 667 "LexRule.kind" 201 1 3 320 true (.ref 322) (.ref 323) (.ref 324) 672) (L (nf [])) E) (L (tu [.str "cursor" 849, .str "begun" 850, .str "text" 851, .str "at" 852, .str "is_first" 853])))) (N (tu []) (N (nf []) (N (nf []) (L (rf (cd 40 9) "read_line" "OutlineReader.read_line")) E) (L (fi "super" [.ref 418, .ref 418, .ref 418]))) (N (tu [.str "code" 505, .str "figures" 506]) (N (fo (cd 30 0) "__init__" "RawPattern.__init__" .none .none .none (.str "grammarmill.lexfile" 525) (.ref 356) .none) (L (nf [])) E) (L (fr [some (.ref 484),some (.ref 3),some (.ref 481),none,some (.str "grammarmill.lexfile" 525),none,some (.ref 0)]))))) (N (tu [.str "text" 279, .str "offset" 280, .str "at" 281, .str "line" 282, .str "begun" 283, .str "here" 284]) (N (fi "builtin_function_or_method" [.builtin "object.__init_subclass__", .ref 82]) (N (tu []) (N (fo (cd 28 2) "show" "LexStep.show" .none .none .none (.str "grammarmill.lexfile" 525) (.ref 276) .none) (L (tu [])) E) (L (nf []))) (N (tu []) (N (fi "getset_descriptor" [.str "__weakref__" 695, .ref 339, .builtin "ExceptionGroup.__weakref__", .none]) (L (tu [])) E) (L (rf (sd 38) "step_at" "step_at")))) (N (rf (cd 14 1) "is_done" "Cursor.is_done") (N (tu []) (N (tu []) (L (fo (cd 40 11) "built_rules" "OutlineReader.built_rules" .none .none .none (.str "grammarmill.lexfile" 525) (.ref 564) .none)) E) (L (tu []))) (N (fo (sd 17) "escaped" "escaped" .none .none .none (.str "grammarmill.source" 194) (.ref 244) .none) (N (fi "builtin_function_or_method" [.builtin "type.__prepare__", .type "type"]) (L (cq "_law_parts" 1141 "_law_parts" 575 1 3 626 true .none .none (.ref 628) 1144)) E) (L (tu [])))))) (N (fr [some (.ref 28),some (.ref 3),some (.ref 25),none,some (.str "grammarmill.source" 194),none,some (.ref 0)]) (N (di P 4 [m3 "__module__" 243 (.str "grammarmill.source" 194),m3 "__firstlineno__" 247 (.int 13 246),m3 "__init__" 257 (.ref 36),m3 "told" 264 (.ref 43),m3 "__static_attributes__" 268 (.ref 44),m3 "__dict__" 270 (.ref 47),m3 "__weakref__" 272 (.ref 48),m3 "__doc__" 273 (.none)]) (N (rf (cd 12 1) "told" "ToolError.told") (N (fo (cd 14 4) "take" "Cursor.take" .none .none .none (.str "grammarmill.source" 194) (.ref 140) .none) (N (cq "told" 595 "LexStep.told" 173 1 3 264 true (.ref 266) (.ref 267) (.ref 268) 599) (L (fo (cd 40 5) "read_definitions" "OutlineReader.read_definitions" .none .none .none (.str "grammarmill.lexfile" 525) (.ref 524) .none)) E) (L (cq "plain_conditions" 770 "LexFile.plain_conditions" 235 1 3 394 true .none .none (.ref 396) 773))) (N (fo (cd 14 13) "coded" "Cursor.coded" .none .none .none (.str "grammarmill.source" 194) (.ref 204) .none) (N (nf []) (L (fo (sd 43) "show_conditions" "show_conditions" .none .none .none (.str "grammarmill.lexfile" 525) (.ref 588) .none)) E) (L (tu [])))) (N (tu []) (N (tu [.str "self" 433, .str "here" 434]) (N (tu [.str "self" 646]) (L (cq "conditions_at" 990 "OutlineReader.conditions_at" 479 2 3 552 true (.ref 554) (.ref 555) (.ref 556) 999)) E) (L (fo (sd 32) "fail" "fail" .none .none .none (.str "grammarmill.lexfile" 525) (.ref 428) .none))) (N (tu []) (N (tu [.str "text" 727]) (L (tu [.str "source" 1129, .str "names" 1130, .str "is_end" 1131, .str "found" 1132, .str "many" 1133, .str "turn" 1134, .str "spot" 1135, .str "word" 1136, .str "worth" 1137])) E) (L (tu []))))) (N (tu []) (N (tu []) (N (nf []) (N (tu []) (L (nf [])) E) (L (rf (cd 31 5) "told" "LexFile.told"))) (N (di P 4 [m3 "__module__" 349 (.str "grammarmill.source" 194),m3 "__firstlineno__" 353 (.int 44 352),m3 "__init__" 363 (.ref 112),m3 "is_done" 370 (.ref 119),m3 "peek" 380 (.ref 127),m3 "starts" 388 (.ref 134),m3 "take" 396 (.ref 141),m3 "skip" 404 (.ref 148),m3 "take_while" 413 (.ref 155),m3 "take_line" 420 (.ref 162),m3 "skip_blanks" 429 (.ref 170),m3 "name" 437 (.ref 177),m3 "number" 446 (.ref 184),m3 "position" 453 (.ref 191),m3 "position_at" 461 (.ref 198),m3 "coded" 473 (.ref 205),m3 "escape" 481 (.ref 212),m3 "quoted" 491 (.ref 219),m3 "__static_attributes__" 494 (.ref 220),m3 "__dict__" 496 (.ref 223),m3 "__weakref__" 498 (.ref 224),m3 "__doc__" 499 (.none)]) (N (cq "RawPattern" 702 "RawPattern" 213 0 0 347 false .none .none .none 705) (L (nf [])) E) (L (cq "steps_at" 881 "steps_at" 329 2 3 472 true (.ref 474) (.ref 475) (.ref 476) 887)))) (N (rf (cd 14 2) "peek" "Cursor.peek") (N (rf (cd 14 11) "position" "Cursor.position") (N (rf (cd 29 3) "has_step" "LexRule.has_step") (L (tu [])) E) (L (nf []))) (N (nf [.int 169 0, .int 4 0, .ref 262, .int 173 0, .int 4 0, .ref 269, .int 176 0, .int 4 0, .ref 276]) (N (nf []) (L (nf [])) E) (L (rf (cd 40 3) "definition_of" "OutlineReader.definition_of")))))))
noncomputable def KS (P:Params):BT:=(N (boot_o_8 P) (N (nf []) (N (tu [.str "self" 251, .str "offset" 252, .str "line" 253, .str "column" 254]) (N (fr [some (.ref 63),some (.ref 3),some (.ref 60),none,some (.str "grammarmill.source" 194),none,some (.ref 0)]) (N (tu []) (N (tu [.none]) (L (tu [])) E) (N (rf (cd 31 0) "__init__" "LexFile.__init__") (L (fo (sd 55) "_law_file_right" "_law_file_right" .none .none .none (.str "law_on0176_01" 1084) (.ref 639) .none)) E)) (N (tu []) (N (tu []) (L (tu [])) E) (L (rf (sd 35) "quote_end" "quote_end")))) (N (fi "super" [.ref 95, .ref 95, .ref 95]) (N (rf (cd 14 7) "take_line" "Cursor.take_line") (N (tu []) (L (rf (cd 40 8) "read_rules" "OutlineReader.read_rules")) E) (L (tu [.str "conditions" 797, .str "definitions" 798, .str "has_default" 799, .str "rules" 800, .str "tail" 801]))) (N (fi "getset_descriptor" [.str "__weakref__" 497, .ref 222, .builtin "ExceptionGroup.__weakref__", .none]) (N (nf []) (L (fo (sd 46) "show_outline" "show_outline" .none .none .none (.str "grammarmill.lexfile" 525) (.ref 607) .none)) E) (L (fi "builtin_function_or_method" [.builtin "type.__prepare__", .type "type"]))))) (N (fi "getset_descriptor" [.str "__weakref__" 271, .ref 46, .builtin "ExceptionGroup.__weakref__", .none]) (N (tu [.str "at" 316, .str "what" 317]) (N (tu [.str "self" 400, .str "word" 401]) (N (nf []) (L (tu [.str "self" 954, .str "cursor" 955, .str "start" 956, .str "word" 957, .str "at" 958, .str "name" 959])) E) (L (nf []))) (N (tu [.str "self" 477, .str "sign" 478]) (N (fo (cd 29 6) "told" "LexRule.told" .none .none .none (.str "grammarmill.lexfile" 525) (.ref 335) .none) (L (tu [.str "file" 1057, .str "rule" 1058, .str "text" 1059, .str "is_told" 1060])) E) (L (fo (sd 37) "raw_at" "raw_at" .none .none .none (.str "grammarmill.lexfile" 525) (.ref 463) .none)))) (N (fo (cd 14 0) "__init__" "Cursor.__init__" (.ref 105) .none .none (.str "grammarmill.source" 194) (.ref 111) .none) (N (cq "name" 430 "Cursor.name" 87 1 3 171 true (.ref 173) (.ref 174) (.ref 175) 435) (N (cq "is_end" 643 "LexRule.is_end" 189 1 3 299 true (.ref 301) (.ref 302) (.ref 303) 647) (L (nf [])) E) (L (tu [.str "text" 822, .str "spans" 823, .str "start" 824, .str "end" 825]))) (N (fo (sd 16) "escaped_sign" "escaped_sign" .none .none .none (.str "grammarmill.source" 194) (.ref 239) .none) (N (fi "getset_descriptor" [.str "__dict__" 729, .ref 367, .builtin "function.__dict__", .builtin "function.__dict__#set"]) (L (cq "_law_steps" 1126 "_law_steps" 559 3 3 619 true (.ref 621) (.ref 622) (.ref 623) 1138)) E) (L (cq "names" 910 "OutlineReader.names" 356 1 3 493 true .none .none (.ref 495) 913)))))) (N (fi "builtin_function_or_method" [.builtin "type.__prepare__", .type "type"]) (N (tu []) (N (fo (cd 12 0) "__init__" "ToolError.__init__" (.ref 65) .none .none (.str "grammarmill.source" 194) (.ref 71) .none) (N (nf []) (N (tu []) (L (nf [])) E) (L (cq "condition_number" 761 "LexFile.condition_number" 229 2 3 387 true (.ref 389) (.ref 390) (.ref 391) 767))) (N (nf []) (N (nf []) (L (fo (sd 42) "show_steps" "show_steps" .none .none .none (.str "grammarmill.lexfile" 525) (.ref 583) .none)) E) (L (cq "class_end" 846 "class_end" 271 2 3 451 true (.ref 453) (.ref 454) (.ref 455) 854)))) (N (fr [some (.ref 103),some (.ref 3),some (.ref 100),none,some (.str "grammarmill.source" 194),none,some (.ref 0)]) (N (rf (cd 14 8) "skip_blanks" "Cursor.skip_blanks") (N (rf (cd 29 0) "__init__" "LexRule.__init__") (L (tu [])) E) (L (nf []))) (N (cq "hex_escape" 502 "hex_escape" 141 1 3 227 true (.ref 229) (.ref 230) (.ref 231) 507) (N (tu [.str "self" 723]) (L (rf (sd 51) "_law_draw" "_law_draw")) E) (L (tu [.str "self" 905, .str "text" 906]))))) (N (cq "position_of" 276 "position_of" 22 2 3 51 true (.ref 53) (.ref 54) (.ref 55) 285) (N (di P 4 [m3 "__module__" 333 (.str "grammarmill.source" 194),m3 "__qualname__" 335 (.str "LexError" 334),m3 "__firstlineno__" 337 (.int 42 336),m3 "__static_attributes__" 338 (.ref 93)]) (N (tu []) (N (ty "LexStep" [.type "object"] [.ref 280, .type "object"] 279 "LexStep" [] [none,none,some (.str "LexStep" 574),some (.str "LexStep" 582),some (.builtin "object.__new__"),some (.bool true)]) (L (tu [])) E) (L (rf (cd 31 4) "end_rule" "LexFile.end_rule"))) (N (tu []) (N (tu []) (L (tu [])) E) (L (tu [])))) (N (tu [.int 0 371]) (N (fo (cd 14 10) "number" "Cursor.number" .none .none .none (.str "grammarmill.source" 194) (.ref 183) .none) (N (fo (cd 29 2) "is_live" "LexRule.is_live" .none .none .none (.str "grammarmill.lexfile" 525) (.ref 311) .none) (L (ty "OutlineReader" [.type "object"] [.ref 568, .type "object"] 567 "OutlineReader" [] [none,none,some (.str "OutlineReader" 890),some (.str "OutlineReader" 898),some (.builtin "object.__new__"),some (.bool true)])) E) (L (tu []))) (N (tu [.str "more" 570, .str "less" 571, .str "reject" 572]) (N (nf [.int 222 0, .int 4 0, .ref 385, .int 229 0, .int 4 0, .ref 392, .int 235 0, .int 4 0, .ref 397, .int 238 0, .int 4 0, .ref 402, .int 241 0, .int 4 0, .ref 409, .int 247 0, .int 4 0, .ref 414]) (L (nf [])) E) (L (fo (cd 40 2) "pattern_of" "OutlineReader.pattern_of" .none .none .none (.str "grammarmill.lexfile" 525) (.ref 503) .none)))))))
noncomputable def KR (P:Params):BT:=(N (nf TL) (N (cq "_wall" 187 "_wall" 1 1 3 15 true (.ref 17) (.ref 18) (.ref 19) 191) (N (fo (cd 10 0) "__init__" "Position.__init__" .none .none .none (.str "grammarmill.source" 194) (.ref 35) .none) (N (tu [.str "self" 303, .str "what" 304, .str "at" 305]) (N (rf (cd 14 3) "starts" "Cursor.starts") (N (tu []) (L (rf (cd 40 4) "read" "OutlineReader.read")) E) (N (nf []) (L (cq "law" 1159 "law" 627 1 3 641 true .none .none (.ref 643) 1162)) E)) (N (rf (cd 14 12) "position_at" "Cursor.position_at") (N (rf (cd 29 4) "kind" "LexRule.kind") (L (tu [])) E) (L (nf [])))) (N (di P 20 [m3 "__module__" 349 (.str "grammarmill.source" 194),m3 "__qualname__" 351 (.str "Cursor" 350),m3 "__firstlineno__" 353 (.int 44 352),m3 "__init__" 363 (.ref 112),m3 "is_done" 370 (.ref 119),m3 "peek" 380 (.ref 127),m3 "starts" 388 (.ref 134),m3 "take" 396 (.ref 141),m3 "skip" 404 (.ref 148),m3 "take_while" 413 (.ref 155),m3 "take_line" 420 (.ref 162),m3 "skip_blanks" 429 (.ref 170),m3 "name" 437 (.ref 177),m3 "number" 446 (.ref 184),m3 "position" 453 (.ref 191),m3 "position_at" 461 (.ref 198),m3 "coded" 473 (.ref 205),m3 "escape" 481 (.ref 212),m3 "quoted" 491 (.ref 219),m3 "__static_attributes__" 494 (.ref 220)]) (N (tu []) (N (tu []) (L (nf [])) E) (L (fi "getset_descriptor" [.str "__weakref__" 805, .ref 418, .builtin "ExceptionGroup.__weakref__", .none]))) (N (nf []) (N (cq "__init__" 712 "RawPattern.__init__" 215 2 3 351 true (.ref 353) (.ref 354) (.ref 355) 717) (L (tu [])) E) (L (cq "OutlineReader" 892 "OutlineReader" 343 0 0 482 false .none .none .none 895))))) (N (nf []) (N (fi "super" [.ref 82, .ref 82, .ref 82]) (N (fo (cd 14 5) "skip" "Cursor.skip" .none .none .none (.str "grammarmill.source" 194) (.ref 147) .none) (N (cq "show" 602 "LexStep.show" 176 1 3 271 true (.ref 273) (.ref 274) (.ref 275) 606) (L (fo (cd 40 6) "read_declaration" "OutlineReader.read_declaration" .none .none .none (.str "grammarmill.lexfile" 525) (.ref 531) .none)) E) (L (tu []))) (N (fo (cd 14 14) "escape" "Cursor.escape" .none .none .none (.str "grammarmill.source" 194) (.ref 211) .none) (N (fi "getset_descriptor" [.str "__dict__" 693, .ref 339, .builtin "function.__dict__", .builtin "function.__dict__#set"]) (L (fo (sd 44) "show_rule" "show_rule" .none .none .none (.str "grammarmill.lexfile" 525) (.ref 595) .none)) E) (L (tu [])))) (N (tu []) (N (tu [.str "self" 441, .str "begun" 442, .str "figures" 443]) (N (tu [.str "self" 653, .str "condition" 654]) (L (cq "built_rules" 1002 "OutlineReader.built_rules" 497 1 3 559 true (.ref 561) (.ref 562) (.ref 563) 1015)) E) (L (fo (sd 33) "lines_of" "lines_of" .none .none .none (.str "grammarmill.lexfile" 525) (.ref 435) .none))) (N (cq "escaped" 519 "escaped" 155 2 3 241 true .none .none (.ref 243) 522) (N (tu []) (L (rf (sd 53) "_law_parts" "_law_parts")) E) (L (tu [.str "self" 919, .str "cursor" 920])))))) (N (cq "Position" 238 "Position" 13 0 0 26 false .none .none .none 241) (N (tu [.str "column" 265, .str "line" 266, .str "offset" 267]) (N (tu []) (N (cq "take" 389 "Cursor.take" 62 1 3 135 true (.ref 137) (.ref 138) (.ref 139) 394) (N (rf (cd 28 1) "told" "LexStep.told") (L (cq "read_definitions" 940 "OutlineReader.read_definitions" 371 1 3 519 true (.ref 521) (.ref 522) (.ref 523) 948)) E) (L (rf (cd 31 2) "plain_conditions" "LexFile.plain_conditions"))) (N (cq "coded" 462 "Cursor.coded" 107 4 3 199 true (.ref 201) (.ref 202) (.ref 203) 471) (N (tu []) (L (cq "show_conditions" 1048 "show_conditions" 517 3 3 585 true .none .none (.ref 587) 1051)) E) (L (tu [.str "cursor" 860, .str "text" 861, .str "begun" 862, .str "at" 863])))) (N (tu [.str "self" 358, .str "text" 359, .str "at" 360]) (N (nf []) (N (nf []) (L (rf (cd 40 10) "conditions_at" "OutlineReader.conditions_at")) E) (L (cq "fail" 810 "fail" 249 3 3 423 true (.ref 425) (.ref 426) (.ref 427) 816))) (N (tu [.str "sign" 513, .str "marks" 514, .str "code" 515]) (N (fo (cd 30 1) "told" "RawPattern.told" .none .none .none (.str "grammarmill.lexfile" 525) (.ref 363) .none) (L (nf [])) E) (L (fo (cd 40 0) "__init__" "OutlineReader.__init__" .none .none .none (.str "grammarmill.lexfile" 525) (.ref 491) .none))))) (N (di P 6 [m3 "__module__" 295 (.str "grammarmill.source" 194),m3 "__qualname__" 297 (.str "ToolError" 296),m3 "__firstlineno__" 299 (.int 31 298),m3 "__init__" 308 (.ref 72),m3 "told" 315 (.ref 79),m3 "__static_attributes__" 318 (.ref 80)]) (N (fr [some (.ref 91),some (.ref 3),some (.ref 88),none,some (.str "grammarmill.source" 194),none,some (.ref 0)]) (N (tu []) (N (fi "builtin_function_or_method" [.builtin "object.__init_subclass__", .ref 280]) (L (tu [])) E) (L (nf []))) (N (tu [.str "at" 492, .str "text" 493]) (N (nf [.int 215 0, .int 4 0, .ref 356, .int 218 0, .int 4 0, .ref 363]) (L (tu [])) E) (L (rf (sd 39) "steps_at" "steps_at")))) (N (tu []) (N (tu []) (N (tu []) (L (fi "builtin_function_or_method" [.builtin "object.__init_subclass__", .ref 568])) E) (L (tu []))) (N (tu []) (N (tu []) (L (tu [])) E) (L (tu [])))))))
noncomputable def KC (P:Params):BT:=(N (boot_o_10 P) (N (tu []) (N (rf (cd 10 0) "__init__" "Position.__init__") (N (tu []) (N (tu [.str "self" 384, .str "word" 385]) (N (nf []) (L (tu [.str "self" 935, .str "rules" 936])) E) (N (fo (cd 31 0) "__init__" "LexFile.__init__" (.ref 379) .none .none (.str "grammarmill.lexfile" 525) (.ref 385) .none) (L (nf [])) E)) (N (tu [.str "self" 457, .str "offset" 458]) (N (tu [.str "self" 670, .str "step" 671]) (L (cq "read_outline" 1035 "read_outline" 513 1 3 573 true (.ref 575) (.ref 576) (.ref 577) 1039)) E) (L (fo (sd 35) "quote_end" "quote_end" .none .none .none (.str "grammarmill.lexfile" 525) (.ref 449) .none)))) (N (tu []) (N (fo (cd 14 7) "take_line" "Cursor.take_line" .none .none .none (.str "grammarmill.source" 194) (.ref 161) .none) (N (cq "LexRule" 621 "LexRule" 180 0 0 288 false .none .none .none 624) (L (fo (cd 40 8) "read_rules" "OutlineReader.read_rules" .none .none .none (.str "grammarmill.lexfile" 525) (.ref 545) .none)) E) (L (ty "LexFile" [.type "object"] [.ref 418, .type "object"] 417 "LexFile" [] [none,none,some (.str "LexFile" 736),some (.str "LexFile" 744),some (.builtin "object.__new__"),some (.bool true)]))) (N (fi "builtin_function_or_method" [.builtin "object.__init_subclass__", .ref 222]) (N (tu []) (L (tu [.str "" 1099, .str "int main() {}\n" 1100, .str "%%\nmore" 1101, .str "\n" 1102, .str "  x" 1103])) E) (L (tu []))))) (N (fi "builtin_function_or_method" [.builtin "object.__init_subclass__", .ref 46]) (N (ty "ToolError" [.type "Exception"] [.ref 82, .type "Exception", .type "BaseException", .type "object"] 81 "ToolError" [.ref 95] [some (.ref 58),none,some (.str "ToolError" 288),some (.str "ToolError" 296),some (.builtin "Exception.__new__"),some (.bool true)]) (N (rf (cd 14 5) "skip" "Cursor.skip") (N (tu []) (L (rf (cd 40 6) "read_declaration" "OutlineReader.read_declaration")) E) (L (cq "live_rules" 776 "LexFile.live_rules" 238 2 3 399 true .none .none (.ref 401) 779))) (N (rf (cd 14 14) "escape" "Cursor.escape") (N (di P 4 [m3 "__module__" 626 (.str "grammarmill.lexfile" 525),m3 "__firstlineno__" 630 (.int 180 629),m3 "__init__" 642 (.ref 298),m3 "is_end" 649 (.ref 305),m3 "is_live" 657 (.ref 312),m3 "has_step" 666 (.ref 319),m3 "kind" 674 (.ref 326),m3 "goals" 680 (.ref 331),m3 "told" 686 (.ref 336),m3 "__static_attributes__" 692 (.ref 337),m3 "__dict__" 694 (.ref 340),m3 "__weakref__" 696 (.ref 341),m3 "__doc__" 697 (.none)]) (L (rf (sd 44) "show_rule" "show_rule")) E) (L (nf [])))) (N (nf []) (N (tu []) (N (tu []) (L (tu [])) E) (L (rf (sd 33) "lines_of" "lines_of"))) (N (nf []) (N (fi "super" [.ref 367, .ref 367, .ref 367]) (L (tu [])) E) (L (tu [])))))) (N (tu []) (N (cq "told" 258 "Position.told" 20 1 3 37 true (.ref 39) (.ref 40) (.ref 41) 262) (N (nf []) (N (tu []) (N (tu [.str "self" 598]) (L (tu [])) E) (L (tu []))) (N (tu []) (N (cq "goals" 675 "LexRule.goals" 207 1 3 327 true .none .none (.ref 329) 678) (L (nf [])) E) (L (tu [])))) (N (tu []) (N (fo (cd 14 8) "skip_blanks" "Cursor.skip_blanks" (.ref 163) .none .none (.str "grammarmill.source" 194) (.ref 169) .none) (N (fo (cd 29 0) "__init__" "LexRule.__init__" .none .none .none (.str "grammarmill.lexfile" 525) (.ref 297) .none) (L (tu [.str "self" 993, .str "cursor" 994, .str "names" 995, .str "numbers" 996, .str "at" 997, .str "name" 998])) E) (L (tu []))) (N (tu []) (N (rf (cd 30 1) "told" "RawPattern.told") (L (fo (sd 51) "_law_draw" "_law_draw" .none .none .none (.str "law_on0176_01" 1084) (.ref 617) .none)) E) (L (rf (cd 40 0) "__init__" "OutlineReader.__init__"))))) (N (tu [.type "Exception"]) (N (nf []) (N (cq "take_while" 405 "Cursor.take_while" 75 2 3 149 true (.ref 151) (.ref 152) (.ref 153) 411) (N (fi "getset_descriptor" [.str "__weakref__" 614, .ref 280, .builtin "ExceptionGroup.__weakref__", .none]) (L (cq "read_definition" 963 "OutlineReader.read_definition" 413 2 3 533 true (.ref 535) (.ref 536) (.ref 537) 971)) E) (L (fo (cd 31 4) "end_rule" "LexFile.end_rule" .none .none .none (.str "grammarmill.lexfile" 525) (.ref 409) .none))) (N (cq "quoted" 482 "Cursor.quoted" 129 2 3 213 true (.ref 215) (.ref 216) (.ref 217) 489) (N (di P 6 [m3 "__module__" 707 (.str "grammarmill.lexfile" 525),m3 "__qualname__" 709 (.str "RawPattern" 708),m3 "__firstlineno__" 711 (.int 213 710),m3 "__init__" 719 (.ref 357),m3 "told" 726 (.ref 364),m3 "__static_attributes__" 728 (.ref 365)]) (L (cq "show_rows" 1064 "show_rows" 530 3 3 597 true (.ref 599) (.ref 600) (.ref 601) 1075)) E) (L (tu [.str "cursor" 884, .str "names" 885, .str "steps" 886])))) (N (nf []) (N (nf []) (N (nf []) (L (fi "getset_descriptor" [.str "__weakref__" 1030, .ref 568, .builtin "ExceptionGroup.__weakref__", .none])) E) (L (cq "is_left_out" 829 "is_left_out" 261 1 3 437 true (.ref 439) (.ref 440) (.ref 441) 833))) (N (fi "builtin_function_or_method" [.builtin "type.__prepare__", .type "type"]) (N (fr [some (.ref 377),some (.ref 3),some (.ref 374),none,some (.str "grammarmill.lexfile" 525),none,some (.ref 0)]) (L (cq "_law_rows" 1147 "_law_rows" 592 4 3 631 true .none .none (.ref 633) 1150)) E) (L (nf [])))))))
noncomputable def KE (P:Params):BT:=(N (fr [some (.ref 13),some (.ref 3),some (.ref 3),none,some (.str "__main__" 164),none,some (.ref 0)]) (N (di P 7 [m3 "n" 214 (.int 10 215),m3 "t" 216 (.int 9 217),m3 "r" 218 (.int 13 219),m3 "f" 220 (.int 12 221),m3 "v" 222 (.int 11 223),m3 "a" 224 (.int 7 225),m3 "b" 226 (.int 8 227)]) (N (nf []) (N (rf (cd 12 0) "__init__" "ToolError.__init__") (N (fo (cd 14 3) "starts" "Cursor.starts" .none .none .none (.str "grammarmill.source" 194) (.ref 133) .none) (N (cq "__init__" 586 "LexStep.__init__" 169 3 3 257 true (.ref 259) (.ref 260) (.ref 261) 592) (L (fo (cd 40 4) "read" "OutlineReader.read" .none .none .none (.str "grammarmill.lexfile" 525) (.ref 517) .none)) E) (L (tu []))) (N (fo (cd 14 12) "position_at" "Cursor.position_at" .none .none .none (.str "grammarmill.source" 194) (.ref 197) .none) (N (fo (cd 29 4) "kind" "LexRule.kind" .none .none .none (.str "grammarmill.lexfile" 525) (.ref 325) .none) (L (rf (sd 42) "show_steps" "show_steps")) E) (L (tu [])))) (N (nf [.int 46 0, .int 4 0, .ref 111, .int 50 0, .int 4 0, .ref 118, .int 53 0, .int 4 0, .ref 126, .int 59 0, .int 4 0, .ref 133, .int 62 0, .int 4 0, .ref 140, .int 69 0, .int 4 0, .ref 147, .int 75 0, .int 4 0, .ref 154, .int 81 0, .int 4 0, .ref 161, .int 84 0, .int 4 0, .ref 169, .int 87 0, .int 4 0, .ref 176, .int 93 0, .int 4 0, .ref 183, .int 101 0, .int 4 0, .ref 190, .int 104 0, .int 4 0, .ref 197, .int 107 0, .int 4 0, .ref 204, .int 115 0, .int 4 0, .ref 211, .int 129 0, .int 4 0, .ref 218]) (N (tu [.str "self" 425, .str "signs" 426]) (N (tu [.str "self" 634, .str "number" 635, .str "conditions" 636, .str "pattern" 637, .str "steps" 638, .str "line" 639]) (L (cq "read_line" 984 "OutlineReader.read_line" 442 2 3 547 true .none .none (.ref 549) 987)) E) (L (fi "builtin_function_or_method" [.builtin "object.__init_subclass__", .ref 418]))) (N (tu []) (N (tu []) (L (tu [.str "source" 1119, .str "limit" 1120, .str "cells" 1121, .str "at" 1122])) E) (L (tu []))))) (N (tu []) (N (tu [.ref 82]) (N (nf []) (N (tu [.str "word" 609, .str "worth" 610]) (L (nf [])) E) (L (tu [.str "self" 785, .str "condition" 786, .str "rule" 787]))) (N (nf []) (N (fi "super" [.ref 339, .ref 339, .ref 339]) (L (nf [])) E) (L (cq "step_at" 867 "step_at" 303 2 3 465 true (.ref 467) (.ref 468) (.ref 469) 878)))) (N (cq "is_done" 364 "Cursor.is_done" 50 1 3 113 true (.ref 115) (.ref 116) (.ref 117) 368) (N (rf (cd 14 10) "number" "Cursor.number") (N (rf (cd 29 2) "is_live" "LexRule.is_live") (L (tu [.str "conditions" 1018, .str "definitions" 1019, .str "drafts" 1020, .str "has_default" 1021, .str "lines" 1022, .str "row" 1023, .str "scopes" 1024, .str "tail" 1025, .str "text" 1026])) E) (L (nf []))) (N (di P 9 [m3 "return" 539 (.str "kind" 540),m3 "skip" 541 (.str "" 542),m3 "begin" 543 (.str "condition" 544),m3 "push" 545 (.str "condition" 546),m3 "pop" 547 (.str "" 548),m3 "more" 549 (.str "" 550),m3 "less" 551 (.str "number" 552),m3 "reject" 553 (.str "" 554),m3 "echo" 555 (.str "" 556)]) (N (di P 10 [m3 "__module__" 743 (.str "grammarmill.lexfile" 525),m3 "__qualname__" 745 (.str "LexFile" 744),m3 "__firstlineno__" 747 (.int 220 746),m3 "__init__" 760 (.ref 386),m3 "condition_number" 769 (.ref 393),m3 "plain_conditions" 775 (.ref 398),m3 "live_rules" 781 (.ref 403),m3 "end_rule" 790 (.ref 410),m3 "told" 796 (.ref 415),m3 "__static_attributes__" 802 (.ref 416)]) (L (fo (sd 53) "_law_parts" "_law_parts" .none .none .none (.str "law_on0176_01" 1084) (.ref 629) .none)) E) (L (rf (cd 40 2) "pattern_of" "OutlineReader.pattern_of")))))) (N (tu []) (N (ty "Position" [.type "object"] [.ref 46, .type "object"] 45 "Position" [] [none,none,some (.str "Position" 236),some (.str "Position" 244),some (.builtin "object.__new__"),some (.bool true)]) (N (cq "told" 309 "ToolError.told" 38 1 3 73 true (.ref 75) (.ref 76) (.ref 77) 313) (N (tu []) (N (fo (cd 28 1) "told" "LexStep.told" .none .none .none (.str "grammarmill.lexfile" 525) (.ref 269) .none) (L (tu [])) E) (L (fo (cd 31 2) "plain_conditions" "LexFile.plain_conditions" .none .none .none (.str "grammarmill.lexfile" 525) (.ref 397) .none))) (N (tu []) (N (rf (cd 29 6) "told" "LexRule.told") (L (tu [])) E) (L (rf (sd 37) "raw_at" "raw_at")))) (N (rf (cd 14 0) "__init__" "Cursor.__init__") (N (tu []) (N (tu []) (L (fo (cd 40 10) "conditions_at" "OutlineReader.conditions_at" .none .none .none (.str "grammarmill.lexfile" 525) (.ref 557) .none)) E) (L (tu []))) (N (rf (sd 16) "escaped_sign" "escaped_sign") (N (di P 4 [m3 "__module__" 707 (.str "grammarmill.lexfile" 525),m3 "__firstlineno__" 711 (.int 213 710),m3 "__init__" 719 (.ref 357),m3 "told" 726 (.ref 364),m3 "__static_attributes__" 728 (.ref 365),m3 "__dict__" 730 (.ref 368),m3 "__weakref__" 732 (.ref 369),m3 "__doc__" 733 (.none)]) (L (tu [])) E) (L (nf []))))) (N (nf [.int 33 0, .int 4 0, .ref 71, .int 38 0, .int 4 0, .ref 78]) (N (di P 2 [m3 "__module__" 333 (.str "grammarmill.source" 194),m3 "__firstlineno__" 337 (.int 42 336),m3 "__static_attributes__" 338 (.ref 93),m3 "__doc__" 339 (.none)]) (N (tu [.str "self" 417]) (N (fi "builtin_function_or_method" [.builtin "type.__prepare__", .type "type"]) (L (tu [.str "self" 977, .str "start" 978, .str "end" 979, .str "line" 980])) E) (L (cq "told" 791 "LexFile.told" 247 1 3 411 true .none .none (.ref 413) 794))) (N (ty "Cursor" [.type "object"] [.ref 222, .type "object"] 221 "Cursor" [] [none,none,some (.str "Cursor" 342),some (.str "Cursor" 350),some (.builtin "object.__new__"),some (.bool true)]) (N (fr [some (.ref 349),some (.ref 3),some (.ref 346),none,some (.str "grammarmill.lexfile" 525),none,some (.ref 0)]) (L (rf (sd 46) "show_outline" "show_outline")) E) (L (fo (sd 39) "steps_at" "steps_at" .none .none .none (.str "grammarmill.lexfile" 525) (.ref 477) .none)))) (N (cq "peek" 372 "Cursor.peek" 53 2 3 121 true (.ref 123) (.ref 124) (.ref 125) 378) (N (cq "position" 447 "Cursor.position" 101 1 3 185 true (.ref 187) (.ref 188) (.ref 189) 451) (N (cq "has_step" 658 "LexRule.has_step" 195 2 3 313 true (.ref 315) (.ref 316) (.ref 317) 664) (L (nf [])) E) (L (tu [.str "cursor" 839, .str "begun" 840, .str "text" 841, .str "at" 842]))) (N (cq "LexStep" 576 "LexStep" 167 0 0 252 false .none .none .none 579) (N (tu [.str "self" 752, .str "definitions" 753, .str "conditions" 754, .str "rules" 755, .str "has_default" 756, .str "tail" 757]) (L (rf (sd 55) "_law_file_right" "_law_file_right")) E) (L (cq "definition_of" 924 "OutlineReader.definition_of" 362 2 3 505 true (.ref 507) (.ref 508) (.ref 509) 929)))))))
noncomputable def wI (P:Params):BT:=(N (boot_o_0 P) (N (boot_o_1 P) (N (di P 63 ML) (Ld P) (K6 P)) (N (boot_o_5 P) (K7 P) (Lm P))) (N (dn P 2 [m3 "type.__subclasses__.Exception.0" 322 (.int 82 0),m3 "type.__subclasses__.Exception.n" 323 (.int 1 0)]) (N (boot_o_4 P) (KS P) (KR P)) (N (boot_o_6 P) (KC P) (KE P))))
noncomputable def L1:List (Nat × Obj)→Nat→Obj→Obj
  | [],_,o=>o
  | (k,x)::r,b,o=>match Nat.beq k b with
    | true=>x
    | false=>L1 r b o
noncomputable def A4 (n:Nat) (ov:List (Nat × Obj)) (t:BT):Nat→Nat→BT:=BT.rec (motive:=fun _=>Nat→Nat→BT) (fun _ _ => .nil) (fun o _ _ p q a b=>match Nat.blt b n with
  | true => .node (L1 ov b o) (p (2 * a) (a + b)) (q (2 * a) (2 * a + b))
  | false => .nil) t
noncomputable def mo (P:Params) (v:Value) (n:Nat):Obj:=di P n (("__name__",165,v)::(ML.drop 1).take (n - 1))
noncomputable def sh (t:BT) (n k:Nat) (os:OsState):SharedT:={ tree:=t,n:=n,life:={},gens:=⟨[]⟩,drawn:={},toks:=k,os:=os }
noncomputable def ev:Env:={ scope:=pw.main.scope,locals:=mainNs,globals:=mainNs,cells:=[],code := .ref 13,frame:=some 14 }
noncomputable abbrev bE:List Stmt:=behindTheImports pw
noncomputable abbrev cE:Code := .body bE ev
noncomputable abbrev q0:Pos:=⟨0,0,0,0⟩
noncomputable def L5 (P:Params):BT:=A4 15 [(2,dn P 0 []),(3,mo P (.str ⟨#[95,95,109,97,105,110,95,95]⟩ 164) 9),(12,nf (TL.take 0))] (wI P) 1 0
noncomputable abbrev S0 (w:World) (os:OsState):SharedT:=sh (L5 w.params) 15 187 os
noncomputable abbrev p0:Pos:=⟨0,0,0,0⟩
noncomputable def Mm (P:Params):BT:=A4 51 [(2,dn P 0 []),(3,mo P (.str ⟨#[103,114,97,109,109,97,114,109,105,108,108,46,115,111,117,114,99,101]⟩ 194) 19),(12,nf (TL.take 6))] (wI P) 1 0
noncomputable abbrev S1 (w:World) (os:OsState):SharedT:=sh (Mm w.params) 51 276 os
noncomputable abbrev p1:Pos:=⟨13,0,21,39⟩
noncomputable def Mg (P:Params):BT:=A4 98 [(3,mo P (.str ⟨#[103,114,97,109,109,97,114,109,105,108,108,46,115,111,117,114,99,101]⟩ 194) 22),(12,nf (TL.take 15))] (wI P) 1 0
noncomputable abbrev S2 (w:World) (os:OsState):SharedT:=sh (Mg w.params) 98 342 os
noncomputable abbrev p2:Pos:=⟨42,0,43,8⟩
noncomputable def My (P:Params):BT:=A4 227 [(3,mo P (.str ⟨#[103,114,97,109,109,97,114,109,105,108,108,46,115,111,117,114,99,101]⟩ 194) 23),(12,nf (TL.take 18))] (wI P) 1 0
noncomputable abbrev S3 (w:World) (os:OsState):SharedT:=sh (My w.params) 227 502 os
noncomputable abbrev p3:Pos:=⟨44,0,140,19⟩
noncomputable def Mk (P:Params):BT:=A4 285 [(3,mo P (.str ⟨#[103,114,97,109,109,97,114,109,105,108,108,46,108,101,120,102,105,108,101]⟩ 525) 36),(12,nf (TL.take 30))] (wI P) 1 0
noncomputable abbrev S4 (w:World) (os:OsState):SharedT:=sh (Mk w.params) 285 619 os
noncomputable abbrev p4:Pos:=⟨167,0,179,48⟩
noncomputable def Mx (P:Params):BT:=A4 372 [(3,mo P (.str ⟨#[103,114,97,109,109,97,114,109,105,108,108,46,108,101,120,102,105,108,101]⟩ 525) 38),(12,nf (TL.take 36))] (wI P) 1 0
noncomputable abbrev S5 (w:World) (os:OsState):SharedT:=sh (Mx w.params) 372 736 os
noncomputable abbrev p5:Pos:=⟨213,0,219,33⟩
noncomputable def L7 (P:Params):BT:=A4 479 [(3,mo P (.str ⟨#[103,114,97,109,109,97,114,109,105,108,108,46,108,101,120,102,105,108,101]⟩ 525) 47),(12,nf (TL.take 63))] (wI P) 1 0
noncomputable abbrev S6 (w:World) (os:OsState):SharedT:=sh (L7 w.params) 479 890 os
noncomputable abbrev p6:Pos:=⟨329,0,342,53⟩
noncomputable def Ml (P:Params):BT:=A4 573 [(3,mo P (.str ⟨#[103,114,97,109,109,97,114,109,105,108,108,46,108,101,120,102,105,108,101]⟩ 525) 48),(12,nf (TL.take 66))] (wI P) 1 0
noncomputable abbrev S7 (w:World) (os:OsState):SharedT:=sh (Ml w.params) 573 1035 os
noncomputable abbrev p7:Pos:=⟨343,0,512,20⟩
noncomputable def Ma (P:Params):BT:=wI P
noncomputable abbrev S8 (w:World) (os:OsState):SharedT:=sh (Ma w.params) 646 1165 os
noncomputable abbrev p8:Pos:=⟨627,0,645,62⟩
noncomputable def Kq:List Stmt:=(bE.drop 0).take 11
theorem Mt (w:World):(fun os=>segRunT treeTable pw w 11 (some (.ref 6)) 1 506 (S0 w os) (piecesOf Kq ev cE p0 [topFrame q0]))=fun os=>some (Flow.next,S1 w os,cE,p1):=by
  revert w
  rw[PySem.W.Fast.te10110043849684766642,PySem.W.Fast.te14364793385576792824]
  refine byRow2 "special-get-raises" (fun w=>?_) (fun w=>?_) <;> kernel_rfl
noncomputable def KM:List Stmt:=(bE.drop 11).take 3
theorem L6 (w:World):(fun os=>segRunT treeTable pw w 11 (some (.ref 6)) 1 510 (S1 w os) (piecesOf KM ev cE p1 [topFrame q0]))=fun os=>some (Flow.next,S2 w os,cE,p2):=by
  rw[PySem.W.Fast.te10110043849684766642,PySem.W.Fast.te14364793385576792824]
  kernel_rfl
noncomputable def Lg:List Stmt:=(bE.drop 14).take 1
theorem MA (w:World):(fun os=>segRunT treeTable pw w 11 (some (.ref 6)) 1 717 (S2 w os) (piecesOf Lg ev cE p2 [topFrame q0]))=fun os=>some (Flow.next,S3 w os,cE,p3):=by
  rw[PySem.W.Fast.te10110043849684766642,PySem.W.Fast.te14364793385576792824]
  kernel_rfl
noncomputable def Kx:List Stmt:=(bE.drop 15).take 14
theorem Mi (w:World):(fun os=>segRunT treeTable pw w 11 (some (.ref 6)) 1 608 (S3 w os) (piecesOf Kx ev cE p3 [topFrame q0]))=fun os=>some (Flow.next,S4 w os,cE,p4):=by
  revert w
  rw[PySem.W.Fast.te10110043849684766642,PySem.W.Fast.te14364793385576792824]
  refine byRow2 "special-get-raises" (fun w=>?_) (fun w=>?_) <;> kernel_rfl
noncomputable def K1:List Stmt:=(bE.drop 29).take 2
theorem Mh (w:World):(fun os=>segRunT treeTable pw w 11 (some (.ref 6)) 1 668 (S4 w os) (piecesOf K1 ev cE p4 [topFrame q0]))=fun os=>some (Flow.next,S5 w os,cE,p5):=by
  rw[PySem.W.Fast.te10110043849684766642,PySem.W.Fast.te14364793385576792824]
  kernel_rfl
noncomputable def Lb:List Stmt:=(bE.drop 31).take 9
theorem MB (w:World):(fun os=>segRunT treeTable pw w 11 (some (.ref 6)) 1 639 (S5 w os) (piecesOf Lb ev cE p5 [topFrame q0]))=fun os=>some (Flow.next,S6 w os,cE,p6):=by
  rw[PySem.W.Fast.te10110043849684766642,PySem.W.Fast.te14364793385576792824]
  kernel_rfl
noncomputable def Kr:List Stmt:=(bE.drop 40).take 1
theorem Mu (w:World):(fun os=>segRunT treeTable pw w 11 (some (.ref 6)) 1 599 (S6 w os) (piecesOf Kr ev cE p6 [topFrame q0]))=fun os=>some (Flow.next,S7 w os,cE,p7):=by
  rw[PySem.W.Fast.te10110043849684766642,PySem.W.Fast.te14364793385576792824]
  kernel_rfl
noncomputable def Kz:List Stmt:=(bE.drop 41).take 16
theorem Mj (w:World):(fun os=>segRunT treeTable pw w 11 (some (.ref 6)) 1 415 (S7 w os) (piecesOf Kz ev cE p7 [topFrame q0]))=fun os=>some (Flow.next,S8 w os,cE,p8):=by
  rw[PySem.W.Fast.te10110043849684766642,PySem.W.Fast.te14364793385576792824]
  kernel_rfl
end Mine
end
section
open PySem PySem.W PyProof.Rows
namespace Mine
theorem LC (w:World):(fun os=>topGo treeTable pw w 11 (some (.ref 6)) 12 ⟨boot_heap w.params,⟨[]⟩,boot_drawn,boot_toks,os⟩ (topStub pw))=fun os=>some ((S0 w os).abs,(⟨denote treeTable cE,cE,p0,[topFrame q0]⟩:Thread)):=by
  rw[PySem.W.Fast.te15667345088766844465,PySem.W.Fast.te14364793385576792824,PySem.W.Fast.te11892475500146522536]
  kernel_rfl
theorem LG (w:World) (os:OsState):segRun treeTable pw w 11 (some (.ref 6)) 1 1 (S0 w os).abs (blockOf bE ev cE p0 [topFrame q0])=some (Flow.next,(S0 w os).abs,cE,p0):=by kernel_rfl
theorem Lw (w:World) (os:OsState):topRun treeTable pw w 11 (some (.ref 6)) 2 (S8 w os).abs ⟨doneF Flow.next,cE,p8,[topFrame q0]⟩=some (S8 w os).abs:=by kernel_rfl
theorem LP:bE=Kq++(KM++(Lg++(Kx++(K1++(Lb++(Kr++(Kz++[]))))))):=by kernel_rfl
theorem sg {w:World}{n:Nat}{s s':OsState→SharedT}{l:List Stmt}{p p':Pos} (h:(fun os=>segRunT treeTable pw w 11 (some (.ref 6)) 1 n (s os) (piecesOf l ev cE p [topFrame q0]))=fun os=>some (Flow.next,s' os,cE,p')) {rest:List Stmt}{N:Nat}{r:Shared}{os:OsState}
    (k:topRun treeTable pw w 11 (some (.ref 6)) N (s' os).abs (restOf rest ev cE p' [topFrame q0])=some r):topRun treeTable pw w 11 (some (.ref 6)) (n + N) (s os).abs (restOf (l++rest) ev cE p [topFrame q0])=some r:=
  piece_app (segRun_of (congrFun h os)) k
theorem LD (w:World) (os:OsState):topRun treeTable pw w 11 (some (.ref 6)) (12 + (1 + (506 + (510 + (717 + (608 + (668 + (639 + (599 + (415 + 2)))))))))) ⟨boot_heap w.params,⟨[]⟩,boot_drawn,boot_toks,os⟩ (topStub pw)=some (S8 w os).abs:=by
  have k:=sg (os:=os) (Mt w) (sg (L6 w) (sg (MA w) (sg (Mi w) (sg (Mh w) (sg (MB w) (sg (Mu w) (sg (Mj w) (piece_nil (Lw w os)))))))))
  rw[← LP] at k
  exact go_top (congrFun (LC w) os) (piece_block (LG w os) k)
noncomputable def H1 (P:Params):Heap:=absHeap (wI P) 646 {}
noncomputable def vw:Program:=view pw [56]
noncomputable def lo:List Str:=(ML.drop 9).map (·.1) |>.filter fun x=>!(x=="law")
noncomputable def LR:List Addr:=(List.range 646).drop 11++[3]
noncomputable def Kj (P:Params):Frag:=LR.map fun a=>(a,((wI P).get a).getD default)
theorem JY (P:Params):LR=(Kj P).map (·.1):=by unfold Kj; rw[List.map_map]; exact(List.map_id _).symm
noncomputable abbrev hk:Hook:=kHook Kj LR JY
noncomputable abbrev LY:Shared→Bool:=fun s=>recOk (RowW.records PySem.Challenge.rw_on0176_01.row.toRowW) s
theorem KF (w:World):((boot_heap w.params).isNs mainGlobals&&(⟨[]⟩:Array GenState).size==0,(boot_heap w.params).objs.size,(boot_heap w.params).nsMap mainGlobals "__annotations__")=(true,11,some (.ref 6)):=by kernel_rfl
theorem Ll (w:World) (os:OsState):(staticsOk (importedModules pw.main.body) (boot_heap w.params) (H1 w.params)&&namesBound pw (H1 w.params)&&gensDone ⟨H1 w.params,⟨[]⟩,{},1165,os⟩&&laidKept (boot_heap w.params) (H1 w.params))=true:=by kernel_rfl
theorem KB (w:World) (os:OsState):hk.obs ⟨H1 w.params,⟨[]⟩,{},1165,os⟩=hk.val w:=by kernel_rfl
theorem Lc (w:World) (os:OsState):openSeen vw lo (importedModules pw.main.body) LY true ⟨H1 w.params,⟨[]⟩,{},1165,os⟩=openGood vw lo:=by
  rw[PySem.W.Fast.te4187177175401517315]
  kernel_rfl
theorem Lk:LeftO pw vw lo LY hk.obs hk.val 10000 true:=
  LeftO.of_pieces (H₀:=boot_heap) (H₁:=H1) (gs₀:=⟨[]⟩) (gs₁:=⟨[]⟩) (d₀:=boot_drawn) (d₁:={}) (k₀:=boot_toks) (k₁:=1165) (m₀:=11) (ann:=some (.ref 6)) (M:=12 + (1 + (506 + (510 + (717 + (608 + (668 + (639 + (599 + (415 + 2))))))))))
    (boot_open (by kernel_rfl) (by decide) (fun s=>by kernel_rfl)) KF LD (by decide) fun w=>funext fun os=>by rw[Ll,Lc,KB]
end Mine
end
section
open PySem PySem.W PyProof.Rows PySem.Calls PySem.SeqAt
namespace Mine
noncomputable def fdOf (K:Frag) (a:Addr):FuncData:=match K.lookup a with
  | some ⟨_,_, .func fd,_⟩=>fd
  | _=>default
noncomputable def objOf (K:Frag) (a:Addr):Obj:=match K.lookup a with
  | some o=>o
  | none=>default
noncomputable def D7 (K:Frag) (v:Value):List Value:=match v with
  | .ref a=>(match (objOf K a).data with | .seq xs _=>xs.toList | _=>[])
  | _=>[]
noncomputable abbrev hK (P:Params):Frag:=Kj P
noncomputable def bU (s:Stmt) (np:Nat):List Str:=((fS s).names.take np).map (·.1)
noncomputable def CQ (P:Params) (a:Addr):List Value:=D7 (hK P) (fdOf (hK P) a).defaults
noncomputable def DE:List Jg:=[⟨222,["text","at"]⟩,⟨280,["word","worth"]⟩,⟨339,["number","conditions","pattern","steps","line"]⟩,⟨367,["text"]⟩,
  ⟨418,["definitions","conditions","rules","has_default","tail"]⟩,⟨568,["text","lines","row","definitions","conditions","has_default","drafts","scopes","tail"]⟩]
structure Fc (U:fL):Prop where
  hK:U.K=Kj U.w.params
  hc:U.cls=DE
noncomputable def Aj (ps:List Str) (names:List (Str × NameKind)):Bool:=(ps.zip names).all fun p=>p.1==p.2.1&&(p.2.2 == .local||p.2.2 == .cell)
theorem EY {ps:List Str}{names:List (Str × NameKind)} (hl:ps.length≤names.length) (h:Aj ps names=true):∀ (i:Nat) (x:Str),ps[i]? = some x→∃ k,names[i]? = some (x,k)∧(k = .local∨k = .cell):=by
  intro i x hx
  unfold Aj at h
  rw[List.all_eq_true] at h
  have hi:=(List.getElem?_eq_some_iff.mp hx).1
  obtain⟨⟨y,k⟩,hy⟩:∃ q,names[i]? = some q:=⟨_,List.getElem?_eq_getElem (by omega)⟩
  have hm:(x,(y,k))∈ps.zip names:=by
    refine List.mem_of_getElem? (i:=i) ?_
    rw[List.getElem?_zip_eq_some]
    exact⟨hx,hy⟩
  have:=h _ hm
  simp only[Bool.and_eq_true,Bool.or_eq_true,beq_iff_eq] at this
  obtain⟨rfl,hk⟩:=this
  exact⟨k,hy,hk⟩
noncomputable def A8 (P:Params) (a:Addr) (np:Nat) (s:Stmt):Bool:=
  decide ((bU s np).length=np)&&Aj (bU s np) (fS s).names&&decide ((bU s np).Nodup)&&!(fS s).isCoroutine&&!(fS s).isGenerator&&keepIn (hK P) (.ref a)&&JF (fS s) &&
    codeIn (hK P) (fdOf (hK P) a).code (fdOf (hK P) a).qualname
theorem Ec {U:fL} (c:Fc U) {a:Addr}{np:Nat}{s:Stmt}{ds:List V} (hok:A8 U.w.params a np s=true)
    (hl:(hK U.w.params).lookup a=some ⟨(objOf (hK U.w.params) a).cls,(objOf (hK U.w.params) a).dict, .func (fnOf (fdOf (hK U.w.params) a).name (fdOf (hK U.w.params) a).qualname (fdOf (hK U.w.params) a).params (fB s) (fS s) (fdOf (hK U.w.params) a).defaults (fdOf (hK U.w.params) a).kwdefaults (fdOf (hK U.w.params) a).doc (fdOf (hK U.w.params) a).pyModule (fdOf (hK U.w.params) a).annotations (fdOf (hK U.w.params) a).code (fdOf (hK U.w.params) a).closureTuple),(objOf (hK U.w.params) a).slots⟩)
    (hbind:∀ vals:List Value,np≤vals.length + ds.length→vals.length≤np→∃ dvals:List Value,vals.length + dvals.length=np∧
      (∀ S,peek (hK U.w.params) S (bindArgs (fdOf (hK U.w.params) a) ⟨vals,[]⟩)=some ((bU s np).zip (vals++dvals)))∧
      (∀ (ρ:List Hd) (R:List Addr) (H:Hp) (h:Heap),Good U.toPg U.top ρ R H h→eZ U.toPg ⟨h,ρ,R⟩ (ds.drop (vals.length + ds.length - np)) dvals))
    (hfd:fdOf (hK U.w.params) a=fnOf (fdOf (hK U.w.params) a).name (fdOf (hK U.w.params) a).qualname (fdOf (hK U.w.params) a).params (fB s) (fS s) (fdOf (hK U.w.params) a).defaults (fdOf (hK U.w.params) a).kwdefaults (fdOf (hK U.w.params) a).doc (fdOf (hK U.w.params) a).pyModule (fdOf (hK U.w.params) a).annotations (fdOf (hK U.w.params) a).code (fdOf (hK U.w.params) a).closureTuple):
    ci U a (fS s) (fB s) (bU s np) ds:=by
  unfold A8 at hok
  simp only[Bool.and_eq_true,decide_eq_true_eq,Bool.not_eq_true'] at hok
  obtain⟨⟨⟨⟨⟨⟨⟨h1,h2⟩,h3⟩,h4⟩,h5⟩,h6⟩,h7⟩,h8⟩:=hok
  have hlen:(bU s np).length≤(fS s).names.length:=by unfold bU; rw[List.length_map,List.length_take]; omega
  refine⟨⟨_,_,_,_,_,_,_,_,_,_,_,_,_,(congrArg (fun k:Frag=>k.lookup a) c.hK).trans hl,?_,fun vals q1 q2=>?_⟩,EY hlen h2,h3,bt h7,h4,h5,?_⟩
  · rw[c.hK]; exact h8
  · rw[h1] at q1 q2
    obtain⟨dv,e1,e2,e3⟩:=hbind vals q1 q2
    refine⟨dv,by rw[h1]; exact e1,fun S=>?_,fun ρ R H h g=>by rw[h1]; exact e3 ρ R H h g⟩
    have:=e2 S
    rw[hfd] at this
    rw[c.hK]
    exact this
  · rw[c.hK]; exact h6
noncomputable def zt (P:Params) (a:Addr):Option Obj:=(hK P).lookup a
noncomputable def JU (P:Params) (a:Addr) (s:Stmt):FuncData:=fnOf (fdOf (hK P) a).name (fdOf (hK P) a).qualname (fdOf (hK P) a).params (fB s) (fS s) (fdOf (hK P) a).defaults (fdOf (hK P) a).kwdefaults (fdOf (hK P) a).doc (fdOf (hK P) a).pyModule (fdOf (hK P) a).annotations (fdOf (hK P) a).code (fdOf (hK P) a).closureTuple
noncomputable def yW (P:Params) (a:Addr) (s:Stmt):Option Obj:=some ⟨(objOf (hK P) a).cls,(objOf (hK P) a).dict, .func (JU P a s),(objOf (hK P) a).slots⟩
noncomputable def CR (P:Params) (a:Addr) (vals:List Value) (S:Setting):Option (List (Str × Value)):=peek (hK P) S (bindArgs (fdOf (hK P) a) ⟨vals,[]⟩)
noncomputable def Dw (s:Stmt) (np:Nat) (vals:List Value):Option (List (Str × Value)):=some ((bU s np).zip vals)
noncomputable def JH (U:fL) (a:Addr) (np:Nat) (s:Stmt) (ds:List V) (vals:List Value):Prop:=∃ dvals:List Value,vals.length + dvals.length=np∧(∀ S,CR U.w.params a vals S=Dw s np (vals++dvals))∧
  (∀ (ρ:List Hd) (R:List Addr) (H:Hp) (h:Heap),Good U.toPg U.top ρ R H h→eZ U.toPg ⟨h,ρ,R⟩ (ds.drop (vals.length + ds.length - np)) dvals)
section
variable {U:fL} (c:Fc U) {a:Addr}{np:Nat}{s:Stmt} (hok:A8 U.w.params a np s=true) (hl:zt U.w.params a=yW U.w.params a s) (hfd:fdOf (hK U.w.params) a=JU U.w.params a s)
include c hok hl hfd
theorem Bh {ds:List V} (hb:∀ vals:List Value,np≤vals.length + ds.length→vals.length≤np→JH U a np s ds vals):ci U a (fS s) (fB s) (bU s np) ds:=Ec c hok hl hb hfd
theorem Cg (hb:∀ vals:List Value,vals.length=np→∀ S,CR U.w.params a vals S=Dw s np vals):ci U a (fS s) (fB s) (bU s np) []:=
  Ec c hok hl (fun vals h1 h2=>⟨[],Nat.le_antisymm h2 h1,fun S=>(hb vals (Nat.le_antisymm h2 h1) S).trans (congrArg (fun l=>some ((bU s np).zip l)) (List.append_nil vals).symm),fun ρ R H h g=>(List.drop_nil (α:=V)).symm ▸ .nil⟩) hfd
end
theorem nil_of {l:List Value} (h:l.length=0):l=[]:=List.eq_nil_of_length_eq_zero h
theorem db {n:Nat}{P:List Value→Prop} (h:∀ a (l:List Value),l.length=n→P (a::l)):∀ vals:List Value,vals.length=n + 1→P vals
  | a::l,e=>h a l (Nat.succ.inj e)
theorem rF {P:List Value→Prop} (h:P []):∀ vals:List Value,vals.length=0→P vals:=fun vals e=>nil_of e▸h
section
variable {U:fL} (c:Fc U) {a:Addr}{s:Stmt}
include c
theorem gM (hok:A8 U.w.params a 1 s=true:=by kernel_rfl) (hl:zt U.w.params a=yW U.w.params a s:=by kernel_rfl) (hfd:fdOf (hK U.w.params) a=JU U.w.params a s:=by kernel_rfl) (hb:∀ a0 S,CR U.w.params a [a0] S=Dw s 1 [a0]:=by intros; kernel_rfl):ci U a (fS s) (fB s) (bU s 1) []:=
  Cg c hok hl hfd (db fun a0=>rF (hb a0))
theorem hY (hok:A8 U.w.params a 2 s=true:=by kernel_rfl) (hl:zt U.w.params a=yW U.w.params a s:=by kernel_rfl) (hfd:fdOf (hK U.w.params) a=JU U.w.params a s:=by kernel_rfl) (hb:∀ a0 a1 S,CR U.w.params a [a0,a1] S=Dw s 2 [a0,a1]:=by intros; kernel_rfl):ci U a (fS s) (fB s) (bU s 2) []:=
  Cg c hok hl hfd (db fun a0=>db fun a1=>rF (hb a0 a1))
theorem By (hok:A8 U.w.params a 3 s=true:=by kernel_rfl) (hl:zt U.w.params a=yW U.w.params a s:=by kernel_rfl) (hfd:fdOf (hK U.w.params) a=JU U.w.params a s:=by kernel_rfl) (hb:∀ a0 a1 a2 S,CR U.w.params a [a0,a1,a2] S=Dw s 3 [a0,a1,a2]:=by intros; kernel_rfl):ci U a (fS s) (fB s) (bU s 3) []:=
  Cg c hok hl hfd (db fun a0=>db fun a1=>db fun a2=>rF (hb a0 a1 a2))
theorem Kt (hok:A8 U.w.params a 4 s=true:=by kernel_rfl) (hl:zt U.w.params a=yW U.w.params a s:=by kernel_rfl) (hfd:fdOf (hK U.w.params) a=JU U.w.params a s:=by kernel_rfl) (hb:∀ a0 a1 a2 a3 S,CR U.w.params a [a0,a1,a2,a3] S=Dw s 4 [a0,a1,a2,a3]:=by intros; kernel_rfl):ci U a (fS s) (fB s) (bU s 4) []:=
  Cg c hok hl hfd (db fun a0=>db fun a1=>db fun a2=>db fun a3=>rF (hb a0 a1 a2 a3))
theorem Kv (hok:A8 U.w.params a 6 s=true:=by kernel_rfl) (hl:zt U.w.params a=yW U.w.params a s:=by kernel_rfl) (hfd:fdOf (hK U.w.params) a=JU U.w.params a s:=by kernel_rfl) (hb:∀ a0 a1 a2 a3 a4 a5 S,CR U.w.params a [a0,a1,a2,a3,a4,a5] S=Dw s 6 [a0,a1,a2,a3,a4,a5]:=by intros; kernel_rfl):ci U a (fS s) (fB s) (bU s 6) []:=
  Cg c hok hl hfd (db fun a0=>db fun a1=>db fun a2=>db fun a3=>db fun a4=>db fun a5=>rF (hb a0 a1 a2 a3 a4 a5))
end
theorem call_of {U:fL}{n np nn:Nat}{f:Addr}{sc:Scope}{body:List Stmt}{ps:List Str}{ds:List V}{F:SF} (K:ci U f sc body ps ds) (hb:aK U n sc body F) (h1:ps.length=np:=by kernel_rfl) (h2:sc.names.length=nn:=by kernel_rfl):aO U (n + 1) (.ref f) (bn np nn ds F):=by
  subst h1 h2
  exact GW K hb
end Mine
end
section
open PySem PySem.W PyProof.Rows PySem.Calls PySem.SeqAt
namespace Mine
section
variable {U:fL}{n:Nat}{sc:Scope}
theorem X.BF {t v:PySem.Expr}{pos:Pos}{f:EF}{a:AF} (h1:aA U n sc v f) (h2:i3 U true n sc t a) (hs:∀ env,env.scope=sc→swapsWithSole [t] v pos.line env=pure false) (hw:∀ env,env.scope=sc→swappedStores [t] v env=pure none)
    (he:∀ env,(assignEach [t] env).map (·.2)=[assign t env]):gY U n sc (.Assign [t] v pos) (af f a):=by
  intro A env M P ρ R H s Q E r M' H' hr so gd l o hf hQ
  unfold af at hf
  refine bf hf fun p H1 e1 hf=>?_
  refine yC hf fun M2 H2 e2 hf=>?_
  cases hf
  refine wpAny_Assign_stores (h1 A env M P ρ R H s _ E p H1 hr so gd l e1 fun x s1 ρ1 st1 g1 va=>?_) (hs env l.scope) (hw env l.scope)
  rw[he]
  show wpAny _ _ (assign t env x) _ _ _
  exact h2 A env M P ρ1 R H1 s1 _ E p x _ _ hr so g1 (l.cT st1) o va e2 fun s2 ρ2 st2 g2 l2=>hQ .next s2 ρ2 (st1.any.trans st2) g2 l2 trivial
theorem E.ad (i:Nat) {x:Str}{pos:Pos} (h:sc.names[i]? = some (x, .local):=by kernel_rfl):aA U n sc (.Name x pos) (aa i):=E.loc h (by decide)
theorem E.cC (i:Nat) {x:Str}{pos:Pos} (h:sc.names[i]? = some (x, .cell):=by kernel_rfl):aA U n sc (.Name x pos) (aa i):=E.loc h (by decide)
theorem X.dN {f:PySem.Expr}{args:List PySem.Expr}{kws:List PySem.Keyword}{p pos:Pos}{g:EF} (h:aA U n sc (.Call f args kws p) g):gY U n sc (.Expr (.Call f args kws p) pos) (cj g):=X.expr h fun _=>rfl
noncomputable def Hl (v:PySem.Expr):Bool:=Nat.blt v.ctorIdx 8||Nat.blt 10 v.ctorIdx
noncomputable def plainT (t:PySem.Expr):Bool:=Nat.blt t.ctorIdx 22||t.ctorIdx==23
theorem Dj {t v:PySem.Expr}{line:Nat} (h:Hl v=true) (env:Env):swapsWithSole [t] v line env=pure false:=by
  cases v <;> first | (cases h; done) | rfl
theorem AE {t v:PySem.Expr} (h:plainT t=true) (env:Env):swappedStores [t] v env=pure none:=by
  cases t <;> first | (cases h; done) | rfl
theorem DY {t:PySem.Expr} (h:plainT t=true) (env:Env):(assignEach [t] env).map (·.2)=[assign t env]:=by
  cases t <;> first | (cases h; done) | rfl
theorem X.a7 {t v:PySem.Expr}{pos:Pos}{f:EF}{a:AF} (h1:aA U n sc v f) (h2:i3 U true n sc t a) (h:(Hl v&&plainT t)=true):gY U n sc (.Assign [t] v pos) (af f a):=
  X.BF h1 h2 (fun env _=>Dj (Bool.and_eq_true_iff.mp h).1 env) (fun env _=>AE (Bool.and_eq_true_iff.mp h).2 env) (DY (Bool.and_eq_true_iff.mp h).2)
theorem E.bG {i:Nat}{x:Str}{p pos:Pos}{e:PySem.Expr}{callee:Value}{op:V→Hp→Option V}{f:EF} (h:sc.names[i]? = some (x, .globalImplicit)) (hb:Boot U x callee)
    (h1:aA U n sc e f) (ho:i7 U op (fun v=>call callee [v])) (he:∀ env,starEach [e] env=[(false,eval e env)]:=by exact fun _=>rfl):aA U n sc (.Call (.Name x p) [e] [] pos) (aW op f):=
  E.KT h hb.free hb.is hb.ne hb.kept h1 ho he
noncomputable def LX (sc:Scope) (scope:Scope) (t:Str) (a b:Nat):Bool:=(if sc.kind.isAnnotationScope then ScopeKind.function else sc.kind) == .function&&sc.names.lookup t==some .local&&a==b&&!(scope.names.any fun(n,k)=>n==t&&(k == .local||k == .cell))
theorem ul {elt:PySem.Expr}{gens:List Comprehension}{scope:Scope}{pos tp:Pos}{t:Str}{line:Nat}{b:Bool} (hb:LX sc scope t tp.line pos.line=b):∀ env,env.scope=sc→swapsWith (.ListComp elt gens scope pos) (some (.Name t tp)) line env=pure b:=by
  intro env h
  subst hb h
  rfl
theorem ca {names:List (Str × NameKind)} (h:(names.all fun x=>x.2 != .local||names.lookup x.1==some .local)=true:=by kernel_rfl):∀ x∈names,x.2 = .local→names.lookup x.1=some .local:=by
  intro x hx hl
  have:=List.all_eq_true.mp h x hx
  rw[hl] at this
  simpa using this
theorem pR {is:List Nat}{names:List Str} (h:is.map (fun i=>sc.names[i]?)=names.map fun x=>some (x,NameKind.local)):∀ (j i:Nat) (x:Str),is[j]? = some i→names[j]? = some x→sc.names[i]? = some (x, .local):=by
  intro j i x h1 h2
  have e:(is.map (fun i=>sc.names[i]?))[j]? = (names.map fun x=>some (x,NameKind.local))[j]? := by rw[h]
  rw[List.getElem?_map,List.getElem?_map,h1,h2] at e
  exact Option.some.inj e
end
section
variable {U:fL}
theorem jg (c:Fc U) {x:Str}{callee:Value} (hk:(∃ id,callee = .builtin id)∨(∃ T,callee = .type T)) (h:nsIn (hK U.w.params) mainGlobals x=some none:=by kernel_rfl) (hb:bootBuiltins x=some callee:=by kernel_rfl) (hx:x≠"__name__":=by decide):Boot U x callee:=
  ⟨by rw[c.hK]; exact h,hb,hx,hk.elim .inl fun q => .inr (.inl q)⟩
theorem AZ (c:Fc U) {f:Value} (h:keepIn (hK U.w.params) f=true):Kept U f := .inr (.inr (by rw[c.hK]; exact h))
theorem cM (c:Fc U) {x:Str}{f:Value} (h:nsIn (hK U.w.params) mainGlobals x=some (some f):=by kernel_rfl) (hk:keepIn (hK U.w.params) f=true:=by kernel_rfl):iT U x f:=⟨by rw[c.hK]; exact h,AZ c hk⟩
theorem uV (c:Fc U) {k:Nat}{C:Jg} (h0:DE[k]? = some C) (ga:findIn (hK U.w.params) (.ref C.addr) "__getattribute__"=some (some (.builtin "object.__getattribute__")))
  (gm:findIn (hK U.w.params) (.ref C.addr) "__getattr__"=some none)
  (sa:findIn (hK U.w.params) (.ref C.addr) "__setattr__"=some (some (.builtin "object.__setattr__")))
  (plain:plainOver (hK U.w.params) C.addr=true)
  (dict:hasDictIn (hK U.w.params) C.addr=true)
  (make:makesIn (hK U.w.params) C.addr=true)
  (own:C.sI.map (fun x=>findIn (hK U.w.params) (.ref C.addr) x)=C.sI.map (fun _=>some none))
  (nd:C.sI.Nodup)
  (LS:C.sI.length≤100):pK U k C:=by
  refine⟨by rw[c.hc]; exact h0,by rw[c.hK]; exact ga,by rw[c.hK]; exact gm,by rw[c.hK]; exact sa,by rw[c.hK]; exact plain,by rw[c.hK]; exact dict,by rw[c.hK]; exact make,fun x hx=>?_,nd,LS⟩
  rw[c.hK]
  exact List.map_inj_left.mp own x hx
theorem d7 {name:Str}{k i:Nat}{C:Jg}{t:List (Nat × Nat)} (h:pK U k C) (e:C.sI[i]? = some name) (h2:gP U name t):gP U name ((k,i)::t):=by
  intro p hp
  rcases List.mem_cons.mp hp with rfl | hp
  · exact⟨C,h,e⟩
  · exact h2 p hp
theorem ir {name:Str}:gP U name []:=fun p hp=>nomatch hp
theorem bF (c:Fc U) {n m k:Nat}{name:Str}{C:Jg}{f:Addr}{F:a9} (h:pK U k C) (hn:name∉C.sI) (hf:findIn (hK U.w.params) (.ref C.addr) name=some (some (.ref f))) (ht:typeIn (hK U.w.params) (.ref f)=some (.type "function"))
    (hk:keepIn (hK U.w.params) (.ref f)=true) (hF:aO U m (.ref f) F) (hm:m≤n):∀ p∈[(k,F)],bS U n name p.1 p.2:=by
  intro p hp
  rw[List.mem_singleton.mp hp]
  exact⟨C,f,h,hn,by rw[c.hK]; exact hf,by rw[c.hK]; exact ht,AZ c hk,hF.le hm⟩
theorem uI (c:Fc U) {n m k:Nat}{x:Str}{C:Jg}{f:Addr}{F:a9} (h:pK U k C) (hx:nsIn (hK U.w.params) mainGlobals x=some (some (.ref C.addr))) (hkc:keepIn (hK U.w.params) (.ref C.addr)=true) (hf:findIn (hK U.w.params) (.ref C.addr) "__init__"=some (some (.ref f))) (ht:typeIn (hK U.w.params) (.ref f)=some (.type "function"))
    (hF:aO U m (.ref f) F) (hm:m≤n):vd U n x k F:=
  ⟨C,f,h,by rw[c.hK]; exact hx,AZ c hkc,by rw[c.hK]; exact hf,by rw[c.hK]; exact ht,hF.le hm⟩
noncomputable def tokOf:Option (Option Value)→Tok
  | some (some (.str _ t))=>t
  | _=>default
theorem nF (c:Fc U) {x:Str}{l:List Nat} (h:nsIn (hK U.w.params) mainGlobals x=some (some (.str ⟨l.toArray⟩ (tokOf (nsIn (hK U.w.params) mainGlobals x))))) (hl:l.length≤1048576):jP U x (.str l):=
  ⟨_,by rw[c.hK]; exact h,fun ρ R H hh g => .str ⟨l.toArray⟩ _ (by simpa using hl)⟩
noncomputable def Jh:Value→Option (List Nat)
  | .str x _=>some x.cps.toList
  | _=>none
theorem BG {G:Pg}{s:Vw}:∀ {xs:List Value}{ls:List (List Nat)},xs.map Jh=ls.map some→(∀ l∈ls,l.length≤1048576)→eZ G s (ls.map V.str) xs
  | [],[],_,_ => .nil
  | x::xs,l::ls,h,hl=>by
    rw[List.map_cons,List.map_cons] at h
    obtain⟨h1,h2⟩:=List.cons.inj h
    refine .cons ?_ (BG h2 fun l hm=>hl l (List.mem_cons_of_mem _ hm))
    cases x with
    | str y t=>
      have e:y.cps.toList=l:=Option.some.inj h1
      have hz:=hl l List.mem_cons_self
      rw[← e] at hz ⊢
      exact .str y t (by simpa using hz)
    | _=>cases h1
  | [],_::_,h,_=>by cases h
  | _::_,[],h,_=>by cases h
theorem rR (c:Fc U) {x:Str}{a:Addr}{ls:List (List Nat)} (h:nsIn (hK U.w.params) mainGlobals x=some (some (.ref a))) (ho:(hK U.w.params).lookup a=some (su (D7 (hK U.w.params) (.ref a)) 0)) (hs:(D7 (hK U.w.params) (.ref a)).map Jh=ls.map some)
    (hl:∀ l∈ls,l.length≤1048576) (hn:ls.length≤1048576):jP U x (.tup (ls.map V.str)):=by
  refine⟨.ref a,by rw[c.hK]; exact h,fun ρ R H hh g => .tup (xs:=D7 (hK U.w.params) (.ref a)) (n:=0) ?_ ?_ (BG hs hl)⟩
  · exact g.top a _ (U.X a _ (by rw[c.hK]; exact ho))
  · have:=congrArg List.length hs
    rw[List.length_map,List.length_map] at this
    omega
end
section
variable {U:fL}
theorem Gw (c:Fc U) {x:Str}{i:Int} (h:∃ t,nsIn (hK U.w.params) mainGlobals x=some (some (.int i t))):jP U x (.int i):=by
  obtain⟨t,h⟩:=h
  exact⟨_,by rw[c.hK]; exact h,fun ρ R H hh g => .int i t⟩
theorem JJ {G:Pg}{s:Vw}{v:Value}{l:List Nat} (h:∃ t,v = .str ⟨l.toArray⟩ t) (hl:l.length≤1048576):VR G s (.str l) v:=by
  obtain⟨t,rfl⟩:=h
  exact .str ⟨l.toArray⟩ t (by simpa using hl)
noncomputable def GB (P:Params) (p:Str × Tok × Str × Tok):DictEntry:={ hash:=PyData.keyHash P p.1,key := .str p.1 p.2.1,val := .str p.2.2.1 p.2.2.2 }
theorem FV {prog:Program}{w:World}{l:List (Str × Tok × Str × Tok)}:KeysOf (PySem.strKind prog w) (l.map (GB w.params)).toArray:=by
  intro e he
  rw[List.mem_toArray,List.mem_map] at he
  obtain⟨p,hp,rfl⟩:=he
  exact⟨p.1,PySem.strKind_is _ _ _ _,rfl⟩
theorem xP {prog:Program}{w:World}:∀ {l:List (Str × Tok × Str × Tok)},Pairs (PySem.strKind prog w) (l.map (GB w.params)) (l.map fun p=>(p.1,Value.str p.2.2.1 p.2.2.2))
  | [] => .nil
  | p::l => .cons (PySem.strKind_is _ _ _ _) rfl xP
theorem El {G:Pg}{s:Vw}:∀ {l:List (Str × Tok × Str × Tok)},(∀ p∈l,p.2.2.1.cps.size≤1048576)→ER G s (l.map fun p=>(p.1.cps.toList,V.str p.2.2.1.cps.toList)) (l.map fun p=>(p.1,Value.str p.2.2.1 p.2.2.2))
  | [],_ => .nil
  | p::l,h => .cons (.str _ _ (h p List.mem_cons_self)) (El fun q hq=>h q (List.mem_cons_of_mem _ hq))
theorem Fg (c:Fc U) {x:Str}{a:Addr}{l:List (Str × Tok × Str × Tok)}{n:Nat}{d:List (List Nat × V)} (h:nsIn (hK U.w.params) mainGlobals x=some (some (.ref a))) (ha:a≠sysModules)
    (ho:(hK U.w.params).lookup a=some { cls := .type "dict",dict:=none,data := .dict (l.map (GB U.w.params)).toArray n,slots:=#[] })
    (hl:∀ p∈l,p.2.2.1.cps.size≤1048576) (hn:l.length≤1048576) (hd:(l.map (·.1)).Nodup) (he:d=l.map fun p=>(p.1.cps.toList,V.str p.2.2.1.cps.toList)):jP U x (.jo d):=by
  subst he
  refine⟨.ref a,by rw[c.hK]; exact h,fun ρ R H hh g => .jo (kvs:=l.map fun p=>(p.1,Value.str p.2.2.1 p.2.2.2)) (g.top a _ (U.X a _ (by rw[c.hK]; exact ho))) ha ⟨_,_,⟨rfl,rfl,rfl⟩,rfl,FV,?_,?_⟩ ?_ (El hl)⟩
  · exact xP
  · rw[List.map_map]; exact hd
  · rw[List.length_map]; exact hn
end
end Mine
end
section
open PySem PySem.W PyProof.Rows PySem.Calls PySem.SeqAt
namespace Mine
noncomputable def dw:List (Nat × Nat):=[(0,0),(3,0),(5,0)]
noncomputable def jA:List (Nat × Nat):=[(0,1)]
noncomputable def mT:List (Nat × Nat):=[(1,0)]
noncomputable def qp:List (Nat × Nat):=[(1,1)]
noncomputable def m0:List (Nat × Nat):=[(2,0)]
noncomputable def aP:List (Nat × Nat):=[(2,1),(4,1),(5,4)]
noncomputable def gU:List (Nat × Nat):=[(2,2)]
noncomputable def oD:List (Nat × Nat):=[(2,3)]
noncomputable def DI:List (Nat × Nat):=[(2,4)]
noncomputable def cI:List (Nat × Nat):=[(4,0),(5,3)]
noncomputable def lI:List (Nat × Nat):=[(4,2)]
noncomputable def cH:List (Nat × Nat):=[(4,3),(5,5)]
noncomputable def ma:List (Nat × Nat):=[(4,4),(5,8)]
noncomputable def oU:List (Nat × Nat):=[(5,1)]
noncomputable def pJ:List (Nat × Nat):=[(5,2)]
noncomputable def mZ:List (Nat × Nat):=[(5,6)]
noncomputable def lR:List (Nat × Nat):=[(5,7)]
noncomputable def yG:V→Hp→Option V:=fun v _=>match v with | .int i=>some (.int (-i)) | _=>none
noncomputable def jH:V := .str [32,9]
noncomputable def il:V := .str [60,60,69,79,70,62,62]
noncomputable def uv:V := .str [48,49,50,51,52,53,54,55,56,57]
noncomputable def oA:V := .str [73,78,73,84,73,65,76]
noncomputable def pU:V := .tup (List.map V.str [[114,101,116,117,114,110],[114,101,106,101,99,116]])
noncomputable def nV:V := .str [37,37]
noncomputable def jR:V := .int 6
noncomputable def pP:V := .str [97,98,99,100,101,102,103,104,105,106,107,108,109,110,111,112,113,114,115,116,117,118,119,120,121,122,65,66,67,68,69,70,71,72,73,74,75,76,77,78,79,80,81,82,83,84,85,86,87,88,89,90,95,48,49,50,51,52,53,54,55,56,57]
noncomputable def pZ:V := .tup (List.map V.str [[109,111,114,101],[108,101,115,115],[114,101,106,101,99,116]])
noncomputable def us:V := .str [47,47]
noncomputable def cF:V := .jo [([114,101,116,117,114,110], .str [107,105,110,100]),([115,107,105,112], .str []),([98,101,103,105,110], .str [99,111,110,100,105,116,105,111,110]),([112,117,115,104], .str [99,111,110,100,105,116,105,111,110]),([112,111,112], .str []),([109,111,114,101], .str []),([108,101,115,115], .str [110,117,109,98,101,114]),([114,101,106,101,99,116], .str []),([101,99,104,111], .str [])]
noncomputable def rh:V := .tup (List.map V.str [[97,43],[34,120,32,121,34],[91,32,93,98],[92,32,122],[60,113],[47,47,114],[37,37,115],[123,68,125],[97,47,98],[94,120,36],[125],[60,65,62,116]])
noncomputable def ui:V := .tup (List.map V.str [[],[105,110,116,32,109,97,105,110,40,41,32,123,125,10],[37,37,10,109,111,114,101],[10],[32,32,120]])
noncomputable def qb:V := .tup (List.map V.str [[114,101,116,117,114,110],[114,101,116,117,114,110],[115,107,105,112],[98,101,103,105,110],[112,117,115,104],[112,111,112],[101,99,104,111],[109,111,114,101],[108,101,115,115],[114,101,106,101,99,116]])
noncomputable def o7:SF:=(al (af (aa 1) (dC dw (aa 0))) (af (aa 2) (dC jA (aa 0))))
noncomputable def fI:a9:=bn 3 3 [.int 0] o7
noncomputable def kW:SF:=(bw (av (sz KH) (aW (am jA) (aa 0)) (aW cL (aW (am dw) (aa 0)))))
noncomputable def bq:a9:=bn 1 2 [] kW
noncomputable def pv:SF:=(al (af (av br (aW (am jA) (aa 0)) (aa 1)) (aw 2)) (al (cK (aG Ao (aa 2) (aW cL (aW (am dw) (aa 0)))) (bw (av aI (aW (am dw) (aa 0)) (aa 2))) bj) (bw (ab (.str [])))))
noncomputable def dG:a9:=bn 2 4 [.int 0] pv
noncomputable def mf:SF:=(bw (av (sz vEq) (d9 (aW (am dw) (aa 0)) (eO (aW (am jA) (aa 0))) (eO (av br (aW (am jA) (aa 0)) (aW cL (aa 1))))) (aa 1)))
noncomputable def dc:a9:=bn 2 3 [] mf
noncomputable def pc:SF:=(al (cK (cb (aJ [(0,bq)] (aa 0) aj)) (bw (ab (.str []))) bj) (al (af (av aI (aW (am dw) (aa 0)) (aW (am jA) (aa 0))) (aw 1)) (al (af (av br (aW (am jA) (aa 0)) (ab (.int 1))) (dC jA (aa 0))) (bw (aa 1)))))
noncomputable def ek:a9:=bn 1 2 [] pc
noncomputable def lD:SF:=(al (cK (iF (cb (aJ [(0,dc)] (aa 0) (ae (aa 1) aj)))) (bw (ab (.bool false))) bj) (al (af (av br (aW (am jA) (aa 0)) (aW cL (aa 1))) (dC jA (aa 0))) (bw (ab (.bool true)))))
noncomputable def ba:a9:=bn 2 3 [] lD
noncomputable def cn:TF:=(kM (aG Ao (aW (am jA) (aa 0)) (aW cL (aW (am dw) (aa 0)))) (aG pN (av aI (aW (am dw) (aa 0)) (aW (am jA) (aa 0))) (aa 1)))
noncomputable def cR:SF:=(af (av br (aW (am jA) (aa 0)) (ab (.int 1))) (dC jA (aa 0)))
noncomputable def iU:SF:=(al (af (aW (am jA) (aa 0)) (aw 2)) (al (aY cn cR) (bw (d9 (aW (am dw) (aa 0)) (eO (aa 2)) (eO (aW (am jA) (aa 0)))))))
noncomputable def cx:a9:=bn 2 4 [] iU
noncomputable def iE:SF:=(cj (aJ [(0,cx)] (aa 0) (ae (aa 1) aj)))
noncomputable def aB:a9:=bn 2 2 [.str [32,9]] iE
noncomputable def o6:SF:=(al (af (aJ [(0,dG)] (aa 0) aj) (aw 1)) (al (cK (u9 (aG vEq (aa 1) (ab (.str []))) (u9 (aG gi (aa 1) (ab pP)) (aG pN (aa 1) (ab uv)))) (bw (ab (.str []))) bj) (bw (aJ [(0,cx)] (aa 0) (ae (ab pP) aj)))))
noncomputable def bM:a9:=bn 1 4 [] o6
noncomputable def oh:TF:=(iF (cb (aJ [(0,bq)] (aa 0) aj)))
noncomputable def dB:SF:=(al (af (aJ [(0,ek)] (aa 0) aj) (aw 3)) (al (cK (aG vEq (aa 3) (aa 1)) (bw (tf ka (ab (.str [])) (ae (aa 2) aj))) bj) (al (cK (aG vEq (aa 3) (ab (.str [92]))) (fun _ _=>none) bj) (cj (cu (aa 2) (aa 3))))))
noncomputable def mh:SF:=(al (af (kF aj) (aw 2)) (al (aY oh dB) (bw (ab .none))))
noncomputable def gQ:a9:=bn 2 4 [] mh
noncomputable def rJ:SF:=(al (cK (aG vEq (aa 0) (ab (.str [10]))) (bw (ab (.str [92,110]))) bj) (al (cK (aG vEq (aa 0) (ab (.str [9]))) (bw (ab (.str [92,116]))) bj) (al (cK (u9 (aG pN (aa 0) (aa 1)) (aG vEq (aa 0) (ab (.str [92])))) (bw (av br (ab (.str [92])) (aa 0))) bj) (al (af (aW Kl (aa 0)) (aw 2)) (al (cK (kM (u9 (aG Ao (aa 2) (ab (.int 32))) (aG JG (aa 2) (ab (.int 126)))) (aG Ao (aa 2) (ab (.int 256)))) (fun _ _=>none) bj) (bw (aa 0)))))))
noncomputable def rC:a9:=bn 2 5 [] rJ
noncomputable def uj:AF:=(aw 1)
noncomputable def tr:TF:=ik
noncomputable def tQ:EF:=(pg rC (ae (aa 1) (ae (aa 3) aj)))
noncomputable def tx:IF:=(kx (aa 0))
noncomputable def zr:SF:=(bw (tf ka (ab (.str [])) (ae (c6 [none,none,none,some 1] tx uj tr tQ) aj)))
noncomputable def uJ:a9:=bn 2 2 [] zr
noncomputable def kt:SF:=(al (af (aa 1) (dC mT (aa 0))) (af (aa 2) (dC qp (aa 0))))
noncomputable def cf:a9:=bn 3 3 [.none] kt
noncomputable def rM:SF:=(bw (oTup (ae (aW (am mT) (aa 0)) (ae (aW (am qp) (aa 0)) aj))))
noncomputable def nQ:a9:=bn 1 1 [] rM
noncomputable def jM:SF:=(al (cK (aG uu (aW (am qp) (aa 0)) (ab .none)) (bw (aW (am mT) (aa 0))) bj) (bw (av br (av br (aW (am mT) (aa 0)) (ab (.str [32]))) (aW vStr (aW (am qp) (aa 0))))))
noncomputable def dJ:a9:=bn 1 2 [] jM
noncomputable def oa:SF:=(al (af (aa 1) (dC m0 (aa 0))) (al (af (aa 2) (dC aP (aa 0))) (al (af (aa 3) (dC gU (aa 0))) (al (af (aa 4) (dC oD (aa 0))) (af (aa 5) (dC DI (aa 0)))))))
noncomputable def gr:a9:=bn 6 6 [] oa
noncomputable def kT:SF:=(bw (av (sz uu) (aW (am gU) (aa 0)) (ab .none)))
noncomputable def dz:a9:=bn 1 1 [] kT
noncomputable def jG:SF:=(bw (av (sz pN) (aa 1) (aW (am aP) (aa 0))))
noncomputable def cY:a9:=bn 2 2 [] jG
noncomputable def kL:AF:=(aw 2)
noncomputable def kK:SF:=(cK (aG vEq (aW (am mT) (aa 2)) (aa 1)) (bw (ab (.bool true))) bj)
noncomputable def kE:IF:=(kx (aW (am oD) (aa 0)))
noncomputable def jj:SF:=(al (m4 kE kL kK) (bw (ab (.bool false))))
noncomputable def eQ:a9:=bn 2 3 [] jj
noncomputable def oG:AF:=(aw 1)
noncomputable def oM:SF:=(cK (aG vEq (aW (am mT) (aa 1)) (ab (.str [114,101,116,117,114,110]))) (bw (aW (am qp) (aa 1))) bj)
noncomputable def oI:IF:=(kx (aW (am oD) (aa 0)))
noncomputable def ni:SF:=(al (m4 oI oG oM) (bw (ab .none)))
noncomputable def gk:a9:=bn 1 2 [] ni
noncomputable def jn:AF:=(aw 1)
noncomputable def jk:TF:=(u9 (aG vEq (aW (am mT) (aa 1)) (ab (.str [98,101,103,105,110]))) (aG vEq (aW (am mT) (aa 1)) (ab (.str [112,117,115,104]))))
noncomputable def jm:EF:=(aW (am qp) (aa 1))
noncomputable def jq:IF:=(kx (aW (am oD) (aa 0)))
noncomputable def mc:SF:=(bw (c6 [none,none] jq jn jk jm))
noncomputable def gO:a9:=bn 1 1 [] mc
noncomputable def jI:SF:=(af (aa 1) (dC dw (aa 0)))
noncomputable def cz:a9:=bn 2 2 [] jI
noncomputable def oS:SF:=(bw (oTup (ae (ab (.str [114,97,119])) (ae (aW (am dw) (aa 0)) aj))))
noncomputable def ig:a9:=bn 1 1 [] oS
noncomputable def fu:AF:=(aw 1)
noncomputable def fm:TF:=ik
noncomputable def fq:EF:=(aJ [(1,nQ)] (aa 1) aj)
noncomputable def fz:IF:=(kx (aW (am oD) (aa 0)))
noncomputable def nB:SF:=(al (af (th (aG uu (aW (am gU) (aa 0)) (ab .none)) (ab .none) (aJ [(3,ig)] (aW (am gU) (aa 0)) aj)) (aw 1)) (bw (oTup (ae (aW (am aP) (aa 0)) (ae (aa 1) (ae (aW jE (c6 [none,none] fz fu fm fq)) aj))))))
noncomputable def iy:a9:=bn 1 3 [] nB
noncomputable def nA:SF:=(al (af (aa 1) (dC cI (aa 0))) (al (af (aa 2) (dC aP (aa 0))) (al (af (aa 3) (dC lI (aa 0))) (al (af (aa 4) (dC cH (aa 0))) (af (aa 5) (dC ma (aa 0)))))))
noncomputable def gj:a9:=bn 6 6 [.bool true, .str []] nA
noncomputable def gE:AF:=(aw 2)
noncomputable def gF:SF:=(cK (aG vEq (av aI (av aI (aW (am aP) (aa 0)) (aa 2)) (ab (.int 0))) (aa 1)) (bw (aa 2)) bj)
noncomputable def gA:IF:=(gt (ae (aW cL (aW (am aP) (aa 0))) aj))
noncomputable def eR:SF:=(al (m4 gA gE gF) (bw (aW yG (ab (.int 1)))))
noncomputable def bc:a9:=bn 2 5 [] eR
noncomputable def gw:AF:=(aw 1)
noncomputable def gx:TF:=(iF (cb (av aI (av aI (aW (am aP) (aa 2)) (aa 1)) (ab (.int 1)))))
noncomputable def gB:EF:=(aa 1)
noncomputable def gD:IF:=(gt (ae (aW cL (aW (am aP) (aa 0))) aj))
noncomputable def ez:SF:=(bw (aW jE (c6 [none,none,some 0] gD gw gx gB)))
noncomputable def bm:a9:=bn 1 4 [] ez
noncomputable def jv:AF:=(aw 1)
noncomputable def ju:TF:=(kM (iF (cb (aJ [(2,dz)] (aa 1) aj))) (cb (aJ [(2,cY)] (aa 1) (ae (aa 2) aj))))
noncomputable def jr:EF:=(aa 1)
noncomputable def jt:IF:=(kx (aW (am lI) (aa 0)))
noncomputable def iN:SF:=(bw (c6 [none,none,some 1] jt jv ju jr))
noncomputable def dR:a9:=bn 2 2 [] iN
noncomputable def kD:AF:=(aw 2)
noncomputable def kH:SF:=(cK (kM (cb (aJ [(2,dz)] (aa 2) aj)) (cb (aJ [(2,cY)] (aa 2) (ae (aa 1) aj)))) (bw (aa 2)) bj)
noncomputable def kI:IF:=(kx (aW (am lI) (aa 0)))
noncomputable def jp:SF:=(al (m4 kI kD kH) (bw (ab .none)))
noncomputable def eF:a9:=bn 2 3 [] jp
noncomputable def jV:AF:=(aw 1)
noncomputable def jC:TF:=ik
noncomputable def ku:EF:=(oTup (ae (aa 1) (ae (aJ [(3,ig)] (av aI (aW (am cI) (aa 2)) (aa 1)) aj) aj)))
noncomputable def jU:IF:=(kx (aW (am cI) (aa 0)))
noncomputable def j0:AF:=(mF (bN (aw 1) (bN (aw 2) mC)))
noncomputable def jS:TF:=ik
noncomputable def jQ:EF:=(oTup (ae (aa 1) (ae (aa 2) aj)))
noncomputable def kg:IF:=(pH (aW (am aP) (aa 0)))
noncomputable def hU:AF:=(aw 1)
noncomputable def hZ:TF:=ik
noncomputable def hO:EF:=(aJ [(2,iy)] (aa 1) aj)
noncomputable def fy:IF:=(kx (aW (am lI) (aa 0)))
noncomputable def m7:SF:=(bw (oTup (ae (aW jE (c6 [none,none,some 0] jU jV jC ku)) (ae (aW jE (c6 [none,none,none] kg j0 jS jQ)) (ae (aW jE (c6 [none,none] fy hU hZ hO)) (ae (aW (am cH) (aa 0)) (ae (aW (am ma) (aa 0)) aj)))))))
noncomputable def gq:a9:=bn 1 2 [] m7
noncomputable def dF:TF:=(aG Ao (aa 2) (aW cL (aa 0)))
noncomputable def dH:SF:=(al (af (tf Eg (aa 0) (ae (ab (.str [10])) (ae (aa 2) aj))) (aw 3)) (al (cK (aG Ao (aa 3) (ab (.int 0))) (af (aW cL (aa 0)) (aw 3)) bj) (al (cj (cu (aa 1) (oTup (ae (aa 2) (ae (aa 3) aj))))) (af (av br (aa 3) (ab (.int 1))) (aw 2)))))
noncomputable def sQ:SF:=(al (af (kF aj) (aw 1)) (al (af (ab (.int 0)) (aw 2)) (al (aY dF dH) (bw (iZ (aa 1))))))
noncomputable def on:a9:=bn 1 5 [] sQ
noncomputable def pd:SF:=(bw (Io (av (sz vEq) (tf Du (aa 0) (ae (ab jH) aj)) (ab (.str []))) (tf lm (aa 0) (ae (ab us) aj))))
noncomputable def i9:a9:=bn 1 3 [] pd
noncomputable def iw:TF:=(kM (aG Ao (aa 3) (aW cL (aa 2))) (aG mK (av aI (aa 2) (aa 3)) (ab (.str [34]))))
noncomputable def jW:SF:=(B6 3 (th (aG vEq (av aI (aa 2) (aa 3)) (ab (.str [92]))) (ab (.int 2)) (ab (.int 1))))
noncomputable def qT:SF:=(al (af (aW (am dw) (aa 0)) (aw 2)) (al (af (av br (aa 1) (ab (.int 1))) (aw 3)) (al (aY iw jW) (al (cK (aG KH (aa 3) (aW cL (aa 2))) (fun _ _=>none) bj) (bw (av br (aa 3) (ab (.int 1))))))))
noncomputable def oN:a9:=bn 2 6 [] qT
noncomputable def eG:TF:=(kM (aG Ao (aa 3) (aW cL (aa 2))) (u9 (cb (aa 4)) (aG mK (av aI (aa 2) (aa 3)) (ab (.str [93])))))
noncomputable def j9:SF:=(al (af (ab (.bool false)) (aw 4)) (cK (kM (aG vEq (d9 (aa 2) (eO (aa 3)) (eO (av br (aa 3) (ab (.int 2))))) (ab (.str [91,58]))) (fun _ _=>none)) (fun _ _=>none) (B6 3 (th (aG vEq (av aI (aa 2) (aa 3)) (ab (.str [92]))) (ab (.int 2)) (ab (.int 1))))))
noncomputable def rc:SF:=(al (af (aW (am dw) (aa 0)) (aw 2)) (al (af (av br (aa 1) (ab (.int 1))) (aw 3)) (al (cK (aG vEq (d9 (aa 2) (eO (aa 3)) (eO (av br (aa 3) (ab (.int 1))))) (ab (.str [94]))) (B6 3 (ab (.int 1))) bj) (al (af (ab (.bool true)) (aw 4)) (al (aY eG j9) (al (cK (aG KH (aa 3) (aW cL (aa 2))) (fun _ _=>none) bj) (bw (av br (aa 3) (ab (.int 1))))))))))
noncomputable def oE:a9:=bn 2 7 [] rc
noncomputable def bZ:TF:=(kM (aG Ao (aa 3) (aW cL (aa 1))) (aG gi (av aI (aa 1) (aa 3)) (ab jH)))
noncomputable def bY:SF:=(cK (aG vEq (av aI (aa 1) (aa 3)) (ab (.str [34]))) (af (pg oN (ae (aa 0) (ae (aa 3) aj))) (aw 3)) (cK (aG vEq (av aI (aa 1) (aa 3)) (ab (.str [91]))) (af (pg oE (ae (aa 0) (ae (aa 3) aj))) (aw 3)) (B6 3 (th (aG vEq (av aI (aa 1) (aa 3)) (ab (.str [92]))) (ab (.int 2)) (ab (.int 1))))))
noncomputable def yo:SF:=(al (af (aW (am dw) (aa 0)) (aw 1)) (al (af (aW (am jA) (aa 0)) (aw 2)) (al (af (aa 2) (aw 3)) (al (aY bZ bY) (al (cK (aG JG (aa 3) (aW cL (aa 1))) (fun _ _=>none) bj) (al (cK (aG vEq (aa 3) (aa 2)) (fun _ _=>none) bj) (al (af (aa 3) (dC jA (aa 0))) (bw (iZ (oq 3 cz (ae (d9 (aa 1) (eO (aa 2)) (eO (aa 3))) aj)))))))))))
noncomputable def qP:a9:=bn 1 10 [] yo
noncomputable def lb:SF:=(al (af (aW (am jA) (aa 0)) (aw 2)) (al (af (aJ [(0,bM)] (aa 0) aj) (aw 3)) (al (cK (aG gi (aa 3) (ab cF)) (fun _ _=>none) bj) (al (af (av aI (ab cF) (aa 3)) (aw 4)) (al (cK (aG vEq (aa 4) (ab (.str []))) (bw (iZ (oq 1 cf (ae (aa 3) aj)))) bj) (al (cj (aJ [(0,aB)] (aa 0) aj)) (al (af (aW (am jA) (aa 0)) (aw 2)) (al (cK (aG vEq (aa 4) (ab (.str [110,117,109,98,101,114]))) (al (af (aJ [(0,cx)] (aa 0) (ae (ab uv) aj)) (aw 5)) (al (cK (u9 (aG vEq (aa 5) (ab (.str []))) (aG JG (aW cL (aa 5)) (ab jR))) (fun _ _=>none) bj) (bw (iZ (oq 1 cf (ae (aa 3) (ae (aW vInt (aa 5)) aj))))))) bj) (al (cK (kM (aG vEq (aa 4) (ab (.str [107,105,110,100]))) (cb (aJ [(0,ba)] (aa 0) (ae (ab (.str [39])) aj)))) (al (af (aJ [(0,gQ)] (aa 0) (ae (ab (.str [39])) aj)) (aw 6)) (al (cK (u9 (aG uu (aa 6) (ab .none)) (aG mK (aW cL (aa 6)) (ab (.int 1)))) (fun _ _=>none) bj) (bw (iZ (oq 1 cf (ae (aa 3) (ae (av br (av br (ab (.str [39])) (pg uJ (ae (aa 6) (ae (ab (.str [39])) aj)))) (ab (.str [39]))) aj))))))) bj) (al (af (aJ [(0,bM)] (aa 0) aj) (aw 7)) (al (cK (aG vEq (aa 7) (ab (.str []))) (fun _ _=>none) bj) (al (cK (kM (aG vEq (aa 4) (ab (.str [99,111,110,100,105,116,105,111,110]))) (aG gi (aa 7) (aa 1))) (fun _ _=>none) bj) (bw (iZ (oq 1 cf (ae (aa 3) (ae (aa 7) aj)))))))))))))))))
noncomputable def dU:a9:=bn 2 16 [] lb
noncomputable def lh:TF:=(cb (ab (.bool true)))
noncomputable def fH:SF:=(al (cj (aJ [(0,aB)] (aa 0) aj)) (al (cK (cb (aJ [(0,bq)] (aa 0) aj)) (al (cK (iF (cb (aa 2))) (fun _ _=>none) bj) (bw (iZ (aa 2)))) bj) (al (cK (kM (cb (aa 2)) (aG pN (aW (am mT) (av aI (aa 2) (aW yG (ab (.int 1))))) (ab pU))) (fun _ _=>none) bj) (al (cj (cu (aa 2) (pg dU (ae (aa 0) (ae (aa 1) aj))))) (al (cj (aJ [(0,aB)] (aa 0) aj)) (cK (kM (iF (cb (aJ [(0,bq)] (aa 0) aj))) (iF (cb (aJ [(0,ba)] (aa 0) (ae (ab (.str [59])) aj))))) (fun _ _=>none) bj))))))
noncomputable def tc:SF:=(al (af (kF aj) (aw 2)) (aY lh fH))
noncomputable def ql:a9:=bn 2 6 [] tc
noncomputable def iD:SF:=(al (af (aa 1) (dC dw (aa 0))) (al (af (pg on (ae (aa 1) aj)) (dC oU (aa 0))) (al (af (ab (.int 0)) (dC pJ (aa 0))) (al (af He (dC cI (aa 0))) (al (af (kF (ae (oTup (ae (ab oA) (ae (ab (.bool false)) aj))) aj)) (dC aP (aa 0))) (al (af (ab (.bool true)) (dC cH (aa 0))) (al (af (kF aj) (dC mZ (aa 0))) (al (af (kF aj) (dC lR (aa 0))) (af (ab (.str [])) (dC ma (aa 0)))))))))))
noncomputable def dP:a9:=bn 2 4 [] iD
noncomputable def dI:AF:=(mF (bN (aw 1) (bN (aw 2) mC)))
noncomputable def dE:EF:=(aa 1)
noncomputable def gZ:SF:=(bw (zX [none,none,none] (aW (am aP) (aa 0)) dI dE))
noncomputable def bH:a9:=bn 1 1 [] gZ
noncomputable def eD:SF:=(bw (pg qP (ae (aa 1) aj)))
noncomputable def ch:a9:=bn 2 3 [] eD
noncomputable def dS:SF:=(bw (pg qP (ae (aa 1) aj)))
noncomputable def bP:a9:=bn 2 3 [] dS
noncomputable def cD:TF:=(iF (cb (aJ [(0,bq)] (aa 1) aj)))
noncomputable def bK:SF:=(al (af (aW (am jA) (aa 1)) (aw 4)) (al (af (aJ [(0,bM)] (aa 1) aj) (aw 5)) (al (cK (aG vEq (aa 5) (ab (.str []))) (fun _ _=>none) bj) (al (cK (aG vEq (aa 3) (ab (.str [111,112,116,105,111,110]))) (al (cK (aG mK (aa 5) (ab (.str [110,111,100,101,102,97,117,108,116]))) (fun _ _=>none) bj) (af (ab (.bool false)) (dC cH (aa 0)))) (al (cK (aG pN (aa 5) (aJ [(5,bH)] (aa 0) aj)) (fun _ _=>none) bj) (cj (cu (aW (am aP) (aa 0)) (oTup (ae (aa 5) (ae (av (sz vEq) (aa 3) (ab (.str [120]))) aj))))))) (al (cK (aG gi (aJ [(0,dG)] (aa 1) aj) (oTup (ae (ab (.str [])) (ae (ab (.str [32])) (ae (ab (.str [9])) aj))))) (fun _ _=>none) bj) (cj (aJ [(0,aB)] (aa 1) aj)))))))
noncomputable def cW:SF:=(al (af (aW (am jA) (aa 1)) (aw 2)) (al (cj (aJ [(0,ek)] (aa 1) aj)) (al (af (aJ [(0,bM)] (aa 1) aj) (aw 3)) (al (cK (aG gi (aa 3) (oTup (ae (ab (.str [115])) (ae (ab (.str [120])) (ae (ab (.str [111,112,116,105,111,110])) aj))))) (fun _ _=>none) bj) (al (cj (aJ [(0,aB)] (aa 1) aj)) (al (cK (cb (aJ [(0,bq)] (aa 1) aj)) (fun _ _=>none) bj) (aY cD bK)))))))
noncomputable def aL:a9:=bn 2 7 [] cW
noncomputable def de:SF:=(al (af (aW (am jA) (aa 1)) (aw 2)) (al (af (aJ [(0,bM)] (aa 1) aj) (aw 3)) (al (cK (aG vEq (aa 3) (ab (.str []))) (fun _ _=>none) bj) (al (cK (aG pN (aa 3) (aW (am cI) (aa 0))) (fun _ _=>none) bj) (al (cK (aG gi (aJ [(0,dG)] (aa 1) aj) (oTup (ae (ab (.str [32])) (ae (ab (.str [9])) aj)))) (fun _ _=>none) bj) (al (cj (aJ [(0,aB)] (aa 1) aj)) (al (af (aJ [(5,bP)] (aa 0) (ae (aa 1) aj)) (aw 4)) (al (cj (aJ [(0,aB)] (aa 1) aj)) (al (cK (iF (cb (aJ [(0,bq)] (aa 1) aj))) (fun _ _=>none) bj) (af (aa 4) (aSub (aW (am cI) (aa 0)) (aa 3))))))))))))
noncomputable def bd:a9:=bn 2 6 [] de
noncomputable def be:TF:=(aG Ao (aW (am pJ) (aa 0)) (aW cL (aW (am oU) (aa 0))))
noncomputable def aM:SF:=(al (af (av aI (aW (am oU) (aa 0)) (aW (am pJ) (aa 0))) (mF (bN (aw 1) (bN (aw 2) mC)))) (al (pE pJ (aa 0) (ab (.int 1))) (al (af (d9 (aW (am dw) (aa 0)) (eO (aa 1)) (eO (aa 2))) (aw 3)) (al (cK (aG vEq (tf mL (aa 3) (ae (ab jH) aj)) (ab nV)) EB bj) (al (cK (cb (pg i9 (ae (aa 3) aj))) Jv bj) (al (af (oq 0 fI (ae (d9 (aW (am dw) (aa 0)) pM (eO (aa 2))) (ae (aa 1) aj))) (aw 4)) (cK (cb (tf lm (aa 3) (ae (ab (.str [37])) aj))) (cj (aJ [(5,aL)] (aa 0) (ae (aa 4) aj))) (cj (aJ [(5,bd)] (aa 0) (ae (aa 4) aj))))))))))
noncomputable def cZ:SF:=(al (aY be aM) (fun _ _=>none))
noncomputable def bx:a9:=bn 1 12 [] cZ
noncomputable def b6:TF:=(cb (ab (.bool true)))
noncomputable def bA:SF:=(al (af (aW (am jA) (aa 1)) (aw 4)) (al (af (aJ [(0,bM)] (aa 1) aj) (aw 5)) (al (cK (aG gi (aa 5) (aa 2)) (fun _ _=>none) bj) (al (cj (cu (aa 3) (Az (aa 2) (aa 5)))) (al (cK (cb (aJ [(0,ba)] (aa 1) (ae (ab (.str [62])) aj))) (bw (iZ (aa 3))) bj) (cK (iF (cb (aJ [(0,ba)] (aa 1) (ae (ab (.str [44])) aj)))) (fun _ _=>none) bj))))))
noncomputable def bQ:SF:=(al (cK (u9 (cb (aJ [(0,dc)] (aa 1) (ae (ab il) aj))) (iF (cb (aJ [(0,ba)] (aa 1) (ae (ab (.str [60])) aj))))) (bw (oLst aj)) bj) (al (cK (cb (aJ [(0,ba)] (aa 1) (ae (ab (.str [42,62])) aj))) (bw (kZ (ae (aW cL (aW (am aP) (aa 0))) aj))) bj) (al (af (aJ [(5,bH)] (aa 0) aj) (aw 2)) (al (af (kF aj) (aw 3)) (aY b6 bA)))))
noncomputable def aN:a9:=bn 2 11 [] bQ
noncomputable def bW:AF:=(aw 1)
noncomputable def bV:TF:=(iF (cb (av aI (av aI (aW (am aP) (aa 2)) (aa 1)) (ab (.int 1)))))
noncomputable def bX:EF:=(aa 1)
noncomputable def cJ:IF:=(gt (ae (aW cL (aW (am aP) (aa 0))) aj))
noncomputable def eX:SF:=(al (af (aW (am jA) (aa 1)) (aw 2)) (al (cK (cb (aW (am lR) (aa 0))) (fun _ _=>none) (cK (aG pN (aJ [(0,dG)] (aa 1) aj) (oTup (ae (ab (.str [32])) (ae (ab (.str [9])) aj)))) (fun _ _=>none) bj)) (al (af (oLst aj) (aw 3)) (al (cK (cb (aW (am lR) (aa 0))) (fun _ _=>none) bj) (al (af (aJ [(5,aN)] (aa 0) (ae (aa 1) aj)) (aw 4)) (al (cK (cb (aa 4)) (al (af (av br (aa 3) (aa 4)) (aw 3)) (cK (aG vEq (tf mL (d9 (aW (am dw) (aa 1)) (eO (aW (am jA) (aa 1))) pM) (ae (ab jH) aj)) (ab (.str [123]))) (al (cj (cu (aW (am lR) (aa 0)) (oTup (ae (aa 3) (ae (aa 2) aj))))) EB) bj)) bj) (al (cK (iF (cb (aa 3))) (qu [none,none,some 0] cJ bW bV bX 3) bj) (al (af (ab .none) (aw 5)) (al (cK (iF (cb (aJ [(0,ba)] (aa 1) (ae (ab il) aj)))) (af (aJ [(5,ch)] (aa 0) (ae (aa 1) aj)) (aw 5)) bj) (al (cK (aG gi (aJ [(0,dG)] (aa 1) aj) (oTup (ae (ab (.str [32])) (ae (ab (.str [9])) aj)))) (fun _ _=>none) bj) (al (cj (aJ [(0,aB)] (aa 1) aj)) (al (af (ab .none) (aw 6)) (al (cK (cb (aJ [(0,ba)] (aa 1) (ae (ab (.str [124])) aj))) (fun _ _=>none) (af (pg ql (ae (aa 1) (ae (aJ [(5,bH)] (aa 0) aj) aj))) (aw 6))) (cj (cu (aW (am mZ) (aa 0)) (oTup (ae (aW jE (qL (ae (aa 3) aj))) (ae (aa 5) (ae (aa 6) (ae (aa 2) (ae (aW (am pJ) (aa 0)) aj)))))))))))))))))))))
noncomputable def bv:a9:=bn 2 17 [] eX
noncomputable def bl:TF:=(aG Ao (aW (am pJ) (aa 0)) (aW cL (aW (am oU) (aa 0))))
noncomputable def aS:SF:=(al (af (av aI (aW (am oU) (aa 0)) (aW (am pJ) (aa 0))) (mF (bN (aw 1) (bN (aw 2) mC)))) (al (pE pJ (aa 0) (ab (.int 1))) (al (af (d9 (aW (am dw) (aa 0)) (eO (aa 1)) (eO (aa 2))) (aw 3)) (al (cK (aG vEq (tf mL (aa 3) (ae (ab jH) aj)) (ab nV)) (al (af (d9 (aW (am dw) (aa 0)) (eO (av br (aa 2) (ab (.int 1)))) pM) (dC ma (aa 0))) K5) bj) (cK (iF (cb (pg i9 (ae (aa 3) aj)))) (cj (aJ [(5,bv)] (aa 0) (ae (oq 0 fI (ae (d9 (aW (am dw) (aa 0)) pM (eO (aa 2))) (ae (aa 1) aj))) aj))) bj)))))
noncomputable def eS:SF:=(al (aY bl aS) (cK (cb (aW (am lR) (aa 0))) (fun _ _=>none) bj))
noncomputable def bI:a9:=bn 1 11 [] eS
noncomputable def cr:AF:=(aw 9)
noncomputable def cp:SF:=(cK (aG pN (aW (am mT) (aa 9)) (ab pZ)) (fun _ _=>none) bj)
noncomputable def dA:IF:=(kx (aa 2))
noncomputable def dy:AF:=(aw 3)
noncomputable def bJ:SF:=(al (af (av aI (aW (am mZ) (aa 0)) (aa 3)) (mF (bN (aw 4) (bN (aw 5) (bN (aw 6) (bN (aw 7) (bN (aw 8) mC))))))) (al (cK (aG uR (aa 6) (ab .none)) (af (aa 6) (aw 2)) bj) (al (cK (aG uu (aa 2) (ab .none)) (fun _ _=>none) bj) (al (cK (aG uu (aa 5) (ab .none)) (m4 dA cr cp) bj) (cj (cu (aa 1) (iZ (oq 2 gr (ae (aa 3) (ae (aa 4) (ae (aa 5) (ae (aa 2) (ae (aa 8) aj)))))))))))))
noncomputable def gs:IF:=(gt (ae (av Gl (aW cL (aW (am mZ) (aa 0))) (ab (.int 1))) (ae (aW yG (ab (.int 1))) (ae (aW yG (ab (.int 1))) aj))))
noncomputable def ef:SF:=(al (af (kF aj) (aw 1)) (al (af (ab .none) (aw 2)) (al (m4 gs dy bJ) (al (cj (tE (aa 1))) (bw (iZ (aa 1)))))))
noncomputable def b9:a9:=bn 1 16 [] ef
noncomputable def iL:SF:=(al (cj (aJ [(5,bx)] (aa 0) aj)) (al (cj (aJ [(5,bI)] (aa 0) aj)) (al (af (aJ [(5,b9)] (aa 0) aj) (aw 1)) (bw (iZ (oq 4 gj (ae (iZ (aW (am cI) (aa 0))) (ae (iZ (aW (am aP) (aa 0))) (ae (aa 1) (ae (aW (am cH) (aa 0)) (ae (aW (am ma) (aa 0)) aj)))))))))))
noncomputable def dM:a9:=bn 1 3 [] iL
noncomputable def n8:SF:=(bw (aJ [(5,dM)] (oq 5 dP (ae (aa 0) aj)) aj))
noncomputable def iK:a9:=bn 1 2 [] n8
noncomputable def l9:AF:=(aw 1)
noncomputable def me:TF:=ik
noncomputable def lZ:EF:=(aJ [(1,dJ)] (aa 1) aj)
noncomputable def lY:IF:=(kx (aa 0))
noncomputable def qc:SF:=(bw (tf ka (ab (.str [59,32])) (ae (c6 [none,none] lY l9 me lZ) aj)))
noncomputable def jZ:a9:=bn 1 1 [] qc
noncomputable def fg:AF:=(aw 1)
noncomputable def fw:TF:=ik
noncomputable def ff:EF:=(av aI (av aI (aW (am aP) (aa 2)) (aa 1)) (ab (.int 0)))
noncomputable def fC:IF:=(kx (aa 1))
noncomputable def kn:SF:=(al (cK (kM (aG vEq (aa 1) (aJ [(4,bm)] (aa 0) aj)) (iF (cb (aa 2)))) (bw (ab (.str []))) bj) (al (cK (aG vEq (aW cL (aa 1)) (aW cL (aW (am aP) (aa 0)))) (bw (ab (.str [60,42,62]))) bj) (bw (av br (av br (ab (.str [60])) (tf ka (ab (.str [44])) (ae (c6 [none,none,some 0] fC fg fw ff) aj))) (ab (.str [62]))))))
noncomputable def dW:a9:=bn 3 4 [] kn
noncomputable def rG:SF:=(al (af (ab (.bool false)) (aw 3)) (al (cK (aG uu (aW (am gU) (aa 1)) (ab .none)) (af (ab il) (aw 2)) (af (Io (tf lm (aa 2) (ae (ab (.str [60])) aj)) (tf lm (aa 2) (ae (ab us) aj))) (aw 3))) (bw (av br (av br (av br (pg dW (ae (aa 0) (ae (aW (am aP) (aa 1)) (ae (aa 3) aj)))) (aa 2)) (ab (.str [32]))) (pg jZ (ae (aW (am oD) (aa 1)) aj))))))
noncomputable def oH:a9:=bn 3 8 [] rG
noncomputable def nw:AF:=(mF (bN (aw 4) (bN (aw 5) mC)))
noncomputable def nz:SF:=(cj (cu (aa 3) (av br (th (cb (aa 5)) (ab (.str [37,120,32])) (ab (.str [37,115,32]))) (aa 4))))
noncomputable def nE:IF:=(pH (d9 (aW (am aP) (aa 0)) (eO (ab (.int 1))) pM))
noncomputable def m8:AF:=(aw 4)
noncomputable def mX:SF:=(cj (cu (aa 3) (av br (av br (aa 4) (ab (.str [32]))) (av aI (aa 1) (aa 4)))))
noncomputable def nW:IF:=(kx (aW (am cI) (aa 0)))
noncomputable def nU:AF:=(aw 6)
noncomputable def jO:SF:=(cj (cu (aa 3) (pg oH (ae (aa 0) (ae (aa 6) (ae (av aI (aa 2) (aW (am m0) (aa 6))) aj))))))
noncomputable def nR:IF:=(kx (aW (am lI) (aa 0)))
noncomputable def rp:SF:=(al (af (kF aj) (aw 3)) (al (m4 nE nw nz) (al (cK (iF (cb (aW (am cH) (aa 0)))) (cj (cu (aa 3) (ab (.str [37,111,112,116,105,111,110,32,110,111,100,101,102,97,117,108,116])))) bj) (al (m4 nW m8 mX) (al (cj (cu (aa 3) (ab nV))) (al (m4 nR nU jO) (al (af (av br (tf ka (ab (.str [10])) (ae (aa 3) aj)) (ab (.str [10]))) (aw 7)) (al (cK (aG mK (aW (am ma) (aa 0)) (ab (.str []))) (af (av br (av br (av br (aa 7) (ab nV)) (ab (.str [10]))) (aW (am ma) (aa 0))) (aw 7)) bj) (bw (aa 7))))))))))
noncomputable def oT:a9:=bn 3 10 [] rp
noncomputable def ie:AF:=(aw 2)
noncomputable def ii:SF:=(af (aW (am dw) (av aI (aW (am cI) (aa 0)) (aa 2))) (aSub (aa 1) (aa 2)))
noncomputable def hX:IF:=(kx (aW (am cI) (aa 0)))
noncomputable def ia:AF:=(aw 1)
noncomputable def ib:TF:=ik
noncomputable def fD:EF:=(th (aG uu (aW (am gU) (aa 1)) (ab .none)) (ab (.str [])) (aW (am dw) (aW (am gU) (aa 1))))
noncomputable def fE:IF:=(kx (aW (am lI) (aa 0)))
noncomputable def nG:SF:=(al (af He (aw 1)) (al (m4 hX ie ii) (al (qu [none,none] fE ia ib fD 3) (bw (pg oT (ae (aa 0) (ae (aa 1) (ae (aa 3) aj))))))))
noncomputable def iP:a9:=bn 1 5 [] nG
noncomputable def sR:SF:=(al (yh (oTup (ae (av aI (aa 0) (ab (.int 0))) (ae (av aI (aa 0) (ab (.int 1))) aj))) [2,3]) (al (af (av br (aa 3) (ab (.int 1))) (aSub (aa 0) (ab (.int 1)))) (bw (av yM (av br (av aI (aa 2) (av yM (aa 3) (aW cL (aa 2)))) (av JL (ab (.int 13)) (av GK (aa 3) (aW cL (aa 2))))) (aa 1)))))
noncomputable def b4:a9:=bn 2 5 [] sR
noncomputable def nO:AF:=(aw 5)
noncomputable def kl:SF:=(al (af (pg b4 (ae (aa 0) (ae (ab (.int 10)) aj))) (aw 6)) (al (af (av aI (ab qb) (aa 6)) (aw 7)) (al (cK (u9 (kM (cb (aa 2)) (aG pN (aa 7) (oTup (ae (ab (.str [109,111,114,101])) (ae (ab (.str [108,101,115,115])) (ae (ab (.str [114,101,106,101,99,116])) aj)))))) (kM (aG Ao (av br (aa 5) (ab (.int 1))) (aa 4)) (aG pN (aa 7) (oTup (ae (ab (.str [114,101,116,117,114,110])) (ae (ab (.str [114,101,106,101,99,116])) aj)))))) (af (oTup (ae (ab (.str [115,107,105,112])) (ae (ab (.int 2)) aj))) (mF (bN (aw 7) (bN (aw 6) mC)))) bj) (al (af (ab .none) (aw 8)) (al (cK (aG vEq (aa 7) (ab (.str [114,101,116,117,114,110]))) (af (av aI (oTup (ae (ab (.str [75,73,78,68])) (ae (ab (.str [39,59,39])) aj))) (aa 6)) (aw 8)) (cK (aG pN (aa 7) (oTup (ae (ab (.str [98,101,103,105,110])) (ae (ab (.str [112,117,115,104])) aj)))) (af (av aI (aa 1) (av yM (aa 5) (aW cL (aa 1)))) (aw 8)) (cK (aG vEq (aa 7) (ab (.str [108,101,115,115]))) (af (av br (ab (.int 12)) (aa 5)) (aw 8)) bj))) (cj (cu (aa 3) (oTup (ae (aa 7) (ae (aa 8) aj))))))))))
noncomputable def rK:IF:=(gt (ae (aa 4) aj))
noncomputable def rz:SF:=(al (yh (oTup (ae (kF aj) (ae (av br (ab (.int 1)) (pg b4 (ae (aa 0) (ae (ab (.int 3)) aj)))) aj))) [3,4]) (al (m4 rK nO kl) (bw (iZ (aa 3)))))
noncomputable def oF:a9:=bn 3 13 [] rz
noncomputable def og:AF:=(aw 2)
noncomputable def jY:SF:=(cj (cu (aa 1) (oTup (ae (av aI (oTup (ae (ab (.str [65])) (ae (ab (.str [66,95,50])) (ae (ab (.str [99,51])) aj)))) (aa 2)) (ae (av (sz vEq) (pg b4 (ae (aa 0) (ae (ab (.int 2)) aj))) (ab (.int 1))) aj)))))
noncomputable def rI:IF:=(gt (ae (pg b4 (ae (aa 0) (ae (ab (.int 4)) aj))) aj))
noncomputable def n9:AF:=(aw 2)
noncomputable def jT:SF:=(cj (cu (aa 4) (oTup (ae (av aI (oTup (ae (ab (.str [68])) (ae (ab (.str [101,95,49])) aj))) (aa 2)) (ae (av aI (ab rh) (pg b4 (ae (aa 0) (ae (ab (.int 12)) aj)))) aj)))))
noncomputable def rB:IF:=(gt (ae (pg b4 (ae (aa 0) (ae (ab (.int 3)) aj))) aj))
noncomputable def nt:AF:=(aw 1)
noncomputable def mW:TF:=ik
noncomputable def nK:EF:=(av aI (aa 1) (ab (.int 0)))
noncomputable def m9:IF:=(kx (aa 1))
noncomputable def nj:AF:=(aw 1)
noncomputable def nm:TF:=(iF (cb (av aI (av aI (aa 2) (aa 1)) (ab (.int 1)))))
noncomputable def nN:EF:=(aa 1)
noncomputable def nT:IF:=(gt (ae (aW cL (aa 6)) aj))
noncomputable def nu:AF:=(aw 1)
noncomputable def jN:TF:=(aG vEq (av yM (av GK (aa 2) (av FM (ab (.int 2)) (aa 1))) (ab (.int 2))) (ab (.int 1)))
noncomputable def nY:EF:=(aa 1)
noncomputable def ng:IF:=(gt (ae (aW cL (aa 6)) aj))
noncomputable def mV:AF:=(aw 2)
noncomputable def km:SF:=(al (yh (oTup (ae (av (sz vEq) (pg b4 (ae (aa 0) (ae (ab (.int 5)) aj))) (ab (.int 0))) (ae (av aI (ab rh) (pg b4 (ae (aa 0) (ae (ab (.int 12)) aj)))) (ae (pg b4 (ae (aa 0) (ae (ab (.int 3)) aj))) aj)))) [8,9,10]) (al (af (aa 7) (aw 11)) (al (cK (aG JG (aa 10) (ab (.int 0))) (al (af (av br (ab (.int 1)) (pg b4 (ae (aa 0) (ae (av Gl (av FM (ab (.int 2)) (aW cL (aa 6))) (ab (.int 1))) aj)))) (aw 12)) (af (aW jE (c6 [none,none,some 12] ng nu jN nY)) (aw 11))) bj) (cj (cu (aa 5) (oTup (ae (aa 11) (ae (th (cb (aa 8)) (ab .none) (aa 9)) (ae (pg oF (ae (aa 0) (ae (aa 6) (ae (aa 8) aj)))) aj)))))))))
noncomputable def rj:IF:=(gt (ae (pg b4 (ae (aa 0) (ae (ab (.int 4)) aj))) aj))
noncomputable def ru:SF:=(al (af (kF (ae (oTup (ae (ab (.str [73,78,73,84,73,65,76])) (ae (ab (.bool false)) aj))) aj)) (aw 1)) (al (m4 rI og jY) (al (yh (oTup (ae (av (sz vEq) (pg b4 (ae (aa 0) (ae (ab (.int 2)) aj))) (ab (.int 0))) (ae (kF aj) (ae (kF aj) aj)))) [3,4,5]) (al (m4 rB n9 jT) (Gp 1 (al (qu [none,none] m9 nt mW nK 6) (al (af (aW jE (c6 [none,none,some 1] nT nj nm nN)) (aw 7)) (al (m4 rj mV km) (bw (oTup (ae (aa 1) (ae (aa 3) (ae (iZ (aa 4)) (ae (iZ (aa 5)) (ae (av aI (ab ui) (pg b4 (ae (aa 0) (ae (ab (.int 5)) aj)))) aj)))))))))))))))
noncomputable def oQ:a9:=bn 1 20 [] ru
noncomputable def ph:AF:=(aw 1)
noncomputable def oY:TF:=ik
noncomputable def pu:EF:=(av br (th (cb (av aI (aa 1) (ab (.int 1)))) (ab (.str [37,120,32])) (ab (.str [37,115,32]))) (av aI (aa 1) (ab (.int 0))))
noncomputable def o8:IF:=(kx (d9 (aa 0) (eO (ab (.int 1))) pM))
noncomputable def lg:AF:=(mF (bN (aw 1) (bN (aw 2) mC)))
noncomputable def lu:TF:=ik
noncomputable def lG:EF:=(av br (av br (aa 1) (ab (.str [32]))) (aa 2))
noncomputable def lB:IF:=(pH (aa 2))
noncomputable def lz:AF:=(aw 1)
noncomputable def ld:TF:=ik
noncomputable def lp:EF:=(av aI (av aI (aa 2) (aa 1)) (ab (.int 0)))
noncomputable def lJ:IF:=(kx (aa 7))
noncomputable def lE:AF:=(aw 1)
noncomputable def lH:TF:=(aG vEq (av aI (av aI (aa 2) (aa 1)) (ab (.int 1))) (av (sz pN) (aa 1) (aa 3)))
noncomputable def lF:EF:=(aa 1)
noncomputable def lw:IF:=(gt (ae (aW cL (aa 0)) aj))
noncomputable def pb:AF:=(mF (bN (aw 1) (bN (aw 2) mC)))
noncomputable def pe:TF:=ik
noncomputable def jd:EF:=(th (aG uu (aa 2) (ab .none)) (aa 1) (av br (av br (aa 1) (ab (.str [32]))) (aW vStr (aa 2))))
noncomputable def pf:IF:=(pH (aa 8))
noncomputable def pa:AF:=(mF (bN (aw 7) (bN (aw 5) (bN (aw 8) mC))))
noncomputable def lA:SF:=(al (af (av br (av br (ab (.str [60])) (tf ka (ab (.str [44])) (ae (c6 [none,none,some 0] lJ lz ld lp) aj))) (ab (.str [62]))) (aw 9)) (al (cK (aG vEq (aW cL (aa 7)) (aW cL (aa 0))) (af (ab (.str [60,42,62])) (aw 9)) bj) (al (cK (aG vEq (c6 [none,none,some 0,some 7] lw lE lH lF) (oLst aj)) (af (th (kM (aG uR (aa 5) (ab .none)) (u9 (aG vEq (av aI (aa 5) (ab (.int 0))) (ab (.str [60]))) (aG vEq (d9 (aa 5) pM (eO (ab (.int 2)))) (ab (.str [47,47]))))) (aa 9) (ab (.str []))) (aw 9)) bj) (al (qu [none,none,none,none] pf pb pe jd 10) (cj (cu (aa 4) (av br (av br (av br (aa 9) (th (aG uu (aa 5) (ab .none)) (ab (.str [60,60,69,79,70,62,62])) (aa 5))) (ab (.str [32]))) (tf ka (ab (.str [59,32])) (ae (aa 10) aj)))))))))
noncomputable def po:IF:=(pH (aa 3))
noncomputable def sS:SF:=(al (af (av br (c6 [none,none] o8 ph oY pu) (th (cb (aa 1)) (oLst aj) (oLst (ae (ab (.str [37,111,112,116,105,111,110,32,110,111,100,101,102,97,117,108,116])) aj)))) (aw 4)) (al (af (Ew (av br (aa 4) (c6 [none,none,none] lB lg lu lG)) (oLst (ae (ab (.str [37,37])) aj))) (aw 4)) (al (af (aW cL (aa 4)) (aw 6)) (al (m4 po pa lA) (bw (oTup (ae (iZ (aa 4)) (ae (aa 6) aj))))))))
noncomputable def qh:a9:=bn 4 13 [] sS
noncomputable def fU:AF:=(aw 1)
noncomputable def fW:TF:=ik
noncomputable def gg:EF:=(aJ [(4,bc)] (aa 2) (ae (av aI (aa 1) (ab (.int 0))) aj))
noncomputable def gf:IF:=(kx (aa 1))
noncomputable def f0:AF:=(aw 1)
noncomputable def fV:TF:=(iF (cb (av aI (av aI (aa 2) (aa 1)) (ab (.int 1)))))
noncomputable def fN:EF:=(aa 1)
noncomputable def fT:IF:=(gt (ae (aW cL (aa 1)) aj))
noncomputable def mq:AF:=(mF (bN (aw 1) (bN (aw 2) mC)))
noncomputable def mm:TF:=(kM (aG pN (aa 3) (av aI (aa 2) (ab (.int 0)))) (aG uR (av aI (aa 2) (ab (.int 1))) (ab .none)))
noncomputable def mn:EF:=(aa 1)
noncomputable def mx:IF:=(u4 (ae (aa 2) aj))
noncomputable def mu:AF:=(mF (bN (aw 1) (bN (aw 2) mC)))
noncomputable def mr:TF:=(kM (aG pN (aa 3) (av aI (aa 2) (ab (.int 0)))) (aG uu (av aI (aa 2) (ab (.int 1))) (ab .none)))
noncomputable def mt:EF:=(aa 1)
noncomputable def ml:IF:=(u4 (ae (aa 2) aj))
noncomputable def mw:AF:=(aw 1)
noncomputable def mi:TF:=ik
noncomputable def mj:EF:=(aW (am m0) (aa 1))
noncomputable def mv:IF:=(kx (aJ [(4,dR)] (aa 0) (ae (aa 3) aj)))
noncomputable def iV:AF:=(aw 3)
noncomputable def d6:SF:=(al (qu [none,none,none,some 3] mx mq mm mn 5) (al (qu [none,none,none,some 3] ml mu mr mt 6) (al (af (aJ [(4,eF)] (aa 0) (ae (aa 3) aj)) (aw 7)) (cK (u9 (aG mK (c6 [none,none] mv mw mi mj) (aa 5)) (aG mK (th (aG uu (aa 7) (ab .none)) (aW yG (ab (.int 1))) (aW (am m0) (aa 7))) (av aI (av br (aa 6) (oLst (ae (aW yG (ab (.int 1))) aj))) (ab (.int 0))))) (bw (ab (.bool false))) bj))))
noncomputable def iX:IF:=(gt (ae (aW cL (aa 1)) aj))
noncomputable def f8:AF:=(mF (bN (aw 1) (bN (aw 2) mC)))
noncomputable def gh:TF:=ik
noncomputable def fO:EF:=(aa 1)
noncomputable def f7:IF:=(pH (av aI (aa 4) (ab (.int 2))))
noncomputable def fQ:AF:=(aw 1)
noncomputable def fR:TF:=(aG mK (aJ [(2,eQ)] (aa 2) (ae (aa 1) aj)) (av (sz pN) (aa 1) (aa 3)))
noncomputable def fZ:EF:=(aa 1)
noncomputable def fM:IF:=(kx (ab qb))
noncomputable def ge:AF:=(mF (bN (aw 1) (bN (aw 2) mC)))
noncomputable def fX:TF:=(aG vEq (aa 1) (ab (.str [114,101,116,117,114,110])))
noncomputable def gc:EF:=(aa 2)
noncomputable def fY:IF:=(pH (av aI (aa 4) (ab (.int 2))))
noncomputable def iM:AF:=(mF (bN (aw 1) (bN (aw 2) mC)))
noncomputable def iO:TF:=(aG pN (aa 1) (oTup (ae (ab (.str [98,101,103,105,110])) (ae (ab (.str [112,117,115,104])) aj))))
noncomputable def iJ:EF:=(aa 2)
noncomputable def iv:IF:=(pH (av aI (aa 4) (ab (.int 2))))
noncomputable def fk:AF:=(aw 1)
noncomputable def fb:TF:=(aG mK (aJ [(2,cY)] (aa 3) (ae (aa 1) aj)) (av (sz pN) (aa 1) (av aI (aa 2) (ab (.int 0)))))
noncomputable def fh:EF:=(aa 1)
noncomputable def fj:IF:=(gt (ae (aW cL (aa 1)) aj))
noncomputable def iu:AF:=(mF (bN (aw 8) (bN (aw 4) mC)))
noncomputable def dK:SF:=(al (af (c6 [none,none,none] f7 f8 gh fO) (aw 9)) (al (cK (u9 (aG mK (c6 [none,none,some 8,some 9] fM fQ fR fZ) (oLst aj)) (aG mK (aJ [(2,dz)] (aa 8) aj) (av (sz uu) (av aI (aa 4) (ab (.int 1))) (ab .none)))) (bw (ab (.bool false))) bj) (al (cK (aG mK (aJ [(2,gk)] (aa 8) aj) (av aI (av br (c6 [none,none,none] fY ge fX gc) (oLst (ae (ab .none) aj))) (ab (.int 0)))) (bw (ab (.bool false))) bj) (al (cK (aG mK (aJ [(2,gO)] (aa 8) aj) (c6 [none,none,none] iv iM iO iJ)) (bw (ab (.bool false))) bj) (cK (aG mK (c6 [none,none,some 4,some 8] fj fk fb fh) (oLst aj)) (bw (ab (.bool false))) bj)))))
noncomputable def im:IF:=(Ks (ae (aW (am lI) (aa 0)) (ae (aa 2) aj)))
noncomputable def kU:SF:=(al (cK (u9 (aG mK (c6 [none,none,some 0] gf fU fW gg) (kZ (ae (aW cL (aa 1)) aj))) (aG mK (aJ [(4,bc)] (aa 0) (ae (ab (.str [110,111,110,101])) aj)) (aW yG (ab (.int 1))))) (bw (ab (.bool false))) bj) (al (cK (aG mK (aJ [(4,bm)] (aa 0) aj) (aW jE (c6 [none,none,some 1] fT f0 fV fN))) (bw (ab (.bool false))) bj) (al (m4 iX iV d6) (al (m4 im iu dK) (bw (av (sz vEq) (aW cL (aW (am lI) (aa 0))) (aW cL (aa 2))))))))
noncomputable def gu:a9:=bn 3 17 [] kU
noncomputable def wZ:AF:=(aw 1)
noncomputable def yg:TF:=ik
noncomputable def xT:EF:=(aW vInt (aa 1))
noncomputable def ub:IF:=(kx (d9 (aa 0) pM (eO (ab (.int 60)))))
noncomputable def wO:AF:=(mF (bN (aw 1) (bN (aw 2) mC)))
noncomputable def wJ:TF:=ik
noncomputable def tB:EF:=(iZ (oq 1 cf (ae (aa 1) (ae (aa 2) aj))))
noncomputable def x6:IF:=(pH (av aI (aa 9) (ab (.int 2))))
noncomputable def wA:AF:=(mF (bN (aw 8) (bN (aw 9) mC)))
noncomputable def qM:SF:=(al (qu [none,none,none,none] x6 wO wJ tB 10) (cj (cu (aa 7) (iZ (oq 2 gr (ae (aa 8) (ae (av aI (aa 9) (ab (.int 0))) (ae (th (aG uu (av aI (aa 9) (ab (.int 1))) (ab .none)) (ab .none) (iZ (oq 3 cz (ae (av aI (aa 9) (ab (.int 1))) aj)))) (ae (aa 10) (ae (ab (.int 0)) aj))))))))))
noncomputable def B9:IF:=(u4 (ae (aa 5) aj))
noncomputable def xA:AF:=(mF (bN (aw 1) (bN (aw 2) mC)))
noncomputable def wY:TF:=ik
noncomputable def tD:EF:=(oTup (ae (aa 1) (ae (iZ (oq 3 cz (ae (aa 2) aj))) aj)))
noncomputable def xh:IF:=(pH (aa 4))
noncomputable def yn:AF:=(aw 1)
noncomputable def xv:TF:=ik
noncomputable def wp:EF:=(aW (am DI) (aa 1))
noncomputable def ur:IF:=(kx (aW (am lI) (aa 16)))
noncomputable def xW:AF:=(aw 1)
noncomputable def wz:TF:=ik
noncomputable def yc:EF:=(av br (av br (aa 2) (ab (.int 1))) (aa 1))
noncomputable def wx:IF:=(gt (ae (aW cL (aa 5)) aj))
noncomputable def Ht:SF:=(al (qu [none,none,none] ub wZ yg xT 1) (al (af (pg oQ (ae (kF (ae (th (cb (aa 1)) (aa 1) (oLst (ae (ab (.int 0)) aj))) (ae (ab (.int 0)) aj))) aj)) (mF (bN (aw 2) (bN (aw 3) (bN (aw 4) (bN (aw 5) (bN (aw 6) mC))))))) (al (af (kF aj) (aw 7)) (al (m4 B9 wA qM) (al (af (aW tM (c6 [none,none,none,none] xh xA wY tD)) (aw 11)) (al (af (iZ (oq 4 gj (ae (aa 11) (ae (aW GQ (aa 2)) (ae (iZ (aa 7)) (ae (aa 3) (ae (aa 6) aj))))))) (aw 12)) (al (af (pg qh (ae (aa 2) (ae (aa 3) (ae (aa 4) (ae (aa 5) aj))))) (mF (bN (aw 13) (bN (aw 14) mC)))) (al (af (av br (av br (tf ka (ab (.str [10])) (ae (aa 13) aj)) (ab (.str [10]))) (th (aG vEq (aa 6) (ab (.str []))) (ab (.str [])) (av br (ab (.str [37,37,10])) (aa 6)))) (aw 15)) (al (cK (u9 (aG mK (pg iP (ae (aa 12) aj)) (aa 15)) (iF (cb (pg gu (ae (aa 12) (ae (aa 2) (ae (aa 5) aj))))))) (bw (ab (.bool false))) bj) (al (af (pg iK (ae (aa 15) aj)) (aw 16)) (al (cK (u9 (aG mK (aJ [(4,gq)] (aa 16) aj) (aJ [(4,gq)] (aa 12) aj)) (u9 (aG mK (pg iP (ae (aa 16) aj)) (aa 15)) (iF (cb (pg gu (ae (aa 16) (ae (aa 2) (ae (aa 5) aj)))))))) (bw (ab (.bool false))) bj) (al (cK (aG mK (c6 [none,none] ur yn xv wp) (c6 [none,none,some 14] wx xW wz yc)) (bw (ab (.bool false))) bj) (bw (av (sz vEq) (oTup (ae (aW (am cH) (aa 16)) (ae (aW (am ma) (aa 16)) aj))) (oTup (ae (aa 3) (ae (aa 6) aj)))))))))))))))))
noncomputable def Gb:a9:=bn 1 30 [] Ht
end Mine
end
section
open PySem PySem.W PyProof.Rows PySem.Calls PySem.SeqAt
namespace Mine
section
variable {U:fL}
theorem vv (c:Fc U):pK U 0 ⟨222,["text","at"]⟩:=uV c rfl (by kernel_rfl) (by kernel_rfl) (by kernel_rfl) (by kernel_rfl) (by kernel_rfl) (by kernel_rfl) (by kernel_rfl) (by decide) (by decide)
theorem Gd (c:Fc U):pK U 1 ⟨280,["word","worth"]⟩:=uV c rfl (by kernel_rfl) (by kernel_rfl) (by kernel_rfl) (by kernel_rfl) (by kernel_rfl) (by kernel_rfl) (by kernel_rfl) (by decide) (by decide)
theorem vS (c:Fc U):pK U 2 ⟨339,["number","conditions","pattern","steps","line"]⟩:=uV c rfl (by kernel_rfl) (by kernel_rfl) (by kernel_rfl) (by kernel_rfl) (by kernel_rfl) (by kernel_rfl) (by kernel_rfl) (by decide) (by decide)
theorem J2 (c:Fc U):pK U 3 ⟨367,["text"]⟩:=uV c rfl (by kernel_rfl) (by kernel_rfl) (by kernel_rfl) (by kernel_rfl) (by kernel_rfl) (by kernel_rfl) (by kernel_rfl) (by decide) (by decide)
theorem xJ (c:Fc U):pK U 4 ⟨418,["definitions","conditions","rules","has_default","tail"]⟩:=uV c rfl (by kernel_rfl) (by kernel_rfl) (by kernel_rfl) (by kernel_rfl) (by kernel_rfl) (by kernel_rfl) (by kernel_rfl) (by decide) (by decide)
theorem pp (c:Fc U):pK U 5 ⟨568,["text","lines","row","definitions","conditions","has_default","drafts","scopes","tail"]⟩:=uV c rfl (by kernel_rfl) (by kernel_rfl) (by kernel_rfl) (by kernel_rfl) (by kernel_rfl) (by kernel_rfl) (by kernel_rfl) (by decide) (by decide)
theorem cg (c:Fc U):gP U (PySem.Str.ofString "text") dw:=(d7 (vv c) (by kernel_rfl) (d7 (J2 c) (by kernel_rfl) (d7 (pp c) (by kernel_rfl) ir)))
theorem dQ (c:Fc U):gP U (PySem.Str.ofString "at") jA:=(d7 (vv c) (by kernel_rfl) ir)
theorem ja (c:Fc U):gP U (PySem.Str.ofString "word") mT:=(d7 (Gd c) (by kernel_rfl) ir)
theorem mR (c:Fc U):gP U (PySem.Str.ofString "worth") qp:=(d7 (Gd c) (by kernel_rfl) ir)
theorem pW (c:Fc U):gP U (PySem.Str.ofString "number") m0:=(d7 (vS c) (by kernel_rfl) ir)
theorem aZ (c:Fc U):gP U (PySem.Str.ofString "conditions") aP:=(d7 (vS c) (by kernel_rfl) (d7 (xJ c) (by kernel_rfl) (d7 (pp c) (by kernel_rfl) ir)))
theorem iG (c:Fc U):gP U (PySem.Str.ofString "pattern") gU:=(d7 (vS c) (by kernel_rfl) ir)
theorem mP (c:Fc U):gP U (PySem.Str.ofString "steps") oD:=(d7 (vS c) (by kernel_rfl) ir)
theorem Bi (c:Fc U):gP U (PySem.Str.ofString "line") DI:=(d7 (vS c) (by kernel_rfl) ir)
theorem ck (c:Fc U):gP U (PySem.Str.ofString "definitions") cI:=(d7 (xJ c) (by kernel_rfl) (d7 (pp c) (by kernel_rfl) ir))
theorem iQ (c:Fc U):gP U (PySem.Str.ofString "rules") lI:=(d7 (xJ c) (by kernel_rfl) ir)
theorem dZ (c:Fc U):gP U (PySem.Str.ofString "has_default") cH:=(d7 (xJ c) (by kernel_rfl) (d7 (pp c) (by kernel_rfl) ir))
theorem tab_tail (c:Fc U):gP U (PySem.Str.ofString "tail") ma:=(d7 (xJ c) (by kernel_rfl) (d7 (pp c) (by kernel_rfl) ir))
theorem pA (c:Fc U):gP U (PySem.Str.ofString "lines") oU:=(d7 (pp c) (by kernel_rfl) ir)
theorem oy (c:Fc U):gP U (PySem.Str.ofString "row") pJ:=(d7 (pp c) (by kernel_rfl) ir)
theorem pV (c:Fc U):gP U (PySem.Str.ofString "drafts") mZ:=(d7 (pp c) (by kernel_rfl) ir)
theorem nh (c:Fc U):gP U (PySem.Str.ofString "scopes") lR:=(d7 (pp c) (by kernel_rfl) ir)
theorem boot_dict (c:Fc U):Boot U (PySem.Str.ofString "dict") (.type "dict"):=jg c (.inr ⟨_,rfl⟩)
theorem boot_enumerate (c:Fc U):Boot U (PySem.Str.ofString "enumerate") (.type "enumerate"):=jg c (.inr ⟨_,rfl⟩)
theorem boot_int (c:Fc U):Boot U (PySem.Str.ofString "int") (.type "int"):=jg c (.inr ⟨_,rfl⟩)
theorem boot_len (c:Fc U):Boot U (PySem.Str.ofString "len") (.builtin "len"):=jg c (.inl ⟨_,rfl⟩)
theorem boot_list (c:Fc U):Boot U (PySem.Str.ofString "list") (.type "list"):=jg c (.inr ⟨_,rfl⟩)
theorem boot_ord (c:Fc U):Boot U (PySem.Str.ofString "ord") (.builtin "ord"):=jg c (.inl ⟨_,rfl⟩)
theorem boot_range (c:Fc U):Boot U (PySem.Str.ofString "range") (.type "range"):=jg c (.inr ⟨_,rfl⟩)
theorem boot_set (c:Fc U):Boot U (PySem.Str.ofString "set") (.type "set"):=jg c (.inr ⟨_,rfl⟩)
theorem boot_sorted (c:Fc U):Boot U (PySem.Str.ofString "sorted") (.builtin "sorted"):=jg c (.inl ⟨_,rfl⟩)
theorem boot_str (c:Fc U):Boot U (PySem.Str.ofString "str") (.type "str"):=jg c (.inr ⟨_,rfl⟩)
theorem boot_tuple (c:Fc U):Boot U (PySem.Str.ofString "tuple") (.type "tuple"):=jg c (.inr ⟨_,rfl⟩)
theorem boot_zip (c:Fc U):Boot U (PySem.Str.ofString "zip") (.type "zip"):=jg c (.inr ⟨_,rfl⟩)
theorem cO (c:Fc U):iT U (PySem.Str.ofString "_law_draw") (.ref 618):=cM c
theorem oz (c:Fc U):iT U (PySem.Str.ofString "_law_file_right") (.ref 640):=cM c
theorem Av (c:Fc U):iT U (PySem.Str.ofString "_law_parts") (.ref 630):=cM c
theorem Br (c:Fc U):iT U (PySem.Str.ofString "_law_rows") (.ref 635):=cM c
theorem AO (c:Fc U):iT U (PySem.Str.ofString "_law_steps") (.ref 625):=cM c
theorem Am (c:Fc U):iT U (PySem.Str.ofString "class_end") (.ref 457):=cM c
theorem Df (c:Fc U):iT U (PySem.Str.ofString "escaped") (.ref 245):=cM c
theorem vI (c:Fc U):iT U (PySem.Str.ofString "escaped_sign") (.ref 240):=cM c
theorem qX (c:Fc U):iT U (PySem.Str.ofString "is_left_out") (.ref 443):=cM c
theorem BZ (c:Fc U):iT U (PySem.Str.ofString "lines_of") (.ref 436):=cM c
theorem AW (c:Fc U):iT U (PySem.Str.ofString "quote_end") (.ref 450):=cM c
theorem zo (c:Fc U):iT U (PySem.Str.ofString "raw_at") (.ref 464):=cM c
theorem vo (c:Fc U):iT U (PySem.Str.ofString "read_outline") (.ref 579):=cM c
theorem sN (c:Fc U):iT U (PySem.Str.ofString "show_conditions") (.ref 589):=cM c
theorem qw (c:Fc U):iT U (PySem.Str.ofString "show_outline") (.ref 608):=cM c
theorem z9 (c:Fc U):iT U (PySem.Str.ofString "show_rows") (.ref 603):=cM c
theorem AA (c:Fc U):iT U (PySem.Str.ofString "show_rule") (.ref 596):=cM c
theorem yP (c:Fc U):iT U (PySem.Str.ofString "show_steps") (.ref 584):=cM c
theorem CM (c:Fc U):iT U (PySem.Str.ofString "step_at") (.ref 471):=cM c
theorem Bs (c:Fc U):iT U (PySem.Str.ofString "steps_at") (.ref 478):=cM c
theorem pC (c:Fc U):jP U (PySem.Str.ofString "BLANKS") jH:=nF (l:=[32,9]) c (by kernel_rfl) (by decide)
theorem rN (c:Fc U):jP U (PySem.Str.ofString "END_WORD") il:=nF (l:=[60,60,69,79,70,62,62]) c (by kernel_rfl) (by decide)
theorem wH (c:Fc U):jP U (PySem.Str.ofString "FIGURES") uv:=nF (l:=[48,49,50,51,52,53,54,55,56,57]) c (by kernel_rfl) (by decide)
theorem sZ (c:Fc U):jP U (PySem.Str.ofString "FIRST_CONDITION") oA:=nF (l:=[73,78,73,84,73,65,76]) c (by kernel_rfl) (by decide)
theorem yN (c:Fc U):jP U (PySem.Str.ofString "LAST_STEPS") pU:=rR (a:=247) c (by kernel_rfl) (by kernel_rfl) (by kernel_rfl) (by decide) (by decide)
theorem v7 (c:Fc U):jP U (PySem.Str.ofString "MARK") nV:=nF (l:=[37,37]) c (by kernel_rfl) (by decide)
theorem py (c:Fc U):jP U (PySem.Str.ofString "MOST_FIGURES_lexfile") jR:=Gw (i:=6) c ⟨_,rfl⟩
theorem sC (c:Fc U):jP U (PySem.Str.ofString "NAME_SIGNS") pP:=nF (l:=[97,98,99,100,101,102,103,104,105,106,107,108,109,110,111,112,113,114,115,116,117,118,119,120,121,122,65,66,67,68,69,70,71,72,73,74,75,76,77,78,79,80,81,82,83,84,85,86,87,88,89,90,95,48,49,50,51,52,53,54,55,56,57]) c (by kernel_rfl) (by decide)
theorem yy (c:Fc U):jP U (PySem.Str.ofString "NOT_AT_END") pZ:=rR (a:=248) c (by kernel_rfl) (by kernel_rfl) (by kernel_rfl) (by decide) (by decide)
theorem zv (c:Fc U):jP U (PySem.Str.ofString "REMARK") us:=nF (l:=[47,47]) c (by kernel_rfl) (by decide)
theorem re (c:Fc U):jP U (PySem.Str.ofString "STEP_WORTHS") cF:=Fg (a:=246) (n:=9) (l:=[(PySem.Str.ofString "return",539,PySem.Str.ofString "kind",540),(PySem.Str.ofString "skip",541,PySem.Str.ofString "",542),(PySem.Str.ofString "begin",543,PySem.Str.ofString "condition",544),(PySem.Str.ofString "push",545,PySem.Str.ofString "condition",546),(PySem.Str.ofString "pop",547,PySem.Str.ofString "",548),(PySem.Str.ofString "more",549,PySem.Str.ofString "",550),(PySem.Str.ofString "less",551,PySem.Str.ofString "number",552),(PySem.Str.ofString "reject",553,PySem.Str.ofString "",554),(PySem.Str.ofString "echo",555,PySem.Str.ofString "",556)]) c (by kernel_rfl) (by decide) (by kernel_rfl) (by decide) (by decide) (by decide) (by kernel_rfl)
theorem to (c:Fc U):jP U (PySem.Str.ofString "_law_RAWS") rh:=rR (a:=609) c (by kernel_rfl) (by kernel_rfl) (by kernel_rfl) (by decide) (by decide)
theorem yt (c:Fc U):jP U (PySem.Str.ofString "_law_TAILS") ui:=rR (a:=610) c (by kernel_rfl) (by kernel_rfl) (by kernel_rfl) (by decide) (by decide)
theorem sA (c:Fc U):jP U (PySem.Str.ofString "_law_WORDS") qb:=rR (a:=611) c (by kernel_rfl) (by kernel_rfl) (by kernel_rfl) (by decide) (by decide)
end
end Mine
end
section
open PySem PySem.W PyProof.Rows PySem.Calls PySem.SeqAt
namespace Mine
section
variable {U:fL}
theorem yl (c:Fc U):ci U 112 (fS (cd 14 0)) (fB (cd 14 0)) (bU (cd 14 0) 3) [.int 0]:=
  Bh c (by kernel_rfl) (by kernel_rfl) (by kernel_rfl) (fun vals h1 h2=>match vals,h1,h2 with
    | [a0,a1],_,_=>⟨[(CQ U.w.params 112).getD 0 .none],by kernel_rfl,fun S=>by kernel_rfl,fun ρ R H h g => .cons (.int _ _) (.nil)⟩
    | [a0,a1,a2],_,_=>⟨[],by kernel_rfl,fun S=>by kernel_rfl,fun ρ R H h g => .nil⟩
    | [],h,_=>absurd h (by simp)
    | [a0],h,_=>absurd h (by simp)
    | _::_::_::_::_,_,h=>absurd h (by simp))
theorem yT (c:Fc U):aK U 0 (fS (cd 14 0)) (fB (cd 14 0)) o7:=
  (S.cons (X.a7 (E.ad 1) (A.attr (E.ad 0) (cg c)) rfl) (S.one (X.a7 (E.ad 2) (A.attr (E.ad 0) (dQ c)) rfl)))
theorem yV (c:Fc U):aO U 1 (.ref 112) fI:=call_of (yl c) (yT c)
theorem CJ (c:Fc U) {n:Nat} (h:1≤n):vd U n (PySem.Str.ofString "Cursor") 0 fI:=uI c (vv c) (by kernel_rfl) (by kernel_rfl) (by kernel_rfl) (by kernel_rfl) (yV c) h
theorem tA (c:Fc U):ci U 119 (fS (cd 14 1)) (fB (cd 14 1)) (bU (cd 14 1) 1) []:=
  gM c
theorem ux (c:Fc U):aK U 0 (fS (cd 14 1)) (fB (cd 14 1)) kW:=
  (S.one (X.ret (E.cmp (E.attr (E.ad 0) (dQ c) (fun _=>rfl)) (E.bG (i:=1) (by kernel_rfl) (boot_len c) (E.attr (E.ad 0) (cg c) (fun _=>rfl)) gp) LM)))
theorem uT (c:Fc U):aO U 1 (.ref 119) bq:=call_of (tA c) (ux c)
theorem dx (c:Fc U) {n:Nat} (h:1≤n):∀ p∈[(0,bq)],bS U n (PySem.Str.ofString "is_done") p.1 p.2:=bF c (vv c) (by decide) (by kernel_rfl) (by kernel_rfl) (by kernel_rfl) (uT c) h
theorem w6 (c:Fc U):ci U 127 (fS (cd 14 2)) (fB (cd 14 2)) (bU (cd 14 2) 2) [.int 0]:=
  Bh c (by kernel_rfl) (by kernel_rfl) (by kernel_rfl) (fun vals h1 h2=>match vals,h1,h2 with
    | [a0],_,_=>⟨[(CQ U.w.params 127).getD 0 .none],by kernel_rfl,fun S=>by kernel_rfl,fun ρ R H h g => .cons (.int _ _) (.nil)⟩
    | [a0,a1],_,_=>⟨[],by kernel_rfl,fun S=>by kernel_rfl,fun ρ R H h g => .nil⟩
    | [],h,_=>absurd h (by simp)
    | _::_::_::_,_,h=>absurd h (by simp))
theorem yL (c:Fc U):aK U 0 (fS (cd 14 2)) (fB (cd 14 2)) pv:=
  (S.cons (X.a7 (E.bin (E.attr (E.ad 0) (dQ c) (fun _=>rfl)) (E.ad 1) dm) (A.loc 2) rfl) (S.cons (X.if (T.cmp (E.ad 2) (E.bG (i:=3) (by kernel_rfl) (boot_len c) (E.attr (E.ad 0) (cg c) (fun _=>rfl)) gp) FY) (S.one (X.ret (E.item (E.attr (E.ad 0) (cg c) (fun _=>rfl)) (E.ad 2)))) S.nil) (S.one (X.ret E.aX))))
theorem yD (c:Fc U):aO U 1 (.ref 127) dG:=call_of (w6 c) (yL c)
theorem i5 (c:Fc U) {n:Nat} (h:1≤n):∀ p∈[(0,dG)],bS U n (PySem.Str.ofString "peek") p.1 p.2:=bF c (vv c) (by decide) (by kernel_rfl) (by kernel_rfl) (by kernel_rfl) (yD c) h
theorem uY (c:Fc U):ci U 134 (fS (cd 14 3)) (fB (cd 14 3)) (bU (cd 14 3) 2) []:=
  hY c
theorem vU (c:Fc U):aK U 0 (fS (cd 14 3)) (fB (cd 14 3)) mf:=
  (S.one (X.ret (E.cmp (E.slice (E.attr (E.ad 0) (cg c) (fun _=>rfl)) (P.some (E.attr (E.ad 0) (dQ c) (fun _=>rfl))) (P.some (E.bin (E.attr (E.ad 0) (dQ c) (fun _=>rfl)) (E.bG (i:=2) (by kernel_rfl) (boot_len c) (E.ad 1) gp) dm))) (E.ad 1) sEq)))
theorem vk (c:Fc U):aO U 1 (.ref 134) dc:=call_of (uY c) (vU c)
theorem qz (c:Fc U) {n:Nat} (h:1≤n):∀ p∈[(0,dc)],bS U n (PySem.Str.ofString "starts") p.1 p.2:=bF c (vv c) (by decide) (by kernel_rfl) (by kernel_rfl) (by kernel_rfl) (vk c) h
theorem w9 (c:Fc U):ci U 141 (fS (cd 14 4)) (fB (cd 14 4)) (bU (cd 14 4) 1) []:=
  gM c
theorem yu (c:Fc U):aK U 1 (fS (cd 14 4)) (fB (cd 14 4)) pc:=
  (S.cons (X.if (T.val (E.b8 (fun _=>⟨_,rfl⟩) (dx c (by decide)) (E.ad 0))) (S.one (X.ret E.aX)) S.nil) (S.cons (X.a7 (E.item (E.attr (E.ad 0) (cg c) (fun _=>rfl)) (E.attr (E.ad 0) (dQ c) (fun _=>rfl))) (A.loc 1) rfl) (S.cons (X.a7 (E.bin (E.attr (E.ad 0) (dQ c) (fun _=>rfl)) E.bp dm) (A.attr (E.ad 0) (dQ c)) rfl) (S.one (X.ret (E.ad 1))))))
theorem yE (c:Fc U):aO U 2 (.ref 141) ek:=call_of (w9 c) (yu c)
theorem sy (c:Fc U) {n:Nat} (h:2≤n):∀ p∈[(0,ek)],bS U n (PySem.Str.ofString "take") p.1 p.2:=bF c (vv c) (by decide) (by kernel_rfl) (by kernel_rfl) (by kernel_rfl) (yE c) h
theorem yd (c:Fc U):ci U 148 (fS (cd 14 5)) (fB (cd 14 5)) (bU (cd 14 5) 2) []:=
  hY c
theorem yA (c:Fc U):aK U 1 (fS (cd 14 5)) (fB (cd 14 5)) lD:=
  (S.cons (X.if (T.not (T.val (E.kA (fun _=>⟨_,rfl⟩) (qz c (by decide)) (E.ad 0) (L.c1 (E.ad 1) L.n0)))) (S.one (X.ret E.io)) S.nil) (S.cons (X.a7 (E.bin (E.attr (E.ad 0) (dQ c) (fun _=>rfl)) (E.bG (i:=2) (by kernel_rfl) (boot_len c) (E.ad 1) gp) dm) (A.attr (E.ad 0) (dQ c)) rfl) (S.one (X.ret E.io))))
theorem yJ (c:Fc U):aO U 2 (.ref 148) ba:=call_of (yd c) (yA c)
theorem eh (c:Fc U) {n:Nat} (h:2≤n):∀ p∈[(0,ba)],bS U n (PySem.Str.ofString "skip") p.1 p.2:=bF c (vv c) (by decide) (by kernel_rfl) (by kernel_rfl) (by kernel_rfl) (yJ c) h
theorem rA (c:Fc U):ci U 155 (fS (cd 14 6)) (fB (cd 14 6)) (bU (cd 14 6) 2) []:=
  hY c
theorem sr (c:Fc U):aK U 0 (fS (cd 14 6)) (fB (cd 14 6)) iU:=
  (S.cons (X.a7 (E.attr (E.ad 0) (dQ c) (fun _=>rfl)) (A.loc 2) rfl) (S.cons (X.qJ (ft:=cn) (f:=cR) (T.bool (T.qB (T.cmp (E.attr (E.ad 0) (dQ c) (fun _=>rfl)) (E.bG (i:=3) (by kernel_rfl) (boot_len c) (E.attr (E.ad 0) (cg c) (fun _=>rfl)) gp) FY) (T.last (T.cmp (E.item (E.attr (E.ad 0) (cg c) (fun _=>rfl)) (E.attr (E.ad 0) (dQ c) (fun _=>rfl))) (E.ad 1) A2)))) (S.one (X.a7 (E.bin (E.attr (E.ad 0) (dQ c) (fun _=>rfl)) E.bp dm) (A.attr (E.ad 0) (dQ c)) rfl))) (S.one (X.ret (E.slice (E.attr (E.ad 0) (cg c) (fun _=>rfl)) (P.some (E.ad 2)) (P.some (E.attr (E.ad 0) (dQ c) (fun _=>rfl))))))))
theorem sv (c:Fc U):aO U 1 (.ref 155) cx:=call_of (rA c) (sr c)
theorem i4 (c:Fc U) {n:Nat} (h:1≤n):∀ p∈[(0,cx)],bS U n (PySem.Str.ofString "take_while") p.1 p.2:=bF c (vv c) (by decide) (by kernel_rfl) (by kernel_rfl) (by kernel_rfl) (sv c) h
theorem qF (c:Fc U):ci U 170 (fS (cd 14 8)) (fB (cd 14 8)) (bU (cd 14 8) 2) [.str [32,9]]:=
  Bh c (by kernel_rfl) (by kernel_rfl) (by kernel_rfl) (fun vals h1 h2=>match vals,h1,h2 with
    | [a0],_,_=>⟨[(CQ U.w.params 170).getD 0 .none],by kernel_rfl,fun S=>by kernel_rfl,fun ρ R H h g => .cons (JJ ⟨_,rfl⟩ (by decide)) (.nil)⟩
    | [a0,a1],_,_=>⟨[],by kernel_rfl,fun S=>by kernel_rfl,fun ρ R H h g => .nil⟩
    | [],h,_=>absurd h (by simp)
    | _::_::_::_,_,h=>absurd h (by simp))
theorem rL (c:Fc U):aK U 1 (fS (cd 14 8)) (fB (cd 14 8)) iE:=
  (S.one (X.dN (E.kA (fun _=>⟨_,rfl⟩) (i4 c (by decide)) (E.ad 0) (L.c1 (E.ad 1) L.n0))))
theorem qQ (c:Fc U):aO U 2 (.ref 170) aB:=call_of (qF c) (rL c)
theorem bO (c:Fc U) {n:Nat} (h:2≤n):∀ p∈[(0,aB)],bS U n (PySem.Str.ofString "skip_blanks") p.1 p.2:=bF c (vv c) (by decide) (by kernel_rfl) (by kernel_rfl) (by kernel_rfl) (qQ c) h
theorem xF (c:Fc U):ci U 177 (fS (cd 14 9)) (fB (cd 14 9)) (bU (cd 14 9) 1) []:=
  gM c
theorem yH (c:Fc U):aK U 1 (fS (cd 14 9)) (fB (cd 14 9)) o6:=
  (S.cons (X.a7 (E.b8 (fun _=>⟨_,rfl⟩) (i5 c (by decide)) (E.ad 0)) (A.loc 1) rfl) (S.cons (X.if (T.bool (T.CL (T.cmp (E.ad 1) E.aX sEq) (T.CL (T.cmp (E.ad 1) (E.glob (i:=2) (by kernel_rfl) (sC c)) p9) (T.last (T.cmp (E.ad 1) (E.glob (i:=3) (by kernel_rfl) (wH c)) A2))))) (S.one (X.ret E.aX)) S.nil) (S.one (X.ret (E.kA (fun _=>⟨_,rfl⟩) (i4 c (by decide)) (E.ad 0) (L.c1 (E.glob (i:=2) (by kernel_rfl) (sC c)) L.n0))))))
theorem yv (c:Fc U):aO U 2 (.ref 177) bM:=call_of (xF c) (yH c)
theorem gV (c:Fc U) {n:Nat} (h:2≤n):∀ p∈[(0,bM)],bS U n (PySem.Str.ofString "name") p.1 p.2:=bF c (vv c) (by decide) (by kernel_rfl) (by kernel_rfl) (by kernel_rfl) (yv c) h
theorem uF (c:Fc U):ci U 219 (fS (cd 14 15)) (fB (cd 14 15)) (bU (cd 14 15) 2) []:=
  hY c
theorem vJ (c:Fc U):aK U 2 (fS (cd 14 15)) (fB (cd 14 15)) mh:=
  (S.cons (X.a7 (E.ti L.n0) (A.loc 2) rfl) (S.cons (X.qJ (ft:=oh) (f:=dB) (T.not (T.val (E.b8 (fun _=>⟨_,rfl⟩) (dx c (by decide)) (E.ad 0)))) (S.cons (X.a7 (E.b8 (fun _=>⟨_,rfl⟩) (sy c (by decide)) (E.ad 0)) (A.loc 3) rfl) (S.cons (X.if (T.cmp (E.ad 3) (E.ad 1) sEq) (S.one (X.ret (E.ms (fun _=>⟨_,rfl⟩) rk E.aX (L.c1 (E.ad 2) L.n0) (fun _=>rfl)))) S.nil) (S.cons (X.if (T.cmp (E.ad 3) E.aX sEq) S.stop S.nil) (S.one (X.dN (E.append (fun _=>⟨_,rfl⟩) (E.ad 2) (E.ad 3)))))))) (S.one (X.ret E.fK))))
theorem vN (c:Fc U):aO U 3 (.ref 219) gQ:=call_of (uF c) (vJ c)
theorem vQ (c:Fc U) {n:Nat} (h:3≤n):∀ p∈[(0,gQ)],bS U n (PySem.Str.ofString "quoted") p.1 p.2:=bF c (vv c) (by decide) (by kernel_rfl) (by kernel_rfl) (by kernel_rfl) (vN c) h
theorem vA (c:Fc U):ci U 240 (fS (sd 16)) (fB (sd 16)) (bU (sd 16) 2) []:=
  hY c
theorem wU (c:Fc U):aK U 0 (fS (sd 16)) (fB (sd 16)) rJ:=
  (S.cons (X.if (T.cmp (E.ad 0) E.aX sEq) (S.one (X.ret E.aX)) S.nil) (S.cons (X.if (T.cmp (E.ad 0) E.aX sEq) (S.one (X.ret E.aX)) S.nil) (S.cons (X.if (T.bool (T.CL (T.cmp (E.ad 0) (E.ad 1) A2) (T.last (T.cmp (E.ad 0) E.aX sEq)))) (S.one (X.ret (E.bin E.aX (E.ad 0) dm))) S.nil) (S.cons (X.a7 (E.bG (i:=3) (by kernel_rfl) (boot_ord c) (E.ad 0) Lz) (A.loc 2) rfl) (S.cons (X.if (T.bool (T.qB (T.bool (T.CL (T.cmp (E.ad 2) E.bp FY) (T.last (T.cmp (E.ad 2) E.bp Lp)))) (T.last (T.cmp (E.ad 2) E.bp FY)))) (S.one X.stop) S.nil) (S.one (X.ret (E.ad 0))))))))
theorem wq (c:Fc U):aO U 1 (.ref 240) rC:=call_of (vA c) (wU c)
theorem C3 (c:Fc U):ci U 245 (fS (sd 17)) (fB (sd 17)) (bU (sd 17) 2) []:=
  hY c
theorem E7 (c:Fc U):aK U 1 (fS (sd 17)) (fB (sd 17)) zr:=
  (S.one (X.ret (E.ms (fun _=>⟨_,rfl⟩) rk E.aX (L.c1 (E.comp (sel:=[none,none,none,some 1]) (it:=tx) (a:=uj) (ft:=tr) (f:=tQ) (I.val (E.ad 0)) (A.loc 1) C.nil (E.fn (i:=2) (by kernel_rfl) (vI c) ((wq c).le (by decide)) (L.c1 (E.ad 1) (L.c1 (E.cC 3) L.n0))) bh rfl bt ca (fun _ _=>rfl)) L.n0) (fun _=>rfl))))
theorem Fj (c:Fc U):aO U 2 (.ref 245) uJ:=call_of (C3 c) (E7 c)
end
end Mine
end
section
open PySem PySem.W PyProof.Rows PySem.Calls PySem.SeqAt
namespace Mine
section
variable {U:fL}
theorem vE (c:Fc U):ci U 263 (fS (cd 28 0)) (fB (cd 28 0)) (bU (cd 28 0) 3) [.none]:=
  Bh c (by kernel_rfl) (by kernel_rfl) (by kernel_rfl) (fun vals h1 h2=>match vals,h1,h2 with
    | [a0,a1],_,_=>⟨[(CQ U.w.params 263).getD 0 .none],by kernel_rfl,fun S=>by kernel_rfl,fun ρ R H h g => .cons (.none) (.nil)⟩
    | [a0,a1,a2],_,_=>⟨[],by kernel_rfl,fun S=>by kernel_rfl,fun ρ R H h g => .nil⟩
    | [],h,_=>absurd h (by simp)
    | [a0],h,_=>absurd h (by simp)
    | _::_::_::_::_,_,h=>absurd h (by simp))
theorem wS (c:Fc U):aK U 0 (fS (cd 28 0)) (fB (cd 28 0)) kt:=
  (S.cons (X.a7 (E.ad 1) (A.attr (E.ad 0) (ja c)) rfl) (S.one (X.a7 (E.ad 2) (A.attr (E.ad 0) (mR c)) rfl)))
theorem xu (c:Fc U):aO U 1 (.ref 263) cf:=call_of (vE c) (wS c)
theorem pL (c:Fc U) {n:Nat} (h:1≤n):vd U n (PySem.Str.ofString "LexStep") 1 cf:=uI c (Gd c) (by kernel_rfl) (by kernel_rfl) (by kernel_rfl) (by kernel_rfl) (xu c) h
theorem vG (c:Fc U):ci U 270 (fS (cd 28 1)) (fB (cd 28 1)) (bU (cd 28 1) 1) []:=
  gM c
theorem xm (c:Fc U):aK U 0 (fS (cd 28 1)) (fB (cd 28 1)) rM:=
  (S.one (X.ret (E.tup (L.c1 (E.attr (E.ad 0) (ja c) (fun _=>rfl)) (L.c1 (E.attr (E.ad 0) (mR c) (fun _=>rfl)) L.n0)))))
theorem xe (c:Fc U):aO U 1 (.ref 270) nQ:=call_of (vG c) (xm c)
theorem xU (c:Fc U) {n:Nat} (h:1≤n):∀ p∈[(1,nQ)],bS U n (PySem.Str.ofString "told") p.1 p.2:=bF c (Gd c) (by decide) (by kernel_rfl) (by kernel_rfl) (by kernel_rfl) (xe c) h
theorem vj (c:Fc U):ci U 277 (fS (cd 28 2)) (fB (cd 28 2)) (bU (cd 28 2) 1) []:=
  gM c
theorem xD (c:Fc U):aK U 0 (fS (cd 28 2)) (fB (cd 28 2)) jM:=
  (S.cons (X.if (T.cmp (E.attr (E.ad 0) (mR c) (fun _=>rfl)) E.fK EO) (S.one (X.ret (E.attr (E.ad 0) (ja c) (fun _=>rfl)))) S.nil) (S.one (X.ret (E.bin (E.bin (E.attr (E.ad 0) (ja c) (fun _=>rfl)) E.aX dm) (E.bG (i:=1) (by kernel_rfl) (boot_str c) (E.attr (E.ad 0) (mR c) (fun _=>rfl)) Ku) dm))))
theorem w5 (c:Fc U):aO U 1 (.ref 277) dJ:=call_of (vj c) (xD c)
theorem xj (c:Fc U) {n:Nat} (h:1≤n):∀ p∈[(1,dJ)],bS U n (PySem.Str.ofString "show") p.1 p.2:=bF c (Gd c) (by decide) (by kernel_rfl) (by kernel_rfl) (by kernel_rfl) (w5 c) h
theorem vV (c:Fc U):ci U 298 (fS (cd 29 0)) (fB (cd 29 0)) (bU (cd 29 0) 6) []:=
  Kv c
theorem wD (c:Fc U):aK U 0 (fS (cd 29 0)) (fB (cd 29 0)) oa:=
  (S.cons (X.a7 (E.ad 1) (A.attr (E.ad 0) (pW c)) rfl) (S.cons (X.a7 (E.ad 2) (A.attr (E.ad 0) (aZ c)) rfl) (S.cons (X.a7 (E.ad 3) (A.attr (E.ad 0) (iG c)) rfl) (S.cons (X.a7 (E.ad 4) (A.attr (E.ad 0) (mP c)) rfl) (S.one (X.a7 (E.ad 5) (A.attr (E.ad 0) (Bi c)) rfl))))))
theorem yf (c:Fc U):aO U 1 (.ref 298) gr:=call_of (vV c) (wD c)
theorem zh (c:Fc U) {n:Nat} (h:1≤n):vd U n (PySem.Str.ofString "LexRule") 2 gr:=uI c (vS c) (by kernel_rfl) (by kernel_rfl) (by kernel_rfl) (by kernel_rfl) (yf c) h
theorem ug (c:Fc U):ci U 305 (fS (cd 29 1)) (fB (cd 29 1)) (bU (cd 29 1) 1) []:=
  gM c
theorem uH (c:Fc U):aK U 0 (fS (cd 29 1)) (fB (cd 29 1)) kT:=
  (S.one (X.ret (E.cmp (E.attr (E.ad 0) (iG c) (fun _=>rfl)) E.fK EO)))
theorem uU (c:Fc U):aO U 1 (.ref 305) dz:=call_of (ug c) (uH c)
theorem kR (c:Fc U) {n:Nat} (h:1≤n):∀ p∈[(2,dz)],bS U n (PySem.Str.ofString "is_end") p.1 p.2:=bF c (vS c) (by decide) (by kernel_rfl) (by kernel_rfl) (by kernel_rfl) (uU c) h
theorem td (c:Fc U):ci U 312 (fS (cd 29 2)) (fB (cd 29 2)) (bU (cd 29 2) 2) []:=
  hY c
theorem tG (c:Fc U):aK U 0 (fS (cd 29 2)) (fB (cd 29 2)) jG:=
  (S.one (X.ret (E.cmp (E.ad 1) (E.attr (E.ad 0) (aZ c) (fun _=>rfl)) A2)))
theorem tZ (c:Fc U):aO U 1 (.ref 312) cY:=call_of (td c) (tG c)
theorem ki (c:Fc U) {n:Nat} (h:1≤n):∀ p∈[(2,cY)],bS U n (PySem.Str.ofString "is_live") p.1 p.2:=bF c (vS c) (by decide) (by kernel_rfl) (by kernel_rfl) (by kernel_rfl) (tZ c) h
theorem sw (c:Fc U):ci U 319 (fS (cd 29 3)) (fB (cd 29 3)) (bU (cd 29 3) 2) []:=
  hY c
theorem sU (c:Fc U):aK U 0 (fS (cd 29 3)) (fB (cd 29 3)) jj:=
  (S.cons (X.A3 (it:=kE) (a:=kL) (f:=kK) (I.val (E.attr (E.ad 0) (mP c) (fun _=>rfl))) (A.loc 2) (S.one (X.if (T.cmp (E.attr (E.ad 2) (ja c) (fun _=>rfl)) (E.ad 1) sEq) (S.one (X.ret E.io)) S.nil)) (fun _ _=>rfl)) (S.one (X.ret E.io)))
theorem ta (c:Fc U):aO U 1 (.ref 319) eQ:=call_of (sw c) (sU c)
theorem te (c:Fc U) {n:Nat} (h:1≤n):∀ p∈[(2,eQ)],bS U n (PySem.Str.ofString "has_step") p.1 p.2:=bF c (vS c) (by decide) (by kernel_rfl) (by kernel_rfl) (by kernel_rfl) (ta c) h
theorem vt (c:Fc U):ci U 326 (fS (cd 29 4)) (fB (cd 29 4)) (bU (cd 29 4) 1) []:=
  gM c
theorem wM (c:Fc U):aK U 0 (fS (cd 29 4)) (fB (cd 29 4)) ni:=
  (S.cons (X.A3 (it:=oI) (a:=oG) (f:=oM) (I.val (E.attr (E.ad 0) (mP c) (fun _=>rfl))) (A.loc 1) (S.one (X.if (T.cmp (E.attr (E.ad 1) (ja c) (fun _=>rfl)) E.aX sEq) (S.one (X.ret (E.attr (E.ad 1) (mR c) (fun _=>rfl)))) S.nil)) (fun _ _=>rfl)) (S.one (X.ret E.fK)))
theorem wC (c:Fc U):aO U 1 (.ref 326) gk:=call_of (vt c) (wM c)
theorem wV (c:Fc U) {n:Nat} (h:1≤n):∀ p∈[(2,gk)],bS U n (PySem.Str.ofString "kind") p.1 p.2:=bF c (vS c) (by decide) (by kernel_rfl) (by kernel_rfl) (by kernel_rfl) (wC c) h
theorem uQ (c:Fc U):ci U 331 (fS (cd 29 5)) (fB (cd 29 5)) (bU (cd 29 5) 1) []:=
  gM c
theorem vO (c:Fc U):aK U 0 (fS (cd 29 5)) (fB (cd 29 5)) mc:=
  (S.one (X.ret (E.comp (sel:=[none,none]) (it:=jq) (a:=jn) (ft:=jk) (f:=jm) (I.val (E.attr (E.ad 0) (mP c) (fun _=>rfl))) (A.loc 1) (C.one (T.bool (T.CL (T.cmp (E.attr (E.ad 1) (ja c) (fun _=>rfl)) E.aX sEq) (T.last (T.cmp (E.attr (E.ad 1) (ja c) (fun _=>rfl)) E.aX sEq))))) (E.attr (E.ad 1) (mR c) (fun _=>rfl)) bh rfl bt ca (fun _ _=>rfl))))
theorem vX (c:Fc U):aO U 1 (.ref 331) gO:=call_of (uQ c) (vO c)
theorem vL (c:Fc U) {n:Nat} (h:1≤n):∀ p∈[(2,gO)],bS U n (PySem.Str.ofString "goals") p.1 p.2:=bF c (vS c) (by decide) (by kernel_rfl) (by kernel_rfl) (by kernel_rfl) (vX c) h
theorem sX (c:Fc U):ci U 357 (fS (cd 30 0)) (fB (cd 30 0)) (bU (cd 30 0) 2) []:=
  hY c
theorem tW (c:Fc U):aK U 0 (fS (cd 30 0)) (fB (cd 30 0)) jI:=
  (S.one (X.a7 (E.ad 1) (A.attr (E.ad 0) (cg c)) rfl))
theorem uc (c:Fc U):aO U 1 (.ref 357) cz:=call_of (sX c) (tW c)
theorem qm (c:Fc U) {n:Nat} (h:1≤n):vd U n (PySem.Str.ofString "RawPattern") 3 cz:=uI c (J2 c) (by kernel_rfl) (by kernel_rfl) (by kernel_rfl) (by kernel_rfl) (uc c) h
theorem tm (c:Fc U):ci U 364 (fS (cd 30 1)) (fB (cd 30 1)) (bU (cd 30 1) 1) []:=
  gM c
theorem tw (c:Fc U):aK U 0 (fS (cd 30 1)) (fB (cd 30 1)) oS:=
  (S.one (X.ret (E.tup (L.c1 E.aX (L.c1 (E.attr (E.ad 0) (cg c) (fun _=>rfl)) L.n0)))))
theorem tP (c:Fc U):aO U 1 (.ref 364) ig:=call_of (tm c) (tw c)
theorem oR (c:Fc U) {n:Nat} (h:1≤n):∀ p∈[(3,ig)],bS U n (PySem.Str.ofString "told") p.1 p.2:=bF c (J2 c) (by decide) (by kernel_rfl) (by kernel_rfl) (by kernel_rfl) (tP c) h
theorem vR (c:Fc U):ci U 336 (fS (cd 29 6)) (fB (cd 29 6)) (bU (cd 29 6) 1) []:=
  gM c
theorem wQ (c:Fc U):aK U 1 (fS (cd 29 6)) (fB (cd 29 6)) nB:=
  (S.cons (X.a7 (E.ite (T.cmp (E.attr (E.ad 0) (iG c) (fun _=>rfl)) E.fK EO) E.fK (E.b8 (fun _=>⟨_,rfl⟩) (oR c (by decide)) (E.attr (E.ad 0) (iG c) (fun _=>rfl)))) (A.loc 1) rfl) (S.one (X.ret (E.tup (L.c1 (E.attr (E.ad 0) (aZ c) (fun _=>rfl)) (L.c1 (E.ad 1) (L.c1 (E.bG (i:=2) (by kernel_rfl) (boot_tuple c) (E.comp (sel:=[none,none]) (it:=fz) (a:=fu) (ft:=fm) (f:=fq) (I.val (E.attr (E.ad 0) (mP c) (fun _=>rfl))) (A.loc 1) C.nil (E.b8 (fun _=>⟨_,rfl⟩) (xU c (by decide)) (E.ad 1)) bh rfl bt ca (fun _ _=>rfl)) pO) L.n0)))))))
theorem ya (c:Fc U):aO U 2 (.ref 336) iy:=call_of (vR c) (wQ c)
theorem wG (c:Fc U) {n:Nat} (h:2≤n):∀ p∈[(2,iy)],bS U n (PySem.Str.ofString "told") p.1 p.2:=bF c (vS c) (by decide) (by kernel_rfl) (by kernel_rfl) (by kernel_rfl) (ya c) h
theorem vM (c:Fc U):ci U 386 (fS (cd 31 0)) (fB (cd 31 0)) (bU (cd 31 0) 6) [.bool true, .str []]:=
  Bh c (by kernel_rfl) (by kernel_rfl) (by kernel_rfl) (fun vals h1 h2=>match vals,h1,h2 with
    | [a0,a1,a2,a3],_,_=>⟨[(CQ U.w.params 386).getD 0 .none,(CQ U.w.params 386).getD 1 .none],by kernel_rfl,fun S=>by kernel_rfl,fun ρ R H h g => .cons (.bool _) (.cons (JJ ⟨_,rfl⟩ (by decide)) (.nil))⟩
    | [a0,a1,a2,a3,a4],_,_=>⟨[(CQ U.w.params 386).getD 1 .none],by kernel_rfl,fun S=>by kernel_rfl,fun ρ R H h g => .cons (JJ ⟨_,rfl⟩ (by decide)) (.nil)⟩
    | [a0,a1,a2,a3,a4,a5],_,_=>⟨[],by kernel_rfl,fun S=>by kernel_rfl,fun ρ R H h g => .nil⟩
    | [],h,_=>absurd h (by simp)
    | [a0],h,_=>absurd h (by simp)
    | [a0,a1],h,_=>absurd h (by simp)
    | [a0,a1,a2],h,_=>absurd h (by simp)
    | _::_::_::_::_::_::_::_,_,h=>absurd h (by simp))
theorem xp (c:Fc U):aK U 0 (fS (cd 31 0)) (fB (cd 31 0)) nA:=
  (S.cons (X.a7 (E.ad 1) (A.attr (E.ad 0) (ck c)) rfl) (S.cons (X.a7 (E.ad 2) (A.attr (E.ad 0) (aZ c)) rfl) (S.cons (X.a7 (E.ad 3) (A.attr (E.ad 0) (iQ c)) rfl) (S.cons (X.a7 (E.ad 4) (A.attr (E.ad 0) (dZ c)) rfl) (S.one (X.a7 (E.ad 5) (A.attr (E.ad 0) (tab_tail c)) rfl))))))
theorem wX (c:Fc U):aO U 1 (.ref 386) gj:=call_of (vM c) (xp c)
theorem zf (c:Fc U) {n:Nat} (h:1≤n):vd U n (PySem.Str.ofString "LexFile") 4 gj:=uI c (xJ c) (by kernel_rfl) (by kernel_rfl) (by kernel_rfl) (by kernel_rfl) (wX c) h
theorem mO (c:Fc U):ci U 393 (fS (cd 31 1)) (fB (cd 31 1)) (bU (cd 31 1) 2) []:=
  hY c
theorem nZ (c:Fc U):aK U 0 (fS (cd 31 1)) (fB (cd 31 1)) eR:=
  (S.cons (X.A3 (it:=gA) (a:=gE) (f:=gF) (I.range (i:=3) (by kernel_rfl) (boot_range c) (L.c1 (E.bG (i:=4) (by kernel_rfl) (boot_len c) (E.attr (E.ad 0) (aZ c) (fun _=>rfl)) gp) L.n0) (fun _=>rfl) (fun _ _=>rfl)) (A.loc 2) (S.one (X.if (T.cmp (E.item (E.item (E.attr (E.ad 0) (aZ c) (fun _=>rfl)) (E.ad 2)) E.bp) (E.ad 1) sEq) (S.one (X.ret (E.ad 2))) S.nil)) (fun _ _=>rfl)) (S.one (X.ret (E.neg E.bp))))
theorem mU (c:Fc U):aO U 1 (.ref 393) bc:=call_of (mO c) (nZ c)
theorem iB (c:Fc U) {n:Nat} (h:1≤n):∀ p∈[(4,bc)],bS U n (PySem.Str.ofString "condition_number") p.1 p.2:=bF c (xJ c) (by decide) (by kernel_rfl) (by kernel_rfl) (by kernel_rfl) (mU c) h
theorem mE (c:Fc U):ci U 398 (fS (cd 31 2)) (fB (cd 31 2)) (bU (cd 31 2) 1) []:=
  gM c
theorem oj (c:Fc U):aK U 0 (fS (cd 31 2)) (fB (cd 31 2)) ez:=
  (S.one (X.ret (E.bG (i:=1) (by kernel_rfl) (boot_tuple c) (E.comp (sel:=[none,none,some 0]) (it:=gD) (a:=gw) (ft:=gx) (f:=gB) (I.range (i:=2) (by kernel_rfl) (boot_range c) (L.c1 (E.bG (i:=3) (by kernel_rfl) (boot_len c) (E.attr (E.cC 0) (aZ c) (fun _=>rfl)) gp) L.n0) (fun _=>rfl) (fun _ _=>rfl)) (A.loc 1) (C.one (T.not (T.val (E.item (E.item (E.attr (E.cC 2) (aZ c) (fun _=>rfl)) (E.ad 1)) E.bp)))) (E.ad 1) bh rfl bt ca (fun _ _=>rfl)) pO)))
theorem oe (c:Fc U):aO U 1 (.ref 398) bm:=call_of (mE c) (oj c)
theorem ip (c:Fc U) {n:Nat} (h:1≤n):∀ p∈[(4,bm)],bS U n (PySem.Str.ofString "plain_conditions") p.1 p.2:=bF c (xJ c) (by decide) (by kernel_rfl) (by kernel_rfl) (by kernel_rfl) (oe c) h
theorem qG (c:Fc U):ci U 403 (fS (cd 31 3)) (fB (cd 31 3)) (bU (cd 31 3) 2) []:=
  hY c
theorem rg (c:Fc U):aK U 1 (fS (cd 31 3)) (fB (cd 31 3)) iN:=
  (S.one (X.ret (E.comp (sel:=[none,none,some 1]) (it:=jt) (a:=jv) (ft:=ju) (f:=jr) (I.val (E.attr (E.ad 0) (iQ c) (fun _=>rfl))) (A.loc 1) (C.one (T.bool (T.qB (T.not (T.val (E.b8 (fun _=>⟨_,rfl⟩) (kR c (by decide)) (E.ad 1)))) (T.last (T.val (E.kA (fun _=>⟨_,rfl⟩) (ki c (by decide)) (E.ad 1) (L.c1 (E.cC 2) L.n0))))))) (E.ad 1) bh rfl bt ca (fun _ _=>rfl))))
theorem rD (c:Fc U):aO U 2 (.ref 403) dR:=call_of (qG c) (rg c)
theorem rH (c:Fc U) {n:Nat} (h:2≤n):∀ p∈[(4,dR)],bS U n (PySem.Str.ofString "live_rules") p.1 p.2:=bF c (xJ c) (by decide) (by kernel_rfl) (by kernel_rfl) (by kernel_rfl) (rD c) h
theorem sq (c:Fc U):ci U 410 (fS (cd 31 4)) (fB (cd 31 4)) (bU (cd 31 4) 2) []:=
  hY c
theorem sW (c:Fc U):aK U 1 (fS (cd 31 4)) (fB (cd 31 4)) jp:=
  (S.cons (X.A3 (it:=kI) (a:=kD) (f:=kH) (I.val (E.attr (E.ad 0) (iQ c) (fun _=>rfl))) (A.loc 2) (S.one (X.if (T.bool (T.qB (T.val (E.b8 (fun _=>⟨_,rfl⟩) (kR c (by decide)) (E.ad 2))) (T.last (T.val (E.kA (fun _=>⟨_,rfl⟩) (ki c (by decide)) (E.ad 2) (L.c1 (E.ad 1) L.n0)))))) (S.one (X.ret (E.ad 2))) S.nil)) (fun _ _=>rfl)) (S.one (X.ret E.fK)))
theorem sP (c:Fc U):aO U 2 (.ref 410) eF:=call_of (sq c) (sW c)
theorem sJ (c:Fc U) {n:Nat} (h:2≤n):∀ p∈[(4,eF)],bS U n (PySem.Str.ofString "end_rule") p.1 p.2:=bF c (xJ c) (by decide) (by kernel_rfl) (by kernel_rfl) (by kernel_rfl) (sP c) h
theorem vm (c:Fc U):ci U 415 (fS (cd 31 5)) (fB (cd 31 5)) (bU (cd 31 5) 1) []:=
  gM c
theorem xM (c:Fc U):aK U 2 (fS (cd 31 5)) (fB (cd 31 5)) m7:=
  (S.one (X.ret (E.tup (L.c1 (E.bG (i:=1) (by kernel_rfl) (boot_tuple c) (E.comp (sel:=[none,none,some 0]) (it:=jU) (a:=jV) (ft:=jC) (f:=ku) (I.val (E.attr (E.cC 0) (ck c) (fun _=>rfl))) (A.loc 1) C.nil (E.tup (L.c1 (E.ad 1) (L.c1 (E.b8 (fun _=>⟨_,rfl⟩) (oR c (by decide)) (E.item (E.attr (E.cC 2) (ck c) (fun _=>rfl)) (E.ad 1))) L.n0))) bh rfl bt ca (fun _ _=>rfl)) pO) (L.c1 (E.bG (i:=1) (by kernel_rfl) (boot_tuple c) (E.comp (sel:=[none,none,none]) (it:=kg) (a:=j0) (ft:=jS) (f:=jQ) (I.yQ (E.attr (E.cC 0) (aZ c) (fun _=>rfl))) (A.tup (As.cons (A.loc 1) (As.cons (A.loc 2) As.nil))) C.nil (E.tup (L.c1 (E.ad 1) (L.c1 (E.ad 2) L.n0))) bh rfl bt ca (fun _ _=>rfl)) pO) (L.c1 (E.bG (i:=1) (by kernel_rfl) (boot_tuple c) (E.comp (sel:=[none,none]) (it:=fy) (a:=hU) (ft:=hZ) (f:=hO) (I.val (E.attr (E.cC 0) (iQ c) (fun _=>rfl))) (A.loc 1) C.nil (E.b8 (fun _=>⟨_,rfl⟩) (wG c (by decide)) (E.ad 1)) bh rfl bt ca (fun _ _=>rfl)) pO) (L.c1 (E.attr (E.cC 0) (dZ c) (fun _=>rfl)) (L.c1 (E.attr (E.cC 0) (tab_tail c) (fun _=>rfl)) L.n0))))))))
theorem w8 (c:Fc U):aO U 3 (.ref 415) gq:=call_of (vm c) (xM c)
theorem qY (c:Fc U) {n:Nat} (h:3≤n):∀ p∈[(4,gq)],bS U n (PySem.Str.ofString "told") p.1 p.2:=bF c (xJ c) (by decide) (by kernel_rfl) (by kernel_rfl) (by kernel_rfl) (w8 c) h
end
end Mine
end
section
open PySem PySem.W PyProof.Rows PySem.Calls PySem.SeqAt
namespace Mine
section
variable {U:fL}
theorem Bm (c:Fc U):ci U 436 (fS (sd 33)) (fB (sd 33)) (bU (sd 33) 1) []:=
  gM c
theorem C7 (c:Fc U):aK U 0 (fS (sd 33)) (fB (sd 33)) sQ:=
  (S.cons (X.a7 (E.ti L.n0) (A.loc 1) rfl) (S.cons (X.a7 E.bp (A.loc 2) rfl) (S.cons (X.qJ (ft:=dF) (f:=dH) (T.cmp (E.ad 2) (E.bG (i:=4) (by kernel_rfl) (boot_len c) (E.ad 0) gp) FY) (S.cons (X.a7 (E.ms (fun _=>⟨_,rfl⟩) Kb (E.ad 0) (L.c1 E.aX (L.c1 (E.ad 2) L.n0)) (fun _=>rfl)) (A.loc 3) rfl) (S.cons (X.if (T.cmp (E.ad 3) E.bp FY) (S.one (X.a7 (E.bG (i:=4) (by kernel_rfl) (boot_len c) (E.ad 0) gp) (A.loc 3) rfl)) S.nil) (S.cons (X.dN (E.append (fun _=>⟨_,rfl⟩) (E.ad 1) (E.tup (L.c1 (E.ad 2) (L.c1 (E.ad 3) L.n0))))) (S.one (X.a7 (E.bin (E.ad 3) E.bp dm) (A.loc 2) rfl)))))) (S.one (X.ret (E.vD (E.ad 1)))))))
theorem DU (c:Fc U):aO U 1 (.ref 436) on:=call_of (Bm c) (C7 c)
theorem xx (c:Fc U):ci U 443 (fS (sd 34)) (fB (sd 34)) (bU (sd 34) 1) []:=
  gM c
theorem yq (c:Fc U):aK U 0 (fS (sd 34)) (fB (sd 34)) pd:=
  (S.one (X.ret (E.LU (E.cmp (E.ms (fun _=>⟨_,rfl⟩) HW (E.ad 0) (L.c1 (E.glob (i:=1) (by kernel_rfl) (pC c)) L.n0) (fun _=>rfl)) E.aX sEq) (E.ms (fun _=>⟨_,rfl⟩) uf (E.ad 0) (L.c1 (E.glob (i:=2) (by kernel_rfl) (zv c)) L.n0) (fun _=>rfl)))))
theorem sx (c:Fc U):aO U 1 (.ref 443) i9:=call_of (xx c) (yq c)
theorem zS (c:Fc U):ci U 450 (fS (sd 35)) (fB (sd 35)) (bU (sd 35) 2) []:=
  hY c
theorem BV (c:Fc U):aK U 0 (fS (sd 35)) (fB (sd 35)) qT:=
  (S.cons (X.a7 (E.attr (E.ad 0) (cg c) (fun _=>rfl)) (A.loc 2) rfl) (S.cons (X.a7 (E.bin (E.ad 1) E.bp dm) (A.loc 3) rfl) (S.cons (X.qJ (ft:=iw) (f:=jW) (T.bool (T.qB (T.cmp (E.ad 3) (E.bG (i:=4) (by kernel_rfl) (boot_len c) (E.ad 2) gp) FY) (T.last (T.cmp (E.item (E.ad 2) (E.ad 3)) E.aX yx)))) (S.one (X.aug (i:=3) (by kernel_rfl) (E.ite (T.cmp (E.item (E.ad 2) (E.ad 3)) E.aX sEq) E.bp E.bp)))) (S.cons (X.if (T.cmp (E.ad 3) (E.bG (i:=4) (by kernel_rfl) (boot_len c) (E.ad 2) gp) LM) (S.one X.stop) S.nil) (S.one (X.ret (E.bin (E.ad 3) E.bp dm)))))))
theorem BB (c:Fc U):aO U 1 (.ref 450) oN:=call_of (zS c) (BV c)
theorem AY (c:Fc U):ci U 457 (fS (sd 36)) (fB (sd 36)) (bU (sd 36) 2) []:=
  hY c
theorem B0 (c:Fc U):aK U 0 (fS (sd 36)) (fB (sd 36)) rc:=
  (S.cons (X.a7 (E.attr (E.ad 0) (cg c) (fun _=>rfl)) (A.loc 2) rfl) (S.cons (X.a7 (E.bin (E.ad 1) E.bp dm) (A.loc 3) rfl) (S.cons (X.if (T.cmp (E.slice (E.ad 2) (P.some (E.ad 3)) (P.some (E.bin (E.ad 3) E.bp dm))) E.aX sEq) (S.one (X.aug (i:=3) (by kernel_rfl) E.bp)) S.nil) (S.cons (X.a7 E.io (A.loc 4) rfl) (S.cons (X.qJ (ft:=eG) (f:=j9) (T.bool (T.qB (T.cmp (E.ad 3) (E.bG (i:=5) (by kernel_rfl) (boot_len c) (E.ad 2) gp) FY) (T.last (T.bool (T.CL (T.val (E.ad 4)) (T.last (T.cmp (E.item (E.ad 2) (E.ad 3)) E.aX yx))))))) (S.cons (X.a7 E.io (A.loc 4) rfl) (S.one (X.if (T.bool (T.qB (T.cmp (E.slice (E.ad 2) (P.some (E.ad 3)) (P.some (E.bin (E.ad 3) E.bp dm))) E.aX sEq) (T.last T.stop))) S.stop (S.one (X.aug (i:=3) (by kernel_rfl) (E.ite (T.cmp (E.item (E.ad 2) (E.ad 3)) E.aX sEq) E.bp E.bp))))))) (S.cons (X.if (T.cmp (E.ad 3) (E.bG (i:=5) (by kernel_rfl) (boot_len c) (E.ad 2) gp) LM) (S.one X.stop) S.nil) (S.one (X.ret (E.bin (E.ad 3) E.bp dm)))))))))
theorem BK (c:Fc U):aO U 1 (.ref 457) oE:=call_of (AY c) (B0 c)
theorem E0 (c:Fc U):ci U 464 (fS (sd 37)) (fB (sd 37)) (bU (sd 37) 1) []:=
  gM c
theorem G4 (c:Fc U):aK U 2 (fS (sd 37)) (fB (sd 37)) yo:=
  (S.cons (X.a7 (E.attr (E.ad 0) (cg c) (fun _=>rfl)) (A.loc 1) rfl) (S.cons (X.a7 (E.attr (E.ad 0) (dQ c) (fun _=>rfl)) (A.loc 2) rfl) (S.cons (X.a7 (E.ad 2) (A.loc 3) rfl) (S.cons (X.qJ (ft:=bZ) (f:=bY) (T.bool (T.qB (T.cmp (E.ad 3) (E.bG (i:=4) (by kernel_rfl) (boot_len c) (E.ad 1) gp) FY) (T.last (T.cmp (E.item (E.ad 1) (E.ad 3)) (E.glob (i:=5) (by kernel_rfl) (pC c)) p9)))) (S.one (X.if (T.cmp (E.item (E.ad 1) (E.ad 3)) E.aX sEq) (S.one (X.a7 (E.fn (i:=6) (by kernel_rfl) (AW c) ((BB c).le (by decide)) (L.c1 (E.ad 0) (L.c1 (E.ad 3) L.n0))) (A.loc 3) rfl)) (S.one (X.if (T.cmp (E.item (E.ad 1) (E.ad 3)) E.aX sEq) (S.one (X.a7 (E.fn (i:=7) (by kernel_rfl) (Am c) ((BK c).le (by decide)) (L.c1 (E.ad 0) (L.c1 (E.ad 3) L.n0))) (A.loc 3) rfl)) (S.one (X.aug (i:=3) (by kernel_rfl) (E.ite (T.cmp (E.item (E.ad 1) (E.ad 3)) E.aX sEq) E.bp E.bp)))))))) (S.cons (X.if (T.cmp (E.ad 3) (E.bG (i:=4) (by kernel_rfl) (boot_len c) (E.ad 1) gp) Lp) (S.one X.stop) S.nil) (S.cons (X.if (T.cmp (E.ad 3) (E.ad 2) sEq) (S.one X.stop) S.nil) (S.cons (X.a7 (E.ad 3) (A.attr (E.ad 0) (dQ c)) rfl) (S.one (X.ret (E.vD (E.new (i:=9) (by kernel_rfl) (qm c (by decide)) (L.c1 (E.slice (E.ad 1) (P.some (E.ad 2)) (P.some (E.ad 3))) L.n0) (fun _=>rfl))))))))))))
theorem B2 (c:Fc U):aO U 3 (.ref 464) qP:=call_of (E0 c) (G4 c)
theorem CW (c:Fc U):ci U 471 (fS (sd 38)) (fB (sd 38)) (bU (sd 38) 2) []:=
  hY c
theorem FQ (c:Fc U):aK U 3 (fS (sd 38)) (fB (sd 38)) lb:=
  (S.cons (X.a7 (E.attr (E.ad 0) (dQ c) (fun _=>rfl)) (A.loc 2) rfl) (S.cons (X.a7 (E.b8 (fun _=>⟨_,rfl⟩) (gV c (by decide)) (E.ad 0)) (A.loc 3) rfl) (S.cons (X.if (T.cmp (E.ad 3) (E.glob (i:=8) (by kernel_rfl) (re c)) p9) (S.one X.stop) S.nil) (S.cons (X.a7 (E.item (E.glob (i:=8) (by kernel_rfl) (re c)) (E.ad 3)) (A.loc 4) rfl) (S.cons (X.if (T.cmp (E.ad 4) E.aX sEq) (S.one (X.ret (E.vD (E.new (i:=10) (by kernel_rfl) (pL c (by decide)) (L.c1 (E.ad 3) L.n0) (fun _=>rfl))))) S.nil) (S.cons (X.dN (E.b8 (fun _=>⟨_,rfl⟩) (bO c (by decide)) (E.ad 0))) (S.cons (X.a7 (E.attr (E.ad 0) (dQ c) (fun _=>rfl)) (A.loc 2) rfl) (S.cons (X.if (T.cmp (E.ad 4) E.aX sEq) (S.cons (X.a7 (E.kA (fun _=>⟨_,rfl⟩) (i4 c (by decide)) (E.ad 0) (L.c1 (E.glob (i:=11) (by kernel_rfl) (wH c)) L.n0)) (A.loc 5) rfl) (S.cons (X.if (T.bool (T.CL (T.cmp (E.ad 5) E.aX sEq) (T.last (T.cmp (E.bG (i:=12) (by kernel_rfl) (boot_len c) (E.ad 5) gp) (E.glob (i:=13) (by kernel_rfl) (py c)) Lp)))) (S.one X.stop) S.nil) (S.one (X.ret (E.vD (E.new (i:=10) (by kernel_rfl) (pL c (by decide)) (L.c1 (E.ad 3) (L.c1 (E.bG (i:=14) (by kernel_rfl) (boot_int c) (E.ad 5) KZ) L.n0)) (fun _=>rfl))))))) S.nil) (S.cons (X.if (T.bool (T.qB (T.cmp (E.ad 4) E.aX sEq) (T.last (T.val (E.kA (fun _=>⟨_,rfl⟩) (eh c (by decide)) (E.ad 0) (L.c1 E.aX L.n0)))))) (S.cons (X.a7 (E.kA (fun _=>⟨_,rfl⟩) (vQ c (by decide)) (E.ad 0) (L.c1 E.aX L.n0)) (A.loc 6) rfl) (S.cons (X.if (T.bool (T.CL (T.cmp (E.ad 6) E.fK EO) (T.last (T.cmp (E.bG (i:=12) (by kernel_rfl) (boot_len c) (E.ad 6) gp) E.bp yx)))) (S.one X.stop) S.nil) (S.one (X.ret (E.vD (E.new (i:=10) (by kernel_rfl) (pL c (by decide)) (L.c1 (E.ad 3) (L.c1 (E.bin (E.bin E.aX (E.fn (i:=15) (by kernel_rfl) (Df c) ((Fj c).le (by decide)) (L.c1 (E.ad 6) (L.c1 E.aX L.n0))) dm) E.aX dm) L.n0)) (fun _=>rfl))))))) S.nil) (S.cons (X.a7 (E.b8 (fun _=>⟨_,rfl⟩) (gV c (by decide)) (E.ad 0)) (A.loc 7) rfl) (S.cons (X.if (T.cmp (E.ad 7) E.aX sEq) (S.one X.stop) S.nil) (S.cons (X.if (T.bool (T.qB (T.cmp (E.ad 4) E.aX sEq) (T.last (T.cmp (E.ad 7) (E.ad 1) p9)))) (S.one X.stop) S.nil) (S.one (X.ret (E.vD (E.new (i:=10) (by kernel_rfl) (pL c (by decide)) (L.c1 (E.ad 3) (L.c1 (E.ad 7) L.n0)) (fun _=>rfl)))))))))))))))))
theorem E3 (c:Fc U):aO U 4 (.ref 471) dU:=call_of (CW c) (FQ c)
theorem B7 (c:Fc U):ci U 478 (fS (sd 39)) (fB (sd 39)) (bU (sd 39) 2) []:=
  hY c
theorem Dk (c:Fc U):aK U 4 (fS (sd 39)) (fB (sd 39)) tc:=
  (S.cons (X.a7 (E.ti L.n0) (A.loc 2) rfl) (S.one (X.qJ (ft:=lh) (f:=fH) (T.val E.io) (S.cons (X.dN (E.b8 (fun _=>⟨_,rfl⟩) (bO c (by decide)) (E.ad 0))) (S.cons (X.if (T.val (E.b8 (fun _=>⟨_,rfl⟩) (dx c (by decide)) (E.ad 0))) (S.cons (X.if (T.not (T.val (E.ad 2))) (S.one X.stop) S.nil) (S.one (X.ret (E.vD (E.ad 2))))) S.nil) (S.cons (X.if (T.bool (T.qB (T.val (E.ad 2)) (T.last (T.cmp (E.attr (E.item (E.ad 2) (E.neg E.bp)) (ja c) (fun _=>rfl)) (E.glob (i:=4) (by kernel_rfl) (yN c)) A2)))) (S.one X.stop) S.nil) (S.cons (X.dN (E.append (fun _=>⟨_,rfl⟩) (E.ad 2) (E.fn (i:=5) (by kernel_rfl) (CM c) ((E3 c).le (by decide)) (L.c1 (E.ad 0) (L.c1 (E.ad 1) L.n0))))) (S.cons (X.dN (E.b8 (fun _=>⟨_,rfl⟩) (bO c (by decide)) (E.ad 0))) (S.one (X.if (T.bool (T.qB (T.not (T.val (E.b8 (fun _=>⟨_,rfl⟩) (dx c (by decide)) (E.ad 0)))) (T.last (T.not (T.val (E.kA (fun _=>⟨_,rfl⟩) (eh c (by decide)) (E.ad 0) (L.c1 E.aX L.n0))))))) (S.one X.stop) S.nil))))))))))
theorem DC (c:Fc U):aO U 5 (.ref 478) ql:=call_of (B7 c) (Dk c)
end
end Mine
end
section
open PySem PySem.W PyProof.Rows PySem.Calls PySem.SeqAt
namespace Mine
section
variable {U:fL}
theorem qC (c:Fc U):ci U 492 (fS (cd 40 0)) (fB (cd 40 0)) (bU (cd 40 0) 2) []:=
  hY c
theorem rP (c:Fc U):aK U 1 (fS (cd 40 0)) (fB (cd 40 0)) iD:=
  (S.cons (X.a7 (E.ad 1) (A.attr (E.ad 0) (cg c)) rfl) (S.cons (X.a7 (E.fn (i:=2) (by kernel_rfl) (BZ c) ((DU c).le (by decide)) (L.c1 (E.ad 1) L.n0)) (A.attr (E.ad 0) (pA c)) rfl) (S.cons (X.a7 E.bp (A.attr (E.ad 0) (oy c)) rfl) (S.cons (X.a7 E.La (A.attr (E.ad 0) (ck c)) rfl) (S.cons (X.a7 (E.ti (L.c1 (E.tup (L.c1 (E.glob (i:=3) (by kernel_rfl) (sZ c)) (L.c1 E.io L.n0))) L.n0)) (A.attr (E.ad 0) (aZ c)) rfl) (S.cons (X.a7 E.io (A.attr (E.ad 0) (dZ c)) rfl) (S.cons (X.a7 (E.ti L.n0) (A.attr (E.ad 0) (pV c)) rfl) (S.cons (X.a7 (E.ti L.n0) (A.attr (E.ad 0) (nh c)) rfl) (S.one (X.a7 E.aX (A.attr (E.ad 0) (tab_tail c)) rfl))))))))))
theorem rO (c:Fc U):aO U 2 (.ref 492) dP:=call_of (qC c) (rP c)
theorem vW (c:Fc U) {n:Nat} (h:2≤n):vd U n (PySem.Str.ofString "OutlineReader") 5 dP:=uI c (pp c) (by kernel_rfl) (by kernel_rfl) (by kernel_rfl) (by kernel_rfl) (rO c) h
theorem pQ (c:Fc U):ci U 497 (fS (cd 40 1)) (fB (cd 40 1)) (bU (cd 40 1) 1) []:=
  gM c
theorem qH (c:Fc U):aK U 0 (fS (cd 40 1)) (fB (cd 40 1)) gZ:=
  (S.one (X.ret (E.my (sel:=[none,none,none]) (a:=dI) (f:=dE) (E.attr (E.ad 0) (aZ c) (fun _=>rfl)) (A.tup (As.cons (A.loc 1) (As.cons (A.loc 2) As.nil))) (E.ad 1) bh rfl bt ca (fun _ _=>rfl))))
theorem qD (c:Fc U):aO U 1 (.ref 497) bH:=call_of (pQ c) (qH c)
theorem gX (c:Fc U) {n:Nat} (h:1≤n):∀ p∈[(5,bH)],bS U n (PySem.Str.ofString "names") p.1 p.2:=bF c (pp c) (by decide) (by kernel_rfl) (by kernel_rfl) (by kernel_rfl) (qD c) h
theorem mM (c:Fc U):ci U 504 (fS (cd 40 2)) (fB (cd 40 2)) (bU (cd 40 2) 2) []:=
  hY c
theorem no (c:Fc U):aK U 3 (fS (cd 40 2)) (fB (cd 40 2)) eD:=
  (S.one (X.ret (E.fn (i:=2) (by kernel_rfl) (zo c) ((B2 c).le (by decide)) (L.c1 (E.ad 1) L.n0))))
theorem nq (c:Fc U):aO U 4 (.ref 504) ch:=call_of (mM c) (no c)
theorem nJ (c:Fc U) {n:Nat} (h:4≤n):∀ p∈[(5,ch)],bS U n (PySem.Str.ofString "pattern_of") p.1 p.2:=bF c (pp c) (by decide) (by kernel_rfl) (by kernel_rfl) (by kernel_rfl) (nq c) h
theorem kN (c:Fc U):ci U 511 (fS (cd 40 3)) (fB (cd 40 3)) (bU (cd 40 3) 2) []:=
  hY c
theorem lL (c:Fc U):aK U 3 (fS (cd 40 3)) (fB (cd 40 3)) dS:=
  (S.one (X.ret (E.fn (i:=2) (by kernel_rfl) (zo c) ((B2 c).le (by decide)) (L.c1 (E.ad 1) L.n0))))
theorem lW (c:Fc U):aO U 4 (.ref 511) bP:=call_of (kN c) (lL c)
theorem lS (c:Fc U) {n:Nat} (h:4≤n):∀ p∈[(5,bP)],bS U n (PySem.Str.ofString "definition_of") p.1 p.2:=bF c (pp c) (by decide) (by kernel_rfl) (by kernel_rfl) (by kernel_rfl) (lW c) h
theorem jx (c:Fc U):ci U 532 (fS (cd 40 6)) (fB (cd 40 6)) (bU (cd 40 6) 2) []:=
  hY c
theorem j7 (c:Fc U):aK U 2 (fS (cd 40 6)) (fB (cd 40 6)) cW:=
  (S.cons (X.a7 (E.attr (E.ad 1) (dQ c) (fun _=>rfl)) (A.loc 2) rfl) (S.cons (X.dN (E.b8 (fun _=>⟨_,rfl⟩) (sy c (by decide)) (E.ad 1))) (S.cons (X.a7 (E.b8 (fun _=>⟨_,rfl⟩) (gV c (by decide)) (E.ad 1)) (A.loc 3) rfl) (S.cons (X.if (T.cmp (E.ad 3) (E.tup (L.c1 E.aX (L.c1 E.aX (L.c1 E.aX L.n0)))) p9) (S.one X.stop) S.nil) (S.cons (X.dN (E.b8 (fun _=>⟨_,rfl⟩) (bO c (by decide)) (E.ad 1))) (S.cons (X.if (T.val (E.b8 (fun _=>⟨_,rfl⟩) (dx c (by decide)) (E.ad 1))) (S.one X.stop) S.nil) (S.one (X.qJ (ft:=cD) (f:=bK) (T.not (T.val (E.b8 (fun _=>⟨_,rfl⟩) (dx c (by decide)) (E.ad 1)))) (S.cons (X.a7 (E.attr (E.ad 1) (dQ c) (fun _=>rfl)) (A.loc 4) rfl) (S.cons (X.a7 (E.b8 (fun _=>⟨_,rfl⟩) (gV c (by decide)) (E.ad 1)) (A.loc 5) rfl) (S.cons (X.if (T.cmp (E.ad 5) E.aX sEq) (S.one X.stop) S.nil) (S.cons (X.if (T.cmp (E.ad 3) E.aX sEq) (S.cons (X.if (T.cmp (E.ad 5) E.aX yx) (S.one X.stop) S.nil) (S.one (X.a7 E.io (A.attr (E.ad 0) (dZ c)) rfl))) (S.cons (X.if (T.cmp (E.ad 5) (E.b8 (fun _=>⟨_,rfl⟩) (gX c (by decide)) (E.ad 0)) A2) (S.one X.stop) S.nil) (S.one (X.dN (E.append (fun _=>⟨_,rfl⟩) (E.attr (E.ad 0) (aZ c) (fun _=>rfl)) (E.tup (L.c1 (E.ad 5) (L.c1 (E.cmp (E.ad 3) E.aX sEq) L.n0)))))))) (S.cons (X.if (T.cmp (E.b8 (fun _=>⟨_,rfl⟩) (i5 c (by decide)) (E.ad 1)) (E.tup (L.c1 E.aX (L.c1 E.aX (L.c1 E.aX L.n0)))) p9) (S.one X.stop) S.nil) (S.one (X.dN (E.b8 (fun _=>⟨_,rfl⟩) (bO c (by decide)) (E.ad 1)))))))))))))))))
theorem kd (c:Fc U):aO U 3 (.ref 532) aL:=call_of (jx c) (j7 c)
theorem jF (c:Fc U) {n:Nat} (h:3≤n):∀ p∈[(5,aL)],bS U n (PySem.Str.ofString "read_declaration") p.1 p.2:=bF c (pp c) (by decide) (by kernel_rfl) (by kernel_rfl) (by kernel_rfl) (kd c) h
theorem kf (c:Fc U):ci U 539 (fS (cd 40 7)) (fB (cd 40 7)) (bU (cd 40 7) 2) []:=
  hY c
theorem kw (c:Fc U):aK U 4 (fS (cd 40 7)) (fB (cd 40 7)) de:=
  (S.cons (X.a7 (E.attr (E.ad 1) (dQ c) (fun _=>rfl)) (A.loc 2) rfl) (S.cons (X.a7 (E.b8 (fun _=>⟨_,rfl⟩) (gV c (by decide)) (E.ad 1)) (A.loc 3) rfl) (S.cons (X.if (T.cmp (E.ad 3) E.aX sEq) (S.one X.stop) S.nil) (S.cons (X.if (T.cmp (E.ad 3) (E.attr (E.ad 0) (ck c) (fun _=>rfl)) A2) (S.one X.stop) S.nil) (S.cons (X.if (T.cmp (E.b8 (fun _=>⟨_,rfl⟩) (i5 c (by decide)) (E.ad 1)) (E.tup (L.c1 E.aX (L.c1 E.aX L.n0))) p9) (S.one X.stop) S.nil) (S.cons (X.dN (E.b8 (fun _=>⟨_,rfl⟩) (bO c (by decide)) (E.ad 1))) (S.cons (X.a7 (E.kA (fun _=>⟨_,rfl⟩) (lS c (by decide)) (E.ad 0) (L.c1 (E.ad 1) L.n0)) (A.loc 4) rfl) (S.cons (X.dN (E.b8 (fun _=>⟨_,rfl⟩) (bO c (by decide)) (E.ad 1))) (S.cons (X.if (T.not (T.val (E.b8 (fun _=>⟨_,rfl⟩) (dx c (by decide)) (E.ad 1)))) (S.one X.stop) S.nil) (S.one (X.a7 (E.ad 4) (A.sub (E.attr (E.ad 0) (ck c) (fun _=>rfl)) (E.ad 3)) rfl)))))))))))
theorem kB (c:Fc U):aO U 5 (.ref 539) bd:=call_of (kf c) (kw c)
theorem ky (c:Fc U) {n:Nat} (h:5≤n):∀ p∈[(5,bd)],bS U n (PySem.Str.ofString "read_definition") p.1 p.2:=bF c (pp c) (by decide) (by kernel_rfl) (by kernel_rfl) (by kernel_rfl) (kB c) h
theorem jz (c:Fc U):ci U 525 (fS (cd 40 5)) (fB (cd 40 5)) (bU (cd 40 5) 1) []:=
  gM c
theorem jL (c:Fc U):aK U 5 (fS (cd 40 5)) (fB (cd 40 5)) cZ:=
  (S.cons (X.qJ (ft:=be) (f:=aM) (T.cmp (E.attr (E.ad 0) (oy c) (fun _=>rfl)) (E.bG (i:=5) (by kernel_rfl) (boot_len c) (E.attr (E.ad 0) (pA c) (fun _=>rfl)) gp) FY) (S.cons (X.BF (E.item (E.attr (E.ad 0) (pA c) (fun _=>rfl)) (E.attr (E.ad 0) (oy c) (fun _=>rfl))) (A.tup (As.cons (A.loc 1) (As.cons (A.loc 2) As.nil))) (fun _ _=>rfl) (fun _ _=>rfl) (fun _=>rfl)) (S.cons (X.EN (E.ad 0) (oy c) E.bp) (S.cons (X.a7 (E.slice (E.attr (E.ad 0) (cg c) (fun _=>rfl)) (P.some (E.ad 1)) (P.some (E.ad 2))) (A.loc 3) rfl) (S.cons (X.if (T.cmp (E.ms (fun _=>⟨_,rfl⟩) yi (E.ad 3) (L.c1 (E.glob (i:=6) (by kernel_rfl) (pC c)) L.n0) (fun _=>rfl)) (E.glob (i:=7) (by kernel_rfl) (v7 c)) sEq) (S.one X.Lj) S.nil) (S.cons (X.if (T.val (E.fn (i:=8) (by kernel_rfl) (qX c) ((sx c).le (by decide)) (L.c1 (E.ad 3) L.n0))) (S.one X.cont) S.nil) (S.cons (X.a7 (E.new (i:=9) (by kernel_rfl) (CJ c (by decide)) (L.c1 (E.slice (E.attr (E.ad 0) (cg c) (fun _=>rfl)) P.none (P.some (E.ad 2))) (L.c1 (E.ad 1) L.n0)) (fun _=>rfl)) (A.loc 4) rfl) (S.one (X.if (T.val (E.ms (fun _=>⟨_,rfl⟩) uf (E.ad 3) (L.c1 E.aX L.n0) (fun _=>rfl))) (S.one (X.dN (E.kA (fun _=>⟨_,rfl⟩) (jF c (by decide)) (E.ad 0) (L.c1 (E.ad 4) L.n0)))) (S.one (X.dN (E.kA (fun _=>⟨_,rfl⟩) (ky c (by decide)) (E.ad 0) (L.c1 (E.ad 4) L.n0))))))))))))) (S.one X.stop))
theorem kr (c:Fc U):aO U 6 (.ref 525) bx:=call_of (jz c) (jL c)
theorem jK (c:Fc U) {n:Nat} (h:6≤n):∀ p∈[(5,bx)],bS U n (PySem.Str.ofString "read_definitions") p.1 p.2:=bF c (pp c) (by decide) (by kernel_rfl) (by kernel_rfl) (by kernel_rfl) (kr c) h
theorem kX (c:Fc U):ci U 558 (fS (cd 40 10)) (fB (cd 40 10)) (bU (cd 40 10) 2) []:=
  hY c
theorem lQ (c:Fc U):aK U 2 (fS (cd 40 10)) (fB (cd 40 10)) bQ:=
  (S.cons (X.if (T.bool (T.CL (T.val (E.kA (fun _=>⟨_,rfl⟩) (qz c (by decide)) (E.ad 1) (L.c1 (E.glob (i:=6) (by kernel_rfl) (rN c)) L.n0))) (T.last (T.not (T.val (E.kA (fun _=>⟨_,rfl⟩) (eh c (by decide)) (E.ad 1) (L.c1 E.aX L.n0))))))) (S.one (X.ret (E.lst L.n0))) S.nil) (S.cons (X.if (T.val (E.kA (fun _=>⟨_,rfl⟩) (eh c (by decide)) (E.ad 1) (L.c1 E.aX L.n0))) (S.one (X.ret (E.zF (i:=7) (j:=8) (by kernel_rfl) (boot_list c) (by kernel_rfl) (boot_range c) (L.c1 (E.bG (i:=9) (by kernel_rfl) (boot_len c) (E.attr (E.ad 0) (aZ c) (fun _=>rfl)) gp) L.n0) (fun _=>rfl) (fun _=>rfl)))) S.nil) (S.cons (X.a7 (E.b8 (fun _=>⟨_,rfl⟩) (gX c (by decide)) (E.ad 0)) (A.loc 2) rfl) (S.cons (X.a7 (E.ti L.n0) (A.loc 3) rfl) (S.one (X.qJ (ft:=b6) (f:=bA) (T.val E.io) (S.cons (X.a7 (E.attr (E.ad 1) (dQ c) (fun _=>rfl)) (A.loc 4) rfl) (S.cons (X.a7 (E.b8 (fun _=>⟨_,rfl⟩) (gV c (by decide)) (E.ad 1)) (A.loc 5) rfl) (S.cons (X.if (T.cmp (E.ad 5) (E.ad 2) p9) (S.one X.stop) S.nil) (S.cons (X.dN (E.append (fun _=>⟨_,rfl⟩) (E.ad 3) (E.index (fun _=>⟨_,rfl⟩) (E.ad 2) (E.ad 5) (fun _=>rfl)))) (S.cons (X.if (T.val (E.kA (fun _=>⟨_,rfl⟩) (eh c (by decide)) (E.ad 1) (L.c1 E.aX L.n0))) (S.one (X.ret (E.vD (E.ad 3)))) S.nil) (S.one (X.if (T.not (T.val (E.kA (fun _=>⟨_,rfl⟩) (eh c (by decide)) (E.ad 1) (L.c1 E.aX L.n0)))) (S.one X.stop) S.nil)))))))))))))
theorem lT (c:Fc U):aO U 3 (.ref 558) aN:=call_of (kX c) (lQ c)
theorem lV (c:Fc U) {n:Nat} (h:3≤n):∀ p∈[(5,aN)],bS U n (PySem.Str.ofString "conditions_at") p.1 p.2:=bF c (pp c) (by decide) (by kernel_rfl) (by kernel_rfl) (by kernel_rfl) (lT c) h
theorem mS (c:Fc U):ci U 551 (fS (cd 40 9)) (fB (cd 40 9)) (bU (cd 40 9) 2) []:=
  hY c
theorem ou (c:Fc U):aK U 5 (fS (cd 40 9)) (fB (cd 40 9)) eX:=
  (S.cons (X.a7 (E.attr (E.ad 1) (dQ c) (fun _=>rfl)) (A.loc 2) rfl) (S.cons (X.if (T.val (E.attr (E.cC 0) (nh c) (fun _=>rfl))) S.stop (S.one (X.if (T.cmp (E.b8 (fun _=>⟨_,rfl⟩) (i5 c (by decide)) (E.ad 1)) (E.tup (L.c1 E.aX (L.c1 E.aX L.n0))) A2) (S.one X.stop) S.nil))) (S.cons (X.a7 (E.lst L.n0) (A.loc 3) rfl) (S.cons (X.if (T.val (E.attr (E.cC 0) (nh c) (fun _=>rfl))) S.stop S.nil) (S.cons (X.a7 (E.kA (fun _=>⟨_,rfl⟩) (lV c (by decide)) (E.cC 0) (L.c1 (E.ad 1) L.n0)) (A.loc 4) rfl) (S.cons (X.if (T.val (E.ad 4)) (S.cons (X.a7 (E.bin (E.ad 3) (E.ad 4) dm) (A.loc 3) rfl) (S.one (X.if (T.cmp (E.ms (fun _=>⟨_,rfl⟩) yi (E.slice (E.attr (E.ad 1) (cg c) (fun _=>rfl)) (P.some (E.attr (E.ad 1) (dQ c) (fun _=>rfl))) P.none) (L.c1 (E.glob (i:=8) (by kernel_rfl) (pC c)) L.n0) (fun _=>rfl)) E.aX sEq) (S.cons (X.dN (E.append (fun _=>⟨_,rfl⟩) (E.attr (E.cC 0) (nh c) (fun _=>rfl)) (E.tup (L.c1 (E.ad 3) (L.c1 (E.ad 2) L.n0))))) (S.one X.Lj)) S.nil))) S.nil) (S.cons (X.if (T.not (T.val (E.ad 3))) (S.one (X.oK (sel:=[none,none,some 0]) (i:=3) (it:=cJ) (a:=bW) (ft:=bV) (f:=bX) (I.range (i:=10) (by kernel_rfl) (boot_range c) (L.c1 (E.bG (i:=11) (by kernel_rfl) (boot_len c) (E.attr (E.cC 0) (aZ c) (fun _=>rfl)) gp) L.n0) (fun _=>rfl) (fun _ _=>rfl)) (A.loc 1) (C.one (T.not (T.val (E.item (E.item (E.attr (E.cC 2) (aZ c) (fun _=>rfl)) (E.ad 1)) E.bp)))) (E.ad 1) bh rfl bt ca (fun _ _=>rfl) (by kernel_rfl) (ul (by kernel_rfl)))) S.nil) (S.cons (X.a7 E.fK (A.loc 5) rfl) (S.cons (X.if (T.not (T.val (E.kA (fun _=>⟨_,rfl⟩) (eh c (by decide)) (E.ad 1) (L.c1 (E.glob (i:=12) (by kernel_rfl) (rN c)) L.n0)))) (S.one (X.a7 (E.kA (fun _=>⟨_,rfl⟩) (nJ c (by decide)) (E.cC 0) (L.c1 (E.ad 1) L.n0)) (A.loc 5) rfl)) S.nil) (S.cons (X.if (T.cmp (E.b8 (fun _=>⟨_,rfl⟩) (i5 c (by decide)) (E.ad 1)) (E.tup (L.c1 E.aX (L.c1 E.aX L.n0))) p9) (S.one X.stop) S.nil) (S.cons (X.dN (E.b8 (fun _=>⟨_,rfl⟩) (bO c (by decide)) (E.ad 1))) (S.cons (X.a7 E.fK (A.loc 6) rfl) (S.cons (X.if (T.val (E.kA (fun _=>⟨_,rfl⟩) (eh c (by decide)) (E.ad 1) (L.c1 E.aX L.n0))) S.stop (S.one (X.a7 (E.fn (i:=13) (by kernel_rfl) (Bs c) ((DC c).le (by decide)) (L.c1 (E.ad 1) (L.c1 (E.b8 (fun _=>⟨_,rfl⟩) (gX c (by decide)) (E.cC 0)) L.n0))) (A.loc 6) rfl))) (S.one (X.dN (E.append (fun _=>⟨_,rfl⟩) (E.attr (E.cC 0) (pV c) (fun _=>rfl)) (E.tup (L.c1 (E.bG (i:=14) (by kernel_rfl) (boot_tuple c) (E.Iq (i:=15) (j:=16) (by kernel_rfl) (boot_sorted c) (by kernel_rfl) (boot_set c) (L.c1 (E.ad 3) L.n0) (fun _=>rfl) (fun _=>rfl)) pO) (L.c1 (E.ad 5) (L.c1 (E.ad 6) (L.c1 (E.ad 2) (L.c1 (E.attr (E.cC 0) (oy c) (fun _=>rfl)) L.n0))))))))))))))))))))))
theorem ot (c:Fc U):aO U 6 (.ref 551) bv:=call_of (mS c) (ou c)
theorem ox (c:Fc U) {n:Nat} (h:6≤n):∀ p∈[(5,bv)],bS U n (PySem.Str.ofString "read_line") p.1 p.2:=bF c (pp c) (by decide) (by kernel_rfl) (by kernel_rfl) (by kernel_rfl) (ot c) h
theorem mN (c:Fc U):ci U 546 (fS (cd 40 8)) (fB (cd 40 8)) (bU (cd 40 8) 1) []:=
  gM c
theorem oi (c:Fc U):aK U 6 (fS (cd 40 8)) (fB (cd 40 8)) eS:=
  (S.cons (X.qJ (ft:=bl) (f:=aS) (T.cmp (E.attr (E.ad 0) (oy c) (fun _=>rfl)) (E.bG (i:=4) (by kernel_rfl) (boot_len c) (E.attr (E.ad 0) (pA c) (fun _=>rfl)) gp) FY) (S.cons (X.BF (E.item (E.attr (E.ad 0) (pA c) (fun _=>rfl)) (E.attr (E.ad 0) (oy c) (fun _=>rfl))) (A.tup (As.cons (A.loc 1) (As.cons (A.loc 2) As.nil))) (fun _ _=>rfl) (fun _ _=>rfl) (fun _=>rfl)) (S.cons (X.EN (E.ad 0) (oy c) E.bp) (S.cons (X.a7 (E.slice (E.attr (E.ad 0) (cg c) (fun _=>rfl)) (P.some (E.ad 1)) (P.some (E.ad 2))) (A.loc 3) rfl) (S.cons (X.if (T.cmp (E.ms (fun _=>⟨_,rfl⟩) yi (E.ad 3) (L.c1 (E.glob (i:=5) (by kernel_rfl) (pC c)) L.n0) (fun _=>rfl)) (E.glob (i:=6) (by kernel_rfl) (v7 c)) sEq) (S.cons (X.a7 (E.slice (E.attr (E.ad 0) (cg c) (fun _=>rfl)) (P.some (E.bin (E.ad 2) E.bp dm)) P.none) (A.attr (E.ad 0) (tab_tail c)) rfl) (S.one X.brk)) S.nil) (S.one (X.if (T.not (T.val (E.fn (i:=7) (by kernel_rfl) (qX c) ((sx c).le (by decide)) (L.c1 (E.ad 3) L.n0)))) (S.one (X.dN (E.kA (fun _=>⟨_,rfl⟩) (ox c (by decide)) (E.ad 0) (L.c1 (E.new (i:=8) (by kernel_rfl) (CJ c (by decide)) (L.c1 (E.slice (E.attr (E.ad 0) (cg c) (fun _=>rfl)) P.none (P.some (E.ad 2))) (L.c1 (E.ad 1) L.n0)) (fun _=>rfl)) L.n0)))) S.nil))))))) (S.one (X.if (T.val (E.attr (E.ad 0) (nh c) (fun _=>rfl))) S.stop S.nil)))
theorem om (c:Fc U):aO U 7 (.ref 546) bI:=call_of (mN c) (oi c)
theorem nH (c:Fc U) {n:Nat} (h:7≤n):∀ p∈[(5,bI)],bS U n (PySem.Str.ofString "read_rules") p.1 p.2:=bF c (pp c) (by decide) (by kernel_rfl) (by kernel_rfl) (by kernel_rfl) (om c) h
theorem lX (c:Fc U):ci U 565 (fS (cd 40 11)) (fB (cd 40 11)) (bU (cd 40 11) 1) []:=
  gM c
theorem mG (c:Fc U):aK U 2 (fS (cd 40 11)) (fB (cd 40 11)) ef:=
  (S.cons (X.a7 (E.ti L.n0) (A.loc 1) rfl) (S.cons (X.a7 E.fK (A.loc 2) rfl) (S.cons (X.A3 (it:=gs) (a:=dy) (f:=bJ) (I.range (i:=10) (by kernel_rfl) (boot_range c) (L.c1 (E.bin (E.bG (i:=11) (by kernel_rfl) (boot_len c) (E.attr (E.ad 0) (pV c) (fun _=>rfl)) gp) E.bp KJ) (L.c1 (E.neg E.bp) (L.c1 (E.neg E.bp) L.n0))) (fun _=>rfl) (fun _ _=>rfl)) (A.loc 3) (S.cons (X.BF (E.item (E.attr (E.ad 0) (pV c) (fun _=>rfl)) (E.ad 3)) (A.tup (As.cons (A.loc 4) (As.cons (A.loc 5) (As.cons (A.loc 6) (As.cons (A.loc 7) (As.cons (A.loc 8) As.nil)))))) (fun _ _=>rfl) (fun _ _=>rfl) (fun _=>rfl)) (S.cons (X.if (T.cmp (E.ad 6) E.fK DR) (S.one (X.a7 (E.ad 6) (A.loc 2) rfl)) S.nil) (S.cons (X.if (T.cmp (E.ad 2) E.fK EO) (S.one X.stop) S.nil) (S.cons (X.if (T.cmp (E.ad 5) E.fK EO) (S.one (X.A3 (it:=dA) (a:=cr) (f:=cp) (I.val (E.ad 2)) (A.loc 9) (S.one (X.if (T.cmp (E.attr (E.ad 9) (ja c) (fun _=>rfl)) (E.glob (i:=14) (by kernel_rfl) (yy c)) A2) (S.one X.stop) S.nil)) (fun _ _=>rfl))) S.nil) (S.one (X.dN (E.append (fun _=>⟨_,rfl⟩) (E.ad 1) (E.vD (E.new (i:=15) (by kernel_rfl) (zh c (by decide)) (L.c1 (E.ad 3) (L.c1 (E.ad 4) (L.c1 (E.ad 5) (L.c1 (E.ad 2) (L.c1 (E.ad 8) L.n0))))) (fun _=>rfl)))))))))) (fun _ _=>rfl)) (S.cons (X.dN (E.reverse (fun _=>⟨_,rfl⟩) (E.ad 1))) (S.one (X.ret (E.vD (E.ad 1))))))))
theorem mJ (c:Fc U):aO U 3 (.ref 565) b9:=call_of (lX c) (mG c)
theorem mI (c:Fc U) {n:Nat} (h:3≤n):∀ p∈[(5,b9)],bS U n (PySem.Str.ofString "built_rules") p.1 p.2:=bF c (pp c) (by decide) (by kernel_rfl) (by kernel_rfl) (by kernel_rfl) (mJ c) h
theorem qE (c:Fc U):ci U 518 (fS (cd 40 4)) (fB (cd 40 4)) (bU (cd 40 4) 1) []:=
  gM c
theorem qW (c:Fc U):aK U 7 (fS (cd 40 4)) (fB (cd 40 4)) iL:=
  (S.cons (X.dN (E.b8 (fun _=>⟨_,rfl⟩) (jK c (by decide)) (E.ad 0))) (S.cons (X.dN (E.b8 (fun _=>⟨_,rfl⟩) (nH c (by decide)) (E.ad 0))) (S.cons (X.a7 (E.b8 (fun _=>⟨_,rfl⟩) (mI c (by decide)) (E.ad 0)) (A.loc 1) rfl) (S.one (X.ret (E.vD (E.new (i:=2) (by kernel_rfl) (zf c (by decide)) (L.c1 (E.vD (E.attr (E.ad 0) (ck c) (fun _=>rfl))) (L.c1 (E.vD (E.attr (E.ad 0) (aZ c) (fun _=>rfl))) (L.c1 (E.ad 1) (L.c1 (E.attr (E.ad 0) (dZ c) (fun _=>rfl)) (L.c1 (E.attr (E.ad 0) (tab_tail c) (fun _=>rfl)) L.n0))))) (fun _=>rfl))))))))
theorem rS (c:Fc U):aO U 8 (.ref 518) dM:=call_of (qE c) (qW c)
theorem qN (c:Fc U) {n:Nat} (h:8≤n):∀ p∈[(5,dM)],bS U n (PySem.Str.ofString "read") p.1 p.2:=bF c (pp c) (by decide) (by kernel_rfl) (by kernel_rfl) (by kernel_rfl) (rS c) h
theorem vP (c:Fc U):ci U 579 (fS (sd 41)) (fB (sd 41)) (bU (sd 41) 1) []:=
  gM c
theorem xI (c:Fc U):aK U 8 (fS (sd 41)) (fB (sd 41)) n8:=
  (S.one (X.ret (E.b8 (fun _=>⟨_,rfl⟩) (qN c (by decide)) (E.new (i:=1) (by kernel_rfl) (vW c (by decide)) (L.c1 (E.ad 0) L.n0) (fun _=>rfl)))))
theorem xL (c:Fc U):aO U 9 (.ref 579) iK:=call_of (vP c) (xI c)
end
end Mine
end
section
open PySem PySem.W PyProof.Rows PySem.Calls PySem.SeqAt
namespace Mine
set_option maxHeartbeats 4000000
theorem HO {sc:Scope}{elt:PySem.Expr}{gens:List Comprehension}{scope:Scope}{pos tp:Pos}{t:Str}{line:Nat}{b:Bool} (hb:LX sc scope t tp.line pos.line=b):∀ env,env.scope=sc→swapsWithSole [.Name t tp] (.ListComp elt gens scope pos) line env=pure b:=fun env h=>ul (line:=line) hb env h
section
variable {U:fL}
theorem yB (c:Fc U):ci U 584 (fS (sd 42)) (fB (sd 42)) (bU (sd 42) 1) []:=
  gM c
theorem At (c:Fc U):aK U 1 (fS (sd 42)) (fB (sd 42)) qc:=
  (S.one (X.ret (E.ms (fun _=>⟨_,rfl⟩) rk E.aX (L.c1 (E.comp (sel:=[none,none]) (it:=lY) (a:=l9) (ft:=me) (f:=lZ) (I.val (E.ad 0)) (A.loc 1) C.nil (E.b8 (fun _=>⟨_,rfl⟩) (xj c (by decide)) (E.ad 1)) bh rfl bt ca (fun _ _=>rfl)) L.n0) (fun _=>rfl))))
theorem AI (c:Fc U):aO U 2 (.ref 584) jZ:=call_of (yB c) (At c)
theorem sH (c:Fc U):ci U 589 (fS (sd 43)) (fB (sd 43)) (bU (sd 43) 3) []:=
  By c
theorem tV (c:Fc U):aK U 1 (fS (sd 43)) (fB (sd 43)) kn:=
  (S.cons (X.if (T.bool (T.qB (T.cmp (E.ad 1) (E.b8 (fun _=>⟨_,rfl⟩) (ip c (by decide)) (E.cC 0)) sEq) (T.last (T.not (T.val (E.ad 2)))))) (S.one (X.ret E.aX)) S.nil) (S.cons (X.if (T.cmp (E.bG (i:=3) (by kernel_rfl) (boot_len c) (E.ad 1) gp) (E.bG (i:=3) (by kernel_rfl) (boot_len c) (E.attr (E.cC 0) (aZ c) (fun _=>rfl)) gp) sEq) (S.one (X.ret E.aX)) S.nil) (S.one (X.ret (E.bin (E.bin E.aX (E.ms (fun _=>⟨_,rfl⟩) rk E.aX (L.c1 (E.comp (sel:=[none,none,some 0]) (it:=fC) (a:=fg) (ft:=fw) (f:=ff) (I.val (E.ad 1)) (A.loc 1) C.nil (E.item (E.item (E.attr (E.cC 2) (aZ c) (fun _=>rfl)) (E.ad 1)) E.bp) bh rfl bt ca (fun _ _=>rfl)) L.n0) (fun _=>rfl)) dm) E.aX dm)))))
theorem ud (c:Fc U):aO U 2 (.ref 589) dW:=call_of (sH c) (tV c)
theorem z7 (c:Fc U):ci U 596 (fS (sd 44)) (fB (sd 44)) (bU (sd 44) 3) []:=
  By c
theorem CD (c:Fc U):aK U 2 (fS (sd 44)) (fB (sd 44)) rG:=
  (S.cons (X.a7 E.io (A.loc 3) rfl) (S.cons (X.if (T.cmp (E.attr (E.ad 1) (iG c) (fun _=>rfl)) E.fK EO) (S.one (X.a7 (E.glob (i:=4) (by kernel_rfl) (rN c)) (A.loc 2) rfl)) (S.one (X.a7 (E.LU (E.ms (fun _=>⟨_,rfl⟩) uf (E.ad 2) (L.c1 E.aX L.n0) (fun _=>rfl)) (E.ms (fun _=>⟨_,rfl⟩) uf (E.ad 2) (L.c1 (E.glob (i:=5) (by kernel_rfl) (zv c)) L.n0) (fun _=>rfl))) (A.loc 3) rfl))) (S.one (X.ret (E.bin (E.bin (E.bin (E.fn (i:=6) (by kernel_rfl) (sN c) ((ud c).le (by decide)) (L.c1 (E.ad 0) (L.c1 (E.attr (E.ad 1) (aZ c) (fun _=>rfl)) (L.c1 (E.ad 3) L.n0)))) (E.ad 2) dm) E.aX dm) (E.fn (i:=7) (by kernel_rfl) (yP c) ((AI c).le (by decide)) (L.c1 (E.attr (E.ad 1) (mP c) (fun _=>rfl)) L.n0)) dm)))))
theorem Bx (c:Fc U):aO U 3 (.ref 596) oH:=call_of (z7 c) (CD c)
theorem zW (c:Fc U):ci U 603 (fS (sd 45)) (fB (sd 45)) (bU (sd 45) 3) []:=
  By c
theorem Bd (c:Fc U):aK U 3 (fS (sd 45)) (fB (sd 45)) rp:=
  (S.cons (X.a7 (E.ti L.n0) (A.loc 3) rfl) (S.cons (X.A3 (it:=nE) (a:=nw) (f:=nz) (I.yQ (E.slice (E.attr (E.ad 0) (aZ c) (fun _=>rfl)) (P.some E.bp) P.none)) (A.tup (As.cons (A.loc 4) (As.cons (A.loc 5) As.nil))) (S.one (X.dN (E.append (fun _=>⟨_,rfl⟩) (E.ad 3) (E.bin (E.ite (T.val (E.ad 5)) E.aX E.aX) (E.ad 4) dm)))) (fun _ _=>rfl)) (S.cons (X.if (T.not (T.val (E.attr (E.ad 0) (dZ c) (fun _=>rfl)))) (S.one (X.dN (E.append (fun _=>⟨_,rfl⟩) (E.ad 3) E.aX))) S.nil) (S.cons (X.A3 (it:=nW) (a:=m8) (f:=mX) (I.val (E.attr (E.ad 0) (ck c) (fun _=>rfl))) (A.loc 4) (S.one (X.dN (E.append (fun _=>⟨_,rfl⟩) (E.ad 3) (E.bin (E.bin (E.ad 4) E.aX dm) (E.item (E.ad 1) (E.ad 4)) dm)))) (fun _ _=>rfl)) (S.cons (X.dN (E.append (fun _=>⟨_,rfl⟩) (E.ad 3) (E.glob (i:=8) (by kernel_rfl) (v7 c)))) (S.cons (X.A3 (it:=nR) (a:=nU) (f:=jO) (I.val (E.attr (E.ad 0) (iQ c) (fun _=>rfl))) (A.loc 6) (S.one (X.dN (E.append (fun _=>⟨_,rfl⟩) (E.ad 3) (E.fn (i:=9) (by kernel_rfl) (AA c) ((Bx c).le (by decide)) (L.c1 (E.ad 0) (L.c1 (E.ad 6) (L.c1 (E.item (E.ad 2) (E.attr (E.ad 6) (pW c) (fun _=>rfl))) L.n0))))))) (fun _ _=>rfl)) (S.cons (X.a7 (E.bin (E.ms (fun _=>⟨_,rfl⟩) rk E.aX (L.c1 (E.ad 3) L.n0) (fun _=>rfl)) E.aX dm) (A.loc 7) rfl) (S.cons (X.if (T.cmp (E.attr (E.ad 0) (tab_tail c) (fun _=>rfl)) E.aX yx) (S.one (X.a7 (E.bin (E.bin (E.bin (E.ad 7) (E.glob (i:=8) (by kernel_rfl) (v7 c)) dm) E.aX dm) (E.attr (E.ad 0) (tab_tail c) (fun _=>rfl)) dm) (A.loc 7) rfl)) S.nil) (S.one (X.ret (E.ad 7)))))))))))
theorem Cd (c:Fc U):aO U 4 (.ref 603) oT:=call_of (zW c) (Bd c)
theorem vF (c:Fc U):ci U 608 (fS (sd 46)) (fB (sd 46)) (bU (sd 46) 1) []:=
  gM c
theorem xB (c:Fc U):aK U 4 (fS (sd 46)) (fB (sd 46)) nG:=
  (S.cons (X.a7 E.La (A.loc 1) rfl) (S.cons (X.A3 (it:=hX) (a:=ie) (f:=ii) (I.val (E.attr (E.ad 0) (ck c) (fun _=>rfl))) (A.loc 2) (S.one (X.a7 (E.attr (E.item (E.attr (E.ad 0) (ck c) (fun _=>rfl)) (E.ad 2)) (cg c) (fun _=>rfl)) (A.sub (E.ad 1) (E.ad 2)) rfl)) (fun _ _=>rfl)) (S.cons (X.oK (sel:=[none,none]) (i:=3) (it:=fE) (a:=ia) (ft:=ib) (f:=fD) (I.val (E.attr (E.ad 0) (iQ c) (fun _=>rfl))) (A.loc 1) C.nil (E.ite (T.cmp (E.attr (E.ad 1) (iG c) (fun _=>rfl)) E.fK EO) E.aX (E.attr (E.attr (E.ad 1) (iG c) (fun _=>rfl)) (cg c) (fun _=>rfl))) bh rfl bt ca (fun _ _=>rfl) (by kernel_rfl) (ul (by kernel_rfl))) (S.one (X.ret (E.fn (i:=4) (by kernel_rfl) (z9 c) ((Cd c).le (by decide)) (L.c1 (E.ad 0) (L.c1 (E.ad 1) (L.c1 (E.ad 3) L.n0)))))))))
theorem q7 (c:Fc U):aO U 5 (.ref 608) iP:=call_of (vF c) (xB c)
theorem Cw (c:Fc U):ci U 618 (fS (sd 51)) (fB (sd 51)) (bU (sd 51) 2) []:=
  hY c
theorem C8 (c:Fc U):aK U 0 (fS (sd 51)) (fB (sd 51)) sR:=
  (S.cons (X.wk (names:=[PySem.Str.ofString "cells",PySem.Str.ofString "at"]) (E.tup (L.c1 (E.item (E.ad 0) E.bp) (L.c1 (E.item (E.ad 0) E.bp) L.n0))) (fun _=>rfl) (fun env h=>by cases env; cases h; kernel_rfl) rfl (pR (by kernel_rfl))) (S.cons (X.a7 (E.bin (E.ad 3) E.bp dm) (A.sub (E.ad 0) E.bp) rfl) (S.one (X.ret (E.bin (E.bin (E.item (E.ad 2) (E.bin (E.ad 3) (E.bG (i:=4) (by kernel_rfl) (boot_len c) (E.ad 2) gp) Im)) (E.bin E.bp (E.bin (E.ad 3) (E.bG (i:=4) (by kernel_rfl) (boot_len c) (E.ad 2) gp) KQ) Ly) dm) (E.ad 1) Im)))))
theorem dt (c:Fc U):aO U 1 (.ref 618) b4:=call_of (Cw c) (C8 c)
theorem zY (c:Fc U):ci U 625 (fS (sd 52)) (fB (sd 52)) (bU (sd 52) 3) []:=
  By c
theorem Bo (c:Fc U):aK U 1 (fS (sd 52)) (fB (sd 52)) rz:=
  (S.cons (X.wk (names:=[PySem.Str.ofString "found",PySem.Str.ofString "many"]) (E.tup (L.c1 (E.ti L.n0) (L.c1 (E.bin E.bp (E.fn (i:=9) (by kernel_rfl) (cO c) ((dt c).le (by decide)) (L.c1 (E.ad 0) (L.c1 E.bp L.n0))) dm) L.n0))) (fun _=>rfl) (fun env h=>by cases env; cases h; kernel_rfl) rfl (pR (by kernel_rfl))) (S.cons (X.A3 (it:=rK) (a:=nO) (f:=kl) (I.range (i:=10) (by kernel_rfl) (boot_range c) (L.c1 (E.ad 4) L.n0) (fun _=>rfl) (fun _ _=>rfl)) (A.loc 5) (S.cons (X.a7 (E.fn (i:=9) (by kernel_rfl) (cO c) ((dt c).le (by decide)) (L.c1 (E.ad 0) (L.c1 E.bp L.n0))) (A.loc 6) rfl) (S.cons (X.a7 (E.item (E.glob (i:=11) (by kernel_rfl) (sA c)) (E.ad 6)) (A.loc 7) rfl) (S.cons (X.if (T.bool (T.CL (T.bool (T.qB (T.val (E.ad 2)) (T.last (T.cmp (E.ad 7) (E.tup (L.c1 E.aX (L.c1 E.aX (L.c1 E.aX L.n0)))) A2)))) (T.last (T.bool (T.qB (T.cmp (E.bin (E.ad 5) E.bp dm) (E.ad 4) FY) (T.last (T.cmp (E.ad 7) (E.tup (L.c1 E.aX (L.c1 E.aX L.n0))) A2))))))) (S.one (X.BF (E.tup (L.c1 E.aX (L.c1 E.bp L.n0))) (A.tup (As.cons (A.loc 7) (As.cons (A.loc 6) As.nil))) (fun _ _=>rfl) (fun env h=>by cases env; cases h; kernel_rfl) (fun _=>rfl))) S.nil) (S.cons (X.a7 E.fK (A.loc 8) rfl) (S.cons (X.if (T.cmp (E.ad 7) E.aX sEq) (S.one (X.a7 (E.item (E.tup (L.c1 E.aX (L.c1 E.aX L.n0))) (E.ad 6)) (A.loc 8) rfl)) (S.one (X.if (T.cmp (E.ad 7) (E.tup (L.c1 E.aX (L.c1 E.aX L.n0))) A2) (S.one (X.a7 (E.item (E.ad 1) (E.bin (E.ad 5) (E.bG (i:=12) (by kernel_rfl) (boot_len c) (E.ad 1) gp) Im)) (A.loc 8) rfl)) (S.one (X.if (T.cmp (E.ad 7) E.aX sEq) (S.one (X.a7 (E.bin E.bp (E.ad 5) dm) (A.loc 8) rfl)) S.nil))))) (S.one (X.dN (E.append (fun _=>⟨_,rfl⟩) (E.ad 3) (E.tup (L.c1 (E.ad 7) (L.c1 (E.ad 8) L.n0))))))))))) (fun _ _=>rfl)) (S.one (X.ret (E.vD (E.ad 3))))))
theorem Bw (c:Fc U):aO U 2 (.ref 625) oF:=call_of (zY c) (Bo c)
theorem zO (c:Fc U):ci U 630 (fS (sd 53)) (fB (sd 53)) (bU (sd 53) 1) []:=
  gM c
theorem BM (c:Fc U):aK U 2 (fS (sd 53)) (fB (sd 53)) ru:=
  (S.cons (X.a7 (E.ti (L.c1 (E.tup (L.c1 E.aX (L.c1 E.io L.n0))) L.n0)) (A.vp 1) rfl) (S.cons (X.A3 (it:=rI) (a:=og) (f:=jY) (I.range (i:=13) (by kernel_rfl) (boot_range c) (L.c1 (E.fn (i:=14) (by kernel_rfl) (cO c) ((dt c).le (by decide)) (L.c1 (E.ad 0) (L.c1 E.bp L.n0))) L.n0) (fun _=>rfl) (fun _ _=>rfl)) (A.loc 2) (S.one (X.dN (E.append (fun _=>⟨_,rfl⟩) (E.cC 1) (E.tup (L.c1 (E.item (E.tup (L.c1 E.aX (L.c1 E.aX (L.c1 E.aX L.n0)))) (E.ad 2)) (L.c1 (E.cmp (E.fn (i:=14) (by kernel_rfl) (cO c) ((dt c).le (by decide)) (L.c1 (E.ad 0) (L.c1 E.bp L.n0))) E.bp sEq) L.n0)))))) (fun _ _=>rfl)) (S.cons (X.wk (names:=[PySem.Str.ofString "is_default",PySem.Str.ofString "definitions",PySem.Str.ofString "rules"]) (E.tup (L.c1 (E.cmp (E.fn (i:=14) (by kernel_rfl) (cO c) ((dt c).le (by decide)) (L.c1 (E.ad 0) (L.c1 E.bp L.n0))) E.bp sEq) (L.c1 (E.ti L.n0) (L.c1 (E.ti L.n0) L.n0)))) (fun _=>rfl) (fun env h=>by cases env; cases h; kernel_rfl) rfl (pR (by kernel_rfl))) (S.cons (X.A3 (it:=rB) (a:=n9) (f:=jT) (I.range (i:=13) (by kernel_rfl) (boot_range c) (L.c1 (E.fn (i:=14) (by kernel_rfl) (cO c) ((dt c).le (by decide)) (L.c1 (E.ad 0) (L.c1 E.bp L.n0))) L.n0) (fun _=>rfl) (fun _ _=>rfl)) (A.loc 2) (S.one (X.dN (E.append (fun _=>⟨_,rfl⟩) (E.ad 4) (E.tup (L.c1 (E.item (E.tup (L.c1 E.aX (L.c1 E.aX L.n0))) (E.ad 2)) (L.c1 (E.item (E.glob (i:=15) (by kernel_rfl) (to c)) (E.fn (i:=14) (by kernel_rfl) (cO c) ((dt c).le (by decide)) (L.c1 (E.ad 0) (L.c1 E.bp L.n0)))) L.n0)))))) (fun _ _=>rfl)) (S.vD (i:=1) (S.cons (X.oK (sel:=[none,none]) (i:=6) (it:=m9) (a:=nt) (ft:=mW) (f:=nK) (I.val (E.cC 1)) (A.loc 1) C.nil (E.item (E.ad 1) E.bp) bh rfl bt ca (fun _ _=>rfl) (by kernel_rfl) (ul (by kernel_rfl))) (S.cons (X.a7 (E.bG (i:=16) (by kernel_rfl) (boot_tuple c) (E.comp (sel:=[none,none,some 1]) (it:=nT) (a:=nj) (ft:=nm) (f:=nN) (I.range (i:=13) (by kernel_rfl) (boot_range c) (L.c1 (E.bG (i:=17) (by kernel_rfl) (boot_len c) (E.ad 6) gp) L.n0) (fun _=>rfl) (fun _ _=>rfl)) (A.loc 1) (C.one (T.not (T.val (E.item (E.item (E.cC 2) (E.ad 1)) E.bp)))) (E.ad 1) bh rfl bt ca (fun _ _=>rfl)) pO) (A.loc 7) rfl) (S.cons (X.A3 (it:=rj) (a:=mV) (f:=km) (I.range (i:=13) (by kernel_rfl) (boot_range c) (L.c1 (E.fn (i:=14) (by kernel_rfl) (cO c) ((dt c).le (by decide)) (L.c1 (E.ad 0) (L.c1 E.bp L.n0))) L.n0) (fun _=>rfl) (fun _ _=>rfl)) (A.loc 2) (S.cons (X.wk (names:=[PySem.Str.ofString "is_end",PySem.Str.ofString "raw",PySem.Str.ofString "way"]) (E.tup (L.c1 (E.cmp (E.fn (i:=14) (by kernel_rfl) (cO c) ((dt c).le (by decide)) (L.c1 (E.ad 0) (L.c1 E.bp L.n0))) E.bp sEq) (L.c1 (E.item (E.glob (i:=15) (by kernel_rfl) (to c)) (E.fn (i:=14) (by kernel_rfl) (cO c) ((dt c).le (by decide)) (L.c1 (E.ad 0) (L.c1 E.bp L.n0)))) (L.c1 (E.fn (i:=14) (by kernel_rfl) (cO c) ((dt c).le (by decide)) (L.c1 (E.ad 0) (L.c1 E.bp L.n0))) L.n0)))) (fun _=>rfl) (fun env h=>by cases env; cases h; kernel_rfl) rfl (pR (by kernel_rfl))) (S.cons (X.a7 (E.ad 7) (A.loc 11) rfl) (S.cons (X.if (T.cmp (E.ad 10) E.bp Lp) (S.cons (X.a7 (E.bin E.bp (E.fn (i:=14) (by kernel_rfl) (cO c) ((dt c).le (by decide)) (L.c1 (E.ad 0) (L.c1 (E.bin (E.bin E.bp (E.bG (i:=17) (by kernel_rfl) (boot_len c) (E.ad 6) gp) KG) E.bp KJ) L.n0))) dm) (A.vp 12) rfl) (S.one (X.a7 (E.bG (i:=16) (by kernel_rfl) (boot_tuple c) (E.comp (sel:=[none,none,some 12]) (it:=ng) (a:=nu) (ft:=jN) (f:=nY) (I.range (i:=13) (by kernel_rfl) (boot_range c) (L.c1 (E.bG (i:=17) (by kernel_rfl) (boot_len c) (E.ad 6) gp) L.n0) (fun _=>rfl) (fun _ _=>rfl)) (A.loc 1) (C.one (T.cmp (E.bin (E.bin (E.cC 2) (E.bin E.bp (E.ad 1) KG) KQ) E.bp Im) E.bp sEq)) (E.ad 1) bh rfl bt ca (fun _ _=>rfl)) pO) (A.loc 11) rfl))) S.nil) (S.one (X.dN (E.append (fun _=>⟨_,rfl⟩) (E.ad 5) (E.tup (L.c1 (E.ad 11) (L.c1 (E.ite (T.val (E.ad 8)) E.fK (E.ad 9)) (L.c1 (E.fn (i:=18) (by kernel_rfl) (AO c) ((Bw c).le (by decide)) (L.c1 (E.ad 0) (L.c1 (E.ad 6) (L.c1 (E.ad 8) L.n0)))) L.n0)))))))))) (fun _ _=>rfl)) (S.one (X.ret (E.tup (L.c1 (E.cC 1) (L.c1 (E.ad 3) (L.c1 (E.vD (E.ad 4)) (L.c1 (E.vD (E.ad 5)) (L.c1 (E.item (E.glob (i:=19) (by kernel_rfl) (yt c)) (E.fn (i:=14) (by kernel_rfl) (cO c) ((dt c).le (by decide)) (L.c1 (E.ad 0) (L.c1 E.bp L.n0)))) L.n0))))))))))))))))
theorem A7 (c:Fc U):aO U 3 (.ref 630) oQ:=call_of (zO c) (BM c)
theorem BJ (c:Fc U):ci U 635 (fS (sd 54)) (fB (sd 54)) (bU (sd 54) 4) []:=
  Kt c
theorem Da (c:Fc U):aK U 0 (fS (sd 54)) (fB (sd 54)) sS:=
  (S.cons (X.a7 (E.bin (E.comp (sel:=[none,none]) (it:=o8) (a:=ph) (ft:=oY) (f:=pu) (I.val (E.slice (E.cC 0) (P.some E.bp) P.none)) (A.loc 1) C.nil (E.bin (E.ite (T.val (E.item (E.ad 1) E.bp)) E.aX E.aX) (E.item (E.ad 1) E.bp) dm) bh rfl bt ca (fun _ _=>rfl)) (E.ite (T.val (E.ad 1)) (E.lst L.n0) (E.lst (L.c1 E.aX L.n0))) dm) (A.loc 4) rfl) (S.cons (X.a7 (E.Lv (E.bin (E.ad 4) (E.comp (sel:=[none,none,none]) (it:=lB) (a:=lg) (ft:=lu) (f:=lG) (I.yQ (E.ad 2)) (A.tup (As.cons (A.loc 1) (As.cons (A.loc 2) As.nil))) C.nil (E.bin (E.bin (E.ad 1) E.aX dm) (E.ad 2) dm) bh rfl bt ca (fun _ _=>rfl)) dm) (E.lst (L.c1 E.aX L.n0))) (A.loc 4) rfl) (S.cons (X.a7 (E.bG (i:=11) (by kernel_rfl) (boot_len c) (E.ad 4) gp) (A.loc 6) rfl) (S.cons (X.A3 (it:=po) (a:=pa) (f:=lA) (I.yQ (E.ad 3)) (A.tup (As.cons (A.vp 7) (As.cons (A.loc 5) (As.cons (A.loc 8) As.nil)))) (S.cons (X.a7 (E.bin (E.bin E.aX (E.ms (fun _=>⟨_,rfl⟩) rk E.aX (L.c1 (E.comp (sel:=[none,none,some 0]) (it:=lJ) (a:=lz) (ft:=ld) (f:=lp) (I.val (E.cC 7)) (A.loc 1) C.nil (E.item (E.item (E.cC 2) (E.ad 1)) E.bp) bh rfl bt ca (fun _ _=>rfl)) L.n0) (fun _=>rfl)) dm) E.aX dm) (A.loc 9) rfl) (S.cons (X.if (T.cmp (E.bG (i:=11) (by kernel_rfl) (boot_len c) (E.cC 7) gp) (E.bG (i:=11) (by kernel_rfl) (boot_len c) (E.cC 0) gp) sEq) (S.one (X.a7 E.aX (A.loc 9) rfl)) S.nil) (S.cons (X.if (T.cmp (E.comp (sel:=[none,none,some 0,some 7]) (it:=lw) (a:=lE) (ft:=lH) (f:=lF) (I.range (i:=12) (by kernel_rfl) (boot_range c) (L.c1 (E.bG (i:=11) (by kernel_rfl) (boot_len c) (E.cC 0) gp) L.n0) (fun _=>rfl) (fun _ _=>rfl)) (A.loc 1) (C.one (T.cmp (E.item (E.item (E.cC 2) (E.ad 1)) E.bp) (E.cmp (E.ad 1) (E.cC 3) A2) sEq)) (E.ad 1) bh rfl bt ca (fun _ _=>rfl)) (E.lst L.n0) sEq) (S.one (X.a7 (E.ite (T.bool (T.qB (T.cmp (E.ad 5) E.fK DR) (T.last (T.bool (T.CL (T.cmp (E.item (E.ad 5) E.bp) E.aX sEq) (T.last (T.cmp (E.slice (E.ad 5) P.none (P.some E.bp)) E.aX sEq))))))) (E.ad 9) E.aX) (A.loc 9) rfl)) S.nil) (S.cons (X.oK (sel:=[none,none,none,none]) (i:=10) (it:=pf) (a:=pb) (ft:=pe) (f:=jd) (I.yQ (E.ad 8)) (A.tup (As.cons (A.loc 1) (As.cons (A.loc 2) As.nil))) C.nil (E.ite (T.cmp (E.ad 2) E.fK EO) (E.ad 1) (E.bin (E.bin (E.ad 1) E.aX dm) (E.bG (i:=3) (by kernel_rfl) (boot_str c) (E.ad 2) Ku) dm)) bh rfl bt ca (fun _ _=>rfl) (by kernel_rfl) (ul (by kernel_rfl))) (S.one (X.dN (E.append (fun _=>⟨_,rfl⟩) (E.ad 4) (E.bin (E.bin (E.bin (E.ad 9) (E.ite (T.cmp (E.ad 5) E.fK EO) E.aX (E.ad 5)) dm) E.aX dm) (E.ms (fun _=>⟨_,rfl⟩) rk E.aX (L.c1 (E.ad 10) L.n0) (fun _=>rfl)) dm)))))))) (fun _ _=>rfl)) (S.one (X.ret (E.tup (L.c1 (E.vD (E.ad 4)) (L.c1 (E.ad 6) L.n0)))))))))
theorem Dt (c:Fc U):aO U 1 (.ref 635) qh:=call_of (BJ c) (Da c)
theorem tL (c:Fc U):ci U 640 (fS (sd 55)) (fB (sd 55)) (bU (sd 55) 3) []:=
  By c
theorem uN (c:Fc U):aK U 2 (fS (sd 55)) (fB (sd 55)) kU:=
  (S.cons (X.if (T.bool (T.CL (T.cmp (E.comp (sel:=[none,none,some 0]) (it:=gf) (a:=fU) (ft:=fW) (f:=gg) (I.val (E.cC 1)) (A.loc 1) C.nil (E.kA (fun _=>⟨_,rfl⟩) (iB c (by decide)) (E.cC 2) (L.c1 (E.item (E.ad 1) E.bp) L.n0)) bh rfl bt ca (fun _ _=>rfl)) (E.zF (i:=10) (j:=11) (by kernel_rfl) (boot_list c) (by kernel_rfl) (boot_range c) (L.c1 (E.bG (i:=12) (by kernel_rfl) (boot_len c) (E.cC 1) gp) L.n0) (fun _=>rfl) (fun _=>rfl)) yx) (T.last (T.cmp (E.kA (fun _=>⟨_,rfl⟩) (iB c (by decide)) (E.cC 0) (L.c1 E.aX L.n0)) (E.neg E.bp) yx)))) (S.one (X.ret E.io)) S.nil) (S.cons (X.if (T.cmp (E.b8 (fun _=>⟨_,rfl⟩) (ip c (by decide)) (E.cC 0)) (E.bG (i:=13) (by kernel_rfl) (boot_tuple c) (E.comp (sel:=[none,none,some 1]) (it:=fT) (a:=f0) (ft:=fV) (f:=fN) (I.range (i:=11) (by kernel_rfl) (boot_range c) (L.c1 (E.bG (i:=12) (by kernel_rfl) (boot_len c) (E.cC 1) gp) L.n0) (fun _=>rfl) (fun _ _=>rfl)) (A.loc 1) (C.one (T.not (T.val (E.item (E.item (E.cC 2) (E.ad 1)) E.bp)))) (E.ad 1) bh rfl bt ca (fun _ _=>rfl)) pO) yx) (S.one (X.ret E.io)) S.nil) (S.cons (X.A3 (it:=iX) (a:=iV) (f:=d6) (I.range (i:=11) (by kernel_rfl) (boot_range c) (L.c1 (E.bG (i:=12) (by kernel_rfl) (boot_len c) (E.cC 1) gp) L.n0) (fun _=>rfl) (fun _ _=>rfl)) (A.vp 3) (S.cons (X.oK (sel:=[none,none,none,some 3]) (i:=5) (it:=mx) (a:=mq) (ft:=mm) (f:=mn) (I.enum (i:=14) (by kernel_rfl) (boot_enumerate c) (L.c1 (E.ad 2) L.n0) (fun _=>rfl)) (A.tup (As.cons (A.loc 1) (As.cons (A.loc 2) As.nil))) (C.one (T.bool (T.qB (T.cmp (E.cC 3) (E.item (E.ad 2) E.bp) A2) (T.last (T.cmp (E.item (E.ad 2) E.bp) E.fK DR))))) (E.ad 1) bh rfl bt ca (fun _ _=>rfl) (by kernel_rfl) (ul (by kernel_rfl))) (S.cons (X.oK (sel:=[none,none,none,some 3]) (i:=6) (it:=ml) (a:=mu) (ft:=mr) (f:=mt) (I.enum (i:=14) (by kernel_rfl) (boot_enumerate c) (L.c1 (E.ad 2) L.n0) (fun _=>rfl)) (A.tup (As.cons (A.loc 1) (As.cons (A.loc 2) As.nil))) (C.one (T.bool (T.qB (T.cmp (E.cC 3) (E.item (E.ad 2) E.bp) A2) (T.last (T.cmp (E.item (E.ad 2) E.bp) E.fK EO))))) (E.ad 1) bh rfl bt ca (fun _ _=>rfl) (by kernel_rfl) (ul (by kernel_rfl))) (S.cons (X.a7 (E.kA (fun _=>⟨_,rfl⟩) (sJ c (by decide)) (E.cC 0) (L.c1 (E.cC 3) L.n0)) (A.loc 7) rfl) (S.one (X.if (T.bool (T.CL (T.cmp (E.comp (sel:=[none,none]) (it:=mv) (a:=mw) (ft:=mi) (f:=mj) (I.val (E.kA (fun _=>⟨_,rfl⟩) (rH c (by decide)) (E.cC 0) (L.c1 (E.cC 3) L.n0))) (A.loc 1) C.nil (E.attr (E.ad 1) (pW c) (fun _=>rfl)) bh rfl bt ca (fun _ _=>rfl)) (E.ad 5) yx) (T.last (T.cmp (E.ite (T.cmp (E.ad 7) E.fK EO) (E.neg E.bp) (E.attr (E.ad 7) (pW c) (fun _=>rfl))) (E.item (E.bin (E.ad 6) (E.lst (L.c1 (E.neg E.bp) L.n0)) dm) E.bp) yx)))) (S.one (X.ret E.io)) S.nil))))) (fun _ _=>rfl)) (S.cons (X.A3 (it:=im) (a:=iu) (f:=dK) (I.zip (i:=15) (by kernel_rfl) (boot_zip c) (L.c1 (E.attr (E.cC 0) (iQ c) (fun _=>rfl)) (L.c1 (E.ad 2) L.n0)) (fun _=>rfl)) (A.tup (As.cons (A.vp 8) (As.cons (A.vp 4) As.nil))) (S.cons (X.BF (E.comp (sel:=[none,none,none]) (it:=f7) (a:=f8) (ft:=gh) (f:=fO) (I.yQ (E.item (E.cC 4) E.bp)) (A.tup (As.cons (A.loc 1) (As.cons (A.loc 2) As.nil))) C.nil (E.ad 1) bh rfl bt ca (fun _ _=>rfl)) (A.vp 9) (HO (by kernel_rfl)) (fun _ _=>rfl) (fun _=>rfl)) (S.cons (X.if (T.bool (T.CL (T.cmp (E.comp (sel:=[none,none,some 8,some 9]) (it:=fM) (a:=fQ) (ft:=fR) (f:=fZ) (I.val (E.glob (i:=16) (by kernel_rfl) (sA c))) (A.loc 1) (C.one (T.cmp (E.kA (fun _=>⟨_,rfl⟩) (te c (by decide)) (E.cC 2) (L.c1 (E.ad 1) L.n0)) (E.cmp (E.ad 1) (E.cC 3) A2) yx)) (E.ad 1) bh rfl bt ca (fun _ _=>rfl)) (E.lst L.n0) yx) (T.last (T.cmp (E.b8 (fun _=>⟨_,rfl⟩) (kR c (by decide)) (E.cC 8)) (E.cmp (E.item (E.cC 4) E.bp) E.fK EO) yx)))) (S.one (X.ret E.io)) S.nil) (S.cons (X.if (T.cmp (E.b8 (fun _=>⟨_,rfl⟩) (wV c (by decide)) (E.cC 8)) (E.item (E.bin (E.comp (sel:=[none,none,none]) (it:=fY) (a:=ge) (ft:=fX) (f:=gc) (I.yQ (E.item (E.cC 4) E.bp)) (A.tup (As.cons (A.loc 1) (As.cons (A.loc 2) As.nil))) (C.one (T.cmp (E.ad 1) E.aX sEq)) (E.ad 2) bh rfl bt ca (fun _ _=>rfl)) (E.lst (L.c1 E.fK L.n0)) dm) E.bp) yx) (S.one (X.ret E.io)) S.nil) (S.cons (X.if (T.cmp (E.b8 (fun _=>⟨_,rfl⟩) (vL c (by decide)) (E.cC 8)) (E.comp (sel:=[none,none,none]) (it:=iv) (a:=iM) (ft:=iO) (f:=iJ) (I.yQ (E.item (E.cC 4) E.bp)) (A.tup (As.cons (A.loc 1) (As.cons (A.loc 2) As.nil))) (C.one (T.cmp (E.ad 1) (E.tup (L.c1 E.aX (L.c1 E.aX L.n0))) A2)) (E.ad 2) bh rfl bt ca (fun _ _=>rfl)) yx) (S.one (X.ret E.io)) S.nil) (S.one (X.if (T.cmp (E.comp (sel:=[none,none,some 4,some 8]) (it:=fj) (a:=fk) (ft:=fb) (f:=fh) (I.range (i:=11) (by kernel_rfl) (boot_range c) (L.c1 (E.bG (i:=12) (by kernel_rfl) (boot_len c) (E.cC 1) gp) L.n0) (fun _=>rfl) (fun _ _=>rfl)) (A.loc 1) (C.one (T.cmp (E.kA (fun _=>⟨_,rfl⟩) (ki c (by decide)) (E.cC 3) (L.c1 (E.ad 1) L.n0)) (E.cmp (E.ad 1) (E.item (E.cC 2) E.bp) A2) yx)) (E.ad 1) bh rfl bt ca (fun _ _=>rfl)) (E.lst L.n0) yx) (S.one (X.ret E.io)) S.nil)))))) (fun _ _=>rfl)) (S.one (X.ret (E.cmp (E.bG (i:=12) (by kernel_rfl) (boot_len c) (E.attr (E.cC 0) (iQ c) (fun _=>rfl)) gp) (E.bG (i:=12) (by kernel_rfl) (boot_len c) (E.ad 2) gp) sEq)))))))
theorem pF (c:Fc U):aO U 3 (.ref 640) gu:=call_of (tL c) (uN c)
theorem J0 (c:Fc U):ci U 645 (fS (sd 56)) (fB (sd 56)) (bU (sd 56) 1) []:=
  gM c
theorem Lo (c:Fc U):aK U 9 (fS (sd 56)) (fB (sd 56)) Ht:=
  (S.cons (X.oK (sel:=[none,none,none]) (i:=1) (it:=ub) (a:=wZ) (ft:=yg) (f:=xT) (I.val (E.slice (E.ad 0) P.none (P.some E.bp))) (A.loc 1) C.nil (E.bG (i:=2) (by kernel_rfl) (boot_int c) (E.ad 1) KZ) bh rfl bt ca (fun _ _=>rfl) (by kernel_rfl) (ul (by kernel_rfl))) (S.cons (X.BF (E.fn (i:=17) (by kernel_rfl) (Av c) ((A7 c).le (by decide)) (L.c1 (E.ti (L.c1 (E.ite (T.val (E.ad 1)) (E.ad 1) (E.lst (L.c1 E.bp L.n0))) (L.c1 E.bp L.n0))) L.n0)) (A.tup (As.cons (A.loc 2) (As.cons (A.loc 3) (As.cons (A.loc 4) (As.cons (A.loc 5) (As.cons (A.loc 6) As.nil)))))) (fun _ _=>rfl) (fun _ _=>rfl) (fun _=>rfl)) (S.cons (X.a7 (E.ti L.n0) (A.loc 7) rfl) (S.cons (X.A3 (it:=B9) (a:=wA) (f:=qM) (I.enum (i:=18) (by kernel_rfl) (boot_enumerate c) (L.c1 (E.ad 5) L.n0) (fun _=>rfl)) (A.tup (As.cons (A.loc 8) (As.cons (A.loc 9) As.nil))) (S.cons (X.oK (sel:=[none,none,none,none]) (i:=10) (it:=x6) (a:=wO) (ft:=wJ) (f:=tB) (I.yQ (E.item (E.ad 9) E.bp)) (A.tup (As.cons (A.loc 1) (As.cons (A.loc 2) As.nil))) C.nil (E.vD (E.new (i:=3) (by kernel_rfl) (pL c (by decide)) (L.c1 (E.ad 1) (L.c1 (E.ad 2) L.n0)) (fun _=>rfl))) bh rfl bt ca (fun _ _=>rfl) (by kernel_rfl) (ul (by kernel_rfl))) (S.one (X.dN (E.append (fun _=>⟨_,rfl⟩) (E.ad 7) (E.vD (E.new (i:=19) (by kernel_rfl) (zh c (by decide)) (L.c1 (E.ad 8) (L.c1 (E.item (E.ad 9) E.bp) (L.c1 (E.ite (T.cmp (E.item (E.ad 9) E.bp) E.fK EO) E.fK (E.vD (E.new (i:=20) (by kernel_rfl) (qm c (by decide)) (L.c1 (E.item (E.ad 9) E.bp) L.n0) (fun _=>rfl)))) (L.c1 (E.ad 10) (L.c1 E.bp L.n0))))) (fun _=>rfl))))))) (fun _ _=>rfl)) (S.cons (X.a7 (E.bG (i:=21) (by kernel_rfl) (boot_dict c) (E.comp (sel:=[none,none,none,none]) (it:=xh) (a:=xA) (ft:=wY) (f:=tD) (I.yQ (E.ad 4)) (A.tup (As.cons (A.loc 1) (As.cons (A.loc 2) As.nil))) C.nil (E.tup (L.c1 (E.ad 1) (L.c1 (E.vD (E.new (i:=3) (by kernel_rfl) (qm c (by decide)) (L.c1 (E.ad 2) L.n0) (fun _=>rfl))) L.n0))) bh rfl bt ca (fun _ _=>rfl)) IV) (A.loc 11) rfl) (S.cons (X.a7 (E.vD (E.new (i:=22) (by kernel_rfl) (zf c (by decide)) (L.c1 (E.ad 11) (L.c1 (E.bG (i:=23) (by kernel_rfl) (boot_list c) (E.ad 2) KW) (L.c1 (E.vD (E.ad 7)) (L.c1 (E.ad 3) (L.c1 (E.ad 6) L.n0))))) (fun _=>rfl))) (A.loc 12) rfl) (S.cons (X.BF (E.fn (i:=24) (by kernel_rfl) (Br c) ((Dt c).le (by decide)) (L.c1 (E.ad 2) (L.c1 (E.ad 3) (L.c1 (E.ad 4) (L.c1 (E.ad 5) L.n0))))) (A.tup (As.cons (A.loc 13) (As.cons (A.vp 14) As.nil))) (fun _ _=>rfl) (fun _ _=>rfl) (fun _=>rfl)) (S.cons (X.a7 (E.bin (E.bin (E.ms (fun _=>⟨_,rfl⟩) rk E.aX (L.c1 (E.ad 13) L.n0) (fun _=>rfl)) E.aX dm) (E.ite (T.cmp (E.ad 6) E.aX sEq) E.aX (E.bin E.aX (E.ad 6) dm)) dm) (A.loc 15) rfl) (S.cons (X.if (T.bool (T.CL (T.cmp (E.fn (i:=25) (by kernel_rfl) (qw c) ((q7 c).le (by decide)) (L.c1 (E.ad 12) L.n0)) (E.ad 15) yx) (T.last (T.not (T.val (E.fn (i:=26) (by kernel_rfl) (oz c) ((pF c).le (by decide)) (L.c1 (E.ad 12) (L.c1 (E.ad 2) (L.c1 (E.ad 5) L.n0))))))))) (S.one (X.ret E.io)) S.nil) (S.cons (X.a7 (E.fn (i:=27) (by kernel_rfl) (vo c) ((xL c).le (by decide)) (L.c1 (E.ad 15) L.n0)) (A.loc 16) rfl) (S.cons (X.if (T.bool (T.CL (T.cmp (E.b8 (fun _=>⟨_,rfl⟩) (qY c (by decide)) (E.ad 16)) (E.b8 (fun _=>⟨_,rfl⟩) (qY c (by decide)) (E.ad 12)) yx) (T.CL (T.cmp (E.fn (i:=25) (by kernel_rfl) (qw c) ((q7 c).le (by decide)) (L.c1 (E.ad 16) L.n0)) (E.ad 15) yx) (T.last (T.not (T.val (E.fn (i:=26) (by kernel_rfl) (oz c) ((pF c).le (by decide)) (L.c1 (E.ad 16) (L.c1 (E.ad 2) (L.c1 (E.ad 5) L.n0)))))))))) (S.one (X.ret E.io)) S.nil) (S.cons (X.if (T.cmp (E.comp (sel:=[none,none]) (it:=ur) (a:=yn) (ft:=xv) (f:=wp) (I.val (E.attr (E.ad 16) (iQ c) (fun _=>rfl))) (A.loc 1) C.nil (E.attr (E.ad 1) (Bi c) (fun _=>rfl)) bh rfl bt ca (fun _ _=>rfl)) (E.comp (sel:=[none,none,some 14]) (it:=wx) (a:=xW) (ft:=wz) (f:=yc) (I.range (i:=28) (by kernel_rfl) (boot_range c) (L.c1 (E.bG (i:=29) (by kernel_rfl) (boot_len c) (E.ad 5) gp) L.n0) (fun _=>rfl) (fun _ _=>rfl)) (A.loc 1) C.nil (E.bin (E.bin (E.cC 2) E.bp dm) (E.ad 1) dm) bh rfl bt ca (fun _ _=>rfl)) yx) (S.one (X.ret E.io)) S.nil) (S.one (X.ret (E.cmp (E.tup (L.c1 (E.attr (E.ad 16) (dZ c) (fun _=>rfl)) (L.c1 (E.attr (E.ad 16) (tab_tail c) (fun _=>rfl)) L.n0))) (E.tup (L.c1 (E.ad 3) (L.c1 (E.ad 6) L.n0))) sEq)))))))))))))))
theorem KD (c:Fc U):aO U 10 (.ref 645) Gb:=call_of (J0 c) (Lo c)
end
end Mine
end
section
namespace Mine
theorem aq {np nn:Nat}{ds:List V}{d:SF}{vs:List V}{H H':Hp}{v:V}{M M':Loc} (h0:(Nat.ble vs.length np&&Nat.ble np (vs.length + ds.length))=true) (hM:(vs++ds.drop (vs.length + ds.length - np)).map some++List.replicate (nn - np) none=M) (h:d M H=some (.ret v,M',H')):bn np nn ds d vs H=some (v,H'):=by
  unfold bn; rw[if_pos (And.imp Nat.le_of_ble_eq_true Nat.le_of_ble_eq_true (Bool.and_eq_true_iff.mp h0)),hM,h]; rfl
theorem dY {np nn:Nat}{ds:List V}{d:SF}{vs:List V}{H H':Hp}{M M':Loc} (h0:(Nat.ble vs.length np&&Nat.ble np (vs.length + ds.length))=true) (hM:(vs++ds.drop (vs.length + ds.length - np)).map some++List.replicate (nn - np) none=M) (h:d M H=some (.next,M',H')):bn np nn ds d vs H=some (.none,H'):=by
  unfold bn; rw[if_pos (And.imp Nat.le_of_ble_eq_true Nat.le_of_ble_eq_true (Bool.and_eq_true_iff.mp h0)),hM,h]; rfl
theorem fF {f g:SF}{M M1:Loc}{H H1:Hp}{v:V} (h:f M H=some (.ret v,M1,H1)):al f g M H=some (.ret v,M1,H1):=by unfold al; rw[h]; rfl
theorem ac {f g:SF}{M M1:Loc}{H H1:Hp} (h:f M H=some (.next,M1,H1)):al f g M H=g M1 H1:=by unfold al; rw[h]; rfl
theorem if_true {t:TF}{f g:SF}{M:Loc}{H H1:Hp} (h:t M H=some (true,H1)):cK t f g M H=f M H1:=by unfold cK; rw[h]; rfl
theorem if_false {t:TF}{f g:SF}{M:Loc}{H H1:Hp} (h:t M H=some (false,H1)):cK t f g M H=g M H1:=by unfold cK; rw[h]; rfl
theorem au {f:EF}{a:AF}{M M1:Loc}{H H1 H2:Hp}{v:V} (h:f M H=some (v,H1)) (h2:a v M H1=some (M1,H2)):af f a M H=some (.next,M1,H2):=by unfold af; rw[h,Option.bind_some,h2]; rfl
theorem a8 {f:EF}{M:Loc}{H H1:Hp}{v:V} (h:f M H=some (v,H1)):bw f M H=some (.ret v,M,H1):=by unfold bw; rw[h]; rfl
theorem eJ {g:LF}{M:Loc}{H H1:Hp}{l:List V} (h:g M H=some (l,H1)) (hl:l.length≤1000):oTup g M H=some (.tup l,H1):=by unfold oTup; rw[h,Option.bind_some]; exact if_pos (Nat.le_trans hl (by decide))
theorem ao {c:Nat}{F:a9}{f:EF}{g:LF}{M:Loc}{H H1 H2:Hp}{v:V}{fs l:List V}{r:Option (V × Hp)} (h1:f M H=some (v,H1)) (h2:qk v H1=some (c,fs)) (h3:g M H1=some (l,H2)) (h4:F (v::l) H2=r):aJ [(c,F)] f g M H=r:=by
  unfold aJ
  rw[h1,Option.bind_some]
  dsimp only
  rw[h2,Option.bind_some]
  dsimp only
  rw[List.lookup_cons,beq_self_eq_true]
  dsimp only
  rw[Option.bind_some,h3,Option.bind_some]
  exact h4
theorem dL {F:a9}{g:LF}{M:Loc}{H H1:Hp}{l:List V}{r:Option (V × Hp)} (h:g M H=some (l,H1)) (h2:F l H1=r):pg F g M H=r:=by unfold pg; rw[h,Option.bind_some]; exact h2
theorem ai {op:V→V→Hp→Option Bool}{f g:EF}{M:Loc}{H H1 H2:Hp}{a b:V}{c:Bool} (h1:f M H=some (a,H1)) (h2:g M H1=some (b,H2)) (h3:op a b H2=some c):aG op f g M H=some (c,H2):=by
  unfold aG; rw[h1,Option.bind_some]; dsimp only; rw[h2,Option.bind_some]; dsimp only; rw[h3]; rfl
theorem cQ {f g:TF}{M:Loc}{H H1 H2:Hp}{a b:Bool} (h1:f M H=some (a,H1)) (h2:a=true→g M H1=some (b,H2)) (h3:a=false→H2=H1):kM f g M H=some (a&&b,H2):=by
  unfold kM; rw[h1,Option.bind_some]
  cases a with
  | true=>exact h2 rfl
  | false=>rw[h3 rfl]; rfl
theorem kG {f g:TF}{M:Loc}{H H1 H2:Hp}{a b:Bool} (h1:f M H=some (a,H1)) (h2:a=false→g M H1=some (b,H2)) (h3:a=true→H2=H1):u9 f g M H=some (a||b,H2):=by
  unfold u9; rw[h1,Option.bind_some]
  cases a with
  | false=>exact h2 rfl
  | true=>rw[h3 rfl]; rfl
theorem dg {f:TF}{M:Loc}{H H1:Hp}{a:Bool} (h1:f M H=some (a,H1)):iF f M H=some (!a,H1):=by unfold iF; rw[h1]; rfl
theorem aU {f:EF}{M:Loc}{H H1:Hp}{v:V}{b:Bool} (h1:f M H=some (v,H1)) (h2:truth v H1=some b):cb f M H=some (b,H1):=by unfold cb; rw[h1,Option.bind_some]; dsimp only; rw[h2]; rfl
theorem ag {op:V→V→Hp→Option V}{f g:EF}{M:Loc}{H H1 H2:Hp}{a b c:V} (h1:f M H=some (a,H1)) (h2:g M H1=some (b,H2)) (h3:op a b H2=some c):av op f g M H=some (c,H2):=by
  unfold av; rw[h1,Option.bind_some]; dsimp only; rw[h2,Option.bind_some]; dsimp only; rw[h3]; rfl
theorem ay {op:V→Hp→Option V}{f:EF}{M:Loc}{H H1:Hp}{a c:V} (h1:f M H=some (a,H1)) (h3:op a H1=some c):aW op f M H=some (c,H1):=by
  unfold aW; rw[h1,Option.bind_some]; dsimp only; rw[h3]; rfl
theorem ak {f:EF}{g:LF}{M:Loc}{H H1 H2:Hp}{a:V}{l:List V} (h1:f M H=some (a,H1)) (h2:g M H1=some (l,H2)):ae f g M H=some (a::l,H2):=by
  unfold ae; rw[h1,Option.bind_some]; dsimp only; rw[h2]; rfl
theorem cy {sel:List (Option Nat)}{it:IF}{a:AF}{t:TF}{f:EF}{M:Loc}{H H1:Hp}{l:List V} (h:em sel it a t f M H=some (l,H1)):c6 sel it a t f M H=some (.lst l,H1):=by unfold c6; rw[h]; rfl
theorem iY {it:IF}{a:AF}{b:SF}{M:Loc}{H H1:Hp}{l:List V}{r:Option (Fl × Loc × Hp)} (h1:it M H=some (l,H1)) (h2:forL a b l M H1=r):m4 it a b M H=r:=by unfold m4; rw[h1,Option.bind_some]; exact h2
theorem oJ {sel:List (Option Nat)}{it:IF}{a:AF}{t:TF}{f:EF}{i:Nat}{M:Loc}{H H1:Hp}{l:List V} (h:em sel it a t f M H=some (l,H1)):qu sel it a t f i M H=some (.next,M.set i (some (.lst l)),H1):=by unfold qu; rw[h]; rfl
theorem bz {f:EF}{M:Loc}{H H1:Hp}{v:V} (h:f M H=some (v,H1)):cj f M H=some (.next,M,H1):=by unfold cj; rw[h]; rfl
theorem cA {f g:EF}{M:Loc}{H H1:Hp}{j:Nat}{acc acc':List V}{v:V} (h1:f M H=some (.ref j,H)) (h2:H[j]? = some (.lst acc)) (h3:g M H=some (v,H1)) (h4:H1[j]? = some (.lst acc')) (h5:acc'.length < 1048576):cu f g M H=some (.none,H1.set j (.lst (acc'++[v]))):=by
  unfold cu
  rw[h1,Option.bind_some]
  dsimp only
  rw[h2]
  dsimp only
  rw[h3,Option.bind_some]
  dsimp only
  rw[h4]
  dsimp only
  rw[if_pos h5]
theorem lv {f:EF}{M:Loc}{H H1:Hp}{l:List V} (h:f M H=some (.lst l,H1)):pH f M H=some (l,H1):=by unfold pH; rw[h]; rfl
theorem eU {f:EF}{M:Loc}{H H1:Hp}{v:V}{l:List V} (h:f M H=some (v,H1)) (h2:drawn v=some l):kx f M H=some (l,H1):=by unfold kx; rw[h,Option.bind_some]; dsimp only; rw[h2]; rfl
theorem ite_true {t:TF}{f g:EF}{M:Loc}{H H1:Hp}{r:Option (V × Hp)} (h:t M H=some (true,H1)) (h2:f M H1=r):th t f g M H=r:=by unfold th; rw[h,Option.bind_some]; exact h2
theorem ite_false {t:TF}{f g:EF}{M:Loc}{H H1:Hp}{r:Option (V × Hp)} (h:t M H=some (false,H1)) (h2:g M H1=r):th t f g M H=r:=by unfold th; rw[h,Option.bind_some]; exact h2
theorem lO {op:List Nat→List V→Hp→Option V}{f:EF}{g:LF}{M:Loc}{H H1 H2:Hp}{x:List Nat}{l:List V}{v:V} (h1:f M H=some (.str x,H1)) (h2:g M H1=some (l,H2)) (h3:op x l H2=some v):tf op f g M H=some (v,H2):=by
  unfold tf; rw[h1,Option.bind_some]; dsimp only; rw[h2,Option.bind_some]; dsimp only; rw[h3]; rfl
theorem wm {f:EF}{is:List Nat}{M M':Loc}{H H1:Hp}{l:List V} (h:f M H=some (.tup l,H1)) (hl:l.length=is.length) (hs:Ay is.reverse l.reverse M=some M'):yh f is M H=some (.next,M',H1):=by
  unfold yh
  rw[h]
  dsimp only[Option.bind_some]
  rw[if_pos hl,hs]
  rfl
theorem JO {f:SF}{i k:Nat}{M:Loc}{H:Hp}{l:List V}{r:Option (Fl × Loc × Hp)} (h:M[i]?.join=some (.ref k)) (h2:H[k]? = some (.lst l)) (h3:f (M.set i (some (.lst l))) (H.set k .dead)=r):Gp i f M H=r:=by
  unfold Gp
  rw[h]
  dsimp only
  unfold frozen
  rw[h2]
  exact h3
theorem lq {f:EF}{k:Nat}{M:Loc}{H H1:Hp}{l:List V} (h:f M H=some (.ref k,H1)) (h2:H1[k]? = some (.lst l)):iZ f M H=some (.lst l,H1.set k .dead):=by
  unfold iZ
  rw[h]
  dsimp only[Option.bind_some]
  unfold frozen
  rw[h2]
theorem bg {H:Hp}{k c:Nat}{fs:List V} (h:H[k]? = some (.inst c fs)):qk (.ref k) H=some (c,fs):=by unfold qk; dsimp only; rw[h]
theorem aF {tab:List (Nat × Nat)}{f:EF}{M:Loc}{H H1:Hp}{k c i:Nat}{fs:List V}{v:V} (h:f M H=some (.ref k,H1)) (h2:H1[k]? = some (.inst c fs)) (ht:tab.lookup c=some i) (hv:fs[i]? = some v):aW (am tab) f M H=some (v,H1):=by
  refine ay h ?_
  unfold am
  rw[bg h2]
  show(tab.lookup c).bind _=_
  rw[ht]
  exact hv
theorem qK {tab:List (Nat × Nat)}{f g:EF}{M:Loc}{H H1 H2:Hp}{k c i:Nat}{fs:List V}{v:V} (h1:f M H=some (v,H1)) (h:g M H1=some (.ref k,H2)) (h2:H2[k]? = some (.inst c fs)) (ht:tab.lookup c=some i) (hi:Nat.ble i fs.length=true):af f (dC tab g) M H=some (.next,M,H2.set k (.inst c (BN i v fs))):=by
  refine au h1 ?_
  unfold dC
  rw[h]
  dsimp only[Option.bind_some]
  rw[h2]
  dsimp only
  rw[ht]
  exact if_pos (Nat.le_of_ble_eq_true hi)
theorem eM {f:EF}{M:Loc}{H H1:Hp}{i:Int} (h:f M H=some (.int i,H1)):eO f M H=some (some i,H1):=by unfold eO; rw[h]; rfl
theorem jc {f:EF}{lo hi:PF}{M:Loc}{H H1 H2 H3:Hp}{x y:List Nat}{a b:Option Int} (h:f M H=some (.str x,H1)) (h1:lo M H1=some (a,H2)) (h2:hi M H2=some (b,H3)) (h3:qs a b=true) (h4:jy a b x=y):d9 f lo hi M H=some (.str y,H3):=by
  unfold d9
  rw[h]
  dsimp only[Option.bind_some]
  rw[h1]
  dsimp only[Option.bind_some]
  rw[h2]
  dsimp only[Option.bind_some]
  unfold IW
  dsimp only
  rw[if_pos h3,h4]
  rfl
theorem jw (q:List Nat) (c:Nat) (r:List Nat) (H:Hp):aI (.str (q++c::r)) (.int (q.length:Nat)) H=some (.str [c]):=by
  have e:aI (.str (q++c::r)) (.int (q.length:Nat)) H=if 0≤((q.length:Nat):Int) then ((q++c::r)[((q.length:Nat):Int).toNat]?).map (fun c=>V.str [c]) else none:=rfl
  rw[e,if_pos (Int.natCast_nonneg _),Int.toNat_natCast,List.getElem?_append_right (Nat.le_refl _),Nat.sub_self]
  rfl
theorem qe (q:List Nat) (c:Nat) (r:List Nat) (H:Hp):Ao (.int (q.length:Nat)) (.int ((q++c::r).length:Nat)) H=some true:=by
  have e:(q.length:Int) < ((q++c::r).length:Nat):=by rw[List.length_append,List.length_cons]; omega
  exact congrArg some (decide_eq_true e)
theorem Db (q:List Nat) (H:Hp):Ao (.int (q.length:Nat)) (.int ((q++[]).length:Nat)) H=some false:=by
  rw[List.append_nil]
  exact congrArg some (decide_eq_false (Int.lt_irrefl _))
theorem Es (a b:Nat) (H:Hp):br (.int (a:Int)) (.int (b:Int)) H=some (.int ((a + b:Nat):Int)):=by
  show some (V.int ((a:Int) + (b:Int)))=_
  rw[Int.natCast_add]
theorem la {M:Loc}{H:Hp}{i:Nat}{v:V} (h:M[i]? = some (some v)):aa i M H=some (v,H):=by unfold aa; rw[h]; rfl
theorem AH {f:EF}{i:Nat}{M:Loc}{H H1:Hp}{a b:Int} (h1:aa i M H=some (.int a,H)) (h2:f M H=some (.int b,H1)):B6 i f M H=some (.next,M.set i (some (.int (a + b))),H1):=by
  unfold B6
  rw[h1]
  dsimp only[Option.bind_some]
  rw[h2]
  rfl
theorem mB {g:LF}{M:Loc}{H H1:Hp}{l:List V} (h:g M H=some (l,H1)) (hl:Nat.ble l.length 1000=true):kF g M H=some (.ref H1.length,H1++[.lst l]):=by
  unfold kF
  rw[h]
  exact if_pos (Nat.le_trans (Nat.le_of_ble_eq_true hl) (by decide))
theorem eu {c:Nat}{F:a9}{g:LF}{M:Loc}{H H1:Hp}{vs ws:List V} (h:g M H=some (vs,H1)) (h2:F (.ref H1.length::vs) (H1++[.inst c []])=some (.none,H1++[.inst c ws])):iZ (oq c F g) M H=some (.inst c ws,H1++[.dead]):=by
  have g0:∀ o:Ob,(H1++[o])[H1.length]? = some o:=fun o=>by rw[List.getElem?_append_right (Nat.le_refl _),Nat.sub_self]; rfl
  unfold iZ oq
  rw[h]
  dsimp only[Option.bind_some]
  rw[h2]
  dsimp only[Option.bind_some]
  unfold frozen
  rw[g0]
  dsimp only
  rw[List.set_append_right _ _ (Nat.le_refl _),Nat.sub_self]
  rfl
theorem fc {tab:List (Nat × Nat)}{f g:EF}{M:Loc}{H:Hp}{c:Nat}{fs:List V}{v:V} (h1:f M (H++[.inst c fs])=some (v,H++[.inst c fs])) (h:g M (H++[.inst c fs])=some (.ref H.length,H++[.inst c fs])) (ht:tab.lookup c=some fs.length):af f (dC tab g) M (H++[.inst c fs])=some (.next,M,H++[.inst c (fs++[v])]):=by
  have g0:(H++[Ob.inst c fs])[H.length]? = some (.inst c fs):=by rw[List.getElem?_append_right (Nat.le_refl _),Nat.sub_self]; rfl
  rw[qK h1 h g0 ht (Nat.ble_eq_true_of_le (Nat.le_refl _)),List.set_append_right _ _ (Nat.le_refl _),Nat.sub_self]
  unfold BN
  rw[if_neg (Nat.lt_irrefl _)]
  rfl
theorem pB {H:Hp}{j:Nat}{l:List V} (h:H[j]? = some (.lst l)):truth (.ref j) H=some (!l.isEmpty):=by unfold truth; dsimp only; rw[h]
theorem v5 {H:Hp}{j:Nat}{l:List V} (h:H[j]? = some (.lst l)):cL (.ref j) H=some (.int (l.length:Nat)):=by
  have e:cL (.ref j) H=(cw (.ref j) H).map fun l=>V.int l.length:=rfl
  rw[e,eE.mpr h]
  rfl
theorem stepI {H:Hp}{a b:V}:cf [.ref H.length,a,b] (H++[.inst 1 []])=some (.none,H++[.inst 1 [a,b]]):=by
  unfold cf kt
  exact dY rfl rfl ((ac (fc rfl rfl rfl)).trans (fc rfl rfl rfl))
theorem Kk {H:Hp}{a:V}:cf [.ref H.length,a] (H++[.inst 1 []])=some (.none,H++[.inst 1 [a, .none]]):=by
  unfold cf kt
  exact dY rfl rfl ((ac (fc rfl rfl rfl)).trans (fc rfl rfl rfl))
theorem JW {H:Hp}{a:V}:cz [.ref H.length,a] (H++[.inst 3 []])=some (.none,H++[.inst 3 [a]]):=by
  unfold cz jI
  exact dY rfl rfl (fc rfl rfl rfl)
theorem JD {H:Hp}{a b c d e:V}:gr [.ref H.length,a,b,c,d,e] (H++[.inst 2 []])=some (.none,H++[.inst 2 [a,b,c,d,e]]):=by
  unfold gr oa
  exact dY rfl rfl ((ac (fc rfl rfl rfl)).trans ((ac (fc rfl rfl rfl)).trans ((ac (fc rfl rfl rfl)).trans ((ac (fc rfl rfl rfl)).trans (fc rfl rfl rfl)))))
theorem Jq {H:Hp}{a b c d e:V}:gj [.ref H.length,a,b,c,d,e] (H++[.inst 4 []])=some (.none,H++[.inst 4 [a,b,c,d,e]]):=by
  unfold gj nA
  exact dY rfl rfl ((ac (fc rfl rfl rfl)).trans ((ac (fc rfl rfl rfl)).trans ((ac (fc rfl rfl rfl)).trans ((ac (fc rfl rfl rfl)).trans (fc rfl rfl rfl)))))
theorem KP {H:Hp}{a b:V}:fI [.ref H.length,a,b] (H++[.inst 0 []])=some (.none,H++[.inst 0 [a,b]]):=by
  unfold fI o7
  exact dY rfl rfl ((ac (fc rfl rfl rfl)).trans (fc rfl rfl rfl))
end Mine
end
section
namespace Mine
noncomputable def cur (p r:List Nat):Ob := .inst 0 [.str (p++r), .int p.length]
theorem gb {t:TF}{f:SF}{M M2:Loc}{H H1 H2:Hp} (ht:t M H=some (true,H1)) (hb:f M H1=some (.next,M2,H2)):aY t f M H=aY t f M2 H2:=by
  rw[rW,ht,Option.bind_some]; dsimp only; rw[if_pos rfl,hb,Option.bind_some]
theorem J6 {t:TF}{f:SF}{M M2:Loc}{H H1 H2:Hp} (ht:t M H=some (true,H1)) (hb:f M H1=some (.brk,M2,H2)):aY t f M H=some (.next,M2,H2):=by
  rw[rW,ht,Option.bind_some]; dsimp only; rw[if_pos rfl,hb,Option.bind_some]
theorem Aq {t:TF}{f:SF}{M M2:Loc}{H H1 H2:Hp}{v:V} (ht:t M H=some (true,H1)) (hb:f M H1=some (.ret v,M2,H2)):aY t f M H=some (.ret v,M2,H2):=by
  rw[rW,ht,Option.bind_some]; dsimp only; rw[if_pos rfl,hb,Option.bind_some]
theorem pY {t:TF}{f:SF}{M:Loc}{H H1:Hp} (ht:t M H=some (false,H1)):aY t f M H=some (.next,M,H1):=by
  rw[rW,ht,Option.bind_some]; rfl
theorem b7 {H:Hp}{k:Nat}{o o':Ob} (h:H[k]? = some o):(H.set k o')[k]? = some o':=by
  have:=(List.getElem?_eq_some_iff.mp h).1
  rw[List.getElem?_set_self this]
theorem set_same {H:Hp}{k:Nat}{o:Ob} (h:H[k]? = some o):H.set k o=H:=by
  obtain⟨h1,h2⟩:=List.getElem?_eq_some_iff.mp h
  rw[← h2]; exact List.set_getElem_self h1
theorem vY {p r:List Nat}{n:Nat}:jy (some (p.length:Int)) (some ((p.length:Int) + (n:Int))) (p++r)=r.take n:=by
  have e:jy (some (p.length:Int)) (some ((p.length:Int) + (n:Int))) (p++r)=((p++r).drop (p.length:Int).toNat).take (((p.length:Int) + (n:Int)).toNat - (p.length:Int).toNat):=rfl
  rw[e,← Int.natCast_add,Int.toNat_natCast,Int.toNat_natCast,List.drop_left,Nat.add_sub_cancel_left]
theorem wv {p q r:List Nat}{m:Int} (hm:m=(p.length:Int) + (q.length:Int)):jy (some (p.length:Int)) (some m) (p++(q++r))=q:=by
  subst hm
  rw[vY,List.take_left]
theorem Kp (p:List Nat) (c:Nat):(((p++[c]).length:Nat):Int)=(p.length:Int) + 1:=by rw[List.length_append]; rfl
theorem xt (a b:Nat):qs (some (a:Int)) (some ((a:Int) + (b:Int)))=true:=by
  have h1:(0:Int)≤(a:Int):=Int.natCast_nonneg a
  have h2:(0:Int)≤(a:Int) + (b:Int):=Int.add_nonneg h1 (Int.natCast_nonneg b)
  exact Bool.and_eq_true_iff.mpr ⟨decide_eq_true h1,decide_eq_true h2⟩
theorem gK {H:Hp}{k:Nat}{p r:List Nat} (h:H[k]? = some (cur p r)):bq [.ref k] H=some (.bool r.isEmpty,H):=by
  unfold bq kW
  refine aq rfl rfl (a8 (ag (aF rfl h rfl rfl) (ay (aF rfl h rfl rfl) rfl) ?_))
  refine congrArg (fun b=>some (V.bool b)) ?_
  cases r with
  | nil=>exact decide_eq_true (by rw[List.append_nil]; exact Int.le_refl _)
  | cons c r=>exact decide_eq_false (by rw[List.length_append,List.length_cons]; omega)
theorem tS {H:Hp}{k:Nat}{p r:List Nat} (h:H[k]? = some (cur p r)):dG [.ref k] H=some (.str (r.take 1),H):=by
  unfold dG pv
  refine aq (M:=[some (.ref k),some (.int 0),none,none]) (M':=[some (.ref k),some (.int 0),some (.int (p.length:Nat)),none]) rfl rfl ((ac (au (ag (aF rfl h rfl rfl) rfl rfl) rfl)).trans ?_)
  cases r with
  | nil=>exact(ac ((if_false (ai rfl (ay (aF rfl h rfl rfl) rfl) (Db p H))).trans rfl)).trans (a8 rfl)
  | cons c r=>exact fF ((if_true (ai rfl (ay (aF rfl h rfl rfl) rfl) (qe p c r H))).trans (a8 (ag (aF rfl h rfl rfl) rfl (jw p c r H))))
theorem rT {H:Hp}{k:Nat}{p r w:List Nat} (h:H[k]? = some (cur p r)):dc [.ref k, .str w] H=some (.bool (r.take w.length==w),H):=by
  unfold dc mf
  exact aq rfl rfl (a8 (ag (jc (aF rfl h rfl rfl) (eM (aF rfl h rfl rfl)) (eM (ag (aF rfl h rfl rfl) (ay rfl rfl) rfl)) (xt p.length w.length) vY) rfl rfl))
theorem Bg {p:List Nat}{c:Nat}{r:List Nat}:Ob.inst 0 [.str (p++c::r), .int ((p.length:Int) + 1)]=cur (p++[c]) r:=by
  unfold cur
  rw[Kp,List.append_assoc,List.singleton_append]
theorem Ac {H:Hp}{k c:Nat}{p r:List Nat} (h:H[k]? = some (cur p (c::r))):ek [.ref k] H=some (.str [c],H.set k (cur (p++[c]) r)):=by
  unfold ek pc
  refine aq (M:=[some (.ref k),none]) (M':=[some (.ref k),some (.str [c])]) rfl rfl ((ac ((if_false (aU (ao rfl (bg h) rfl (gK h)) rfl)).trans rfl)).trans ((ac (au (ag (aF rfl h rfl rfl) (aF rfl h rfl rfl) (jw p c r H)) rfl)).trans ((ac (qK (ag (aF rfl h rfl rfl) rfl rfl) rfl h rfl rfl)).trans (a8 ?_))))
  rw[← Bg]
  rfl
theorem sj {H:Hp}{k:Nat}{p r w:List Nat} (h:H[k]? = some (cur p r)) (hw:(r.take w.length==w)=false):ba [.ref k, .str w] H=some (.bool false,H):=by
  unfold ba lD
  have h1:=rT (w:=w) h
  rw[hw] at h1
  exact aq rfl rfl (fF ((if_true (dg (aU (ao rfl (bg h) rfl h1) rfl))).trans (a8 rfl)))
theorem Bt {p w r:List Nat}:Ob.inst 0 [.str (p++(w++r)), .int ((p.length:Int) + (w.length:Int))]=cur (p++w) r:=by
  unfold cur
  rw[List.append_assoc,List.length_append,Int.natCast_add]
theorem n6 {H:Hp}{k:Nat}{p r w:List Nat} (h:H[k]? = some (cur p (w++r))):ba [.ref k, .str w] H=some (.bool true,H.set k (cur (p++w) r)):=by
  unfold ba lD
  have h1:=rT (w:=w) h
  rw[List.take_left,beq_self_eq_true] at h1
  refine aq (M:=[some (.ref k),some (.str w),none]) rfl rfl ((ac ((if_false (dg (aU (ao rfl (bg h) rfl h1) rfl))).trans rfl)).trans ((ac (qK (ag (aF rfl h rfl rfl) (ay rfl rfl) rfl) rfl h rfl rfl)).trans (a8 ?_)))
  rw[← Bt]
  rfl
theorem Ga {c:Nat}{s:List Nat} (h:c∉s) (H:Hp):pN (.str [c]) (.str s) H=some false:=congrArg some (decide_eq_false h)
theorem Kw {c:Nat}{s:List Nat} (h:c∈s) (H:Hp):pN (.str [c]) (.str s) H=some true:=congrArg some (decide_eq_true h)
theorem Jn {s:List Nat}{d:List Nat} (hd:∀ x u,d=x::u→x∉s):∀ (t p:List Nat) (H:Hp) (k:Nat) (M:Loc),(∀ x∈t,x∈s)→H[k]? = some (cur p (t++d))→M[0]? = some (some (.ref k))→M[1]? = some (some (.str s))→
    aY cn cR M H=some (.next,M,H.set k (cur (p++t) d))
  | [],p,H,k,M,_,h,h0,h1=>by
    rw[List.append_nil,set_same (show H[k]? = some (cur p d) from h)]
    have e0:=la (H:=H) h0
    have e1:=la (H:=H) h1
    refine pY (H1:=H) ?_
    have h':H[k]? = some (cur p d):=h
    unfold cn
    cases d with
    | nil=>exact cQ (b:=true) (ai (aF e0 h' rfl rfl) (ay (aF e0 h' rfl rfl) rfl) (Db p H)) (fun h=>nomatch h) (fun _=>rfl)
    | cons c r=>exact cQ (ai (aF e0 h' rfl rfl) (ay (aF e0 h' rfl rfl) rfl) (qe p c r H)) (fun _=>ai (ag (aF e0 h' rfl rfl) (aF e0 h' rfl rfl) (jw p c r H)) e1 (Ga (hd c r rfl) H)) (fun h=>nomatch h)
  | c::t,p,H,k,M,ht,h,h0,h1=>by
    have h':H[k]? = some (cur p (c::(t++d))):=h
    have e0:=la (H:=H) h0
    have e1:=la (H:=H) h1
    have eb:cR M H=some (.next,M,H.set k (cur (p++[c]) (t++d))):=by
      rw[← Bg]
      unfold cR
      exact qK (i:=1) (ag (aF e0 h' rfl rfl) rfl rfl) e0 h' rfl rfl
    have et:cn M H=some (true,H):=by
      unfold cn
      exact cQ (ai (aF e0 h' rfl rfl) (ay (aF e0 h' rfl rfl) rfl) (qe p c (t++d) H)) (fun _=>ai (ag (aF e0 h' rfl rfl) (aF e0 h' rfl rfl) (jw p c (t++d) H)) e1 (Kw (ht c List.mem_cons_self) H)) (fun h=>nomatch h)
    rw[gb et eb,
      Jn hd t (p++[c]) _ k M (fun x hx=>ht x (List.mem_cons_of_mem _ hx)) (b7 h') h0 h1,List.set_set,List.append_assoc,List.singleton_append]
theorem pr {H:Hp}{k:Nat}{p t d s:List Nat} (h:H[k]? = some (cur p (t++d))) (ht:∀ x∈t,x∈s) (hd:∀ x u,d=x::u→x∉s):cx [.ref k, .str s] H=some (.str t,H.set k (cur (p++t) d)):=by
  unfold cx iU
  have h2:(H.set k (cur (p++t) d))[k]? = some (.inst 0 [.str (p++(t++d)), .int ((p.length:Int) + (t.length:Int))]):=by rw[Bt]; exact b7 h
  exact aq rfl rfl ((ac (au (aF rfl h rfl rfl) rfl)).trans ((ac (Jn hd t p H k [some (.ref k),some (.str s),some (.int p.length),none] ht h rfl rfl)).trans (a8 (jc (aF rfl h2 rfl rfl) (eM rfl) (eM (aF rfl h2 rfl rfl)) (xt p.length t.length) (wv rfl)))))
theorem da {H:Hp}{k:Nat}{p t d:List Nat} (h:H[k]? = some (cur p (t++d))) (ht:∀ x∈t,x∈[32,9]) (hd:∀ x u,d=x::u→x∉[32,9]):aB [.ref k] H=some (.none,H.set k (cur (p++t) d)):=by
  unfold aB iE
  exact dY (M:=[some (.ref k),some (.str [32,9])]) rfl rfl (bz (ao rfl (bg h) rfl (pr (s:=[32,9]) h ht hd)))
noncomputable def aQ:List Nat:=[97,98,99,100,101,102,103,104,105,106,107,108,109,110,111,112,113,114,115,116,117,118,119,120,121,122,65,66,67,68,69,70,71,72,73,74,75,76,77,78,79,80,81,82,83,84,85,86,87,88,89,90,95,48,49,50,51,52,53,54,55,56,57]
noncomputable def uL:List Nat:=[48,49,50,51,52,53,54,55,56,57]
theorem mA {H:Hp}{k c:Nat}{p r w:List Nat} (h:H[k]? = some (cur p (c::w++r))) (h1:c∈aQ) (h2:c∉uL) (hw:∀ x∈w,x∈aQ) (hr:∀ x t,r=x::t→x∉aQ):
    bM [.ref k] H=some (.str (c::w),H.set k (cur (p++c::w) r)):=by
  unfold bM o6
  refine aq (M:=[some (.ref k),none,none,none]) rfl rfl ((ac (au (v := .str [c]) (ao rfl (bg h) rfl (tS h)) rfl)).trans ((ac ((if_false ?_).trans rfl)).trans (a8 (ao rfl (bg h) rfl (pr (s:=aQ) h (fun x hx=>?_) hr)))))
  · exact kG (a:=false) (b:=false) (ai (a := .str [c]) (b := .str []) rfl rfl rfl) (fun _=>kG (a:=false) (b:=false) (ai (a := .str [c]) (b := .str aQ) rfl rfl (congrArg (fun b=>some (!b)) (decide_eq_true h1))) (fun _=>ai (a := .str [c]) (b := .str uL) rfl rfl (Ga h2 H)) (fun h=>nomatch h)) (fun h=>nomatch h)
  · rcases List.mem_cons.mp hx with rfl | hx
    · exact h1
    · exact hw x hx
noncomputable def aV (S:List Nat) (H H':Hp):Prop:=H.length≤H'.length∧∀ i,i < H.length→i∉S→H'[i]? = H[i]?
theorem aV.refl {S:List Nat}{H:Hp}:aV S H H:=⟨Nat.le_refl _,fun _ _ _=>rfl⟩
theorem aV.trans {S:List Nat}{H H' H'':Hp} (a:aV S H H') (b:aV S H' H''):aV S H H'':=
  ⟨Nat.le_trans a.1 b.1,fun i hi hs=>(b.2 i (Nat.lt_of_lt_of_le hi a.1) hs).trans (a.2 i hi hs)⟩
theorem aV.set {S:List Nat}{H:Hp}{k:Nat}{o:Ob} (h:k∈S):aV S H (H.set k o):=
  ⟨by rw[List.length_set]; exact Nat.le_refl _,fun i hi hs=>List.getElem?_set_ne fun e=>by subst e; exact hs h⟩
theorem aV.app {S:List Nat}{H G:Hp}:aV S H (H++G):=⟨by rw[List.length_append]; omega,fun i hi hs=>List.getElem?_append_left hi⟩
theorem aV.mono {S S':List Nat}{H H':Hp} (a:aV S H H') (h:∀ x∈S,x∈S'∨H.length≤x):aV S' H H':=⟨a.1,fun i hi hs=>a.2 i hi fun q=>(h i q).elim hs fun z=>by omega⟩
theorem aV.at {S:List Nat}{H H':Hp}{i:Nat}{o:Ob} (a:aV S H H') (h:H[i]? = some o) (hs:i∉S):H'[i]? = some o:=(a.2 i (List.getElem?_eq_some_iff.mp h).1 hs).trans h
theorem aV.DQ {k j:Nat}{H H':Hp} (a:aV [k] H H'):aV [k,j] H H':=a.mono fun x hx => .inl ((List.mem_singleton.mp hx).symm▸List.mem_cons_self)
theorem gW {H:Hp}{i:Nat}{o:Ob} (h:H[i]? = some o):i < H.length:=(List.getElem?_eq_some_iff.mp h).1
theorem dh {H G:Hp}{i:Nat}{o:Ob} (h:H[i]? = some o):(H++G)[i]? = some o:=by rw[List.getElem?_append_left (gW h)]; exact h
theorem eV {H:Hp}{o:Ob}:(H++[o])[H.length]? = some o:=by simp
theorem a6 {H:Hp}{i j:Nat}{o o':Ob} (h:H[i]? = some o) (hn:j≠i):(H.set j o')[i]? = some o:=by rw[List.getElem?_set_ne hn]; exact h
end Mine
end
section
namespace Mine
theorem Fz {H:Hp}{k:Nat}{p r:List Nat} (h:H[k]? = some (cur p ([59,39]++r))):∃ H',gQ [.ref k, .str [39]] H=some (.str [59],H')∧H'[k]? = some (cur (p++[59,39]) r)∧aV [k] H H':=by
  have h0:(H++[Ob.lst []])[k]? = some (cur p (59::39::r)):=dh h
  have hlt:=gW h
  have hne:k≠H.length:=by omega
  let H1:=(H++[Ob.lst []]).set k (cur (p++[59]) (39::r))
  have h1:H1[k]? = some (cur (p++[59]) (39::r)):=b7 h0
  have l1:H1[H.length]? = some (.lst []):=a6 eV hne
  let H2:=H1.set H.length (.lst [.str [59]])
  have h2:H2[k]? = some (cur (p++[59]) (39::r)):=a6 h1 (Ne.symm hne)
  have l2:H2[H.length]? = some (.lst [.str [59]]):=b7 l1
  let H3:=H2.set k (cur (p++[59]++[39]) r)
  have h3:H3[k]? = some (cur (p++[59]++[39]) r):=b7 h2
  have l3:H3[H.length]? = some (.lst [.str [59]]):=a6 l2 hne
  refine⟨H3,?_,by simpa using h3,?_⟩
  · have t0:ek [.ref k] (H++[Ob.lst []])=some (.str [59],H1):=Ac h0
    have t1:ek [.ref k] H2=some (.str [39],H3):=Ac h2
    have eb:dB [some (.ref k),some (.str [39]),some (.ref H.length),none] (H++[Ob.lst []])=some (.next,[some (.ref k),some (.str [39]),some (.ref H.length),some (.str [59])],H2):=by
      unfold dB
      exact(ac (au (ao rfl (bg h0) rfl t0) rfl)).trans ((ac ((if_false (ai rfl rfl rfl)).trans rfl)).trans ((ac ((if_false (ai rfl rfl rfl)).trans rfl)).trans (bz (cA rfl l1 rfl l1 (by decide)))))
    have eb2:dB [some (.ref k),some (.str [39]),some (.ref H.length),some (.str [59])] H2=some (.ret (.str [59]),[some (.ref k),some (.str [39]),some (.ref H.length),some (.str [39])],H3):=by
      unfold dB
      refine(ac (au (ao rfl (bg h2) rfl t1) rfl)).trans (fF ((if_true (ai rfl rfl rfl)).trans (a8 (lO rfl (ak rfl rfl) ?_))))
      show(cw (.ref H.length) H3).bind _=_
      rw[eE.mpr l3]
      rfl
    unfold gQ mh
    refine aq (M:=[some (.ref k),some (.str [39]),none,none]) (M':=[some (.ref k),some (.str [39]),some (.ref H.length),some (.str [39])]) rfl rfl ((ac (au (mB rfl rfl) rfl)).trans (fF ?_))
    refine(gb (H1:=H++[Ob.lst []]) ?_ eb).trans (Aq (H1:=H2) ?_ eb2)
    · exact dg (aU (ao rfl (bg h0) rfl (gK h0)) rfl)
    · exact dg (aU (ao rfl (bg h2) rfl (gK h2)) rfl)
  · have k1:aV [k,H.length] H H3:=(((aV.app).trans (aV.set (by simp))).trans (aV.set (by simp))).trans (aV.set (by simp))
    exact k1.mono fun x hx=>by simp at hx; rcases hx with rfl | rfl <;> simp
theorem DS {H:Hp}:uJ [.str [59], .str [39]] H=some (.str [59],H):=by kernel_rfl
end Mine
end
section
namespace Mine
theorem IU (c d:Nat) (h:c≠d) (H:Hp):vEq (.str [c]) (.str [d]) H=some false:=congrArg some (beq_eq_false_iff_ne.mpr fun e=>h (List.cons.inj e).1)
theorem LH (c d:Nat) (h:c≠d) (H:Hp):mK (.str [c]) (.str [d]) H=some true:=congrArg (fun b:Bool=>some (!b)) (beq_eq_false_iff_ne.mpr fun e=>h (List.cons.inj e).1)
theorem Dh (q:List Nat) (c:Nat):V.int ((q.length:Nat) + (1:Int)) = .int ((q++[c]).length:Nat):=congrArg V.int (Kp q c).symm
theorem LE (q:List Nat) (c d:Nat):V.int ((q.length:Nat) + (2:Int)) = .int ((q++[c,d]).length:Nat):=congrArg V.int (by rw[List.length_append]; rfl)
theorem Jp {a b:Nat} (h:a < b) (H:Hp):KH (.int (a:Int)) (.int (b:Int)) H=some false:=congrArg some (decide_eq_false fun e=>Nat.not_le_of_lt h (Int.ofNat_le.mp e))
theorem Lf {a b:Nat} (h:a≤b) (H:Hp):JG (.int (a:Int)) (.int (b:Int)) H=some false:=congrArg some (decide_eq_false fun e=>Nat.not_lt_of_le h (Int.ofNat_lt.mp e))
theorem KY {a b:Nat} (h:a≠b) (H:Hp):vEq (.int (a:Int)) (.int (b:Int)) H=some false:=congrArg some (beq_eq_false_iff_ne.mpr fun e=>h (Int.ofNat.inj e))
noncomputable abbrev L0 (k:Nat) (B:Int) (text q:List Nat):Loc:=[some (.ref k),some (.int B),some (.str text),some (.int (q.length:Nat)),none,none]
theorem GS {H:Hp}{k:Nat}{r:List Nat}{B:Int}:∀ (w q:List Nat),(∀ x∈w,x≠34∧x≠92)→
    aY iw jW (L0 k B (q++(w++34::r)) q) H=some (.next,L0 k B (q++(w++34::r)) (q++w),H)
  | [],q,_=>by
    rw[List.append_nil]
    unfold iw
    exact pY (cQ (ai rfl (ay rfl rfl) (qe q 34 r H)) (fun _=>ai (ag rfl rfl (jw q 34 r H)) rfl rfl) (fun h=>nomatch h))
  | c::w,q,hw=>by
    obtain⟨h1,h2⟩:=hw c List.mem_cons_self
    have ih:=GS (H:=H) (k:=k) (r:=r) (B:=B) w (q++[c]) (fun x hx=>hw x (List.mem_cons_of_mem _ hx))
    have e:q++(c::w++34::r)=q++[c]++(w++34::r):=by rw[List.append_assoc]; rfl
    have e2:q++c::w=q++[c]++w:=by rw[List.append_assoc]; rfl
    rw[← e,← e2] at ih
    refine(gb (H1:=H) ?_ ?_).trans ih
    · unfold iw
      exact cQ (ai rfl (ay rfl rfl) (qe q c (w++34::r) H)) (fun _=>ai (ag rfl rfl (jw q c (w++34::r) H)) rfl (LH c 34 h1 H)) (fun h=>nomatch h)
    · unfold jW
      refine(AH (a:=(q.length:Nat)) (b:=1) rfl (ite_false (H1:=H) (ai (ag rfl rfl (jw q c (w++34::r) H)) rfl (IU c 92 h2 H)) rfl)).trans ?_
      rw[Dh q c]
      rfl
theorem zZ {H:Hp}{k:Nat}{p0 r0 q w r:List Nat} (h:H[k]? = some (cur p0 r0)) (ht:p0++r0=q++(34::w++34::r)) (hw:∀ x∈w,x≠34∧x≠92):
    oN [.ref k, .int (q.length:Nat)] H=some (.int ((q++(34::w++[34])).length:Nat),H):=by
  unfold oN qT
  have ht':p0++r0=q++[34]++(w++34::r):=by rw[ht,List.append_assoc]; rfl
  have h1:=GS (H:=H) (k:=k) (r:=r) (B:=(q.length:Nat)) w (q++[34]) hw
  have e3:q++(34::w++[34])=q++[34]++w++[34]:=by rw[List.append_assoc,List.append_assoc]; rfl
  have hl:(q++[34]++w).length < (q++[34]++(w++34::r)).length:=by rw[← List.append_assoc,List.length_append (bs:=34::r)]; exact Nat.lt_add_of_pos_right (Nat.succ_pos _)
  unfold cur at h
  rw[ht'] at h
  rw[e3]
  refine aq rfl rfl ((ac (au (aF rfl h rfl rfl) rfl)).trans ((ac (au (v := .int ((q++[34]).length:Nat)) (ag (a := .int (q.length:Nat)) (b := .int 1) rfl rfl (congrArg some (Dh q 34))) rfl)).trans ((ac h1).trans ((ac ((if_false (ai rfl (ay rfl rfl) (Jp hl H))).trans rfl)).trans (a8 (ag (a := .int ((q++[34]++w).length:Nat)) (b := .int 1) rfl rfl (congrArg some (Dh (q++[34]++w) 34))))))))
theorem AJ {H:Hp}{k:Nat}{p0 r0 q r:List Nat} (h:H[k]? = some (cur p0 r0)) (ht:p0++r0=q++(91::32::93::r)):
    oE [.ref k, .int (q.length:Nat)] H=some (.int ((q++[91,32,93]).length:Nat),H):=by
  unfold oE rc
  have T:p0++r0=q++[91]++(32::93::r):=by rw[ht,List.append_assoc]; rfl
  have T2:q++[91]++(32::93::r)=q++[91]++[32]++(93::r):=by rw[List.append_assoc (q++[91])]; rfl
  have e3:q++[91,32,93]=q++[91]++[32]++[93]:=by rw[List.append_assoc,List.append_assoc]; rfl
  have hl:(q++[91]++[32]).length < (q++[91]++(32::93::r)).length:=by rw[T2,List.length_append (bs:=93::r)]; exact Nat.lt_add_of_pos_right (Nat.succ_pos _)
  unfold cur at h
  rw[T] at h
  rw[e3]
  generalize hz:q++[91]=z at h T2 hl
  have i1:V.int ((q.length:Nat) + (1:Int)) = .int (z.length:Nat):=by rw[← hz]; exact Dh q 91
  let M1:Loc:=[some (.ref k),some (.int (q.length:Nat)),some (.str (z++32::93::r)),some (.int (z.length:Nat)),some (.bool true),none,none]
  let M2:Loc:=[some (.ref k),some (.int (q.length:Nat)),some (.str (z++32::93::r)),some (.int ((z++[32]).length:Nat)),some (.bool false),none,none]
  have w1:eG M1 H=some (true,H):=by
    unfold eG
    exact cQ (a:=true) (ai rfl (ay rfl rfl) (qe z 32 (93::r) H)) (fun _=>kG (a:=true) (b:=true) (aU rfl rfl) (fun h=>nomatch h) (fun _=>rfl)) (fun h=>nomatch h)
  have w2:j9 M1 H=some (.next,M2,H):=by
    unfold j9
    refine(ac (au (v := .bool false) rfl rfl)).trans ((if_false (H1:=H) (cQ (a:=false) (b:=true) (ai (a := .str [32,93]) (jc (x:=z++32::93::r) (a:=some (z.length:Int)) (b:=some ((z.length:Int) + 2)) rfl (eM rfl) (eM (ag rfl rfl rfl)) (xt z.length 2) (vY (n:=2))) rfl rfl) (fun h=>nomatch h) (fun _=>rfl))).trans ((AH (a:=(z.length:Nat)) (b:=1) rfl (ite_false (H1:=H) (ai (ag rfl rfl (jw z 32 (93::r) H)) rfl rfl) rfl)).trans ?_))
    rw[Dh z 32]
    rfl
  have w3:eG M2 H=some (false,H):=by
    show eG [some (.ref k),some (.int (q.length:Nat)),some (.str (z++32::93::r)),some (.int ((z++[32]).length:Nat)),some (.bool false),none,none] H=_
    rw[T2]
    unfold eG
    exact cQ (a:=true) (b:=false) (ai rfl (ay rfl rfl) (qe (z++[32]) 93 r H)) (fun _=>kG (a:=false) (b:=false) (aU rfl rfl) (fun _=>ai (ag rfl rfl (jw (z++[32]) 93 r H)) rfl rfl) (fun h=>nomatch h)) (fun h=>nomatch h)
  refine aq rfl rfl ((ac (au (aF rfl h rfl rfl) rfl)).trans ((ac (au (v := .int (z.length:Nat)) (ag (a := .int (q.length:Nat)) (b := .int 1) rfl rfl (congrArg some i1)) rfl)).trans ((ac ((if_false (H1:=H) (ai (a := .str [32]) (jc (x:=z++32::93::r) (a:=some (z.length:Int)) (b:=some ((z.length:Int) + 1)) rfl (eM rfl) (eM (ag rfl rfl rfl)) (xt z.length 1) (vY (n:=1))) rfl rfl)).trans rfl)).trans ((ac (au (v := .bool true) rfl rfl)).trans ((ac ((gb w1 w2).trans (pY w3))).trans ((ac ((if_false (ai rfl (ay rfl rfl) (Jp hl H))).trans rfl)).trans (a8 (ag (a := .int ((z++[32]).length:Nat)) (b := .int 1) rfl rfl (congrArg some (Dh (z++[32]) 93))))))))))
noncomputable abbrev Mr (k:Nat) (text:List Nat) (b:Int) (q:List Nat):Loc:=[some (.ref k),some (.str text),some (.int b),some (.int (q.length:Nat)),none,none,none,none,none,none]
theorem AQ {H:Hp}{k c:Nat}{b:Int}{q r text:List Nat} (ht:text=q++c::r) (h1:c∉[32,9]):bZ (Mr k text b q) H=some (true,H):=by
  subst ht
  unfold bZ
  exact cQ (ai rfl (ay rfl rfl) (qe q c r H)) (fun _=>ai (ag rfl rfl (jw q c r H)) rfl (congrArg (fun b=>some (!b)) (decide_eq_false h1))) (fun h=>nomatch h)
theorem Jl {H:Hp}{k:Nat}{b:Int}{q r text:List Nat} (ht:text=q++r) (h1:∀ c t,r=c::t→c∈[32,9]):bZ (Mr k text b q) H=some (false,H):=by
  subst ht
  unfold bZ
  cases r with
  | nil=>exact cQ (b:=true) (ai rfl (ay rfl rfl) (Db q H)) (fun h=>nomatch h) (fun _=>rfl)
  | cons c r=>exact cQ (ai rfl (ay rfl rfl) (qe q c r H)) (fun _=>ai (ag rfl rfl (jw q c r H)) rfl (congrArg (fun b=>some (!b)) (decide_eq_true (h1 c r rfl)))) (fun h=>nomatch h)
theorem HI {H:Hp}{k c:Nat}{b:Int}{q r text:List Nat} (ht:text=q++c::r) (h1:c∉[32,9,34,91,92]):
    aY bZ bY (Mr k text b q) H=aY bZ bY (Mr k text b (q++[c])) H:=by
  have ne:∀ d∈[32,9,34,91,92],c≠d:=fun d hd e=>h1 (e▸hd)
  refine gb (AQ ht fun h=>h1 (List.mem_append_left [34,91,92] h)) ?_
  subst ht
  unfold bY
  refine(if_false (ai (ag rfl rfl (jw q c r H)) rfl (IU c 34 (ne 34 (by decide)) H))).trans ((if_false (ai (ag rfl rfl (jw q c r H)) rfl (IU c 91 (ne 91 (by decide)) H))).trans ((AH (a:=(q.length:Nat)) (b:=1) rfl (ite_false (H1:=H) (ai (ag rfl rfl (jw q c r H)) rfl (IU c 92 (ne 92 (by decide)) H)) rfl)).trans ?_))
  rw[Dh q c]
  rfl
theorem J4 {H:Hp}{k c:Nat}{b:Int}{q r text:List Nat} (ht:text=q++92::c::r):
    aY bZ bY (Mr k text b q) H=aY bZ bY (Mr k text b (q++[92,c])) H:=by
  refine gb (AQ ht (by decide)) ?_
  subst ht
  unfold bY
  refine(if_false (ai (ag rfl rfl (jw q 92 (c::r) H)) rfl rfl)).trans ((if_false (ai (ag rfl rfl (jw q 92 (c::r) H)) rfl rfl)).trans ((AH (a:=(q.length:Nat)) (b:=2) rfl (ite_true (H1:=H) (ai (ag rfl rfl (jw q 92 (c::r) H)) rfl rfl) rfl)).trans ?_))
  rw[LE q 92 c]
  rfl
theorem IL {H:Hp}{k:Nat}{b:Int}{p0 r0 q w r:List Nat} (h:H[k]? = some (cur p0 r0)) (ht:p0++r0=q++(34::w++34::r)) (hw:∀ x∈w,x≠34∧x≠92):
    aY bZ bY (Mr k (p0++r0) b q) H=aY bZ bY (Mr k (p0++r0) b (q++(34::w++[34]))) H:=by
  refine gb (AQ (c:=34) (r:=w++34::r) ht (by decide)) ?_
  have h1:=zZ h ht hw
  rw[ht]
  unfold bY
  exact(if_true (ai (ag rfl rfl (jw q 34 (w++34::r) H)) rfl rfl)).trans (au (dL rfl h1) rfl)
theorem HX {H:Hp}{k:Nat}{b:Int}{p0 r0 q r:List Nat} (h:H[k]? = some (cur p0 r0)) (ht:p0++r0=q++(91::32::93::r)):
    aY bZ bY (Mr k (p0++r0) b q) H=aY bZ bY (Mr k (p0++r0) b (q++[91,32,93])) H:=by
  refine gb (AQ ht (by decide)) ?_
  have h1:=AJ h ht
  rw[ht]
  unfold bY
  exact(if_false (ai (ag rfl rfl (jw q 91 (32::93::r) H)) rfl rfl)).trans ((if_true (ai (ag rfl rfl (jw q 91 (32::93::r) H)) rfl rfl)).trans (au (dL rfl h1) rfl))
noncomputable def jb:List (List Nat):=[[97,43],[34,120,32,121,34],[91,32,93,98],[92,32,122],[60,113],[47,47,114],[37,37,115],[123,68,125],[97,47,98],[94,120,36],[125],[60,65,62,116]]
theorem Ey {H:Hp}{k:Nat}{b:Int}{r:List Nat} (h1:∀ c t,r=c::t→c∈[32,9]):∀ (w q:List Nat),(∀ x∈w,x∉[32,9,34,91,92])→
    aY bZ bY (Mr k (q++(w++r)) b q) H=some (.next,Mr k (q++(w++r)) b (q++w),H)
  | [],q,_=>by rw[List.append_nil]; exact pY (Jl rfl h1)
  | c::w,q,hw=>by
    have ih:=Ey (H:=H) (k:=k) (b:=b) h1 w (q++[c]) (fun x hx=>hw x (List.mem_cons_of_mem _ hx))
    rw[List.append_assoc,List.append_assoc] at ih
    exact(HI rfl (hw c List.mem_cons_self)).trans ih
theorem JM {H:Hp}{k:Nat}{b:Int}{p r raw:List Nat} (h:H[k]? = some (cur p (raw++r))) (hr:raw∈jb) (h1:∀ c t,r=c::t→c∈[32,9]):
    aY bZ bY (Mr k (p++(raw++r)) b p) H=some (.next,Mr k (p++(raw++r)) b (p++raw),H):=by
  have key:∀ raw∈jb,(∀ x∈raw,x∉[32,9,34,91,92])∨raw=[34,120,32,121,34]∨raw=[91,32,93,98]∨raw=[92,32,122]:=by decide
  rcases key raw hr with hp | rfl | rfl | rfl
  · exact Ey h1 raw p hp
  · refine(IL (w:=[120,32,121]) (r:=r) h rfl (by decide)).trans (pY (Jl (r:=r) ?_ h1))
    rw[List.append_assoc]; rfl
  · have ih:=Ey (H:=H) (k:=k) (b:=b) h1 [98] (p++[91,32,93]) (by decide)
    rw[List.append_assoc,List.append_assoc] at ih
    exact(HX (r:=98::r) h rfl).trans ih
  · have ih:=Ey (H:=H) (k:=k) (b:=b) h1 [122] (p++[92,32]) (by decide)
    rw[List.append_assoc,List.append_assoc] at ih
    exact(J4 (c:=32) (r:=122::r) rfl).trans ih
theorem vZ {raw:List Nat} (hr:raw∈jb):0 < raw.length∧raw.length≤5:=by
  have:∀ x∈jb,0 < x.length∧x.length≤5:=by decide
  exact this raw hr
noncomputable def mD (raw:List Nat):V := .inst 3 [.str raw]
theorem zI {H:Hp}{k:Nat}{p r raw:List Nat} (h:H[k]? = some (cur p (raw++r))) (hr:raw∈jb) (h1:∀ c t,r=c::t→c∈[32,9]):
    ∃ H',qP [.ref k] H=some (mD raw,H')∧H'[k]? = some (cur (p++raw) r)∧aV [k] H H':=by
  have hw:=JM (b:=(p.length:Nat)) h hr h1
  have hz:=(vZ hr).1
  have l1:(p++raw).length≤(p++(raw++r)).length:=by rw[← List.append_assoc,List.length_append (as:=p++raw)]; exact Nat.le_add_right _ _
  have l2:(p++raw).length≠p.length:=by rw[List.length_append]; omega
  have e4:=wv (p:=p) (q:=raw) (r:=r) (m:=(((p++raw).length:Nat):Int)) (by rw[List.length_append,Int.natCast_add])
  have hs:(H.set k (cur (p++raw) r))[k]? = some (cur (p++raw) r):=b7 h
  refine⟨((H.set k (cur (p++raw) r))++[.dead]),?_,dh hs,aV.trans (aV.set List.mem_cons_self) aV.app⟩
  unfold qP yo
  refine aq rfl rfl ((ac (au (aF rfl h rfl rfl) rfl)).trans ((ac (au (aF rfl h rfl rfl) rfl)).trans ((ac (au rfl rfl)).trans ((ac hw).trans ((ac ((if_false (ai rfl (ay rfl rfl) (Lf l1 H))).trans rfl)).trans ((ac ((if_false (ai rfl rfl (KY l2 H))).trans rfl)).trans ((ac (qK (i:=1) (v := .int ((p++raw).length:Nat)) rfl rfl h rfl rfl)).trans (a8 (H1:=H.set k (cur (p++raw) r)++[.dead]) ?_))))))))
  have ec:Ob.inst 0 [.str (p++(raw++r)), .int ((p++raw).length:Nat)]=cur (p++raw) r:=by unfold cur; rw[List.append_assoc]
  show iZ _ _ (H.set k (Ob.inst 0 [.str (p++(raw++r)), .int ((p++raw).length:Nat)]))=_
  rw[ec]
  refine eu (vs:=[.str raw]) (ak (jc (x:=p++(raw++r)) (a:=some ((p.length:Nat):Int)) (b:=some (((p++raw).length:Nat):Int)) rfl (eM rfl) (eM rfl) ?_ e4) rfl) JW
  rw[List.length_append,Int.natCast_add]
  exact xt p.length raw.length
end Mine
end
section
namespace Mine
theorem u6 {r:Option (V × Hp)}{H:Hp}{k:Nat}{v:V}{o o':Ob} (e:r=some (v,H.set k o')) (h:H[k]? = some o) {C:Prop} (K:∀ H1,r=some (v,H1)→H1[k]? = some o'→aV [k] H H1→C):C:=K _ e (b7 h) (aV.set in1)
theorem Dd {A B D:Hp→Prop} (h:∃ H,A H∧B H∧D H) {C:Prop} (K:∀ H,A H→B H→D H→C):C:=h.elim fun H h=>K H h.1 h.2.1 h.2.2
noncomputable def u7 (w:List Nat) (v:V):V := .inst 1 [.str w,v]
noncomputable def digits (i:Int):List Nat:=(PySem.Str.ofString (toString i)).cps.toList
noncomputable def nM (w:List Nat):V→List Nat
  | .str s=>w++32::s
  | .int i=>w++32::digits i
  | _=>w
noncomputable abbrev bR:List Nat:=[114,101,116,117,114,110]
noncomputable abbrev eH:List Nat:=[98,101,103,105,110]
noncomputable abbrev iA:List Nat:=[112,117,115,104]
noncomputable abbrev gv:List Nat:=[108,101,115,115]
noncomputable abbrev Ho:List Nat:=[115,107,105,112]
noncomputable abbrev fv:List Nat:=[114,101,106,101,99,116]
noncomputable abbrev qx:List Nat:=[109,111,114,101]
noncomputable def eK:List (List Nat):=[Ho,[112,111,112],qx,fv,[101,99,104,111]]
noncomputable def eI (n:List Nat):Prop:=∃ c w,n=c::w∧c∈aQ∧c∉uL∧∀ x∈w,x∈aQ
inductive eY (names:List (List Nat)):List Nat→V→Prop
  | plain {w:List Nat}:w∈eK→eY names w .none
  | kind:eY names bR (.str [75,73,78,68])
  | quote:eY names bR (.str [39,59,39])
  | begin {n:List Nat}:n∈names→eY names eH (.str n)
  | push {n:List Nat}:n∈names→eY names iA (.str n)
  | less {i:Int}:i∈[12,13,14]→eY names gv (.int i)
noncomputable def uq (r:List Nat):Prop:=r=[]∨∃ t,r=59::t
theorem tY {r:List Nat} (hr:uq r):∀ x t,r=x::t→x∉aQ:=by
  rintro x t e
  rcases hr with rfl | ⟨u,rfl⟩
  · cases e
  · cases e; decide
theorem Ce {w:List Nat} (h:w∈eK):w=Ho∨w=[112,111,112]∨w=qx∨w=fv∨w=[101,99,104,111]:=(show ∀ w∈eK,w=Ho∨w=[112,111,112]∨w=qx∨w=fv∨w=[101,99,104,111] by decide) w h
theorem CZ {w:List Nat} (hw:w∈eK) {C:Prop} (K:∀ c t,w=c::t→c∈aQ→c∉uL→(∀ x∈t,x∈aQ)→(∀ H,gi (.str w) cF H=some false)→(∀ H,aI cF (.str w) H=some (.str []))→C):C:=by
  rcases Ce hw with rfl | rfl | rfl | rfl | rfl <;> exact K _ _ rfl (by decide) (by decide) (by decide) (fun _=>rfl) (fun _=>rfl)
theorem Ds {H:Hp}{k:Nat}{p r w:List Nat}{ns:V} (h:H[k]? = some (cur p (w++r))) (hr:uq r) (hw:w∈eK):
    ∃ H',dU [.ref k,ns] H=some (u7 w .none,H')∧H'[k]? = some (cur (p++w) r)∧aV [k] H H':=by
  refine cps fun CC kk=>CZ hw fun c t ew q1 q2 q3 e2 e3=>?_
  subst ew
  refine u6 (mA h q1 q2 q3 (tY hr)) h fun H1 e1 g1 k1=>?_
  refine kk ⟨H1++[.dead],?_,dh g1,k1.trans aV.app⟩
  unfold dU lb
  exact aq rfl rfl ((ac (au (aF rfl h rfl rfl) rfl)).trans ((ac (au (ao rfl (bg h) rfl e1) rfl)).trans ((ac ((if_false (ai rfl rfl (e2 H1))).trans rfl)).trans ((ac (au (ag rfl rfl (e3 H1)) rfl)).trans (fF ((if_true (ai rfl rfl rfl)).trans (a8 (eu (ak rfl rfl) Kk))))))))
theorem I4 {w:List Nat} (h:w∈[bR,eH,iA,gv]):w=bR∨w=eH∨w=iA∨w=gv:=(show ∀ w∈[bR,eH,iA,gv],w=bR∨w=eH∨w=iA∨w=gv by decide) w h
theorem HS {w:List Nat} (hw:w∈[bR,eH,iA,gv]) {C:Prop} (K:∀ c t,w=c::t→c∈aQ→c∉uL→(∀ x∈t,x∈aQ)→C):C:=by
  rcases I4 hw with rfl | rfl | rfl | rfl <;> exact K _ _ rfl (by decide) (by decide) (by decide)
theorem Gr:32∉aQ:=by decide
theorem A1 {c:Nat}{l:List Nat}{P:Nat→Prop} (h:P c):∀ x t,c::l=x::t→P x:=fun _ _ e=>(List.cons.inj e).1▸h
theorem Ls:∀ x∈[32],x∈[32,9]:=fun x h=>List.mem_singleton.mp h▸List.mem_cons_self
theorem rU {H:Hp}{k:Nat}{p r w:List Nat}{c:Nat} (h:H[k]? = some (cur p (w++32::c::r))) (hw:w∈[bR,eH,iA,gv]) (hc:c∉[32,9]) {C:Prop}
    (K:∀ H1 H2,bM [.ref k] H=some (.str w,H1)→aB [.ref k] H1=some (.none,H2)→H1[k]? = some (cur (p++w) (32::c::r))→H2[k]? = some (cur (p++w++[32]) (c::r))→aV [k] H H1→aV [k] H1 H2→C):C:=
  HS hw fun a t ew q1 q2 q3=>by
    subst ew
    exact u6 (mA h q1 q2 q3 (A1 (P:=(·∉aQ)) Gr)) h fun H1 e1 g1 k1=>u6 (da (t:=[32]) (d:=c::r) g1 Ls (A1 (P:=(·∉[32,9])) hc)) g1 fun H2 e2 g2 k2=>K H1 H2 e1 e2 g1 g2 k1 k2
theorem uo {H H1 H2:Hp}{k:Nat}{q1 q2:List V}{w wanted:List Nat}{ns:V}{r:Option (Fl × Loc × Hp)}{f:SF} (h:H[k]? = some (.inst 0 q1)) (a0 a1:V) (ha:q1[1]? = some a0) (g1:H1[k]? = some (.inst 0 q2)) (g2:∃ x,H2[k]? = some (.inst 0 [x,a1]))
    (e1:bM [.ref k] H=some (.str w,H1)) (e2:aB [.ref k] H1=some (.none,H2)) (e4:gi (.str w) cF H1=some false) (e5:aI cF (.str w) H1=some (.str wanted)) (e6:(wanted==[])=false)
    (hr:f [some (.ref k),some ns,some a1,some (.str w),some (.str wanted),none,none,none,none,none,none,none,none,none,none,none] H2=r) {g1' g2':SF}:
    (al (af (aW (am jA) (aa 0)) (aw 2)) (al (af (aJ [(0,bM)] (aa 0) aj) (aw 3)) (al (cK (aG gi (aa 3) (ab cF)) g1' bj) (al (af (av aI (ab cF) (aa 3)) (aw 4)) (al (cK (aG vEq (aa 4) (ab (.str []))) g2' bj) (al (cj (aJ [(0,aB)] (aa 0) aj)) (al (af (aW (am jA) (aa 0)) (aw 2)) f)))))))
      [some (.ref k),some ns,none,none,none,none,none,none,none,none,none,none,none,none,none,none] H=r:=by
  obtain⟨x,g2⟩:=g2
  exact(ac (au (aF rfl h rfl ha) rfl)).trans ((ac (au (ao rfl (bg h) rfl e1) rfl)).trans ((ac ((if_false (ai rfl rfl e4)).trans rfl)).trans ((ac (au (ag rfl rfl e5) rfl)).trans ((ac ((if_false (ai rfl rfl (congrArg some e6))).trans rfl)).trans ((ac (bz (ao rfl (bg g1) rfl e2))).trans ((ac (au (aF rfl g2 rfl rfl) rfl)).trans hr))))))
theorem wi {p w s r:List Nat}:cur (p++w++[32]++s) r=cur (p++(w++32::s)) r:=by rw[List.append_assoc,List.append_assoc]; rfl
theorem zy {H:Hp}{k c:Nat}{p r w t:List Nat}{ns:V} (h:H[k]? = some (cur p (w++32::((c::t)++r)))) (hr:uq r) (hw:w∈[eH,iA]) (q1:c∈aQ) (q2:c∉uL) (q3:∀ x∈t,x∈aQ) (hn:∀ H,gi (.str (c::t)) ns H=some false):
    ∃ H',dU [.ref k,ns] H=some (u7 w (.str (c::t)),H')∧H'[k]? = some (cur (p++nM w (.str (c::t))) r)∧aV [k] H H':=by
  refine cps fun CC kk=>?_
  have hb:c∉[32,9]:=fun q=>(by decide:∀ x∈[32,9],x∉aQ) c q q1
  have key:w∈[bR,eH,iA,gv]∧∀ H,gi (.str w) cF H=some false∧aI cF (.str w) H=some (.str [99,111,110,100,105,116,105,111,110]):=by
    rcases List.mem_cons.mp hw with rfl | hw
    · exact⟨by decide,fun H=>⟨rfl,rfl⟩⟩
    · obtain rfl:=List.mem_singleton.mp hw
      exact⟨by decide,fun H=>⟨rfl,rfl⟩⟩
  refine rU (c:=c) (r:=t++r) h key.1 hb fun H1 H2 e1 e2 g1 g2 k1 k2=>?_
  refine u6 (mA (r:=r) g2 q1 q2 q3 (tY hr)) g2 fun H3 e3 g3 k3=>?_
  obtain⟨e4,e5⟩:=key.2 H1
  refine kk ⟨H3++[.dead],?_,dh (by rw[g3]; exact congrArg some wi),((k1.trans k2).trans k3).trans aV.app⟩
  unfold dU lb
  exact aq rfl rfl (uo h _ _ rfl g1 ⟨_,g2⟩ e1 e2 e4 e5 rfl ((ac ((if_false (ai rfl rfl rfl)).trans rfl)).trans ((ac ((if_false (cQ (a:=false) (b:=true) (ai rfl rfl rfl) (fun h=>nomatch h) (fun _=>rfl))).trans rfl)).trans ((ac (au (ao rfl (bg g2) rfl e3) rfl)).trans ((ac ((if_false (ai rfl rfl rfl)).trans rfl)).trans ((ac ((if_false (cQ (a:=true) (b:=false) (ai rfl rfl rfl) (fun _=>ai rfl rfl (hn H3)) (fun h=>nomatch h))).trans rfl)).trans (a8 (eu (ak rfl (ak rfl rfl)) stepI))))))))
theorem Fu {H:Hp}{k:Nat}{p r:List Nat}{ns:V} (h:H[k]? = some (cur p (bR++32::([75,73,78,68]++r)))) (hr:uq r):
    ∃ H',dU [.ref k,ns] H=some (u7 bR (.str [75,73,78,68]),H')∧H'[k]? = some (cur (p++nM bR (.str [75,73,78,68])) r)∧aV [k] H H':=by
  refine cps fun CC kk=>?_
  refine rU (c:=75) (r:=[73,78,68]++r) h (by decide) (by decide) fun H1 H2 e1 e2 g1 g2 k1 k2=>?_
  refine u6 (mA (r:=r) (c:=75) (w:=[73,78,68]) g2 (by decide) (by decide) (by decide) (tY hr)) g2 fun H3 e3 g3 k3=>?_
  have e6:=sj (w:=[39]) g2 rfl
  refine kk ⟨H3++[.dead],?_,dh (by rw[g3]; exact congrArg some wi),((k1.trans k2).trans k3).trans aV.app⟩
  unfold dU lb
  exact aq rfl rfl (uo h _ _ rfl g1 ⟨_,g2⟩ e1 e2 rfl rfl rfl ((ac ((if_false (ai rfl rfl rfl)).trans rfl)).trans ((ac ((if_false (cQ (a:=true) (b:=false) (ai rfl rfl rfl) (fun _=>aU (ao rfl (bg g2) (ak rfl rfl) e6) rfl) (fun h=>nomatch h))).trans rfl)).trans ((ac (au (ao rfl (bg g2) rfl e3) rfl)).trans ((ac ((if_false (ai rfl rfl rfl)).trans rfl)).trans ((ac ((if_false (cQ (a:=false) (b:=true) (ai rfl rfl rfl) (fun h=>nomatch h) (fun _=>rfl))).trans rfl)).trans (a8 (eu (ak rfl (ak rfl rfl)) stepI))))))))
theorem DA {H:Hp}{k:Nat}{p r:List Nat}{ns:V} (h:H[k]? = some (cur p (bR++32::([39,59,39]++r)))) (hr:uq r):
    ∃ H',dU [.ref k,ns] H=some (u7 bR (.str [39,59,39]),H')∧H'[k]? = some (cur (p++nM bR (.str [39,59,39])) r)∧aV [k] H H':=by
  refine cps fun CC kk=>?_
  refine rU (c:=39) (r:=[59,39]++r) h (by decide) (by decide) fun H1 H2 e1 e2 g1 g2 k1 k2=>?_
  refine u6 (n6 (w:=[39]) (r:=[59,39]++r) g2) g2 fun H3 e3 g3 k3=>?_
  refine Dd (Fz g3) fun H4 e6 g4 k4=>?_
  have e7:=DS (H:=H4)
  refine kk ⟨H4++[.dead],?_,dh (by rw[g4,List.append_assoc (bs:=[39])]; exact congrArg some wi),(((k1.trans k2).trans k3).trans k4).trans aV.app⟩
  unfold dU lb
  exact aq rfl rfl (uo h _ _ rfl g1 ⟨_,g2⟩ e1 e2 rfl rfl rfl ((ac ((if_false (ai rfl rfl rfl)).trans rfl)).trans (fF ((if_true (cQ (a:=true) (b:=true) (ai rfl rfl rfl) (fun _=>aU (ao rfl (bg g2) (ak rfl rfl) e3) rfl) (fun h=>nomatch h))).trans ((ac (au (ao rfl (bg g3) (ak rfl rfl) e6) rfl)).trans ((ac ((if_false (kG (a:=false) (b:=false) (ai rfl rfl rfl) (fun _=>ai (ay rfl rfl) rfl rfl) (fun h=>nomatch h))).trans rfl)).trans (a8 (eu (ak rfl (ak (ag (ag rfl (dL (ak rfl (ak rfl rfl)) e7) rfl) rfl rfl) rfl)) stepI))))))))
theorem Ch {i:Int} (hi:i∈[12,13,14]) {C:Prop} (K:∀ b,digits i=[49,b]→b∈uL→(∀ H,vInt (.str [49,b]) H=some (.int i))→C):C:=by
  rcases(show ∀ i∈[(12:Int),13,14],i=12∨i=13∨i=14 by decide) i hi with rfl | rfl | rfl
  · exact K 50 (by decide +kernel) (by decide) fun H=>rfl
  · exact K 51 (by decide +kernel) (by decide) fun H=>rfl
  · exact K 52 (by decide +kernel) (by decide) fun H=>rfl
theorem Fd {H:Hp}{k:Nat}{p r:List Nat}{ns:V}{i:Int} (hi:i∈[12,13,14]) (h:H[k]? = some (cur p (gv++32::(digits i++r)))) (hr:uq r):
    ∃ H',dU [.ref k,ns] H=some (u7 gv (.int i),H')∧H'[k]? = some (cur (p++nM gv (.int i)) r)∧aV [k] H H':=by
  refine cps fun CC kk=>?_
  refine Ch hi fun b hd hb hv=>?_
  have hs:nM gv (.int i)=gv++32::digits i:=rfl
  rw[hs,hd] at kk
  rw[hd] at h
  refine rU (c:=49) (r:=[b]++r) h (by decide) (by decide) fun H1 H2 e1 e2 g1 g2 k1 k2=>?_
  refine u6 (pr (s:=uL) (t:=[49,b]) (d:=r) g2 (fun x hx=>(List.mem_cons.mp hx).elim (fun e=>e▸(by decide)) fun hx=>(List.mem_singleton.mp hx)▸hb) (fun x t e q=>tY hr x t e ((show ∀ x∈uL,x∈aQ by decide) x q))) g2 fun H3 e3 g3 k3=>?_
  refine kk ⟨H3++[.dead],?_,dh (by rw[g3]; exact congrArg some wi),((k1.trans k2).trans k3).trans aV.app⟩
  unfold dU lb
  exact aq rfl rfl (uo h _ _ rfl g1 ⟨_,g2⟩ e1 e2 rfl rfl rfl (fF ((if_true (ai rfl rfl rfl)).trans ((ac (au (ao rfl (bg g2) (ak rfl rfl) e3) rfl)).trans ((ac ((if_false (kG (a:=false) (b:=false) (ai (a := .str [49,b]) (b := .str []) rfl rfl rfl) (fun _=>ai (a := .int 2) (b := .int 6) (ay rfl rfl) rfl rfl) (fun h=>nomatch h))).trans rfl)).trans (a8 (eu (ak rfl (ak (ay rfl (hv H3)) rfl)) stepI)))))))
end Mine
end
section
namespace Mine
theorem CE {x:List Nat} (l:List (List Nat)):qR (.str x) (l.map V.str)=some (decide (x∈l)):=by
  induction l with
  | nil=>rfl
  | cons y l ih=>
    have e:qR (.str x) ((y::l).map V.str)=(qR (.str x) (l.map V.str)).map ((y==x)||·):=rfl
    rw[e,ih]
    refine congrArg some ?_
    by_cases h:y=x
    · rw[beq_iff_eq.mpr h,decide_eq_true (List.mem_cons.mpr (.inl h.symm))]; rfl
    · rw[beq_eq_false_iff_ne.mpr h]
      exact decide_eq_decide.mpr ⟨List.mem_cons_of_mem _,fun q=>(List.mem_cons.mp q).resolve_left fun z=>h z.symm⟩
theorem Iv {x:List Nat}{l:List V}{H:Hp}:pN (.str x) (.tup l) H=qR (.str x) l:=rfl
theorem IG {x:List Nat}{l:List V}{H:Hp}:pN (.str x) (.lst l) H=qR (.str x) l:=rfl
theorem DX {x:List Nat}{l:List (List Nat)} (H:Hp):pN (.str x) (.lst (l.map V.str)) H=some (decide (x∈l)):=IG.trans (CE l)
theorem q6 {x:List Nat}{l:List (List Nat)} (h:x∈l) (H:Hp):gi (.str x) (.lst (l.map V.str)) H=some false:=by
  unfold gi
  rw[DX,decide_eq_true h]
  rfl
theorem xi {x:List Nat}{l:List (List Nat)} (H:Hp):pN (.str x) (.tup (l.map V.str)) H=some (decide (x∈l)):=Iv.trans (CE l)
theorem HR {x:List Nat} (H:Hp):pN (.str x) pU H=some (decide (x∈[bR,fv])):=xi H
theorem item_last {H:Hp}{j:Nat}{a:List V}{v:V} (h:H[j]? = some (.lst (a++[v]))):aI (.ref j) (.int (-1)) H=some v:=by
  have hl:(a++[v]).length=a.length + 1:=List.length_append ..
  have e:aI (.ref j) (.int (-1)) H=(cw (.ref j) H).bind fun l=>wa l (-1):=rfl
  have e2:((-1:Int) + ((a.length + 1:Nat):Int)).toNat=a.length:=by rw[Int.natCast_add,Int.add_comm,Int.natCast_one,Int.add_neg_cancel_right]; rfl
  rw[e,eE.mpr h,Option.bind_some]
  unfold wa
  rw[if_neg (by decide),hl,if_pos (show -((a.length + 1:Nat):Int)≤-1 by omega),e2,List.getElem?_append_right (Nat.le_refl _),Nat.sub_self]
  rfl
theorem I3 {H:Hp}{k:Nat}{p r w:List Nat}{v:V}{names:List (List Nat)} (hn:∀ n∈names,eI n) (hs:eY names w v) (h:H[k]? = some (cur p (nM w v++r))) (hr:uq r):
    ∃ H',dU [.ref k, .lst (names.map V.str)] H=some (u7 w v,H')∧H'[k]? = some (cur (p++nM w v) r)∧aV [k] H H':=by
  cases hs with
  | plain hw=>exact Ds h hr hw
  | kind=>exact Fu h hr
  | quote=>exact DA h hr
  | begin hm=>
    obtain⟨c,t,rfl,q1,q2,q3⟩:=hn _ hm
    exact zy h hr List.mem_cons_self q1 q2 q3 (q6 hm)
  | push hm=>
    obtain⟨c,t,rfl,q1,q2,q3⟩:=hn _ hm
    exact zy h hr (List.mem_cons_of_mem _ List.mem_cons_self) q1 q2 q3 (q6 hm)
  | less hi=>exact Fd hi h hr
noncomputable abbrev oP:=List Nat × V
noncomputable def oX (s:oP):List Nat:=nM s.1 s.2
noncomputable def cP (l:List oP):List Nat:=cB [59,32] (l.map oX)
noncomputable def mz (s:oP):V:=u7 s.1 s.2
noncomputable def wl (w:List Nat):Prop:=w≠bR∧w≠fv
theorem Eu {names:List (List Nat)}{s:oP} (h:eY names s.1 s.2):∃ c t,oX s=c::t∧c∉[32,9]:=by
  obtain⟨w,v⟩:=s
  cases h with
  | plain hw=>
    rcases Ce hw with rfl | rfl | rfl | rfl | rfl <;> exact⟨_,_,rfl,by decide⟩
  | _=>exact⟨_,_,rfl,by decide⟩
noncomputable def gI (names:List (List Nat)):List oP→Prop
  | []=>True
  | [s]=>eY names s.1 s.2
  | s::s'::l=>eY names s.1 s.2∧wl s.1∧gI names (s'::l)
theorem gI.head {names:List (List Nat)}{s:oP}:∀ {l:List oP},gI names (s::l)→eY names s.1 s.2
  | [],h=>h
  | _::_,h=>h.1
theorem jJ {s s':oP}{l:List oP}:cP (s::s'::l)=oX s++(59::32::cP (s'::l)):=by
  unfold cP; simp[cB]
theorem sM {s:oP}:cP [s]=oX s:=rfl
theorem zj {names:List (List Nat)}:∀ {l:List oP},l≠[]→gI names l→∃ c t,cP l=c::t∧c∉[32,9]
  | [s],_,h=>Eu h
  | s::s'::l,_,h=>by
    obtain⟨c,t,e,hc⟩:=Eu h.1
    rw[jJ,e]
    exact⟨c,_,rfl,hc⟩
noncomputable abbrev Ms (k j:Nat) (ns:V):Loc:=[some (.ref k),some ns,some (.ref j),none,none,none]
noncomputable def JA (acc:List V):Prop:=acc=[]∨∃ a w v,acc=a++[u7 w v]∧wl w
theorem Ax {names:List (List Nat)}{s:oP}:∀ (l:List oP),∃ r,cP (s::l)=oX s++r∧uq r∧((l=[]∧r=[])∨(l≠[]∧r=59::32::cP l))
  | []=>⟨[],(List.append_nil _).symm, .inl rfl, .inl ⟨rfl,rfl⟩⟩
  | _::_=>⟨_,jJ, .inr ⟨_,rfl⟩, .inr ⟨List.cons_ne_nil _ _,rfl⟩⟩
theorem LW {a b:Nat}:a∈[a,b]:=List.mem_cons_self
theorem DM {a b:Nat}:b∈[a,b]:=List.mem_cons_of_mem _ List.mem_cons_self
theorem aV.l {a b:Nat}{H H':Hp} (h:aV [a] H H'):aV [a,b] H H':=h.mono fun x hx => .inl ((List.mem_singleton.mp hx)▸LW)
theorem uK {a b:Nat} (h:a≠b):a∉[b]:=fun q=>h (List.mem_singleton.mp q)
theorem Do {k j:Nat}{ns:V}{H H1 H2 H4 H5:Hp}{o0 o1 o3:List V}{acc:List V}{z:V} (hk:H[k]? = some (.inst 0 o0)) (g1:H1[k]? = some (.inst 0 o1)) (g3:(H2.set j (.lst (acc++[z])))[k]? = some (.inst 0 o3)) (e1:aB [.ref k] H=some (.none,H1)) (d1:bq [.ref k] H1=some (.bool false,H1)) (j1:H1[j]? = some (.lst acc)) (ha:JA acc)
    (e2:dU [.ref k,ns] H1=some (z,H2)) (j2:H2[j]? = some (.lst acc)) (hlt:acc.length < 1048576) (e4:aB [.ref k] (H2.set j (.lst (acc++[z])))=some (.none,H4))
    (hf:(kM (iF (cb (aJ [(0,bq)] (aa 0) aj))) (iF (cb (aJ [(0,ba)] (aa 0) (ae (ab (.str [59])) aj))))) (Ms k j ns) H4=some (false,H5)):fH (Ms k j ns) H=some (.next,Ms k j ns,H5):=by
  unfold fH
  refine(ac (bz (ao rfl (bg hk) rfl e1))).trans ((ac ((if_false (aU (ao rfl (bg g1) rfl d1) rfl)).trans rfl)).trans ((ac ((if_false (H1:=H1) ?_).trans rfl)).trans ((ac (bz (cA rfl j1 (dL rfl e2) j2 hlt))).trans ((ac (bz (ao rfl (bg g3) rfl e4))).trans ((if_false hf).trans rfl)))))
  rcases ha with rfl | ⟨a,w,v,rfl,hw⟩
  · exact cQ (a:=false) (b:=true) (aU rfl (pB j1)) (fun h=>nomatch h) (fun _=>rfl)
  · have hli:=HR (x:=w) H1
    rw[decide_eq_false fun q=>(List.mem_cons.mp q).elim hw.1 fun q=>hw.2 (List.mem_singleton.mp q)] at hli
    refine cQ (a:=true) (b:=false) (aU rfl ((pB j1).trans ?_)) (fun _=>ai (ay (ag rfl rfl (item_last j1)) rfl) rfl hli) (fun h=>nomatch h)
    cases a <;> rfl
theorem EZ {r:List Nat} (hr:uq r):∀ x t,r=x::t→x∉[32,9]:=by
  rintro x t e
  rcases hr with rfl | ⟨u,rfl⟩
  · cases e
  · cases e; decide
theorem DV {k j:Nat}{names:List (List Nat)} (hkj:k≠j) (hn:∀ n∈names,eI n):∀ (l:List oP) (H:Hp) (p b:List Nat) (acc:List V),l≠[]→gI names l→H[k]? = some (cur p (b++cP l))→H[j]? = some (.lst acc)→JA acc→(∀ x∈b,x∈[32,9])→acc.length + l.length≤1000→
    ∃ H',aY lh fH (Ms k j (.lst (names.map V.str))) H=some (.ret (.lst (acc++l.map mz)),Ms k j (.lst (names.map V.str)),H')∧H'[k]? = some (cur (p++(b++cP l)) [])∧aV [k,j] H H':=by
  intro l
  induction l with
  | nil=>intro H p b acc hl; exact absurd rfl hl
  | cons s l ih=>
    intro H p b acc _ hs hk hj ha hb hlen
    refine cps fun CC KK=>?_
    obtain⟨c,t,ec,hc⟩:=zj (List.cons_ne_nil s l) hs
    refine u6 (da (t:=b) (d:=cP (s::l)) hk hb (ec▸A1 (P:=(·∉[32,9])) hc)) hk fun H1 e1 g1 k1=>?_
    have j1:H1[j]? = some (.lst acc):=k1.at hj (uK (Ne.symm hkj))
    have d1:=gK g1
    rw[ec,List.isEmpty_cons] at d1
    obtain⟨r,er,hr,hcase⟩:=Ax (names:=names) (s:=s) l
    rw[er] at g1
    refine Dd (I3 hn hs.head g1 hr) fun H2 e2 g2 k2=>?_
    have j2:H2[j]? = some (.lst acc):=k2.at j1 (uK (Ne.symm hkj))
    have hlt:acc.length < 1048576:=Nat.lt_of_le_of_lt (Nat.le_trans (Nat.le_add_right _ _) hlen) (by decide)
    have g3:(H2.set j (.lst (acc++[mz s])))[k]? = some (cur (p++b++oX s) r):=a6 g2 (Ne.symm hkj)
    have j3:(H2.set j (.lst (acc++[mz s])))[j]? = some (.lst (acc++[mz s])):=b7 j2
    refine u6 (da (t:=[]) (d:=r) g3 (fun _ h=>nomatch h) (fun x u e q=>EZ hr x u e q)) g3 fun H4 e4 g4 k4=>?_
    rw[List.append_nil] at g4
    have j4:H4[j]? = some (.lst (acc++[mz s])):=k4.at j3 (uK (Ne.symm hkj))
    have d4:=gK g4
    have kk:aV [k,j] H H4:=((k1.l.trans k2.l).trans (aV.set DM)).trans k4.l
    have et:∀ H,lh (Ms k j (.lst (names.map V.str))) H=some (true,H):=fun H=>rfl
    have turn:=fun H5=>Do (H5:=H5) hk g1 g3 e1 d1 j1 ha e2 j2 hlt e4
    rcases hcase with ⟨rfl,rfl⟩ | ⟨hl,rfl⟩
    ·
      have eb:=turn H4 (cQ (a:=false) (b:=true) (dg (aU (ao rfl (bg g4) rfl d4) rfl)) (fun h=>nomatch h) (fun _=>rfl))
      have d5:aB [.ref k] H4=some (.none,H4.set k (cur (p++b++oX s++[]) [])):=da (t:=[]) (d:=[]) g4 (fun _ h=>nomatch h) (fun x u e=>nomatch e)
      rw[List.append_nil,set_same g4] at d5
      have eb2:fH (Ms k j (.lst (names.map V.str))) H4=some (.ret (.lst (acc++[mz s])),Ms k j (.lst (names.map V.str)),H4.set j .dead):=by
        unfold fH
        refine(ac (bz (ao rfl (bg g4) rfl d5))).trans (fF ((if_true (aU (ao rfl (bg g4) rfl d4) rfl)).trans ((ac ((if_false (dg (a:=true) (aU rfl ((pB j4).trans ?_)))).trans rfl)).trans (a8 (lq rfl j4)))))
        cases acc <;> rfl
      refine KK ⟨H4.set j .dead,(gb (et H) eb).trans (Aq (et H4) eb2),?_,kk.trans (aV.set DM)⟩
      rw[a6 g4 (Ne.symm hkj),sM,List.append_assoc]
    · cases l with
      | nil=>exact absurd rfl hl
      | cons s' l'=>
      refine u6 (n6 (w:=[59]) (r:=32::cP (s'::l')) g4) g4 fun H5 e5 g5 k5=>?_
      have j5:H5[j]? = some (.lst (acc++[mz s])):=k5.at j4 (uK (Ne.symm hkj))
      have eb:=turn H5 (cQ (a:=true) (b:=false) (dg (aU (ao rfl (bg g4) rfl d4) rfl)) (fun _=>dg (a:=true) (aU (ao rfl (bg g4) (ak rfl rfl) e5) rfl)) (fun h=>nomatch h))
      obtain⟨H',w1,w2,w3⟩:=ih H5 (p++b++oX s++[59]) [32] (acc++[mz s]) (List.cons_ne_nil _ _) hs.2.2 g5 j5 (.inr ⟨acc,s.1,s.2,rfl,hs.2.1⟩) (by decide) (by rw[List.length_append,Nat.add_assoc,List.length_singleton,Nat.add_comm 1]; exact hlen)
      refine KK ⟨H',(gb (et H) eb).trans ?_,?_,(kk.trans k5.l).trans w3⟩
      · rw[w1,List.append_assoc]; rfl
      · rw[w2,jJ,List.append_assoc,List.append_assoc,List.append_assoc]; rfl
theorem BH {H:Hp}{k:Nat}{p:List Nat}{names:List (List Nat)}{l:List oP} (hn:∀ n∈names,eI n) (hl:l≠[]) (hs:gI names l) (h:H[k]? = some (cur p (cP l))) (hlen:l.length≤1000):
    ∃ H',ql [.ref k, .lst (names.map V.str)] H=some (.lst (l.map mz),H')∧H'[k]? = some (cur (p++cP l) [])∧aV [k] H H':=by
  have hlt:=gW h
  obtain⟨H',w1,w2,w3⟩:=DV (k:=k) (j:=H.length) (Nat.ne_of_lt hlt) hn l (H++[.lst []]) p [] [] hl hs (dh h) eV (.inl rfl) (fun _ h=>nomatch h) ((Nat.zero_add _).symm▸hlen)
  refine⟨H',?_,w2,(aV.app.trans w3).mono fun x hx=>(List.mem_cons.mp hx).elim (fun e => .inl (e▸List.mem_cons_self)) fun e => .inr ((List.mem_singleton.mp e)▸Nat.le_refl _)⟩
  unfold ql tc
  exact aq rfl rfl ((ac (au (mB rfl rfl) rfl)).trans w1)
end Mine
end
section
namespace Mine
noncomputable def kJ (o n:Nat):V := .tup [.int (o:Nat), .int ((o + n:Nat):Int)]
theorem HU {row r:List Nat} (h:∀ x∈row,x≠10):(row++10::r).findIdx? (·==10)=some row.length:=by
  induction row with
  | nil=>rfl
  | cons c row ih=>
    rw[List.cons_append,List.findIdx?_cons,beq_eq_false_iff_ne.mpr (h c List.mem_cons_self),if_neg Bool.false_ne_true,ih fun x hx=>h x (List.mem_cons_of_mem _ hx)]
    rfl
theorem Ix {q row r:List Nat} (h:∀ x∈row,x≠10):jB 10 (q++(row++10::r)) q.length=((q.length + row.length:Nat):Int):=by
  unfold jB
  rw[List.drop_left,HU h]
theorem GG {q r:List Nat} (h:∀ x∈r,x≠10):jB 10 (q++r) q.length=-1:=by
  unfold jB
  rw[List.drop_left,List.findIdx?_eq_none_iff.mpr fun x hx=>beq_eq_false_iff_ne.mpr (h x hx)]
theorem Hm {a b:Nat} (h:a < b) (H:Hp):Ao (.int (a:Int)) (.int (b:Int)) H=some true:=congrArg some (decide_eq_true (Int.ofNat_lt.mpr h))
theorem AK {a b:Nat} (h:b≤a) (H:Hp):Ao (.int (a:Int)) (.int (b:Int)) H=some false:=congrArg some (decide_eq_false (Int.not_lt.mpr (Int.ofNat_le.mpr h)))
noncomputable abbrev FB (text:List Nat) (j a:Nat) (e:Option V):Loc:=[some (.str text),some (.ref j),some (.int ((a:Nat):Int)),e,none]
section
variable {H:Hp}{j a m:Nat}{q row r text:List Nat}{acc:List V}{e:Option V}{x:Int}
theorem D5 (hle:a≤text.length) (hf:jB 10 text a=x) (hx:x=(m:Int)∨(x=-1∧text.length=m)) (hj:H[j]? = some (.lst acc)) (hl:acc.length < 1048576):
    dH (FB text j a e) H=some (.next,FB text j (m + 1) (some (.int ((m:Nat):Int))),H.set j (.lst (acc++[.tup [.int ((a:Nat):Int), .int ((m:Nat):Int)]]))):=by
  have h1:Eg text [.str [10], .int ((a:Nat):Int)] H=some (.int x):=(if_pos ⟨Int.natCast_nonneg _,Int.ofNat_le.mpr hle⟩).trans (congrArg (fun x=>some (V.int x)) hf)
  unfold dH
  refine(ac (au (lO rfl (ak rfl (ak rfl rfl)) h1) rfl)).trans ?_
  refine(ac (M1:=FB text j a (some (.int ((m:Nat):Int)))) (H1:=H) ?_).trans ((ac (bz (cA rfl hj (eJ (ak rfl (ak rfl rfl)) (Nat.le_of_ble_eq_true rfl)) hj hl))).trans (au (ag rfl rfl rfl) rfl))
  rcases hx with rfl | ⟨rfl,rfl⟩
  · exact(if_false (ai rfl rfl (AK (Nat.zero_le _) _))).trans rfl
  · exact(if_true (ai rfl rfl rfl)).trans (au (ay rfl rfl) rfl)
theorem D9 (h:a < text.length):dF (FB text j a e) H=some (true,H):=ai rfl rfl (Hm h _)
theorem Ed (h:text.length≤a):dF (FB text j a e) H=some (false,H):=ai rfl rfl (AK h _)
theorem ED (ht:text=q++(row++10::r)) (h:∀ x∈row,x≠10) (hj:H[j]? = some (.lst acc)) (hl:acc.length < 1048576):
    aY dF dH (FB text j q.length e) H=aY dF dH (FB text j (q++(row++[10])).length (some (.int ((q.length + row.length:Nat):Int)))) (H.set j (.lst (acc++[kJ q.length row.length]))):=by
  have hlt:q.length < text.length:=by rw[ht,List.length_append,List.length_append,List.length_cons]; omega
  rw[List.length_append,List.length_append]
  exact gb (D9 hlt) (D5 (Nat.le_of_lt hlt) (ht▸Ix h) (.inl rfl) hj hl)
theorem HE (ht:text=q++[]) (hj:H[j]? = some (.lst acc)):aY dF dH (FB text j q.length e) H=some (.next,FB text j q.length e,H.set j (.lst (acc++[]))):=by
  rw[List.append_nil] at ht ⊢
  rw[set_same hj,ht]
  exact pY (Ed (Nat.le_refl _))
end
theorem Ea {α:Type}{a b:List α}{x:α}{n k:Nat} (h:n + (a++x::b).length < k):n < k∧n + 1 + b.length < k:=by rw[List.length_append,List.length_cons] at h; omega
theorem EM {q row r:List Nat}:q++(row++10::r)=q++(row++[10])++r:=by rw[List.append_assoc,List.append_assoc]; rfl
theorem IQ (text:List Nat) (j n:Nat):∀ (r q:List Nat) (acc:List V) (H:Hp) (e:Option V),r.length≤n→text=q++r→H[j]? = some (.lst acc)→acc.length + r.length < 1048576→
    ∃ L a e',aY dF dH (FB text j q.length e) H=some (.next,FB text j a e',H.set j (.lst (acc++L)))∧(r=[]→L=[]):=by
  induction n with
  | zero=>
    intro r q acc H e hn ht hj _
    obtain rfl:=List.length_eq_zero_iff.mp (Nat.le_zero.mp hn)
    exact⟨[],_,_,HE ht hj,fun _=>rfl⟩
  | succ n ih=>
    intro r q acc H e hn ht hj hl
    by_cases h0:r=[]
    · subst h0; exact⟨[],_,_,HE ht hj,fun _=>rfl⟩
    by_cases hnl:10∈r
    · obtain⟨row,r',er,hrow⟩:=List.eq_append_cons_of_mem hnl
      rw[er] at ht hl hn
      obtain⟨l1,l2⟩:=Ea hl
      obtain⟨L,a,e',e1,_⟩:=ih r' (q++(row++[10])) (acc++[kJ q.length row.length]) (H.set j (.lst (acc++[kJ q.length row.length]))) (some (.int ((q.length + row.length:Nat):Int))) (by rw[List.length_append,List.length_cons] at hn; omega) (ht.trans EM) (b7 hj) (by rw[List.length_append]; exact l2)
      refine⟨kJ q.length row.length::L,a,e',?_,fun z=>absurd z h0⟩
      rw[ED ht (fun x hx e=>hrow (e▸hx)) hj l1,e1,List.set_set,List.append_assoc]
      rfl
    · have hlt:text.length=q.length + r.length:=by rw[ht,List.length_append]
      have hp:0 < r.length:=List.length_pos_iff.mpr h0
      exact⟨[kJ q.length r.length],_,_,(gb (D9 (hlt▸Nat.lt_add_of_pos_right hp)) (D5 (hlt▸Nat.le_add_right _ _) (ht▸GG fun x hx e=>hnl (e▸hx)) (.inr ⟨rfl,hlt⟩) hj (Nat.lt_of_le_of_lt (Nat.le_add_right _ _) hl))).trans (pY (Ed (hlt▸Nat.le_succ _))),fun z=>absurd z h0⟩
noncomputable def dk (rows:List (List Nat)):List Nat:=rows.flatMap (·++[10])
noncomputable def je:Nat→List (List Nat)→List V
  | _,[]=>[]
  | o,r::rows=>kJ o r.length::je (o + r.length + 1) rows
theorem wR {row rest:List Nat}{rows:List (List Nat)}:dk (row::rows)++rest=row++10::(dk rows++rest):=by
  show(row++[10]++dk rows)++rest=_
  rw[List.append_assoc,List.append_assoc]
  rfl
theorem I5 {text rest:List Nat}{j:Nat} (rows:List (List Nat)):∀ (q:List Nat) (acc:List V) (H:Hp) (e:Option V),(∀ r∈rows,∀ x∈r,x≠10)→text=q++(dk rows++rest)→H[j]? = some (.lst acc)→acc.length + (dk rows++rest).length < 1048576→
    ∃ L a e',aY dF dH (FB text j q.length e) H=some (.next,FB text j a e',H.set j (.lst (acc++(je q.length rows++L))))∧(rest=[]→L=[]):=by
  induction rows with
  | nil=>
    intro q acc H e _ ht hj hl
    exact IQ text j rest.length rest q acc H e (Nat.le_refl _) ht hj hl
  | cons row rows ih=>
    intro q acc H e hr ht hj hl
    rw[wR] at ht hl
    obtain⟨l1,l2⟩:=Ea hl
    obtain⟨L,a,e',e1,e5⟩:=ih (q++(row++[10])) (acc++[kJ q.length row.length]) (H.set j (.lst (acc++[kJ q.length row.length]))) (some (.int ((q.length + row.length:Nat):Int))) (fun r h=>hr r (List.mem_cons_of_mem _ h)) (ht.trans EM) (b7 hj) (by rw[List.length_append]; exact l2)
    refine⟨L,a,e',?_,e5⟩
    rw[ED ht (hr row List.mem_cons_self) hj l1,e1,List.set_set,List.append_assoc,List.length_append,List.length_append]
    rfl
theorem Et {H:Hp}{a b:Ob}:(H++[a]).set H.length b=H++[b]:=by rw[List.set_append_right _ _ (Nat.le_refl _),Nat.sub_self]; rfl
theorem Bf {H:Hp}{rows:List (List Nat)}{rest:List Nat} (hr:∀ r∈rows,∀ x∈r,x≠10) (hl:(dk rows++rest).length < 1048576):
    ∃ L,on [.str (dk rows++rest)] H=some (.lst (je 0 rows++L),H++[.dead])∧(rest=[]→L=[]):=by
  obtain⟨L,a,e',e1,e5⟩:=I5 (text:=dk rows++rest) (rest:=rest) (j:=H.length) rows [] [] (H++[.lst []]) none hr rfl eV ((Nat.zero_add _).symm▸hl)
  refine⟨L,?_,e5⟩
  rw[Et] at e1
  unfold on sQ
  rw[← Et (a := .lst ([]++(je ([]:List Nat).length rows++L)))]
  exact aq rfl rfl ((ac (au (mB rfl rfl) rfl)).trans ((ac (au rfl rfl)).trans ((ac e1).trans (a8 (lq rfl eV)))))
end Mine
end
section
namespace Mine
noncomputable abbrev C6 (s:Nat) (text:List Nat) (L:List V) (row:Nat) (hd:Bool) (tl:List Nat):Ob := .inst 5 [.str text, .lst L, .int (row:Nat), .ref (s + 2), .ref (s + 3), .bool hd, .ref (s + 4), .ref (s + 5), .str tl]
structure RS (H:Hp) (s:Nat) (text:List Nat) (L:List V) (row:Nat) (hd:Bool) (tl:List Nat) (defs:List (List Nat × V)) (ap:List V) (drafts:List V):Prop where
  r0:H[s]? = some (C6 s text L row hd tl)
  r2:H[s + 2]? = some (.jo defs)
  r3:H[s + 3]? = some (.lst ap)
  r4:H[s + 4]? = some (.lst drafts)
  r5:H[s + 5]? = some (.lst [])
theorem JK {s i k:Nat} (h:Nat.ble (i + 1) 6=true) (hk:s + 6≤k):s + i≠k:=Nat.ne_of_lt (Nat.lt_of_lt_of_le (Nat.add_lt_add_left (Nat.le_of_ble_eq_true h) s) hk)
theorem zP {s i j:Nat} (h:Nat.beq i j=false):s + i≠s + j:=fun q=>Nat.ne_of_beq_eq_false h (Nat.add_left_cancel q)
section
variable {H H':Hp}{s k row:Nat}{text tl:List Nat}{L:List V}{hd:Bool}{defs:List (List Nat × V)}{ap drafts:List V}
theorem RS.keep (r:RS H s text L row hd tl defs ap drafts) (h:aV [k] H H') (hk:s + 6≤k):RS H' s text L row hd tl defs ap drafts:=
  ⟨h.at r.r0 (uK (JK (i:=0) rfl hk)),h.at r.r2 (uK (JK rfl hk)),h.at r.r3 (uK (JK rfl hk)),h.at r.r4 (uK (JK rfl hk)),h.at r.r5 (uK (JK rfl hk))⟩
theorem RS.app {G:Hp} (r:RS H s text L row hd tl defs ap drafts):RS (H++G) s text L row hd tl defs ap drafts:=
  ⟨dh r.r0,dh r.r2,dh r.r3,dh r.r4,dh r.r5⟩
theorem RS.len (r:RS H s text L row hd tl defs ap drafts):s + 6≤H.length:=gW r.r5
theorem RS.HQ {d:List (List Nat × V)} (r:RS H s text L row hd tl defs ap drafts):RS (H.set (s + 2) (.jo d)) s text L row hd tl d ap drafts:=
  ⟨a6 r.r0 (zP (j:=0) rfl),b7 r.r2,a6 r.r3 (zP rfl),a6 r.r4 (zP rfl),a6 r.r5 (zP rfl)⟩
theorem RS.GN {d:List V} (r:RS H s text L row hd tl defs ap drafts):RS (H.set (s + 3) (.lst d)) s text L row hd tl defs d drafts:=
  ⟨a6 r.r0 (zP (j:=0) rfl),a6 r.r2 (zP rfl),b7 r.r3,a6 r.r4 (zP rfl),a6 r.r5 (zP rfl)⟩
theorem RS.Fx {d:List V} (r:RS H s text L row hd tl defs ap drafts):RS (H.set (s + 4) (.lst d)) s text L row hd tl defs ap d:=
  ⟨a6 r.r0 (zP (j:=0) rfl),a6 r.r2 (zP rfl),a6 r.r3 (zP rfl),b7 r.r4,a6 r.r5 (zP rfl)⟩
theorem RS.rX {row':Nat}{hd':Bool}{tl':List Nat} (r:RS H s text L row hd tl defs ap drafts):RS (H.set s (C6 s text L row' hd' tl')) s text L row' hd' tl' defs ap drafts:=
  ⟨b7 r.r0,a6 r.r2 (zP (i:=0) rfl),a6 r.r3 (zP (i:=0) rfl),a6 r.r4 (zP (i:=0) rfl),a6 r.r5 (zP (i:=0) rfl)⟩
end
noncomputable def az (c:List Nat × Bool):V := .tup [.str c.1, .bool c.2]
theorem F4 {sel:List (Option Nat)}{fe:EF}{a:AF}{f:EF}{M:Loc}{H H1 H2:Hp}{k:Nat}{l q:List V} (h1:fe M H=some (.ref k,H1)) (h2:H1[k]? = some (.lst l)) (hc:gL sel M=true) (hl:l.length≤1048576) (h:my k a f l.length 0 (inner sel M) H1=some (q,H2)):zX sel fe a f M H=some (.lst q,H2):=by
  unfold zX zU
  rw[h1,Option.bind_some]
  dsimp only
  rw[h2]
  dsimp only
  rw[if_pos ⟨hc,hl⟩,h]
  rfl
theorem DO {k:Nat}{cs:List (List Nat × Bool)}{H:Hp} (h:H[k]? = some (.lst (cs.map az))) (m:Nat):∀ (i:Nat) (x y z:Option V),m + i=cs.length→
    my k dI dE m i [x,y,z] H=some ((cs.drop i).map (fun c=>V.str c.1),H):=by
  induction m with
  | zero=>
    intro i x y z e
    have hi:cs.length=i:=e.symm.trans (Nat.zero_add i)
    unfold my
    rw[h]
    dsimp only
    rw[if_pos (List.length_map _ |>.trans hi),List.drop_eq_nil_of_le (Nat.le_of_eq hi)]
    rfl
  | succ m ih=>
    intro i x y z e
    have hi:i < cs.length:=by omega
    unfold my
    rw[h]
    dsimp only
    rw[List.getElem?_map,List.getElem?_eq_getElem hi,Option.map_some]
    show(my k dI dE m (i + 1) [x,some (.str cs[i].1),some (.bool cs[i].2)] H).map (fun z=>(V.str cs[i].1::z.1,z.2))=_
    rw[ih (i + 1) x _ _ (by omega),List.drop_eq_getElem_cons hi]
    rfl
theorem D8 {n:Nat} (h:n≤1000):n≤1048576:=Nat.le_trans h (Nat.le_of_ble_eq_true rfl)
theorem xZ {n:Nat} (h:n≤1000):n < 1048576:=Nat.lt_of_le_of_lt h (Nat.le_of_ble_eq_true rfl)
theorem xQ {H:Hp}{s row:Nat}{text tl:List Nat}{L:List V}{hd:Bool}{defs:List (List Nat × V)}{cs:List (List Nat × Bool)}{drafts:List V} (r:RS H s text L row hd tl defs (cs.map az) drafts) (hl:cs.length≤1000):
    bH [.ref s] H=some (.lst ((cs.map (·.1)).map V.str),H):=by
  have e:=DO r.r3 cs.length 0 none none none rfl
  unfold bH gZ
  have hz:(cs.map az).length=cs.length:=List.length_map ..
  refine aq rfl rfl (a8 (F4 (aF rfl r.r0 rfl rfl) r.r3 rfl (hz▸D8 hl) (hz.symm▸e.trans ?_)))
  rw[List.map_map]
  rfl
theorem Kc {H:Hp}{d:Nat}{l:List (List Nat × V)}{x:List Nat} (h:H[d]? = some (.jo l)):pN (.str x) (.ref d) H=some (o9 l x).isSome:=by
  have e1:cw (.ref d) H=none:=by unfold cw; dsimp only; rw[h]
  have e2:qt (.ref d) H=some l:=by unfold qt; dsimp only; rw[h]
  have e:pN (.str x) (.ref d) H=match cw (.ref d) H with
    | some l=>qR (.str x) l
    | none=>(qt (.ref d) H).bind fun d=>inD d (.str x):=rfl
  rw[e,e1,e2]
  rfl
theorem KA (H:Hp):gi (.str [32]) (.tup [.str [32], .str [9]]) H=some false:=rfl
theorem Mo (H:Hp):gi (.str []) (.tup [.str [], .str [32], .str [9]]) H=some false:=rfl
theorem I8 {raw:List Nat} (hr:raw∈jb) (x:Nat) (u:List Nat) (e:raw=x::u):x∉[32,9]:=by
  have:∀ r∈jb,r.head?.all (fun c=>decide (c∉[32,9]))=true:=by decide
  subst e
  exact of_decide_eq_true (p:=x∉[32,9]) (this _ hr)
theorem I7 {f g:EF}{M:Loc}{H H1 H2:Hp}{k:Nat}{v:V}{x:List Nat}{d:List (List Nat × V)} (h1:f M H=some (.ref k,H1)) (h2:g M H1=some (.str x,H2)) (h:H2[k]? = some (.jo d)) (hl:d.length≤1000) (hn:o9 d x=none):aSub f g v M H=some (M,H2.set k (.jo (d++[(x,v)]))):=by
  unfold aSub
  rw[h1,Option.bind_some]
  dsimp only
  rw[h2,Option.bind_some]
  unfold putAt
  dsimp only
  rw[h]
  dsimp only
  rw[if_pos ⟨Nat.lt_of_le_of_lt hl (Nat.le_of_ble_eq_true rfl),by rw[hn]; rfl⟩]
  rfl
theorem K9 {P:Nat→Prop}:∀ x∈([]:List Nat),P x:=fun _ h=>nomatch h
theorem Lu {P:Nat→List Nat→Prop}:∀ x t,([]:List Nat)=x::t→P x t:=fun _ _ h=>nomatch h
theorem Ji {c:Nat} (h:c∈aQ):c∉[32,9]:=fun q=>(show ∀ x∈[32,9],x∉aQ by decide) c q h
theorem tj {H:Hp}{s k row:Nat}{text tl p raw:List Nat}{L:List V}{hd:Bool}{defs:List (List Nat × V)}{ap drafts:List V}{c:Nat}{w:List Nat}
    (r:RS H s text L row hd tl defs ap drafts) (hk:s + 6≤k) (h:H[k]? = some (cur p ((c::w)++32::raw))) (q1:c∈aQ) (q2:c∉uL) (q3:∀ x∈w,x∈aQ) (hr:raw∈jb) (hn:o9 defs (c::w)=none) (hl:defs.length≤1000):
    ∃ H',bd [.ref s, .ref k] H=some (.none,H')∧RS H' s text L row hd tl (defs++[(c::w,mD raw)]) ap drafts:=by
  refine cps fun CC KK=>?_
  refine u6 (mA h q1 q2 q3 (A1 (P:=(·∉aQ)) Gr)) h fun H1 e1 g1 k1=>?_
  have r1:=r.keep k1 hk
  refine u6 (da (t:=[32]) (d:=raw) g1 Ls (I8 hr)) g1 fun H2 e4 g2 k2=>?_
  have r2:=r1.keep k2 hk
  refine Dd (zI (r:=[]) (by rw[List.append_nil]; exact g2) hr Lu) fun H3 e5 g3 k3=>?_
  have r3:=r2.keep k3 hk
  refine u6 (da (t:=[]) (d:=[]) g3 K9 Lu) g3 fun H4 e6 g4 k4=>?_
  have r4:=r3.keep k4 hk
  have e8:bP [.ref s, .ref k] H2=some (mD raw,H3):=by
    unfold bP dS
    exact aq rfl rfl (a8 (dL rfl e5))
  refine KK ⟨H4.set (s + 2) (.jo (defs++[(c::w,mD raw)])),?_,r4.HQ⟩
  · have e2:=Kc (x:=c::w) r1.r2
    rw[hn] at e2
    unfold bd de
    exact dY rfl rfl ((ac (au (aF rfl h rfl rfl) rfl)).trans ((ac (au (ao rfl (bg h) rfl e1) rfl)).trans ((ac ((if_false (ai rfl rfl rfl)).trans rfl)).trans ((ac ((if_false (ai rfl (aF rfl r1.r0 rfl rfl) e2)).trans rfl)).trans ((ac ((if_false (ai (ao rfl (bg g1) rfl (tS g1)) rfl (KA _))).trans rfl)).trans ((ac (bz (ao rfl (bg g1) rfl e4))).trans ((ac (au (ao rfl (bg r2.r0) (ak rfl rfl) e8) rfl)).trans ((ac (bz (ao rfl (bg g3) rfl e6))).trans ((ac ((if_false (dg (a:=true) (aU (ao rfl (bg g4) rfl (gK g4)) rfl))).trans rfl)).trans (au rfl (I7 (aF rfl r4.r0 rfl rfl) rfl r4.r2 hl hn)))))))))))
theorem EV {x:List Nat}{l:List (List Nat)} (h:x∉l) (H:Hp):pN (.str x) (.lst (l.map V.str)) H=some false:=(DX H).trans (congrArg some (decide_eq_false h))
noncomputable def Kd:SF:=cK (aG vEq (aa 3) (ab (.str [111,112,116,105,111,110]))) (al (cK (aG mK (aa 5) (ab (.str [110,111,100,101,102,97,117,108,116]))) (fun _ _=>none) bj) (af (ab (.bool false)) (dC cH (aa 0)))) (al (cK (aG pN (aa 5) (aJ [(5,bH)] (aa 0) aj)) (fun _ _=>none) bj) (cj (cu (aW (am aP) (aa 0)) (oTup (ae (aa 5) (ae (av (sz vEq) (aa 3) (ab (.str [120]))) aj))))))
noncomputable abbrev LK (s k:Nat) (n:V) (wd:List Nat) (a b:Option V):Loc:=[some (.ref s),some (.ref k),some n,some (.str wd),a,b,none]
theorem Eb {H:Hp}{s k c e:Nat}{p w u:List Nat} (hk:s + 6≤k) (h:H[k]? = some (cur p (37::((e::u)++32::c::w)))) (q:e∈aQ∧e∉uL∧∀ x∈u,x∈aQ) (q1:c∈aQ) (q2:c∉uL) (q3:∀ x∈w,x∈aQ)
    (hw:∀ H,gi (.str (e::u)) (.tup [.str [115], .str [120], .str [111,112,116,105,111,110]]) H=some false) {C:Prop}
    (K:∀ H4,aV [k] H H4→(∃ q,H4[k]? = some (cur q []))→(∀ H5 q,H5[k]? = some (cur q [])→(∀ a n,Kd (LK s k a (e::u) n (some (.str (c::w)))) H4=some (.next,LK s k a (e::u) n (some (.str (c::w))),H5))→∃ H6,aL [.ref s, .ref k] H=some (.none,H6)∧aV [k] H5 H6)→C):C:=by
  refine u6 (Ac h) h fun H1 e1 g1 k1=>?_
  refine u6 (mA g1 q.1 q.2.1 q.2.2 (A1 (P:=(·∉aQ)) Gr)) g1 fun H2 e2 g2 k2=>?_
  refine u6 (da (t:=[32]) (d:=c::w) g2 Ls (A1 (P:=(·∉[32,9])) (Ji q1))) g2 fun H3 e3 g3 k3=>?_
  refine u6 (mA (c:=c) (w:=w) (r:=[]) (by rw[List.append_nil]; exact g3) q1 q2 q3 Lu) g3 fun H4 e5 g4 k4=>?_
  refine K H4 (k1.trans (k2.trans (k3.trans k4))) ⟨_,g4⟩ fun H5 p5 g5 mid=>cps fun CC KK=>?_
  refine u6 (da (t:=[]) (d:=[]) g5 K9 Lu) g5 fun H6 e9 g6 k6=>?_
  refine KK ⟨H6,?_,k6⟩
  unfold aL cW
  have hwh:aY cD bK [some (.ref s),some (.ref k),some (.int (p.length:Nat)),some (.str (e::u)),none,none,none] H3=some (.next,LK s k (.int (p.length:Nat)) (e::u) (some (.int ((p++[37]++(e::u)++[32]).length:Nat))) (some (.str (c::w))),H6):=by
    refine(gb (H1:=H3) (dg (a:=false) (aU (ao rfl (bg g3) rfl (gK g3)) rfl)) ?_).trans (pY (dg (a:=true) (aU (ao rfl (bg g6) rfl (gK g6)) rfl)))
    unfold bK
    exact(ac (au (aF rfl g3 rfl rfl) rfl)).trans ((ac (au (ao rfl (bg g3) rfl e5) rfl)).trans ((ac ((if_false (ai rfl rfl rfl)).trans rfl)).trans ((ac (mid _ _)).trans ((ac ((if_false (ai (ao rfl (bg g5) rfl (tS g5)) rfl (Mo _))).trans rfl)).trans (bz (ao rfl (bg g5) rfl e9))))))
  exact dY rfl rfl ((ac (au (aF rfl h rfl rfl) rfl)).trans ((ac (bz (ao rfl (bg h) rfl e1))).trans ((ac (au (ao rfl (bg g1) rfl e2) rfl)).trans ((ac ((if_false (ai rfl rfl (hw _))).trans rfl)).trans ((ac (bz (ao rfl (bg g2) rfl e3))).trans ((ac ((if_false (aU (ao rfl (bg g3) rfl (gK g3)) rfl)).trans rfl)).trans hwh))))))
theorem DD {H:Hp}{s k row:Nat}{text tl p:List Nat}{L:List V}{hd:Bool}{defs:List (List Nat × V)}{cs:List (List Nat × Bool)}{drafts:List V}{c:Nat}{w:List Nat}{b:Bool}
    (r:RS H s text L row hd tl defs (cs.map az) drafts) (hk:s + 6≤k) (h:H[k]? = some (cur p (37::(if b then 120 else 115)::32::c::w))) (q1:c∈aQ) (q2:c∉uL) (q3:∀ x∈w,x∈aQ) (hn:(c::w)∉cs.map (·.1)) (hl:cs.length≤1000):
    ∃ H',aL [.ref s, .ref k] H=some (.none,H')∧RS H' s text L row hd tl defs ((cs++[(c::w,b)]).map az) drafts:=by
  refine Eb (e:=if b then 120 else 115) (u:=[]) hk h (by cases b <;> decide) q1 q2 q3 (fun H=>by cases b <;> rfl) fun H4 k4 hg4 fin=>?_
  obtain⟨qq,g4⟩:=hg4
  have r4:=r.keep k4 hk
  have hm:(cs++[(c::w,b)]).map az=cs.map az++[az (c::w,b)]:=List.map_append ..
  have r5:RS (H4.set (s + 3) (.lst (cs.map az++[az (c::w,b)]))) s text L row hd tl defs (cs.map az++[az (c::w,b)]) drafts:=r4.GN
  obtain⟨H6,e,k6⟩:=fin (H4.set (s + 3) (.lst (cs.map az++[az (c::w,b)]))) _ (a6 g4 (JK rfl hk)) fun a n=>by
    unfold Kd
    refine(if_false (ai rfl rfl (by cases b <;> rfl))).trans ((ac ((if_false (ai rfl (ao rfl (bg r4.r0) rfl (xQ r4 hl)) (EV hn _))).trans rfl)).trans (bz (cA (aF rfl r4.r0 rfl rfl) r4.r3 (eJ (ak rfl (ak (ag rfl rfl (?_:_=some (V.bool b))) rfl)) (Nat.le_of_ble_eq_true rfl)) r4.r3 ?_)))
    · cases b <;> rfl
    · rw[List.length_map]; exact xZ hl
  exact⟨H6,e,hm▸r5.keep k6 hk⟩
theorem FL {H:Hp}{s k row:Nat}{text tl p:List Nat}{L:List V}{hd:Bool}{defs:List (List Nat × V)}{ap drafts:List V}
    (r:RS H s text L row hd tl defs ap drafts) (hk:s + 6≤k) (h:H[k]? = some (cur p (37::([111,112,116,105,111,110]++32::[110,111,100,101,102,97,117,108,116])))):
    ∃ H',aL [.ref s, .ref k] H=some (.none,H')∧RS H' s text L row false tl defs ap drafts:=by
  refine Eb hk h (by decide) (by decide) (by decide) (by decide) (fun H=>rfl) fun H4 k4 hg4 fin=>?_
  obtain⟨qq,g4⟩:=hg4
  have r4:=r.keep k4 hk
  obtain⟨H6,e,k6⟩:=fin (H4.set s (C6 s text L row false tl)) _ (a6 g4 (JK (i:=0) rfl hk)) fun a n=>by
    unfold Kd
    exact(if_true (ai rfl rfl rfl)).trans ((ac ((if_false (ai rfl rfl rfl)).trans rfl)).trans (qK (i:=5) (v := .bool false) rfl rfl r4.r0 rfl rfl))
  exact⟨H6,e,r4.rX.keep k6 hk⟩
end Mine
end
section
namespace Mine
noncomputable abbrev yI:List Nat:=[60,60,69,79,70,62,62]
noncomputable abbrev aH (l:List Nat):List V:=l.map fun(i:Nat)=>V.int (i:Int)
theorem JB {g:LF}{M:Loc}{H H1:Hp}{n:Nat} (h:g M H=some ([.int (n:Int)],H1)) (hn:n≤1000):kZ g M H=some (.lst (aH (List.range n)),H1):=by
  unfold kZ
  rw[h,Option.bind_some]
  exact if_pos ⟨Int.natCast_nonneg _,Int.ofNat_lt.mpr (xZ hn)⟩
theorem oL {g:LF}{M:Loc}{H H1:Hp}{n:Nat} (h:g M H=some ([.int (n:Int)],H1)) (hn:n≤1000):gt g M H=some (aH (List.range n),H1):=by
  unfold gt
  rw[h,Option.bind_some]
  exact if_pos ⟨Int.natCast_nonneg _,Int.ofNat_lt.mpr (xZ hn)⟩
theorem zx (l:List (List Nat)):∀ (i:Nat) (x:List Nat),l.Nodup→l[i]? = some x→BP x (l.map V.str)=some i:=by
  induction l with
  | nil=>intro i x _ h; cases h
  | cons y l ih=>
    intro i x hn h
    rw[List.nodup_cons] at hn
    rw[List.map_cons]
    unfold BP
    cases i with
    | zero=>
      cases h
      rw[if_pos rfl]
      refine if_pos (List.all_eq_true.mpr fun v hv=>?_)
      obtain⟨z,_,rfl⟩:=List.mem_map.mp hv
      rfl
    | succ i=>rw[if_neg (fun(e:y=x)=>hn.1 (e▸List.mem_of_getElem? h)),ih i x hn.2 h]; rfl
theorem Hb {f g:EF}{M:Loc}{H H1 H2:Hp}{l:List V}{x:List Nat}{j:Nat} (h1:f M H=some (.lst l,H1)) (h2:g M H1=some (.str x,H2)) (hj:BP x l=some j):Az f g M H=some (.int (j:Int),H2):=by
  unfold Az
  rw[h1]
  dsimp only[Option.bind_some,cw]
  rw[h2]
  dsimp only[Option.bind_some]
  rw[hj]
  rfl
theorem zw {c d:Nat}{t w:List Nat} (h:c≠d):((c::t).take (d::w).length==d::w)=false:=beq_eq_false_iff_ne.mpr fun e=>h (List.cons.inj e).1
theorem aV.new {k:Nat}{H H' G:Hp} (h:aV [k,H.length] (H++G) H'):aV [k] H H':=(aV.app.trans h).mono fun x hx=>(List.mem_cons.mp hx).elim (fun e => .inl (e▸List.mem_cons_self)) fun e => .inr ((List.mem_singleton.mp e)▸Nat.le_refl _)
noncomputable def dX (nms:List (List Nat)) (i:Nat):List Nat:=nms[i]?.getD []
theorem pS {nms:List (List Nat)}{i:Nat}{x:List Nat} (h:nms[i]? = some x):dX nms i=x:=by unfold dX; rw[h]; rfl
theorem join_1 {l:List (List Nat)}{a:List Nat} (h:l=[]):cB [44] (a::l)=a:=h▸rfl
theorem F8 {l:List (List Nat)}{a:List Nat} (h:l≠[]):cB [44] (a::l)=a++([44]++cB [44] l):=by
  cases l with
  | nil=>exact absurd rfl h
  | cons b l=>exact List.append_assoc ..
noncomputable abbrev Mc (s k j:Nat) (nv x y:Option V):Loc:=[some (.ref s),some (.ref k),nv,some (.ref j),x,y,none,none,none,none,none]
noncomputable def Kf:SF:=al (cK (cb (aJ [(0,ba)] (aa 1) (ae (ab (.str [62])) aj))) (bw (iZ (aa 3))) bj) (cK (iF (cb (aJ [(0,ba)] (aa 1) (ae (ab (.str [44])) aj)))) (fun _ _=>none) bj)
theorem Ex {H H1:Hp}{s k j i:Nat}{p r:List Nat}{nms:List (List Nat)}{n:List Nat}{x y:Option V}{acc:List V} (hk:H[k]? = some (cur p r)) (e1:bM [.ref k] H=some (.str n,H1)) (hm:n∈nms) (hx:BP n (nms.map V.str)=some i) (j1:H1[j]? = some (.lst acc)) (hl:acc.length < 1048576):
    bA (Mc s k j (some (.lst (nms.map V.str))) x y) H=Kf (Mc s k j (some (.lst (nms.map V.str))) (some (.int (p.length:Nat))) (some (.str n))) (H1.set j (.lst (acc++[.int (i:Int)]))):=by
  unfold bA
  exact(ac (au (aF rfl hk rfl rfl) rfl)).trans ((ac (au (ao rfl (bg hk) rfl e1) rfl)).trans ((ac ((if_false (ai rfl rfl (q6 hm _))).trans rfl)).trans (ac (bz (cA rfl j1 (Hb rfl rfl hx) j1 hl)))))
theorem IS {s k j:Nat}{nms:List (List Nat)}{r:List Nat} (hkj:k≠j) (hn:∀ n∈nms,eI n) (hd:nms.Nodup) (l:List Nat):∀ (H:Hp) (p:List Nat) (acc:List V) (x y:Option V),l≠[]→(∀ i∈l,i < nms.length)→H[k]? = some (cur p (cB [44] (l.map (dX nms))++62::r))→H[j]? = some (.lst acc)→acc.length + l.length≤1000→
    ∃ M H',aY b6 bA (Mc s k j (some (.lst (nms.map V.str))) x y) H=some (.ret (.lst (acc++aH l)),M,H')∧H'[k]? = some (cur (p++(cB [44] (l.map (dX nms))++[62])) r)∧aV [k,j] H H':=by
  induction l with
  | nil=>intro H p acc x y h; exact absurd rfl h
  | cons i l ih=>
    intro H p acc x y _ hl hk hj hlen
    have hgi:=List.getElem?_eq_getElem (hl i List.mem_cons_self)
    have hmem:nms[i]'(hl i List.mem_cons_self)∈nms:=List.getElem_mem _
    refine cps fun CC KK=>?_
    obtain⟨c,w,ec,q1,q2,q3⟩:=hn _ hmem
    rw[ec] at hgi hmem
    have hlt:acc.length < 1048576:=xZ (Nat.le_trans (Nat.le_add_right _ _) hlen)
    rw[List.map_cons,pS hgi] at hk KK
    have et':∀ M H,b6 M H=some (true,H):=fun M H=>rfl
    by_cases hl0:l=[]
    · rw[join_1 (by rw[hl0]; rfl)] at hk KK
      refine u6 (mA hk q1 q2 q3 (A1 (P:=(·∉aQ)) (by decide))) hk fun H1 e1 g1 k1=>?_
      have j1:H1[j]? = some (.lst acc):=k1.at hj (uK (Ne.symm hkj))
      have g2:(H1.set j (.lst (acc++[.int (i:Int)])))[k]? = some (cur (p++c::w) (62::r)):=a6 g1 (Ne.symm hkj)
      refine u6 (n6 (w:=[62]) (r:=r) g2) g2 fun H3 e3 g3 k3=>?_
      have j3:H3[j]? = some (.lst (acc++[.int (i:Int)])):=k3.at (b7 j1) (uK (Ne.symm hkj))
      refine KK ⟨_,H3.set j .dead,Aq (et' _ _) ((Ex hk e1 hmem (zx nms i (c::w) hd hgi) j1 hlt).trans (fF ((if_true (aU (ao rfl (bg g2) (ak rfl rfl) e3) rfl)).trans (a8 (lq rfl (hl0▸j3)))))),?_,((k1.l.trans (aV.set DM)).trans k3.l).trans (aV.set DM)⟩
      rw[← List.append_assoc]
      exact a6 g3 (Ne.symm hkj)
    · rw[F8 (fun e=>hl0 (List.map_eq_nil_iff.mp e)),List.append_assoc,List.append_assoc] at hk
      refine u6 (mA hk q1 q2 q3 (A1 (P:=(·∉aQ)) (by decide))) hk fun H1 e1 g1 k1=>?_
      have j1:H1[j]? = some (.lst acc):=k1.at hj (uK (Ne.symm hkj))
      have g2:(H1.set j (.lst (acc++[.int (i:Int)])))[k]? = some (cur (p++c::w) ([44]++(cB [44] (l.map (dX nms))++62::r))):=a6 g1 (Ne.symm hkj)
      refine u6 (n6 g2) g2 fun H4 e4 g4 k4=>?_
      obtain⟨M,H',w1,w2,w3⟩:=ih H4 (p++c::w++[44]) (acc++[.int (i:Int)]) (some (.int (p.length:Nat))) (some (.str (c::w))) hl0 (fun i h=>hl i (List.mem_cons_of_mem _ h)) g4 (k4.at (b7 j1) (uK (Ne.symm hkj))) (by rw[List.length_append,Nat.add_assoc,List.length_singleton,Nat.add_comm 1]; exact hlen)
      refine KK ⟨M,H',(gb (et' _ _) ((Ex hk e1 hmem (zx nms i (c::w) hd hgi) j1 hlt).trans ((ac ((if_false (aU (ao rfl (bg g2) (ak rfl rfl) (sj (w:=[62]) g2 rfl)) rfl)).trans rfl)).trans ((if_false (dg (a:=true) (aU (ao rfl (bg g2) (ak rfl rfl) e4) rfl))).trans rfl)))).trans ?_,?_,((k1.l.trans (aV.set DM)).trans k4.l).trans w3⟩
      · rw[w1,List.append_assoc]; rfl
      · rw[w2,F8 (fun e=>hl0 (List.map_eq_nil_iff.mp e)),List.append_assoc,List.append_assoc,List.append_assoc,List.append_assoc]
section
variable {H:Hp}{s k row:Nat}{text tl p:List Nat}{L:List V}{hd:Bool}{defs:List (List Nat × V)}{cs:List (List Nat × Bool)}{drafts:List V}
theorem II {r:List Nat} (R:RS H s text L row hd tl defs (cs.map az) drafts) (h:H[k]? = some (cur p r)) (hr:r.take 7=yI∨∃ c t,r=c::t∧c≠60):
    aN [.ref s, .ref k] H=some (.lst [],H):=by
  have e1:=rT (w:=yI) h
  have hc:(u9 (cb (aJ [(0,dc)] (aa 1) (ae (ab il) aj))) (iF (cb (aJ [(0,ba)] (aa 1) (ae (ab (.str [60])) aj))))) [some (.ref s),some (.ref k),none,none,none,none,none,none,none,none,none] H=some (true,H):=by
    rcases hr with hr | ⟨c,t,rfl,hc⟩
    · exact kG (a:=true) (b:=true) (aU (ao rfl (bg h) (ak rfl rfl) e1) (congrArg some (beq_iff_eq.mpr hr))) (fun h=>nomatch h) (fun _=>rfl)
    · exact kG (a:=false) (b:=true) (aU (ao rfl (bg h) (ak rfl rfl) e1) (congrArg some (zw hc))) (fun _=>dg (a:=false) (aU (ao rfl (bg h) (ak rfl rfl) (sj (w:=[60]) h (zw hc))) rfl)) (fun h=>nomatch h)
  unfold aN bQ
  exact aq rfl rfl (fF ((if_true hc).trans (a8 rfl)))
theorem D4 {r:List Nat} (h:H[k]? = some (cur p (60::r))) (hr:∀ t,r≠60::t) {C:Prop}
    (K:∀ H1,H1[k]? = some (cur (p++[60]) r)→aV [k] H H1→(u9 (cb (aJ [(0,dc)] (aa 1) (ae (ab il) aj))) (iF (cb (aJ [(0,ba)] (aa 1) (ae (ab (.str [60])) aj))))) [some (.ref s),some (.ref k),none,none,none,none,none,none,none,none,none] H=some (false,H1)→C):C:=by
  refine u6 (n6 (w:=[60]) (r:=r) h) h fun H1 e3 g1 k1=>?_
  have e2:((60::r).take yI.length==yI)=false:=beq_eq_false_iff_ne.mpr fun e=>by
    cases r with
    | nil=>cases e
    | cons c t=>exact hr t ((List.cons.inj (List.cons.inj e).2).1▸rfl)
  exact K H1 g1 k1 (kG (a:=false) (b:=false) (aU (ao rfl (bg h) (ak rfl rfl) (rT (w:=yI) h)) (congrArg some e2)) (fun _=>dg (a:=true) (aU (ao rfl (bg h) (ak rfl rfl) e3) rfl)) (fun h=>nomatch h))
theorem Ir {r:List Nat} (R:RS H s text L row hd tl defs (cs.map az) drafts) (hk:s + 6≤k) (h:H[k]? = some (cur p (60::42::62::r))) (hl:cs.length≤1000):
    ∃ H',aN [.ref s, .ref k] H=some (.lst (aH (List.range cs.length)),H')∧H'[k]? = some (cur (p++[60,42,62]) r)∧aV [k] H H':=by
  refine cps fun CC KK=>?_
  refine D4 (s:=s) h (fun t e=>by cases e) fun H1 g1 k1 hc=>?_
  refine u6 (n6 (w:=[42,62]) (r:=r) g1) g1 fun H2 e4 g2 k2=>?_
  have R2:=(R.keep k1 hk).keep k2 hk
  have hu:(cs.map az).length=cs.length:=List.length_map ..
  refine KK ⟨H2,?_,by rw[g2,List.append_assoc]; rfl,k1.trans k2⟩
  unfold aN bQ
  exact aq rfl rfl ((ac ((if_false hc).trans rfl)).trans (fF ((if_true (aU (ao rfl (bg g1) (ak rfl rfl) e4) rfl)).trans (a8 (JB (ak (ay (aF rfl R2.r0 rfl rfl) (hu▸v5 R2.r3)) rfl) hl)))))
theorem BO {nms:List (List Nat)} (hn:∀ n∈nms,eI n) {l r:List Nat} (hl0:l≠[]) (hl:∀ i∈l,i < nms.length) {C:Prop} (K:∀ c t,cB [44] (l.map (dX nms))++62::r=c::t→c∈aQ→C):C:=by
  cases l with
  | nil=>exact absurd rfl hl0
  | cons i l=>
    have hi:=hl i List.mem_cons_self
    obtain⟨c,w,ec,q1,_⟩:=hn _ (List.getElem_mem hi)
    rw[List.map_cons,pS ((List.getElem?_eq_getElem hi).trans (congrArg some ec))] at K
    cases l with
    | nil=>exact K c _ rfl q1
    | cons i' l'=>exact K c _ rfl q1
theorem Gm {r:List Nat}{l:List Nat} (R:RS H s text L row hd tl defs (cs.map az) drafts) (hk:s + 6≤k) (hn:∀ n∈cs.map (·.1),eI n) (hnd:(cs.map (·.1)).Nodup) (hl0:l≠[]) (hl:∀ i∈l,i < cs.length) (h:H[k]? = some (cur p (60::(cB [44] (l.map (dX (cs.map (·.1))))++62::r)))) (hc:cs.length≤500) (hll:l.length≤500):
    ∃ H',aN [.ref s, .ref k] H=some (.lst (aH l),H')∧H'[k]? = some (cur (p++(60::(cB [44] (l.map (dX (cs.map (·.1))))++[62]))) r)∧aV [k] H H':=by
  refine cps fun CC KK=>BO (r:=r) hn hl0 (fun i hi=>(List.length_map ..).symm▸hl i hi) fun c t est hcs=>?_
  have hne:∀ x,x∈[60,42]→c≠x:=fun x hx e=>(show ∀ x∈[60,42],x∉aQ by decide) x hx (e▸hcs)
  refine D4 (s:=s) h (fun u e=>hne 60 LW (List.cons.inj (est.symm.trans e)).1) fun H1 g1 k1 hc1=>?_
  have e4:=sj (w:=[42,62]) g1 (est▸zw (hne 42 DM))
  have R1:=R.keep k1 hk
  have hkl:=gW g1
  obtain⟨M,H',w1,w2,w3⟩:=IS (s:=s) (j:=H1.length) (Nat.ne_of_lt hkl) hn hnd l (H1++[.lst []]) (p++[60]) [] none none hl0 (by rw[List.length_map]; exact hl) (dh g1) eV ((Nat.zero_add _).symm▸Nat.le_trans hll (by decide))
  refine KK ⟨H',?_,by rw[w2,List.append_assoc]; rfl,k1.trans w3.new⟩
  unfold aN bQ
  exact aq rfl rfl ((ac ((if_false hc1).trans rfl)).trans ((ac ((if_false (aU (ao rfl (bg g1) (ak rfl rfl) e4) rfl)).trans rfl)).trans ((ac (au (ao rfl (bg R1.r0) rfl (xQ R1 (Nat.le_trans hc (by decide)))) rfl)).trans ((ac (au (mB rfl rfl) rfl)).trans w1))))
end
end Mine
end
section
namespace Mine
theorem zk {α:Type}{a:AF}{t:TF}{f:EF}{H:Hp}{I:Loc→Prop}{emb g:α→V}{tv:α→Bool}{xs:List α}:∀ {M:Loc},I M→(∀ M x,I M→x∈xs→∃ M',a (emb x) M H=some (M',H)∧I M'∧t M' H=some (tv x,H)∧(tv x=true→f M' H=some (g x,H)))→
    rt a t f (xs.map emb) M H=some ((xs.filter tv).map g,H):=by
  induction xs with
  | nil=>intros; rfl
  | cons x xs ih=>
    intro M hI h
    obtain⟨M',e1,hI',e2,e3⟩:=h M x hI List.mem_cons_self
    have ih:=ih hI' fun M v hM hv=>h M v hM (List.mem_cons_of_mem _ hv)
    rw[List.map_cons]
    unfold rt
    rw[e1,Option.bind_some]
    dsimp only
    rw[e2,Option.bind_some,List.filter_cons]
    dsimp only
    cases ht:tv x with
    | true=>
      rw[if_pos rfl,if_pos rfl,e3 ht,Option.bind_some,ih]
      rfl
    | false=>
      rw[if_neg Bool.false_ne_true,if_neg Bool.false_ne_true,ih]
theorem AD {sel:List (Option Nat)}{it:IF}{a:AF}{t:TF}{f:EF}{M N:Loc}{H H1 H2:Hp}{l q:List V} (h1:it M H=some (l,H1)) (h2:gL sel M=true) (h3:inner sel M=N) (h4:rt a t f l N H1=some (q,H2)) (h5:l.length≤1000):em sel it a t f M H=some (q,H2):=by
  unfold em
  rw[h1,Option.bind_some]
  dsimp only
  rw[if_pos h2,h3,h4,Option.bind_some,if_pos (D8 h5)]
noncomputable def iq (cs:List (List Nat × Bool)) (i:Nat):Bool:=(cs[i]?.map (·.2)).getD false
noncomputable def cV (cs:List (List Nat × Bool)):List Nat:=(List.range cs.length).filter fun i=>!iq cs i
theorem Ff {H:Hp}{j i:Nat}{cs:List (List Nat × Bool)} (h:H[j]? = some (.lst (cs.map az))) (hi:i < cs.length):aI (.ref j) (.int (i:Int)) H=some (az cs[i]):=by
  unfold aI
  have e:cw (.ref j) H=some (cs.map az):=eE.mpr h
  dsimp only
  rw[e,Option.bind_some]
  unfold wa
  rw[if_pos (Int.natCast_nonneg _),Int.toNat_natCast,List.getElem?_map,List.getElem?_eq_getElem hi]
  rfl
theorem uh {cs:List (List Nat × Bool)}{i:Nat} (hi:i < cs.length):iq cs i=cs[i].2:=by
  unfold iq; rw[List.getElem?_eq_getElem hi]; rfl
theorem yY {l:List Nat}{v:V} (h:v∈aH l):∃ i∈l,v = .int (i:Int):=by
  obtain⟨i,hi,rfl⟩:=List.mem_map.mp h
  exact⟨i,hi,rfl⟩
theorem uO {l:List Nat}:(aH l).length=l.length:=List.length_map ..
theorem GI {H:Hp}{s row:Nat}{text tl:List Nat}{L:List V}{hd:Bool}{defs:List (List Nat × V)}{cs:List (List Nat × Bool)}{drafts:List V}{M:Loc}
    (R:RS H s text L row hd tl defs (cs.map az) drafts) (hl:cs.length≤1000):
    em [none,none,some 0] cJ bW bV bX (some (.ref s)::M) H=some (aH (cV cs),H):=by
  have hcl:(cs.map az).length=cs.length:=List.length_map ..
  have key:=zk (a:=bW) (t:=bV) (f:=bX) (H:=H) (xs:=List.range cs.length) (M:=[none,none,some (.ref s)]) (I:=fun M=>∃ x,M=[none,x,some (.ref s)]) (emb:=fun i:Nat=>V.int (i:Int)) (g:=fun i:Nat=>V.int (i:Int)) (tv:=fun i=>!iq cs i) ⟨none,rfl⟩ ?_
  · exact AD (oL (ak (ay (aF rfl R.r0 rfl rfl) (hcl▸v5 R.r3)) rfl) hl) rfl rfl key (by rw[uO,List.length_range]; exact hl)
  · rintro _ i ⟨x,rfl⟩ hi
    have hi':i < cs.length:=List.mem_range.mp hi
    refine⟨[none,some (.int (i:Int)),some (.ref s)],rfl,⟨_,rfl⟩,?_,fun _=>rfl⟩
    rw[uh hi']
    exact dg (aU (ag (ag (aF rfl R.r0 rfl rfl) rfl (Ff R.r3 hi')) rfl rfl) rfl)
theorem IE {g:LF}{M:Loc}{H H1:Hp}{l:List Nat} (h:g M H=some ([.lst (aH l)],H1)) (hl:l∈eN):qL g M H=some (.lst (aH l),H1):=by
  have e:∀ l:List Nat,uB (aH l)=some l:=fun l=>by
    induction l with
    | nil=>rfl
    | cons i l ih=>
      show(if (0:Int)≤i then (uB (aH l)).map ((i:Int).toNat::·) else none)=_
      rw[if_pos (Int.natCast_nonneg _),ih]
      rfl
  unfold qL
  rw[h,Option.bind_some]
  dsimp only
  rw[e,Option.bind_some,if_pos hl]
theorem BC {p:Nat→Bool}{x:List Nat}{c:Nat} (h:p c=false):jf p (x++[c])=x++[c]:=by
  unfold jf
  rw[List.reverse_append,List.reverse_singleton,List.singleton_append,List.dropWhile_cons,h]
  simp
theorem Cy {p r:List Nat}:jy (some (p.length:Int)) none (p++r)=r:=by
  unfold jy
  simp
theorem tI {x:List Nat}{c:Nat} (h:c∉[32,9]) (H:Hp):mL (x++[c]) [.str [32,9]] H=some (.str (x++[c])):=by
  show some (V.str (jf _ _))=_
  rw[BC]
  simpa using h
noncomputable def Ends (x:List Nat):Prop:=∃ y c,x=y++[c]∧c∉[32,9]
theorem Ends.app {a b:List Nat}:Ends b→Ends (a++b):=fun⟨y,c,e,h⟩=>⟨a++y,c,e▸(List.append_assoc ..).symm,h⟩
theorem tU {x:List Nat} (h:(x.getLast?.any fun c=>decide (c∉[32,9]))=true):Ends x:=by
  cases hx:x.getLast? with
  | none=>rw[hx] at h; cases h
  | some c=>
    rw[hx] at h
    obtain⟨y,e⟩:=List.getLast?_eq_some_iff.mp hx
    exact⟨y,c,e,of_decide_eq_true h⟩
theorem zz {n:List Nat} (h:eI n):Ends n:=by
  obtain⟨c,w,rfl,q1,_,q3⟩:=h
  have hne:(c::w)≠[]:=List.cons_ne_nil _ _
  exact⟨(c::w).dropLast,(c::w).getLast hne,(List.dropLast_concat_getLast hne).symm,Ji ((List.mem_cons.mp (List.getLast_mem hne)).elim (fun e=>e.symm.subst (motive:=(·∈aQ)) q1) (q3 _))⟩
theorem E4 {names:List (List Nat)} (hn:∀ n∈names,eI n) {w:List Nat}{v:V} (h:eY names w v):Ends (nM w v):=by
  cases h with
  | plain hw=>exact tU ((show ∀ w∈eK,(w.getLast?.any fun c=>decide (c∉[32,9]))=true by decide) w hw)
  | kind=>exact tU rfl
  | quote=>exact tU rfl
  | begin hm=>exact Ends.app (a:=eH) (Ends.app (a:=[32]) (zz (hn _ hm)))
  | push hm=>exact Ends.app (a:=iA) (Ends.app (a:=[32]) (zz (hn _ hm)))
  | less hi=>exact tU ((show ∀ i∈[12,13,14],((nM gv (.int i)).getLast?.any fun c=>decide (c∉[32,9]))=true by decide +kernel) _ hi)
theorem xc {names:List (List Nat)} (hn:∀ n∈names,eI n) {l:List oP}:l≠[]→gI names l→∃ x c,cP l=x++[c]∧c∉[32,9]:=by
  induction l with
  | nil=>intro h; exact absurd rfl h
  | cons s l ih=>
    intro _ h
    cases l with
    | nil=>rw[sM]; exact E4 hn h
    | cons s' l=>rw[jJ]; exact Ends.app (Ends.app (a:=[59,32]) (ih (List.cons_ne_nil _ _) h.2.2))
theorem DZ {names:List (List Nat)}{l:List oP} (h0:l≠[]) (h:gI names l):∃ c t,cP l=c::t∧c≠124:=by
  have hs:∀ {w v},eY names w v→∃ c t,nM w v=c::t∧c≠124:=fun {w v} h=>by
    cases h with
    | plain hw=>
      have key:∀ w∈eK,(w.head?.any fun c=>decide (c≠124))=true:=by decide
      have:=key w hw
      cases w with
      | nil=>cases this
      | cons c t=>exact⟨c,t,rfl,of_decide_eq_true this⟩
    | _=>exact⟨_,_,rfl,by decide⟩
  cases l with
  | nil=>exact absurd rfl h0
  | cons s l=>
    cases l with
    | nil=>rw[sM]; exact hs h
    | cons s' l=>
      obtain⟨c,t,e,hc⟩:=hs h.1
      rw[jJ]
      exact⟨c,_,(congrArg (·++_) e).trans rfl,hc⟩
noncomputable def pD:Option (List Nat)→List Nat
  | some r=>r
  | none=>yI
noncomputable def w7:Option (List Nat)→V
  | some r=>mD r
  | none => .none
noncomputable def xr (live:List Nat) (raw:Option (List Nat)) (steps:List oP) (o row:Nat):V := .tup [.tup (aH live),w7 raw, .lst (steps.map mz), .int (o:Nat), .int (row:Nat)]
theorem Go {c:Nat} (h:c∉[32,9]) (H:Hp):pN (.str [c]) (.tup [.str [32], .str [9]]) H=some false:=
  (xi (x:=[c]) (l:=[[32],[9]]) H).trans (congrArg some (decide_eq_false fun q=>h ((List.mem_cons.mp q).elim (fun e=>(List.cons.inj e).1▸List.mem_cons_self) fun q=>(List.cons.inj (List.mem_singleton.mp q)).1▸DM)))
noncomputable abbrev Jo (s k:Nat) (n:V) (l3 l4 l5 l6:Option V):Loc:=[some (.ref s),some (.ref k),some n,l3,l4,l5,l6,none,none,none,none,none,none,none,none,none,none]
theorem ID {l:List V} (hl:l.length≤1000) (H:Hp):br (.lst []) (.lst l) H=some (.lst l):=if_pos (Nat.le_trans (Nat.le_of_eq (Nat.zero_add _)) (D8 hl))
theorem Dy {r u:List Nat} (h:r∈jb):((r++32::u).take yI.length==yI)=false:=by
  rcases(show ∀ r∈jb,r.head? ≠ some 60∨r=[60,113]∨r=[60,65,62,116] by decide) r h with h | rfl | rfl
  · cases r with
    | nil=>exact zw (by decide)
    | cons c t=>exact zw fun e=>h (congrArg some e)
  · rfl
  · rfl
theorem JI {a t:List Nat}{x:Nat} (h:32≠x):a++32::t≠[x]:=by
  cases a with
  | nil=>exact fun e=>h (List.cons.inj e).1
  | cons b a=>exact fun e=>List.append_ne_nil_of_right_ne_nil _ (List.cons_ne_nil _ _) (List.cons.inj e).2
section
variable {Hc:Hp}{s k row:Nat}{text tl p1 u:List Nat}{L:List V}{hd:Bool}{defs:List (List Nat × V)}{cs:List (List Nat × Bool)}{drafts:List V}{raw:Option (List Nat)} (RC:RS Hc s text L row hd tl defs (cs.map az) drafts) (gC:Hc[k]? = some (cur p1 (pD raw++32::u)))
include RC gC
theorem Gg (hr:∀ r,raw=some r→r∈jb) {C:Prop} (K:∀ H2,H2[k]? = some (cur (p1++pD raw) (32::u))→aV [k] Hc H2→(∀ n l3 l4,(cK (iF (cb (aJ [(0,ba)] (aa 1) (ae (ab il) aj)))) (af (aJ [(5,ch)] (aa 0) (ae (aa 1) aj)) (aw 5)) bj) (Jo s k n l3 l4 (some .none) none) Hc=some (.next,Jo s k n l3 l4 (some (w7 raw)) none,H2))→C):C:=by
  cases raw with
  | none=>exact u6 (n6 (w:=yI) gC) gC fun H2 e g kk=>K H2 g kk fun n l3 l4=>(if_false (dg (a:=true) (aU (ao rfl (bg gC) (ak rfl rfl) e) rfl))).trans rfl
  | some r=>
    have hm:=hr r rfl
    refine Dd (zI gC hm (A1 (P:=(·∈[32,9])) List.mem_cons_self)) fun H2 e g kk=>K H2 g kk fun n l3 l4=>(if_true (dg (a:=false) (aU (ao rfl (bg gC) (ak rfl rfl) (sj (w:=yI) gC (Dy hm))) rfl))).trans (au (ao rfl (bg RC.r0) (ak rfl rfl) (?_:_=some (mD r,H2))) rfl)
    unfold ch eD
    exact aq rfl rfl (a8 (dL rfl e))
theorem Di {own live x:List Nat}{ce:Nat}{n:V} (hcl:cs.length≤1000) (hown:(own=[]∧live=cV cs)∨(own≠[]∧live=own)) (hlive:live∈eN) (hl0:live≠[]) (ex:u=x++[ce]) (hce:ce∉[32,9]) {C:Prop}
    (K:∀ l3,(cK (cb (aa 4)) (al (af (av br (aa 3) (aa 4)) (aw 3)) (cK (aG vEq (tf mL (d9 (aW (am dw) (aa 1)) (eO (aW (am jA) (aa 1))) pM) (ae (ab jH) aj)) (ab (.str [123]))) (al (cj (cu (aW (am lR) (aa 0)) (oTup (ae (aa 3) (ae (aa 2) aj))))) EB) bj)) bj) (Jo s k n (some (.lst [])) (some (.lst (aH own))) none none) Hc=some (.next,Jo s k n l3 (some (.lst (aH own))) none none,Hc)→(cK (iF (cb (aa 3))) (qu [none,none,some 0] cJ bW bV bX 3) bj) (Jo s k n l3 (some (.lst (aH own))) none none) Hc=some (.next,Jo s k n (some (.lst (aH live))) (some (.lst (aH own))) none none,Hc)→C):C:=by
  rcases hown with ⟨rfl,rfl⟩ | ⟨ho,rfl⟩
  · exact K (some (.lst [])) ((if_false (aU rfl rfl)).trans rfl) ((if_true (dg (a:=false) (aU rfl rfl))).trans (oJ (GI RC hcl)))
  · have hll:(aH live).length≤1000:=uO.symm▸(show ∀ l∈eN,l.length≤1000 by decide) _ hlive
    have htr:∀ H,truth (.lst (aH live)) H=some true:=fun H=>by cases live with | nil=>exact absurd rfl hl0 | cons a b=>rfl
    have erm:pD raw++32::u=(pD raw++32::x)++[ce]:=by rw[ex,List.append_assoc]; rfl
    exact K (some (.lst (aH live))) ((if_true (aU rfl (htr _))).trans ((ac (au (ag rfl rfl (ID hll _)) rfl)).trans ((if_false (ai (lO (jc (aF rfl gC rfl rfl) (eM (aF rfl gC rfl rfl)) rfl rfl Cy) rfl (erm▸tI hce Hc)) rfl (congrArg some (beq_eq_false_iff_ne.mpr (JI (by decide)))))).trans rfl))) ((if_false (dg (a:=true) (aU rfl (htr _)))).trans rfl)
end
theorem AR {H Hc:Hp}{s k row:Nat}{text tl p p1 line:List Nat}{L:List V}{hd:Bool}{defs:List (List Nat × V)}{cs:List (List Nat × Bool)}{drafts:List V}{own live:List Nat}{raw:Option (List Nat)}{steps:List oP}{c0:Nat}{t0:List Nat}
    (R:RS H s text L row hd tl defs (cs.map az) drafts) (hk:s + 6≤k) (hn:∀ n∈cs.map (·.1),eI n) (hcs:cs.length≤500) (hr:∀ r,raw=some r→r∈jb) (hs0:steps≠[]) (hs:gI (cs.map (·.1)) steps) (hsl:steps.length≤1000)
    (hdl:drafts.length≤1000) (h:H[k]? = some (cur p line)) (hline:line=c0::t0) (hc0:c0∉[32,9]) (eC:aN [.ref s, .ref k] H=some (.lst (aH own),Hc)) (gC:Hc[k]? = some (cur p1 (pD raw++32::cP steps))) (kC:aV [k] H Hc)
    (hown:(own=[]∧live=cV cs)∨(own≠[]∧live=own)) (hlive:live∈eN) (hl0:live≠[]):
    ∃ H',bv [.ref s, .ref k] H=some (.none,H')∧RS H' s text L row hd tl defs (cs.map az) (drafts++[xr live raw steps p.length row]):=by
  have RC:=R.keep kC hk
  have hcl:cs.length≤1000:=Nat.le_trans hcs (by decide)
  refine cps fun CC KK=>?_
  obtain⟨c,t,est,hcb⟩:=zj hs0 hs
  refine Gg RC gC hr fun H2 g2 k2 e9=>?_
  refine u6 (da (t:=[32]) (d:=cP steps) g2 Ls (est▸A1 (P:=(·∉[32,9])) hcb)) g2 fun H3 e4 g3 k3=>?_
  have e5:ba [.ref k, .str [124]] H3=some (.bool false,H3):=(DZ hs0 hs).elim fun c' q=>q.elim fun t' q=>sj g3 (q.1▸zw q.2)
  have R3:=(RC.keep k2 hk).keep k3 hk
  refine Dd (BH hn hs0 hs g3 hsl) fun H4 e7 g4 k4=>?_
  have R4:=R3.keep k4 hk
  obtain⟨x,ce,ex,hce⟩:=xc hn hs0 hs
  refine Di (n := .int (p.length:Nat)) RC gC hcl hown hlive hl0 ex hce fun l3 e6 e7'=>?_
  refine KK ⟨H4.set (s + 4) (.lst (drafts++[xr live raw steps p.length row])),?_,R4.Fx⟩
  have es:∀ M,(cb (aW (am lR) (aa 0))) (some (.ref s)::M) H=some (false,H):=fun M=>aU (aF rfl R.r0 rfl rfl) (pB R.r5)
  have ep:=tS h
  rw[hline] at ep
  have e14:(cj (cu (aW (am mZ) (aa 0)) (oTup (ae (aW jE (qL (ae (aa 3) aj))) (ae (aa 5) (ae (aa 6) (ae (aa 2) (ae (aW (am pJ) (aa 0)) aj)))))))) (Jo s k (.int (p.length:Nat)) (some (.lst (aH live))) (some (.lst (aH own))) (some (w7 raw)) (some (.lst (steps.map mz)))) H4=some (.next,Jo s k (.int (p.length:Nat)) (some (.lst (aH live))) (some (.lst (aH own))) (some (w7 raw)) (some (.lst (steps.map mz))),H4.set (s + 4) (.lst (drafts++[xr live raw steps p.length row]))):=
    bz (cA (aF rfl R4.r0 rfl rfl) R4.r4 (eJ (ak (ay (IE (ak rfl rfl) hlive) rfl) (ak rfl (ak rfl (ak rfl (ak (aF rfl R4.r0 rfl rfl) rfl))))) (Nat.le_of_ble_eq_true rfl)) R4.r4 (xZ hdl))
  unfold bv eX
  exact dY rfl rfl ((ac (au (aF rfl h rfl rfl) rfl)).trans ((ac ((if_false (es _)).trans ((if_false (ai (ao rfl (bg h) rfl ep) rfl (Go hc0 _))).trans rfl))).trans ((ac (au rfl rfl)).trans ((ac ((if_false (es _)).trans rfl)).trans ((ac (au (ao rfl (bg R.r0) (ak rfl rfl) eC) rfl)).trans ((ac e6).trans ((ac e7').trans ((ac (au rfl rfl)).trans ((ac (e9 _ _ _)).trans ((ac ((if_false (ai (ao rfl (bg g2) rfl (tS g2)) rfl (KA _))).trans rfl)).trans ((ac (bz (ao rfl (bg g2) rfl e4))).trans ((ac (au rfl rfl)).trans ((ac ((if_false (aU (ao rfl (bg g3) (ak rfl rfl) e5) rfl)).trans (au (dL (ak rfl (ak (ao rfl (bg R3.r0) rfl (xQ R3 hcl)) rfl)) e7) rfl))).trans e14)))))))))))))
end Mine
end
section
namespace Mine
structure rE (ln:List Nat):Prop where
  first:∃ c t,ln=c::t∧c∉[32,9]
  last:∃ x c,ln=x++[c]∧c∉[32,9]
  mark:ln≠[37,37]
  rem:ln.take 2≠[47,47]
theorem HV {p:Nat→Bool}{c:Nat} (h:p c=false) (l:List Nat):c∈l→l.dropWhile p≠[]:=by
  induction l with
  | nil=>intro hm; cases hm
  | cons x l ih=>
    intro hm
    rw[List.dropWhile_cons]
    cases hx:p x with
    | true=>rw[if_pos rfl]; exact ih ((List.mem_cons.mp hm).resolve_left fun e=>by rw[← e,h] at hx; cases hx)
    | false=>rw[if_neg Bool.false_ne_true]; exact List.cons_ne_nil _ _
theorem GV {p:Nat→Bool}{c:Nat}{t:List Nat} (h:p c=false):sY p (c::t)≠[]:=by
  unfold sY jf
  rw[List.dropWhile_cons,h,if_neg Bool.false_ne_true]
  exact fun e=>HV h _ (List.mem_reverse.mpr List.mem_cons_self) (List.reverse_eq_nil_iff.mp e)
theorem zm {f g:EF}{M:Loc}{H H1:Hp}{v:V}{r:Option (V × Hp)} (h:f M H=some (v,H1)) (h2:truth v H1=some false) (h3:g M H1=r):Io f g M H=r:=by
  unfold Io
  rw[h,Option.bind_some]
  dsimp only
  rw[h2]
  exact h3
theorem DK {a b:List Nat} (h:a≠b):(a==b)=false:=beq_eq_false_iff_ne.mpr h
theorem Ge {c:Nat} (h:c∉[32,9]):[32,9].contains c=false:=Bool.eq_false_iff.mpr fun q=>h (List.contains_iff_mem.mp q)
theorem u3 {ln:List Nat} (h:rE ln) (H:Hp):i9 [.str ln] H=some (.bool false,H):=by
  obtain⟨c,t,rfl,hc⟩:=h.first
  unfold i9 pd
  exact aq rfl rfl (a8 (zm (v := .bool false) (ag (lO rfl rfl rfl) rfl (congrArg (fun b=>some (V.bool b)) (DK (GV (Ge hc))))) rfl (lO rfl rfl (congrArg (fun b=>some (V.bool b)) (DK h.rem)))))
theorem IZ {p q r:List Nat}:jy (some (p.length:Int)) (some ((p.length + q.length:Nat):Int)) (p++(q++r))=q:=wv rfl
theorem JR {p q r:List Nat}:jy none (some ((p.length + q.length:Nat):Int)) (p++(q++r))=p++q:=by
  show((p++(q++r)).drop 0).take (p.length + q.length)=_
  rw[List.drop_zero,← List.append_assoc,← List.length_append,List.take_left]
theorem C9 {L:List V}{i o n:Nat} (h:L[i]? = some (kJ o n)) (H:Hp):aI (.lst L) (.int (i:Int)) H=some (kJ o n):=by
  show wa L (i:Int)=_
  unfold wa
  rw[if_pos (Int.natCast_nonneg i)]
  exact h
theorem Dn {tab:List (Nat × Nat)}{f g:EF}{M:Loc}{H:Hp}{k c ix:Nat}{fs:List V}{i j:Int} (h1:f M H=some (.ref k,H)) (h:H[k]? = some (.inst c fs)) (ht:tab.lookup c=some ix) (hv:fs[ix]? = some (.int i)) (h2:g M H=some (.int j,H)) (hl:Nat.ble ix fs.length=true):pE tab f g M H=some (.next,M,H.set k (.inst c (BN ix (.int (i + j)) fs))):=by
  have ha:am tab (.ref k) H=some (.int i):=by unfold am; rw[bg h]; show(tab.lookup c).bind _=_; rw[ht]; exact hv
  unfold pE
  rw[h1,Option.bind_some]
  dsimp only
  rw[ha,Option.bind_some,h2,Option.bind_some]
  dsimp only
  rw[h]
  dsimp only
  rw[ht,Option.bind_some,if_pos (Nat.le_of_ble_eq_true hl)]
theorem G2 {c:Nat}{F:a9}{g:LF}{M:Loc}{H H1 H2:Hp}{vs:List V} (h:g M H=some (vs,H1)) (h2:F (.ref H1.length::vs) (H1++[.inst c []])=some (.none,H2)):oq c F g M H=some (.ref H1.length,H2):=by
  unfold oq
  rw[h,Option.bind_some]
  dsimp only
  rw[h2]
  rfl
section
variable {H:Hp}{s i:Nat}{text tl pre ln post:List Nat}{L:List V}{hd:Bool}{defs:List (List Nat × V)}{ap drafts:List V}{M:Loc}{a b c:Option V}
theorem tz (R:RS H s text L i hd tl defs ap drafts) (hi:i < L.length):(aG Ao (aW (am pJ) (aa 0)) (aW cL (aW (am oU) (aa 0)))) (some (.ref s)::M) H=some (true,H):=
  ai (aF rfl R.r0 rfl rfl) (ay (aF rfl R.r0 rfl rfl) rfl) (Hm hi _)
theorem wn {f:SF} (R:RS H s text L i hd tl defs ap drafts) (ht:text=pre++(ln++10::post)) (hL:L[i]? = some (kJ pre.length ln.length)):
    (al (af (av aI (aW (am oU) (aa 0)) (aW (am pJ) (aa 0))) (mF (bN (aw 1) (bN (aw 2) mC)))) (al (pE pJ (aa 0) (ab (.int 1))) (al (af (d9 (aW (am dw) (aa 0)) (eO (aa 1)) (eO (aa 2))) (aw 3)) f))) (some (.ref s)::a::b::c::M) H=f (some (.ref s)::some (.int (pre.length:Nat))::some (.int ((pre.length + ln.length:Nat):Int))::some (.str ln)::M) (H.set s (C6 s text L (i + 1) hd tl)):=
  (ac (au (ag (aF rfl R.r0 rfl rfl) (aF rfl R.r0 rfl rfl) (C9 hL _)) rfl)).trans ((ac (Dn rfl R.r0 (ix:=2) rfl rfl rfl rfl)).trans (ac (au (jc (aF rfl (b7 (o':=C6 s text L (i + 1) hd tl) R.r0) rfl rfl) (eM rfl) (eM rfl) rfl (ht▸IZ)) rfl)))
theorem zG {f:SF} (ho:rE ln):(cK (aG vEq (tf mL (aa 3) (ae (ab jH) aj)) (ab nV)) f bj) (a::b::c::some (.str ln)::M) H=some (.next,a::b::c::some (.str ln)::M,H):=by
  obtain⟨x,ce,rfl,hce⟩:=ho.last
  exact(if_false (ai (lO rfl rfl (tI hce H)) rfl (congrArg some (DK ho.mark)))).trans rfl
theorem A6:(aG vEq (tf mL (aa 3) (ae (ab jH) aj)) (ab nV)) (a::b::c::some (.str [37,37])::M) H=some (true,H):=ai (lO rfl rfl rfl) rfl rfl
theorem En {z:Ob} (h:H[s]? = some (.inst 5 [.str text, .lst L, .int ((i + 1:Nat):Int), .ref (s + 2), .ref (s + 3), .bool hd, .ref (s + 4), .ref (s + 5), .str tl])) (ht:text=pre++(ln++10::post)):(oq 0 fI (ae (d9 (aW (am dw) (aa 0)) pM (eO (aa 2))) (ae (aa 1) aj))) (some (.ref s)::some (.int (pre.length:Nat))::some (.int ((pre.length + ln.length:Nat):Int))::M) H=some (.ref H.length,H++[cur pre ln]):=
  G2 (ak (jc (aF rfl h rfl rfl) rfl (eM rfl) rfl (ht▸JR)) (ak rfl rfl)) KP
noncomputable abbrev Md (s:Nat) (a b c d:Option V):Loc:=[some (.ref s),a,b,c,d,none,none,none,none,none,none,none]
theorem AG {hd':Bool}{defs':List (List Nat × V)}{conds':List V} (R:RS H s text L i hd tl defs ap drafts) (ht:text=pre++(ln++10::post)) (hL:L[i]? = some (kJ pre.length ln.length)) (ho:rE ln)
    (hp:∀ H k,RS H s text L (i + 1) hd tl defs ap drafts→s + 6≤k→H[k]? = some (cur pre ln)→∃ H',(if ln.take 1==[37] then aL else bd) [.ref s, .ref k] H=some (.none,H')∧RS H' s text L (i + 1) hd' tl defs' conds' drafts) (a b c d:Option V):
    ∃ a' b' c' d' H',aY be aM (Md s a b c d) H=aY be aM (Md s a' b' c' d') H'∧RS H' s text L (i + 1) hd' tl defs' conds' drafts:=by
  refine cps fun CC KK=>?_
  have R1:RS (H.set s (C6 s text L (i + 1) hd tl)) s text L (i + 1) hd tl defs ap drafts:=R.rX
  generalize hG:H.set s (C6 s text L (i + 1) hd tl)=G at R1
  obtain⟨H',eP,R'⟩:=hp (G++[cur pre ln]) G.length R1.app R1.len eV
  refine KK ⟨some (.int (pre.length:Nat)),some (.int ((pre.length + ln.length:Nat):Int)),some (.str ln),some (.ref G.length),H',?_,R'⟩
  have et:(cK (cb (tf lm (aa 3) (ae (ab (.str [37])) aj))) (cj (aJ [(5,aL)] (aa 0) (ae (aa 4) aj))) (cj (aJ [(5,bd)] (aa 0) (ae (aa 4) aj)))) (Md s (some (.int (pre.length:Nat))) (some (.int ((pre.length + ln.length:Nat):Int))) (some (.str ln)) (some (.ref G.length))) (G++[cur pre ln])=some (.next,Md s (some (.int (pre.length:Nat))) (some (.int ((pre.length + ln.length:Nat):Int))) (some (.str ln)) (some (.ref G.length)),H'):=by
    have hm:=lO (op:=lm) (f:=aa 3) (g:=ae (ab (.str [37])) aj) (M:=Md s (some (.int (pre.length:Nat))) (some (.int ((pre.length + ln.length:Nat):Int))) (some (.str ln)) (some (.ref G.length))) (H:=G++[cur pre ln]) (x:=ln) (v := .bool (ln.take 1==[37])) rfl rfl rfl
    by_cases hs:(ln.take 1==[37])=true
    · rw[if_pos hs] at eP
      exact(if_true (aU hm (congrArg some hs))).trans (bz (ao rfl (bg R1.app.r0) (ak rfl rfl) eP))
    · rw[if_neg hs] at eP
      exact(if_false (aU hm (congrArg some (Bool.eq_false_iff.mpr hs)))).trans (bz (ao rfl (bg R1.app.r0) (ak rfl rfl) eP))
  refine gb (tz R (List.getElem?_eq_some_iff.mp hL).1) ?_
  unfold aM
  rw[wn R ht hL,hG]
  exact(ac (zG ho)).trans ((ac ((if_false (aU (dL (ak rfl rfl) (u3 ho G)) rfl)).trans rfl)).trans ((ac (au (En (z := .dead) R1.r0 ht) rfl)).trans et))
theorem HP (R:RS H s text L i hd tl defs ap drafts) (ht:text=pre++([37,37]++10::post)) (hL:L[i]? = some (kJ pre.length 2)) (a b c d:Option V):
    ∃ M H',aY be aM (Md s a b c d) H=some (.ret .none,M,H')∧RS H' s text L (i + 1) hd tl defs ap drafts:=by
  refine⟨Md s (some (.int (pre.length:Nat))) (some (.int ((pre.length + 2:Nat):Int))) (some (.str [37,37])) d,_,Aq (tz R (List.getElem?_eq_some_iff.mp hL).1) ?_,R.rX⟩
  unfold aM
  exact(wn (ln:=[37,37]) R ht hL).trans (fF ((if_true A6).trans rfl))
end
end Mine
end
section
namespace Mine
theorem Iy {f g:SF}{M M1:Loc}{H H1:Hp} (h:f M H=some (.brk,M1,H1)):al f g M H=some (.brk,M1,H1):=by unfold al; rw[h]; rfl
noncomputable abbrev HH (s:Nat) (a b c:Option V):Loc:=[some (.ref s),a,b,c,none,none,none,none,none,none,none]
section
variable {H:Hp}{s i:Nat}{text tl pre ln post:List Nat}{L:List V}{hd:Bool}{defs:List (List Nat × V)}{ap drafts:List V}
theorem Ia {drafts':List V} (R:RS H s text L i hd tl defs ap drafts) (ht:text=pre++(ln++10::post)) (hL:L[i]? = some (kJ pre.length ln.length)) (ho:rE ln)
    (hp:∀ H k,RS H s text L (i + 1) hd tl defs ap drafts→s + 6≤k→H[k]? = some (cur pre ln)→∃ H',bv [.ref s, .ref k] H=some (.none,H')∧RS H' s text L (i + 1) hd tl defs ap drafts') (a b c:Option V):
    ∃ a' b' c' H',aY bl aS (HH s a b c) H=aY bl aS (HH s a' b' c') H'∧RS H' s text L (i + 1) hd tl defs ap drafts':=by
  refine cps fun CC KK=>?_
  have R1:RS (H.set s (C6 s text L (i + 1) hd tl)) s text L (i + 1) hd tl defs ap drafts:=R.rX
  generalize hG:H.set s (C6 s text L (i + 1) hd tl)=G at R1
  obtain⟨H',eP,R'⟩:=hp (G++[cur pre ln]) G.length R1.app R1.len eV
  refine KK ⟨some (.int (pre.length:Nat)),some (.int ((pre.length + ln.length:Nat):Int)),some (.str ln),H',?_,R'⟩
  refine gb (tz R (List.getElem?_eq_some_iff.mp hL).1) ?_
  unfold aS
  rw[wn R ht hL,hG]
  exact(ac (zG ho)).trans ((if_true (dg (a:=false) (aU (dL (ak rfl rfl) (u3 ho G)) rfl))).trans (bz (ao rfl (bg R1.r0) (ak (En (z := .dead) R1.r0 ht) rfl) eP)))
theorem IR {tail:List Nat} (R:RS H s text L i hd tl defs ap drafts) (ht:text=pre++([37,37]++10::tail)) (hL:L[i]? = some (kJ pre.length 2)) (a b c:Option V):
    ∃ M H',aY bl aS (HH s a b c) H=some (.next,some (.ref s)::M,H')∧RS H' s text L (i + 1) hd tail defs ap drafts:=by
  have hc:jy (some ((pre.length + 2 + 1:Nat):Int)) none text=tail:=by
    have:=Cy (p:=pre++[37,37,10]) (r:=tail)
    rw[List.length_append,List.append_assoc] at this
    rw[ht]
    exact this
  have R1:RS (H.set s (C6 s text L (i + 1) hd tl)) s text L (i + 1) hd tl defs ap drafts:=R.rX
  refine⟨[some (.int (pre.length:Nat)),some (.int ((pre.length + 2:Nat):Int)),some (.str [37,37]),none,none,none,none,none,none,none],(H.set s (C6 s text L (i + 1) hd tl)).set s (C6 s text L (i + 1) hd tail),J6 (tz R (List.getElem?_eq_some_iff.mp hL).1) ?_,R1.rX⟩
  unfold aS
  exact(wn (ln:=[37,37]) R ht hL).trans (Iy ((if_true A6).trans ((ac (qK (i:=8) (v := .str tail) (jc (aF rfl R1.r0 rfl rfl) (eM (ag rfl rfl rfl)) rfl rfl hc) rfl R1.r0 rfl rfl)).trans rfl)))
theorem Ka (R:RS H s text L i hd tl defs ap drafts) (hL:i=L.length) (a b c:Option V):
    aY bl aS (HH s a b c) H=some (.next,HH s a b c,H):=
  pY (ai (aF rfl R.r0 rfl rfl) (ay (aF rfl R.r0 rfl rfl) rfl) (AK (Nat.le_of_eq hL.symm) _))
end
set_option genInjectivity false in
structure Dr where
  live:List Nat
  raw:Option (List Nat)
  steps:List oP
  o:Nat
  row:Nat
noncomputable def Dr.v (d:Dr):V:=xr d.live d.raw d.steps d.o d.row
noncomputable def bo (n:Nat) (live:List Nat) (raw:Option (List Nat)) (steps:List oP) (line:Nat):V := .inst 2 [.int (n:Nat), .tup (aH live),w7 raw, .lst (steps.map mz), .int (line:Nat)]
noncomputable def vl (ds:List Dr) (i:Nat):V:=match ds[i]? with
  | some d=>bo i d.live d.raw d.steps d.row
  | none => .none
noncomputable def uz (raw:Option (List Nat)) (steps:List oP):Prop:=raw=none→∀ x∈steps,x.1∉[qx,gv,fv]
theorem CX {x:List Nat} (H:Hp):pN (.str x) pZ H=some (decide (x∈[qx,gv,fv])):=xi H
noncomputable abbrev Mb (s j:Nat) (a b c d e f g h:Option V):Loc:=[some (.ref s),some (.ref j),a,b,c,d,e,f,g,h,none,none,none,none,none,none]
theorem wt {a:AF}{f:SF}{v:V}{l:List V}{M M1 M2:Loc}{H H1 H2:Hp} (h:a v M H=some (M1,H1)) (h2:f M1 H1=some (.next,M2,H2)):forL a f (v::l) M H=forL a f l M2 H2:=by
  show(a v M H).bind _=_
  rw[h,Option.bind_some]
  dsimp only
  rw[h2]
  rfl
theorem G8 {s j:Nat}{a b c d e f g:Option V}{H:Hp} (l:List oP):∀ (h:Option V),(∀ x∈l,x.1∉[qx,gv,fv])→
    ∃ h',forL cr cp (l.map mz) (Mb s j a b c d e f g h) H=some (.next,Mb s j a b c d e f g h',H):=by
  induction l with
  | nil=>exact fun h _=>⟨h,rfl⟩
  | cons x l ih=>
    intro h hx
    obtain⟨h',e1⟩:=ih (some (mz x)) fun y hy=>hx y (List.mem_cons_of_mem _ hy)
    exact⟨h',(wt rfl ((if_false (ai (a := .str x.1) (ay rfl rfl) rfl ((CX H).trans (congrArg some (decide_eq_false (hx x List.mem_cons_self)))))).trans rfl)).trans e1⟩
theorem Ln {s j m:Nat}{H:Hp}{d0:Dr}{h1:Option V} (hw:uz d0.raw d0.steps) {C:Prop} (K:∀ h',(cK (aG uu (aa 5) (ab .none)) (m4 dA cr cp) bj) (Mb s j (some (.lst (d0.steps.map mz))) (some (.int (m:Int))) (some (.tup (aH d0.live))) (some (w7 d0.raw)) (some (.lst (d0.steps.map mz))) (some (.int (d0.o:Nat))) (some (.int (d0.row:Nat))) h1) H=some (.next,Mb s j (some (.lst (d0.steps.map mz))) (some (.int (m:Int))) (some (.tup (aH d0.live))) (some (w7 d0.raw)) (some (.lst (d0.steps.map mz))) (some (.int (d0.o:Nat))) (some (.int (d0.row:Nat))) h',H)→C):C:=by
  cases hr:d0.raw with
  | none=>
    rw[hr] at K
    obtain⟨h',hin⟩:=G8 (s:=s) (j:=j) (a:=some (.lst (d0.steps.map mz))) (b:=some (.int (m:Int))) (c:=some (.tup (aH d0.live))) (d:=some .none) (e:=some (.lst (d0.steps.map mz))) (f:=some (.int (d0.o:Nat))) (g:=some (.int (d0.row:Nat))) (H:=H) d0.steps h1 (hw hr)
    exact K h' ((if_true (ai rfl rfl rfl)).trans (iY (eU rfl rfl) hin))
  | some r=>
    rw[hr] at K
    exact K h1 ((if_false (ai rfl rfl rfl)).trans rfl)
theorem IN {s j m:Nat}{H:Hp}{d0:Dr}{acc:List V}{a0 c1 d1 e1 f1 g1 h1:Option V} (hw:uz d0.raw d0.steps) (z0:∀ M,(aW (am mZ) (aa 0)) (some (.ref s)::M) H=some (.ref (s + 4),H)) (hv:aI (.ref (s + 4)) (.int (m:Int)) H=some d0.v) (hj:H[j]? = some (.lst acc)) (hl:acc.length < 1048576) {C:Prop}
    (K:∀ a b c d e f g h,bJ (Mb s j a0 (some (.int (m:Int))) c1 d1 e1 f1 g1 h1) H=some (.next,Mb s j a b c d e f g h,(H++[Ob.dead]).set j (.lst (acc++[bo m d0.live d0.raw d0.steps d0.row])))→C):C:=by
  refine Ln (s:=s) (j:=j) (m:=m) (H:=H) (h1:=h1) hw fun h' hf=>?_
  refine K (some (.lst (d0.steps.map mz))) (some (.int (m:Int))) (some (.tup (aH d0.live))) (some (w7 d0.raw)) (some (.lst (d0.steps.map mz))) (some (.int (d0.o:Nat))) (some (.int (d0.row:Nat))) h' ?_
  unfold bJ
  exact(ac (au (ag (z0 _) rfl hv) rfl)).trans ((ac ((if_true (ai rfl rfl rfl)).trans (au rfl rfl))).trans ((ac ((if_false (ai rfl rfl rfl)).trans rfl)).trans ((ac hf).trans (bz (cA rfl hj (eu rfl JD) (dh hj) hl)))))
theorem FK {m:Nat}:(List.range (m + 1)).reverse=m::(List.range m).reverse:=by rw[List.range_succ,List.reverse_append]; rfl
theorem Ij {s j row:Nat}{text tl:List Nat}{L:List V}{hd:Bool}{defs:List (List Nat × V)}{ap:List V}{ds:List Dr} (hj:s + 6≤j) (hw:∀ d∈ds,uz d.raw d.steps) (m:Nat):∀ (H:Hp) (acc:List V) (a0 b0 c1 d1 e1 f1 g1 h1:Option V),m≤ds.length→m + acc.length≤1000→RS H s text L row hd tl defs ap (ds.map Dr.v)→H[j]? = some (.lst acc)→
    ∃ a b c d e f g h H',forL dy bJ (aH (List.range m).reverse) (Mb s j a0 b0 c1 d1 e1 f1 g1 h1) H=some (.next,Mb s j a b c d e f g h,H')∧RS H' s text L row hd tl defs ap (ds.map Dr.v)∧H'[j]? = some (.lst (acc++(List.range m).reverse.map (vl ds))):=by
  induction m with
  | zero=>exact fun H acc a b c d e f g h _ _ R hjj=>⟨a,b,c,d,e,f,g,h,H,rfl,R,hjj.trans (congrArg (fun x=>some (Ob.lst x)) (List.append_nil acc).symm)⟩
  | succ m ih=>
    intro H acc a0 b0 c1 d1 e1 f1 g1 h1 hm hacc R hjj
    refine cps fun CC KK=>?_
    have ed:=List.getElem?_eq_getElem hm
    generalize ds[m]'hm=d0 at ed
    have hv:aI (.ref (s + 4)) (.int (m:Int)) H=some d0.v:=by
      show(cw (.ref (s + 4)) H).bind _=_
      rw[eE.mpr R.r4,Option.bind_some]
      unfold wa
      rw[if_pos (Int.natCast_nonneg _),Int.toNat_natCast,List.getElem?_map,ed]
      rfl
    have hda:vl ds m=bo m d0.live d0.raw d0.steps d0.row:=by unfold vl; rw[ed]
    refine IN (a0:=a0) (c1:=c1) (d1:=d1) (e1:=e1) (f1:=f1) (g1:=g1) (h1:=h1) (hw d0 (List.mem_of_getElem? ed)) (fun M=>aF rfl R.r0 rfl rfl) hv hjj (xZ (Nat.le_trans (Nat.le_add_left _ _) hacc)) fun a b c d e f g h hstep=>?_
    rw[← hda] at hstep
    have R1:RS ((H++[Ob.dead]).set j (.lst (acc++[vl ds m]))) s text L row hd tl defs ap (ds.map Dr.v):=R.app.keep (aV.set (S:=[j]) List.mem_cons_self) hj
    obtain⟨a',b',c',d',e',f',g',h',H',q1,q2,q3⟩:=ih ((H++[Ob.dead]).set j (.lst (acc++[vl ds m]))) (acc++[vl ds m]) a b c d e f g h (Nat.le_of_succ_le hm) (by rw[List.length_append,List.length_singleton,Nat.add_comm acc.length,← Nat.add_assoc]; exact hacc) R1 (b7 (dh hjj))
    rw[FK] at KK
    exact KK ⟨a',b',c',d',e',f',g',h',H',(wt rfl hstep).trans q1,q2,q3.trans (congrArg (fun x=>some (Ob.lst x)) (List.append_assoc ..))⟩
theorem Hr {n i:Nat} (h:i < n):(n:Int) - 1 - (i:Int)=((0 + n - 1 - i:Nat):Int):=by omega
theorem Al {n:Nat}:qZ ((n:Int) - 1)=aH (List.range n).reverse:=by
  unfold qZ aH
  rw[show((n:Int) - 1 + 1).toNat=n by rw[Int.sub_add_cancel,Int.toNat_natCast],List.range_eq_range' (n:=n),List.reverse_range',List.map_map,← List.range_eq_range']
  exact List.map_congr_left fun i hi=>congrArg V.int (Hr (List.mem_range.mp hi))
theorem JZ {g:LF}{M:Loc}{H H1:Hp}{n:Nat} (h:g M H=some ([.int ((n:Int) - 1), .int (-1), .int (-1)],H1)) (hn:n≤1000):gt g M H=some (aH (List.range n).reverse,H1):=by
  unfold gt
  rw[h,Option.bind_some]
  dsimp only
  rw[if_pos ⟨rfl,rfl,by omega,by omega⟩,Al]
theorem C2 {f:EF}{M:Loc}{H H1:Hp}{k:Nat}{l:List V} (h:f M H=some (.ref k,H1)) (h2:H1[k]? = some (.lst l)):tE f M H=some (.none,H1.set k (.lst l.reverse)):=by
  unfold tE
  rw[h,Option.bind_some]
  dsimp only
  rw[h2]
theorem GP {H:Hp}{s row:Nat}{text tl:List Nat}{L:List V}{hd:Bool}{defs:List (List Nat × V)}{ap:List V}{ds:List Dr} (hw:∀ d∈ds,uz d.raw d.steps) (R:RS H s text L row hd tl defs ap (ds.map Dr.v)) (hl:ds.length≤1000):
    ∃ H',b9 [.ref s] H=some (.lst ((List.range ds.length).map (vl ds)),H')∧RS H' s text L row hd tl defs ap (ds.map Dr.v):=by
  refine cps fun CC KK=>?_
  obtain⟨a,b,c,d,e,f,g,h,H',q1,q2,q3⟩:=Ij (j:=H.length) R.len hw ds.length (H++[.lst []]) [] (some .none) none none none none none none none (Nat.le_refl _) hl R.app eV
  have hcl:(ds.map Dr.v).length=ds.length:=List.length_map ..
  have hrev:((List.range ds.length).reverse.map (vl ds)).reverse=(List.range ds.length).map (vl ds):=by rw[← List.map_reverse,List.reverse_reverse]
  rw[← hrev] at KK
  refine KK ⟨(H'.set H.length (.lst ((List.range ds.length).reverse.map (vl ds)).reverse)).set H.length .dead,?_,(q2.keep (aV.set (S:=[H.length]) List.mem_cons_self) R.len).keep (aV.set (S:=[H.length]) List.mem_cons_self) R.len⟩
  unfold b9 ef
  exact aq rfl rfl ((ac (au (mB rfl rfl) rfl)).trans ((ac (au rfl rfl)).trans ((ac (iY (JZ (ak (ag (ay (aF rfl R.app.r0 rfl rfl) (hcl▸v5 R.app.r4)) rfl rfl) (ak rfl (ak rfl rfl))) hl) q1)).trans ((ac (bz (C2 rfl q3))).trans (a8 (lq rfl (b7 q3)))))))
end Mine
end
section
namespace Mine
set_option genInjectivity false in
structure Rl where
  live:List Nat
  raw:Option (List Nat)
  steps:List oP
noncomputable abbrev Cs:=List (List Nat × Bool)
structure vK (cs:Cs):Prop where
  ok:∀ n∈cs.map (·.1),eI n
  nd:(cs.map (·.1)).Nodup
  le:cs.length≤4
structure qg (cs:Cs) (r:Rl):Prop where
  sub:r.live∈eN
  ne:r.live≠[]
  lt:∀ i∈r.live,i < cs.length
  raw:∀ x,r.raw=some x→x∈jb
  s0:r.steps≠[]
  HF:gI (cs.map (·.1)) r.steps
  fit:uz r.raw r.steps
  sl:r.steps.length≤3
noncomputable def gH (c:List Nat × Bool):List Nat:=37::(if c.2 then 120 else 115)::32::c.1
noncomputable def kS:List Nat:=37::([111,112,116,105,111,110]++32::[110,111,100,101,102,97,117,108,116])
noncomputable def iC (d:List Nat × List Nat):List Nat:=d.1++32::d.2
noncomputable def told (raw:Option (List Nat)):Bool:=match raw with
  | some r=>r.take 1==[60]||r.take 2==[47,47]
  | none=>false
noncomputable def tF (cs:Cs) (live:List Nat):List Nat:=if live.length=cs.length then [60,42,62] else 60::(cB [44] (live.map (dX (cs.map (·.1))))++[62])
noncomputable def headOf (cs:Cs) (live:List Nat) (raw:Option (List Nat)):List Nat:=if live=cV cs∧told raw=false then [] else tF cs live
noncomputable def bL (cs:Cs) (r:Rl):List Nat:=headOf cs r.live r.raw++(pD r.raw++32::cP r.steps)
structure Pos (text:List Nat) (L:List V) (i:Nat) (pre:List Nat) (rows:List (List Nat)) (rest:List Nat) (L2:List V):Prop where
  t:text=pre++(dk rows++rest)
  l:L.drop i=je pre.length rows++L2
theorem Pos.step {text:List Nat}{L:List V}{i:Nat}{pre r:List Nat}{rows:List (List Nat)}{rest:List Nat}{L2:List V} (P:Pos text L i pre (r::rows) rest L2):
    text=pre++(r++10::(dk rows++rest))∧L[i]? = some (kJ pre.length r.length)∧Pos text L (i + 1) (pre++(r++[10])) rows rest L2:=by
  have h1:text=pre++(r++10::(dk rows++rest)):=P.t.trans (congrArg (pre++·) wR)
  have hl:L.drop i=kJ pre.length r.length::(je (pre.length + r.length + 1) rows++L2):=P.l
  have h2:=congrArg (·[0]?) hl
  have h3:=congrArg (List.drop 1) hl
  rw[List.drop_drop] at h3
  refine⟨h1,(List.getElem?_drop (xs:=L) (i:=i) (j:=0)).symm.trans h2,⟨h1.trans ?_,h3.trans ?_⟩⟩
  · rw[List.append_assoc,List.append_assoc]
    rfl
  · rw[List.length_append,List.length_append,← Nat.add_assoc]
    rfl
noncomputable abbrev wT:=be
noncomputable abbrev wB:=aM
theorem CV {n:List Nat} (h:eI n):∃ x c,n=x++[c]∧c∉[32,9]:=by
  obtain⟨c,w,rfl,q1,_,q3⟩:=h
  have hne:(c::w)≠[]:=by simp
  refine⟨(c::w).dropLast,(c::w).getLast hne,(List.dropLast_concat_getLast hne).symm,?_⟩
  have hm:(c::w).getLast hne∈aQ:=by
    have:=List.getLast_mem hne
    rcases List.mem_cons.mp this with e | e
    · rw[e]; exact q1
    · exact q3 _ e
  intro q
  have:∀ x∈[32,9],x∉aQ:=by decide
  exact this _ q hm
theorem Fs {c:List Nat × Bool} (h:eI c.1):rE (gH c):=by
  obtain⟨x,a,e,ha⟩:=CV h
  refine⟨⟨37,_,rfl,by decide⟩,⟨37::(if c.2 then 120 else 115)::32::x,a,by unfold gH; rw[e]; simp,ha⟩,?_,?_⟩
  · unfold gH; intro q; have:=congrArg List.length q; simp at this
  · unfold gH; intro q; exact absurd (List.cons.inj q).1 (by decide)
theorem Hq {α:Type}{row:α→List Nat}{T:TF}{B:SF}{text rest:List Nat}{L L2:List V}{rows:List (List Nat)}{I:Nat→List α→Loc→Hp→Prop}
    (step:∀ i pre post x todo M H,text=pre++(row x++10::post)→L[i]? = some (kJ pre.length (row x).length)→I i (x::todo) M H→∃ M' H',aY T B M H=aY T B M' H'∧I (i + 1) todo M' H') (todo:List α):
    ∀ (i:Nat) (pre:List Nat) (M:Loc) (H:Hp),Pos text L i pre (todo.map row++rows) rest L2→I i todo M H→∃ M' H' pre',aY T B M H=aY T B M' H'∧I (i + todo.length) [] M' H'∧Pos text L (i + todo.length) pre' rows rest L2:=by
  induction todo with
  | nil=>exact fun i pre M H P h=>⟨M,H,pre,rfl,h,P⟩
  | cons x todo ih=>
    intro i pre M H P h
    have q:=Pos.step (r:=row x) (rows:=todo.map row++rows) P
    refine(step i pre _ x todo M H q.1 q.2.1 h).elim fun M' h1=>h1.elim fun H' h1=>(ih (i + 1) _ M' H' q.2.2 h1.2).elim fun M2 h2=>h2.elim fun H2 h2=>h2.elim fun p2 h2=>⟨M2,H2,p2,h1.1.trans h2.1,?_⟩
    have e:i + 1 + todo.length=i + (todo.length + 1):=(Nat.succ_add_eq_add_succ i todo.length)
    exact e▸h2.2
theorem EP {α:Type}{f:α→List Nat}{done todo full:List α}{x:α} (hd:(full.map f).Nodup) (e:done++x::todo=full):f x∉done.map f:=by
  rw[← e,List.map_append,List.map_cons] at hd
  exact fun hm=>(List.nodup_append.mp hd).2.2 _ hm _ List.mem_cons_self rfl
theorem Ad {α:Type}{done todo full:List α}{x:α} (e:done++x::todo=full):x∈full:=e▸List.mem_append_right _ List.mem_cons_self
theorem Ap {α:Type}{done todo full:List α}{x:α}{n:Nat} (e:done++x::todo=full) (h:full.length≤n):done.length≤n:=by
  rw[← e,List.length_append] at h
  exact Nat.le_trans (Nat.le_add_right _ _) h
theorem xk {α:Type}{done todo full:List α}{x:α} (e:done++x::todo=full):(done++[x])++todo=full:=(List.append_assoc ..).trans e
section
variable {s:Nat}{text tl rest:List Nat}{L L2:List V}{hd:Bool}{defs:List (List Nat × V)}{ap:List V}{drafts:List V}{rows:List (List Nat)}
theorem DN {full todo done:Cs} (hn:∀ c∈full,eI c.1) (hnd:(full.map (·.1)).Nodup) (hl:full.length≤1000) {i:Nat}{pre:List Nat}{H:Hp}{a b c d:Option V} (e:done++todo=full)
    (P:Pos text L i pre (todo.map gH++rows) rest L2) (R:RS H s text L i hd tl defs (done.map az) drafts) {C:Prop}
    (K:∀ a' b' c' d' H' pre',aY wT wB (Md s a b c d) H=aY wT wB (Md s a' b' c' d') H'→RS H' s text L (i + todo.length) hd tl defs (full.map az) drafts→Pos text L (i + todo.length) pre' rows rest L2→C):C:=by
  obtain⟨M',H',pre',q1,⟨dn,a',b',c',d',e',rfl,R'⟩,P'⟩:=Hq (T:=wT) (B:=wB) (I:=fun i todo M H=>∃ dn a b c d,dn++todo=full∧M=Md s a b c d∧RS H s text L i hd tl defs (dn.map az) drafts) (fun i pre post x todo M H e1 e2 hI=>by
    obtain⟨dn,a,b,c,d,e,rfl,R⟩:=hI
    have hx:=hn x (Ad e)
    obtain⟨a',b',c',d',H',q1,q2⟩:=AG (hd':=hd) (defs':=defs) (conds':=(dn++[x]).map az) R e1 e2 (Fs hx) (fun H k R1 hk hc=>by
      obtain⟨cc,w,ecw,z1,z2,z3⟩:=hx
      have hxx:x=(cc::w,x.2):=Prod.ext ecw rfl
      have hnw:=EP (f:=fun c:List Nat × Bool=>c.1) hnd e
      rw[hxx]
      rw[ecw] at hnw
      exact DD R1 hk (b:=x.2) (hc.trans (by unfold gH; rw[ecw])) z1 z2 z3 hnw (Ap e hl)) a b c d
    exact⟨_,H',q1,dn++[x],a',b',c',d',xk e,rfl,q2⟩) todo i pre (Md s a b c d) H P ⟨done,a,b,c,d,e,rfl,R⟩
  exact K a' b' c' d' H' pre' q1 ((List.append_nil dn).symm.trans e'▸R') P'
end
theorem HZ {r:List Nat} (h:r∈jb):∃ x c,r=x++[c]∧c∉[32,9]:=tU ((show ∀ r∈jb,(r.getLast?.any fun c=>decide (c∉[32,9]))=true by decide) r h)
theorem wL {n:List Nat} (h:eI n):∃ c w,n=c::w∧c∉[32,9,37,47,60]:=by
  obtain⟨c,w,rfl,q1,_,_⟩:=h
  refine⟨c,w,rfl,fun q=>?_⟩
  have:∀ x∈[32,9,37,47,60],x∉aQ:=by decide
  exact this _ q q1
theorem Gs {d:List Nat × List Nat} (h:eI d.1) (hr:d.2∈jb):rE (iC d):=by
  obtain⟨x,a,e,ha⟩:=HZ hr
  obtain⟨c,w,ec,hc⟩:=wL h
  have e1:iC d=c::(w++32::d.2):=congrArg (·++32::d.2) ec
  refine⟨⟨c,_,e1,fun q=>hc (List.mem_append_left [37,47,60] q)⟩,⟨d.1++32::x,a,(congrArg (fun r=>d.1++32::r) e).trans (List.append_assoc d.1 (32::x) [a]).symm,ha⟩,fun q=>?_,fun q=>?_⟩
  · exact absurd ((List.cons.inj (e1.symm.trans q)).1▸hc) (by decide)
  · rw[e1] at q
    exact absurd ((List.cons.inj q).1▸hc) (by decide)
theorem y1 {l:List (List Nat × V)}{k:List Nat} (h:k∉l.map (·.1)):o9 l k=none:=by
  unfold o9
  rw[List.find?_eq_none.mpr]
  · rfl
  · intro x hx e
    rw[beq_iff_eq] at e
    exact h (e▸List.mem_map_of_mem hx)
noncomputable def qI (d:List Nat × List Nat):List Nat × V:=(d.1,mD d.2)
section
variable {s:Nat}{text tl rest:List Nat}{L L2:List V}{hd:Bool}{ap:List V}{drafts:List V}{rows:List (List Nat)}
theorem EX {d:List Nat × List Nat} (h:eI d.1):((iC d).take 1==[37])=false:=by
  obtain⟨cc,w,ecw,hcn⟩:=wL h
  unfold iC
  rw[ecw]
  exact beq_eq_false_iff_ne.mpr fun q=>absurd hcn ((List.cons.inj q).1.symm▸(by decide))
theorem Dq {full todo done:List (List Nat × List Nat)} (hn:∀ c∈full,eI c.1∧c.2∈jb) (hnd:(full.map (·.1)).Nodup) (hl:full.length≤1000) {i:Nat}{pre:List Nat}{H:Hp}{a b c d:Option V} (e:done++todo=full)
    (P:Pos text L i pre (todo.map iC++rows) rest L2) (R:RS H s text L i hd tl (done.map qI) ap drafts) {C:Prop}
    (K:∀ a' b' c' d' H' pre',aY wT wB (Md s a b c d) H=aY wT wB (Md s a' b' c' d') H'→RS H' s text L (i + todo.length) hd tl (full.map qI) ap drafts→Pos text L (i + todo.length) pre' rows rest L2→C):C:=by
  obtain⟨M',H',pre',q1,⟨dn,a',b',c',d',e',rfl,R'⟩,P'⟩:=Hq (T:=wT) (B:=wB) (I:=fun i todo M H=>∃ dn a b c d,dn++todo=full∧M=Md s a b c d∧RS H s text L i hd tl (dn.map qI) ap drafts) (fun i pre post x todo M H e1 e2 hI=>by
    obtain⟨dn,a,b,c,d,e,rfl,R⟩:=hI
    have hx:=hn x (Ad e)
    obtain⟨a',b',c',d',H',q1,q2⟩:=AG (hd':=hd) (defs':=(dn++[x]).map qI) (conds':=ap) R e1 e2 (Gs hx.1 hx.2) (fun H k R1 hk hc=>by
      have hnw:=EP (f:=fun c:List Nat × List Nat=>c.1) hnd e
      rw[EX hx.1,if_neg (by decide),List.map_append]
      obtain⟨cc,w,ecw,z1,z2,z3⟩:=hx.1
      have:=tj (raw:=x.2) R1 hk (hc.trans (by unfold iC; rw[ecw])) z1 z2 z3 hx.2 (y1 (by rw[List.map_map,← ecw]; exact hnw)) ((List.length_map ..).symm▸Ap e hl)
      rw[← ecw] at this
      exact this) a b c d
    exact⟨_,H',q1,dn++[x],a',b',c',d',xk e,rfl,q2⟩) todo i pre (Md s a b c d) H P ⟨done,a,b,c,d,e,rfl,R⟩
  exact K a' b' c' d' H' pre' q1 ((List.append_nil dn).symm.trans e'▸R') P'
end
theorem GE:rE kS:=⟨⟨37,_,rfl,by decide⟩,⟨kS.dropLast,116,by decide,by decide⟩,by decide,by decide⟩
theorem FO {s i:Nat}{text tl rest pre:List Nat}{L L2:List V}{dj:Bool}{defs:List (List Nat × V)}{ap:List V}{drafts:List V}{rows:List (List Nat)}{H:Hp}{a b c d:Option V}
    (P:Pos text L i pre ((if dj then [] else [kS])++rows) rest L2) (R:RS H s text L i true tl defs ap drafts) {C:Prop}
    (K:∀ a' b' c' d' H' pre',aY wT wB (Md s a b c d) H=aY wT wB (Md s a' b' c' d') H'→RS H' s text L (i + (if dj then [] else [kS]:List (List Nat)).length) dj tl defs ap drafts→Pos text L (i + (if dj then [] else [kS]:List (List Nat)).length) pre' rows rest L2→C):C:=by
  cases dj with
  | true=>exact K a b c d H pre rfl R P
  | false=>
    have q:=Pos.step (r:=kS) (rows:=rows) P
    obtain⟨a',b',c',d',H',q1,q2⟩:=AG (hd':=false) (defs':=defs) (conds':=ap) R q.1 q.2.1 GE (fun H k R1 hk hc=>FL R1 hk hc) a b c d
    exact K a' b' c' d' H' _ q1 q2 q.2.2
end Mine
end
section
namespace Mine
theorem C4:∀ l∈eN,∀ n < 5,l.length=n→(∀ i∈l,i < n)→l=List.range n:=by decide
theorem F6 {cs:Cs}{r:Rl} (hr:qg cs r) (hc:vK cs) (h:r.live.length=cs.length):r.live=List.range cs.length:=C4 _ hr.sub _ (Nat.lt_succ_of_le hc.le) h hr.lt
theorem J9:∀ n < 5,∀ a b c d:Bool,(List.range n).filter (fun i=>!([a,b,c,d][i]?.getD false))∈eN:=by decide
theorem four {f:Nat→Bool}{i:Nat} (h:i < 4):f i=([f 0,f 1,f 2,f 3][i]?.getD false):=
  match i,h with
  | 0,_=>rfl
  | 1,_=>rfl
  | 2,_=>rfl
  | 3,_=>rfl
theorem FG {cs:Cs} (hc:cs.length≤4):cV cs∈eN:=by
  have e:cV cs=(List.range cs.length).filter (fun i=>!([iq cs 0,iq cs 1,iq cs 2,iq cs 3][i]?.getD false)):=List.filter_congr fun i hi=>congrArg (!·) (four (f:=iq cs) (Nat.lt_of_lt_of_le (List.mem_range.mp hi) hc))
  rw[e]
  exact J9 _ (Nat.lt_succ_of_le hc) _ _ _ _
theorem yj {c:Nat}{t:List Nat} (h:c∉[32,9,47,37]):(∃ c' t',c::t=c'::t'∧c'∉[32,9])∧(c::t).take 2≠[47,47]∧c::t≠[37,37]:=
  ⟨⟨c,t,rfl,fun q=>h (List.mem_append_left [47,37] q)⟩,fun q=>absurd ((List.cons.inj q).1▸h) (by decide),fun q=>absurd ((List.cons.inj q).1▸h) (by decide)⟩
theorem xo {r:List Nat} (hr:r∈jb) (ht:told (some r)=false):(∃ c t,r=c::t∧c∉[32,9,47,37]∧c≠60)∨r=[37,37,115]:=by
  refine((show ∀ r∈jb,told (some r)=false→(r.head?.any fun c=>decide (c∉[32,9,47,37]∧c≠60))=true∨r=[37,37,115] by decide) r hr ht).imp (fun h=>?_) id
  cases r with
  | nil=>cases h
  | cons c t=>exact⟨c,t,rfl,of_decide_eq_true h⟩
theorem Gy {cs:Cs}{live:List Nat}:∃ u,tF cs live=60::u:=by
  unfold tF
  split <;> exact⟨_,rfl⟩
theorem xK {cs:Cs}{r:Rl} (hr:qg cs r):(∃ c t,bL cs r=c::t∧c∉[32,9])∧(bL cs r).take 2≠[47,47]∧bL cs r≠[37,37]:=by
  unfold bL headOf
  by_cases h:r.live=cV cs∧told r.raw=false
  · rw[if_pos h]
    have hraw:=hr.raw
    cases e:r.raw with
    | none=>exact yj (c:=60) (by decide)
    | some x=>
      rcases xo (hraw x e) (e▸h.2) with ⟨c,t,rfl,hc,_⟩ | rfl
      · exact yj hc
      · exact⟨⟨37,_,rfl,by decide⟩,fun q=>absurd (List.cons.inj q).1 (by decide),fun q=>absurd (List.cons.inj (List.cons.inj q).2).2 (List.cons_ne_nil _ _)⟩
  · rw[if_neg h]
    obtain⟨u,hu⟩:=Gy (cs:=cs) (live:=r.live)
    rw[hu]
    exact yj (c:=60) (by decide)
theorem Fh {cs:Cs}{r:Rl} (hr:qg cs r) (hc:vK cs):rE (bL cs r):=by
  obtain⟨h1,h2,h3⟩:=xK hr
  obtain⟨x,c,e,hcc⟩:=xc hc.ok hr.s0 hr.HF
  refine⟨h1,⟨headOf cs r.live r.raw++(pD r.raw++32::x),c,by unfold bL; rw[e]; simp,hcc⟩,h3,h2⟩
theorem IO {H:Hp}{s k row:Nat}{text tl p:List Nat}{L:List V}{hd:Bool}{defs:List (List Nat × V)}{cs:Cs}{drafts:List V}{r:Rl} (R:RS H s text L row hd tl defs (cs.map az) drafts) (hk:s + 6≤k) (hr:qg cs r) (hc:vK cs) (hdl:drafts.length≤1000) (h:H[k]? = some (cur p (bL cs r))):
    ∃ H',bv [.ref s, .ref k] H=some (.none,H')∧RS H' s text L row hd tl defs (cs.map az) (drafts++[xr r.live r.raw r.steps p.length row]):=by
  have hc4:cs.length≤500:=Nat.le_trans hc.le (by decide)
  refine cps fun CC KK=>?_
  obtain⟨⟨c0,t0,e0,hc0⟩,_,_⟩:=xK hr
  have go:=fun own Hc p1 q1 q2 q3 q4=>KK (AR (own:=own) (Hc:=Hc) (p1:=p1) (live:=r.live) R hk hc.ok hc4 hr.raw hr.s0 hr.HF (Nat.le_trans hr.sl (by decide)) hdl h e0 hc0 q1 q2 q3 q4 hr.sub hr.ne)
  by_cases hh:r.live=cV cs∧told r.raw=false
  · have er:bL cs r=pD r.raw++32::cP r.steps:=by unfold bL headOf; rw[if_pos hh]; rfl
    rw[er] at h
    have hraw:=hr.raw
    refine go [] H p (II R h ?_) h .refl (.inl ⟨rfl,hh.1⟩)
    cases e:r.raw with
    | none=>exact .inl rfl
    | some x=>
      rcases xo (hraw x e) (e▸hh.2) with ⟨c,t,rfl,_,hc⟩ | rfl
      · exact .inr ⟨c,_,rfl,hc⟩
      · exact .inr ⟨37,_,rfl,by decide⟩
  · have er:bL cs r=tF cs r.live++(pD r.raw++32::cP r.steps):=by unfold bL headOf; rw[if_neg hh]
    unfold tF at er
    rw[er] at h
    by_cases hl:r.live.length=cs.length
    · have el:=F6 hr hc hl
      rw[if_pos hl] at h
      exact Dd (Ir (r:=pD r.raw++32::cP r.steps) R hk h (Nat.le_trans hc4 (by decide))) fun Hc q1 q2 q3=>go _ Hc _ q1 q2 q3 (.inr ⟨el▸hr.ne,el⟩)
    · rw[if_neg hl] at h
      have hb:(60::(cB [44] (r.live.map (dX (cs.map (·.1))))++[62]))++(pD r.raw++32::cP r.steps)=60::(cB [44] (r.live.map (dX (cs.map (·.1))))++62::(pD r.raw++32::cP r.steps)):=congrArg (60::·) (List.append_assoc ..)
      rw[hb] at h
      exact Dd (Gm R hk hc.ok hc.nd hr.ne hr.lt h hc4 (Nat.le_trans ((show ∀ l∈eN,l.length≤4 by decide) _ hr.sub) (by decide))) fun Hc q1 q2 q3=>go _ Hc _ q1 q2 q3 (.inr ⟨hr.ne,rfl⟩)
noncomputable abbrev vT:=bl
noncomputable abbrev vB:=aS
noncomputable def Dr.p (d:Dr):Rl × Nat:=(⟨d.live,d.raw,d.steps⟩,d.row)
theorem C1 {ds:List Dr}{rs:List Rl}{k:Nat} (h:ds.map Dr.p=rs.zipIdx k):ds.length=rs.length:=by
  have:=congrArg List.length h
  rw[List.length_map,List.length_zipIdx] at this
  exact this
theorem BW {s:Nat}{text tl rest:List Nat}{L L2:List V}{hd:Bool}{defs:List (List Nat × V)}{cs:Cs}{rows:List (List Nat)} (hc:vK cs) {k:Nat}{full:List Rl} (hn:∀ r∈full,qg cs r) (hl:full.length≤1000) {pre:List Nat}{H:Hp}{a b c:Option V}
    (P:Pos text L k pre (full.map (bL cs)++rows) rest L2) (R:RS H s text L k hd tl defs (cs.map az) []) {C:Prop}
    (K:∀ a' b' c' H' pre' (ds:List Dr),aY vT vB (HH s a b c) H=aY vT vB (HH s a' b' c') H'→ds.map Dr.p=full.zipIdx (k + 1)→RS H' s text L (k + full.length) hd tl defs (cs.map az) (ds.map Dr.v)→Pos text L (k + full.length) pre' rows rest L2→C):C:=by
  obtain⟨M',H',pre',q1,⟨dn,ds,a',b',c',e',_,ed,rfl,R'⟩,P'⟩:=Hq (T:=vT) (B:=vB) (I:=fun i todo M H=>∃ (dn:List Rl) (ds:List Dr) (a b c:Option V),dn++todo=full∧k + dn.length=i∧ds.map Dr.p=dn.zipIdx (k + 1)∧M=HH s a b c∧RS H s text L i hd tl defs (cs.map az) (ds.map Dr.v)) (fun i pre post x todo M H e1 e2 hI=>by
    obtain⟨dn,ds,a,b,c,e,rfl,ed,rfl,R⟩:=hI
    have hx:=hn x (Ad e)
    obtain⟨a',b',c',H',q1,q2⟩:=Ia (drafts':=(ds++[(⟨x.live,x.raw,x.steps,pre.length,k + dn.length + 1⟩:Dr)]).map Dr.v) R e1 e2 (Fh hx hc) (fun H k R1 hk hcu=>by
      rw[List.map_append]
      exact IO R1 hk hx hc ((List.length_map ..).symm▸(C1 ed).symm▸Ap e hl) hcu) a b c
    refine⟨_,H',q1,dn++[x],_,a',b',c',xk e,(congrArg (k + ·) (List.length_append ..)),?_,rfl,q2⟩
    rw[List.map_append,List.zipIdx_append,ed,Nat.add_right_comm]
    rfl) full k pre (HH s a b c) H P ⟨[],[],a,b,c,rfl,rfl,rfl,rfl,R⟩
  exact K a' b' c' H' pre' ds q1 (ed.trans (congrArg (List.zipIdx · (k + 1)) ((List.append_nil dn).symm.trans e'))) R' P'
noncomputable def fG (lf:Nat→Nat):Nat→List Rl→List V
  | _,[]=>[]
  | n,r::rs=>bo n r.live r.raw r.steps (lf n)::fG lf (n + 1) rs
noncomputable def kO (rules:List Rl) (lf:Nat→Nat) (i:Nat):V:=match rules[i]? with
  | some r=>bo i r.live r.raw r.steps (lf i)
  | none => .none
theorem jh {rs:List Rl}{lf:Nat→Nat}{i:Nat} (h:i < rs.length):kO rs lf i=bo i rs[i].live rs[i].raw rs[i].steps (lf i):=by
  unfold kO; rw[List.getElem?_eq_getElem h]
theorem FF {lf:Nat→Nat} (rs:List Rl):∀ (n i:Nat),(fG lf n rs)[i]? = rs[i]?.map fun r=>bo (n + i) r.live r.raw r.steps (lf (n + i)):=by
  induction rs with
  | nil=>exact fun _ _=>rfl
  | cons r rs ih=>
    intro n i
    cases i with
    | zero=>rfl
    | succ i=>exact(ih (n + 1) i).trans (by rw[Nat.succ_add_eq_add_succ]; rfl)
theorem gG {lf:Nat→Nat} (rs:List Rl):fG lf 0 rs=(List.range rs.length).map (kO rs lf):=by
  refine List.ext_getElem? fun i=>(FF rs 0 i).trans ?_
  rw[List.getElem?_map,Nat.zero_add]
  by_cases h:i < rs.length
  · rw[List.getElem?_range h,Option.map_some,jh h,List.getElem?_eq_getElem h]
    rfl
  · rw[List.getElem?_eq_none (Nat.le_of_not_lt h),List.getElem?_eq_none (List.length_range.symm▸Nat.le_of_not_lt h)]
    rfl
theorem E2 {ds:List Dr}{rs:List Rl}{k:Nat} (h:ds.map Dr.p=rs.zipIdx (k + 1)):(List.range ds.length).map (vl ds)=fG (fun n=>k + 1 + n) 0 rs:=by
  have hl:=C1 h
  rw[gG,hl]
  refine List.map_congr_left fun j hj=>?_
  have hj':=List.mem_range.mp hj
  have q:=congrArg (·[j]?) h
  rw[List.getElem?_map,List.getElem?_zipIdx,List.getElem?_eq_getElem hj',List.getElem?_eq_getElem (hl.symm▸hj')] at q
  have q2:=Option.some.inj q
  rw[jh hj']
  unfold vl
  rw[List.getElem?_eq_getElem (hl.symm▸hj')]
  exact congrArg (fun p:Rl × Nat=>bo j p.1.live p.1.raw p.1.steps p.2) q2
theorem IK {cs:Cs}{ds:List Dr}{rs:List Rl}{k:Nat} (h:ds.map Dr.p=rs.zipIdx k) (hr:∀ r∈rs,qg cs r):∀ d∈ds,uz d.raw d.steps:=fun d hd=>
  (hr _ (List.fst_mem_of_mem_zipIdx (h▸List.mem_map_of_mem hd))).fit
end Mine
end
section
namespace Mine
set_option genInjectivity false in
structure Parts where
  more:Cs
  dj:Bool
  defs:List (List Nat × List Nat)
  rules:List Rl
  tail:List Nat
noncomputable abbrev eA:List Nat:=[73,78,73,84,73,65,76]
noncomputable abbrev Parts.ap (P:Parts):Cs:=(eA,false)::P.more
structure Wf (P:Parts):Prop where
  cs:vK P.ap
  dn:∀ d∈P.defs,eI d.1∧d.2∈jb
  dd:(P.defs.map (·.1)).Nodup
  dl:P.defs.length≤2
  rl:∀ r∈P.rules,qg P.ap r
  rn:P.rules.length≤3
  nl:∀ n∈P.ap.map (·.1),n.length≤7
  Lr:∀ d∈P.defs,d.1.length≤3
  tl:P.tail.length≤20
  nn:[110,111,110,101]∉P.ap.map (·.1)
noncomputable def vh (P:Parts):List (List Nat):=P.more.map gH++((if P.dj then [] else [kS])++P.defs.map iC)
noncomputable def ahead (P:Parts):Nat:=(vh P).length + 1
noncomputable def cS (P:Parts):List (List Nat):=vh P++([37,37]::P.rules.map (bL P.ap))
noncomputable def F5 (P:Parts):List Nat:=dk (cS P)++(if P.tail=[] then [] else [37,37,10]++P.tail)
noncomputable def Jz (P:Parts) (lf:Nat→Nat):V := .inst 4 [.jo (P.defs.map qI), .lst (P.ap.map az), .lst (fG lf 0 P.rules), .bool P.dj, .str P.tail]
noncomputable def iI (P:Parts):List (List Nat):=if P.tail=[] then [] else [[37,37]]
noncomputable def iH (P:Parts):List (List Nat):=P.more.map gH++((if P.dj then [] else [kS])++(P.defs.map iC++([37,37]::(P.rules.map (bL P.ap)++iI P))))
theorem y5 {a b:List (List Nat)}:dk (a++b)=dk a++dk b:=by unfold dk; simp
theorem Hj (P:Parts):F5 P=dk (iH P)++P.tail:=by
  unfold F5 cS iH vh iI
  by_cases h:P.tail=[]
  · rw[if_pos h,if_pos h,h]; simp[y5]
  · rw[if_neg h,if_neg h]
    simp only[y5,List.append_assoc]
    simp[dk]
theorem lM {n:List Nat} (h:eI n):∀ x∈n,x≠10:=by
  obtain⟨c,w,rfl,q1,_,q3⟩:=h
  intro x hx e
  subst e
  rcases List.mem_cons.mp hx with e | e
  · rw[← e] at q1; exact absurd q1 (by decide)
  · exact absurd (q3 _ e) (by decide)
theorem Bq {r:List Nat} (h:r∈jb):∀ x∈r,x≠10:=by
  have key:∀ r∈jb,∀ x∈r,x≠10:=by decide
  exact key r h
noncomputable abbrev Ja (l:List Nat):Prop:=∀ x∈l,x≠10
theorem rZ {a b:List Nat} (h:Ja a) (k:Ja b):Ja (a++b):=fun x hx=>(List.mem_append.mp hx).elim (h x) (k x)
theorem lN {c:Nat}{l:List Nat} (h:c≠10) (k:Ja l):Ja (c::l):=fun x hx=>(List.mem_cons.mp hx).elim (fun e=>e▸h) (k x)
theorem Fe {names:List (List Nat)} (hn:∀ n∈names,eI n) {s:oP} (h:eY names s.1 s.2):Ja (oX s):=by
  obtain⟨w,v⟩:=s
  cases h with
  | plain hw=>exact(show ∀ w∈eK,∀ x∈w,x≠10 by decide) w hw
  | kind=>decide
  | quote=>decide
  | begin hm=>exact rZ (a:=eH) (by decide) (lN (by decide) (lM (hn _ hm)))
  | push hm=>exact rZ (a:=iA) (by decide) (lN (by decide) (lM (hn _ hm)))
  | less hi=>exact(show ∀ i∈[12,13,14],∀ x∈oX (gv, .int i),x≠10 by decide +kernel) _ hi
theorem xS {p:Nat→Prop}{sep:List Nat} (hs:∀ x∈sep,p x):∀ {l:List (List Nat)},(∀ y∈l,∀ x∈y,p x)→∀ x∈cB sep l,p x
  | [],_,x,hx=>by cases hx
  | [y],h,x,hx=>h y List.mem_cons_self x hx
  | y::z::l,h,x,hx=>by
    unfold cB at hx
    rcases List.mem_append.mp hx with hx | hx
    · rcases List.mem_append.mp hx with hx | hx
      · exact h y List.mem_cons_self x hx
      · exact hs x hx
    · exact xS hs (fun y hy=>h y (List.mem_cons_of_mem _ hy)) x hx
theorem xy {sep:List Nat}{b:Nat}:∀ {l:List (List Nat)},(∀ y∈l,y.length≤b)→(cB sep l).length≤l.length * (b + sep.length)
  | [],_=>Nat.zero_le _
  | [y],h=>Nat.le_trans (h y List.mem_cons_self) (Nat.le_trans (Nat.le_add_right _ _) (Nat.le_of_eq (Nat.one_mul _).symm))
  | y::z::l,h=>by
    have h2:=xy (sep:=sep) (b:=b) (l:=z::l) fun y hy=>h y (List.mem_cons_of_mem _ hy)
    unfold cB
    rw[List.length_append,List.length_append,Nat.add_comm,List.length_cons,Nat.succ_mul]
    exact Nat.add_le_add h2 (Nat.add_le_add_right (h y List.mem_cons_self) _)
theorem gI.all {names:List (List Nat)}:∀ {l:List oP},gI names l→∀ s∈l,eY names s.1 s.2
  | [s],h,x,hx=>by rw[List.mem_singleton.mp hx]; exact h
  | s::s'::l,h,x,hx=>by
    rcases List.mem_cons.mp hx with rfl | hx
    · exact h.1
    · exact gI.all h.2.2 x hx
theorem lU {nms:List (List Nat)}{i:Nat} (h:i < nms.length):dX nms i∈nms:=by
  unfold dX; rw[List.getElem?_eq_getElem h]; exact List.getElem_mem h
theorem Fo {cs:Cs}{r:Rl} (hr:qg cs r) (hc:vK cs):Ja (bL cs r):=by
  refine rZ ?_ (rZ ?_ (lN (by decide) (xS (p:=fun x=>x≠10) (by decide) fun y hy=>(List.mem_map.mp hy).elim fun s q=>q.2▸Fe hc.ok (hr.HF.all s q.1))))
  · unfold headOf
    split
    · exact fun x h=>nomatch h
    · unfold tF
      split
      · decide
      · exact lN (by decide) (rZ (xS (p:=fun x=>x≠10) (by decide) fun y hy=>(List.mem_map.mp hy).elim fun i q=>q.2▸lM (hc.ok _ (lU ((List.length_map ..).symm▸hr.lt i q.1)))) (by decide))
  · have hraw:=hr.raw
    cases e:r.raw with
    | none=>decide
    | some y=>exact Bq (hraw y e)
theorem zC {P:Parts}{p:List Nat→Prop} (h1:∀ c∈P.more,p (gH c)) (h2:p kS) (h3:∀ d∈P.defs,p (iC d)) (h4:p [37,37]) (h5:∀ y∈P.rules,p (bL P.ap y)):∀ r∈iH P,p r:=by
  have app:∀ {a b:List (List Nat)},(∀ r∈a,p r)→(∀ r∈b,p r)→∀ r∈a++b,p r:=fun h k r hr=>(List.mem_append.mp hr).elim (h r) (k r)
  have mp:∀ {α:Type}{f:α→List Nat}{l:List α},(∀ x∈l,p (f x))→∀ r∈l.map f,p r:=fun h r hr=>(List.mem_map.mp hr).elim fun x q=>q.2▸h x q.1
  refine app (mp h1) (app (fun r hr=>?_) (app (mp h3) (fun r hr=>(List.mem_cons.mp hr).elim (fun e=>e▸h4) (app (mp h5) (fun r hr=>?_) r))))
  · split at hr
    · cases hr
    · exact List.mem_singleton.mp hr▸h2
  · unfold iI at hr
    split at hr
    · cases hr
    · exact List.mem_singleton.mp hr▸h4
theorem Fk {P:Parts} (h:Wf P):∀ r∈iH P,Ja r:=
  zC (p:=Ja) (fun c hc=>lN (by decide) (lN (by split <;> decide) (lN (by decide) (lM (h.cs.ok c.1 (List.mem_map_of_mem (List.mem_cons_of_mem _ hc))))))) (by decide) (fun d hd=>rZ (lM (h.dn d hd).1) (lN (by decide) (Bq (h.dn d hd).2))) (by decide) fun y hy=>Fo (h.rl y hy) h.cs
end Mine
end
section
namespace Mine
theorem ua {names:List (List Nat)} (hn:∀ n∈names,n.length≤7) {s:oP} (h:eY names s.1 s.2):(oX s).length≤14:=by
  obtain⟨w,v⟩:=s
  cases h with
  | plain hw=>exact(show ∀ w∈eK,w.length≤14 by decide) w hw
  | kind=>decide
  | quote=>decide
  | begin hm=>exact Nat.le_trans (Nat.add_le_add_right (hn _ hm) 6) (by decide)
  | push hm=>exact Nat.le_trans (Nat.add_le_add_right (hn _ hm) 5) (by decide)
  | less hi=>exact(show ∀ i∈[12,13,14],(oX (gv, .int i)).length≤14 by decide +kernel) _ hi
theorem tg {cs:Cs}{live:List Nat} (hn:∀ n∈cs.map (·.1),n.length≤7) (hlt:∀ i∈live,i < cs.length) (hll:live.length≤4):(live.map (dX (cs.map (·.1)))).length≤4∧(∀ y∈live.map (dX (cs.map (·.1))),y.length≤7)∧(cB [44] (live.map (dX (cs.map (·.1))))).length≤32:=by
  have q:∀ y∈live.map (dX (cs.map (·.1))),y.length≤7:=fun y hy=>(List.mem_map.mp hy).elim fun i z=>z.2▸hn _ (lU ((List.length_map ..).symm▸hlt i z.1))
  have hm:(live.map (dX (cs.map (·.1)))).length≤4:=(List.length_map ..).symm▸hll
  exact⟨hm,q,Nat.le_trans (xy (sep:=[44]) q) (Nat.mul_le_mul_right 8 hm)⟩
theorem BS:∀ l∈eN,l.length≤4:=by decide
theorem wE {cs:Cs}{r:Rl} (hr:qg cs r) (hc:vK cs) (hn:∀ n∈cs.map (·.1),n.length≤7):(bL cs r).length≤95:=by
  have h1:(headOf cs r.live r.raw).length≤34:=by
    unfold headOf
    split
    · exact Nat.zero_le _
    · unfold tF
      split
      · decide
      · exact Nat.succ_le_succ (List.length_append▸Nat.succ_le_succ (tg hn hr.lt (BS _ hr.sub)).2.2)
  have h2:(pD r.raw).length≤7:=by
    have hraw:=hr.raw
    cases e:r.raw with
    | none=>decide
    | some y=>exact Nat.le_trans (vZ (hraw y e)).2 (by decide)
  have h3:(cP r.steps).length≤48:=Nat.le_trans (xy (sep:=[59,32]) (b:=14) (l:=r.steps.map oX) fun y hy=>(List.mem_map.mp hy).elim fun s q=>q.2▸ua hn (hr.HF.all s q.1)) (Nat.mul_le_mul_right 16 ((List.length_map ..).symm▸hr.sl))
  unfold bL
  rw[List.length_append,List.length_append]
  exact Nat.le_trans (Nat.add_le_add h1 (Nat.add_le_add h2 (Nat.succ_le_succ h3))) (by decide)
theorem yX {b:Nat}:∀ {rows:List (List Nat)},(∀ r∈rows,r.length≤b)→(dk rows).length≤rows.length * (b + 1)
  | [],_=>Nat.zero_le _
  | r::rows,h=>by
    have h2:=yX (b:=b) (rows:=rows) fun r hr=>h r (List.mem_cons_of_mem _ hr)
    have e:dk (r::rows)=(r++[10])++dk rows:=rfl
    rw[e,List.length_append,List.length_append]
    show _≤(rows.length + 1) * (b + 1)
    rw[Nat.succ_mul,Nat.add_comm]
    exact Nat.add_le_add h2 (Nat.succ_le_succ (h r List.mem_cons_self))
theorem Cr {P:Parts} (h:Wf P):∀ r∈iH P,r.length≤95:=
  zC (p:=fun r=>r.length≤95) (fun c hc=>Nat.le_trans (Nat.add_le_add_right (h.nl c.1 (List.mem_map_of_mem (List.mem_cons_of_mem _ hc))) 3) (by decide)) (by decide) (fun d hd=>Nat.le_trans (Nat.le_of_eq List.length_append) (Nat.le_trans (Nat.add_le_add (h.Lr d hd) (Nat.succ_le_succ (vZ (h.dn d hd).2).2)) (by decide))) (by decide) fun y hy=>wE (h.rl y hy) h.cs h.nl
theorem zV {P:Parts} (h:Wf P):(dk (iH P)++P.tail).length≤2000∧(iH P).length≤11:=by
  have hc:(iH P).length≤11:=by
    have h4:(iI P).length≤1:=by unfold iI; split <;> decide
    have h5:(if P.dj then [] else [kS]:List (List Nat)).length≤1:=by split <;> decide
    unfold iH
    simp only[List.length_append,List.length_map,List.length_cons]
    exact Nat.add_le_add (Nat.le_of_succ_le_succ h.cs.le:P.more.length≤3) (Nat.add_le_add h5 (Nat.add_le_add h.dl (Nat.succ_le_succ (Nat.add_le_add h.rn h4))))
  refine⟨?_,hc⟩
  rw[List.length_append]
  exact Nat.le_trans (Nat.add_le_add (Nat.le_trans (yX (Cr h)) (Nat.mul_le_mul_right _ hc)) h.tl) (by decide)
theorem EE {H T:Hp}{o:Ob}:(H++o::T)[H.length]? = some o:=by rw[List.getElem?_append_right (Nat.le_refl _),Nat.sub_self]; rfl
theorem wj {H T:Hp} (n:Nat):(H++T)[H.length + n]? = T[n]? := by rw[List.getElem?_append_right (Nat.le_add_right _ _),Nat.add_sub_cancel_left]
theorem mH {tab:List (Nat × Nat)}{f g:EF}{M:Loc}{H H1 T:Hp}{c:Nat}{fs:List V}{v:V} (h1:f M H1=some (v,H ++ .inst c fs::T)) (h:g M (H ++ .inst c fs::T)=some (.ref H.length,H ++ .inst c fs::T)) (ht:tab.lookup c=some fs.length):af f (dC tab g) M H1=some (.next,M,H ++ .inst c (fs++[v])::T):=by
  rw[qK h1 h EE ht (Nat.ble_eq_true_of_le (Nat.le_refl _)),List.set_append_right _ _ (Nat.le_refl _),Nat.sub_self]
  unfold BN
  rw[if_neg (Nat.lt_irrefl _)]
  rfl
theorem Ak {H T:Hp}{a b:Ob}{n:Nat} (hn:T.length=n):(some (V.ref (H++a::T).length,H++a::T++[b]):Option (V × Hp))=some (V.ref (H.length + (n + 1)),H++a::(T++[b])):=by
  rw[List.length_append,List.length_cons,hn,List.append_assoc]
  rfl
theorem Iu {H:Hp}{text:List Nat}{L:List V} (hL:on [.str text] (H++[.inst 5 [.str text]])=some (.lst L,(H++[.inst 5 [.str text]])++[.dead])):
    dP [.ref H.length, .str text] (H++[.inst 5 []])=some (.none,H++[C6 H.length text L 0 true [], .dead, .jo [], .lst ([(eA,false)].map az), .lst [], .lst []]):=by
  rw[List.append_assoc] at hL
  unfold dP iD
  exact dY rfl rfl ((ac (mH (T:=[]) rfl rfl rfl)).trans ((ac (mH (T:=[.dead]) (dL rfl hL) rfl rfl)).trans ((ac (mH rfl rfl rfl)).trans ((ac (mH (Ak rfl) rfl rfl)).trans ((ac (mH ((mB (l:=[az (eA,false)]) rfl rfl).trans (Ak rfl)) rfl rfl)).trans ((ac (mH rfl rfl rfl)).trans ((ac (mH ((mB (l:=[]) rfl rfl).trans (Ak rfl)) rfl rfl)).trans ((ac (mH ((mB (l:=[]) rfl rfl).trans (Ak rfl)) rfl rfl)).trans ((mH (v := .str []) rfl rfl rfl).trans rfl)))))))))
theorem Er {H:Hp}{text:List Nat}{L:List V}:RS (H++[C6 H.length text L 0 true [], .dead, .jo [], .lst ([(eA,false)].map az), .lst [], .lst []]) H.length text L 0 true [] [] ([(eA,false)].map az) []:=
  ⟨EE,wj 2,wj 3,wj 4,wj 5⟩
end Mine
end
section
namespace Mine
theorem BE (P:Parts):0 + P.more.length + (if P.dj then [] else [kS]:List (List Nat)).length + P.defs.length + 1=ahead P:=by
  unfold ahead vh
  rw[List.length_append,List.length_append,List.length_map,List.length_map,Nat.zero_add,Nat.add_assoc P.more.length]
theorem z8 {P:Parts} (h:Wf P) {H:Hp}{s:Nat}{text:List Nat}{L L2:List V} (hp:Pos text L 0 [] (iH P) P.tail L2) (R:RS H s text L 0 true [] [] ([(eA,false)].map az) []) {C:Prop}
    (K:∀ H' pre,bx [.ref s] H=some (.none,H')→RS H' s text L (ahead P) P.dj [] (P.defs.map qI) (P.ap.map az) []→Pos text L (ahead P) pre (P.rules.map (bL P.ap)++iI P) P.tail L2→C):C:=by
  refine DN (full:=P.ap) (todo:=P.more) (done:=[(eA,false)]) (a:=none) (b:=none) (c:=none) (d:=none) (fun c hc=>h.cs.ok _ (List.mem_map_of_mem hc)) h.cs.nd (Nat.le_trans h.cs.le (by decide)) rfl hp R fun a1 b1 c1 d1 H1 p1 q1 R1 P1=>FO (dj:=P.dj) (a:=a1) (b:=b1) (c:=c1) (d:=d1) P1 R1 fun a2 b2 c2 d2 H2 p2 q2 R2 P2=>Dq (done:=[]) (a:=a2) (b:=b2) (c:=c2) (d:=d2) h.dn h.dd (Nat.le_trans h.dl (by decide)) rfl P2 R2 fun a3 b3 c3 d3 H3 p3 q3 R3 P3=>?_
  have q:=Pos.step (r:=[37,37]) P3
  obtain⟨M,H4,q4,R4⟩:=HP R3 q.1 q.2.1 a3 b3 c3 d3
  refine K H4 _ ?_ (BE P▸R4) (BE P▸q.2.2)
  unfold bx cZ
  exact aq rfl rfl (fF (q1.trans (q2.trans (q3.trans q4))))
theorem zb {H H1:Hp}{s row:Nat}{text tl:List Nat}{L:List V}{hd:Bool}{defs:List (List Nat × V)}{ap drafts:List V}{M:Loc} (R:RS H1 s text L row hd tl defs ap drafts) (hw:aY vT vB (HH s none none none) H=some (.next,some (.ref s)::M,H1)):bI [.ref s] H=some (.none,H1):=by
  unfold bI eS
  exact dY rfl rfl ((ac hw).trans ((if_false (aU (aF rfl R.r0 rfl rfl) (pB R.r5))).trans rfl))
theorem zJ:∀ (rows:List (List Nat)) (o:Nat),(je o rows).length=rows.length
  | [],o=>rfl
  | r::rows,o=>by unfold je; rw[List.length_cons,List.length_cons,zJ rows]
theorem Hy (P:Parts) (ht:P.tail=[]):(iH P).length=ahead P + P.rules.length:=by
  unfold iH ahead vh iI
  rw[if_pos ht,List.append_nil,← List.append_assoc (bs:=P.defs.map iC),← List.append_assoc,List.length_append,List.length_cons,List.length_map,Nat.add_assoc,Nat.add_comm 1]
theorem yF {P:Parts} (h:Wf P) {H:Hp}{s:Nat}{text pre:List Nat}{L L2:List V} (hp:Pos text L (ahead P) pre (P.rules.map (bL P.ap)++iI P) P.tail L2) (hLL:L=je 0 (iH P)++L2) (h2:P.tail=[]→L2=[]) (R:RS H s text L (ahead P) P.dj [] (P.defs.map qI) (P.ap.map az) []) {C:Prop}
    (K:∀ H' row (ds:List Dr),bI [.ref s] H=some (.none,H')→RS H' s text L row P.dj P.tail (P.defs.map qI) (P.ap.map az) (ds.map Dr.v)→ds.map Dr.p=P.rules.zipIdx (ahead P + 1)→C):C:=by
  refine BW (a:=none) (b:=none) (c:=none) h.cs h.rl (Nat.le_trans h.rn (by decide)) hp R fun a1 b1 c1 H1 p1 ds q1 rd R1 P1=>?_
  by_cases ht:P.tail=[]
  · have hL:L.length=ahead P + P.rules.length:=by rw[hLL,h2 ht,List.append_nil,zJ,Hy P ht]
    exact K H1 _ ds (zb R1 (q1.trans (Ka R1 hL.symm a1 b1 c1))) (ht.symm▸R1) rd
  · have hrows:iI P=[[37,37]]:=by unfold iI; rw[if_neg ht]
    rw[hrows] at P1
    have q:=Pos.step (r:=[37,37]) P1
    obtain⟨M,H2,q2,R2⟩:=IR (tail:=P.tail) R1 q.1 q.2.1 a1 b1 c1
    exact K H2 _ ds (zb R2 (q1.trans q2)) R2 rd
theorem F3 {f:EF}{k:Nat}{M:Loc}{H H1:Hp}{l:List (List Nat × V)} (h:f M H=some (.ref k,H1)) (h2:H1[k]? = some (.jo l)):iZ f M H=some (.jo l,H1.set k .dead):=by
  unfold iZ
  rw[h,Option.bind_some]
  unfold frozen
  dsimp only
  rw[h2]
theorem IC {P:Parts} (h:Wf P) {H:Hp}{s:Nat}{text:List Nat}{L L2:List V} (hp:Pos text L 0 [] (iH P) P.tail L2) (hLL:L=je 0 (iH P)++L2) (h2:P.tail=[]→L2=[]) (R:RS H s text L 0 true [] [] ([(eA,false)].map az) []):
    ∃ H',dM [.ref s] H=some (Jz P (fun n=>ahead P + 1 + n),H'):=by
  refine cps fun CC KK=>z8 h hp R fun H1 pre e1 R1 P1=>yF h P1 hLL h2 R1 fun H2 row ds e2 R2 rd=>?_
  obtain⟨H3,e3,R3⟩:=GP (IK (cs:=P.ap) rd h.rl) R2 (C1 rd▸Nat.le_trans h.rn (by decide))
  rw[E2 rd] at e3
  have w0:(H3.set (s + 2) .dead)[s]? = some _:=a6 R3.r0 (zP (j:=0) rfl)
  have w3:(H3.set (s + 2) .dead)[s + 3]? = some _:=a6 R3.r3 (zP rfl)
  have v0:((H3.set (s + 2) .dead).set (s + 3) .dead)[s]? = some _:=a6 w0 (zP (j:=0) rfl)
  refine KK ⟨(H3.set (s + 2) .dead).set (s + 3) .dead++[.dead],?_⟩
  unfold dM iL
  exact aq rfl rfl ((ac (bz (ao rfl (bg R.r0) rfl e1))).trans ((ac (bz (ao rfl (bg R1.r0) rfl e2))).trans ((ac (au (ao rfl (bg R2.r0) rfl e3) rfl)).trans (a8 (eu (ak (F3 (aF rfl R3.r0 rfl rfl) R3.r2) (ak (lq (aF rfl w0 rfl rfl) w3) (ak rfl (ak (aF rfl v0 rfl rfl) (ak (aF rfl v0 rfl rfl) rfl))))) Jq)))))
theorem vC {P:Parts} (h:Wf P) (H:Hp):∃ H',iK [.str (F5 P)] H=some (Jz P (fun n=>ahead P + 1 + n),H'):=by
  obtain⟨hl,_⟩:=zV h
  obtain⟨L2,e1,e2⟩:=Bf (H:=H++[.inst 5 [.str (dk (iH P)++P.tail)]]) (rest:=P.tail) (Fk h) (by omega)
  rw[Hj]
  obtain⟨H',e3⟩:=IC h (H:=H++[C6 H.length (dk (iH P)++P.tail) (je 0 (iH P)++L2) 0 true [], .dead, .jo [], .lst ([(eA,false)].map az), .lst [], .lst []]) (L2:=L2) ⟨rfl,rfl⟩ rfl e2 Er
  have e4:=Iu (H:=H) e1
  have e5:=(Er (H:=H) (text:=dk (iH P)++P.tail) (L:=je 0 (iH P)++L2)).r0
  refine⟨H',?_⟩
  unfold iK n8
  exact aq rfl rfl (a8 (ao (G2 rfl e4) (bg e5) rfl e3))
end Mine
end
section
namespace Mine
theorem wu (l:List (List Nat)):strsOf (l.map V.str)=some l:=by
  induction l with
  | nil=>rfl
  | cons x l ih=>exact congrArg (Option.map (x::·)) ih
theorem IM {b:Nat}{l:List (List Nat)} (h:∀ y∈l,y.length≤b):(l.map List.length).sum≤l.length * b:=by
  induction l with
  | nil=>exact Nat.zero_le _
  | cons y l ih=>
    rw[List.map_cons,List.sum_cons,List.length_cons,Nat.succ_mul,Nat.add_comm]
    exact Nat.add_le_add (ih fun y hy=>h y (List.mem_cons_of_mem _ hy)) (h y List.mem_cons_self)
theorem D6 {sep:List Nat}{l:List (List Nat)}{b m:Nat} (h:∀ y∈l,y.length≤b) (hm:l.length≤m) (hb:m * b + m * sep.length≤1000000):(if (l.map List.length).sum + l.length * sep.length≤1048576 then some (V.str (cB sep l)) else none)=some (.str (cB sep l)):=
  if_pos (Nat.le_trans (Nat.add_le_add (Nat.le_trans (IM h) (Nat.mul_le_mul_right _ hm)) (Nat.mul_le_mul_right _ hm)) (Nat.le_trans hb (Nat.le_of_ble_eq_true rfl)))
theorem qO {sep:List Nat}{l:List (List Nat)}{b m:Nat} (h:∀ y∈l,y.length≤b) (hm:l.length≤m) (hb:m * b + m * sep.length≤1000000) (H:Hp):ka sep [.lst (l.map V.str)] H=some (.str (cB sep l)):=by
  have e:ka sep [.lst (l.map V.str)] H=(strsOf (l.map V.str)).bind fun t=>if (t.map List.length).sum + t.length * sep.length≤1048576 then some (.str (cB sep t)) else none:=rfl
  rw[e,wu,Option.bind_some,D6 h hm hb]
theorem Fi {sep:List Nat}{l:List (List Nat)}{b m j:Nat}{H:Hp} (hj:H[j]? = some (.lst (l.map V.str))) (h:∀ y∈l,y.length≤b) (hm:l.length≤m) (hb:m * b + m * sep.length≤1000000):ka sep [.ref j] H=some (.str (cB sep l)):=by
  have e:ka sep [.ref j] H=(cw (.ref j) H).bind fun l=>(strsOf l).bind fun t=>if (t.map List.length).sum + t.length * sep.length≤1048576 then some (.str (cB sep t)) else none:=rfl
  rw[e,eE.mpr hj,Option.bind_some,wu,Option.bind_some,D6 h hm hb]
theorem comp_map {α:Type}{sel:List (Option Nat)}{it:IF}{a:AF}{t:TF}{f:EF}{M N:Loc}{H:Hp} (I:Loc→Prop) (emb g:α→V) (tv:α→Bool) (xs:List α) (h1:it M H=some (xs.map emb,H)) (h2:gL sel M=true) (h3:inner sel M=N) (hI:I N) (hl:xs.length≤1000)
    (h:∀ M x,I M→x∈xs→∃ M',a (emb x) M H=some (M',H)∧I M'∧t M' H=some (tv x,H)∧(tv x=true→f M' H=some (g x,H))):
    em sel it a t f M H=some ((xs.filter tv).map g,H):=AD h1 h2 h3 (zk hI h) (by rw[List.length_map]; exact hl)
theorem dq {α:Type}{sel:List (Option Nat)}{it:IF}{a:AF}{t:TF}{f:EF}{M N:Loc}{H:Hp} (I:Loc→Prop) (emb g:α→V) (xs:List α) (h1:it M H=some (xs.map emb,H)) (h2:gL sel M=true) (h3:inner sel M=N) (hI:I N) (hl:xs.length≤1000)
    (h:∀ M x,I M→x∈xs→∃ M',a (emb x) M H=some (M',H)∧I M'∧t M' H=some (true,H)∧f M' H=some (g x,H)):
    em sel it a t f M H=some (xs.map g,H):=by
  have:=comp_map I emb g (fun _=>true) xs h1 h2 h3 hI hl (fun M x hM hx=>by
    obtain⟨M',e1,e2,e3,e4⟩:=h M x hM hx
    exact⟨M',e1,e2,e3,fun _=>e4⟩)
  rw[this,List.filter_eq_self.mpr fun _ _=>rfl]
theorem B4 {α:Type}{a:AF}{b:SF}{j:Nat}{I:Loc→Prop}{J:Hp→Prop}{emb g:α→V} (hJ:∀ H H',J H→aV [j] H H'→J H') (xs:List α):∀ (M:Loc) (H:Hp) (acc:List V),I M→J H→H[j]? = some (.lst acc)→acc.length + xs.length≤1000→
    (∀ x∈xs,∀ M H acc,I M→J H→H[j]? = some (.lst acc)→acc.length < 1048576→∃ M1 M2 H2,a (emb x) M H=some (M1,H)∧b M1 H=some (.next,M2,H2)∧I M2∧H2[j]? = some (.lst (acc++[g x]))∧aV [j] H H2)→
    ∃ M' H',forL a b (xs.map emb) M H=some (.next,M',H')∧I M'∧J H'∧H'[j]? = some (.lst (acc++xs.map g))∧aV [j] H H':=by
  induction xs with
  | nil=>exact fun M H acc hI hJ0 hj _ _=>⟨M,H,rfl,hI,hJ0,hj.trans (congrArg (fun x=>some (Ob.lst x)) (List.append_nil acc).symm), .refl⟩
  | cons x xs ih=>
    intro M H acc hI hJ0 hj hl h
    obtain⟨M1,M2,H2,e1,e2,i2,j2,k2⟩:=h x List.mem_cons_self M H acc hI hJ0 hj (xZ (Nat.le_trans (Nat.le_add_right _ _) hl))
    obtain⟨M',H',q1,q2,q3,q4,q5⟩:=ih M2 H2 (acc++[g x]) i2 (hJ _ _ hJ0 k2) j2 (by rw[List.length_append,Nat.add_assoc,List.length_singleton,Nat.add_comm 1]; exact hl) fun x hx=>h x (List.mem_cons_of_mem _ hx)
    exact⟨M',H',(wt e1 e2).trans q1,q2,q3,q4.trans (congrArg (fun x=>some (Ob.lst x)) (List.append_assoc ..)),k2.trans q5⟩
theorem Be {i:Int}{H:Hp} (h:i.natAbs < 1000000∧(PySem.Str.ofString (toString i)).cps.size≤1048576):vStr (.int i) H=some (.str (digits i)):=by
  have e:vStr (.int i) H=if i.natAbs < 1000000∧(PySem.Str.ofString (toString i)).cps.size≤1048576 then some (.str (PySem.Str.ofString (toString i)).cps.toList) else none:=rfl
  rw[e,if_pos h]
  rfl
theorem add_str {a b:List Nat} (h:(a++b).length≤1000) (H:Hp):br (.str a) (.str b) H=some (.str (a++b)):=if_pos (List.length_append (as:=a) (bs:=b)▸D8 h)
theorem nX {w x:List Nat}{v:V}{H:Hp} (h:(w++32::x).length≤14) (h1:uu v .none H=some false) (h2:vStr v H=some (.str x)):dJ [.inst 1 [.str w,v]] H=some (.str (w++32::x),H):=by
  unfold dJ jM
  have e:w++32::x=(w++[32])++x:=by rw[List.append_assoc]; rfl
  rw[e] at h ⊢
  exact aq rfl rfl ((ac ((if_false (ai (a:=v) (ay rfl rfl) rfl h1)).trans rfl)).trans (a8 (ag (ag (a := .str w) (ay rfl rfl) rfl (add_str (Nat.le_trans (List.length_append (as:=w++[32]) (bs:=x)▸Nat.le_add_right _ _) (Nat.le_trans h (by decide))) H)) (ay (a:=v) (ay rfl rfl) h2) (add_str (Nat.le_trans h (by decide)) H))))
theorem Jf {names:List (List Nat)} (hn:∀ n∈names,n.length≤7) {s:oP} (h:eY names s.1 s.2) (H:Hp):dJ [mz s] H=some (.str (oX s),H):=by
  have hl:=ua hn h
  obtain⟨w,v⟩:=s
  cases h with
  | plain hw=>
    show dJ [.inst 1 [.str w, .none]] H=some (.str w,H)
    unfold dJ jM
    exact aq rfl rfl (fF ((if_true (ai (a := .none) (ay rfl rfl) rfl rfl)).trans (a8 (ay rfl rfl))))
  | kind=>exact nX hl rfl rfl
  | quote=>exact nX hl rfl rfl
  | begin hm=>exact nX hl rfl rfl
  | push hm=>exact nX hl rfl rfl
  | @less i hi'=>exact nX hl rfl (Be ((show ∀ i∈[12,13,14],Int.natAbs i < 1000000∧(PySem.Str.ofString (toString i)).cps.size≤1048576 by decide +kernel) i hi'))
theorem yS {names:List (List Nat)} (hn:∀ n∈names,n.length≤7) {l:List oP} (h:∀ s∈l,eY names s.1 s.2) (hl:l.length≤3) (H:Hp):jZ [.lst (l.map mz)] H=some (.str (cP l),H):=by
  have hc:=dq (sel:=[none,none]) (it:=lY) (a:=l9) (t:=me) (f:=lZ) (M:=[some (.lst (l.map mz))]) (N:=[none,none]) (H:=H) (fun M=>∃ x,M=[none,x]) mz (fun s => .str (oX s)) l rfl rfl rfl ⟨none,rfl⟩ (Nat.le_trans hl (by decide)) (by
      rintro _ s ⟨x,rfl⟩ hs
      exact⟨[none,some (mz s)],rfl,⟨_,rfl⟩,rfl,ao rfl rfl rfl (Jf hn (h s hs) H)⟩)
  have hj:=qO (sep:=[59,32]) (l:=l.map oX) (b:=14) (m:=3) (fun y hy=>by
    obtain⟨s,hs,rfl⟩:=List.mem_map.mp hy
    exact ua hn (h s hs)) (by rw[List.length_map]; exact hl) (by decide) H
  rw[List.map_map] at hj
  unfold jZ qc
  exact aq rfl rfl (a8 (lO rfl (ak (cy hc) rfl) hj))
end Mine
end
section
namespace Mine
noncomputable abbrev gN (dv:List (List Nat × V)) (cv rv:List V) (hd:Bool) (tl:List Nat):V := .inst 4 [.jo dv, .lst cv, .lst rv, .bool hd, .str tl]
theorem ji {H:Hp}{i:Nat}{cs:Cs} (hi:i < cs.length):aI (.lst (cs.map az)) (.int (i:Int)) H=some (az cs[i]):=by
  show wa (cs.map az) (i:Int)=_
  unfold wa
  rw[if_pos (Int.natCast_nonneg _),Int.toNat_natCast,List.getElem?_map,List.getElem?_eq_getElem hi]
  rfl
theorem sf {α:Type}{f:α→V}{l:List α}{H:Hp}:cL (.lst (l.map f)) H=some (.int (l.length:Nat)):=congrArg (fun n:Nat=>some (V.int (n:Int))) (List.length_map ..)
theorem Ci {H:Hp}{cs:Cs}{dv:List (List Nat × V)}{rv:List V}{hd:Bool}{tl:List Nat} (hl:cs.length≤1000):bm [gN dv (cs.map az) rv hd tl] H=some (.tup (aH (cV cs)),H):=by
  unfold bm ez
  refine aq rfl rfl (a8 (ay (a := .lst (aH (cV cs))) (cy ?_) rfl))
  refine comp_map (N:=[none,none,some (gN dv (cs.map az) rv hd tl)]) (fun M=>∃ x,M=[none,x,some (gN dv (cs.map az) rv hd tl)]) (fun i:Nat=>V.int (i:Int)) (fun i:Nat=>V.int (i:Int)) (fun i=>!iq cs i) (List.range cs.length) (oL (ak (ay (a := .lst (cs.map az)) (ay rfl rfl) sf) rfl) hl) rfl rfl ⟨none,rfl⟩ (List.length_range.symm▸hl) ?_
  rintro _ i ⟨x,rfl⟩ hi
  refine⟨[none,some (.int (i:Int)),some (gN dv (cs.map az) rv hd tl)],rfl,⟨_,rfl⟩,?_,fun _=>rfl⟩
  rw[uh (List.mem_range.mp hi)]
  exact dg (aU (ag (a:=az (cs[i]'(List.mem_range.mp hi))) (ag (a := .lst (cs.map az)) (ay rfl rfl) rfl (ji (List.mem_range.mp hi))) rfl rfl) rfl)
theorem up {x y:Nat}:((x:Int)==(y:Int))=(x==y):=Bool.eq_iff_iff.mpr (beq_iff_eq.trans (Int.ofNat_inj.trans beq_iff_eq.symm))
theorem y7 {n:Nat} (a:List Nat):∀ b:List Nat,qf (qA n) (aH a) (aH b)=some (a==b):=by
  induction a with
  | nil=>intro b; cases b <;> rfl
  | cons x a ih=>
    intro b
    cases b with
    | nil=>rfl
    | cons y b=>
      have e:qf (qA n) (aH (x::a)) (aH (y::b))=(qA n (.int (x:Int)) (.int (y:Int))).bind fun c=>(qf (qA n) (aH a) (aH b)).map (c&&·):=rfl
      have e3:qA n (.int (x:Int)) (.int (y:Int))=some ((x:Int)==(y:Int)):=by cases n <;> rfl
      rw[e,e3,ih,up]
      rfl
theorem Gn (a b:List Nat) (H:Hp):vEq (.tup (aH a)) (.tup (aH b)) H=some (a==b):=y7 a b
theorem sL {H:Hp}{cs:Cs}{live:List Nat}{dv:List (List Nat × V)}{rv:List V}{hd:Bool}{tl:List Nat}{b:Bool} (hc:cs.length≤4) (hn:∀ n∈cs.map (·.1),n.length≤7) (hlt:∀ i∈live,i < cs.length) (hll:live.length≤4):
    dW [gN dv (cs.map az) rv hd tl, .tup (aH live), .bool b] H=some (.str (if live=cV cs∧b=false then [] else tF cs live),H):=by
  have h1:=Ci (H:=H) (cs:=cs) (dv:=dv) (rv:=rv) (hd:=hd) (tl:=tl) (Nat.le_trans hc (by decide))
  have h2:=Gn live (cV cs) H
  have hcm:=dq (sel:=[none,none,some 0]) (it:=fC) (a:=fg) (t:=fw) (f:=ff) (M:=[some (gN dv (cs.map az) rv hd tl),some (.tup (aH live)),some (.bool b),none]) (N:=[none,none,some (gN dv (cs.map az) rv hd tl)]) (H:=H)
      (fun M=>∃ x,M=[none,x,some (gN dv (cs.map az) rv hd tl)]) (fun i:Nat=>V.int (i:Int)) (fun i:Nat=>V.str (dX (cs.map (·.1)) i)) live rfl rfl rfl ⟨none,rfl⟩ (Nat.le_trans hll (by decide)) (by
      rintro _ i ⟨x,rfl⟩ hi
      refine⟨[none,some (.int (i:Int)),some (gN dv (cs.map az) rv hd tl)],rfl,⟨_,rfl⟩,rfl,?_⟩
      rw[pS (i:=i) (x:=(cs[i]'(hlt i hi)).1) (by rw[List.getElem?_map,List.getElem?_eq_getElem (hlt i hi)]; rfl)]
      exact ag (a:=az (cs[i]'(hlt i hi))) (ag (a := .lst (cs.map az)) (ay rfl rfl) rfl (ji (hlt i hi))) rfl rfl)
  have hq:=tg hn hlt hll
  have hj:=qO (sep:=[44]) (b:=7) (m:=4) hq.2.1 hq.1 (by decide) H
  have hjn:=Nat.le_trans hq.2.2 (show 32≤100 by decide)
  rw[List.map_map] at hj
  have hle:vEq (.int (aH live).length) (.int (cs.map az).length) H=some (live.length==cs.length):=by
    rw[List.length_map,List.length_map]
    exact congrArg some up
  unfold dW kn tF
  generalize cB [44] (live.map (dX (cs.map (·.1))))=J at hj hjn ⊢
  have t2:(aG vEq (aW cL (aa 1)) (aW cL (aW (am aP) (aa 0)))) [some (gN dv (cs.map az) rv hd tl),some (.tup (aH live)),some (.bool b),none] H=some (live.length==cs.length,H):=ai (ay (a := .tup (aH live)) rfl rfl) (ay (a := .lst (cs.map az)) (ay rfl rfl) rfl) hle
  have last:((al (cK (aG vEq (aW cL (aa 1)) (aW cL (aW (am aP) (aa 0)))) (bw (ab (.str [60,42,62]))) bj) (bw (av br (av br (ab (.str [60])) (tf ka (ab (.str [44])) (ae (c6 [none,none,some 0] fC fg fw ff) aj))) (ab (.str [62])))))) [some (gN dv (cs.map az) rv hd tl),some (.tup (aH live)),some (.bool b),none] H=some (.ret (.str (if live.length=cs.length then [60,42,62] else 60::(J++[62]))),[some (gN dv (cs.map az) rv hd tl),some (.tup (aH live)),some (.bool b),none],H):=by
    by_cases hq:live.length=cs.length
    · rw[beq_iff_eq.mpr hq] at t2
      rw[if_pos hq]
      exact fF ((if_true t2).trans (a8 rfl))
    · rw[beq_eq_false_iff_ne.mpr hq] at t2
      rw[if_neg hq]
      exact(ac ((if_false t2).trans rfl)).trans (a8 (ag (ag rfl (lO rfl (ak (cy hcm) rfl) hj) (add_str (Nat.le_trans (Nat.succ_le_succ hjn) (by decide)) H)) rfl (add_str (a:=[60]++J) (b:=[62]) (by rw[List.length_append]; exact Nat.le_trans (Nat.succ_le_succ (Nat.succ_le_succ hjn)) (by decide)) H)))
  have t1:(kM (aG vEq (aa 1) (aJ [(4,bm)] (aa 0) aj)) (iF (cb (aa 2)))) [some (gN dv (cs.map az) rv hd tl),some (.tup (aH live)),some (.bool b),none] H=some ((live==cV cs)&&!b,H):=
    cQ (ai rfl (ao rfl rfl rfl h1) h2) (fun _=>dg (aU rfl rfl)) (fun _=>rfl)
  by_cases hp:live=cV cs∧b=false
  · rw[hp.2,beq_iff_eq.mpr hp.1] at t1
    rw[if_pos hp,hp.2]
    exact aq rfl rfl (fF ((if_true t1).trans (a8 rfl)))
  · have hb:((live==cV cs)&&!b)=false:=by
      cases b with
      | true=>exact Bool.and_false _
      | false=>rw[beq_eq_false_iff_ne.mpr fun h=>hp ⟨h,rfl⟩]; rfl
    rw[hb] at t1
    rw[if_neg hp]
    exact aq rfl rfl ((ac ((if_false t1).trans rfl)).trans last)
end Mine
end
section
namespace Mine
theorem G9 {f g:EF}{M:Loc}{H H1:Hp}{v:V} (h:f M H=some (v,H1)) (h2:truth v H1=some true):Io f g M H=some (v,H1):=by
  unfold Io
  rw[h,Option.bind_some]
  dsimp only
  rw[h2]
  rfl
noncomputable def yU (raw:Option (List Nat)):List Nat:=raw.getD []
theorem w4 {a b:List Nat}{H:Hp} (h:a.length + b.length≤100000):br (.str a) (.str b) H=some (.str (a++b)):=by
  have e:br (.str a) (.str b) H=if a.length + b.length≤1048576 then some (.str (a++b)) else none:=rfl
  rw[e,if_pos (by omega)]
theorem A0 {H:Hp}{cs:Cs}{r:Rl}{dv:List (List Nat × V)}{rv:List V}{hd:Bool}{tl:List Nat}{n line:Nat} (hc:vK cs) (hn:∀ n∈cs.map (·.1),n.length≤7) (hr:qg cs r):
    oH [gN dv (cs.map az) rv hd tl,bo n r.live r.raw r.steps line, .str (yU r.raw)] H=some (.str (bL cs r),H):=by
  have hle:r.live.length≤4:=by
    have key:∀ l∈eN,l.length≤4:=by decide
    exact key _ hr.sub
  have h1:=fun H b=>sL (H:=H) (live:=r.live) (dv:=dv) (rv:=rv) (hd:=hd) (tl:=tl) (b:=b) hc.le hn hr.lt hle
  have h2:=fun H=>yS hn hr.HF.all hr.sl H
  have hlen:=wE hr hc hn
  unfold bL at hlen ⊢
  simp only[List.length_append,List.length_cons] at hlen
  have fin:∀ (x y:V) (H:Hp),dW [gN dv (cs.map az) rv hd tl, .tup (aH r.live),y] H=some (.str (headOf cs r.live r.raw),H)→x = .str (pD r.raw)→
      (bw (av br (av br (av br (pg dW (ae (aa 0) (ae (aW (am aP) (aa 1)) (ae (aa 3) aj)))) (aa 2)) (ab (.str [32]))) (pg jZ (ae (aW (am oD) (aa 1)) aj)))) [some (gN dv (cs.map az) rv hd tl),some (bo n r.live r.raw r.steps line),some x,some y,none,none,none,none] H=some (.ret (.str (headOf cs r.live r.raw++(pD r.raw++32::cP r.steps))),[some (gN dv (cs.map az) rv hd tl),some (bo n r.live r.raw r.steps line),some x,some y,none,none,none,none],H):=by
    intro x y H e ex
    subst ex
    have e2:headOf cs r.live r.raw++(pD r.raw++32::cP r.steps)=((headOf cs r.live r.raw++pD r.raw)++[32])++cP r.steps:=by simp
    rw[e2]
    refine a8 (ag (ag (ag (dL (ak rfl (ak (ay rfl rfl) (ak rfl rfl))) e) rfl (w4 (by omega))) rfl (w4 (by simp; omega))) (dL (ak (ay rfl rfl) rfl) (h2 H)) (w4 (by simp; omega)))
  have q0:(af (ab (.bool false)) (aw 3)) [some (gN dv (cs.map az) rv hd tl),some (bo n r.live r.raw r.steps line),some (.str (yU r.raw)),none,none,none,none,none] H=some (.next,[some (gN dv (cs.map az) rv hd tl),some (bo n r.live r.raw r.steps line),some (.str (yU r.raw)),some (.bool false),none,none,none,none],H):=au rfl rfl
  unfold oH rG
  cases e:r.raw with
  | none=>
    rw[e] at q0 fin
    have q1:(aG uu (aW (am gU) (aa 1)) (ab .none)) [some (gN dv (cs.map az) rv hd tl),some (bo n r.live none r.steps line),some (.str (yU none)),some (.bool false),none,none,none,none] H=some (true,H):=ai (ay rfl rfl) rfl rfl
    have q2:(af (ab il) (aw 2)) [some (gN dv (cs.map az) rv hd tl),some (bo n r.live none r.steps line),some (.str (yU none)),some (.bool false),none,none,none,none] H=some (.next,[some (gN dv (cs.map az) rv hd tl),some (bo n r.live none r.steps line),some (.str (pD none)),some (.bool false),none,none,none,none],H):=au rfl rfl
    exact aq rfl rfl ((ac q0).trans ((ac ((if_true q1).trans q2)).trans (fin _ _ H (h1 H false) rfl)))
  | some x=>
    rw[e] at q0 fin
    have q1:(aG uu (aW (am gU) (aa 1)) (ab .none)) [some (gN dv (cs.map az) rv hd tl),some (bo n r.live (some x) r.steps line),some (.str x),some (.bool false),none,none,none,none] H=some (false,H):=ai (ay rfl rfl) rfl rfl
    have q2:(Io (tf lm (aa 2) (ae (ab (.str [60])) aj)) (tf lm (aa 2) (ae (ab us) aj))) [some (gN dv (cs.map az) rv hd tl),some (bo n r.live (some x) r.steps line),some (.str x),some (.bool false),none,none,none,none] H=some (.bool (told (some x)),H):=by
      have z3:told (some x)=((x.take 1==[60])||(x.take 2==[47,47])):=rfl
      rw[z3]
      cases h1:x.take 1==[60] with
      | true=>exact G9 (lO rfl rfl (congrArg (fun b=>some (V.bool b)) h1)) rfl
      | false=>exact zm (v := .bool false) (lO rfl rfl (congrArg (fun b=>some (V.bool b)) h1)) rfl (lO rfl rfl rfl)
    exact aq rfl rfl ((ac q0).trans ((ac ((if_false q1).trans (au q2 rfl))).trans (fin _ _ H (h1 H _) rfl)))
end Mine
end
section
namespace Mine
theorem vi {f:EF}{M:Loc}{H:Hp}{x:V}{l:List V} (h:f M H=some (.lst (x::l),H)):d9 f (eO (ab (.int 1))) pM M H=some (.lst l,H):=by
  unfold d9
  rw[h,Option.bind_some]
  show some (V.lst (jy (some 1) none (x::l)),H)=_
  unfold jy
  simp
theorem eW {α:Type}{a b:List α}{n:Nat} (h:(a++b).length≤n):a.length≤n:=Nat.le_trans (Nat.le_add_right _ _) (List.length_append (as:=a) (bs:=b)▸h)
theorem adds {a b:List Nat}{n:Nat} (h:(a++b).length≤n) (hn:n≤1048576) (H:Hp):br (.str a) (.str b) H=some (.str (a++b)):=if_pos (List.length_append (as:=a) (bs:=b)▸Nat.le_trans h hn)
theorem B8 {t:TF}{f:EF}{M:Loc}{H:Hp}{x:List Nat × Bool} (ht:t M H=some (x.2,H)) (hf:f M H=some (.str x.1,H)) (hl:(gH x).length≤95):(av br (th t (ab (.str [37,120,32])) (ab (.str [37,115,32]))) f) M H=some (.str (gH x),H):=by
  obtain⟨xn,xb⟩:=x
  cases xb with
  | true=>exact ag (ite_true ht rfl) hf (adds (a:=[37,120,32]) (b:=xn) hl (by decide) H)
  | false=>exact ag (ite_false ht rfl) hf (adds (a:=[37,115,32]) (b:=xn) hl (by decide) H)
theorem Eo {f g:EF}{M:Loc}{H:Hp}{x:List Nat × List Nat} (hf:f M H=some (.str x.1,H)) (hg:g M H=some (.str x.2,H)) (hl:(iC x).length≤95):(av br (av br f (ab (.str [32]))) g) M H=some (.str (iC x),H):=by
  have e:iC x=(x.1++[32])++x.2:=(List.append_assoc x.1 [32] x.2).symm
  rw[e] at hl ⊢
  exact ag (ag hf rfl (adds (eW hl) (by decide) H)) hg (adds hl (by decide) H)
theorem Hi {α β:Type} (l:List α) (f:α→β) (g:Nat→β) (hg:∀ i (h:i < l.length),g i=f l[i]):l.map f=(List.range l.length).map g:=by
  apply List.ext_getElem
  · simp
  · intro i h1 h2
    rw[List.length_map] at h1
    simp[hg i h1]
theorem we {α:Type}{a:AF}{b:SF}{j:Nat}{I:Loc→Prop}{J:Hp→Prop}{emb:α→V}{row:α→List Nat}{xs:List α} (hJ:∀ H H',J H→aV [j] H H'→J H')
    (step:∀ x∈xs,∀ M H acc,I M→J H→H[j]? = some (.lst acc)→acc.length < 1048576→∃ M1,a (emb x) M H=some (M1,H)∧∃ M2,b M1 H=some (.next,M2,H.set j (.lst (acc++[.str (row x)])))∧I M2)
    {A:List (List Nat)}{M:Loc}{H:Hp} (hI:I M) (hJ0:J H) (hj:H[j]? = some (.lst (A.map V.str))) (hl:(A++xs.map row).length≤1000) {C:Prop}
    (K:∀ M' H',forL a b (xs.map emb) M H=some (.next,M',H')→I M'→J H'→H'[j]? = some (.lst ((A++xs.map row).map V.str))→C):C:=by
  refine(B4 (g:=fun x=>V.str (row x)) hJ xs M H (A.map V.str) hI hJ0 hj (by rw[List.length_append,List.length_map] at hl; rw[List.length_map]; exact hl) fun x hx M H acc hM hH q hl=>(step x hx M H acc hM hH q hl).elim fun M1 h=>h.2.elim fun M2 h2=>⟨M1,M2,_,h.1,h2.1,h2.2,b7 q,aV.set in1⟩).elim fun M' q=>q.elim fun H' q=>K M' H' q.1 q.2.1 q.2.2.1 (q.2.2.2.1.trans ?_)
  rw[List.map_append,List.map_map]
  rfl
theorem join_rows:∀ {rows:List (List Nat)},rows≠[]→cB [10] rows++[10]=dk rows
  | [r],_=>by simp[cB,dk]
  | r::r'::rows,_=>by
    have ih:=join_rows (rows:=r'::rows) (by simp)
    unfold cB
    have e:dk (r::r'::rows)=r++10::dk (r'::rows):=by simp[dk]
    rw[e,← ih]
    simp
section
variable {P:Parts}{lf:Nat→Nat}
noncomputable abbrev Eh (file:V) (d j:Nat) (pt:V) (a b c e:Option V):Loc:=[some file,some (.ref d),some pt,some (.ref j),a,b,c,e,none,none]
noncomputable def uD (d:List Nat × List Nat):List Nat × V:=(d.1, .str d.2)
noncomputable def lK (P:Parts):V := .lst (P.rules.map fun r => .str (yU r.raw))
noncomputable abbrev bu (P:Parts) (lf:Nat→Nat):V:=gN (P.defs.map qI) (P.ap.map az) (fG lf 0 P.rules) P.dj P.tail
theorem tX {α:Type}{f:α→List Nat}{g:α→V}:∀ {l:List α}{x:α},(l.map f).Nodup→x∈l→o9 (l.map fun x=>(f x,g x)) (f x)=some (g x)
  | y::l,x,hn,hx=>by
    rw[List.map_cons,List.nodup_cons] at hn
    unfold o9
    rw[List.map_cons,List.find?_cons]
    rcases List.mem_cons.mp hx with rfl | hx
    · simp
    · have hne:(f y==f x)=false:=by
        rw[beq_eq_false_iff_ne]
        intro e
        exact hn.1 (e▸List.mem_map_of_mem hx)
      simp only[hne]
      exact tX hn.2 hx
theorem uy {l:List (List Nat × V)} (h:∀ e∈l,e.1.length≤1000):drawn (.jo l)=some (l.map fun e => .str e.1):=by
  have e:drawn (.jo l)=if l.all (fun e=>e.1.length≤1048576) then some (l.map fun e => .str e.1) else none:=rfl
  rw[e,if_pos]
  rw[List.all_eq_true]
  intro x hx
  have:=h x hx
  simp; omega
theorem qo (h:Wf P):∀ r∈cS P,r.length≤95:=by
  intro r hr
  refine Cr h r ?_
  unfold cS vh at hr
  unfold iH
  simp only[List.mem_append,List.mem_cons] at hr ⊢
  exact hr.elim (fun hr=>hr.elim .inl fun hr=>hr.elim (fun hr => .inr (.inl hr)) fun hr => .inr (.inr (.inl hr))) fun hr=>hr.elim (fun hr => .inr (.inr (.inr (.inl hr)))) fun hr => .inr (.inr (.inr (.inr (.inl hr))))
noncomputable abbrev Ep (P:Parts):List (List Nat):=P.more.map gH
noncomputable abbrev ym (P:Parts):List (List Nat):=Ep P++(if P.dj then [] else [kS])
noncomputable abbrev BA (P:Parts):List (List Nat):=ym P++P.defs.map iC
noncomputable abbrev tN (P:Parts):List (List Nat):=BA P++[[37,37]]
theorem tJ (P:Parts):cS P=tN P++P.rules.map (bL P.ap):=by unfold cS vh; simp only[List.append_assoc,List.singleton_append]
theorem oV (h:Wf P):(tN P++P.rules.map (bL P.ap)).length≤11:=by
  have hrc:=(zV h).2
  have e:iH P=(tN P++P.rules.map (bL P.ap))++iI P:=by unfold iH; simp only[List.append_assoc,List.singleton_append,List.cons_append,List.nil_append]
  exact eW (e▸hrc)
theorem Hv {α:Type}{l:List α} (h:l.length≤11):l.length≤1000:=Nat.le_trans h (by decide)
theorem EL (h:Wf P) {x:List Nat × Bool} (hx:x∈P.more):(gH x).length≤95:=qo h _ (List.mem_append_left _ (List.mem_append_left _ (List.mem_map_of_mem hx)))
theorem HB (h:Wf P) {x:List Nat × List Nat} (hx:x∈P.defs):(iC x).length≤95:=qo h _ (List.mem_append_left _ (List.mem_append_right _ (List.mem_append_right _ (List.mem_map_of_mem hx))))
noncomputable def rowOf (P:Parts) (i:Nat):List Nat:=match P.rules[i]? with | some r=>bL P.ap r | none=>[]
theorem Cf {i:Nat} (h:i < P.rules.length):rowOf P i=bL P.ap P.rules[i]:=by unfold rowOf; rw[List.getElem?_eq_getElem h]
theorem GZ (h:Wf P):(F5 P).length≤2000:=(Hj P).symm▸(zV h).1
theorem BY (h:Wf P):(cB [10] (cS P)++[10]).length≤2000:=by
  have e:cB [10] (cS P)++[10]=dk (cS P):=join_rows (by unfold cS; exact List.append_ne_nil_of_right_ne_nil _ (List.cons_ne_nil _ _))
  exact e▸eW (GZ h)
theorem Bl:cB [10] (cS P)++[10]=dk (cS P):=join_rows (by unfold cS; exact List.append_ne_nil_of_right_ne_nil _ (List.cons_ne_nil _ _))
theorem Fn (h:Wf P) {f:EF}{M:Loc}{H:Hp}{j:Nat} (hf:f M H=some (.ref j,H)) (r:H[j]? = some (.lst ((cS P).map V.str))):(av br (tf ka (ab (.str [10])) (ae f aj)) (ab (.str [10]))) M H=some (.str (dk (cS P)),H):=
  ag (lO rfl (ak hf rfl) (Fi (sep:=[10]) (b:=95) (m:=11) r (qo h) (tJ P▸oV h) (by decide))) rfl ((adds (BY h) (by decide) H).trans (congrArg (fun x=>some (V.str x)) Bl))
section
variable {d j:Nat}{a b c e:Option V}{H:Hp}
theorem F9 (hj:H[j]? = some (.lst ((Ep P).map V.str))) (hl:(Ep P).length≤1000):∃ H2,(cK (iF (cb (aW (am cH) (aa 0)))) (cj (cu (aa 3) (ab (.str [37,111,112,116,105,111,110,32,110,111,100,101,102,97,117,108,116])))) bj) (Eh (bu P lf) d j (lK P) a b c e) H=some (.next,Eh (bu P lf) d j (lK P) a b c e,H2)∧aV [j] H H2∧H2[j]? = some (.lst ((ym P).map V.str)):=by
  have et:(iF (cb (aW (am cH) (aa 0)))) (Eh (bu P lf) d j (lK P) a b c e) H=some (!P.dj,H):=dg (aU (ay rfl rfl) rfl)
  unfold ym
  cases hb:P.dj with
  | true=>
    rw[hb] at et
    exact⟨H,(if_false et).trans rfl, .refl,(List.append_nil (Ep P)).symm▸hj⟩
  | false=>
    rw[hb] at et
    refine⟨_,(if_true et).trans (bz (cA rfl hj rfl hj (by rw[List.length_map]; exact Nat.lt_of_le_of_lt hl (by decide)))),aV.set in1,(b7 hj).trans ?_⟩
    rw[List.map_append]
    rfl
theorem FH (h:Wf P) {i:Nat} (hi:i < P.rules.length) {acc:List V} (hj:H[j]? = some (.lst acc)) (hl:acc.length < 1048576):jO (Eh (bu P lf) d j (lK P) a b (some (kO P.rules lf i)) e) H=some (.next,Eh (bu P lf) d j (lK P) a b (some (kO P.rules lf i)) e,H.set j (.lst (acc++[.str (rowOf P i)]))):=by
  rw[jh hi,Cf hi]
  refine bz (cA rfl hj (dL (ak rfl (ak rfl (ak (ag (a:=lK P) (b := .int (i:Int)) rfl (ay rfl rfl) ?_) rfl))) (A0 h.cs h.nl (h.rl P.rules[i] (List.getElem_mem hi)))) hj hl)
  show wa (P.rules.map fun r=>V.str (yU r.raw)) (i:Int)=_
  unfold wa
  rw[if_pos (Int.natCast_nonneg _),Int.toNat_natCast,List.getElem?_map,List.getElem?_eq_getElem hi]
  rfl
theorem ET (h:Wf P):(cK (aG mK (aW (am ma) (aa 0)) (ab (.str []))) (af (av br (av br (av br (aa 7) (ab nV)) (ab (.str [10]))) (aW (am ma) (aa 0))) (aw 7)) bj) (Eh (bu P lf) d j (lK P) a b c (some (.str (dk (cS P))))) H=some (.next,Eh (bu P lf) d j (lK P) a b c (some (.str (F5 P))),H):=by
  have et:(aG mK (aW (am ma) (aa 0)) (ab (.str []))) (Eh (bu P lf) d j (lK P) a b c (some (.str (dk (cS P))))) H=some (!(P.tail==[]),H):=ai (ay rfl rfl) rfl rfl
  have hd:=GZ h
  unfold F5 at hd ⊢
  by_cases ht:P.tail=[]
  · rw[beq_iff_eq.mpr ht] at et
    rw[if_pos ht,List.append_nil]
    exact(if_false et).trans rfl
  · rw[beq_eq_false_iff_ne.mpr ht] at et
    rw[if_neg ht] at hd ⊢
    have ed:dk (cS P)++([37,37,10]++P.tail)=((dk (cS P)++[37,37])++[10])++P.tail:=by rw[List.append_assoc,List.append_assoc]; rfl
    rw[ed] at hd ⊢
    exact(if_true et).trans (au (ag (ag (ag rfl rfl (adds (eW (eW hd)) (by decide) H)) rfl (adds (eW hd) (by decide) H)) (ay rfl rfl) (adds hd (by decide) H)) rfl)
end
theorem wy (P:Parts):P.rules.map (bL P.ap)=(List.range P.rules.length).map (rowOf P):=Hi _ _ _ fun i hi=>Cf hi
theorem Gz (h:Wf P) {d:Nat}{H:Hp} (hd:H[d]? = some (.jo (P.defs.map uD))) {x:List Nat × List Nat} (hx:x∈P.defs):aI (.ref d) (.str x.1) H=some (.str x.2):=by
  have e:aI (.ref d) (.str x.1) H=(qt (.ref d) H).bind fun l=>o9 l x.1:=rfl
  rw[e,zd.mpr hd,Option.bind_some]
  exact tX (f:=fun d:List Nat × List Nat=>d.1) (g:=fun d=>V.str d.2) h.dd hx
theorem AU (h:Wf P) {H:Hp}{d:Nat} (hd:H[d]? = some (.jo (P.defs.map uD))):∃ H',oT [bu P lf, .ref d,lK P] H=some (.str (F5 P),H'):=by
  refine cps fun C k=>?_
  have hJ:∀ H1 H2:Hp,H1[d]? = some (.jo (P.defs.map uD))→aV [H.length] H1 H2→H2[d]? = some (.jo (P.defs.map uD)):=fun H1 H2 q k=>k.at q (pn (Nat.ne_of_lt (gW hd)))
  have hl:=oV h
  refine we (a:=nw) (b:=nz) (I:=fun M=>∃ a b c e,M=Eh (bu P lf) d H.length (lK P) a b c e) (emb:=az) (row:=gH) (xs:=P.more) (A:=[]) (H:=H++[.lst []]) hJ (fun x hx M Hx acc hM Jx hj hl=>by
    obtain⟨a,b,c,e,rfl⟩:=hM
    exact⟨_,rfl,_,bz (cA rfl hj (B8 (aU (v := .bool x.2) rfl rfl) rfl (EL h hx)) hj hl),_,_,_,_,rfl⟩) ⟨none,none,none,none,rfl⟩ (dh hd) eV (Hv (eW (eW (eW (eW hl))))) fun M1 H1 q1 hM1 J1 r1=>?_
  obtain⟨a1,b1,c1,e1,rfl⟩:=hM1
  obtain⟨H2,q2,k2,r2⟩:=F9 (lf:=lf) (d:=d) (a:=a1) (b:=b1) (c:=c1) (e:=e1) r1 (Hv (eW (eW (eW (eW hl)))))
  refine we (a:=m8) (b:=mX) (I:=fun M=>∃ a b c e,M=Eh (bu P lf) d H.length (lK P) a b c e) (emb:=fun d:List Nat × List Nat=>V.str d.1) (row:=iC) (xs:=P.defs) hJ (fun x hx M Hx acc hM Jx hj hl=>by
    obtain⟨a,b,c,e,rfl⟩:=hM
    exact⟨_,rfl,_,bz (cA rfl hj (Eo rfl (ag rfl rfl (Gz h Jx hx)) (HB h hx)) hj hl),_,_,_,_,rfl⟩) ⟨a1,b1,c1,e1,rfl⟩ (hJ _ _ J1 k2) r2 (Hv (eW (eW hl))) fun M3 H3 q3 hM3 J3 r3=>?_
  obtain⟨a3,b3,c3,e3,rfl⟩:=hM3
  have q4:(cj (cu (aa 3) (ab nV))) (Eh (bu P lf) d H.length (lK P) a3 b3 c3 e3) H3=some (.next,Eh (bu P lf) d H.length (lK P) a3 b3 c3 e3,H3.set H.length (.lst ((BA P).map V.str++[nV]))):=bz (cA rfl r3 rfl r3 (by rw[List.length_map]; exact Nat.lt_of_le_of_lt (eW (eW hl)) (by decide)))
  have r4:(H3.set H.length (.lst ((BA P).map V.str++[nV])))[H.length]? = some (.lst ((tN P).map V.str)):=(b7 r3).trans (congrArg (fun l=>some (Ob.lst l)) (List.map_append (l₁:=BA P) (l₂:=[[37,37]])).symm)
  refine we (a:=nU) (b:=jO) (I:=fun M=>∃ a b c e,M=Eh (bu P lf) d H.length (lK P) a b c e) (emb:=kO P.rules lf) (row:=rowOf P) (xs:=List.range P.rules.length) hJ (fun i hi M Hx acc hM Jx hj hl=>by
    obtain⟨a,b,c,e,rfl⟩:=hM
    exact⟨_,rfl,_,FH h (List.mem_range.mp hi) hj hl,_,_,_,_,rfl⟩) ⟨a3,b3,c3,e3,rfl⟩ (hJ _ _ J3 (aV.set in1)) r4 (Hv (wy P▸hl)) fun M5 H5 q5 hM5 J5 r5=>?_
  obtain⟨a5,b5,c5,e5,rfl⟩:=hM5
  rw[← wy,← tJ] at r5
  refine k ⟨H5,?_⟩
  unfold oT rp
  refine aq rfl rfl ((ac (M1:=Eh (bu P lf) d H.length (lK P) none none none none) (H1:=H++[.lst []]) rfl).trans ((ac (iY (it:=nE) (lv (vi (x:=az (eA,false)) (ay rfl rfl))) q1)).trans ((ac q2).trans ((ac (iY (it:=nW) (eU (ay rfl rfl) ?_) q3)).trans ((ac q4).trans ((ac (iY (it:=nR) (eU (v := .lst (fG lf 0 P.rules)) (ay rfl rfl) (congrArg some (gG P.rules))) q5)).trans ((ac (au (Fn h rfl r5) rfl)).trans ((ac (ET h)).trans (a8 rfl)))))))))
  show drawn (.jo (P.defs.map qI))=_
  rw[uy fun e he=>(List.mem_map.mp he).elim fun x hx=>hx.2▸Nat.le_trans (h.Lr x hx.1) (by decide),List.map_map]
  rfl
end
end Mine
end
section
namespace Mine
section
variable {P:Parts}{lf:Nat→Nat}
theorem zE {l:List (List Nat × V)}{x:List Nat}{v:V}{H:Hp} (h:o9 l x=some v):aI (.jo l) (.str x) H=some v:=by
  have e:aI (.jo l) (.str x) H=(some l).bind fun l=>o9 l x:=rfl
  rw[e,Option.bind_some,h]
theorem Ek (h:Wf P) {d:Nat}:∀ (todo done:List (List Nat × List Nat)) (H:Hp) (x:Option V),P.defs=done++todo→H[d]? = some (.jo (done.map uD))→
    ∃ x' H',forL ie ii (todo.map fun d=>V.str d.1) [some (bu P lf),some (.ref d),x,none,none] H=some (.next,[some (bu P lf),some (.ref d),x',none,none],H')∧H'[d]? = some (.jo (P.defs.map uD))
  | [],done,H,x,e,hd=>⟨x,H,rfl,by rw[e,List.append_nil]; exact hd⟩
  | y::todo,done,H,x,e,hd=>by
    have hdl:=h.dl
    have hmem:y∈P.defs:=by rw[e]; simp
    have hdd:=h.dd
    have hg:o9 (P.defs.map qI) y.1=some (mD y.2):=tX (f:=fun d:List Nat × List Nat=>d.1) (g:=fun d=>mD d.2) hdd hmem
    have hnone:o9 (done.map uD) y.1=none:=y1 (by
      rw[List.map_map]
      rw[e,List.map_append,List.map_cons] at hdd
      exact fun hm=>(List.nodup_append.mp hdd).2.2 _ hm _ List.mem_cons_self rfl)
    have hlen:(done.map uD).length < 1000000:=by
      have:=congrArg List.length e
      rw[List.length_append] at this
      rw[List.length_map]; omega
    obtain⟨x',H',q1,q2⟩:=Ek h todo (done++[y]) (H.set d (.jo (done.map uD++[uD y]))) (some (.str y.1)) (by rw[e]; simp) (by rw[b7 hd]; simp)
    refine⟨x',H',?_,q2⟩
    rw[List.map_cons]
    unfold forL
    have e1:ie (.str y.1) [some (bu P lf),some (.ref d),x,none,none] H=some ([some (bu P lf),some (.ref d),some (.str y.1),none,none],H):=rfl
    have e2:ii [some (bu P lf),some (.ref d),some (.str y.1),none,none] H=some (.next,[some (bu P lf),some (.ref d),some (.str y.1),none,none],H.set d (.jo (done.map uD++[uD y]))):=by
      refine au (ay (a:=mD y.2) (ag (ay rfl rfl) rfl (zE hg)) rfl) ?_
      show(putAt (.ref d) (.str y.1) (.str y.2) H).map (fun H'=>([some (bu P lf),some (.ref d),some (.str y.1),none,none],H'))=_
      have e3:putAt (.ref d) (.str y.1) (.str y.2) H=some (H.set d (.jo (done.map uD++[(y.1, .str y.2)]))):=by
        unfold putAt
        simp only[hd]
        rw[if_pos ⟨hlen,by rw[hnone]; rfl⟩]
      rw[e3]; rfl
    rw[e1,Option.bind_some]
    dsimp only
    rw[e2,Option.bind_some]
    exact q1
theorem qy (h:Wf P) (H:Hp):∃ H',iP [bu P lf] H=some (.str (F5 P),H'):=by
  have hrn:=h.rn
  obtain⟨x,H1,q1,d1⟩:=Ek (lf:=lf) h (d:=H.length) P.defs [] (H++[.jo []]) none rfl eV
  have i1:hX [some (bu P lf),some (.ref H.length),none,none,none] (H++[.jo []])=some (P.defs.map (fun d=>V.str d.1),H++[.jo []]):=by
    unfold hX
    refine eU (v := .jo (P.defs.map qI)) (ay rfl rfl) ?_
    rw[uy (fun e he=>by
      obtain⟨x,hx,rfl⟩:=List.mem_map.mp he
      have:=h.Lr x hx
      show x.1.length≤1000
      omega),List.map_map]
    rfl
  have c2:em [none,none] fE ia ib fD [some (bu P lf),some (.ref H.length),x,none,none] H1=some (P.rules.map (fun r => .str (yU r.raw)),H1):=by
    have:=dq (sel:=[none,none]) (it:=fE) (a:=ia) (t:=ib) (f:=fD) (M:=[some (bu P lf),some (.ref H.length),x,none,none]) (N:=[none,none]) (H:=H1) (fun M=>∃ x,M=[none,x]) (kO P.rules lf) (fun i=>match P.rules[i]? with | some r=>V.str (yU r.raw) | none => .none) (List.range P.rules.length)
      (by
        unfold fE
        refine eU (v := .lst (fG lf 0 P.rules)) (ay rfl rfl) ?_
        show some (fG lf 0 P.rules)=_
        rw[gG]) rfl rfl ⟨none,rfl⟩ (by rw[List.length_range]; omega) (by
      rintro _ i ⟨x,rfl⟩ hi
      have hi':i < P.rules.length:=List.mem_range.mp hi
      rw[jh hi',List.getElem?_eq_getElem hi']
      refine⟨[none,some (bo i P.rules[i].live P.rules[i].raw P.rules[i].steps (lf i))],rfl,⟨_,rfl⟩,rfl,?_⟩
      show fD [none,some (bo i P.rules[i].live P.rules[i].raw P.rules[i].steps (lf i))] H1=some (.str (yU P.rules[i].raw),H1)
      cases P.rules[i].raw with
      | none=>exact ite_true (ai (a := .none) (ay rfl rfl) rfl rfl) rfl
      | some r=>exact ite_false (ai (a:=mD r) (ay rfl rfl) rfl rfl) (ay (a:=mD r) (ay rfl rfl) rfl))
    rw[this]
    congr 2
    apply List.ext_getElem
    · simp
    · intro i h1 h2
      simp at h1
      simp[h1]
  obtain⟨H2,e2⟩:=AU (lf:=lf) h d1
  refine⟨H2,?_⟩
  unfold iP nG
  exact aq (M':=[some (bu P lf),some (.ref H.length),x,some (lK P),none]) rfl rfl ((ac (M1:=[some (bu P lf),some (.ref H.length),none,none,none]) (H1:=H++[.jo []]) rfl).trans ((ac (iY i1 q1)).trans ((ac (oJ c2)).trans (a8 (dL (ak rfl (ak rfl (ak rfl rfl))) e2)))))
noncomputable def fA (s:oP):V := .tup [.str s.1,s.2]
noncomputable def Ba (r:Rl):V := .tup [.tup (aH r.live),(match r.raw with | some x => .tup [.str [114,97,119], .str x] | none => .none), .tup (r.steps.map fA)]
noncomputable def EK (P:Parts):V := .tup [.tup (P.defs.map fun d => .tup [.str d.1, .tup [.str [114,97,119], .str d.2]]), .tup (P.ap.map az), .tup (P.rules.map Ba), .bool P.dj, .str P.tail]
theorem E8 {n line:Nat}{r:Rl} (hl:r.steps.length≤1000) (H:Hp):iy [bo n r.live r.raw r.steps line] H=some (Ba r,H):=by
  have hc:∀ x,em [none,none] fz fu fm fq [some (bo n r.live r.raw r.steps line),x,none] H=some (r.steps.map fA,H):=by
    intro x
    refine dq (sel:=[none,none]) (it:=fz) (a:=fu) (t:=fm) (f:=fq) (N:=[none,none]) (H:=H) (fun M=>∃ x,M=[none,x]) mz fA r.steps (eU (v := .lst (r.steps.map mz)) (ay rfl rfl) rfl) rfl rfl ⟨none,rfl⟩ hl ?_
    rintro _ s ⟨x,rfl⟩ hs
    refine⟨[none,some (mz s)],rfl,⟨_,rfl⟩,rfl,?_⟩
    exact ao (v:=mz s) rfl rfl rfl (aq rfl rfl (a8 (eJ (ak (ay rfl rfl) (ak (ay rfl rfl) rfl)) (by simp))))
  have hlast:∀ x,(bw (oTup (ae (aW (am aP) (aa 0)) (ae (aa 1) (ae (aW jE (c6 [none,none] fz fu fm fq)) aj))))) [some (bo n r.live r.raw r.steps line),some x,none] H=some (.ret (.tup [.tup (aH r.live),x, .tup (r.steps.map fA)]),[some (bo n r.live r.raw r.steps line),some x,none],H):=
    fun x=>a8 (eJ (ak (ay rfl rfl) (ak rfl (ak (ay (a := .lst (r.steps.map fA)) (cy (hc _)) rfl) rfl))) (by simp))
  unfold iy nB Ba
  cases e:r.raw with
  | none=>
    rw[e] at hlast
    exact aq rfl rfl ((ac (au (ite_true (ai (a := .none) (ay rfl rfl) rfl rfl) rfl) rfl)).trans (hlast _))
  | some y=>
    rw[e] at hlast
    exact aq rfl rfl ((ac (au (ite_false (ai (a:=mD y) (ay rfl rfl) rfl rfl) (ao (v:=mD y) (ay rfl rfl) rfl rfl (aq rfl rfl (a8 (eJ (ak rfl (ak (ay rfl rfl) rfl)) (by simp)))))) rfl)).trans (hlast _))
end
end Mine
end
section
namespace Mine
theorem uP {f:V→V→Option Bool}:∀ {l:List V},(∀ v∈l,f v v=some true)→qf f l l=some true
  | [],_=>rfl
  | v::l,h=>by
    unfold qf
    rw[h v List.mem_cons_self,uP fun v hv=>h v (List.mem_cons_of_mem _ hv)]
    rfl
theorem iR {n:Nat}{l:List V} (h:∀ v∈l,qA n v v=some true):qA (n + 1) (.tup l) (.tup l)=some true:=by
  have e:qA (n + 1) (.tup l) (.tup l)=qf (qA n) l l:=rfl
  rw[e]; exact uP h
theorem u5 {n:Nat}{x:List Nat}:qA n (.str x) (.str x)=some true:=by
  have e:qA n (.str x) (.str x)=some (x==x):=by cases n <;> rfl
  rw[e,beq_self_eq_true]
theorem Gi {n:Nat}{i:Int}:qA n (.int i) (.int i)=some true:=by
  have e:qA n (.int i) (.int i)=some (i==i):=by cases n <;> rfl
  rw[e,beq_self_eq_true]
theorem GO {n:Nat}{b:Bool}:qA n (.bool b) (.bool b)=some true:=by
  have e:qA n (.bool b) (.bool b)=some (b==b):=by cases n <;> rfl
  rw[e,beq_self_eq_true]
theorem HC {n:Nat}:qA n .none .none=some true:=by cases n <;> rfl
theorem uA {n:Nat}{names:List (List Nat)}{w:List Nat}{v:V} (h:eY names w v):qA n v v=some true:=by
  cases h <;> first | exact HC | exact u5 | exact Gi
theorem IT {P:Parts} (h:Wf P):qA 9 (EK P) (EK P)=some true:=by
  refine iR fun v hv=>?_
  simp only[List.mem_cons,List.not_mem_nil,or_false] at hv
  rcases hv with rfl | rfl | rfl | rfl | rfl
  · refine iR fun v hv=>?_
    obtain⟨d,hd,rfl⟩:=List.mem_map.mp hv
    refine iR fun v hv=>?_
    simp only[List.mem_cons,List.not_mem_nil,or_false] at hv
    rcases hv with rfl | rfl
    · exact u5
    · refine iR fun v hv=>?_
      simp only[List.mem_cons,List.not_mem_nil,or_false] at hv
      rcases hv with rfl | rfl <;> exact u5
  · refine iR fun v hv=>?_
    obtain⟨d,hd,rfl⟩:=List.mem_map.mp hv
    refine iR fun v hv=>?_
    simp only[List.mem_cons,List.not_mem_nil,or_false] at hv
    rcases hv with rfl | rfl
    · exact u5
    · exact GO
  · refine iR fun v hv=>?_
    obtain⟨r,hr,rfl⟩:=List.mem_map.mp hv
    refine iR fun v hv=>?_
    simp only[List.mem_cons,List.not_mem_nil,or_false] at hv
    rcases hv with rfl | rfl | rfl
    · refine iR fun v hv=>?_
      obtain⟨i,_,rfl⟩:=yY hv
      exact Gi
    · cases r.raw with
      | none=>exact HC
      | some x=>
        refine iR fun v hv=>?_
        simp only[List.mem_cons,List.not_mem_nil,or_false] at hv
        rcases hv with rfl | rfl <;> exact u5
    · refine iR fun v hv=>?_
      obtain⟨s,hs,rfl⟩:=List.mem_map.mp hv
      refine iR fun v hv=>?_
      simp only[List.mem_cons,List.not_mem_nil,or_false] at hv
      rcases hv with rfl | rfl
      · exact u5
      · exact uA ((h.rl r hr).HF.all s hs)
  · exact GO
  · exact u5
section
variable {P:Parts}{lf:Nat→Nat}
theorem zH (h:Wf P) (H:Hp):gq [bu P lf] H=some (EK P,H):=by
  have hc4:=h.cs.le
  have hdl:=h.dl
  have hrn:=h.rn
  have c1:em [none,none,some 0] jU jV jC ku [some (bu P lf),none] H=some (P.defs.map (fun d => .tup [.str d.1, .tup [.str [114,97,119], .str d.2]]),H):=by
    refine dq (N:=[none,none,some (bu P lf)]) (H:=H) (fun M=>∃ x,M=[none,x,some (bu P lf)]) (fun d:List Nat × List Nat => .str d.1) _ P.defs (eU (v := .jo (P.defs.map qI)) (ay rfl rfl) (by
      rw[uy (fun e he=>by
        obtain⟨x,hx,rfl⟩:=List.mem_map.mp he
        have:=h.Lr x hx
        show x.1.length≤1000
        omega),List.map_map]
      rfl)) rfl rfl ⟨none,rfl⟩ (by omega) ?_
    rintro _ d ⟨x,rfl⟩ hd
    have hg:o9 (P.defs.map qI) d.1=some (mD d.2):=tX (f:=fun d:List Nat × List Nat=>d.1) (g:=fun d=>mD d.2) h.dd hd
    refine⟨[none,some (.str d.1),some (bu P lf)],rfl,⟨_,rfl⟩,rfl,?_⟩
    exact eJ (ak rfl (ak (ao (v:=mD d.2) (ag (ay rfl rfl) rfl (zE hg)) rfl rfl (aq rfl rfl (a8 (eJ (ak rfl (ak (ay rfl rfl) rfl)) (by simp))))) rfl)) (by simp)
  have c2:em [none,none,none] kg j0 jS jQ [some (bu P lf),none] H=some (P.ap.map az,H):=by
    refine dq (N:=[none,none,none]) (H:=H) (fun M=>∃ x y,M=[none,x,y]) az az P.ap (lv (ay rfl rfl)) rfl rfl ⟨none,none,rfl⟩ (by omega) ?_
    rintro _ c ⟨x,y,rfl⟩ hd
    exact⟨[none,some (.str c.1),some (.bool c.2)],rfl,⟨_,_,rfl⟩,rfl,eJ (ak rfl (ak rfl rfl)) (by simp)⟩
  have c3:em [none,none] fy hU hZ hO [some (bu P lf),none] H=some (P.rules.map Ba,H):=by
    have:=dq (sel:=[none,none]) (it:=fy) (a:=hU) (t:=hZ) (f:=hO) (M:=[some (bu P lf),none]) (N:=[none,none]) (H:=H) (fun M=>∃ x,M=[none,x]) (kO P.rules lf) (fun i=>match P.rules[i]? with | some r=>Ba r | none => .none) (List.range P.rules.length)
      (by
        unfold fy
        refine eU (v := .lst (fG lf 0 P.rules)) (ay rfl rfl) ?_
        show some (fG lf 0 P.rules)=_
        rw[gG]) rfl rfl ⟨none,rfl⟩ (by rw[List.length_range]; omega) (by
      rintro _ i ⟨x,rfl⟩ hi
      have hi':i < P.rules.length:=List.mem_range.mp hi
      have hsl:=(h.rl P.rules[i] (List.getElem_mem hi')).sl
      rw[jh hi',List.getElem?_eq_getElem hi']
      refine⟨[none,some (bo i P.rules[i].live P.rules[i].raw P.rules[i].steps (lf i))],rfl,⟨_,rfl⟩,rfl,?_⟩
      exact ao (v:=bo i P.rules[i].live P.rules[i].raw P.rules[i].steps (lf i)) rfl rfl rfl (E8 (by omega) H))
    rw[this]
    congr 2
    apply List.ext_getElem
    · simp
    · intro i h1 h2
      simp at h1
      simp[h1]
  unfold gq m7 EK
  exact aq rfl rfl (a8 (eJ (ak (ay (cy c1) rfl) (ak (ay (cy c2) rfl) (ak (ay (cy c3) rfl) (ak (ay rfl rfl) (ak (ay rfl rfl) rfl))))) (by simp)))
end
end Mine
end
section
namespace Mine
theorem se {α:Type}{a:AF}{b:SF}{I:Loc→Prop}{emb r:α→V}{p:α→Bool}{H:Hp}:∀ (xs:List α) (M:Loc),I M→(∀ x∈xs,∀ M,I M→∃ M1 M2,a (emb x) M H=some (M1,H)∧b M1 H=some ((if p x then .ret (r x) else .next),M2,H)∧I M2)→
    ∃ M',forL a b (xs.map emb) M H=some ((match xs.find? p with | some x => .ret (r x) | none => .next),M',H)∧I M'
  | [],M,hI,_=>⟨M,rfl,hI⟩
  | x::xs,M,hI,h=>by
    obtain⟨M1,M2,e1,e2,i2⟩:=h x List.mem_cons_self M hI
    rw[List.map_cons]
    unfold forL
    rw[e1,Option.bind_some]
    dsimp only
    rw[e2,Option.bind_some]
    cases hp:p x with
    | true=>
      rw[List.find?_cons,hp]
      exact⟨M2,rfl,i2⟩
    | false=>
      rw[List.find?_cons,hp]
      exact se xs M2 i2 fun x hx=>h x (List.mem_cons_of_mem _ hx)
theorem tO {α:Type}{it:IF}{a:AF}{t:TF}{e:EF}{rest:SF}{I:Loc→Prop}{emb r:α→V}{p:α→Bool}{d:V}{H:Hp}{xs:List α}{M:Loc} (hi:it M H=some (xs.map emb,H)) (hI:I M) (step:∀ x∈xs,∀ M,I M→∃ M1,a (emb x) M H=some (M1,H)∧t M1 H=some (p x,H)∧e M1 H=some (r x,H)∧I M1)
    (hr:∀ M,I M→rest M H=some (.ret d,M,H)):∃ M',al (m4 it a (cK t (bw e) bj)) rest M H=some (.ret ((xs.find? p).elim d r),M',H):=by
  obtain⟨M',q,i'⟩:=se (a:=a) (b:=cK t (bw e) bj) (r:=r) (p:=p) xs M hI fun x hx M hM=>(step x hx M hM).elim fun M1 h=>⟨M1,M1,h.1,by
    have e1:=h.2.1
    cases hp:p x with
    | true=>rw[hp] at e1; exact(if_true e1).trans (a8 h.2.2.1)
    | false=>rw[hp] at e1; exact(if_false e1).trans rfl,h.2.2.2⟩
  refine⟨M',?_⟩
  cases hf:xs.find? p with
  | some x=>rw[hf] at q; exact fF (iY hi q)
  | none=>rw[hf] at q; exact(ac (iY hi q)).trans (hr M' i')
theorem xR {α:Type} (xs:List α):xs.find? (fun _=>false)=none:=List.find?_eq_none.mpr fun _ _=>by decide
theorem GY {x:Nat} (l:List Nat):qR (.int (x:Int)) (aH l)=some (decide (x∈l)):=by
  induction l with
  | nil=>rfl
  | cons y l ih=>
    have e:qR (.int (x:Int)) (aH (y::l))=(qR (.int (x:Int)) (aH l)).map (((y:Int)==(x:Int))||·):=rfl
    rw[e,ih,up]
    refine congrArg some ?_
    by_cases h:y=x
    · rw[beq_iff_eq.mpr h,decide_eq_true (List.mem_cons.mpr (.inl h.symm))]; rfl
    · rw[beq_eq_false_iff_ne.mpr h]
      exact decide_eq_decide.mpr ⟨List.mem_cons_of_mem _,fun q=>(List.mem_cons.mp q).resolve_left fun z=>h z.symm⟩
theorem wb {x:Nat}{l:List Nat} (H:Hp):pN (.int (x:Int)) (.tup (aH l)) H=some (decide (x∈l)):=(rfl:_=qR (.int (x:Int)) (aH l)).trans (GY l)
theorem EQ {l:List V} (h:∀ v∈l,qA 8 v v=some true) (H:Hp):mK (.lst l) (.lst l) H=some false:=by
  have e:mK (.lst l) (.lst l) H=(if l.length=l.length then qf (qA 8) l l else some false).map (!·):=rfl
  rw[e,if_pos rfl,uP h]
  rfl
theorem xC {l:List Nat} (H:Hp):mK (.lst (aH l)) (.lst (aH l)) H=some false:=EQ (fun v hv=>by obtain⟨i,_,rfl⟩:=yY hv; exact Gi) H
theorem AS {i:Int} (H:Hp):mK (.int i) (.int i) H=some false:=by
  have e:mK (.int i) (.int i) H=some (!(i==i)):=rfl
  rw[e,beq_self_eq_true]; rfl
section
variable {P:Parts}{lf:Nat→Nat}
theorem Fr {M:Loc}{H:Hp}{i:Nat} (h:M[i]?.join=some (bu P lf)):(ae (aW cL (aW (am aP) (aa i))) aj) M H=some ([.int (P.ap.length:Int)],H):=by
  refine ak (ay (a := .lst (P.ap.map az)) (ay (a:=bu P lf) ?_ rfl) ?_) rfl
  · unfold aa; rw[h]; rfl
  · show some (V.int ((P.ap.map az).length:Int))=_
    rw[List.length_map]
theorem Bj (h:Wf P) (x:List Nat) (H:Hp):bc [bu P lf, .str x] H=some (((List.range P.ap.length).find? (fun i=>dX (P.ap.map (·.1)) i==x)).elim (.int (-1)) (fun i => .int (i:Int)),H):=by
  unfold bc eR
  refine(tO (I:=fun M=>∃ y,M=[some (bu P lf),some (.str x),y,none,none]) (emb:=fun i:Nat=>V.int (i:Int)) (oL (Fr rfl) (Nat.le_trans h.cs.le (by decide))) ⟨none,rfl⟩ (fun i hi M hM=>?_) (fun M hM=>?_)).elim fun M' q=>aq rfl rfl q
  · obtain⟨y,rfl⟩:=hM
    rw[pS (i:=i) (x:=(P.ap[i]'(List.mem_range.mp hi)).1) (by rw[List.getElem?_map,List.getElem?_eq_getElem (List.mem_range.mp hi)]; rfl)]
    exact⟨_,rfl,ai (ag (a:=az (P.ap[i]'(List.mem_range.mp hi))) (ag (ay rfl rfl) rfl (ji (List.mem_range.mp hi))) rfl rfl) rfl rfl,rfl,_,rfl⟩
  · obtain⟨y,rfl⟩:=hM
    exact a8 rfl
theorem Cn {l:List (List Nat)}{i:Nat} (h:i < l.length):dX l i=l[i]:=pS (List.getElem?_eq_getElem h)
theorem Gk {l:List (List Nat)} (hn:l.Nodup) {i:Nat} (hi:i < l.length):(List.range l.length).find? (fun j=>dX l j==dX l i)=some i:=by
  rw[List.find?_range_eq_some]
  refine⟨beq_self_eq_true _,List.mem_range.mpr hi,fun j hj=>?_⟩
  rw[Cn hi,Cn (Nat.lt_trans hj hi)]
  exact congrArg (!·) (beq_eq_false_iff_ne.mpr fun e=>Nat.ne_of_lt hj ((List.getElem_inj hn).mp e))
end
end Mine
end
section
namespace Mine
section
variable {P:Parts}{lf:Nat→Nat}
theorem uw {n line:Nat}{r:Rl} (H:Hp):dz [bo n r.live r.raw r.steps line] H=some (.bool r.raw.isNone,H):=by
  unfold dz kT
  refine aq rfl rfl (a8 (ag (a:=w7 r.raw) (ay rfl rfl) rfl ?_))
  cases r.raw <;> rfl
theorem tb {n line i:Nat}{r:Rl} (H:Hp):cY [bo n r.live r.raw r.steps line, .int (i:Int)] H=some (.bool (decide (i∈r.live)),H):=by
  unfold cY jG
  refine aq rfl rfl (a8 (ag (a := .int (i:Int)) (b := .tup (aH r.live)) rfl (ay rfl rfl) ?_))
  unfold sz
  rw[wb]; rfl
theorem Bn {n line:Nat}{r:Rl} (x:List Nat) (H:Hp):eQ [bo n r.live r.raw r.steps line, .str x] H=some (.bool (decide (x∈r.steps.map (·.1))),H):=by
  have e:decide (x∈r.steps.map (·.1))=(r.steps.find? (fun s:oP=>s.1==x)).isSome:=by
    rw[Bool.eq_iff_iff,decide_eq_true_iff,List.find?_isSome,List.mem_map]
    exact exists_congr fun s=>and_congr_right fun _=>beq_iff_eq.symm
  rw[e]
  unfold eQ jj
  refine(tO (I:=fun M=>∃ y,M=[some (bo n r.live r.raw r.steps line),some (.str x),y]) (emb:=mz) (r:=fun _=>V.bool true) (p:=fun s:oP=>s.1==x) (d:=V.bool false) (eU (v := .lst (r.steps.map mz)) (ay rfl rfl) rfl) ⟨none,rfl⟩ (fun s hs M hM=>?_) (fun M hM=>?_)).elim fun M' q=>aq (M':=M') rfl rfl (q.trans ?_)
  · obtain⟨y,rfl⟩:=hM
    exact⟨_,rfl,ai (a := .str s.1) (ay (a:=mz s) rfl rfl) rfl rfl,rfl,_,rfl⟩
  · obtain⟨y,rfl⟩:=hM
    exact a8 rfl
  · cases r.steps.find? (fun s:oP=>s.1==x) <;> rfl
noncomputable def zB (l:List oP):V:=(l.find? fun s=>s.1==bR).elim .none (·.2)
theorem Ik {n line:Nat}{r:Rl} (H:Hp):gk [bo n r.live r.raw r.steps line] H=some (zB r.steps,H):=by
  unfold gk ni
  refine(tO (I:=fun M=>∃ y,M=[some (bo n r.live r.raw r.steps line),y]) (emb:=mz) (r:=fun s:oP=>s.2) (p:=fun s:oP=>s.1==bR) (d:=V.none) (eU (v := .lst (r.steps.map mz)) (ay rfl rfl) rfl) ⟨none,rfl⟩ (fun s hs M hM=>?_) (fun M hM=>?_)).elim fun M' q=>aq rfl rfl q
  · obtain⟨y,rfl⟩:=hM
    exact⟨_,rfl,ai (a := .str s.1) (ay (a:=mz s) rfl rfl) rfl rfl,ay (a:=mz s) rfl rfl,_,rfl⟩
  · obtain⟨y,rfl⟩:=hM
    exact a8 rfl
noncomputable def zN (l:List oP):List V:=(l.filter fun s=>s.1==eH||s.1==iA).map (·.2)
theorem Gh {n line:Nat}{r:Rl} (hl:r.steps.length≤1000) (H:Hp):gO [bo n r.live r.raw r.steps line] H=some (.lst (zN r.steps),H):=by
  have hc:em [none,none] jq jn jk jm [some (bo n r.live r.raw r.steps line)] H=some (zN r.steps,H):=by
    refine comp_map (sel:=[none,none]) (N:=[none,none]) (H:=H) (fun M=>∃ x,M=[none,x]) mz (fun s:oP=>s.2) (fun s=>s.1==eH||s.1==iA) r.steps (eU (v := .lst (r.steps.map mz)) (ay rfl rfl) rfl) rfl rfl ⟨none,rfl⟩ hl ?_
    rintro _ s ⟨x,rfl⟩ hs
    refine⟨[none,some (mz s)],rfl,⟨_,rfl⟩,?_,fun _=>ay (a:=mz s) rfl rfl⟩
    exact kG (ai (a := .str s.1) (b := .str eH) (ay (a:=mz s) rfl rfl) rfl rfl) (fun _=>ai (a := .str s.1) (b := .str iA) (ay (a:=mz s) rfl rfl) rfl rfl) (fun _=>rfl)
  unfold gO mc
  exact aq rfl rfl (a8 (cy hc))
noncomputable def isLive (rules:List Rl) (at_:Nat) (i:Nat):Bool:=rules[i]?.elim false fun r=>!r.raw.isNone&&decide (at_∈r.live)
noncomputable def y0 (rules:List Rl) (at_:Nat) (i:Nat):Bool:=rules[i]?.elim false fun r=>r.raw.isNone&&decide (at_∈r.live)
theorem zA {rs:List Rl}{k i:Nat} (h:i < rs.length):isLive rs k i=(!rs[i].raw.isNone&&decide (k∈rs[i].live)):=by unfold isLive; rw[List.getElem?_eq_getElem h]; rfl
theorem CH {rs:List Rl}{k i:Nat} (h:i < rs.length):y0 rs k i=(rs[i].raw.isNone&&decide (k∈rs[i].live)):=by unfold y0; rw[List.getElem?_eq_getElem h]; rfl
theorem Cu {f:EF}{M:Loc}{H:Hp} (h:f M H=some (.lst (fG lf 0 P.rules),H)):kx f M H=some ((List.range P.rules.length).map (kO P.rules lf),H):=eU h (congrArg some (gG P.rules))
theorem yR (h:Wf P) (k:Nat) (H:Hp):dR [bu P lf, .int (k:Int)] H=some (.lst (((List.range P.rules.length).filter (isLive P.rules k)).map (kO P.rules lf)),H):=by
  unfold dR iN
  refine aq rfl rfl (a8 (cy (comp_map (N:=[none,none,some (.int (k:Int))]) (fun M=>∃ x,M=[none,x,some (.int (k:Int))]) (kO P.rules lf) _ _ (List.range P.rules.length) (Cu (ay rfl rfl)) rfl rfl ⟨none,rfl⟩ (List.length_range.symm▸Nat.le_trans h.rn (by decide)) fun M i hM hi=>?_)))
  obtain⟨x,rfl⟩:=hM
  have hi':=List.mem_range.mp hi
  rw[jh hi',zA hi']
  exact⟨[none,some (bo i P.rules[i].live P.rules[i].raw P.rules[i].steps (lf i)),some (.int (k:Int))],rfl,⟨_,rfl⟩,cQ (dg (aU (ao (v:=bo i P.rules[i].live P.rules[i].raw P.rules[i].steps (lf i)) rfl rfl rfl (uw H)) rfl)) (fun _=>aU (ao (v:=bo i P.rules[i].live P.rules[i].raw P.rules[i].steps (lf i)) rfl rfl rfl (tb H)) rfl) (fun _=>rfl),fun _=>rfl⟩
theorem Cb (k:Nat) (H:Hp):eF [bu P lf, .int (k:Int)] H=some (((List.range P.rules.length).find? (y0 P.rules k)).elim .none (kO P.rules lf),H):=by
  unfold eF jp
  refine(tO (I:=fun M=>∃ y,M=[some (bu P lf),some (.int (k:Int)),y]) (emb:=kO P.rules lf) (Cu (ay rfl rfl)) ⟨none,rfl⟩ (fun i hi M hM=>?_) (fun M hM=>?_)).elim fun M' q=>aq rfl rfl q
  · obtain⟨y,rfl⟩:=hM
    have hi':=List.mem_range.mp hi
    rw[jh hi',CH hi']
    exact⟨_,rfl,cQ (aU (ao (v:=bo i P.rules[i].live P.rules[i].raw P.rules[i].steps (lf i)) rfl rfl rfl (uw H)) rfl) (fun _=>aU (ao (v:=bo i P.rules[i].live P.rules[i].raw P.rules[i].steps (lf i)) rfl rfl rfl (tb H)) rfl) (fun _=>rfl),rfl,_,rfl⟩
  · obtain⟨y,rfl⟩:=hM
    exact a8 rfl
end
end Mine
end
section
namespace Mine
noncomputable def AP (cs:Cs) (i:Nat):V:=match cs[i]? with
  | some c=>az c
  | none => .none
theorem y6 {cs:Cs}{i:Nat} (h:i < cs.length):AP cs i=az cs[i]:=by unfold AP; rw[List.getElem?_eq_getElem h]
noncomputable def or:Option (List Nat)→V
  | some x => .str x
  | none => .none
noncomputable def dD (r:Rl):V := .tup [.tup (aH r.live),or r.raw, .lst (r.steps.map fA)]
theorem AC {α:Type}{f:α→V}{g:Nat→V} (l:List α):∀ n:Nat,(∀ i x,l[i]? = some x→g (n + i)=f x)→numbered n (l.map f)=(List.range' n l.length).map fun i:Nat => .tup [.int (i:Int),g i]:=by
  induction l with
  | nil=>exact fun _ _=>rfl
  | cons x l ih=>
    intro n hg
    show V.tup [.int (n:Int),f x]::numbered (n + 1) (l.map f) = .tup [.int (n:Int),g n]::(List.range' (n + 1) l.length).map _
    rw[ih (n + 1) fun i y hy=>(Nat.succ_add_eq_add_succ n i)▸hg (i + 1) y hy,← hg 0 x rfl]
    rfl
theorem CN {α:Type}{f g:Nat→V}{h:α→V} (l:List α):∀ n:Nat,(∀ i x,l[i]? = some x→g (n + i)=h x)→pq ((List.range' n l.length).map f) (l.map h)=(List.range' n l.length).map fun i => .tup [f i,g i]:=by
  induction l with
  | nil=>exact fun _ _=>rfl
  | cons x l ih=>
    intro n hg
    show V.tup [f n,h x]::pq ((List.range' (n + 1) l.length).map f) (l.map h) = .tup [f n,g n]::(List.range' (n + 1) l.length).map _
    rw[ih (n + 1) fun i y hy=>(Nat.succ_add_eq_add_succ n i)▸hg (i + 1) y hy,← hg 0 x rfl]
    rfl
noncomputable def rowAt (rules:List Rl) (i:Nat):V:=match rules[i]? with
  | some r=>dD r
  | none => .none
noncomputable def numAt (rules:List Rl) (i:Nat):V := .tup [.int (i:Int),rowAt rules i]
theorem Cq {rs:List Rl} (i:Nat) (x:Rl) (h:rs[i]? = some x):rowAt rs (0 + i)=dD x:=by unfold rowAt; rw[Nat.zero_add,h]
theorem enum_rows (rules:List Rl):numbered 0 (rules.map dD)=(List.range rules.length).map (numAt rules):=(AC rules 0 Cq).trans (by rw[List.range_eq_range']; rfl)
theorem zip_rows {f:Nat→V} (rules:List Rl):pq ((List.range rules.length).map f) (rules.map dD)=(List.range rules.length).map fun i => .tup [f i,rowAt rules i]:=by
  rw[List.range_eq_range']
  exact CN rules 0 Cq
theorem xz {rs:List Rl}{i:Nat} (h:i < rs.length):rowAt rs i=dD rs[i]:=by unfold rowAt; rw[List.getElem?_eq_getElem h]
section
variable {P:Parts}{lf:Nat→Nat}
noncomputable abbrev kz (P:Parts):V := .lst (P.ap.map az)
noncomputable abbrev mY (P:Parts):V := .lst (P.rules.map dD)
noncomputable abbrev Mf (P:Parts) (lf:Nat→Nat) (a b c d e f g:Option V):Loc:=[some (bu P lf),some (kz P),some (mY P),a,b,c,d,e,f,g,none,none,none,none,none,none,none]
theorem tR {M:Loc}{H:Hp}{i:Nat} (h:M[i]?.join=some (kz P)):(ae (aW cL (aa i)) aj) M H=some ([.int (P.ap.length:Int)],H):=by
  refine ak (ay (a:=kz P) ?_ ?_) rfl
  · unfold aa; rw[h]; rfl
  · show some (V.int ((P.ap.map az).length:Int))=_
    rw[List.length_map]
theorem Ii (h:Wf P) {i:Nat} (hi:i < P.ap.length) (H:Hp):bc [bu P lf, .str P.ap[i].1] H=some (.int (i:Int),H):=by
  have hf:=Gk h.cs.nd (i:=i) ((List.length_map ..).symm▸hi)
  rw[List.length_map,pS (i:=i) (x:=P.ap[i].1) (by rw[List.getElem?_map,List.getElem?_eq_getElem hi]; rfl)] at hf
  exact(Bj h _ H).trans (by rw[hf]; rfl)
theorem Fv (h:Wf P) (H:Hp):bc [bu P lf, .str [110,111,110,101]] H=some (.int (-1),H):=by
  have hf:(List.range P.ap.length).find? (fun i=>dX (P.ap.map (·.1)) i==[110,111,110,101])=none:=List.find?_eq_none.mpr fun i hi e=>h.nn (beq_iff_eq.mp e▸lU ((List.length_map ..).symm▸List.mem_range.mp hi))
  exact(Bj h _ H).trans (by rw[hf]; rfl)
theorem IA (h:Wf P) (H:Hp):(cK (u9 (aG mK (c6 [none,none,some 0] gf fU fW gg) (kZ (ae (aW cL (aa 1)) aj))) (aG mK (aJ [(4,bc)] (aa 0) (ae (ab (.str [110,111,110,101])) aj)) (aW yG (ab (.int 1))))) (bw (ab (.bool false))) bj) (Mf P lf none none none none none none none) H=some (.next,Mf P lf none none none none none none none,H):=by
  have hl:P.ap.length≤1000:=Nat.le_trans h.cs.le (by decide)
  have c1:=dq (sel:=[none,none,some 0]) (it:=gf) (a:=fU) (t:=fW) (f:=gg) (M:=Mf P lf none none none none none none none) (N:=[none,none,some (bu P lf)]) (H:=H) (fun M=>∃ x,M=[none,x,some (bu P lf)]) (AP P.ap) (fun i:Nat=>V.int (i:Int)) (List.range P.ap.length)
    (eU (v:=kz P) rfl (congrArg some (Hi P.ap az (AP P.ap) fun i h=>y6 h))) rfl rfl ⟨none,rfl⟩ (List.length_range.symm▸hl) fun M i hM hi=>by
      obtain⟨x,rfl⟩:=hM
      rw[y6 (List.mem_range.mp hi)]
      exact⟨_,rfl,⟨_,rfl⟩,rfl,ao (v:=bu P lf) rfl rfl (ak (ag (a:=az (P.ap[i]'(List.mem_range.mp hi))) rfl rfl rfl) rfl) (Ii h (List.mem_range.mp hi) H)⟩
  exact(if_false (kG (ai (cy c1) (JB (tR rfl) hl) (xC H)) (fun _=>ai (a := .int (-1)) (ao (v:=bu P lf) rfl rfl rfl (Fv h H)) rfl (AS H)) (fun _=>rfl))).trans rfl
theorem F7 {l:List Nat} (H:Hp):mK (.tup (aH l)) (.tup (aH l)) H=some false:=by
  have e:mK (.tup (aH l)) (.tup (aH l)) H=(qf (qA 8) (aH l) (aH l)).map (!·):=rfl
  rw[e,y7,beq_self_eq_true]; rfl
theorem Gq (h:Wf P) (H:Hp):(cK (aG mK (aJ [(4,bm)] (aa 0) aj) (aW jE (c6 [none,none,some 1] fT f0 fV fN))) (bw (ab (.bool false))) bj) (Mf P lf none none none none none none none) H=some (.next,Mf P lf none none none none none none none,H):=by
  have hc4:=h.cs.le
  have c2:em [none,none,some 1] fT f0 fV fN (Mf P lf none none none none none none none) H=some (aH (cV P.ap),H):=by
    refine comp_map (sel:=[none,none,some 1]) (N:=[none,none,some (kz P)]) (H:=H) (fun M=>∃ x,M=[none,x,some (kz P)]) (fun i:Nat=>V.int (i:Int)) (fun i:Nat=>V.int (i:Int)) (fun i=>!iq P.ap i) (List.range P.ap.length) (oL (tR rfl) (by omega)) rfl rfl ⟨none,rfl⟩ (by rw[List.length_range]; omega) ?_
    rintro _ i ⟨x,rfl⟩ hi
    have hi':i < P.ap.length:=List.mem_range.mp hi
    refine⟨[none,some (.int (i:Int)),some (kz P)],rfl,⟨_,rfl⟩,?_,fun _=>rfl⟩
    rw[uh hi']
    exact dg (aU (ag (a:=az P.ap[i]) (ag (a:=kz P) rfl rfl (ji hi')) rfl rfl) rfl)
  exact(if_false (ai (ao (v:=bu P lf) rfl rfl rfl (Ci (by omega))) (ay (a := .lst (aH (cV P.ap))) (cy c2) rfl) (F7 H))).trans rfl
end
end Mine
end
section
namespace Mine
section
variable {P:Parts}{lf:Nat→Nat}
theorem CK {H:Hp}{i:Nat} (h:i < P.rules.length):am m0 (kO P.rules lf i) H=some (.int (i:Int)):=by rw[jh h]; rfl
theorem EG {M:Loc}{H:Hp} (h:M[2]?.join=some (mY P)):u4 (ae (aa 2) aj) M H=some ((List.range P.rules.length).map (numAt P.rules),H):=by
  unfold u4 ae aj aa
  rw[h]
  show some (numbered 0 (P.rules.map dD),H)=_
  rw[enum_rows]
theorem B5 (h:Wf P) {k:Nat}{i:IF}{a:AF}{t:TF}{f:EF}{p:Nat→Bool}{M:Loc}{H:Hp} (hi:i M H=some ((List.range P.rules.length).map (numAt P.rules),H)) (hc:gL [none,none,none,some 3] M=true) (hin:inner [none,none,none,some 3] M=[none,none,none,some (.int (k:Int))])
    (ha:∀ n v x y,a (.tup [n,v]) [none,x,y,some (.int (k:Int))] H=some ([none,some n,some v,some (.int (k:Int))],H)) (ht:∀ j (hj:j < P.rules.length),t [none,some (.int (j:Int)),some (dD P.rules[j]),some (.int (k:Int))] H=some (p j,H)) (hf:∀ n v,f [none,some n,some v,some (.int (k:Int))] H=some (n,H)):
    em [none,none,none,some 3] i a t f M H=some (aH ((List.range P.rules.length).filter p),H):=by
  refine comp_map (N:=[none,none,none,some (.int (k:Int))]) (fun M=>∃ x y,M=[none,x,y,some (.int (k:Int))]) (numAt P.rules) (fun i:Nat=>V.int (i:Int)) p (List.range P.rules.length) hi hc hin ⟨none,none,rfl⟩ (List.length_range.symm▸Nat.le_trans h.rn (by decide)) fun M j hM hj=>?_
  obtain⟨x,y,rfl⟩:=hM
  unfold numAt
  rw[xz (List.mem_range.mp hj)]
  exact⟨_,ha _ _ x y,⟨_,_,rfl⟩,ht j (List.mem_range.mp hj),fun _=>hf _ _⟩
theorem G6 {k:Nat}{n:V}{r:Rl}{H:Hp}:(aG pN (aa 3) (av aI (aa 2) (ab (.int 0)))) [none,some n,some (dD r),some (.int (k:Int))] H=some (decide (k∈r.live),H):=ai (a := .int (k:Int)) rfl (ag (a:=dD r) rfl rfl rfl) (wb H)
theorem JP {r:Rl}{H:Hp}:uu (or r.raw) .none H=some r.raw.isNone:=by cases r.raw <;> rfl
theorem G0 {r:Rl}{H:Hp}:uR (or r.raw) .none H=some (!r.raw.isNone):=by cases r.raw <;> rfl
theorem Hu {L:List V} (hl:L.length≤3) {v:V} (H:Hp):br (.lst L) (.lst [v]) H=some (.lst (L++[v])):=if_pos (Nat.le_trans (Nat.succ_le_succ hl) (by decide))
theorem Ib {L:List Nat} (hm:∀ i∈L,i < P.rules.length) (hl:L.length≤3) {a b c f g:Option V}{H:Hp}:(aG mK (th (aG uu (aa 7) (ab .none)) (aW yG (ab (.int 1))) (aW (am m0) (aa 7))) (av aI (av br (aa 6) (oLst (ae (aW yG (ab (.int 1))) aj))) (ab (.int 0)))) (Mf P lf a b c (some (.lst (aH L))) (some (L.head?.elim .none (kO P.rules lf))) f g) H=some (false,H):=by
  cases L with
  | nil=>exact ai (ite_true (ai (a := .none) rfl rfl rfl) rfl) (ag (ag (a := .lst []) (b := .lst [.int (-1)]) rfl rfl (Hu hl H)) rfl rfl) (AS H)
  | cons i L=>
    have hi:=hm i List.mem_cons_self
    have hn:uu (kO P.rules lf i) .none H=some false:=by rw[jh hi]; rfl
    exact ai (ite_false (ai (a:=kO P.rules lf i) rfl rfl hn) (ay rfl (CK hi))) (ag (ag (a := .lst (aH (i::L))) (b := .lst [.int (-1)]) rfl rfl (Hu (uO.symm▸hl) H)) rfl rfl) (AS H)
theorem HY (h:Wf P) (H:Hp) (k:Nat) (b c d e f g:Option V):∃ c' d' e',d6 (Mf P lf (some (.int (k:Int))) b c d e f g) H=some (.next,Mf P lf (some (.int (k:Int))) b c' d' e' f g,H):=by
  have hlast:=Cb (P:=P) (lf:=lf) k H
  rw[← List.head?_filter] at hlast
  have hm:∀ (p:Nat→Bool),∀ i∈(List.range P.rules.length).filter p,i < P.rules.length:=fun p i hi=>List.mem_range.mp (List.mem_filter.mp hi).1
  have hl:∀ (p:Nat→Bool),((List.range P.rules.length).filter p).length≤3:=fun p=>Nat.le_trans (List.length_filter_le _ _) (List.length_range.symm▸h.rn)
  refine⟨some (.lst (aH ((List.range P.rules.length).filter (isLive P.rules k)))),some (.lst (aH ((List.range P.rules.length).filter (y0 P.rules k)))),some (((List.range P.rules.length).filter (y0 P.rules k)).head?.elim .none (kO P.rules lf)),?_⟩
  unfold d6
  refine(ac (oJ (B5 h (k:=k) (p:=isLive P.rules k) (EG rfl) rfl rfl (fun _ _ _ _=>rfl) (fun j hj=>?_) fun _ _=>rfl))).trans ((ac (oJ (B5 h (k:=k) (p:=y0 P.rules k) (EG rfl) rfl rfl (fun _ _ _ _=>rfl) (fun j hj=>?_) fun _ _=>rfl))).trans ((ac (au (ao (v:=bu P lf) rfl rfl rfl hlast) rfl)).trans ((if_false (kG (ai (cy (l:=aH ((List.range P.rules.length).filter (isLive P.rules k))) (dq (N:=[none,none]) (fun M=>∃ x,M=[none,x]) (kO P.rules lf) (fun i:Nat=>V.int (i:Int)) _ (eU (ao (v:=bu P lf) rfl rfl rfl (yR h k H)) rfl) rfl rfl ⟨none,rfl⟩ (Nat.le_trans (hl _) (by decide)) fun M i hM hi=>?_)) rfl (xC H)) (fun _=>Ib (hm _) (hl _)) (fun _=>rfl))).trans rfl)))
  · rw[zA hj,Bool.and_comm]
    exact cQ G6 (fun _=>ai (ag (a:=dD P.rules[j]) rfl rfl rfl) rfl G0) (fun _=>rfl)
  · rw[CH hj,Bool.and_comm]
    exact cQ G6 (fun _=>ai (ag (a:=dD P.rules[j]) rfl rfl rfl) rfl JP) (fun _=>rfl)
  · obtain⟨x,rfl⟩:=hM
    exact⟨[none,some (kO P.rules lf i)],rfl,⟨_,rfl⟩,rfl,ay rfl (CK (hm _ i hi))⟩
theorem zK (H:Hp):mK (.lst []) (.lst []) H=some false:=rfl
theorem Fw {α:Type}{p:α→Bool}:∀ l:List α,(l.filter p).head? = l.find? p:=fun l=>List.head?_filter ..
theorem Bk {v:V} (h:qA 9 v v=some true) (H:Hp):mK v v H=some false:=by
  have e:mK v v H=(qA 9 v v).map (!·):=rfl
  rw[e,h]; rfl
noncomputable def tq:List (List Nat):=[[114,101,116,117,114,110],[114,101,116,117,114,110],[115,107,105,112],[98,101,103,105,110],[112,117,115,104],[112,111,112],[101,99,104,111],[109,111,114,101],[108,101,115,115],[114,101,106,101,99,116]]
theorem yb {b:Bool} (H:Hp):mK (.bool b) (.bool b) H=some false:=by cases b <;> rfl
noncomputable abbrev iW (r:Rl):V := .lst ((r.steps.map (·.1)).map V.str)
theorem IP (h:Wf P) (H:Hp) {i:Nat} (hi:i < P.rules.length) (a c d e g:Option V):dK (Mf P lf a (some (dD P.rules[i])) c d e (some (kO P.rules lf i)) g) H=some (.next,Mf P lf a (some (dD P.rules[i])) c d e (some (kO P.rules lf i)) (some (iW P.rules[i])),H):=by
  have hc4:=h.cs.le
  have hr:=h.rl P.rules[i] (List.getElem_mem hi)
  rw[jh hi]
  generalize P.rules[i]=r at *
  have hsl:=hr.sl
  have hrow:∀ (g:Option V),(av aI (aa 4) (ab (.int 2))) (Mf P lf a (some (dD r)) c d e (some (bo i r.live r.raw r.steps (lf i))) g) H=some (.lst (r.steps.map fA),H):=fun g=>ag (a:=dD r) rfl rfl rfl
  have c7:em [none,none,none] f7 f8 gh fO (Mf P lf a (some (dD r)) c d e (some (bo i r.live r.raw r.steps (lf i))) g) H=some ((r.steps.map (·.1)).map V.str,H):=by
    have:=dq (sel:=[none,none,none]) (it:=f7) (a:=f8) (t:=gh) (f:=fO) (N:=[none,none,none]) (H:=H) (fun M=>∃ x y,M=[none,x,y]) fA (fun s:oP=>V.str s.1) r.steps (lv (hrow g)) rfl rfl ⟨none,none,rfl⟩ (by omega) (by
      rintro _ s ⟨x,y,rfl⟩ hs
      exact⟨[none,some (.str s.1),some s.2],rfl,⟨_,_,rfl⟩,rfl,rfl⟩)
    rw[this,List.map_map]
    rfl
  have c8:em [none,none,some 8,some 9] fM fQ fR fZ (Mf P lf a (some (dD r)) c d e (some (bo i r.live r.raw r.steps (lf i))) (some (iW r))) H=some ([],H):=by
    have:=comp_map (sel:=[none,none,some 8,some 9]) (it:=fM) (a:=fQ) (t:=fR) (f:=fZ) (N:=[none,none,some (bo i r.live r.raw r.steps (lf i)),some (iW r)]) (H:=H) (fun M=>∃ x,M=[none,x,some (bo i r.live r.raw r.steps (lf i)),some (iW r)]) V.str V.str (fun _=>false) tq (M:=Mf P lf a (some (dD r)) c d e (some (bo i r.live r.raw r.steps (lf i))) (some (iW r))) rfl rfl rfl ⟨none,rfl⟩ (by decide) (by
      rintro _ w ⟨x,rfl⟩ hw
      refine⟨[none,some (.str w),some (bo i r.live r.raw r.steps (lf i)),some (iW r)],rfl,⟨_,rfl⟩,?_,fun z=>by cases z⟩
      refine ai (ao (v:=bo i r.live r.raw r.steps (lf i)) rfl rfl rfl (Bn w H)) (ag (a := .str w) (b:=iW r) (c := .bool (decide (w∈r.steps.map (·.1)))) rfl rfl ?_) (yb H)
      unfold sz
      rw[DX]; rfl)
    rw[this,List.filter_eq_nil_iff.mpr (fun _ _=>by decide)]
    rfl
  have c9:em [none,none,none] fY ge fX gc (Mf P lf a (some (dD r)) c d e (some (bo i r.live r.raw r.steps (lf i))) (some (iW r))) H=some ((r.steps.filter fun s=>s.1==bR).map (·.2),H):=by
    refine comp_map (sel:=[none,none,none]) (N:=[none,none,none]) (H:=H) (fun M=>∃ x y,M=[none,x,y]) fA (fun s:oP=>s.2) (fun s=>s.1==bR) r.steps (lv (hrow _)) rfl rfl ⟨none,none,rfl⟩ (by omega) ?_
    rintro _ s ⟨x,y,rfl⟩ hs
    exact⟨[none,some (.str s.1),some s.2],rfl,⟨_,_,rfl⟩,rfl,fun _=>rfl⟩
  have c10:em [none,none,none] iv iM iO iJ (Mf P lf a (some (dD r)) c d e (some (bo i r.live r.raw r.steps (lf i))) (some (iW r))) H=some (zN r.steps,H):=by
    refine comp_map (sel:=[none,none,none]) (N:=[none,none,none]) (H:=H) (fun M=>∃ x y,M=[none,x,y]) fA (fun s:oP=>s.2) (fun s=>s.1==eH||s.1==iA) r.steps (lv (hrow _)) rfl rfl ⟨none,none,rfl⟩ (by omega) ?_
    rintro _ s ⟨x,y,rfl⟩ hs
    refine⟨[none,some (.str s.1),some s.2],rfl,⟨_,_,rfl⟩,?_,fun _=>rfl⟩
    refine ai (a := .str s.1) (b := .tup ([eH,iA].map V.str)) rfl rfl ?_
    rw[xi]
    congr 1
    by_cases h1:s.1=eH
    · rw[h1]; rfl
    · by_cases h2:s.1=iA
      · rw[h2]; rfl
      · rw[decide_eq_false (by simp; exact⟨h1,h2⟩),beq_eq_false_iff_ne.mpr h1,beq_eq_false_iff_ne.mpr h2]; rfl
  have c11:em [none,none,some 4,some 8] fj fk fb fh (Mf P lf a (some (dD r)) c d e (some (bo i r.live r.raw r.steps (lf i))) (some (iW r))) H=some ([],H):=by
    have:=comp_map (sel:=[none,none,some 4,some 8]) (it:=fj) (a:=fk) (t:=fb) (f:=fh) (N:=[none,none,some (dD r),some (bo i r.live r.raw r.steps (lf i))]) (H:=H) (fun M=>∃ x,M=[none,x,some (dD r),some (bo i r.live r.raw r.steps (lf i))]) (fun k:Nat=>V.int (k:Int)) (fun k:Nat=>V.int (k:Int)) (fun _=>false) (List.range P.ap.length) (M:=Mf P lf a (some (dD r)) c d e (some (bo i r.live r.raw r.steps (lf i))) (some (iW r))) (oL (tR rfl) (by omega)) rfl rfl ⟨none,rfl⟩ (by rw[List.length_range]; omega) (by
      rintro _ k ⟨x,rfl⟩ hk
      refine⟨[none,some (.int (k:Int)),some (dD r),some (bo i r.live r.raw r.steps (lf i))],rfl,⟨_,rfl⟩,?_,fun z=>by cases z⟩
      refine ai (ao (v:=bo i r.live r.raw r.steps (lf i)) rfl rfl rfl (tb H)) (ag (a := .int (k:Int)) (b := .tup (aH r.live)) (c := .bool (decide (k∈r.live))) rfl (ag (a:=dD r) rfl rfl rfl) ?_) (yb H)
      unfold sz
      rw[wb]; rfl)
    rw[this,List.filter_eq_nil_iff.mpr (fun _ _=>by decide)]
    rfl
  have hend:(av (sz uu) (av aI (aa 4) (ab (.int 1))) (ab .none)) (Mf P lf a (some (dD r)) c d e (some (bo i r.live r.raw r.steps (lf i))) (some (iW r))) H=some (.bool r.raw.isNone,H):=by
    refine ag (a:=or r.raw) (ag (a:=dD r) rfl rfl rfl) rfl ?_
    cases r.raw <;> rfl
  have q2:=kG (ai (op:=mK) (cy c8) (show oLst aj (Mf P lf a (some (dD r)) c d e (some (bo i r.live r.raw r.steps (lf i))) (some (iW r))) H=some (.lst [],H) from rfl) (zK H)) (fun _=>ai (op:=mK) (ao (f:=aa 8) (g:=aj) (v:=bo i r.live r.raw r.steps (lf i)) rfl rfl rfl (uw H)) hend (yb H)) (fun _=>rfl)
  have q3:(aG mK (aJ [(2,gk)] (aa 8) aj) (av aI (av br (c6 [none,none,none] fY ge fX gc) (oLst (ae (ab .none) aj))) (ab (.int 0)))) (Mf P lf a (some (dD r)) c d e (some (bo i r.live r.raw r.steps (lf i))) (some (iW r))) H=some (false,H):=by
    have hadd:∀ l:List V,l.length≤3→br (.lst l) (.lst [.none]) H=some (.lst (l++[.none])):=by
      intro l hl
      have e:br (.lst l) (.lst [.none]) H=if l.length + 1≤1048576 then some (.lst (l++[.none])) else none:=rfl
      rw[e,if_pos (by omega)]
    have hlen:((r.steps.filter fun s=>s.1==bR).map (·.2)).length≤3:=by
      rw[List.length_map]
      exact Nat.le_trans (List.length_filter_le _ _) hsl
    have hhd:aI (.lst (((r.steps.filter fun s=>s.1==bR).map (·.2))++[.none])) (.int 0) H=some (zB r.steps):=by
      have e:aI (.lst (((r.steps.filter fun s=>s.1==bR).map (·.2))++[.none])) (.int 0) H=(((r.steps.filter fun s=>s.1==bR).map (·.2))++[.none])[0]? := rfl
      rw[e]
      unfold zB
      rw[← Fw]
      cases r.steps.filter (fun s=>s.1==bR) with
      | nil=>rfl
      | cons s l=>rfl
    have hkv:qA 9 (zB r.steps) (zB r.steps)=some true:=by
      unfold zB
      cases hf:r.steps.find? (fun s=>s.1==bR) with
      | none=>exact HC
      | some s=>exact uA (hr.HF.all s (List.mem_of_find?_eq_some hf))
    exact ai (ao (v:=bo i r.live r.raw r.steps (lf i)) rfl rfl rfl (Ik H)) (ag (ag (cy c9) (b := .lst [.none]) rfl (hadd _ hlen)) rfl hhd) (Bk hkv H)
  have q4:=ai (op:=mK) (ao (f:=aa 8) (g:=aj) (M:=Mf P lf a (some (dD r)) c d e (some (bo i r.live r.raw r.steps (lf i))) (some (iW r))) (v:=bo i r.live r.raw r.steps (lf i)) rfl rfl rfl (Gh (by omega) H)) (cy c10) (EQ (fun v hv=>by
    unfold zN at hv
    obtain⟨s,hs,rfl⟩:=List.mem_map.mp hv
    exact uA (hr.HF.all s (List.mem_filter.mp hs).1)) H)
  have q5:=ai (op:=mK) (cy c11) (show oLst aj (Mf P lf a (some (dD r)) c d e (some (bo i r.live r.raw r.steps (lf i))) (some (iW r))) H=some (.lst [],H) from rfl) (zK H)
  unfold dK
  exact(ac (au (cy c7) rfl)).trans ((ac ((if_false q2).trans rfl)).trans ((ac ((if_false q3).trans rfl)).trans ((ac ((if_false q4).trans rfl)).trans ((if_false q5).trans rfl))))
theorem sF (h:Wf P) (H:Hp):gu [bu P lf,kz P,mY P] H=some (.bool true,H):=by
  obtain⟨M1,e1,⟨a1,b1,c1,d1,f1,rfl⟩⟩:=se (a:=iV) (b:=d6) (I:=fun M=>∃ a c d e g,M=Mf P lf a none c d e none g) (emb:=fun i:Nat=>V.int (i:Int)) (r:=fun _ => .none) (p:=fun _=>false) (H:=H) (List.range P.ap.length) (Mf P lf none none none none none none none) ⟨none,none,none,none,none,rfl⟩ (by
    rintro k hk _ ⟨a,c,d,e,g,rfl⟩
    obtain⟨c',d',e',q⟩:=HY (lf:=lf) h H k none c d e none g
    exact⟨Mf P lf (some (.int (k:Int))) none c d e none g,_,rfl,q,⟨_,_,_,_,_,rfl⟩⟩)
  rw[xR] at e1
  obtain⟨M2,e2,_⟩:=se (a:=iu) (b:=dK) (I:=fun M=>∃ b f g,M=Mf P lf a1 b b1 c1 d1 f g) (emb:=fun i:Nat=>V.tup [kO P.rules lf i,rowAt P.rules i]) (r:=fun _ => .none) (p:=fun _=>false) (H:=H) (List.range P.rules.length) (Mf P lf a1 none b1 c1 d1 none f1) ⟨none,none,f1,rfl⟩ (by
    rintro i hi _ ⟨b,f,g,rfl⟩
    have hi':i < P.rules.length:=List.mem_range.mp hi
    have q:=IP (lf:=lf) h H hi' a1 b1 c1 d1 g
    rw[xz hi']
    exact⟨Mf P lf a1 (some (dD P.rules[i])) b1 c1 d1 (some (kO P.rules lf i)) g,_,rfl,q,⟨_,_,_,rfl⟩⟩)
  rw[xR] at e2
  obtain⟨b2,f2,g2,rfl⟩:=‹∃ b f g,M2=Mf P lf a1 b b1 c1 d1 f g›
  have hz:(fG lf 0 P.rules).length=P.rules.length:=by rw[gG,List.length_map,List.length_range]
  have i12:im (Mf P lf a1 none b1 c1 d1 none f1) H=some ((List.range P.rules.length).map (fun i:Nat=>V.tup [kO P.rules lf i,rowAt P.rules i]),H):=by
    show(if (fG lf 0 P.rules).length=(P.rules.map dD).length then some (pq (fG lf 0 P.rules) (P.rules.map dD),H) else none)=_
    rw[if_pos (hz.trans (List.length_map ..).symm),gG,zip_rows]
  unfold gu kU
  exact aq rfl rfl ((ac (IA h H)).trans ((ac (Gq h H)).trans ((ac (iY (it:=iX) (oL (tR rfl) (Nat.le_trans h.cs.le (by decide))) e1)).trans ((ac (iY i12 e2)).trans (a8 (ag (ay (a := .lst (fG lf 0 P.rules)) (ay rfl rfl) (congrArg (fun n:Nat=>some (V.int (n:Int))) hz)) (ay (a:=mY P) rfl sf) (congrArg (fun b=>some (V.bool b)) (beq_self_eq_true _))))))))
end
end Mine
end
section
namespace Mine
section
variable {P:Parts}
theorem rm {w x:List Nat}{v:V}{H:Hp} (h:(w++32::x).length≤14) (h1:uu v .none H=some false) (h2:vStr v H=some (.str x)):jd [none,some (.str w),some v,none] H=some (.str (w++32::x),H):=by
  have e:w++32::x=(w++[32])++x:=by rw[List.append_assoc]; rfl
  rw[e] at h ⊢
  exact ite_false (ai rfl rfl h1) (ag (ag (a := .str w) rfl rfl (adds (eW h) (by decide) H)) (ay rfl h2) (adds h (by decide) H))
theorem IY {names:List (List Nat)} (hn:∀ n∈names,n.length≤7) {s:oP} (h:eY names s.1 s.2) (H:Hp):jd [none,some (.str s.1),some s.2,none] H=some (.str (oX s),H):=by
  have hl:=ua hn h
  obtain⟨w,v⟩:=s
  cases h with
  | plain hw=>exact ite_true (ai rfl rfl rfl) rfl
  | kind=>exact rm hl rfl rfl
  | quote=>exact rm hl rfl rfl
  | begin hm=>exact rm hl rfl rfl
  | push hm=>exact rm hl rfl rfl
  | @less i hi'=>exact rm hl rfl (Be ((show ∀ i∈[12,13,14],Int.natAbs i < 1000000∧(PySem.Str.ofString (toString i)).cps.size≤1048576 by decide +kernel) i hi'))
noncomputable abbrev ve (P:Parts):V := .lst (P.defs.map fun d => .tup [.str d.1, .str d.2])
noncomputable abbrev DB (P:Parts) (j:Nat) (e f g h i s:Option V):Loc:=[some (kz P),some (.bool P.dj),some (ve P),some (mY P),some (.ref j),e,f,g,h,i,s,none,none]
theorem HK {l:List Nat} (H:Hp):vEq (.lst (aH l)) (.lst []) H=some l.isEmpty:=by
  cases l <;> rfl
theorem E5:∀ l∈eN,∀ n < 5,(∀ i∈l,i < n)→l=(List.range n).filter fun i=>decide (i∈l):=by decide
theorem ES {cs:Cs}{r:Rl} (hr:qg cs r) (hc:vK cs):((List.range cs.length).filter fun i=>iq cs i==decide (i∈r.live)).isEmpty=decide (r.live=cV cs):=by
  rw[Bool.eq_iff_iff,List.isEmpty_iff,decide_eq_true_iff,List.filter_eq_nil_iff]
  constructor
  · intro h
    rw[E5 r.live hr.sub cs.length (Nat.lt_succ_of_le hc.le) hr.lt]
    refine List.filter_congr fun i hi=>?_
    have:=h i hi
    cases h1:iq cs i <;> cases h2:decide (i∈r.live) <;> rw[h1,h2] at this <;> first | rfl | exact absurd rfl this
  · intro h i hi
    have hm:decide (i∈r.live)=!iq cs i:=by
      rw[h,Bool.eq_iff_iff,decide_eq_true_iff]
      exact List.mem_filter.trans ⟨fun q=>q.2,fun q=>⟨hi,q⟩⟩
    rw[hm]
    cases iq cs i <;> decide
section
variable {j:Nat}{f i0 s0:Option V}{r:Rl}{H:Hp}
theorem E6 {i:Nat} (hi:i < P.ap.length) {M:Loc} (h:M[1]? = some (some (.int (i:Int)))) (h2:M[2]? = some (some (kz P))):(av aI (av aI (aa 2) (aa 1)) (ab (.int 0))) M H=some (.str (dX (P.ap.map (·.1)) i),H):=by
  rw[pS (i:=i) (x:=P.ap[i].1) (by rw[List.getElem?_map,List.getElem?_eq_getElem hi]; rfl)]
  exact ag (a:=az P.ap[i]) (ag (a:=kz P) (la h2) (la h) (ji hi)) rfl rfl
theorem L9 (h:Wf P) (hr:qg P.ap r):(af (av br (av br (ab (.str [60])) (tf ka (ab (.str [44])) (ae (c6 [none,none,some 0] lJ lz ld lp) aj))) (ab (.str [62]))) (aw 9)) (DB P j (some (or r.raw)) f (some (.tup (aH r.live))) (some (.lst (r.steps.map fA))) i0 s0) H=some (.next,DB P j (some (or r.raw)) f (some (.tup (aH r.live))) (some (.lst (r.steps.map fA))) (some (.str (60::(cB [44] (r.live.map (dX (P.ap.map (·.1))))++[62])))) s0,H):=by
  have hll:=BS _ hr.sub
  have c3:=dq (sel:=[none,none,some 0]) (it:=lJ) (a:=lz) (t:=ld) (f:=lp) (M:=DB P j (some (or r.raw)) f (some (.tup (aH r.live))) (some (.lst (r.steps.map fA))) i0 s0) (N:=[none,none,some (kz P)]) (H:=H) (fun M=>∃ x,M=[none,x,some (kz P)]) (fun i:Nat=>V.int (i:Int)) (V.str∘dX (P.ap.map (·.1))) r.live rfl rfl rfl ⟨none,rfl⟩ (Nat.le_trans hll (by decide)) fun M i hM hi=>by
    obtain⟨x,rfl⟩:=hM
    exact⟨[none,some (.int (i:Int)),some (kz P)],rfl,⟨_,rfl⟩,rfl,E6 (hr.lt i hi) rfl rfl⟩
  rw[← List.map_map] at c3
  have hq:=tg h.nl hr.lt hll
  generalize r.live.map (dX (P.ap.map (·.1)))=nms at c3 hq
  have hl:(([60]++cB [44] nms)++[62]).length≤34:=by rw[List.length_append,List.length_append,Nat.add_comm [60].length]; exact Nat.succ_le_succ (Nat.succ_le_succ hq.2.2)
  exact au (ag (ag (a := .str [60]) rfl (lO rfl (ak (cy c3) rfl) (qO (b:=7) (m:=4) hq.2.1 hq.1 (by decide) H)) (adds (eW hl) (by decide) H)) rfl (adds hl (by decide) H)) rfl
theorem LT {x:List Nat}:(cK (aG vEq (aW cL (aa 7)) (aW cL (aa 0))) (af (ab (.str [60,42,62])) (aw 9)) bj) (DB P j (some (or r.raw)) f (some (.tup (aH r.live))) (some (.lst (r.steps.map fA))) (some (.str x)) s0) H=some (.next,DB P j (some (or r.raw)) f (some (.tup (aH r.live))) (some (.lst (r.steps.map fA))) (some (.str (if r.live.length=P.ap.length then [60,42,62] else x))) s0,H):=by
  have et:(aG vEq (aW cL (aa 7)) (aW cL (aa 0))) (DB P j (some (or r.raw)) f (some (.tup (aH r.live))) (some (.lst (r.steps.map fA))) (some (.str x)) s0) H=some (r.live.length==P.ap.length,H):=
    ai (a := .int (r.live.length:Int)) (b := .int (P.ap.length:Int)) (ay (a := .tup (aH r.live)) rfl (congrArg (fun n:Nat=>some (V.int (n:Int))) (List.length_map ..))) (ay (a:=kz P) rfl sf) (congrArg some up)
  by_cases hq:r.live.length=P.ap.length
  · rw[beq_iff_eq.mpr hq] at et
    rw[if_pos hq]
    exact(if_true et).trans (au rfl rfl)
  · rw[beq_eq_false_iff_ne.mpr hq] at et
    rw[if_neg hq]
    exact(if_false et).trans rfl
noncomputable abbrev JC:TF:=(kM (aG uR (aa 5) (ab .none)) (u9 (aG vEq (av aI (aa 5) (ab (.int 0))) (ab (.str [60]))) (aG vEq (d9 (aa 5) pM (eO (ab (.int 2)))) (ab (.str [47,47])))))
theorem I2 (hr:qg P.ap r) {M:Loc} (h:M[5]? = some (some (or r.raw))):JC M H=some (told r.raw,H):=by
  have hraw:=hr.raw
  cases er:r.raw with
  | none=>
    rw[er] at h
    exact cQ (a:=false) (b:=false) (ai (a := .none) (la h) rfl rfl) (fun z=>nomatch z) (fun _=>rfl)
  | some x=>
    rw[er] at h
    have hne:=(vZ (hraw x er)).1
    cases x with
    | nil=>cases hne
    | cons c t=>exact cQ (a:=true) (b:=told (some (c::t))) (ai (a := .str (c::t)) (la h) rfl rfl) (fun _=>kG (ai (a := .str [c]) (ag (a := .str (c::t)) (la h) rfl rfl) rfl rfl) (fun _=>ai (a := .str ((c::t).take 2)) (jc (la h) rfl rfl rfl rfl) rfl rfl) (fun _=>rfl)) (fun z=>nomatch z)
theorem Mz (h:Wf P) (hr:qg P.ap r) {x:List Nat}:(cK (aG vEq (c6 [none,none,some 0,some 7] lw lE lH lF) (oLst aj)) (af (th JC (aa 9) (ab (.str []))) (aw 9)) bj) (DB P j (some (or r.raw)) f (some (.tup (aH r.live))) (some (.lst (r.steps.map fA))) (some (.str x)) s0) H=some (.next,DB P j (some (or r.raw)) f (some (.tup (aH r.live))) (some (.lst (r.steps.map fA))) (some (.str (if r.live=cV P.ap∧told r.raw=false then [] else x))) s0,H):=by
  have hl:P.ap.length≤1000:=Nat.le_trans h.cs.le (by decide)
  have et:=ai (op:=vEq) (cy (comp_map (sel:=[none,none,some 0,some 7]) (it:=lw) (a:=lE) (t:=lH) (f:=lF) (M:=DB P j (some (or r.raw)) f (some (.tup (aH r.live))) (some (.lst (r.steps.map fA))) (some (.str x)) s0) (N:=[none,none,some (kz P),some (.tup (aH r.live))]) (H:=H) (fun M=>∃ x,M=[none,x,some (kz P),some (.tup (aH r.live))]) (fun i:Nat=>V.int (i:Int)) (fun i:Nat=>V.int (i:Int)) (fun i=>iq P.ap i==decide (i∈r.live)) (List.range P.ap.length) (oL (tR rfl) hl) rfl rfl ⟨none,rfl⟩ (List.length_range.symm▸hl) fun M i hM hi=>by
      obtain⟨y,rfl⟩:=hM
      refine⟨[none,some (.int (i:Int)),some (kz P),some (.tup (aH r.live))],rfl,⟨_,rfl⟩,?_,fun _=>rfl⟩
      rw[uh (List.mem_range.mp hi)]
      exact ai (a := .bool (P.ap[i]'(List.mem_range.mp hi)).2) (ag (a:=az (P.ap[i]'(List.mem_range.mp hi))) (ag (a:=kz P) rfl rfl (ji (List.mem_range.mp hi))) rfl rfl) (ag (a := .int (i:Int)) rfl rfl (congrArg (Option.map V.bool) (wb H))) rfl))
    (show oLst aj (DB P j (some (or r.raw)) f (some (.tup (aH r.live))) (some (.lst (r.steps.map fA))) (some (.str x)) s0) H=some (.lst [],H) from rfl) (HK H)
  rw[ES hr h.cs] at et
  by_cases hp:r.live=cV P.ap
  · rw[decide_eq_true hp] at et
    have tt:=I2 hr (M:=DB P j (some (or r.raw)) f (some (.tup (aH r.live))) (some (.lst (r.steps.map fA))) (some (.str x)) s0) (H:=H) rfl
    cases ht:told r.raw with
    | true=>
      rw[ht] at tt
      rw[if_neg fun q=>nomatch q.2]
      exact(if_true et).trans (au (ite_true tt rfl) rfl)
    | false=>
      rw[ht] at tt
      rw[if_pos ⟨hp,rfl⟩]
      exact(if_true et).trans (au (ite_false tt rfl) rfl)
  · rw[decide_eq_false hp] at et
    rw[if_neg fun q=>hp q.1]
    exact(if_false et).trans rfl
theorem LJ (h:Wf P) (hr:qg P.ap r) {M:Loc} (hM:M[8]?.join=some (.lst (r.steps.map fA))) (hc:gL [none,none,none,none] M=true) (hi:inner [none,none,none,none] M=[none,none,none,none]):em [none,none,none,none] pf pb pe jd M H=some ((r.steps.map oX).map V.str,H):=by
  rw[List.map_map]
  refine dq (N:=[none,none,none,none]) (fun M=>∃ x y,M=[none,x,y,none]) fA (V.str∘oX) r.steps (lv ?_) hc hi ⟨none,none,rfl⟩ (Nat.le_trans hr.sl (by decide)) fun M s hM hs=>?_
  · unfold aa; rw[hM]; rfl
  · obtain⟨x,y,rfl⟩:=hM
    exact⟨[none,some (.str s.1),some s.2,none],rfl,⟨_,_,rfl⟩,rfl,IY h.nl (hr.HF.all s hs) H⟩
theorem IH {M:Loc} (h:M[5]? = some (some (or r.raw))):(th (aG uu (aa 5) (ab .none)) (ab (.str [60,60,69,79,70,62,62])) (aa 5)) M H=some (.str (pD r.raw),H):=by
  cases e:r.raw with
  | none=>
    rw[e] at h
    exact ite_true (ai (a := .none) (la h) rfl rfl) rfl
  | some x=>
    rw[e] at h
    exact ite_false (ai (a := .str x) (la h) rfl rfl) (la h)
theorem Kh (h:Wf P) (hrm:r∈P.rules) {acc:List V} (hj:H[j]? = some (.lst acc)) (hl:acc.length < 1048576):∃ i s,lA (DB P j (some (or r.raw)) f (some (.tup (aH r.live))) (some (.lst (r.steps.map fA))) i0 s0) H=some (.next,DB P j (some (or r.raw)) f (some (.tup (aH r.live))) (some (.lst (r.steps.map fA))) i s,H.set j (.lst (acc++[.str (bL P.ap r)]))):=by
  have hr:=h.rl r hrm
  have hlen:=wE hr h.cs h.nl
  have e3:bL P.ap r=((headOf P.ap r.live r.raw++pD r.raw)++[32])++cB [59,32] (r.steps.map oX):=by
    unfold bL cP
    rw[List.append_assoc,List.append_assoc]
    rfl
  rw[e3] at hlen ⊢
  exact⟨some (.str (headOf P.ap r.live r.raw)),some (.lst ((r.steps.map oX).map V.str)),(ac (L9 h hr)).trans ((ac LT).trans ((ac (Mz h hr)).trans ((ac (oJ (LJ h hr rfl rfl rfl))).trans (bz (cA rfl hj (ag (ag (ag (a := .str (headOf P.ap r.live r.raw)) rfl (IH rfl) (adds (eW (eW hlen)) (by decide) H)) rfl (adds (eW hlen) (by decide) H)) (lO rfl rfl (qO (sep:=[59,32]) (b:=14) (m:=3) (fun y hy=>(List.mem_map.mp hy).elim fun s q=>q.2▸ua h.nl (hr.HF.all s q.1)) ((List.length_map ..).symm▸hr.sl) (by decide) H)) (adds hlen (by decide) H)) hj hl)))))⟩
end
theorem Cv {a b:List (List Nat)} (h:(a++b).length≤11) (H:Hp):br (.lst (a.map V.str)) (.lst (b.map V.str)) H=some (.lst ((a++b).map V.str)):=by
  refine(if_pos ?_).trans (by rw[List.map_append])
  rw[List.length_map,List.length_map,← List.length_append]
  exact Nat.le_trans h (by decide)
theorem CF (h:Wf P) (H:Hp):∃ H',qh [kz P, .bool P.dj,ve P,mY P] H=some (.tup [.lst ((cS P).map V.str), .int (ahead P:Int)],H'):=by
  have hl:=oV h
  have c1:=dq (sel:=[none,none]) (it:=o8) (a:=ph) (t:=oY) (f:=pu) (M:=[some (kz P),some (.bool P.dj),some (ve P),some (mY P),none,none,none,none,none,none,none,none,none]) (N:=[none,none]) (H:=H) (fun M=>∃ x,M=[none,x]) az (V.str∘gH) P.more (eU (v := .lst (P.more.map az)) (vi (x:=az (eA,false)) rfl) rfl) rfl rfl ⟨none,rfl⟩ (Nat.le_trans (Nat.le_of_succ_le h.cs.le) (by decide)) fun M x hM hx=>by
    obtain⟨y,rfl⟩:=hM
    exact⟨[none,some (az x)],rfl,⟨_,rfl⟩,rfl,B8 (aU (v := .bool x.2) (ag (a:=az x) rfl rfl rfl) rfl) (ag (a:=az x) rfl rfl rfl) (EL h hx)⟩
  rw[← List.map_map] at c1
  have hopt:(th (cb (aa 1)) (oLst aj) (oLst (ae (ab (.str [37,111,112,116,105,111,110,32,110,111,100,101,102,97,117,108,116])) aj))) [some (kz P),some (.bool P.dj),some (ve P),some (mY P),none,none,none,none,none,none,none,none,none] H=some (.lst ((if P.dj then [] else [kS]:List (List Nat)).map V.str),H):=by
    cases P.dj with
    | true=>exact ite_true (aU (v := .bool true) rfl rfl) rfl
    | false=>exact ite_false (aU (v := .bool false) rfl rfl) rfl
  have c2:=dq (sel:=[none,none,none]) (it:=lB) (a:=lg) (t:=lu) (f:=lG) (M:=[some (kz P),some (.bool P.dj),some (ve P),some (mY P),some (.lst ((ym P).map V.str)),none,none,none,none,none,none,none,none]) (N:=[none,none,none]) (H:=H) (fun M=>∃ x y,M=[none,x,y]) (fun d:List Nat × List Nat=>V.tup [.str d.1, .str d.2]) (V.str∘iC) P.defs (lv rfl) rfl rfl ⟨none,none,rfl⟩ (Nat.le_trans h.dl (by decide)) fun M x hM hx=>by
    obtain⟨y,z,rfl⟩:=hM
    exact⟨[none,some (.str x.1),some (.str x.2)],rfl,⟨_,_,rfl⟩,rfl,Eo rfl rfl (HB h hx)⟩
  rw[← List.map_map] at c2
  have b2:=ag (op:=br) (f:=aa 4) (a := .lst ((ym P).map V.str)) rfl (cy c2) (Cv (eW (eW hl)) H)
  have ha:(Ew (av br (aa 4) (c6 [none,none,none] lB lg lu lG)) (oLst (ae (ab (.str [37,37])) aj))) [some (kz P),some (.bool P.dj),some (ve P),some (mY P),some (.lst ((ym P).map V.str)),none,none,none,none,none,none,none,none] H=some (.ref H.length,H++[Ob.lst ((tN P).map V.str)]):=by
    unfold Ew
    rw[b2,Option.bind_some,List.map_append (l₂:=[[37,37]])]
    refine if_pos ?_
    rw[List.length_map]
    exact Nat.le_trans (Nat.succ_le_succ (eW (eW hl))) (by decide)
  have hah:((tN P).map V.str).length=ahead P:=by
    rw[List.length_map]
    unfold ahead vh tN BA ym
    rw[List.length_append,List.append_assoc]
    rfl
  refine we (a:=pa) (b:=lA) (j:=H.length) (I:=fun M=>∃ e g i s t,M=DB P H.length e (some (.int (ahead P:Int))) g i s t) (J:=fun _=>True) (emb:=dD) (row:=bL P.ap) (xs:=P.rules) (A:=tN P) (M:=DB P H.length none (some (.int (ahead P:Int))) none none none none) (H:=H++[Ob.lst ((tN P).map V.str)]) (fun _ _ _ _=>trivial) (fun r hr M Hx acc hM _ hj hl=>by
    obtain⟨e,g,i,s,t,rfl⟩:=hM
    obtain⟨i1,s1,q⟩:=Kh (f:=some (.int (ahead P:Int))) (i0:=s) (s0:=t) h hr hj hl
    exact⟨_,rfl,_,q,_,_,_,_,_,rfl⟩) ⟨_,_,_,_,_,rfl⟩ trivial eV (Hv hl) fun M' H' q1 hM' _ r1=>?_
  obtain⟨e',g',i',s',t',rfl⟩:=hM'
  rw[← tJ] at r1
  unfold qh sS
  exact⟨_,aq rfl rfl ((ac (au (ag (cy c1) hopt (Cv (eW (eW (eW hl))) H)) rfl)).trans ((ac (au ha rfl)).trans ((ac (au (ay (a := .ref H.length) rfl ((v5 eV).trans (congrArg (fun n:Nat=>some (V.int (n:Int))) hah))) rfl)).trans ((ac (iY (it:=po) (lv rfl) q1)).trans (a8 (eJ (ak (lq rfl r1) rfl) (Nat.le_of_ble_eq_true rfl)))))))⟩
end
end Mine
end
section
namespace Mine
noncomputable def hV (l:List Int):List V:=l.map V.int
noncomputable def Src (H:Hp) (k b:Nat):Prop:=∃ (cells:List Int) (at_:Nat),cells≠[]∧cells.length≤60∧at_ + b≤1000∧H[k]? = some (.lst [.lst (hV cells), .int (at_:Int)])
theorem Src.keep {H H':Hp}{k a:Nat}{S:List Nat} (h:Src H k a) (q:aV S H H') (hk:k∉S):Src H' k a:=
  h.elim fun c h=>h.elim fun t h=>⟨c,t,h.1,h.2.1,h.2.2.1,q.at h.2.2.2 hk⟩
theorem Src.le {H:Hp}{k a b:Nat} (h:Src H k b) (q:a≤b):Src H k a:=
  h.elim fun c h=>h.elim fun t h=>⟨c,t,h.1,h.2.1,Nat.le_trans (Nat.add_le_add_left q t) h.2.2.1,h.2.2.2⟩
theorem Src.lt {H:Hp}{k a:Nat} (h:Src H k a):k < H.length:=h.elim fun c h=>h.elim fun t h=>gW h.2.2.2
theorem An {l:List V}{i:Nat}{v:V} (hv:l[i]? = some v):wa l (i:Int)=some v:=by
  unfold wa
  rw[if_pos (Int.natCast_nonneg _),Int.toNat_natCast,hv]
theorem Ck {H:Hp}{j:Nat}{l:List V}{i:Nat}{v:V} (h:H[j]? = some (.lst l)) (hv:l[i]? = some v):aI (.ref j) (.int (i:Int)) H=some v:=by
  have e:aI (.ref j) (.int (i:Int)) H=(cw (.ref j) H).bind fun l=>wa l (i:Int):=rfl
  rw[e,eE.mpr h,Option.bind_some,An hv]
theorem A9 {H:Hp}{l:List V}{i:Nat}{v:V} (hv:l[i]? = some v):aI (.lst l) (.int (i:Int)) H=some v:=An hv
theorem item_tup {H:Hp}{l:List V}{i:Nat}{v:V} (hv:l[i]? = some v):aI (.tup l) (.int (i:Int)) H=some v:=An hv
theorem AX {a b:Nat} (hb:0 < b) (H:Hp):yM (.int (a:Int)) (.int (b:Int)) H=some (.int ((a % b:Nat):Int)):=by
  have e:(a:Int).fmod (b:Int)=((a % b:Nat):Int):=Int.fmod_eq_emod_of_nonneg _ (Int.natCast_nonneg _)
  exact(if_pos (Int.ofNat_lt.mpr hb)).trans (by rw[e])
theorem IB {a:Int}{b:Nat} (hb:0 < b) (H:Hp):yM (.int a) (.int (b:Int)) H=some (.int (a.fmod (b:Int))):=if_pos (Int.ofNat_lt.mpr hb)
theorem EC {a b:Nat} (hb:0 < b) (ha:a < 1048576) (hb2:b < 1048576) (H:Hp):GK (.int (a:Int)) (.int (b:Int)) H=some (.int ((a / b:Nat):Int)):=by
  have e:(a:Int).fdiv (b:Int)=((a / b:Nat):Int):=Int.fdiv_eq_ediv_of_nonneg _ (Int.natCast_nonneg _)
  exact(if_pos ⟨Int.ofNat_lt.mpr hb,ha,Int.ofNat_lt.mpr hb2⟩).trans (by rw[e])
theorem LI {H:Hp}{k:Nat}{a b v:V} (h:H[k]? = some (.lst [a,b])):putAt (.ref k) (.int 1) v H=some (H.set k (.lst [a,v])):=by
  unfold putAt
  dsimp only
  rw[h]
  rfl
theorem kP {H:Hp}{k b n:Nat} (h:Src H k (b + 1)) (hn:0 < n) {C:Prop} (K:∀ (d:Nat) (H':Hp),b4 [.ref k, .int (n:Int)] H=some (.int (d:Int),H')→d < n→Src H' k b→aV [k] H H'→C):C:=by
  obtain⟨cells,t,h1,h2,h3,h4⟩:=h
  have hc:0 < cells.length:=List.length_pos_iff.mpr h1
  have hlt:t % cells.length < cells.length:=Nat.mod_lt _ hc
  have ht:t < 1048576:=Nat.lt_of_le_of_lt (Nat.le_trans (Nat.le_add_right t (b + 1)) h3) (by decide)
  have hb:cells.length < 1048576:=Nat.lt_of_le_of_lt h2 (by decide)
  have hx0:=Int.fmod_nonneg_of_pos (cells[t % cells.length] + 13 * ((t / cells.length:Nat):Int)) (Int.ofNat_lt.mpr hn)
  have hxn:=Int.fmod_lt_of_pos (cells[t % cells.length] + 13 * ((t / cells.length:Nat):Int)) (Int.ofNat_lt.mpr hn)
  have hxe:=Int.toNat_of_nonneg hx0
  refine K ((cells[t % cells.length] + 13 * ((t / cells.length:Nat):Int)).fmod (n:Int)).toNat (H.set k (.lst [.lst (hV cells), .int ((t:Int) + 1)])) ?_ ((Int.toNat_lt hx0).mpr hxn) ⟨cells,t + 1,h1,h2,(Nat.succ_add_eq_add_succ t b).symm▸h3,(b7 h4).trans (congrArg (fun i=>some (Ob.lst [.lst (hV cells), .int i])) (Int.natCast_add t 1).symm)⟩ (aV.set in1)
  rw[hxe]
  have hlen:∀ H,cL (.lst (hV cells)) H=some (.int (cells.length:Int)):=fun H=>congrArg (fun n:Nat=>some (V.int (n:Int))) (List.length_map ..)
  have hi:(hV cells)[t % cells.length]? = some (.int cells[t % cells.length]):=by
    unfold hV
    rw[List.getElem?_map,List.getElem?_eq_getElem hlt]
    rfl
  have ha:(13:Int).natAbs < 1048576∧((t / cells.length:Nat):Int).natAbs < 1048576:=⟨by decide,Nat.lt_of_le_of_lt (Nat.div_le_self _ _) ht⟩
  unfold b4 sR
  exact aq rfl rfl ((ac (wm (eJ (ak (ag (a := .ref k) rfl rfl (Ck (i:=0) h4 rfl)) (ak (ag (a := .ref k) rfl rfl (Ck (i:=1) h4 rfl)) rfl)) (Nat.le_of_ble_eq_true rfl)) rfl rfl)).trans ((ac (au (v := .int ((t:Int) + 1)) (ag (a := .int (t:Int)) rfl rfl rfl) (congrArg (Option.map _) (LI h4)))).trans
    (a8 (ag (ag (ag (a := .lst (hV cells)) rfl (ag (a := .int (t:Int)) (b := .int (cells.length:Int)) rfl (ay rfl (hlen _)) (AX hc _)) (A9 hi)) (ag (a := .int 13) rfl (ag (a := .int (t:Int)) (b := .int (cells.length:Int)) rfl (ay rfl (hlen _)) (EC hc ht hb _)) (if_pos ha)) rfl) rfl (IB hn _)))))
inductive F2 {α β:Type} (R:α→β→Prop):List α→List β→Prop
  | nil:F2 R [] []
  | cons {x:α}{y:β}{xs:List α}{ys:List β}:R x y→F2 R xs ys→F2 R (x::xs) (y::ys)
theorem F2.len {α β:Type}{R:α→β→Prop}{xs:List α}{ys:List β} (h:F2 R xs ys):ys.length=xs.length:=
  F2.rec (motive:=fun(xs:List α) (ys:List β) _=>ys.length=xs.length) rfl (fun {_ _ _ _} _ _ ih=>congrArg (· + 1) ih) h
theorem FN {β:Type}{a:AF}{b:SF}{k j c q d:Nat}{I:Loc→Prop}{g:β→V}{R:Nat→β→Prop} (h:∀ t < d,∀ n M H acc,I M→Src H k (c + (q * n + q))→H[j]? = some (.lst acc)→acc.length < 1048576→
    ∀ C:Prop,(∀ y M1 M2 H2,a (.int (t:Int)) M H=some (M1,H)→b M1 H=some (.next,M2,H2)→I M2→Src H2 k (c + q * n)→H2[j]? = some (.lst (acc++[g y]))→aV [k,j] H H2→R t y→C)→C)
    {C:Prop} (xs:List Nat):(∀ t∈xs,t < d)→∀ (M:Loc) (H:Hp) (acc:List V),I M→Src H k (c + q * xs.length)→H[j]? = some (.lst acc)→acc.length + xs.length≤1000→
    (∀ ys M' H',forL a b (aH xs) M H=some (.next,M',H')→I M'→Src H' k c→H'[j]? = some (.lst (acc++ys.map g))→aV [k,j] H H'→F2 R xs ys→C)→C:=by
  induction xs with
  | nil=>exact fun _ M H acc hI hs hj _ K=>K [] M H rfl hI hs ((List.append_nil acc).symm▸hj) aV.refl .nil
  | cons x xs ih=>
    refine fun hx M H acc hI hs hj hl K=>h x (hx x List.mem_cons_self) xs.length M H acc hI hs hj (Nat.lt_of_le_of_lt (Nat.le_trans (Nat.le_add_right _ _) hl) (by decide)) C fun y M1 M2 H2 e1 e2 i2 s2 j2 k2 r=>
      ih (fun t ht=>hx t (List.mem_cons_of_mem _ ht)) M2 H2 (acc++[g y]) i2 s2 j2 (by rw[List.length_append,Nat.add_assoc]; exact(Nat.add_comm 1 xs.length).symm▸hl) fun ys M' H' e i' s' j' k' r'=>
      K (y::ys) M' H' ?_ i' s' (by rw[List.append_assoc] at j'; exact j') (k2.trans k') (.cons r r')
    show forL a b (.int (x:Int)::aH xs) M H=_
    unfold forL
    rw[e1,Option.bind_some]
    dsimp only
    rw[e2,Option.bind_some]
    exact e
theorem sk {β:Type}{a:AF}{b:SF}{k j c q d:Nat}{I:Loc→Prop}{g:β→V}{R:Nat→β→Prop}{M:Loc}{H:Hp}{acc:List V} (hI:I M) (hs:Src H k (c + q * d)) (hj:H[j]? = some (.lst acc)) (hl:acc.length + d≤1000)
    (h:∀ t < d,∀ n M H acc,I M→Src H k (c + (q * n + q))→H[j]? = some (.lst acc)→acc.length < 1048576→
    ∀ C:Prop,(∀ y M1 M2 H2,a (.int (t:Int)) M H=some (M1,H)→b M1 H=some (.next,M2,H2)→I M2→Src H2 k (c + q * n)→H2[j]? = some (.lst (acc++[g y]))→aV [k,j] H H2→R t y→C)→C)
    {C:Prop} (K:∀ ys M' H',forL a b (aH (List.range d)) M H=some (.next,M',H')→I M'→Src H' k c→H'[j]? = some (.lst (acc++ys.map g))→aV [k,j] H H'→F2 R (List.range d) ys→C):C:=
  FN h (List.range d) (fun t ht=>List.mem_range.mp ht) M H acc hI (List.length_range.symm▸hs) hj (List.length_range.symm▸hl) K
end Mine
end
section
namespace Mine
noncomputable def Ca (nms:List (List Nat)):V := .lst (nms.map V.str)
noncomputable abbrev FT (k j m:Nat) (nms:List (List Nat)) (e:Bool) (t s w v:Option V):Loc:=[some (.ref k),some (Ca nms),some (.bool e),some (.ref j),some (.int (m:Int)),t,s,w,v,none,none,none,none]
noncomputable def f6 (d:Nat):List Nat:=tq[d]?.getD []
noncomputable abbrev Jb:SF:=(cK (aG vEq (aa 7) (ab (.str [114,101,116,117,114,110]))) (af (av aI (oTup (ae (ab (.str [75,73,78,68])) (ae (ab (.str [39,59,39])) aj))) (aa 6)) (aw 8)) (cK (aG pN (aa 7) (oTup (ae (ab (.str [98,101,103,105,110])) (ae (ab (.str [112,117,115,104])) aj)))) (af (av aI (aa 1) (av yM (aa 5) (aW cL (aa 1)))) (aw 8)) (cK (aG vEq (aa 7) (ab (.str [108,101,115,115]))) (af (av br (ab (.int 12)) (aa 5)) (aw 8)) bj)))
theorem D0 {nms:List (List Nat)} (hn:nms≠[]) {k j m t:Nat}{e:Bool}{s w v:Option V}{H:Hp}{C:Prop} (K:∀ n,n∈nms→(av aI (aa 1) (av yM (aa 5) (aW cL (aa 1)))) (FT k j m nms e (some (.int (t:Int))) s w v) H=some (.str n,H)→C):C:=by
  have hc:0 < nms.length:=List.length_pos_iff.mpr hn
  have hlt:t % nms.length < nms.length:=Nat.mod_lt _ hc
  refine K nms[t % nms.length] (List.getElem_mem hlt) (ag (a:=Ca nms) rfl (ag (a := .int (t:Int)) (b := .int (nms.length:Int)) rfl (ay (a:=Ca nms) rfl sf) (AX hc _)) (A9 ?_))
  rw[List.getElem?_map,List.getElem?_eq_getElem hlt]; rfl
section
variable {nms:List (List Nat)}{k j m:Nat}{e:Bool}{t s v:Option V}{H:Hp}
theorem w_eq {w x:List Nat}{b:Bool} (hb:(w==x)=b):(aG vEq (aa 7) (ab (.str x))) (FT k j m nms e t s (some (.str w)) v) H=some (b,H):=ai rfl rfl (congrArg some hb)
theorem EU {w:List Nat}{g:LF}{l:List (List Nat)}{b:Bool} (hg:oTup g (FT k j m nms e t s (some (.str w)) v) H=some (.tup (l.map V.str),H)) (hb:decide (w∈l)=b):(aG pN (aa 7) (oTup g)) (FT k j m nms e t s (some (.str w)) v) H=some (b,H):=ai rfl hg ((xi H).trans (congrArg some hb))
end
theorem words_of:∀ d < 10,tq[d]? = some (f6 d)∧(f6 d∈eK∨d=0∨d=1∨f6 d=eH∨f6 d=iA∨f6 d=gv):=by decide
theorem Cx:∀ w∈eK,(w==bR)=false∧decide (w∈[eH,iA])=false∧(w==gv)=false:=by decide
theorem I6:∀ t:Nat,t < 3→12 + (t:Int)∈[12,13,14]:=by decide
theorem Ih {nms:List (List Nat)} (hn:nms≠[]) {k j m t:Nat}{e:Bool} (ht:t < 3) {H:Hp}{d:Nat} (hd:d < 10) {C:Prop} (K:∀ v,Jb (FT k j m nms e (some (.int (t:Int))) (some (.int (d:Int))) (some (.str (f6 d))) (some .none)) H=some (.next,FT k j m nms e (some (.int (t:Int))) (some (.int (d:Int))) (some (.str (f6 d))) (some v),H)→eY nms (f6 d) v→C):C:=by
  rcases(words_of d hd).2 with h | rfl | rfl | h | h | h
  · have q:=Cx _ h
    exact K _ ((if_false (w_eq q.1)).trans ((if_false (EU (l:=[eH,iA]) rfl q.2.1)).trans ((if_false (w_eq q.2.2)).trans rfl))) (.plain h)
  · exact K _ ((if_true (w_eq rfl)).trans (au (ag (a := .tup [.str [75,73,78,68], .str [39,59,39]]) (b := .int 0) rfl rfl rfl) rfl)) .kind
  · exact K _ ((if_true (w_eq rfl)).trans (au (ag (a := .tup [.str [75,73,78,68], .str [39,59,39]]) (b := .int 1) rfl rfl rfl) rfl)) .quote
  · rw[h] at K
    exact D0 hn fun n hm q=>K _ ((if_false (w_eq rfl)).trans ((if_true (EU (l:=[eH,iA]) rfl rfl)).trans (au q rfl))) (.begin hm)
  · rw[h] at K
    exact D0 hn fun n hm q=>K _ ((if_false (w_eq rfl)).trans ((if_true (EU (l:=[eH,iA]) rfl rfl)).trans (au q rfl))) (.push hm)
  · rw[h] at K
    exact K _ ((if_false (w_eq rfl)).trans ((if_false (EU (l:=[eH,iA]) rfl rfl)).trans ((if_true (w_eq rfl)).trans (au (ag (a := .int 12) (b := .int (t:Int)) rfl rfl rfl) rfl)))) (.less (I6 t ht))
noncomputable def GF (nms:List (List Nat)) (e:Bool) (m:Nat) (t:Nat) (y:oP):Prop:=eY nms y.1 y.2∧(t + 1 < m→wl y.1)∧(e=true→y.1∉[qx,gv,fv])
noncomputable abbrev Jt:TF:=(u9 (kM (cb (aa 2)) (aG pN (aa 7) (oTup (ae (ab (.str [109,111,114,101])) (ae (ab (.str [108,101,115,115])) (ae (ab (.str [114,101,106,101,99,116])) aj)))))) (kM (aG Ao (av br (aa 5) (ab (.int 1))) (aa 4)) (aG pN (aa 7) (oTup (ae (ab (.str [114,101,116,117,114,110])) (ae (ab (.str [114,101,106,101,99,116])) aj))))))
theorem Ip {nms:List (List Nat)}{k j m t:Nat}{e:Bool}{s v:Option V}{w:List Nat}{H:Hp}:Jt (FT k j m nms e (some (.int (t:Int))) s (some (.str w)) v) H=some ((e&&decide (w∈[qx,gv,fv]))||(decide (t + 1 < m)&&decide (w∈[bR,fv])),H):=
  kG (cQ (aU (v := .bool e) rfl rfl) (fun _=>EU (l:=[qx,gv,fv]) rfl rfl) (fun _=>rfl)) (fun _=>cQ (ai (a := .int ((t:Int) + 1)) (b := .int (m:Int)) (ag rfl rfl rfl) rfl (congrArg some (decide_eq_decide.mpr Int.ofNat_lt))) (fun _=>EU (l:=[bR,fv]) rfl rfl) (fun _=>rfl)) (fun _=>rfl)
theorem JS {nms:List (List Nat)}{k j m t:Nat}{e:Bool}{v:Option V}{H:Hp}{d:Nat} (hd:d < 10) {C:Prop} (K:∀ d':Nat,d' < 10→(cK Jt (af (oTup (ae (ab (.str [115,107,105,112])) (ae (ab (.int 2)) aj))) (mF (bN (aw 7) (bN (aw 6) mC)))) bj) (FT k j m nms e (some (.int (t:Int))) (some (.int (d:Int))) (some (.str (f6 d))) v) H=some (.next,FT k j m nms e (some (.int (t:Int))) (some (.int (d':Int))) (some (.str (f6 d'))) v,H)→(t + 1 < m→wl (f6 d'))→(e=true→f6 d'∉[qx,gv,fv])→C):C:=by
  have et:=Ip (nms:=nms) (k:=k) (j:=j) (m:=m) (t:=t) (e:=e) (s:=some (.int (d:Int))) (v:=v) (w:=f6 d) (H:=H)
  cases hb:(e&&decide (f6 d∈[qx,gv,fv]))||(decide (t + 1 < m)&&decide (f6 d∈[bR,fv])) with
  | true=>
    rw[hb] at et
    exact K 2 (by decide) ((if_true et).trans rfl) (fun _=>⟨by decide,by decide⟩) (fun _=>by decide)
  | false=>
    rw[hb] at et
    have q:=Bool.or_eq_false_iff.mp hb
    refine K d hd ((if_false et).trans rfl) (fun h=>?_) (fun h z=>?_)
    · have q2:=q.2
      rw[decide_eq_true h] at q2
      have q3:=of_decide_eq_false q2
      exact⟨fun z=>q3 (List.mem_cons.mpr (.inl z)),fun z=>q3 (List.mem_cons.mpr (.inr (List.mem_singleton.mpr z)))⟩
    · have q1:=q.1
      rw[h,decide_eq_true z] at q1
      cases q1
theorem HJ {nms:List (List Nat)} (hn:nms≠[]) {k j m t b n:Nat}{e:Bool} (ht:t < 3) {H:Hp}{acc:List V}{s w v:Option V} (hs:Src H k (b + 1)) (hj:H[j]? = some (.lst acc)) (hkj:j≠k) (hl:acc.length < 1048576) {C:Prop}
    (K:∀ y s' w' v' H2,kl (FT k j m nms e (some (.int (t:Int))) s w v) H=some (.next,FT k j m nms e (some (.int (t:Int))) s' w' v',H2)→Src H2 k b→H2[j]? = some (.lst (acc++[fA y]))→aV [k,j] H H2→GF nms e m t y→C):C:=
  kP (n:=10) hs (by decide) fun d H1 q1 hd hs1 k1=>JS (nms:=nms) (j:=j) (m:=m) (t:=t) (e:=e) (v:=v) (H:=H1) hd fun d' hd' s3 hA hB=>Ih hn ht hd' fun v' s5 hok=>
    have hj1:=k1.at hj (pn hkj)
    K (f6 d',v') _ _ _ _ ((ac (au (dL rfl q1) rfl)).trans ((ac (au (ag (a := .tup (tq.map V.str)) (b := .int (d:Int)) rfl rfl (item_tup (List.getElem?_map.trans (congrArg (Option.map V.str) (words_of d hd).1)))) rfl)).trans ((ac s3).trans ((ac (au rfl rfl)).trans ((ac s5).trans (bz (cA rfl hj1 (eJ (ak rfl (ak rfl rfl)) (Nat.le_of_ble_eq_true rfl)) hj1 hl)))))))
      (hs1.keep (aV.set in1) (pn hkj.symm)) (b7 hj1) (k1.DQ.trans (aV.set G5)) ⟨hok,hA,hB⟩
theorem F2.inv {α β:Type}{R:α→β→Prop}{x:α}{xs:List α}{ys:List β} (h:F2 R (x::xs) ys) {C:Prop} (K:∀ y ys',ys=y::ys'→R x y→F2 R xs ys'→C):C:=by
  cases h with | cons r s=>exact K _ _ rfl r s
theorem F2.nil_inv {α β:Type}{R:α→β→Prop}{ys:List β} (h:F2 R [] ys):ys=[]:=by cases h; rfl
theorem G1 {nms:List (List Nat)}{e:Bool}{m:Nat} (n:Nat):∀ (t:Nat) (ys:List oP),t + n=m→F2 (GF nms e m) (List.range' t n) ys→gI nms ys:=by
  induction n with
  | zero=>exact fun t ys _ h=>h.nil_inv▸trivial
  | succ n ih=>
    refine fun t ys hm h=>F2.inv h fun y ys' e r s=>?_
    have hm2:t + 1 + n=m:=(Nat.succ_add_eq_add_succ t n).trans hm
    subst e
    cases n with
    | zero=>exact s.nil_inv▸r.1
    | succ n=>
      have q:=ih (t + 1) ys' hm2 s
      refine F2.inv s fun y2 ys2 e2 _ _=>?_
      subst e2
      exact⟨r.1,r.2.1 (hm2▸Nat.lt_add_of_pos_right (Nat.succ_pos n)),q⟩
theorem Au {α β:Type}{R:α→β→Prop}{Q:β→Prop} (hq:∀ x y,R x y→Q y) {xs:List α}{ys:List β} (h:F2 R xs ys):∀ y∈ys,Q y:=
  F2.rec (motive:=fun(_:List α) (ys:List β) _=>∀ y∈ys,Q y) (fun _ h=>nomatch h) (fun {_ _ _ _} r _ ih z h=>(List.mem_cons.mp h).elim (fun e=>e▸hq _ _ r) (ih z)) h
theorem CB {nms:List (List Nat)} (hn:nms≠[]) {k b:Nat}{e:Bool}{H:Hp} (hs:Src H k (b + 4)) {C:Prop}
    (K:∀ steps H',oF [.ref k,Ca nms, .bool e] H=some (.lst (steps.map fA),H')→gI nms steps→steps≠[]→steps.length≤3→(e=true→∀ x∈steps,x.1∉[qx,gv,fv])→Src H' k b→aV [k] H H'→C):C:=
  have hk:H.length≠k:=(Nat.ne_of_lt hs.lt).symm
  kP (n:=3) (hs.keep (S:=[]) (aV.app (G:=[Ob.lst []])) List.not_mem_nil) (by decide) fun d H1 q1 hd hs1 k1=>
  have hm:1 + d≤3:=(Nat.add_comm 1 d).symm▸hd
  sk (a:=nO) (b:=kl) (c:=b) (q:=1) (d:=1 + d) (I:=fun M=>∃ t s w v,M=FT k H.length (1 + d) nms e t s w v) (R:=GF nms e (1 + d)) (g:=fA) (M:=FT k H.length (1 + d) nms e none none none none) (acc:=[]) ⟨_,_,_,_,rfl⟩ (hs1.le (Nat.add_le_add_left ((Nat.one_mul _).symm▸hm) b)) (k1.at eV (pn hk)) (Nat.le_trans (Nat.le_of_eq (Nat.zero_add _)) (Nat.le_trans hm (by decide)))
    (fun t ht n M Hx acc hM hsx hj hl C K=>by
      obtain⟨t0,s,w,v,rfl⟩:=hM
      exact HJ (n:=n) hn (Nat.lt_of_lt_of_le ht hm) hsx hj hk hl fun y s' w' v' H2 z1 z2 z3 z4 z5=>K y _ _ H2 rfl z1 ⟨_,_,_,_,rfl⟩ z2 z3 z4 z5)
    fun ys M' H2 q2 hM hs2 r2 k2 f2=>by
      obtain⟨t',s',w',v',rfl⟩:=hM
      have hlen:ys.length=1 + d:=f2.len.trans List.length_range
      have hmv:br (.int 1) (.int (d:Int)) H1=some (.int ((1 + d:Nat):Int)):=Es 1 d H1
      refine K ys (H2.set H.length .dead) ?_ (G1 (1 + d) 0 ys (Nat.zero_add _) (List.range_eq_range'▸f2)) (fun z=>absurd (hlen.symm.trans (congrArg List.length z)) ((Nat.add_comm 1 d).symm▸Nat.succ_ne_zero d)) (hlen.symm▸hm) (fun he=>Au (fun x y r=>r.2.2 he) f2) (hs2.keep (aV.set in1) (pn hk.symm)) (((aV.app.trans k1.DQ).trans (k2.trans (aV.set G5))).mono fun x hx=>?_)
      · unfold oF rz
        exact aq rfl rfl ((ac (wm (l:=[.ref H.length, .int ((1 + d:Nat):Int)]) (eJ (ak (a := .ref H.length) (H1:=H++[.lst []]) rfl (ak (ag (a := .int 1) (b := .int (d:Int)) rfl (dL rfl q1) hmv) rfl)) (Nat.le_of_ble_eq_true rfl)) rfl rfl)).trans ((ac (iY (oL (ak rfl rfl) (Nat.le_trans hm (by decide))) q2)).trans (a8 (lq rfl r2))))
      · exact(List.mem_cons.mp hx).imp List.mem_singleton.mpr fun e=>Nat.le_of_eq (List.mem_singleton.mp e).symm
end Mine
end
section
namespace Mine
noncomputable def gS:List (List Nat):=[[65],[66,95,50],[99,51]]
noncomputable def defNames:List (List Nat):=[[68],[101,95,49]]
noncomputable def Ej:List (List Nat):=[[],[105,110,116,32,109,97,105,110,40,41,32,123,125,10],[37,37,10,109,111,114,101],[10],[32,32,120]]
theorem uk {nms:List (List Nat)}{t:Nat} (ht:t < nms.length):(nms.map V.str)[t]? = some (.str (dX nms t)):=by
  unfold dX
  rw[List.getElem?_map,List.getElem?_eq_getElem ht]
  rfl
noncomputable abbrev Mp (k:Nat) (a b c d e f g h i j l m:Option V):Loc:=[some (.ref k),a,b,c,d,e,f,g,h,i,j,l,m,none,none,none,none,none,none,none]
theorem Iz {k j t b:Nat} (ht:t < 3) {H:Hp}{acc:List V}{c d e f g h i w l m:Option V} (hs:Src H k (b + 1)) (hj:H[j]? = some (.lst acc)) (hkj:j≠k) (hl:acc.length < 1048576) {C:Prop}
    (K:∀ (y:List Nat × Bool) (H2:Hp),jY (Mp k (some (.ref j)) (some (.int (t:Int))) c d e f g h i w l m) H=some (.next,Mp k (some (.ref j)) (some (.int (t:Int))) c d e f g h i w l m,H2)→Src H2 k b→H2[j]? = some (.lst (acc++[az y]))→aV [k,j] H H2→y.1=dX gS t→C):C:=
  kP (n:=2) hs (by decide) fun d' H1 q1 hd hs1 k1=>
    have hj1:=k1.at hj (pn hkj)
    K (dX gS t,(d':Int)==1) _ (bz (cA rfl hj (eJ (ak (ag (a := .tup (gS.map V.str)) (b := .int (t:Int)) rfl rfl (item_tup (uk ht))) (ak (ag (a := .int (d':Int)) (b := .int 1) (dL rfl q1) rfl rfl) rfl)) (Nat.le_of_ble_eq_true rfl)) hj1 hl)) (hs1.keep (aV.set in1) (pn hkj.symm)) (b7 hj1) (k1.DQ.trans (aV.set G5)) rfl
noncomputable def KO (d:List Nat × List Nat):V := .tup [.str d.1, .str d.2]
theorem I9 {k j t b:Nat} (ht:t < 2) {H:Hp}{acc:List V}{a c e f g h i w l m:Option V} (hs:Src H k (b + 1)) (hj:H[j]? = some (.lst acc)) (hkj:j≠k) (hl:acc.length < 1048576) {C:Prop}
    (K:∀ (y:List Nat × List Nat) (H2:Hp),jT (Mp k a (some (.int (t:Int))) c (some (.ref j)) e f g h i w l m) H=some (.next,Mp k a (some (.int (t:Int))) c (some (.ref j)) e f g h i w l m,H2)→Src H2 k b→H2[j]? = some (.lst (acc++[KO y]))→aV [k,j] H H2→y.1=dX defNames t→y.2∈jb→C):C:=
  kP (n:=12) hs (by decide) fun d' H1 q1 hd hs1 k1=>
    have hj1:=k1.at hj (pn hkj)
    K (dX defNames t,dX jb d') _ (bz (cA rfl hj (eJ (ak (ag (a := .tup (defNames.map V.str)) (b := .int (t:Int)) rfl rfl (item_tup (uk ht))) (ak (ag (a := .tup (jb.map V.str)) (b := .int (d':Int)) rfl (dL rfl q1) (item_tup (uk hd))) rfl)) (Nat.le_of_ble_eq_true rfl)) hj1 hl)) (hs1.keep (aV.set in1) (pn hkj.symm)) (b7 hj1) (k1.DQ.trans (aV.set G5)) rfl (lU hd)
noncomputable def bitAt (code i:Nat):Bool:=code / 2 ^ i % 2==1
noncomputable def D3 (n code:Nat):List Nat:=(List.range n).filter (bitAt code)
theorem zi:∀ n < 5,0 < 2 ^ n∧2 ^ n < 1048576∧((2 ^ n:Nat):Int) - 1=((2 ^ n - 1:Nat):Int):=by decide
theorem Hw:∀ n < 5,0 < n→0 < 2 ^ n - 1:=by decide
theorem Ig:∀ n < 5,∀ x < 2 ^ n - 1,1 + x < 16∧D3 n (1 + x)∈eN∧D3 n (1 + x)≠[]:=by decide +kernel
theorem KU {i:Nat} (h:i < 5) (H:Hp):FM (.int 2) (.int (i:Int)) H=some (.int ((2 ^ i:Nat):Int)):=
  (if_pos ⟨rfl,Int.natCast_nonneg _,Int.ofNat_lt.mpr (Nat.lt_trans h (by decide))⟩).trans (congrArg (fun i=>some (V.int i)) (Int.natCast_pow 2 i).symm)
theorem Kg {code i:Nat} (hc:code < 16) (hi:i < 5) (H:Hp):jN [none,some (.int (i:Int)),some (.int (code:Int))] H=some (bitAt code i,H):=
  have q:=zi i hi
  ai (b := .int 1) (ag (b := .int 2) (ag (a := .int (code:Int)) rfl (ag (a := .int 2) (b := .int (i:Int)) rfl rfl (KU hi H)) (EC q.1 (Nat.lt_trans hc (by decide)) q.2.1 H)) rfl (AX (b:=2) (by decide) H)) rfl (congrArg some (up (y:=1)))
noncomputable abbrev Me:SF:=(cK (aG JG (aa 10) (ab (.int 0))) (al (af (av br (ab (.int 1)) (pg b4 (ae (aa 0) (ae (av Gl (av FM (ab (.int 2)) (aW cL (aa 6))) (ab (.int 1))) aj)))) (aw 12)) (af (aW jE (c6 [none,none,some 12] ng nu jN nY)) (aw 11))) bj)
noncomputable abbrev AL (cs:Cs):Prop:=∃ m,cs=(eA,false)::m
theorem GH {cs:Cs} (h:AL cs):cV cs≠[]:=by
  obtain⟨m,rfl⟩:=h
  intro e
  have:0∈cV ((eA,false)::m):=by
    unfold cV
    rw[List.mem_filter,List.mem_range]
    exact⟨Nat.succ_pos _,rfl⟩
  rw[e] at this
  cases this
theorem Hf {cs:Cs}:∀ i∈cV cs,i < cs.length:=fun i hi=>List.mem_range.mp (List.mem_filter.mp hi).1
noncomputable abbrev Mq (cs:Cs) (k j:Nat) (b c d h i w l m:Option V):Loc:=Mp k (some (.lst (cs.map az))) b c d (some (.ref j)) (some (Ca (cs.map (·.1)))) (some (.tup (aH (cV cs)))) h i w l m
theorem KL {cs:Cs}{k j:Nat}{b c d h i w l m:Option V}{H:Hp}:(aW cL (aa 6)) (Mq cs k j b c d h i w l m) H=some (.int (cs.length:Int),H):=
  ay (a:=Ca (cs.map (·.1))) rfl (sf.trans (congrArg (fun n:Nat=>some (V.int (n:Int))) (List.length_map ..)))
theorem JN {cs:Cs} (hc:vK cs) (h0:AL cs) {k j b d3:Nat}{x c d h i m:Option V}{H:Hp} (hs:Src H k (b + 1)) {C:Prop}
    (K:∀ (live:List Nat) (m':Option V) (H':Hp),Me (Mq cs k j x c d h i (some (.int (d3:Int))) (some (.tup (aH (cV cs)))) m) H=some (.next,Mq cs k j x c d h i (some (.int (d3:Int))) (some (.tup (aH live))) m',H')→Src H' k b→aV [k] H H'→live∈eN→live≠[]→(∀ i∈live,i < cs.length)→C):C:=by
  have h4:cs.length < 5:=Nat.lt_succ_of_le hc.le
  have hn:0 < cs.length:=h0.elim fun m e=>e▸Nat.succ_pos _
  cases d3 with
  | zero=>exact K (cV cs) m H ((if_false (ai (a := .int 0) (b := .int 0) rfl rfl rfl)).trans rfl) (hs.le (Nat.le_succ _)) aV.refl (FG hc.le) (GH h0) Hf
  | succ d3=>
    refine kP (n:=2 ^ cs.length - 1) hs (Hw cs.length h4 hn) fun y H1 q1 hy hs1 k1=>?_
    have q2:=Ig cs.length h4 y hy
    refine K (D3 cs.length (1 + y)) (some (.int ((1 + y:Nat):Int))) H1 ?_ hs1 k1 q2.2.1 q2.2.2 fun i hi=>List.mem_range.mp (List.mem_filter.mp hi).1
    refine(if_true (ai (a := .int ((d3 + 1:Nat):Int)) (b := .int 0) rfl rfl (congrArg some (decide_eq_true (Int.ofNat_lt.mpr (Nat.succ_pos d3)))))).trans ((ac (au (ag (a := .int 1) (b := .int (y:Int)) rfl (dL (l:=[.ref k, .int ((2 ^ cs.length - 1:Nat):Int)]) (ak rfl (ak (ag (b := .int 1) (ag (a := .int 2) rfl KL (KU h4 H)) rfl (congrArg (fun i=>some (V.int i)) (zi cs.length h4).2.2)) rfl)) q1) (Es 1 y H1)) rfl)).trans (au (ay (a := .lst (aH (D3 cs.length (1 + y)))) (cy ?_) rfl) rfl))
    refine comp_map (N:=[none,none,some (.int ((1 + y:Nat):Int))]) (fun M=>∃ z,M=[none,z,some (.int ((1 + y:Nat):Int))]) (fun i:Nat=>V.int (i:Int)) (fun i:Nat=>V.int (i:Int)) (bitAt (1 + y)) (List.range cs.length) (oL (ak KL rfl) (Nat.le_trans (Nat.le_of_lt h4) (by decide))) rfl rfl ⟨none,rfl⟩ (List.length_range.symm▸Nat.le_trans (Nat.le_of_lt h4) (by decide)) fun M i hM hi=>?_
    obtain⟨z,rfl⟩:=hM
    exact⟨[none,some (.int (i:Int)),some (.int ((1 + y:Nat):Int))],rfl,⟨_,rfl⟩,Kg q2.1 (Nat.lt_trans (List.mem_range.mp hi) h4) H1,fun _=>rfl⟩
noncomputable def rawOf (e:Bool) (x:List Nat):Option (List Nat):=if e then none else some x
theorem Dv {e:Bool}{x y:List Nat} (h:rawOf e x=some y):y=x:=by
  cases e with
  | true=>cases h
  | false=>cases h; rfl
theorem Dl {e:Bool}{x:List Nat} (h:rawOf e x=none):e=true:=by
  cases e with
  | true=>rfl
  | false=>cases h
theorem JX {cs:Cs}{k j:Nat}{b c d w l m:Option V}{e:Bool}{x:List Nat}{H:Hp}:(th (cb (aa 8)) (ab .none) (aa 9)) (Mq cs k j b c d (some (.bool e)) (some (.str x)) w l m) H=some (or (rawOf e x),H):=by
  cases e with
  | true=>exact ite_true (H1:=H) (aU (v := .bool true) rfl rfl) rfl
  | false=>exact ite_false (H1:=H) (aU (v := .bool false) rfl rfl) rfl
theorem HL {cs:Cs} (hc:vK cs) (h0:AL cs) {k j bb:Nat}{H:Hp}{acc:List V}{b c d h i w l m:Option V} (hs:Src H k (bb + 8)) (hj:H[j]? = some (.lst acc)) (hkj:j≠k) (hl:acc.length < 1048576) {C:Prop}
    (K:∀ (y:Rl) (h' i' w' l' m':Option V) (H2:Hp),km (Mq cs k j b c d h i w l m) H=some (.next,Mq cs k j b c d h' i' w' l' m',H2)→Src H2 k bb→H2[j]? = some (.lst (acc++[dD y]))→aV [k,j] H H2→qg cs y→C):C:=by
  refine kP (n:=5) hs (by decide) fun d1 H1 q1 A1 hs1 k1=>?_
  have s1:=ag (f:=pg b4 (ae (aa 0) (ae (ab (.int 5)) aj))) (g:=ab (.int 0)) (op:=sz vEq) (M:=Mq cs k j b c d h i w l m) (a := .int (d1:Int)) (b := .int 0) (c := .bool ((d1:Int)==0)) (dL rfl q1) rfl rfl
  generalize ((d1:Int)==0)=e at s1
  exact kP (n:=12) hs1 (by decide) fun d2 H2 q2 hd2 hs2 k2=>kP (n:=3) hs2 (by decide) fun d3 H3 q3 hd3 hs3 k3=>
    JN hc h0 (j:=j) (d3:=d3) (x:=b) (c:=c) (d:=d) (h:=some (.bool e)) (i:=some (.str (dX jb d2))) (m:=m) hs3 fun live m' H4 q4 hs4 k4 g1 g2 g3=>
    CB (h0.elim fun m e=>e▸List.cons_ne_nil _ _) (e:=e) hs4 fun steps H5 q5 p1 p2 p3 p4 hs5 k5=>
    have k14:=((k1.trans k2).trans k3).trans k4
    have hj4:=k14.at hj (pn hkj)
    have hj5:=k5.at hj4 (pn hkj)
    K ⟨live,rawOf e (dX jb d2),steps⟩ (some (.bool e)) (some (.str (dX jb d2))) (some (.int (d3:Int))) (some (.tup (aH live))) m' _
      ((ac (wm (l:=[.bool e, .str (dX jb d2), .int (d3:Int)]) (eJ (ak s1 (ak (ag (a := .tup (jb.map V.str)) (b := .int (d2:Int)) rfl (dL rfl q2) (item_tup (uk hd2))) (ak (dL rfl q3) rfl))) (Nat.le_of_ble_eq_true rfl)) rfl rfl)).trans ((ac (au rfl rfl)).trans ((ac q4).trans (bz (cA rfl hj4 (eJ (ak rfl (ak JX (ak (dL rfl q5) rfl))) (Nat.le_of_ble_eq_true rfl)) hj5 hl)))))
      (hs5.keep (aV.set in1) (pn hkj.symm)) (b7 hj5) ((k14.trans k5).DQ.trans (aV.set G5)) ⟨g1,g2,g3,fun x hx=>Dv hx▸lU hd2,p2,p1,fun hr=>p4 (Dl hr),p3⟩
end Mine
end
section
namespace Mine
theorem Hs {α β γ:Type}{R:α→β→Prop}{f:α→γ}{g:β→γ} (h:∀ x y,R x y→g y=f x) {xs:List α}{ys:List β} (q:F2 R xs ys):ys.map g=xs.map f:=
  F2.rec (motive:=fun(xs:List α) (ys:List β) _=>ys.map g=xs.map f) rfl (fun {x y _ _} r _ ih=>(congrArg (·::_) (h x y r)).trans (congrArg (f x::·) ih)) q
theorem A5:∀ n∈eA::(gS++defNames),eI n:=by
  intro n hn
  simp only[gS,defNames,List.cons_append,List.nil_append,List.mem_cons,List.not_mem_nil,or_false] at hn
  rcases hn with rfl | rfl | rfl | rfl | rfl | rfl <;> exact⟨_,_,rfl,by decide,by decide,by decide⟩
theorem wo:∀ d < 4,(eA::(List.range d).map (dX gS)).Nodup∧[110,111,110,101]∉(eA::(List.range d).map (dX gS))∧(∀ n∈eA::(List.range d).map (dX gS),n.length≤7):=by decide
theorem FJ:∀ d < 3,((List.range d).map (dX defNames)).Nodup:=by decide
theorem Fq:∀ t∈Ej,t.length≤20:=by decide
theorem Hn:∀ n∈defNames,n.length≤3:=by decide
noncomputable abbrev R1 (t:Nat) (y:List Nat × Bool):Prop:=y.1=dX gS t
noncomputable abbrev R2 (t:Nat) (y:List Nat × List Nat):Prop:=y.1=dX defNames t∧(eI y.1∧y.2∈jb)∧y.1.length≤3
theorem Li {t:Nat} (ht:t < 2) {y:List Nat × List Nat} (h:y.1=dX defNames t) (h2:y.2∈jb):R2 t y:=by
  have q:dX defNames t∈defNames:=lU ht
  rw[← h] at q
  exact⟨h,⟨A5 _ (List.mem_cons_of_mem _ (List.mem_append_right _ q)),h2⟩,Hn _ q⟩
theorem BU {d1:Nat}{more:List (List Nat × Bool)} (f1:F2 R1 (List.range d1) more):((eA,false)::more).map (·.1)=eA::(List.range d1).map (dX gS):=congrArg (eA::·) (Hs (fun x y h=>h) f1)
section
variable {d1:Nat}{more:List (List Nat × Bool)} (hd:d1 < 4) (f1:F2 R1 (List.range d1) more)
include hd f1
theorem JE:vK ((eA,false)::more):=by
  have e:=BU f1
  refine⟨fun n hn=>A5 n ?_,e▸(wo d1 hd).1,Nat.succ_le_succ (Nat.le_of_lt_succ ((f1.len.trans List.length_range).symm▸hd))⟩
  rw[e] at hn
  refine(List.mem_cons.mp hn).elim (fun e=>e▸List.mem_cons_self) fun hn=>?_
  obtain⟨i,hi,rfl⟩:=List.mem_map.mp hn
  exact List.mem_cons_of_mem _ (List.mem_append_left _ (lU (Nat.lt_of_lt_of_le (List.mem_range.mp hi) (Nat.le_of_lt_succ hd))))
theorem G3 {b:Bool}{d3 d4 d5:Nat}{defs:List (List Nat × List Nat)}{rules:List Rl} (hd3:d3 < 3) (hd4:d4 < 4) (hd5:d5 < 5) (f2:F2 R2 (List.range d3) defs) (f3:F2 (fun _ y=>qg ((eA,false)::more) y) (List.range d4) rules):Wf ⟨more,b,defs,rules,dX Ej d5⟩:=
  have e:=BU f1
  have q:=wo d1 hd
  ⟨JE hd f1,Au (fun _ _ r=>r.2.1) f2,(Hs (fun _ _ r=>r.1) f2)▸FJ d3 hd3,(f2.len.trans List.length_range).symm▸Nat.le_of_lt_succ hd3,Au (Q:=qg ((eA,false)::more)) (fun _ _ r=>r) f3,(f3.len.trans List.length_range).symm▸Nat.le_of_lt_succ hd4,fun n hn=>q.2.2 n (e▸hn),Au (fun _ _ r=>r.2.2) f2,Fq _ (lU hd5),fun hn=>q.2.1 (e▸hn)⟩
end
theorem HA {cs:Cs} (hl:cs.length≤1000) {k:Nat}{b c d e f g h i j l m:Option V}{H:Hp}:em [none,none] m9 nt mW nK (Mp k (some (.lst (cs.map az))) b c d e f g h i j l m) H=some ((cs.map (·.1)).map V.str,H):=by
  rw[List.map_map]
  refine dq (N:=[none,none]) (fun M=>∃ x,M=[none,x]) az (V.str∘fun c=>c.1) cs (eU (v := .lst (cs.map az)) rfl rfl) rfl rfl ⟨none,rfl⟩ hl fun M c hM hcm=>?_
  obtain⟨x,rfl⟩:=hM
  exact⟨[none,some (az c)],rfl,⟨_,rfl⟩,rfl,ag (a:=az c) rfl rfl rfl⟩
theorem C5 {cs:Cs} (hl:cs.length≤1000) {k:Nat}{b c d e g h i j l m:Option V}{H:Hp}:em [none,none,some 1] nT nj nm nN (Mp k (some (.lst (cs.map az))) b c d e (some (Ca (cs.map (·.1)))) g h i j l m) H=some (aH (cV cs),H):=by
  refine comp_map (N:=[none,none,some (.lst (cs.map az))]) (fun M=>∃ x,M=[none,x,some (.lst (cs.map az))]) (fun i:Nat=>V.int (i:Int)) (fun i:Nat=>V.int (i:Int)) (fun i=>!iq cs i) (List.range cs.length) (oL (ak (ay (a:=Ca (cs.map (·.1))) rfl (sf.trans (congrArg (fun n:Nat=>some (V.int (n:Int))) (List.length_map ..)))) rfl) hl) rfl rfl ⟨none,rfl⟩ (List.length_range.symm▸hl) fun M i hM hi=>?_
  obtain⟨x,rfl⟩:=hM
  refine⟨[none,some (.int (i:Int)),some (.lst (cs.map az))],rfl,⟨_,rfl⟩,?_,fun _=>rfl⟩
  rw[uh (List.mem_range.mp hi)]
  exact dg (aU (ag (a:=az (cs[i]'(List.mem_range.mp hi))) (ag (a := .lst (cs.map az)) rfl rfl (ji (List.mem_range.mp hi))) rfl rfl) rfl)
theorem LL {d:Nat} (h:d < 4):30 + 1 * d≤33:=Nat.add_le_add_left ((Nat.one_mul d).symm▸Nat.le_of_lt_succ h) 30
theorem LO {d:Nat} (h:d < 3):26 + 1 * d≤28:=Nat.add_le_add_left ((Nat.one_mul d).symm▸Nat.le_of_lt_succ h) 26
theorem Lx {d:Nat} (h:d < 4):1 + 8 * d≤25:=Nat.add_le_add_left (Nat.mul_le_mul_left 8 (Nat.le_of_lt_succ h)) 1
theorem BQ {k:Nat}{H:Hp} (hs:Src H k 34) {C:Prop} (K:∀ (P:Parts) (H':Hp),Wf P→oQ [.ref k] H=some (.tup [kz P, .bool P.dj,ve P,mY P, .str P.tail],H')→C):C:=by
  have kj:H.length≠k:=(Nat.ne_of_lt hs.lt).symm
  refine kP (n:=4) (b:=33) (hs.keep (S:=[]) (aV.app (G:=[Ob.lst [az (eA,false)]])) List.not_mem_nil) (by decide) fun d1 H1 q1 A1 hs1 k1=>?_
  refine sk (a:=og) (b:=jY) (j:=H.length) (c:=30) (q:=1) (d:=d1) (I:=fun M=>∃ t,M=Mp k (some (.ref H.length)) t none none none none none none none none none none) (g:=az) (R:=R1) (M:=Mp k (some (.ref H.length)) none none none none none none none none none none none) (acc:=[az (eA,false)]) ⟨_,rfl⟩ (hs1.le (LL A1)) (k1.at eV (pn kj)) (Nat.le_trans (Nat.add_le_add_left (Nat.le_of_lt A1) 1) (by decide))
    (fun t ht n M Hx acc hM hsx hj hl C K=>by
      obtain⟨t0,rfl⟩:=hM
      exact Iz (Nat.lt_of_lt_of_le ht (Nat.le_of_lt_succ A1)) hsx hj kj hl fun y H2 z1 z2 z3 z4 z5=>K y _ _ H2 rfl z1 ⟨_,rfl⟩ z2 z3 z4 z5) fun more M1 H2 e1 hM1 hs2 r2 k2 f1=>?_
  obtain⟨t1,rfl⟩:=hM1
  have hc:=JE A1 f1
  have hcl:((eA,false)::more).length≤1000:=Nat.le_trans hc.le (by decide)
  have r2:H2[H.length]? = some (.lst (((eA,false)::more).map az)):=r2
  have h0:AL ((eA,false)::more):=⟨more,rfl⟩
  generalize hcs:(eA,false)::more=cs at hc hcl r2 h0
  refine kP (n:=2) (b:=29) hs2 (by decide) fun d2 H3 q2 hd2 hs3 k3=>?_
  have r3:=k3.at r2 (pn kj)
  have ne4:H.length≠H3.length:=Nat.ne_of_lt (gW r3)
  have ne5:H.length≠(H3++[Ob.lst []]).length:=Nat.ne_of_lt (gW (dh r3))
  have nk4:H3.length≠k:=(Nat.ne_of_lt hs3.lt).symm
  have hs4:=hs3.keep (S:=[]) (aV.app (G:=[Ob.lst []])) List.not_mem_nil
  have nk5:(H3++[Ob.lst []]).length≠k:=(Nat.ne_of_lt hs4.lt).symm
  have r44:(H3++[Ob.lst []])[H3.length]? = some (.lst []):=eV
  have ne45:=Nat.ne_of_lt (gW r44)
  refine kP (n:=3) (b:=28) (hs4.keep (S:=[]) (aV.app (G:=[Ob.lst []])) List.not_mem_nil) (by decide) fun d3 H5 q3 hd3 hs5 k5=>?_
  refine sk (a:=n9) (b:=jT) (j:=H3.length) (c:=26) (q:=1) (d:=d3) (I:=fun M=>∃ t,M=Mp k (some (.ref H.length)) t (some (.bool ((d2:Int)==0))) (some (.ref H3.length)) (some (.ref (H3++[Ob.lst []]).length)) none none none none none none none) (g:=KO) (R:=R2) (acc:=[]) ⟨t1,rfl⟩ (hs5.le (LO hd3)) (k5.at (dh r44) (pn nk4)) (Nat.le_trans (Nat.add_le_add_left (Nat.le_of_lt hd3) 0) (by decide))
    (fun t ht n M Hx acc hM hsx hj hl C K=>by
      obtain⟨t0,rfl⟩:=hM
      have ht2:t < 2:=Nat.lt_of_lt_of_le ht (Nat.le_of_lt_succ hd3)
      exact I9 ht2 hsx hj nk4 hl fun y H2 z1 z2 z3 z4 z5 z6=>K y _ _ H2 rfl z1 ⟨_,rfl⟩ z2 z3 z4 (Li ht2 z5 z6)) fun defs M2 H6 e2 hM2 hs6 r6 k6 f2=>?_
  obtain⟨t2,rfl⟩:=hM2
  have k46:=k5.DQ.trans k6
  have r61:=k46.at (dh (dh r3)) (J8 kj ne4)
  have k7:aV [H.length] H6 (H6.set H.length .dead):=aV.set in1
  have hs7:=hs6.keep k7 (pn kj.symm)
  refine kP (n:=4) (b:=25) hs7 (by decide) fun d4 H8 q4 hd4 hs8 k8=>?_
  refine sk (a:=mV) (b:=km) (j:=(H3++[Ob.lst []]).length) (c:=1) (q:=8) (d:=d4) (I:=fun M=>∃ t x1 x2 x3 x4 x5,M=Mq cs k (H3++[Ob.lst []]).length t (some (.bool ((d2:Int)==0))) (some (.ref H3.length)) x1 x2 x3 x4 x5) (g:=dD) (R:=fun _ y=>qg cs y) (acc:=[]) ⟨t2,none,none,none,none,none,rfl⟩ (hs8.le (Lx hd4)) (k8.at (k7.at (k46.at eV (J8 nk5 ne45.symm)) (pn ne5.symm)) (pn nk5)) (Nat.le_trans (Nat.add_le_add_left (Nat.le_of_lt hd4) 0) (by decide))
    (fun t ht n M Hx acc hM hsx hj hl C K=>by
      obtain⟨t0,x1,x2,x3,x4,x5,rfl⟩:=hM
      exact HL hc h0 hsx hj nk5 hl fun y h' i' w' l' m' H2 z1 z2 z3 z4 z5=>K y _ _ H2 rfl z1 ⟨_,_,_,_,_,_,rfl⟩ z2 z3 z4 z5) fun rules M3 H9 e3 hM3 hs9 r9 k9 f3=>?_
  obtain⟨t3,x1,x2,x3,x4,x5,rfl⟩:=hM3
  have r94:=(k8.DQ.trans k9).at (k7.at r6 (pn ne4.symm)) (J8 nk4 ne45)
  have r95:(H9.set H3.length .dead)[(H3++[Ob.lst []]).length]? = some (.lst (rules.map dD)):=a6 r9 ne45
  refine kP (n:=5) (b:=0) ((hs9.keep (aV.set (k:=H3.length) (o := .dead) in1) (pn nk4.symm)).keep (aV.set (k:=(H3++[Ob.lst []]).length) (o := .dead) in1) (pn nk5.symm)) (by decide) fun d5 H12 q5 hd5 hs12 k12=>?_
  subst hcs
  refine K ⟨more,(d2:Int)==0,defs,rules,dX Ej d5⟩ H12 (G3 A1 f1 hd3 hd4 hd5 f2 f3) ?_
  unfold oQ ru
  exact aq rfl rfl ((ac (au (v := .ref H.length) (H1:=H++[.lst [az (eA,false)]]) rfl rfl)).trans
    ((ac (iY (oL (ak (dL rfl q1) rfl) (Nat.le_trans (Nat.le_of_lt A1) (by decide))) e1)).trans
    ((ac (wm (l:=[.bool ((d2:Int)==0), .ref H3.length, .ref (H3++[Ob.lst []]).length]) (eJ (ak (ag (a := .int (d2:Int)) (b := .int 0) (dL rfl q2) rfl rfl) (ak (a := .ref H3.length) (H1:=H3++[.lst []]) rfl (ak rfl rfl))) (Nat.le_of_ble_eq_true rfl)) rfl rfl)).trans
    ((ac (iY (oL (ak (dL rfl q3) rfl) (Nat.le_trans (Nat.le_of_lt hd3) (by decide))) e2)).trans
    (JO rfl r61 ((ac (oJ (HA hcl))).trans ((ac (au (ay (a := .lst (aH (cV ((eA,false)::more)))) (cy (C5 hcl)) rfl) rfl)).trans
    ((ac (iY (oL (ak (dL rfl q4) rfl) (Nat.le_trans (Nat.le_of_lt hd4) (by decide))) e3)).trans
    (a8 (eJ (ak (H1:=H9) rfl (ak (H1:=H9) rfl (ak (lq rfl r94) (ak (lq rfl r95) (ak (ag (a := .tup (Ej.map V.str)) (b := .int (d5:Int)) rfl (dL rfl q5) (item_tup (uk hd5))) rfl))))) (Nat.le_of_ble_eq_true rfl)))))))))))
end Mine
end
section
namespace Mine
theorem xd {α:Type}{a:AF}{t:TF}{f:EF}{I:Loc→Prop}{emb g:α→V}:∀ {xs:List α}{M:Loc}{H:Hp},I M→(∀ M x H,I M→x∈xs→∃ M' H',a (emb x) M H=some (M',H)∧I M'∧t M' H=some (true,H)∧f M' H=some (g x,H')∧aV [] H H')→
    ∃ H',rt a t f (xs.map emb) M H=some (xs.map g,H')∧aV [] H H'
  | [],M,H,_,_=>⟨H,rfl,aV.refl⟩
  | x::xs,M,H,hI,h=>by
    obtain⟨M',H1,e1,hI',e2,e3,k1⟩:=h M x H hI List.mem_cons_self
    obtain⟨H2,ih,k2⟩:=xd (a:=a) (t:=t) (f:=f) (emb:=emb) (g:=g) (xs:=xs) (H:=H1) hI' fun M v H hM hv=>h M v H hM (List.mem_cons_of_mem _ hv)
    refine⟨H2,?_,k1.trans k2⟩
    rw[List.map_cons]
    unfold rt
    rw[e1,Option.bind_some]
    dsimp only
    rw[e2,Option.bind_some]
    dsimp only
    rw[if_pos rfl,e3,Option.bind_some]
    dsimp only
    rw[ih]
    rfl
theorem y4 {α:Type}{sel:List (Option Nat)}{it:IF}{a:AF}{t:TF}{f:EF}{M N:Loc}{H:Hp} (I:Loc→Prop) (emb g:α→V) (xs:List α) (h1:it M H=some (xs.map emb,H)) (h2:gL sel M=true) (h3:inner sel M=N) (hI:I N) (hl:xs.length≤1000)
    (h:∀ M x H,I M→x∈xs→∃ M' H',a (emb x) M H=some (M',H)∧I M'∧t M' H=some (true,H)∧f M' H=some (g x,H')∧aV [] H H'):
    ∃ H',em sel it a t f M H=some (xs.map g,H')∧aV [] H H':=by
  obtain⟨H',e,k⟩:=xd (H:=H) hI h
  exact⟨H',AD h1 h2 h3 e (by rw[List.length_map]; exact hl),k⟩
noncomputable abbrev Mw (s c cd df ds rl tl md nb rw st hl fl rs ah du bk:Option V):Loc:=[s,c,cd,df,ds,rl,tl,md,nb,rw,st,hl,fl,rs,ah,du,bk,none,none,none,none,none,none,none,none,none,none,none,none,none]
noncomputable abbrev LB:EF:=(th (aG uu (av aI (aa 9) (ab (.int 1))) (ab .none)) (ab .none) (iZ (oq 3 cz (ae (av aI (aa 9) (ab (.int 1))) aj))))
theorem JQ {s c cd df ds rl tl md nb st hl fl rs ah du bk:Option V}{r:Rl}{H:Hp}:∃ H',LB (Mw s c cd df ds rl tl md nb (some (dD r)) st hl fl rs ah du bk) H=some (w7 r.raw,H')∧aV [] H H':=by
  cases e:r.raw with
  | none=>
    refine⟨H,ite_true (H1:=H) (ai (a := .none) (b := .none) (ag (a:=dD r) (b := .int 1) rfl rfl ?_) rfl rfl) rfl,aV.refl⟩
    show some (or r.raw)=_
    rw[e]; rfl
  | some x=>
    have hi:∀ H,aI (dD r) (.int 1) H=some (.str x):=fun H=>by
      show some (or r.raw)=_
      rw[e]; rfl
    refine⟨H++[.dead],ite_false (H1:=H) (ai (a := .str x) (b := .none) (ag (a:=dD r) (b := .int 1) rfl rfl (hi H)) rfl rfl) (eu (vs:=[.str x]) (ws:=[.str x]) (ak (ag (a:=dD r) (b := .int 1) rfl rfl (hi H)) rfl) JW),aV.app⟩
theorem FX {s c cd df ds rl tl hl fl rs ah du bk:Option V}{j i:Nat}{r:Rl}{st:Option V}{H:Hp}{acc:List V} (hs:r.steps.length≤3) (hj:H[j]? = some (.lst acc)) (hl2:acc.length < 1048576):
    ∃ st' H',qM (Mw s c cd df ds rl tl (some (.ref j)) (some (.int (i:Int))) (some (dD r)) st hl fl rs ah du bk) H=some (.next,Mw s c cd df ds rl tl (some (.ref j)) (some (.int (i:Int))) (some (dD r)) st' hl fl rs ah du bk,H')∧H'[j]? = some (.lst (acc++[bo i r.live r.raw r.steps 0]))∧aV [j] H H':=by
  obtain⟨H1,c2,k1⟩:=y4 (sel:=[none,none,none,none]) (it:=x6) (a:=wO) (t:=wJ) (f:=tB) (M:=Mw s c cd df ds rl tl (some (.ref j)) (some (.int (i:Int))) (some (dD r)) st hl fl rs ah du bk) (N:=[none,none,none,none]) (H:=H) (fun M=>∃ x y,M=[none,x,y,none]) fA mz r.steps (lv (ag (a:=dD r) (b := .int 2) rfl rfl rfl)) rfl rfl ⟨none,none,rfl⟩ (by omega) (by
    rintro _ x Hx ⟨y,z,rfl⟩ hx
    exact⟨[none,some (.str x.1),some x.2,none],Hx++[.dead],rfl,⟨_,_,rfl⟩,rfl,by
      unfold tB
      exact eu (H1:=Hx) (vs:=[.str x.1,x.2]) (ws:=[.str x.1,x.2]) (ak rfl (ak rfl rfl)) stepI,aV.app⟩)
  obtain⟨H2,e2,k2⟩:=JQ (s:=s) (c:=c) (cd:=cd) (df:=df) (ds:=ds) (rl:=rl) (tl:=tl) (md:=some (.ref j)) (nb:=some (.int (i:Int))) (st:=some (.lst (r.steps.map mz))) (hl:=hl) (fl:=fl) (rs:=rs) (ah:=ah) (du:=du) (bk:=bk) (r:=r) (H:=H1)
  have hj1:H1[j]? = some (.lst acc):=k1.at hj (by simp)
  have hj2:(H2++[Ob.dead])[j]? = some (.lst acc):=dh (k2.at hj1 (by simp))
  refine⟨some (.lst (r.steps.map mz)),(H2++[Ob.dead]).set j (.lst (acc++[bo i r.live r.raw r.steps 0])),?_,b7 hj2,(((k1.mono (by simp)).trans (k2.mono (by simp))).trans aV.app).trans (aV.set (by simp))⟩
  unfold qM
  refine(ac (oJ c2)).trans (bz (cA rfl hj1 ?_ hj2 hl2))
  refine eu (H1:=H2) (vs:=[.int (i:Int), .tup (aH r.live),w7 r.raw, .lst (r.steps.map mz), .int 0]) ?_ JD
  refine ak (H1:=H1) rfl (ak (H1:=H1) (ag (a:=dD r) (b := .int 0) rfl rfl rfl) (ak e2 (ak (H1:=H2) rfl (ak (H1:=H2) rfl rfl))))
theorem Bu:∀ l:List (List Nat × List Nat),kvsOf (l.map fun d=>V.tup [.str d.1,mD d.2])=some (l.map qI)
  | []=>rfl
  | d::l=>(congrArg (fun o:Option (List (List Nat × V))=>(kvOf (V.tup [.str d.1,mD d.2])).bind fun p=>o.map (p::·)) (Bu l)).trans rfl
end Mine
end
section
namespace Mine
section
variable {P:Parts}
noncomputable abbrev LA:EF:=(av br (av br (tf ka (ab (.str [10])) (ae (aa 13) aj)) (ab (.str [10]))) (th (aG vEq (aa 6) (ab (.str []))) (ab (.str [])) (av br (ab (.str [37,37,10])) (aa 6))))
theorem J7 (h:Wf P) {s c cd df ds rl md nb rw st hl fl ah du bk:Option V} (H:Hp):LA (Mw s c cd df ds rl (some (.str P.tail)) md nb rw st hl fl (some (.lst ((cS P).map V.str))) ah du bk) H=some (.str (F5 P),H):=by
  have et:(aG vEq (aa 6) (ab (.str []))) (Mw s c cd df ds rl (some (.str P.tail)) md nb rw st hl fl (some (.lst ((cS P).map V.str))) ah du bk) H=some (P.tail==[],H):=ai rfl rfl rfl
  have hd:=GZ h
  have e1:=ag (op:=br) (lO (op:=ka) (f:=ab (.str [10])) (M:=Mw s c cd df ds rl (some (.str P.tail)) md nb rw st hl fl (some (.lst ((cS P).map V.str))) ah du bk) rfl (ak (f:=aa 13) (g:=aj) (l:=[]) rfl rfl) (qO (sep:=[10]) (b:=95) (m:=11) (qo h) (tJ P▸oV h) (by decide) H)) (g:=ab (.str [10])) rfl ((adds (BY h) (by decide) H).trans (congrArg (fun x=>some (V.str x)) Bl))
  unfold F5 at hd ⊢
  refine ag e1 ?_ (adds hd (by decide) H)
  by_cases ht:P.tail=[]
  · rw[beq_iff_eq.mpr ht] at et
    rw[if_pos ht]
    exact ite_true et rfl
  · rw[beq_eq_false_iff_ne.mpr ht] at et
    rw[if_neg ht]
    exact ite_false et (ag rfl rfl (adds (n:=30) (Nat.add_le_add_left h.tl 3 |> fun q=>(List.length_append (as:=[37,37,10]) (bs:=P.tail)).symm▸Nat.le_trans q (by decide)) (by decide) H))
end
theorem Ef {x:List Nat} (H:Hp):mK (.str x) (.str x) H=some false:=by
  have e:mK (.str x) (.str x) H=some (!(x==x)):=rfl
  rw[e,beq_self_eq_true]; rfl
theorem Gf {b:Bool}{x:List Nat} (H:Hp):vEq (.tup [.bool b, .str x]) (.tup [.bool b, .str x]) H=some true:=iR fun v hv=>by
  simp only[List.mem_cons,List.not_mem_nil,or_false] at hv
  rcases hv with rfl | rfl
  · exact GO
  · exact u5
theorem Gj {P:Parts}{g:LF}{M:Loc}{H H1:Hp} (h:g M H=some ([mY P],H1)):u4 g M H=some ((List.range P.rules.length).map (numAt P.rules),H1):=by
  unfold u4
  rw[h]
  show some (numbered 0 (P.rules.map dD),H1)=_
  rw[enum_rows]
theorem Fy {P:Parts} (h:Wf P) (H:Hp):tM (.lst (P.defs.map fun d=>V.tup [.str d.1,mD d.2])) H=some (.jo (P.defs.map qI)):=by
  have e:tM (.lst (P.defs.map fun d=>V.tup [.str d.1,mD d.2])) H=(kvsOf (P.defs.map fun d=>V.tup [.str d.1,mD d.2])).bind fun ps=>if ps.length≤1000∧(ps.map (·.1)).Nodup then some (.jo ps) else none:=rfl
  rw[e,Bu,Option.bind_some,if_pos]
  have hd:=h.dl
  refine⟨by rw[List.length_map]; omega,?_⟩
  rw[List.map_map]
  exact h.dd
end Mine
end
section
namespace Mine
theorem Hh {ns:List Int}{c cd df ds rl tl md nb rw st hl fl rs ah du bk:Option V} (H:Hp):em [none,none,none] ub wZ yg xT (Mw (some (.lst (hV ns))) c cd df ds rl tl md nb rw st hl fl rs ah du bk) H=some (hV (ns.take 60),H):=by
  refine dq (sel:=[none,none,none]) (N:=[none,none,none]) (H:=H) (fun M=>∃ x,M=[none,x,none]) V.int V.int (ns.take 60) ?_ rfl rfl ⟨none,rfl⟩ (by rw[List.length_take]; omega) ?_
  · unfold ub
    refine eU (v := .lst (hV (ns.take 60))) ?_ rfl
    show some (V.lst (jy none (some 60) (hV ns)),H)=_
    have e:jy none (some 60) (hV ns)=hV (ns.take 60):=by
      unfold jy hV
      simp[List.map_take]
    rw[e]
  · rintro _ i ⟨x,rfl⟩ hi
    exact⟨[none,some (.int i),none],rfl,⟨_,rfl⟩,rfl,ay (a := .int i) rfl rfl⟩
noncomputable def wg (c:List Int):List Int:=if c=[] then [0] else c
theorem Dm {s cd df ds rl tl md nb rw st hl fl rs ah du bk:Option V}{c:List Int} (H:Hp):(th (cb (aa 1)) (aa 1) (oLst (ae (ab (.int 0)) aj))) (Mw s (some (.lst (hV c))) cd df ds rl tl md nb rw st hl fl rs ah du bk) H=some (.lst (hV (wg c)),H):=by
  cases c with
  | nil=>exact ite_false (H1:=H) (aU (v := .lst []) rfl rfl) rfl
  | cons x c=>exact ite_true (H1:=H) (aU (v := .lst (hV (x::c))) rfl rfl) rfl
theorem Ke {c:List Int} (hc:c.length≤60) {H:Hp}:Src (H++[.lst [.lst (hV (wg c)), .int 0]]) H.length 34:=by
  refine⟨wg c,0,?_,?_,by decide,eV⟩
  · cases c with
    | nil=>exact List.cons_ne_nil _ _
    | cons x c=>exact List.cons_ne_nil _ _
  · cases c with
    | nil=>exact Nat.le_of_ble_eq_true rfl
    | cons x c=>exact hc
theorem FP {P:Parts} (h:Wf P) {lf:Nat→Nat}{s c cd df ds rl tl md nb rw st hl fl rs ah du:Option V} (H:Hp):em [none,none] ur yn xv wp (Mw s c cd df ds rl tl md nb rw st hl fl rs ah du (some (bu P lf))) H=some ((List.range P.rules.length).map (fun i=>V.int ((lf i:Nat):Int)),H):=by
  have hrn:=h.rn
  refine dq (sel:=[none,none]) (N:=[none,none]) (H:=H) (fun M=>∃ x,M=[none,x]) (kO P.rules lf) (fun i=>V.int ((lf i:Nat):Int)) (List.range P.rules.length) ?_ rfl rfl ⟨none,rfl⟩ (by rw[List.length_range]; omega) ?_
  · unfold ur
    refine eU (v := .lst (fG lf 0 P.rules)) (ay rfl rfl) ?_
    show some (fG lf 0 P.rules)=_
    rw[gG]
  · rintro _ i ⟨x,rfl⟩ hi
    have hi':i < P.rules.length:=List.mem_range.mp hi
    rw[jh hi']
    exact⟨[none,some (bo i P.rules[i].live P.rules[i].raw P.rules[i].steps (lf i))],rfl,⟨_,rfl⟩,rfl,ay (a:=bo i P.rules[i].live P.rules[i].raw P.rules[i].steps (lf i)) rfl rfl⟩
theorem FU {P:Parts} (h:Wf P) {s c cd df ds tl md nb rw st hl fl rs du bk:Option V} (H:Hp):em [none,none,some 14] wx xW wz yc (Mw s c cd df ds (some (mY P)) tl md nb rw st hl fl rs (some (.int (ahead P:Int))) du bk) H=some ((List.range P.rules.length).map (fun i=>V.int ((ahead P + 1 + i:Nat):Int)),H):=by
  have hrn:=h.rn
  refine dq (sel:=[none,none,some 14]) (N:=[none,none,some (.int (ahead P:Int))]) (H:=H) (fun M=>∃ x,M=[none,x,some (.int (ahead P:Int))]) (fun i:Nat=>V.int (i:Int)) (fun i=>V.int ((ahead P + 1 + i:Nat):Int)) (List.range P.rules.length) (oL (ak (ay (a:=mY P) rfl ?_) rfl) (by omega)) rfl rfl ⟨none,rfl⟩ (by rw[List.length_range]; omega) ?_
  · show some (V.int ((P.rules.map dD).length:Int))=_
    rw[List.length_map]
  · rintro _ i ⟨x,rfl⟩ hi
    refine⟨[none,some (.int (i:Int)),some (.int (ahead P:Int))],rfl,⟨_,rfl⟩,rfl,ag (a := .int ((ahead P:Int) + 1)) (b := .int (i:Int)) (ag (a := .int (ahead P:Int)) (b := .int 1) rfl rfl rfl) rfl ?_⟩
    show some (V.int ((ahead P:Int) + 1 + (i:Int)))=_
    rw[Int.natCast_add,Int.natCast_add]
    rfl
theorem JV (ns:List Int) (H:Hp):∃ H',Gb [.lst (hV ns)] H=some (.bool true,H'):=by
  let c:=ns.take 60
  have hc:c.length≤60:=by show(ns.take 60).length≤60; rw[List.length_take]; omega
  let s0:Option V:=some (.lst (hV ns))
  let s1:Option V:=some (.lst (hV c))
  refine BQ (Ke hc (H:=H)) fun P H2 hw q2=>?_
  have hrn:=hw.rn
  have hdl:=hw.dl
  let lf0:Nat→Nat:=fun _=>0
  let lf1:Nat→Nat:=fun n=>ahead P + 1 + n
  let aC:Option V:=some (kz P)
  let aD:Option V:=some (.bool P.dj)
  let aE:Option V:=some (ve P)
  let aR:Option V:=some (mY P)
  let aT:Option V:=some (.str P.tail)
  let j:=H2.length
  obtain⟨M4,H4,q4,⟨nb,rw4,st,rfl⟩,_,r4,k4⟩:=B4 (a:=wA) (b:=qM) (j:=j) (I:=fun M=>∃ nb rw st,M=Mw s0 s1 aC aD aE aR aT (some (.ref j)) nb rw st none none none none none none) (J:=fun _=>True) (emb:=numAt P.rules) (g:=kO P.rules lf0) (fun _ _ _ _=>trivial) (List.range P.rules.length) (Mw s0 s1 aC aD aE aR aT (some (.ref j)) none none none none none none none none none) (H2++[.lst []]) [] ⟨_,_,_,rfl⟩ trivial eV (by simp; omega) (by
    rintro i hi _ Hx acc ⟨nb,rw,st,rfl⟩ _ hj hl
    have hi':i < P.rules.length:=List.mem_range.mp hi
    obtain⟨st',H',e1,e2,e3⟩:=FX (s:=s0) (c:=s1) (cd:=aC) (df:=aD) (ds:=aE) (rl:=aR) (tl:=aT) (hl:=none) (fl:=none) (rs:=none) (ah:=none) (du:=none) (bk:=none) (i:=i) (r:=P.rules[i]) (st:=st) (hw.rl _ (List.getElem_mem hi')).sl hj hl
    have en:numAt P.rules i = .tup [.int (i:Int),dD P.rules[i]]:=by unfold numAt; rw[xz hi']
    rw[jh hi',en]
    exact⟨Mw s0 s1 aC aD aE aR aT (some (.ref j)) (some (.int (i:Int))) (some (dD P.rules[i])) st none none none none none none,_,H',rfl,e1,⟨_,_,_,rfl⟩,e2,e3⟩)
  rw[List.nil_append,← gG] at r4
  obtain⟨H5,c4,k5⟩:=y4 (sel:=[none,none,none,none]) (it:=xh) (a:=xA) (t:=wY) (f:=tD) (M:=Mw s0 s1 aC aD aE aR aT (some (.ref j)) nb rw4 st none none none none none none) (N:=[none,none,none,none]) (H:=H4) (fun M=>∃ x y,M=[none,x,y,none]) (fun d:List Nat × List Nat=>V.tup [.str d.1, .str d.2]) (fun d=>V.tup [.str d.1,mD d.2]) P.defs (lv rfl) rfl rfl ⟨none,none,rfl⟩ (by omega) (by
    rintro _ x Hx ⟨y,z,rfl⟩ hx
    exact⟨[none,some (.str x.1),some (.str x.2),none],Hx++[.dead],rfl,⟨_,_,rfl⟩,rfl,by
      unfold tD
      exact eJ (ak (H1:=Hx) rfl (ak (a:=mD x.2) (eu (H1:=Hx) (vs:=[.str x.2]) (ws:=[.str x.2]) (ak rfl rfl) JW) rfl)) (by simp),aV.app⟩)
  have r5:H5[j]? = some (.lst (fG lf0 0 P.rules)):=k5.at r4 (by simp)
  let H7:Hp:=H5.set j .dead++[.dead]
  obtain⟨H8,q8⟩:=CF hw H7
  obtain⟨H9,q9⟩:=qy (lf:=lf0) hw H8
  have f9:=sF (lf:=lf0) hw H9
  obtain⟨H10,q10⟩:=vC hw H9
  have q10':iK [.str (F5 P)] H9=some (bu P lf1,H10):=q10
  obtain⟨H11,q11⟩:=qy (lf:=lf1) hw H10
  have f11:=sF (lf:=lf1) hw H11
  refine⟨H11,?_⟩
  unfold Gb Ht
  refine aq (M:=Mw s0 none none none none none none none none none none none none none none none none) (M':=?_) rfl rfl ?_
  rotate_left
  · refine(ac (oJ (Hh H))).trans ?_
    refine(ac (au (dL (l:=[.ref H.length]) (ak (mB (l:=[.lst (hV (wg c)), .int 0]) (H1:=H) (ak (Dm H) (ak rfl rfl)) rfl) rfl) q2) rfl)).trans ?_
    refine(ac (au (v := .ref j) (H1:=H2++[.lst []]) rfl rfl)).trans ?_
    refine(ac (iY (Gj (ak rfl rfl)) q4)).trans ?_
    refine(ac (au (ay (cy c4) (Fy hw H5)) rfl)).trans ?_
    refine(ac (au (v:=bu P lf0) (eu (H1:=H5.set j .dead) (vs:=[.jo (P.defs.map qI), .lst (P.ap.map az), .lst (fG lf0 0 P.rules), .bool P.dj, .str P.tail]) (ws:=[.jo (P.defs.map qI), .lst (P.ap.map az), .lst (fG lf0 0 P.rules), .bool P.dj, .str P.tail]) (ak (H1:=H5) rfl (ak (H1:=H5) (ay (a:=kz P) rfl rfl) (ak (lq rfl r5) (ak rfl (ak rfl rfl))))) Jq) rfl)).trans ?_
    refine(ac (au (dL (ak rfl (ak rfl (ak rfl (ak rfl rfl)))) q8) rfl)).trans ?_
    refine(ac (au (J7 hw H8) rfl)).trans ?_
    refine(ac ((if_false (H1:=H9) ?_).trans rfl)).trans ?_
    · exact kG (a:=false) (b:=false) (H1:=H9) (ai (dL (ak rfl rfl) q9) rfl (Ef H9)) (fun _=>dg (a:=true) (aU (dL (ak rfl (ak rfl (ak rfl rfl))) f9) rfl)) (fun _=>rfl)
    refine(ac (au (dL (ak rfl rfl) q10') rfl)).trans ?_
    refine(ac ((if_false (H1:=H11) ?_).trans rfl)).trans ?_
    · refine kG (a:=false) (b:=false) (H1:=H10) (ai (ao (v:=bu P lf1) rfl rfl rfl (zH hw H10)) (ao (v:=bu P lf0) rfl rfl rfl (zH hw H10)) (Bk (IT hw) H10)) (fun _=>?_) (fun h=>nomatch h)
      exact kG (a:=false) (b:=false) (H1:=H11) (ai (dL (ak rfl rfl) q11) rfl (Ef H11)) (fun _=>dg (a:=true) (aU (dL (ak rfl (ak rfl (ak rfl rfl))) f11) rfl)) (fun _=>rfl)
    refine(ac ((if_false (H1:=H11) ?_).trans rfl)).trans ?_
    · have e:(List.range P.rules.length).map (fun i=>V.int ((lf1 i:Nat):Int))=aH ((List.range P.rules.length).map lf1):=by
        show _=((List.range P.rules.length).map lf1).map fun(i:Nat)=>V.int (i:Int)
        rw[List.map_map]
        rfl
      refine ai (cy (FP hw (lf:=lf1) H11)) (cy (FU hw H11)) ?_
      show mK (.lst ((List.range P.rules.length).map (fun i=>V.int ((lf1 i:Nat):Int)))) (.lst ((List.range P.rules.length).map (fun i=>V.int ((lf1 i:Nat):Int)))) H11=_
      rw[e]
      exact xC H11
    refine a8 (ag (a := .tup [.bool P.dj, .str P.tail]) (b := .tup [.bool P.dj, .str P.tail]) (H1:=H11) (H2:=H11) ?_ ?_ ?_)
    · refine eJ ?_ (by simp)
      refine ak (H1:=H11) (ay (a:=bu P lf1) rfl rfl) ?_
      refine ak (H1:=H11) (ay (a:=bu P lf1) rfl rfl) ?_
      rfl
    · refine eJ ?_ (by simp)
      refine ak (H1:=H11) rfl ?_
      refine ak (H1:=H11) rfl ?_
      rfl
    show(vEq (.tup [.bool P.dj, .str P.tail]) (.tup [.bool P.dj, .str P.tail]) H11).map V.bool=_
    rw[Gf]
    rfl
end Mine
end
section
open PySem PySem.W PyProof.Rows PySem.Calls PySem.SeqAt
namespace Mine
theorem vf {G:Pg}{s:Vw}:∀ {vs:List Value}{ns:List Int},IntsAre vs ns→eZ G s (hV ns) vs
  | _,_, .nil => .nil
  | _,_, .cons n t h => .cons (.int n t) (vf h)
theorem Cp:∀ {vs:List Value}{ns:List Int},IntsAre vs ns→vs.length=ns.length
  | _,_, .nil=>rfl
  | _,_, .cons n t h=>by rw[List.length_cons,List.length_cons,Cp h]
theorem script_at {h:Heap}{P:Params}{a:Addr}{vs:List Value}{x:WData} (hL:h.IsList a vs.toArray) (w1:Well P h (.ref a) x) (hx:∃ ds,x = .list ds):∃ n,h.get? a=some (ny vs n):=by
  obtain⟨ds,rfl⟩:=hx
  obtain⟨o,h1,h2,n,h3⟩:=hL
  cases w1 with
  | list h4 h5=>
    rw[h4] at h1
    obtain rfl:=Option.some.inj h1
    refine⟨⟨n,none,#[]⟩,?_⟩
    rw[h4]
    dsimp only at h3
    show some _=some ({ cls := .type "list",data := .seq vs.toArray n,slots:=#[] }:Obj)
    rw[← h3]
theorem law_code {w:World}{s₁:Shared}{mg mb:Str→Option Value}{loose:List Str}{fa a:Addr}{vs:List Value}{ns:List Int}{x:WData}{Q:Result→Shared→Prop} (prog:Program) (KX:(Kj w.params).In s₁.heap) (T:TopRead vw loose mg mb s₁.heap) (hmg:mg (PySem.Str.ofString "law")=some (.ref fa))
    (hL:s₁.heap.IsList a vs.toArray) (hI:IntsAre vs ns) (w1:Well w.params s₁.heap (.ref a) x) (hx:∃ ds,x = .list ds) (hlen:ns.length≤1000)
    (hQ:∀ s',(∀ b o,s₁.heap.get? b=some o→s'.heap.get? b=some o)→s'.os=s₁.os→s'.gens=s₁.gens→Q (.ok (.ret (.bool true))) s'):
    codeAny (model prog w) callerA (.call (.ref fa) ⟨[.ref a],[]⟩) Q s₁:=by
  let U:fL:={ prog:=prog,w:=w,cls:=DE,K:=Kj w.params,p:=vw,loose:=loose,mg:=mg,mb:=mb,top:=s₁.heap,X:=KX,T:=T }
  have c:Fc U:=⟨rfl,rfl⟩
  have e:mg (PySem.Str.ofString "law")=some (.ref 645):=mg_of KX T.g (by kernel_rfl)
  rw[hmg] at e
  obtain rfl:fa=645:=by cases e; rfl
  have g0:Good U.toPg U.top [] [] [] s₁.heap:=⟨fun a o q=>⟨q,by simp[foot],by simp⟩,rfl,fun k ob hd q=>by simp at q,fun i j hi hj q=>by simp at q,fun a q=>by simp[foot] at q,fun a q=>by simp[foot] at q,fun a q=>by simp at q⟩
  obtain⟨n,hn⟩:=script_at hL w1 hx
  have lx:=Cp hI
  have va:eZ U.toPg ⟨s₁.heap,[],[]⟩ [.lst (hV ns)] [.ref a] := .cons (.lst (n:=n) (xs:=vs) ⟨hn,by simp[foot],by simp⟩ (by omega) (vf hI)) .nil
  obtain⟨H',hF⟩:=JV ns []
  have hroom:ij 10 callerA:=⟨rfl,by decide,by decide⟩
  refine codeAny_mono (KD c callerA [] [] [] s₁ (fun v s'=>Q (.ok (.ret v)) s') (fun e s'=>False) _ _ _ H' hroom g0 va hF ?_) ?_
  · intro z s' ρ' st g' vz
    cases vz
    exact hQ s' (fun b o q=>st.keep b o q (by simp[foot]) (by simp)) st.os st.gens
  · intro r s' q
    match r,q with
    | .ok (.ret v),q=>exact q
    | .ok .next,q=>exact q.elim
    | .ok .brk,q=>exact q.elim
    | .ok .cont,q=>exact q.elim
    | .error e,q=>exact q.elim
end Mine
end
section
open PySem PySem.W PyProof.Rows PySem.Calls PySem.SeqAt
namespace Mine
theorem K4:PySem.Challenge.rw_on0176_01.wellSaid=true:=(congrFun PySem.W.Fast.te9446332074065402090 _).trans (by kernel_rfl)
noncomputable def dl:DefRec × List (Str × PySem.Expr):=(defOf vw "law").get (by kernel_rfl)
theorem law_holds:PySem.Challenge.rw_on0176_01.Holds:=by
  refine holds_law K4 fun said=>PySem.W.holds_open (r:=PySem.Challenge.rw_on0176_01.row) (d:=dl.1) (kwd:=dl.2) (XP:=fun _ _=>True) Lk hk.of hk.keeps (fun _ _=>trivial) (fun _ _ _ _ _=>trivial) (by kernel_rfl) (by kernel_rfl) (by kernel_rfl) (fun s e=>recFacts_of e) rfl said (by kernel_rfl) ⟨rfl,rfl,rfl,rfl,rfl,by decide +kernel⟩ ?hw ?_
  case hw=>w_witness2
  intro w s₀ s₁ mg mb G Y fa o pm cd doc dV kV ho hd' hcd hD hmg hg args vals as hpre hlay hrd hwl hlo
  have KX:=kIn_of Y
  refine Ground.open G ?_
  intro T B D TE TW
  clear B D TE TW ho hd' hcd hD
  have hmg:mg (PySem.Str.ofString "law")=some (.ref fa):=(congrArg mg (show PySem.Str.ofString "law"=dl.1.name by kernel_rfl)).trans hmg
  wrow_args hpre hlay hrd hwl hlo
  refine enter_call ?_
  refine law_code _ KX (topRead_of T) hmg (by assumption) (by assumption) (by assumption) ⟨_,rfl⟩ (by omega) ?_
  intro s' hk ho hg'
  refine GoodW.toG ⟨.inl ⟨_, .bool true,[],rfl,?_, .bool true,?_,?_⟩,hk,ho,hg'.trans hg⟩
  · intro cls
    rfl
  · exact postW_of (by wrow_shape) (by wtm_val) (by str_meet; first | done | w_fin)
  · exact fun _=>⟨.nil,fun a h=>nomatch h⟩
end Mine
end

theorem PySem.Challenge.cw_on0176_01_holds : PySem.Challenge.rw_on0176_01.Holds :=
  Mine.law_holds
