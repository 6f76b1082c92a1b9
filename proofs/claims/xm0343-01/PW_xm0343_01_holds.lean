import PyProof.Rows.All
import Wide.All
import OpenK.AllK
import Wide.FinOn
import PyProof.ExcAttrAll.Exception
import PyProof.ExcInit
import PyProof.ExcClass3
import PyProof.ExcBaseAll.Exception
import PySem.Challenge.RW_xm0343_01
open PySem PySem.W PyProof.Rows PySem.Calls
open PySem PySem.W PyProof.Rows PySem.Calls PyProof.Rows.LCg PyProof.Rows.LCt
set_option Elab.async false
set_option maxRecDepth 100000
set_option linter.unusedVariables false
namespace Internal
set_option genInjectivity false
set_option genSizeOf false
set_option genCtorIdx false
section
set_option compiler.extract_closed false
@[elab_as_elim] theorem rwr {α:Sort u} {a b:α} {p:α→Prop} (h:a=b) (x:p b):p a:=h ▸ x
@[elab_as_elim] theorem rwl {α:Sort u} {a b:α} {p:α→Prop} (h:b=a) (x:p b):p a:=h ▸ x
def Oi (k:String) (a:List Lean.Syntax):Lean.Syntax:=.node .none (.str `Lean.Parser.Tactic k) a.toArray
def JF (a:List Lean.Syntax):Lean.Syntax:=.node .none `null a.toArray
def RL (f:Lean.Syntax) (a:List Lean.Syntax):Lean.Syntax:=.node .none `Lean.Parser.Term.app #[f,JF a]
def R8 (s:Lean.Syntax):List Lean.Syntax→List Lean.Syntax
 | []=>[s.setArg 2 (s[2].setArg 1 (JF []))]
 | r :: l=>Oi "first" [s,JF [JF [s,Oi "refine" [s,RL (Lean.mkIdent (if r[0].isNone then `rwr else `rwl)) [.node .none `Lean.Parser.Term.paren #[.node .none `Lean.Parser.Term.hygienicLParen #[s,.node .none `hygieneInfo #[Lean.mkIdent .anonymous]],RL r[1] [.node .none `Lean.Parser.Term.ellipsis #[s]],s],.node .none `Lean.Parser.Term.syntheticHole #[s,s]]]],JF [s,(s.setArg 2 (s[2].setArg 1 (JF [r]))).setKind (.str `Lean.Parser.Tactic "rewriteSeq")]]] :: s :: R8 s l
def Rn:Nat→Lean.Syntax→Lean.Syntax
 | k + 1,.node _ n a=>
  let s:=Lean.Syntax.node .none n (a.map (Rn k))
  if n == `Lean.Parser.Tactic.rwSeq && s[3].isNone then Oi "paren" [s,Oi "tacticSeq" [Oi "tacticSeq1Indented" [JF (R8 s s[2][1].getSepArgs.toList)]],s]
  else s
 | _,s=>s.setInfo .none
local macro_rules | `(tactic| omega)=>`(tactic| first | assumption | exact Nat.le_trans ‹_› (by decide) | exact Nat.lt_of_le_of_lt ‹_› (by decide) | exact Nat.lt_of_lt_of_le ‹_› (by decide) | exact Nat.le_of_lt ‹_› | exact Nat.le_trans (Nat.add_le_add_right ‹_› _) (by decide) | exact Nat.le_trans (Nat.add_le_add ‹_› ‹_›) (by decide) | exact Nat.le_trans (Nat.add_le_add (Nat.add_le_add ‹_› ‹_›) ‹_›) (by decide) | exact Nat.le_trans (Nat.le_of_lt ‹_›) (by decide) | exact Nat.le_trans (Nat.le_trans ‹_› ‹_›) (by decide) | exact Nat.lt_of_lt_of_le ‹_› ‹_› | exact Nat.le_trans ‹_› ‹_› | lia -abstractProof)
local macro_rules (kind:=Lean.Parser.Command.declaration) | x=>do
 if x.getPos?.isNone then Lean.Macro.throwUnsupported
 let y:=Rn 10000 x
 return if x[0][1].isNone && (x[1].isOfKind `Lean.Parser.Command.definition || x[1].isOfKind `Lean.Parser.Command.abbrev) then y.setArg 0 (y[0].setArg 4 (JF [.node .none `Lean.Parser.Command.noncomputable #[y]])) else y
set_option maxRecDepth 100000
abbrev Led:=List (Addr×Obj)
set_option genCtorIdx false
inductive V where
 | none
 | bool (b:Bool)
 | int (i:Int)
 | str (s:Str)
 | tup (xs:List V)
 | fl (xs:List V)
 | obj (c:Addr) (ks:List Str) (vs:List V)
 | aH (ks:List Str) (vs:List V)
 | e9 (ks:List Int) (vs:List V)
 | ref (a:Addr)
 | g (a:Addr)
 | bi (id:String)
 | ty (n:String)
 | rng (i j k:Int)
def V.ctorIdx (x:V):Nat:=x.casesOn 0 (fun _=>1) (fun _=>2) (fun _=>3) (fun _=>4) (fun _=>5) (fun _ _ _=>6) (fun _ _=>7) (fun _ _=>8) (fun _=>9) (fun _=>10) (fun _=>11) (fun _=>12) (fun _ _ _=>13)
inductive AO where
 | list (xs:List V)
 | ds (ks:List Str) (vs:List V)
 | di (ks:List Int) (vs:List V)
 | inst (c d:Addr)
 | exc (c d:Addr)
 | exc0 (c:Addr)
 | excn (c d:Addr)
 | cell (v:Option V)
def AO.ctorIdx (x:AO):Nat:=x.casesOn (fun _=>0) (fun _ _=>1) (fun _ _=>2) (fun _ _=>3) (fun _ _=>4) (fun _=>5) (fun _ _=>6) (fun _=>7)
abbrev AH:=Addr→Option AO
abbrev Loc:=List (Str×Option V)
def AH.upd (σ:AH) (a:Addr) (o:AO):AH:=fun b=>if b=a then some o else σ b
class inductive At:Loc→Str→V→Prop
 | head {x:Str} {v:V} {r:Loc}:At ((x,some v) :: r) x v
 | tail {p:Str×Option V} {r:Loc} {x:Str} {v:V}:At r x v→At (p :: r) x v
class inductive sI (x:Str) (v:V):Loc→Loc→Prop
 | head {o:Option V} {r:Loc}:sI x v ((x,o) :: r) ((x,some v) :: r)
 | tail {p:Str×Option V} {r r':Loc}:sI x v r r'→sI x v (p :: r) (p :: r')
theorem At.mem {ρ:Loc} {x:Str} {v:V} (h:At ρ x v):x∈ρ.map (·.1):=by
 induction h with
 | head=>exact .head _
 | tail _ ih=>exact .tail _ ih
theorem sI.keys {x:Str} {v:V} {ρ ρ':Loc} (h:sI x v ρ ρ'):ρ'.map (·.1)=ρ.map (·.1):=by
 induction h with
 | head=>rfl
 | tail _ ih=>rw [List.map_cons,List.map_cons,ih]
theorem sI.mem {x:Str} {v:V} {ρ ρ':Loc} (h:sI x v ρ ρ'):x∈ρ.map (·.1):=by
 induction h with
 | head=>exact .head _
 | tail _ ih=>exact .tail _ ih
theorem sI.at {x:Str} {v:V} {ρ ρ':Loc} (h:sI x v ρ ρ') (nd:(ρ.map (·.1)).Nodup) {y:Str} {w:V} (k:At ρ' y w):(y=x∧w=v)∨(y≠x∧At ρ y w):=by
 induction h with
 | head=>
  rw [List.map_cons,List.nodup_cons] at nd
  cases k with
  | head=>exact .inl ⟨rfl,rfl⟩
  | tail k=>exact .inr ⟨fun e=>nd.1 (e ▸ k.mem),.tail k⟩
 | tail h' ih=>
  rw [List.map_cons,List.nodup_cons] at nd
  cases k with
  | head=>exact .inr ⟨fun e=>nd.1 (e ▸ h'.mem),.head⟩
  | tail k=>exact (ih nd.2 k).imp id fun q=>⟨q.1,.tail q.2⟩
abbrev tupO (vs:List Value) (n:Nat):Obj:={ cls:=.type "tuple", data:=.seq vs.toArray n }
abbrev gF (vs:List Value) (n:Nat):Obj:=listOf vs.toArray n
abbrev BZ (i j k:Int) (t u v:Tok):Obj:={ cls:=.type "range", data:=.fields #[.int i t,.int j u,.int k v] }
abbrev yI (C t:Addr):Obj:={ cls:=.ref C,data:=.fields #[.ref t,.none,.none,.none,.bool false,.none] }
abbrev ft (C d:Addr) (ws:List Value):Obj:={ cls:=.ref C,dict:=some d,data:=.fields ws.toArray }
structure Cx where
 prog:Program
 w:World
 H0:Heap
 K:Frag
 p:Program
 loose:List Str
 mg:Str→Option Value
 mb:Str→Option Value
def Kn (c:Cx) (fz:Led) (a:Addr) (o:Obj):Prop:=(a,o)∈fz∨c.K.lookup a=some o
class inductive FZ (R:V→Value→Prop):List V→List Value→Prop
 | nil:FZ R [] []
 | cons {x:V} {v:Value} {xs:List V} {vs:List Value}:R x v→FZ R xs vs→FZ R (x :: xs) (v :: vs)
class inductive MD (R:V→Value→Prop) (P:PySem.Params):List Str→List V→List DictEntry→Prop
 | nil:MD R P [] [] []
 | cons {k:Str} {t:Tok} {x:V} {v:Value} {ks:List Str} {xs:List V} {es:List DictEntry}:R x v→MD R P ks xs es→MD R P (k :: ks) (x :: xs) (⟨PyData.keyHash P k,.str k t,v⟩ :: es)
class inductive Nj (R:V→Value→Prop):List Int→List V→List DictEntry→Prop
 | nil:Nj R [] [] []
 | cons {k:Int} {h:Int} {t:Tok} {x:V} {v:Value} {ks:List Int} {xs:List V} {es:List DictEntry}:h=hashInt k→R x v→Nj R ks xs es→Nj R (k :: ks) (x :: xs) (⟨h,.int k t,v⟩ :: es)
class inductive VR (c:Cx) (fz:Led):V→Value→Prop
 | none:VR c fz .none .none
 | bool (b:Bool):VR c fz (.bool b) (.bool b)
 | int (i:Int) (t:Tok):VR c fz (.int i) (.int i t)
 | str (s:Str) (t:Tok):VR c fz (.str s) (.str s t)
 | ref (a:Addr):VR c fz (.ref a) (.ref a)
 | g (a:Addr):VR c fz (.g a) (.ref a)
 | bi (id:String):VR c fz (.bi id) (.builtin id)
 | ty (n:String):VR c fz (.ty n) (.type n)
 | tup {xs:List V} {a:Addr} {vs:List Value} {n:Nat}:Kn c fz a (tupO vs n)→FZ (VR c fz) xs vs→VR c fz (.tup xs) (.ref a)
 | fl {xs:List V} {a:Addr} {vs:List Value} {n:Nat}:Kn c fz a (gF vs n)→FZ (VR c fz) xs vs→VR c fz (.fl xs) (.ref a)
 | obj {C d:Addr} {ks:List Str} {vs:List V} {a:Addr} {es:List DictEntry} {n:Nat}:ks.Nodup→Kn c fz a (instObj C d)→Kn c fz d (dictOf es n)→MD (VR c fz) c.w.params ks vs es→VR c fz (.obj C ks vs) (.ref a)
 | aH {ks:List Str} {vs:List V} {a:Addr} {es:List DictEntry} {n:Nat}:ks.Nodup→Kn c fz a (dictOf es n)→MD (VR c fz) c.w.params ks vs es→VR c fz (.aH ks vs) (.ref a)
 | rng {i j k:Int} {t u v:Tok} {a:Addr}:Kn c fz a (BZ i j k t u v)→VR c fz (.rng i j k) (.ref a)
 | e9 {ks:List Int} {vs:List V} {a:Addr} {es:List DictEntry} {n:Nat}:ks.Nodup→Kn c fz a (dictOf es n)→Nj (VR c fz) ks vs es→VR c fz (.e9 ks vs) (.ref a)
abbrev bK (c:Cx) (fz:Led):List V→List Value→Prop:=FZ (VR c fz)
abbrev DR (c:Cx) (fz:Led):List Str→List V→List DictEntry→Prop:=MD (VR c fz) c.w.params
abbrev DI (c:Cx) (fz:Led):List Int→List V→List DictEntry→Prop:=Nj (VR c fz)
theorem Kn.mono {c:Cx} {fz fz':Led} (h:∀ p∈fz,p∈fz') {a:Addr} {o:Obj} (k:Kn c fz a o):Kn c fz' a o:=k.imp (h _) id
section
variable {c:Cx} {fz fz':Led} (h:∀ p∈fz,p∈fz')
include h
theorem VR.mono {x:V} {v:Value} (r:VR c fz x v):VR c fz' x v:=VR.rec (motive_1:=fun x v _=>VR c fz' x v) (motive_2:=fun x v _=>bK c fz' x v) (motive_3:=fun ks x v _=>DR c fz' ks x v) (motive_4:=fun ks x v _=>DI c fz' ks x v) .none .bool .int .str .ref .g .bi .ty (fun k _ r=>.tup (k.mono h) r) (fun k _ r=>.fl (k.mono h) r) (fun nd k k' _ r=>.obj nd (k.mono h) (k'.mono h) r) (fun nd k _ r=>.aH nd (k.mono h) r) (fun k=>.rng (k.mono h)) (fun nd k _ r=>.e9 nd (k.mono h) r) .nil (fun _ _ a r=>.cons a r) .nil (fun _ _ a r=>.cons a r) .nil (fun e _ _ a r=>.cons e a r) r
theorem bK.mono {x:List V} {v:List Value} (r:bK c fz x v):bK c fz' x v:=by
 induction r with
 | nil=>exact .nil
 | cons a _ ih=>exact .cons (a.mono h) ih
theorem DR.mono {ks:List Str} {x:List V} {v:List DictEntry} (r:DR c fz ks x v):DR c fz' ks x v:=by
 induction r with
 | nil=>exact .nil
 | cons a _ ih=>exact .cons (a.mono h) ih
theorem DI.mono {ks:List Int} {x:List V} {v:List DictEntry} (r:DI c fz ks x v):DI c fz' ks x v:=by
 induction r with
 | nil=>exact .nil
 | cons e a _ ih=>exact .cons e (a.mono h) ih
end
inductive Rv (c:Cx) (fz:Led) (f:List Value→Nat→Obj) (xs:List V) (v:Value):Prop
 | mk (a:Addr) (vs:List Value) (n:Nat) (e:v=.ref a) (k:Kn c fz a (f vs n)) (r:bK c fz xs vs)
inductive Se (c:Cx) (fz:Led) (C:Addr) (ks:List Str) (vs:List V) (v:Value):Prop
 | mk (d a:Addr) (es:List DictEntry) (n:Nat) (e:v=.ref a) (nd:ks.Nodup) (k:Kn c fz a (instObj C d)) (k':Kn c fz d (dictOf es n)) (r:DR c fz ks vs es)
inductive SW (c:Cx) (fz:Led) (ks:List Str) (vs:List V) (v:Value):Prop
 | mk (a:Addr) (es:List DictEntry) (n:Nat) (e:v=.ref a) (nd:ks.Nodup) (k:Kn c fz a (dictOf es n)) (r:DR c fz ks vs es)
inductive Ss (c:Cx) (fz:Led) (ks:List Int) (vs:List V) (v:Value):Prop
 | mk (a:Addr) (es:List DictEntry) (n:Nat) (e:v=.ref a) (nd:ks.Nodup) (k:Kn c fz a (dictOf es n)) (r:DI c fz ks vs es)
inductive Tf (c:Cx) (fz:Led) (i j k:Int) (v:Value):Prop
 | mk (t u w:Tok) (a:Addr) (e:v=.ref a) (k':Kn c fz a (BZ i j k t u w))
def VI (c:Cx) (fz:Led):V→Value→Prop
 | .none,v=>v=.none
 | .bool b,v=>v=.bool b
 | .int i,v=>∃ t,v=.int i t
 | .str x,v=>∃ t,v=.str x t
 | .ref a,v=>v=.ref a
 | .g a,v=>v=.ref a
 | .bi k,v=>v=.builtin k
 | .ty k,v=>v=.type k
 | .tup xs,v=>Rv c fz tupO xs v
 | .fl xs,v=>Rv c fz gF xs v
 | .obj C ks vs,v=>Se c fz C ks vs v
 | .aH ks vs,v=>SW c fz ks vs v
 | .rng i j k,v=>Tf c fz i j k v
 | .e9 ks vs,v=>Ss c fz ks vs v
theorem VR.inv {c:Cx} {fz:Led} {x:V} {v:Value} (r:VR c fz x v):VI c fz x v:=by
 cases r with
 | none | bool | ref | g | bi | ty=>rfl
 | int _ t | str _ t=>exact ⟨t,rfl⟩
 | tup k rs=>exact ⟨_,_,_,rfl,k,rs⟩
 | fl k rs=>exact ⟨_,_,_,rfl,k,rs⟩
 | obj nd k k' rs=>exact ⟨_,_,_,_,rfl,nd,k,k',rs⟩
 | aH nd k rs=>exact ⟨_,_,_,rfl,nd,k,rs⟩
 | rng k=>exact ⟨_,_,_,_,rfl,k⟩
 | e9 nd k rs=>exact ⟨_,_,_,rfl,nd,k,rs⟩
inductive OR (c:Cx) (fz:Led):AO→Obj→Prop
 | list {xs:List V} {vs:List Value} (n:Nat):bK c fz xs vs→OR c fz (.list xs) (gF vs n)
 | ds {ks:List Str} {vs:List V} {es:List DictEntry} (n:Nat):ks.Nodup→DR c fz ks vs es→OR c fz (.ds ks vs) (dictOf es n)
 | di {ks:List Int} {vs:List V} {es:List DictEntry} (n:Nat):ks.Nodup→DI c fz ks vs es→OR c fz (.di ks vs) (dictOf es n)
 | inst (C d:Addr):OR c fz (.inst C d) (instObj C d)
 | exc (C d:Addr) (ws:List Value):ws[2]?=some .none→OR c fz (.exc C d) (ft C d ws)
 | exc0 (C t:Addr):OR c fz (.exc0 C) (yI C t)
 | excn (C d t:Addr):OR c fz (.excn C d) (ft C d [.ref t,.none,.none,.none,.bool false,.none])
 | cell0 {ro:Obj}:ro.data=.cell none→OR c fz (.cell none) ro
 | cell {ro:Obj} {v:V} {u:Value}:ro.data=.cell (some u)→VR c fz v u→OR c fz (.cell (some v)) ro
theorem OR.mono {c:Cx} {fz fz':Led} (h:∀ p∈fz,p∈fz') {o:AO} {ro:Obj} (k:OR c fz o ro):OR c fz' o ro:=by
 cases k with
 | list n r=>exact .list n (r.mono h)
 | ds n nd r=>exact .ds n nd (r.mono h)
 | di n nd r=>exact .di n nd (r.mono h)
 | inst C d=>exact .inst C d
 | exc C d ws e=>exact .exc C d ws e
 | exc0 C t=>exact .exc0 C t
 | excn C d t=>exact .excn C d t
 | cell0 e=>exact .cell0 e
 | cell e r=>exact .cell e (r.mono h)
inductive S3 (c:Cx) (fz:Led) (xs:List V) (o:Obj):Prop
 | mk (vs:List Value) (n:Nat) (e:o=gF vs n) (r:bK c fz xs vs)
inductive Si (c:Cx) (fz:Led) (ks:List Str) (vs:List V) (o:Obj):Prop
 | mk (es:List DictEntry) (n:Nat) (e:o=dictOf es n) (nd:ks.Nodup) (r:DR c fz ks vs es)
inductive Sd (c:Cx) (fz:Led) (ks:List Int) (vs:List V) (o:Obj):Prop
 | mk (es:List DictEntry) (n:Nat) (e:o=dictOf es n) (nd:ks.Nodup) (r:DI c fz ks vs es)
def OI (c:Cx) (fz:Led):AO→Obj→Prop
 | .list xs,o=>S3 c fz xs o
 | .ds ks vs,o=>Si c fz ks vs o
 | .di ks vs,o=>Sd c fz ks vs o
 | .inst C d,o=>o=instObj C d
 | .exc C d,o=>∃ ws,o=ft C d ws∧ws[2]?=some .none
 | .exc0 C,o=>∃ t,o=yI C t
 | .excn C d,o=>∃ t,o=ft C d [.ref t,.none,.none,.none,.bool false,.none]
 | .cell none,o=>o.data=.cell none
 | .cell (some v),o=>∃ u,o.data=.cell (some u)∧VR c fz v u
theorem OR.inv {c:Cx} {fz:Led} {x:AO} {o:Obj} (r:OR c fz x o):OI c fz x o:=by
 cases r with
 | list n r=>exact ⟨_,n,rfl,r⟩
 | ds n nd r=>exact ⟨_,n,rfl,nd,r⟩
 | di n nd r=>exact ⟨_,n,rfl,nd,r⟩
 | inst=>rfl
 | exc _ _ ws e=>exact ⟨ws,rfl,e⟩
 | exc0 _ t=>exact ⟨t,rfl⟩
 | excn _ _ t=>exact ⟨t,rfl⟩
 | cell0 e=>exact e
 | cell e r=>exact ⟨_,e,r⟩
structure Fn where
 qual:Str
 scope:Scope
 f:Addr
 cdv:Value
 cl:List (Str×Addr):=[]
abbrev Fn.env (fn:Fn) (L:Addr):Env:=envX fn.qual fn.scope L fn.f fn.cdv fn.cl
structure da where
 A₀:Around
 outer:List Env
 frs:Led
 L:Addr
 keys:List Str
structure Cx.Ok (c:Cx):Prop where
 kin:c.K.In c.H0
 top:TopRead c.p c.loose c.mg c.mb c.H0
 nolst:∀ a vs n,c.K.lookup a≠some (gF vs n)
 mods:(c.H0.get? sysModules).isSome=true
 kmods:c.K.lookup sysModules=none
structure Ok (c:Cx) (fn:Fn) (d:da):Prop where
 cx:c.Ok
 stack:d.A₀.frames=some d.outer
 frs:TI.Frs d.outer d.frs
 kind:fn.scope.kind=.function
 nd:(fn.scope.names.map (·.1)).Nodup
 keysnd:d.keys.Nodup
 keysin:∀ x∈d.keys,(x,NameKind.local)∈fn.scope.names
 nodebug:(fn.scope.names.all fun p=>!(p.1 == ("__debug__" : Str)))=true
structure Lv (fn:Fn) (d:da) (A:Around) (n:Nat) (hd:Option Addr):Prop where
 frames:A.frames=some (fn.env d.L :: d.outer)
 depth:A.depth + 4 * n + 10 < recursionLimit
 units:A.units + 16 * n + 100 < cLine
 handled:A.handled=hd.map Value.ref
structure Rest where
 gens:Array GenState
 drawn:Drawn
 os:OsState
inductive Hp (c:Cx) (fz a7 led frs:Led) (a:Addr) (o:AO):Prop
 | mk (h1:∀ p∈fz,p.1≠a) (h2:∀ p∈a7,p.1≠a) (h3:∀ p∈frs,p.1≠a) (ro:Obj) (hm:(a,ro)∈led) (ho:OR c fz o ro)
structure Seen (c:Cx) (d:da) (ρ:Loc) (σ:AH) (fz a7:Led) (h:Heap) (m:Str→Option Value) (led frs:Led):Prop where
 fr:Fr c.H0 d.L h m
 nw:News c.H0 d.L h led
 nd:(led.map (·.1)).Nodup
 fzin:∀ p∈fz,p∈led
 itin:∀ p∈a7,p∈led
 frin:∀ p∈frs,p∈led
 frup:TI.SameUp d.frs frs
 frnd:(frs.map (·.1)).Nodup
 apart:∀ p∈fz,∀ q∈frs,p.1≠q.1
 apart':∀ p∈a7,∀ q∈frs,p.1≠q.1
 hp:∀ a o,σ a=some o→Hp c fz a7 led frs a o
 keys:ρ.map (·.1)=d.keys
 lc:∀ x v,At ρ x v→∃ u,m x=some u∧VR c fz v u
 apfi:∀ p∈fz,∀ q∈a7,p.1≠q.1
inductive Rf (c:Cx) (d:da) (ρ:Loc) (σ:AH) (fz a7:Led) (h:Heap):Prop
 | mk (m:Str→Option Value) (led frs:Led):Seen c d ρ σ fz a7 h m led frs→Rf c d ρ σ fz a7 h
structure St (c:Cx) (d:da) (ρ:Loc) (σ:AH) (fz a7:Led) (R:Rest) (s:Shared):Prop where
 ex:Rf c d ρ σ fz a7 s.heap
 rest:s.gens=R.gens∧s.drawn=R.drawn∧s.os=R.os
inductive PV (c:Cx) (d:da) (ρ:Loc) (fz a7:Led) (R:Rest) (Φ:V→AH→Prop) (v:Value) (s:Shared):Prop
 | mk (x:V) (σ:AH) (fz':Led):Φ x σ→VR c fz' x v→(∀ p∈fz,p∈fz')→St c d ρ σ fz' a7 R s→PV c d ρ fz a7 R Φ v s
theorem PV.weaken {c:Cx} {d:da} {ρ:Loc} {fz fz₁ a7:Led} {R:Rest} {Φ:V→AH→Prop} {v:Value} {s:Shared} (h:∀ p∈fz,p∈fz₁) (k:PV c d ρ fz₁ a7 R Φ v s):PV c d ρ fz a7 R Φ v s:=
 by cases k with | mk x σ fz' a b e f=>exact ⟨x,σ,fz',a,b,fun p hp=>e p (h p hp),f⟩
inductive Tb (c:Cx) (d:da) (led:Led) (h:Heap) (ws:List Value):Prop
 | mk (T:Addr) (oT:Obj) (ts:Array Value) (t0:ws[1]?=some (.ref T)) (t1:T≠d.L) (t2:c.H0.get? T=none) (t3:∀ p∈led,p.1≠T) (t4:h.get? T=some oT) (t5:oT.data=.fields ts) (t6:4≤ts.size)
def RZ (c:Cx) (d:da) (led:Led) (h:Heap) (ws:List Value):Prop:=
 6≤ws.length∧(ws[1]?=some .none∨Tb c d led h ws)
inductive N9 (c:Cx) (d:da) (ρ:Loc) (σ:AH) (fz a7:Led) (a:Addr) (h:Heap):Prop
 | mk (m:Str→Option Value) (led frs:Led) (C dd:Addr) (ws:List Value):Seen c d ρ σ fz a7 h m led frs→σ a=some (.exc C dd)→(a,ft C dd ws)∈led→RZ c d led h ws→N9 c d ρ σ fz a7 a h
structure GP (c:Cx) (d:da) (ρ:Loc) (σ:AH) (fz a7:Led) (R:Rest) (a:Addr) (s:Shared):Prop where
 ex:N9 c d ρ σ fz a7 a s.heap
 rest:s.gens=R.gens∧s.drawn=R.drawn∧s.os=R.os
inductive PX (c:Cx) (d:da) (fz a7:Led) (R:Rest) (Ψ:Loc→Addr→AH→Prop) (e:Value) (s:Shared):Prop
 | mk (ρ:Loc) (a:Addr) (σ:AH) (fz':Led):e=.ref a→Ψ ρ a σ→(∀ p∈fz,p∈fz')→GP c d ρ σ fz' a7 R a s→PX c d fz a7 R Ψ e s
theorem PX.weaken {c:Cx} {d:da} {fz fz₁ a7:Led} {R:Rest} {Ψ:Loc→Addr→AH→Prop} {v:Value} {s:Shared} (h:∀ p∈fz,p∈fz₁) (k:PX c d fz₁ a7 R Ψ v s):PX c d fz a7 R Ψ v s:=
 by cases k with | mk x a σ fz' e b f g=>exact ⟨x,a,σ,fz',e,b,fun p hp=>f p (h p hp),g⟩
inductive AF where
 | next | brk | cont
 | ret (v:V)
def AF.ctorIdx (x:AF):Nat:=x.casesOn 0 1 2 (fun _=>3)
inductive EI (c:Cx) (fz:Led):AF→Flow→Prop
 | next:EI c fz .next .next
 | brk:EI c fz .brk .brk
 | cont:EI c fz .cont .cont
 | ret {v:V} {u:Value}:VR c fz v u→EI c fz (.ret v) (.ret u)
inductive PF (c:Cx) (d:da) (fz a7:Led) (R:Rest) (Φ:AF→Loc→AH→Prop) (f:Flow) (s:Shared):Prop
 | mk (x:AF) (ρ:Loc) (σ:AH) (fz':Led):Φ x ρ σ→EI c fz' x f→(∀ p∈fz,p∈fz')→St c d ρ σ fz' a7 R s→PF c d fz a7 R Φ f s
theorem PF.weaken {c:Cx} {d:da} {fz fz₁ a7:Led} {R:Rest} {Φ:AF→Loc→AH→Prop} {f:Flow} {s:Shared} (h:∀ p∈fz,p∈fz₁) (k:PF c d fz₁ a7 R Φ f s):PF c d fz a7 R Φ f s:=
 by cases k with | mk x ρ σ fz' a b e g=>exact ⟨x,ρ,σ,fz',a,b,fun p hp=>e p (h p hp),g⟩
def SE (c:Cx) (fn:Fn) (n:Nat) (hd:Option Addr) (ρ:Loc) (σ:AH) (e:Expr) (Φ:V→AH→Prop) (Ψ:Loc→Addr→AH→Prop):Prop:=
 ∀ d A fz a7 R s,Ok c fn d→Lv fn d A n hd→St c d ρ σ fz a7 R s→wpAny (model c.prog c.w) A (eval e (fn.env d.L)) (PV c d ρ fz a7 R Φ) (PX c d fz a7 R Ψ) s
def SS (c:Cx) (fn:Fn) (n:Nat) (hd:Option Addr) (ρ:Loc) (σ:AH) (b:Stmt) (Φ:AF→Loc→AH→Prop) (Ψ:Loc→Addr→AH→Prop):Prop:=
 ∀ d A fz a7 R s,Ok c fn d→Lv fn d A n hd→St c d ρ σ fz a7 R s→wpAny (model c.prog c.w) A (exec b (fn.env d.L)) (PF c d fz a7 R Φ) (PX c d fz a7 R Ψ) s
def SB (c:Cx) (fn:Fn) (n:Nat) (hd:Option Addr) (ρ:Loc) (σ:AH) (b:List Stmt) (Φ:AF→Loc→AH→Prop) (Ψ:Loc→Addr→AH→Prop):Prop:=
 ∀ d A fz a7 R s,Ok c fn d→Lv fn d A n hd→St c d ρ σ fz a7 R s→wpAny (model c.prog c.w) A (execs b (fn.env d.L)) (PF c d fz a7 R Φ) (PX c d fz a7 R Ψ) s
def AH.del (σ:AH) (a:Addr):AH:=fun b=>if b=a then none else σ b
theorem AH.a9 (σ:AH) (a:Addr) (o:AO):(σ.upd a o) a=some o:=if_pos rfl
theorem AH.a8 (σ:AH) {a b:Addr} (o:AO) (h:b≠a):(σ.upd a o) b=σ b:=if_neg h
theorem AH.aU (σ:AH) (a:Addr) (o o':AO):(σ.upd a o).upd a o'=σ.upd a o':=by
 funext b; unfold AH.upd; split <;> rfl
theorem AH.fV {σ:AH} {a:Addr} {o:AO} (h:σ a=some o):σ.upd a o=σ:=by
 funext b; unfold AH.upd; split
 ·rename_i e; rw [e,h]
 ·rfl
theorem AH.aF (σ:AH) {a b:Addr} (o o':AO) (h:a≠b):(σ.upd a o).upd b o'=(σ.upd b o').upd a o:=by
 funext x; unfold AH.upd
 by_cases h1:x=b
 ·by_cases h2:x=a
  ·exact absurd (h2.symm.trans h1) h
  ·simp [h1,Ne.symm h]
 ·simp [h1]
theorem AH.dw {σ:AH} {a:Addr} {o:AO} (h:σ a=none):(σ.upd a o).del a=σ:=by
 funext b; unfold AH.upd AH.del; split
 ·rename_i e; rw [e,h]
 ·rename_i e; exact if_neg e
theorem CB {led:Led} (h:(led.map (·.1)).Nodup) {a:Addr} {o o':Obj} (h1:(a,o)∈led) (h2:(a,o')∈led):o=o':=by
 induction led with
 | nil=>cases h1
 | cons p r ih=>
  rw [List.map_cons,List.nodup_cons] at h
  rcases List.mem_cons.mp h1 with e1 | m1
  ·rcases List.mem_cons.mp h2 with e2 | m2
   ·exact congrArg Prod.snd (e1.trans e2.symm)
   ·exact absurd (List.mem_map.mpr ⟨_,m2,by rw [← e1]⟩) h.1
  ·rcases List.mem_cons.mp h2 with e2 | m2
   ·exact absurd (List.mem_map.mpr ⟨_,m1,by rw [← e2]⟩) h.1
   ·exact ih h.2 m1 m2
inductive Qm (led:Led) (a:Addr) (o:Obj):Prop
 | mk (pre post:Led) (e:led=pre ++ (a,o) :: post) (h1:∀ p∈pre,p.1≠a) (h2:∀ p∈post,p.1≠a)
theorem bC {led:Led} (h:(led.map (·.1)).Nodup) {a:Addr} {o:Obj} (hm:(a,o)∈led):
  Qm led a o:=by
 obtain ⟨pre,post,rfl⟩:=List.append_of_mem hm
 refine ⟨pre,post,rfl,fun p hp e=>?_,fun p hp e=>?_⟩
 ·rw [List.map_append,List.map_cons,List.nodup_append] at h
  exact h.2.2 _ (List.mem_map_of_mem hp) _ (List.mem_cons_self) (by rw [e])
 ·rw [List.map_append,List.map_cons,List.nodup_append,List.nodup_cons] at h
  exact h.2.1.1 (List.mem_map.mpr ⟨p,hp,e⟩)
theorem eV {pre post:Led} {a:Addr} {o o':Obj} (h1:∀ p∈pre,p.1≠a) (h2:∀ p∈post,p.1≠a):Upd a o o' (pre ++ (a,o) :: post) (pre ++ (a,o') :: post):=by
 induction pre with
 | nil=>exact .head h2
 | cons p r ih=>exact .tail (h1 p (.head _)) (ih fun q hq=>h1 q (.tail _ hq))
section
variable {c:Cx} {d:da} {ρ:Loc} {σ:AH} {fz a7:Led} {h h':Heap} {m m':Str→Option Value} {led frs:Led}
theorem Seen.put {pre post:Led} {a:Addr} {ro ro':Obj} {o':AO} (S:Seen c d ρ σ fz a7 h m (pre ++ (a,ro) :: post) frs) (ha:(σ a).isSome=true) (F:Fr c.H0 d.L h' m) (N:News c.H0 d.L h' (pre ++ (a,ro') :: post))
  (ho:OR c fz o' ro'):Seen c d ρ (σ.upd a o') fz a7 h' m (pre ++ (a,ro') :: post) frs:=by
 obtain ⟨o,hs⟩:=Option.isSome_iff_exists.mp ha
 obtain ⟨f1,f2,f3,_⟩:=S.hp a o hs
 have swap:∀ p:Addr×Obj,p.1≠a→p∈pre ++ (a,ro) :: post→p∈pre ++ (a,ro') :: post:=fun p hp hm=>by
  rcases List.mem_append.mp hm with q | q
  ·exact List.mem_append_left _ q
  ·rcases List.mem_cons.mp q with rfl | q
   ·exact absurd rfl hp
   ·exact List.mem_append_right _ (.tail _ q)
 have nd:((pre ++ (a,ro') :: post).map (·.1)).Nodup:=by
  have:=S.nd
  simpa only [List.map_append,List.map_cons] using this
 refine ⟨F,N,nd,fun p hp=>swap p (f1 p hp) (S.fzin p hp),fun p hp=>swap p (f2 p hp) (S.itin p hp),fun p hp=>swap p (f3 p hp) (S.frin p hp),S.frup,S.frnd,S.apart,S.apart',fun b o hb=>?_,S.keys,S.lc,S.apfi⟩
 unfold AH.upd at hb
 by_cases e:b=a
 ·subst e
  rw [if_pos rfl] at hb
  cases hb
  exact ⟨f1,f2,f3,ro',by simp,ho⟩
 ·rw [if_neg e] at hb
  obtain ⟨g1,g2,g5,rb,g3,g4⟩:=S.hp b o hb
  exact ⟨g1,g2,g5,rb,swap _ e g3,g4⟩
theorem Seen.cw (S:Seen c d ρ σ fz a7 h m led frs) {a:Addr} (hf:∀ p∈led,p.1≠a):σ a=none:=by
 cases q:σ a with
 | none=>rfl
 | some o=>obtain ⟨_,_,_,ro,hm,_⟩:=S.hp a o q; exact absurd rfl (hf _ hm)
theorem Seen.alloc {a:Addr} {ro:Obj} {o:AO} (S:Seen c d ρ σ fz a7 h m led frs) (F:Fr c.H0 d.L h' m) (N:News c.H0 d.L h' ((a,ro) :: led)) (hf:∀ p∈led,p.1≠a) (ho:OR c fz o ro):
  Seen c d ρ (σ.upd a o) fz a7 h' m ((a,ro) :: led) frs:=by
 refine ⟨F,N,?_,fun p hp=>.tail _ (S.fzin p hp),fun p hp=>.tail _ (S.itin p hp),fun p hp=>.tail _ (S.frin p hp),S.frup,S.frnd,S.apart,S.apart',fun b o' hb=>?_,S.keys,S.lc,S.apfi⟩
 ·rw [List.map_cons,List.nodup_cons]
  exact ⟨fun q=>by obtain ⟨p,hp,e⟩:=List.mem_map.mp q; exact hf p hp e,S.nd⟩
 ·unfold AH.upd at hb
  by_cases e:b=a
  ·subst e
   rw [if_pos rfl] at hb
   cases hb
   exact ⟨fun p hp=>hf p (S.fzin p hp),fun p hp=>hf p (S.itin p hp),fun p hp=>hf p (S.frin p hp),ro,.head _,ho⟩
  ·rw [if_neg e] at hb
   obtain ⟨g1,g2,g5,rb,g3,g4⟩:=S.hp b o' hb
   exact ⟨g1,g2,g5,rb,.tail _ g3,g4⟩
theorem Seen.fresh {a:Addr} {ro:Obj} (S:Seen c d ρ σ fz a7 h m led frs) (F:Fr c.H0 d.L h' m) (N:News c.H0 d.L h' ((a,ro) :: led)) (hf:∀ p∈led,p.1≠a):
  Seen c d ρ σ ((a,ro) :: fz) a7 h' m ((a,ro) :: led) frs:=by
 have sub:∀ p∈fz,p∈(a,ro) :: fz:=fun p hp=>.tail _ hp
 refine ⟨F,N,?_,fun p hp=>?_,fun p hp=>.tail _ (S.itin p hp),fun p hp=>.tail _ (S.frin p hp),S.frup,S.frnd,fun p hp q hq=>?_,S.apart',fun b o' hb=>?_,S.keys,fun x v hx=>?_,fun p hp q hq=>?_⟩
 ·rw [List.map_cons,List.nodup_cons]
  exact ⟨fun q=>by obtain ⟨p,hp,e⟩:=List.mem_map.mp q; exact hf p hp e,S.nd⟩
 ·rcases List.mem_cons.mp hp with rfl | hp
  ·exact .head _
  ·exact .tail _ (S.fzin p hp)
 ·rcases List.mem_cons.mp hp with rfl | hp
  ·exact fun e=>hf q (S.frin q hq) e.symm
  ·exact S.apart p hp q hq
 ·obtain ⟨g1,g2,g5,rb,g3,g4⟩:=S.hp b o' hb
  refine ⟨fun p hp=>?_,g2,g5,rb,.tail _ g3,g4.mono sub⟩
  rcases List.mem_cons.mp hp with rfl | hp
  ·exact fun e=>hf _ g3 e.symm
  ·exact g1 p hp
 ·obtain ⟨u,hu,r⟩:=S.lc x v hx
  exact ⟨u,hu,r.mono sub⟩
 ·rcases List.mem_cons.mp hp with rfl | hp
  ·exact fun e=>hf q (S.itin q hq) e.symm
  ·exact S.apfi p hp q hq
theorem Seen.freeze {a:Addr} {o:AO} {ro:Obj} (S:Seen c d ρ σ fz a7 h m led frs) (hs:σ a=some o) (hm:(a,ro)∈led):Seen c d ρ (σ.del a) ((a,ro) :: fz) a7 h m led frs:=by
 have sub:∀ p∈fz,p∈(a,ro) :: fz:=fun p hp=>.tail _ hp
 obtain ⟨f1,f2,f3,_⟩:=S.hp a o hs
 refine ⟨S.fr,S.nw,S.nd,fun p hp=>?_,S.itin,S.frin,S.frup,S.frnd,fun p hp q hq=>?_,S.apart',fun b o' hb=>?_,S.keys,fun x v hx=>?_,fun p hp q hq=>?_⟩
 ·rcases List.mem_cons.mp hp with rfl | hp
  ·exact hm
  ·exact S.fzin p hp
 ·rcases List.mem_cons.mp hp with rfl | hp
  ·exact fun e=>f3 q hq e.symm
  ·exact S.apart p hp q hq
 ·unfold AH.del at hb
  by_cases e:b=a
  ·rw [if_pos e] at hb; cases hb
  ·rw [if_neg e] at hb
   obtain ⟨g1,g2,g5,rb,g3,g4⟩:=S.hp b o' hb
   refine ⟨fun p hp=>?_,g2,g5,rb,g3,g4.mono sub⟩
   rcases List.mem_cons.mp hp with rfl | hp
   ·exact fun q=>e q.symm
   ·exact g1 p hp
 ·obtain ⟨u,hu,r⟩:=S.lc x v hx
  exact ⟨u,hu,r.mono sub⟩
 ·rcases List.mem_cons.mp hp with rfl | hp
  ·exact fun e=>f2 q hq e.symm
  ·exact S.apfi p hp q hq
theorem Seen.drop {σ':AH} (S:Seen c d ρ σ fz a7 h m led frs) (hs:∀ a o,σ' a=some o→σ a=some o):Seen c d ρ σ' fz a7 h m led frs:=
 ⟨S.fr,S.nw,S.nd,S.fzin,S.itin,S.frin,S.frup,S.frnd,S.apart,S.apart',fun a o q=>S.hp a o (hs a o q),S.keys,S.lc,S.apfi⟩
theorem Seen.store {ρ':Loc} {x:Str} {v:V} {u:Value} (S:Seen c d ρ σ fz a7 h m led frs) (nd:d.keys.Nodup) (P:sI x v ρ ρ') (F:Fr c.H0 d.L h' (fun y=>if y=x then some u else m y)) (N:News c.H0 d.L h' led) (r:VR c fz v u):
  Seen c d ρ' σ fz a7 h' (fun y=>if y=x then some u else m y) led frs:=by
 refine ⟨F,N,S.nd,S.fzin,S.itin,S.frin,S.frup,S.frnd,S.apart,S.apart',S.hp,P.keys.trans S.keys,fun y w hy=>?_,S.apfi⟩
 rcases P.at (by rw [S.keys]; exact nd) hy with ⟨rfl,rfl⟩ | ⟨e,k⟩
 ·exact ⟨u,if_pos rfl,r⟩
 ·obtain ⟨u',hu,r'⟩:=S.lc y w k
  exact ⟨u',by rw [if_neg e]; exact hu,r'⟩
theorem Seen.grow (S:Seen c d ρ σ fz a7 h m led frs) (F:Fr c.H0 d.L h' m) (N:News c.H0 d.L h' led):Seen c d ρ σ fz a7 h' m led frs:=
 ⟨F,N,S.nd,S.fzin,S.itin,S.frin,S.frup,S.frnd,S.apart,S.apart',S.hp,S.keys,S.lc,S.apfi⟩
theorem Seen.push (S:Seen c d ρ σ fz a7 h m led frs) (o:Obj):Seen c d ρ σ fz a7 (h.push o) m led frs:=
 S.grow (S.fr.push o) fun p hp=>⟨Heap.get?_push_of_some _ (S.nw p hp).1,(S.nw p hp).2⟩
theorem Seen.known {a:Addr} {o:Obj} (S:Seen c d ρ σ fz a7 h m led frs) (K:c.K.In c.H0) (k:Kn c fz a o):h.get? a=some o:=by
 rcases k with k | k
 ·exact (S.nw _ (S.fzin _ k)).1
 ·exact S.fr.keep _ _ (K _ _ k)
theorem Seen.dU (S:Seen c d ρ σ fz a7 h m led frs):∀ p∈led,p.1≠h.objs.size:=fun p hp=>Nat.ne_of_lt (Heap.lt_size (S.nw p hp).1)
end
abbrev Pv:=V→AH→Prop
abbrev Px:=Loc→Addr→AH→Prop
inductive PB (c:Cx) (d:da) (ρ:Loc) (fz a7:Led) (R:Rest) (Φ:Bool→AH→Prop) (b:Bool) (s:Shared):Prop
 | mk (σ:AH) (fz':Led):Φ b σ→(∀ p∈fz,p∈fz')→St c d ρ σ fz' a7 R s→PB c d ρ fz a7 R Φ b s
theorem PB.weaken {c:Cx} {d:da} {ρ:Loc} {fz fz₁ a7:Led} {R:Rest} {Φ:Bool→AH→Prop} {v:Bool} {s:Shared} (h:∀ p∈fz,p∈fz₁) (k:PB c d ρ fz₁ a7 R Φ v s):PB c d ρ fz a7 R Φ v s:=by
 obtain ⟨σ,fz',a,e,f⟩:=k
 exact ⟨σ,fz',a,fun p hp=>e p (h p hp),f⟩
def ST (c:Cx) (fn:Fn) (n:Nat) (hd:Option Addr) (ρ:Loc) (σ:AH) (e:Expr) (Φ:Bool→AH→Prop) (Ψ:Px):Prop:=
 ∀ d A fz a7 R s,Ok c fn d→Lv fn d A n hd→St c d ρ σ fz a7 R s→wpAny (model c.prog c.w) A (isTrue e (fn.env d.L) (eval e (fn.env d.L))) (PB c d ρ fz a7 R Φ) (PX c d fz a7 R Ψ) s
def O1 (c:Cx) (fn:Fn) (n:Nat) (hd:Option Addr) (t:Value→Sem Value) (x:V) (ρ:Loc) (σ:AH) (Φ:Pv) (Ψ:Px):Prop:=
 ∀ d A fz a7 R s v,Ok c fn d→Lv fn d A n hd→St c d ρ σ fz a7 R s→VR c fz x v→wpAny (model c.prog c.w) A (t v) (PV c d ρ fz a7 R Φ) (PX c d fz a7 R Ψ) s
def O2 (c:Cx) (fn:Fn) (n:Nat) (hd:Option Addr) (t:Value→Value→Sem Value) (x y:V) (ρ:Loc) (σ:AH) (Φ:Pv) (Ψ:Px):Prop:=
 ∀ d A fz a7 R s v u,Ok c fn d→Lv fn d A n hd→St c d ρ σ fz a7 R s→VR c fz x v→VR c fz y u→wpAny (model c.prog c.w) A (t v u) (PV c d ρ fz a7 R Φ) (PX c d fz a7 R Ψ) s
def OT (c:Cx) (fn:Fn) (n:Nat) (hd:Option Addr) (x:V) (ρ:Loc) (σ:AH) (Φ:Bool→AH→Prop) (Ψ:Px):Prop:=
 ∀ d A fz a7 R s v,Ok c fn d→Lv fn d A n hd→St c d ρ σ fz a7 R s→VR c fz x v→wpAny (model c.prog c.w) A (truthy v) (PB c d ρ fz a7 R Φ) (PX c d fz a7 R Ψ) s
abbrev Rm (c:Cx) (fn:Fn) (n:Nat) (hd:Option Addr) (t:Value→Value→Sem Value) (ρ:Loc) (Φ:Pv) (Ψ:Px) (a:V):Pv:=fun b σ=>O2 c fn n hd t a b ρ σ Φ Ψ
abbrev kB (c:Cx) (fn:Fn) (n:Nat) (hd:Option Addr) (t:Value→Value→Sem Value) (ρ:Loc) (r:Expr) (Φ:Pv) (Ψ:Px):Pv:=fun a σ=>SE c fn n hd ρ σ r (Rm c fn n hd t ρ Φ Ψ a) Ψ
section
variable {c:Cx} {fn:Fn} {n:Nat} {hd:Option Addr} {ρ:Loc} {σ:AH} {d:da} {A:Around} {fz a7:Led} {R:Rest} {s:Shared} {Φ:Pv} {Ψ:Px}
theorem St.toks (S:St c d ρ σ fz a7 R s) (k:Nat):St c d ρ σ fz a7 R { s with toks:=k }:=⟨S.ex,S.rest⟩
theorem St.pv {x:V} {v:Value} (S:St c d ρ σ fz a7 R s) (r:VR c fz x v) (h:Φ x σ):PV c d ρ fz a7 R Φ v s:=⟨x,σ,fz,h,r,fun _ hp=>hp,S⟩
theorem St.pb {b:Bool} {Φ:Bool→AH→Prop} (S:St c d ρ σ fz a7 R s) (h:Φ b σ):PB c d ρ fz a7 R Φ b s:=⟨σ,fz,h,fun _ hp=>hp,S⟩
theorem aE {t:Sem Value} {Φ₁:Pv} {Q:Value→Shared→Prop} {E:Value→Shared→Prop} (h:wpAny (model c.prog c.w) A t (PV c d ρ fz a7 R Φ₁) (PX c d fz a7 R Ψ) s) (hE:∀ e s,PX c d fz a7 R Ψ e s→E e s)
  (k:∀ x v σ₁ fz₁ s₁,Φ₁ x σ₁→VR c fz₁ x v→(∀ p∈fz,p∈fz₁)→St c d ρ σ₁ fz₁ a7 R s₁→Q v s₁):
  wpAny (model c.prog c.w) A t Q E s:=
 wpAny_mono h (fun v s₁ q=>by obtain ⟨x,σ₁,fz₁,a,r,sub,S₁⟩:=q; exact k x v σ₁ fz₁ s₁ a r sub S₁) hE
theorem N0 {t:Sem Bool} {Φ₁:Bool→AH→Prop} {Q:Bool→Shared→Prop} {E:Value→Shared→Prop} (h:wpAny (model c.prog c.w) A t (PB c d ρ fz a7 R Φ₁) (PX c d fz a7 R Ψ) s) (hE:∀ e s,PX c d fz a7 R Ψ e s→E e s)
  (k:∀ b σ₁ fz₁ s₁,Φ₁ b σ₁→(∀ p∈fz,p∈fz₁)→St c d ρ σ₁ fz₁ a7 R s₁→Q b s₁):
  wpAny (model c.prog c.w) A t Q E s:=
 wpAny_mono h (fun v s₁ q=>by obtain ⟨σ₁,fz₁,a,sub,S₁⟩:=q; exact k v σ₁ fz₁ s₁ a sub S₁) hE
theorem back {t:Sem Value} {fz₁:Led} (sub:∀ p∈fz,p∈fz₁) (h:wpAny (model c.prog c.w) A t (PV c d ρ fz₁ a7 R Φ) (PX c d fz₁ a7 R Ψ) s):wpAny (model c.prog c.w) A t (PV c d ρ fz a7 R Φ) (PX c d fz a7 R Ψ) s:=
 wpAny_mono h (fun _ _ k=>k.weaken sub) fun _ _ k=>k.weaken sub
theorem Fv {t:Sem Bool} {Φ:Bool→AH→Prop} {fz₁:Led} (sub:∀ p∈fz,p∈fz₁) (h:wpAny (model c.prog c.w) A t (PB c d ρ fz₁ a7 R Φ) (PX c d fz₁ a7 R Ψ) s):wpAny (model c.prog c.w) A t (PB c d ρ fz a7 R Φ) (PX c d fz a7 R Ψ) s:=
 wpAny_mono h (fun _ _ k=>k.weaken sub) fun _ _ k=>k.weaken sub
theorem KW {k pos} (h:Φ .none σ):SE c fn n hd ρ σ (.Constant .none k pos) Φ Ψ:=fun _ _ _ _ _ _ _ _ S=>wpAny_Constant_none (S.pv .none h)
theorem LF {b k pos} (h:Φ (.bool b) σ):SE c fn n hd ρ σ (.Constant (.bool b) k pos) Φ Ψ:=fun _ _ _ _ _ _ _ _ S=>wpAny_Constant_bool (S.pv (.bool b) h)
theorem EK {i k pos} (h:Φ (.int i) σ):SE c fn n hd ρ σ (.Constant (.int i) k pos) Φ Ψ:=fun _ _ _ _ _ s _ _ S=>by
 show wpAny _ _ (mkInt i) _ _ _
 exact wpAny_mkInt ((S.toks _).pv (.int i _) h)
theorem Ob {x k pos} (h:Φ (.str x) σ):SE c fn n hd ρ σ (.Constant (.str x) k pos) Φ Ψ:=fun _ _ _ _ _ _ _ _ S=>wpAny_Constant_str ((S.toks _).pv (.str x _) h)
theorem dS {β:Type} {x:Str} {k:β} {l:List (Str×β)} (nd:(l.map (·.1)).Nodup) (m:(x,k)∈l):l.lookup x=some k:=by
 induction l with
 | nil=>cases m
 | cons p r ih=>
  rw [List.map_cons,List.nodup_cons] at nd
  rcases List.mem_cons.mp m with e | m
  ·cases e; rw [List.lookup_cons,beq_self_eq_true]
  ·rw [List.lookup_cons,beq_false_of_ne fun e=>nd.1 (List.mem_map.mpr ⟨_,m,e⟩)]
   exact ih nd.2 m
theorem eE {x:Str} {k:NameKind} {l:List (Str×NameKind)} (h:(l.all fun p=>!(p.1 == ("__debug__" : Str)))=true) (m:(x,k)∈l):(x == ("__debug__" : Str))=false:=by
 have:=List.all_eq_true.mp h _ m
 simpa using this
theorem Ok.kindOf (O:Ok c fn d) {x:Str} {k:NameKind} (m:(x,k)∈fn.scope.names):(fn.env d.L).kindOf x=some k:=dS O.nd m
theorem fb {x:Str} {v:V} {pos} (hx:At ρ x v) (h:Φ v σ):SE c fn n hd ρ σ (.Name x pos) Φ Ψ:=fun d A fz a7 R s O _ S=>by
 obtain ⟨m,led,frs,Z⟩:=S.ex
 obtain ⟨u,hu,r⟩:=Z.lc x v hx
 have mem:=O.keysin x (Z.keys ▸ hx.mem)
 exact nameX_L (cl:=fn.cl) Z.fr hu (S.pv r h) O.kind (O.kindOf mem) (eE O.nodebug mem)
def Glob (c:Cx) (x:Str) (v:V):Prop:=∃ u,nsIn c.K mainGlobals x=some (some u)∧VR c [] v u
theorem FH {x:Str} {v:V} {pos} (hm:(x,NameKind.globalImplicit)∈fn.scope.names) (g:Glob c x v) (h:Φ v σ):SE c fn n hd ρ σ (.Name x pos) Φ Ψ:=fun d A fz a7 R s O _ S=>by
 obtain ⟨m,led,frs,Z⟩:=S.ex
 obtain ⟨u,hu,r⟩:=g
 exact nameX_K (cl:=fn.cl) Z.fr O.cx.kin O.cx.top hu (S.pv (r.mono (fz:=[]) fun _ hp=>absurd hp List.not_mem_nil) h) O.kind (O.kindOf hm) (eE O.nodebug hm)
def uX (c:Cx) (x:Str) (v:V):Prop:=∃ u,nsIn c.K mainGlobals x=some none∧bootBuiltins x=some u∧x ≠ "__name__" ∧ VR c [] v u
theorem Gn {x:Str} {v:V} {pos} (hm:(x,NameKind.globalImplicit)∈fn.scope.names) (g:uX c x v) (h:Φ v σ):SE c fn n hd ρ σ (.Name x pos) Φ Ψ:=fun d A fz a7 R s O _ S=>by
 obtain ⟨m,led,frs,Z⟩:=S.ex
 obtain ⟨u,hu,hb,hn,r⟩:=g
 exact nameX_B (cl:=fn.cl) Z.fr O.cx.kin O.cx.top hu hb hn (S.pv (r.mono (fz:=[]) fun _ hp=>absurd hp List.not_mem_nil) h) O.kind (O.kindOf hm) (eE O.nodebug hm)
theorem I0 {l op r pos} (h:SE c fn n hd ρ σ l (kB c fn n hd (binaryOp op) ρ r Φ Ψ) Ψ):SE c fn n hd ρ σ (.BinOp l op r pos) Φ Ψ:=
 fun d A fz a7 R s O L S=>wpAny_BinOp (aE (h d A fz a7 R s O L S) (fun _ _ k=>k) fun x v σ₁ fz₁ s₁ h₁ r₁ sub₁ S₁=>aE (h₁ d A fz₁ a7 R s₁ O L S₁) (fun _ _ k=>k.weaken sub₁) fun y u σ₂ fz₂ s₂ h₂ r₂ sub₂ S₂=>
  back sub₁ (back sub₂ (h₂ d A fz₂ a7 R s₂ v u O L S₂ (r₁.mono sub₂) r₂)))
theorem OF {l op r pos} (h:SE c fn n hd ρ σ l (kB c fn n hd (compareOp op) ρ r Φ Ψ) Ψ) (hm:behindInMarks op r=false):
  SE c fn n hd ρ σ (.Compare l [op] [r] pos) Φ Ψ:=
 fun d A fz a7 R s O L S=>wpAny_Compare1 (aE (h d A fz a7 R s O L S) (fun _ _ k=>k) fun x v σ₁ fz₁ s₁ h₁ r₁ sub₁ S₁=>aE (h₁ d A fz₁ a7 R s₁ O L S₁) (fun _ _ k=>k.weaken sub₁) fun y u σ₂ fz₂ s₂ h₂ r₂ sub₂ S₂=>
  back sub₁ (back sub₂ (h₂ d A fz₂ a7 R s₂ v u O L S₂ (r₁.mono sub₂) r₂))) hm
theorem Jx {l op r pos} {Φ:Bool→AH→Prop} (h:SE c fn n hd ρ σ l (fun a σ₁=>SE c fn n hd ρ σ₁ r (fun b σ₂=>O2 c fn n hd (compareOp op) a b ρ σ₂ (fun x σ₃=>∃ q,x=.bool q∧Φ q σ₃) Ψ) Ψ) Ψ) (hm:behindInMarks op r=false):
  ST c fn n hd ρ σ (.Compare l [op] [r] pos) Φ Ψ:=
 fun d A fz a7 R s O L S=>wpAny_isTrue_Compare1 (aE (h d A fz a7 R s O L S) (fun _ _ k=>k) fun x v σ₁ fz₁ s₁ h₁ r₁ sub₁ S₁=>aE (h₁ d A fz₁ a7 R s₁ O L S₁) (fun _ _ k=>k.weaken sub₁) fun y u σ₂ fz₂ s₂ h₂ r₂ sub₂ S₂=>
  aE (h₂ d A fz₂ a7 R s₂ v u O L S₂ (r₁.mono sub₂) r₂) (fun _ _ k=>(k.weaken sub₂).weaken sub₁) fun z w σ₃ fz₃ s₃ h₃ r₃ sub₃ S₃=>by
   obtain ⟨q,rfl,hq⟩:=h₃
   obtain rfl:=r₃.inv
   exact wpAny_truthy_bool (((S₃.pb hq).weaken sub₃ |>.weaken sub₂).weaken sub₁)) hm
theorem Hn {e:Expr} {Φ:Bool→AH→Prop} (h:SE c fn n hd ρ σ e (fun x σ₁=>OT c fn n hd x ρ σ₁ Φ Ψ) Ψ) (he:∀ env,isTrue e env (eval e env)=(do let v ← eval e env; standAt e.pos; holding [v] (truthy v))):ST c fn n hd ρ σ e Φ Ψ:=
 fun d A fz a7 R s O L S=>isTrue_plain (aE (h d A fz a7 R s O L S) (fun _ _ k=>k) fun _ v _ fz₁ s₁ h₁ r₁ sub₁ S₁=>Fv sub₁ (h₁ d A fz₁ a7 R s₁ v O L S₁ r₁)) (he _)
theorem MZ {x pos} {Φ:Bool→AH→Prop} (h:ST c fn n hd ρ σ x (fun b σ₁=>Φ (!b) σ₁) Ψ):ST c fn n hd ρ σ (.UnaryOp .Not x pos) Φ Ψ:=
 fun d A fz a7 R s O L S=>isTrue_not (wpAny_mono (h d A fz a7 R s O L S) (fun _ _ q=>by obtain ⟨σ,fz,a,b,c⟩:=q; exact ⟨σ,fz,a,b,c⟩) fun _ _ k=>k)
theorem Dn {pos} {Φ:Bool→AH→Prop} (h:Φ true σ):ST c fn n hd ρ σ (.BoolOp .And [] pos) Φ Ψ:=fun _ _ _ _ _ _ _ _ S=>isTrue_and_nil (S.pb h)
theorem DO {pos} {Φ:Bool→AH→Prop} (h:Φ false σ):ST c fn n hd ρ σ (.BoolOp .Or [] pos) Φ Ψ:=fun _ _ _ _ _ _ _ _ S=>isTrue_or_nil (S.pb h)
theorem Jo {x rest pos} {Φ:Bool→AH→Prop} (h:ST c fn n hd ρ σ x (fun b σ₁=>if b then ST c fn n hd ρ σ₁ (.BoolOp .And rest pos) Φ Ψ else Φ false σ₁) Ψ):ST c fn n hd ρ σ (.BoolOp .And (x :: rest) pos) Φ Ψ:=
 fun d A fz a7 R s O L S=>isTrue_and (wpAny_mono (h d A fz a7 R s O L S) (fun b s₁ q=>by
  obtain ⟨σ₁,fz₁,a,sub,S₁⟩:=q
  cases b
  ·exact PB.weaken sub (S₁.pb a)
  ·exact Fv sub (a d A fz₁ a7 R s₁ O L S₁)) fun _ _ k=>k)
theorem O7 {x rest pos} {Φ:Bool→AH→Prop} (h:ST c fn n hd ρ σ x (fun b σ₁=>if b then Φ true σ₁ else ST c fn n hd ρ σ₁ (.BoolOp .Or rest pos) Φ Ψ) Ψ):ST c fn n hd ρ σ (.BoolOp .Or (x :: rest) pos) Φ Ψ:=
 fun d A fz a7 R s O L S=>isTrue_or (wpAny_mono (h d A fz a7 R s O L S) (fun b s₁ q=>by
  obtain ⟨σ₁,fz₁,a,sub,S₁⟩:=q
  cases b
  ·exact Fv sub (a d A fz₁ a7 R s₁ O L S₁)
  ·exact PB.weaken sub (S₁.pb a)) fun _ _ k=>k)
theorem IV {t b o pos} (h:ST c fn n hd ρ σ t (fun q σ₁=>if q then SE c fn n hd ρ σ₁ b Φ Ψ else SE c fn n hd ρ σ₁ o Φ Ψ) Ψ):SE c fn n hd ρ σ (.IfExp t b o pos) Φ Ψ:=
 fun d A fz a7 R s O L S=>wpAny_IfExp (wpAny_mono (h d A fz a7 R s O L S) (fun q s₁ k=>by
  obtain ⟨σ₁,fz₁,a,sub,S₁⟩:=k
  cases q <;> exact back sub (a d A fz₁ a7 R s₁ O L S₁)) fun _ _ k=>k)
theorem IK {b:Bool} {Φ:Bool→AH→Prop} (h:Φ b σ):OT c fn n hd (.bool b) ρ σ Φ Ψ:=fun d A fz a7 R s v O L S r=>by
 obtain rfl:=r.inv; exact wpAny_truthy_bool (S.pb h)
theorem Oo {i j:Int} (h:Φ (.int (i + j)) σ):O2 c fn n hd (binaryOp .Add) (.int i) (.int j) ρ σ Φ Ψ:=fun d A fz a7 R s v u O L S r1 r2=>by
 obtain ⟨_,rfl⟩:=r1.inv; obtain ⟨_,rfl⟩:=r2.inv; exact PyProof.Rows.add_int ((S.toks _).pv (.int _ _) h)
theorem JN {i j:Int} (h:Φ (.int (i + j)) σ):O2 c fn n hd (inplaceOp .Add) (.int i) (.int j) ρ σ Φ Ψ:=fun d A fz a7 R s v u O L S r1 r2=>by
 obtain ⟨_,rfl⟩:=r1.inv; obtain ⟨_,rfl⟩:=r2.inv; exact PyProof.Rows.iadd_int ((S.toks _).pv (.int _ _) h)
theorem M9 {i j:Int} (h:Φ (.int (i - j)) σ):O2 c fn n hd (inplaceOp .Sub) (.int i) (.int j) ρ σ Φ Ψ:=fun d A fz a7 R s v u O L S r1 r2=>by
 obtain ⟨_,rfl⟩:=r1.inv; obtain ⟨_,rfl⟩:=r2.inv; exact PyProof.Rows.isub_int ((S.toks _).pv (.int _ _) h)
theorem O8 {i j:Int} (h:Φ (.int (i - j)) σ):O2 c fn n hd (binaryOp .Sub) (.int i) (.int j) ρ σ Φ Ψ:=fun d A fz a7 R s v u O L S r1 r2=>by
 obtain ⟨_,rfl⟩:=r1.inv; obtain ⟨_,rfl⟩:=r2.inv; exact PyProof.Rows.sub_int ((S.toks _).pv (.int _ _) h)
theorem E0 {i j:Int} (h:Φ (.bool (i == j)) σ):O2 c fn n hd (compareOp .Eq) (.int i) (.int j) ρ σ Φ Ψ:=fun d A fz a7 R s v u O L S r1 r2=>by
 obtain ⟨_,rfl⟩:=r1.inv; obtain ⟨_,rfl⟩:=r2.inv; exact PyProof.Rows.eq_int (S.pv (.bool _) h)
theorem Gz {i j:Int} (h:Φ (.bool (i != j)) σ):O2 c fn n hd (compareOp .NotEq) (.int i) (.int j) ρ σ Φ Ψ:=fun d A fz a7 R s v u O L S r1 r2=>by
 obtain ⟨_,rfl⟩:=r1.inv; obtain ⟨_,rfl⟩:=r2.inv; exact PyProof.Rows.ne_int (S.pv (.bool _) h)
theorem Em {i j:Int} (h:Φ (.bool (decide (i < j))) σ):O2 c fn n hd (compareOp .Lt) (.int i) (.int j) ρ σ Φ Ψ:=fun d A fz a7 R s v u O L S r1 r2=>by
 obtain ⟨_,rfl⟩:=r1.inv; obtain ⟨_,rfl⟩:=r2.inv; exact PyProof.Rows.lt_int (S.pv (.bool _) h)
theorem Gq {i j:Int} (h:Φ (.bool (decide (j < i))) σ):O2 c fn n hd (compareOp .Gt) (.int i) (.int j) ρ σ Φ Ψ:=fun d A fz a7 R s v u O L S r1 r2=>by
 obtain ⟨_,rfl⟩:=r1.inv; obtain ⟨_,rfl⟩:=r2.inv; exact PyProof.Rows.gt_int (S.pv (.bool _) h)
theorem Ef {i j:Int} (h:Φ (.bool (decide (i≤j))) σ):O2 c fn n hd (compareOp .LtE) (.int i) (.int j) ρ σ Φ Ψ:=fun d A fz a7 R s v u O L S r1 r2=>by
 obtain ⟨_,rfl⟩:=r1.inv; obtain ⟨_,rfl⟩:=r2.inv; exact PyProof.Rows.le_int (S.pv (.bool _) h)
theorem Fq {i j:Int} (h:Φ (.bool (decide (j≤i))) σ):O2 c fn n hd (compareOp .GtE) (.int i) (.int j) ρ σ Φ Ψ:=fun d A fz a7 R s v u O L S r1 r2=>by
 obtain ⟨_,rfl⟩:=r1.inv; obtain ⟨_,rfl⟩:=r2.inv; exact PyProof.Rows.ge_int (S.pv (.bool _) h)
theorem EP {x y:Str} (h:Φ (.bool (x == y)) σ):O2 c fn n hd (compareOp .Eq) (.str x) (.str y) ρ σ Φ Ψ:=fun d A fz a7 R s v u O L S r1 r2=>by
 obtain ⟨_,rfl⟩:=r1.inv; obtain ⟨_,rfl⟩:=r2.inv; exact PyProof.Rows.eq_str (S.pv (.bool _) h)
theorem BP {x y:Str} (h:Φ (.str (x ++ y)) σ) (hsz:x.length + y.length≤sizeLine):O2 c fn n hd (binaryOp .Add) (.str x) (.str y) ρ σ Φ Ψ:=fun d A fz a7 R s v u O L S r1 r2=>by
 obtain ⟨_,rfl⟩:=r1.inv; obtain ⟨_,rfl⟩:=r2.inv; exact PyProof.Rows.add_str (fun t' tk=>(S.toks _).pv (.str _ _) h) hsz
theorem MO {i j:Int} (hj:j≠0) (h:Φ (.int (i.fmod j)) σ):O2 c fn n hd (binaryOp .Mod) (.int i) (.int j) ρ σ Φ Ψ:=fun d A fz a7 R s v u O L S r1 r2=>by
 obtain ⟨_,rfl⟩:=r1.inv; obtain ⟨_,rfl⟩:=r2.inv; exact PyProof.Rows.mod_int hj ((S.toks _).pv (.int _ _) h)
theorem P1 {i j:Int} (hj:j≠0) (hp:Builtin.divisionGoesByPylong i j=false) (h:Φ (.int (i.fdiv j)) σ):O2 c fn n hd (binaryOp .FloorDiv) (.int i) (.int j) ρ σ Φ Ψ:=fun d A fz a7 R s v u O L S r1 r2=>by
 obtain ⟨_,rfl⟩:=r1.inv; obtain ⟨_,rfl⟩:=r2.inv; exact PyProof.Rows.floordiv_int hj ((S.toks _).pv (.int _ _) h) (.inl hp)
theorem O0 {i j:Int} (hm:IntMulOk i j) (h:Φ (.int (i * j)) σ):O2 c fn n hd (binaryOp .Mult) (.int i) (.int j) ρ σ Φ Ψ:=fun d A fz a7 R s v u O L S r1 r2=>by
 obtain ⟨_,rfl⟩:=r1.inv; obtain ⟨_,rfl⟩:=r2.inv; exact PyProof.Rows.mul_int ((S.toks _).pv (.int _ _) h) hm
end
section
variable {c:Cx} {fn:Fn} {d:da} {ρ:Loc} {σ:AH} {fz a7:Led} {R:Rest} {h h':Heap} {m:Str→Option Value} {led frs:Led}
def dj (h':Heap) (l:Led):Led:=l.map fun p=>(p.1,(h'.get? p.1).getD p.2)
theorem mB (h':Heap) (l:Led):(dj h' l).map (·.1)=l.map (·.1):=by
 unfold dj; rw [List.map_map]; rfl
theorem vS {h':Heap} {l:Led} (k:∀ p∈l,∃ sl,h'.get? p.1=some { p.2 with slots:=sl }):TI.SameUp l (dj h' l):=by
 induction l with
 | nil=>trivial
 | cons p r ih=>
  obtain ⟨sl,e⟩:=k p (.head _)
  exact ⟨rfl,⟨sl,by show (h'.get? p.1).getD p.2=_; rw [e]; rfl⟩,ih fun q hq=>k q (.tail _ hq)⟩
theorem Seen.Oy (S:Seen c d ρ σ fz a7 h m led frs) (F:Fr c.H0 d.L h' m) (k:∀ p∈led,(∀ q∈frs,q.1≠p.1)→h'.get? p.1=some p.2) (ks:∀ p∈frs,∃ sl,h'.get? p.1=some { p.2 with slots:=sl }):
  Seen c d ρ σ fz a7 h' m (dj h' led) (dj h' frs):=by
 have same:∀ p∈led,(∀ q∈frs,q.1≠p.1)→p∈dj h' led:=fun p hp hq=>by
  refine List.mem_map.mpr ⟨p,hp,?_⟩
  rw [k p hp hq]; rfl
 refine ⟨F,fun p hp=>?_,by rw [mB]; exact S.nd,fun p hp=>same p (S.fzin p hp) fun q hq e=>S.apart p hp q hq e.symm,fun p hp=>same p (S.itin p hp) fun q hq e=>S.apart' p hp q hq e.symm,
  fun p hp=>?_,S.frup.trans (vS ks),by rw [mB]; exact S.frnd,fun p hp q hq=>?_,fun p hp q hq=>?_,fun a o ha=>?_,S.keys,S.lc,S.apfi⟩
 ·obtain ⟨q,hq,rfl⟩:=List.mem_map.mp hp
  obtain ⟨_,n2,n3⟩:=S.nw q hq
  refine ⟨?_,n2,n3⟩
  by_cases hf:∃ r∈frs,r.1=q.1
  ·obtain ⟨r,hr,e⟩:=hf
   obtain ⟨sl,hs⟩:=ks r hr
   show h'.get? q.1=some ((h'.get? q.1).getD q.2)
   rw [← e,hs]; rfl
  ·show h'.get? q.1=some ((h'.get? q.1).getD q.2)
   rw [k q hq fun r hr e=>hf ⟨r,hr,e⟩]; rfl
 ·obtain ⟨q,hq,rfl⟩:=List.mem_map.mp hp
  exact List.mem_map.mpr ⟨q,S.frin q hq,rfl⟩
 ·obtain ⟨r,hr,rfl⟩:=List.mem_map.mp hq
  exact S.apart p hp r hr
 ·obtain ⟨r,hr,rfl⟩:=List.mem_map.mp hq
  exact S.apart' p hp r hr
 ·obtain ⟨g1,g2,g3,ro,g4,g5⟩:=S.hp a o ha
  refine ⟨g1,g2,fun p hp=>?_,ro,same _ g4 g3,g5⟩
  obtain ⟨q,hq,rfl⟩:=List.mem_map.mp hp
  exact g3 q hq
theorem Seen.zC (S:Seen c d ρ σ fz a7 h m led frs) {T:Addr} (f:Obj→Obj) (h1:∀ p∈led,p.1≠T) (h2:T≠d.L) (h3:c.H0.get? T=none):Seen c d ρ σ fz a7 (h.update T f) m led frs:=by
 refine S.grow ⟨?_,fun b o e=>?_,S.fr.above⟩ fun p hp=>?_
 ·obtain ⟨oL,es,ep,hL,r⟩:=S.fr.ns
  exact ⟨oL,es,ep,(Heap.get?_update_other _ _ h2).trans hL,r⟩
 ·refine (Heap.get?_update_other _ _ fun z=>?_).trans (S.fr.keep b o e)
  rw [← z,h3] at e; cases e
 ·exact ⟨(Heap.get?_update_other _ _ (Ne.symm (h1 p hp))).trans (S.nw p hp).1,(S.nw p hp).2⟩
theorem Gh (C dd:Addr) (ws:List Value) (x:Value):Obj.mapFields (·.setIfInBounds 1 x) (ft C dd ws)=ft C dd (ws.set 1 x):=by
 show ({ cls:=.ref C,dict:=some dd,data:=.fields (ws.toArray.setIfInBounds 1 x) }:Obj)=_
 rw [List.setIfInBounds_toArray]
theorem eF {M:Model} {A:Around} {E:Value→Shared→Prop} {s:Shared} {a C dd:Addr} {ws:List Value} {i:Nat} {x:Value} {Q:Value→Shared→Prop} (ho:s.heap.get? a=some (ft C dd ws)) (hi:ws[i]?=some x) (q:Q x s):
  wpAny M A (field (.ref a) i) Q E s:=wpAny_field ho rfl (by rw [List.getElem?_toArray]; exact hi) q
theorem Seen.ctx (S:Seen c d ρ σ fz a7 h m led frs) {a C dd:Addr} {ws:List Value} (hσ:σ a=some (.exc C dd)) (hm:(a,ft C dd ws)∈led):ws[2]?=some .none:=by
 obtain ⟨_,_,_,ro,h1,h2⟩:=S.hp _ _ hσ
 cases h2 with
 | exc _ _ ws' e=>
  have q:=CB S.nd hm h1
  unfold ft at q
  injection q with _ _ q3 _
  injection q3 with q4
  have:ws=ws':=congrArg Array.toList q4
  rw [this]; exact e
def QN (c:Cx) (d:da) (led:Led) (h:Heap) (ws:List Value):Prop:=
 6≤ws.length∧Tb c d led h ws
inductive Nq (c:Cx) (d:da) (ρ:Loc) (σ:AH) (fz a7:Led) (a:Addr) (h:Heap):Prop
 | mk (m:Str→Option Value) (led frs:Led) (C dd:Addr) (ws:List Value):Seen c d ρ σ fz a7 h m led frs→σ a=some (.exc C dd)→(a,ft C dd ws)∈led→QN c d led h ws→Nq c d ρ σ fz a7 a h
structure GS (c:Cx) (d:da) (ρ:Loc) (σ:AH) (fz a7:Led) (R:Rest) (a:Addr) (s:Shared):Prop where
 ex:Nq c d ρ σ fz a7 a s.heap
 rest:s.gens=R.gens∧s.drawn=R.drawn∧s.os=R.os
theorem GS.x {a:Addr} {s:Shared} (X:GS c d ρ σ fz a7 R a s):GP c d ρ σ fz a7 R a s:=by
 obtain ⟨⟨m,led,frs,C,dd,ws,S,hσ,hm,hl,hx⟩,r⟩:=X
 exact ⟨⟨m,led,frs,C,dd,ws,S,hσ,hm,hl,.inr hx⟩,r⟩
theorem rg {A:Around} {s:Shared} {a C dd:Addr} {ws:List Value} {hn:Bool} {head:Value} {E:Value→Shared→Prop} (O:Ok c fn d) (hA:A.frames=some (fn.env d.L :: d.outer)) (S:Seen c d ρ σ fz a7 s.heap m led frs)
  (hσ:σ a=some (.exc C dd)) (hm:(a,ft C dd ws)∈led) (hl:6≤ws.length) (hr:s.gens=R.gens∧s.drawn=R.drawn∧s.os=R.os):
  wpAny (model c.prog c.w) A (do setField (.ref a) 1 (← EntryCells.newEntry head (← frameOf (fn.env d.L)) .none (rawInt d.L) .none (← entryPlaceOf d.L hn))) (fun _ s'=>GS c d ρ σ fz a7 R a s') E s:=by
 obtain ⟨oL,es,ep,hL,hLd,hLk⟩:=S.fr.ns
 have hFF:s.heap.FunFrames ⟨#[],{}⟩ (fn.env d.L :: d.outer):=by
  refine Heap.FunFrames.cons (by show fn.scope.kind≠.module; rw [O.kind]; decide) rfl S.fr.ns rfl ?_
  exact TI.Frs.fun (O.frs.up S.frup) fun p hp=>⟨(S.nw p (S.frin p hp)).1,rfl⟩
 have hadr:(fn.env d.L :: d.outer).filterMap (·.frame)=d.L :: frs.map (·.1):=by
  rw [List.filterMap_cons]
  show d.L :: _=_
  rw [TI.Frs.addrs (O.frs.up S.frup)]
 refine wpAny_bind (wpAny_frameOf_fun hA hFF rfl fun h₁ hs₁=>?_)
 rw [hadr] at hs₁
 refine wpAny_bind (wpAny_entryPlaceOf fun pl hpl=>?_)
 have ksame:∀ b,b≠d.L→(∀ q∈frs,q.1≠b)→h₁.get? b=s.heap.get? b:=fun b h1 h2=>hs₁.2.1 b fun hm=>by
  rcases List.mem_cons.mp hm with e | hm
  ·exact h1 e
  ·obtain ⟨q,hq,e⟩:=List.mem_map.mp hm; exact h2 q hq e
 obtain ⟨slL,hL₁⟩:=hs₁.2.2 _ _ hL
 have S₁:Seen c d ρ σ fz a7 h₁ m (dj h₁ led) (dj h₁ frs):=by
  refine S.Oy ⟨⟨_,es,ep,hL₁,hLd,hLk⟩,fun b o e=>?_,S.fr.above⟩ (fun p hp hq=>(ksame p.1 (S.nw p hp).2.1 hq).trans (S.nw p hp).1) fun p hp=>hs₁.2.2 _ _ (S.nw p (S.frin p hp)).1
  refine (ksame b (fun z=>?_) fun q hq z=>?_).trans (S.fr.keep b o e)
  ·exact absurd (Nat.lt_of_lt_of_le (Heap.lt_size e) S.fr.above) (by rw [z]; exact Nat.lt_irrefl _)
  ·have:=(S.nw q (S.frin q hq)).2.2; rw [z,e] at this; cases this
 unfold EntryCells.newEntry newFields
 refine wpAny_bind (wpAny_newObj_type ?_ (hpl.sizeOk5 _ _ _ _ _))
 have fresh:=S₁.dU
 obtain ⟨_,_,hfr,_⟩:=S₁.hp a _ hσ
 have hm₁:(a,ft C dd ws)∈dj h₁ led:=by
  refine List.mem_map.mpr ⟨_,hm,?_⟩
  obtain ⟨_,_,g3,_⟩:=S.hp a _ hσ
  show (a,(h₁.get? a).getD _)=_
  rw [ksame a (S.nw _ hm).2.1 g3,(S.nw _ hm).1]; rfl
 generalize hT:h₁.objs.size=T at *
 generalize hob:({ cls:=.type "traceback", dict:=none,data:=.fields ([head,.ref d.L,.none,rawInt d.L,.none] ++ (if pl.isEmpty then List.replicate 6 Value.none else pl)).toArray }:Obj)=ob
 have S₂:=S₁.push ob
 have hTat:(h₁.push ob).get? T=some ob:=by rw [← hT]; exact Heap.get?_push_size _ (by rw [← hob]; rfl)
 refine wpAny_setField ((S₂.nw _ hm₁).1) rfl (by rw [List.size_toArray]; omega) ?_
 show GS c d ρ σ fz a7 R a _
 obtain ⟨pre,post,hled,p1,p2⟩:=bC S₂.nd hm₁
 have S₂':=S₂
 rw [hled] at S₂'
 have hu:=news_upd (f:=Obj.mapFields (·.setIfInBounds 1 (Value.ref T))) S₂'.fr S₂'.nw p1 p2 (Gh C dd ws (.ref T)) rfl
 have S₃:=S₂'.put (o':=.exc C dd) (by rw [hσ]; rfl) hu.1 hu.2 (.exc C dd _ (by rw [List.getElem?_set_ne (by decide)]; exact S.ctx hσ hm))
 rw [AH.fV hσ] at S₃
 have aT:a≠T:=fun e=>fresh _ hm₁ e
 refine ⟨⟨m,_,_,C,dd,ws.set 1 (.ref T),S₃,hσ,by simp,by rw [List.length_set]; exact hl,⟨T,ob,([head,.ref d.L,.none,rawInt d.L,.none] ++ (if pl.isEmpty then List.replicate 6 Value.none else pl)).toArray,?_,?_,?_,fun p hp=>?_,?_,by rw [← hob],?_⟩⟩,hr⟩
 ·exact List.getElem?_set_self (by omega)
 ·intro e
  have:=S₁.fr.ns.lt
  rw [hT,e] at this
  exact Nat.lt_irrefl _ this
 ·cases q:c.H0.get? T with
  | none=>rfl
  | some o=>have:=Heap.lt_size (S₁.fr.keep _ _ q); rw [hT] at this; exact absurd this (Nat.lt_irrefl _)
 ·have key:p.1∈(dj h₁ led).map (·.1):=by
   have e:(pre ++ (a,ft C dd (ws.set 1 (.ref T))) :: post).map (·.1)=(dj h₁ led).map (·.1):=by rw [hled]; simp
   rw [← e]; exact List.mem_map_of_mem hp
  obtain ⟨q,hq,e⟩:=List.mem_map.mp key
  exact fun z=>fresh q hq (e.trans z)
 ·exact (Heap.get?_update_other _ _ aT).trans hTat
 ·rw [List.size_toArray]
  simp only [List.length_append,List.length_cons,List.length_nil]
  omega
theorem qm {A:Around} {s:Shared} {a:Addr} {E:Value→Shared→Prop} (O:Ok c fn d) (hA:A.frames=some (fn.env d.L :: d.outer)) (X:GP c d ρ σ fz a7 R a s):
  wpAny (model c.prog c.w) A (noteFrame (.ref a) (fn.env d.L)) (fun _ s'=>GS c d ρ σ fz a7 R a s') E s:=by
 obtain ⟨⟨m,led,frs,C,dd,ws,S,hσ,hm,hl,hx⟩,hr⟩:=X
 have he:=(S.nw _ hm).1
 unfold noteFrame
 simp only [show (fn.env d.L).frame=some d.L from rfl]
 rcases hx with hx | ⟨T,oT,ts,hx,t1,t2,t3,t4,t5,t6⟩
 ·refine wpAny_bind (eF he hx ?_)
  rw [if_neg (by decide)]
  exact rg O hA S hσ hm hl hr
 ·refine wpAny_bind (eF he hx ?_)
  rw [if_pos (show (Value.ref T != Value.none)=true from by simp)]
  refine wpAny_bind (wpAny_field t4 t5 (x:=ts[3]'(by omega)) (by simp) ?_)
  by_cases q:((ts[3]'(by omega)) == rawInt d.L)=true
  ·rw [if_pos q]
   exact wpAny_pure ⟨⟨m,led,frs,C,dd,ws,S,hσ,hm,hl,⟨T,oT,ts,hx,t1,t2,t3,t4,t5,t6⟩⟩,hr⟩
  ·rw [if_neg q]
   refine wpAny_bind (wpAny_setField t4 t5 (by omega) ?_)
   exact rg O hA (S.zC _ t3 t1 t2) hσ hm hl hr
theorem uG {A:Around} {s:Shared} {a:Addr} {E:Value→Shared→Prop} {fl:Option Addr} (X:GP c d ρ σ fz a7 R a s):
  wpAny (model c.prog c.w) A (setFlight (.ref a) fl) (fun _ s'=>GP c d ρ σ fz a7 R a s') E s:=by
 obtain ⟨⟨m,led,frs,C,dd,ws,S,hσ,hm,hl,hx⟩,hr⟩:=X
 have he:=(S.nw _ hm).1
 unfold setFlight
 rcases hx with hx | ⟨T,oT,ts,hx,t1,t2,t3,t4,t5,t6⟩
 ·refine wpAny_bind (eF he hx ?_)
  rw [if_neg (by decide)]
  exact wpAny_pure ⟨⟨m,led,frs,C,dd,ws,S,hσ,hm,hl,.inl hx⟩,hr⟩
 ·refine wpAny_bind (eF he hx ?_)
  rw [if_pos (show (Value.ref T != Value.none)=true from by simp)]
  refine wpAny_setField t4 t5 (by omega) ?_
  have hd:=Obj.data_mapFields t5 (·.setIfInBounds 3 (fl.elim Value.none fun f=>rawInt f))
  refine ⟨⟨m,led,frs,C,dd,ws,S.zC _ t3 t1 t2,hσ,hm,hl,.inr ⟨T,_,_,hx,t1,t2,t3,Heap.get?_update_self _ t4 (Obj.isFreed_of_fields hd),hd,?_⟩⟩,hr⟩
  rw [Array.size_setIfInBounds]; exact t6
theorem Ak {A:Around} {s:Shared} {a:Addr} {E:Value→Shared→Prop} (O:Ok c fn d) (hA:A.frames=some (fn.env d.L :: d.outer)) (X:GP c d ρ σ fz a7 R a s):
  wpAny (model c.prog c.w) A (leaving (fn.env d.L) (.ref a)) (fun _ s'=>GP c d ρ σ fz a7 R a s') E s:=
 wpAny_bind (wpAny_mono (qm O hA X) (fun _ _ X'=>uG X'.x) fun _ _ x=>x)
theorem AV {A:Around} {s:Shared} {a:Addr} {E:Value→Shared→Prop} {env:Env} (X:GS c d ρ σ fz a7 R a s) (h:∀ s',GP c d ρ σ fz a7 R a s'→E (.ref a) s'):
  cameBackBy (model c.prog c.w) A env E (.ref a) s:=by
 have X':=X
 obtain ⟨⟨m,led,frs,C,dd,ws,S,hσ,hm,hl,T,oT,ts,hx,_⟩,hr⟩:=X'
 unfold cameBackBy
 refine wpAny_bind (eF (S.nw _ hm).1 hx ?_)
 rw [if_neg (show ¬ (Value.ref T == Value.none)=true from by simp)]
 exact wpAny_mono (uG X.x) (fun _ _ X'=>h _ X') fun _ _ e=>e
theorem Ov {A:Around} {s:Shared} {e:Value} {Ψ:Loc→Addr→AH→Prop} (O:Ok c fn d) (hA:A.frames=some (fn.env d.L :: d.outer)) (X:PX c d fz a7 R Ψ e s):
  notedBy (model c.prog c.w) A (fn.env d.L) (fun e s'=>cameBackBy (model c.prog c.w) A (fn.env d.L) (PX c d fz a7 R Ψ) e s') e s:=by
 obtain ⟨ρ,a,σ,fz',rfl,hΨ,sub,X⟩:=X
 exact wpAny_mono (qm O hA X) (fun _ _ X'=>AV X' fun s' X''=>⟨ρ,a,σ,fz',rfl,hΨ,sub,X''⟩) fun _ _ e=>e
end
section
variable {c:Cx} {fn fn':Fn} {d:da} {ρ ρ':Loc} {σ σ':AH} {fz fz' a7:Led} {R:Rest} {h h':Heap} {m m':Str→Option Value} {led led' frs frs':Led}
abbrev da.down (d:da) (A:Around) (fn:Fn) (frs:Led) (oL:Obj) (L':Addr) (keys:List Str):da:=
 { A₀:=A,outer:=fn.env d.L :: d.outer,frs:=(d.L,oL) :: frs,L:=L',keys:=keys }
theorem bK.len {xs:List V} {vs:List Value} (h:bK c fz xs vs):xs.length=vs.length:=by
 induction xs generalizing vs with
 | nil=>cases h; rfl
 | cons x r ih=>cases h with | cons _ r'=>rw [List.length_cons,List.length_cons,ih r']
inductive Lc (c:Cx) (d:da) (ρ:Loc) (σ:AH) (fz a7:Led) (h:Heap) (m:Str→Option Value) (led:Led):Prop
 | mk (led' frs':Led) (S:Seen c d ρ σ fz a7 h m led' frs') (h1:∀ p∈led,p.1≠d.L→p∈led') (h2:∀ p∈led',p∈led) (h3:d.L∈led.map (·.1)) (h4:∀ a o,σ a=some o→a≠d.L)
theorem Seen.pop {A:Around} {oL:Obj} {L':Addr} {keys:List Str} {m₀:Str→Option Value} {es ep} (hd:oL.data=.dict es ep) (hk:StrKeys es∧∀ name,nsFind es name=m₀ name) (hab:c.H0.objs.size≤d.L)
  (S:Seen c (d.down A fn frs oL L' keys) ρ' σ' fz' a7 h' m' led' frs') (up:TI.SameUp d.frs frs) (hρ:ρ.map (·.1)=d.keys) (hlc:∀ x v,At ρ x v→∃ u,m₀ x=some u∧VR c fz' v u):
  Lc c d ρ σ' fz' a7 h' m₀ led':=by
 obtain ⟨q,qs,rfl,e1,sl,e2,e3⟩:∃ q qs,frs'=q :: qs∧q.1=d.L∧∃ sl,q.2={ oL with slots:=sl }∧TI.SameUp frs qs:=by
  have u:=S.frup
  cases frs' with
  | nil=>exact False.elim u
  | cons q qs=>exact ⟨q,qs,rfl,u.1,u.2.1.choose,u.2.1.choose_spec,u.2.2⟩
 obtain ⟨q1,q2⟩:=q
 dsimp only at e1 e2
 subst e1 e2
 have inL:=S.nw _ (S.frin _ (.head _))
 have ne:∀ p∈led',p.1≠d.L→p∈led'.filter (fun p=>p.1 != d.L):=fun p hp h=>List.mem_filter.mpr ⟨hp,by simpa using h⟩
 have nd:((led'.filter (fun p=>p.1 != d.L)).map (·.1)).Nodup:=S.nd.sublist (List.Sublist.map _ List.filter_sublist)
 have frapart:∀ p∈qs,p.1≠d.L:=fun p hp e=>by
  have:=S.frnd
  rw [List.map_cons,List.nodup_cons] at this
  exact this.1 (List.mem_map.mpr ⟨p,hp,e⟩)
 refine ⟨led'.filter (fun p=>p.1 != d.L),qs,⟨⟨⟨_,es,ep,inL.1,hd,hk⟩,S.fr.keep,hab⟩,fun p hp=>?_,nd,fun p hp=>ne p (S.fzin p hp) (S.apart p hp _ (.head _)),fun p hp=>ne p (S.itin p hp) (S.apart' p hp _ (.head _)),
  fun p hp=>ne p (S.frin p (.tail _ hp)) (frapart p hp),up.trans e3,(by have:=S.frnd; rw [List.map_cons,List.nodup_cons] at this; exact this.2),fun p hp q hq=>S.apart p hp q (.tail _ hq),fun p hp q hq=>S.apart' p hp q (.tail _ hq),fun a o ha=>?_,hρ,hlc,S.apfi⟩,ne,fun p hp=>(List.mem_filter.mp hp).1,List.mem_map.mpr ⟨_,S.frin _ (.head _),rfl⟩,fun a o ha e=>?_⟩
 ·obtain ⟨hm,hn⟩:=List.mem_filter.mp hp
  obtain ⟨x1,_,x3⟩:=S.nw p hm
  exact ⟨x1,by simpa using hn,x3⟩
 ·obtain ⟨g1,g2,g3,ro,g4,g5⟩:=S.hp a o ha
  exact ⟨g1,g2,fun p hp=>g3 p (.tail _ hp),ro,ne _ g4 (fun e=>g3 _ (.head _) e.symm),g5⟩
 ·obtain ⟨_,_,g3,_⟩:=S.hp a o ha
  exact g3 _ (.head _) e.symm
theorem Seen.AE {A:Around} {L':Addr} {keys:List Str} {oL:Obj} (S:Seen c d ρ σ fz a7 h m led frs) (hL:h.get? d.L=some oL) (F:Fr c.H0 L' h' m') (up:∀ b o,h.get? b=some o→h'.get? b=some o)
  (hL':h.objs.size≤L') (hρ:ρ'.map (·.1)=keys) (hlc:∀ x v,At ρ' x v→∃ u,m' x=some u∧VR c fz v u):Seen c (d.down A fn frs oL L' keys) ρ' σ fz a7 h' m' ((d.L,oL) :: led) ((d.L,oL) :: frs):=by
 have hlt:=Heap.lt_size hL
 have neL:∀ p∈led,p.1≠d.L:=fun p hp=>(S.nw p hp).2.1
 refine ⟨F,fun p hp=>?_,?_,fun p hp=>.tail _ (S.fzin p hp),fun p hp=>.tail _ (S.itin p hp),fun p hp=>?_,TI.SameUp.refl _,?_,fun p hp q hq=>?_,fun p hp q hq=>?_,fun a o ha=>?_,hρ,hlc,S.apfi⟩
 ·rcases List.mem_cons.mp hp with rfl | hp
  ·exact ⟨up _ _ hL,Nat.ne_of_lt (Nat.lt_of_lt_of_le hlt hL'),Heap.get?_none_of_le S.fr.above⟩
  ·obtain ⟨x1,_,x3⟩:=S.nw p hp
   exact ⟨up _ _ x1,Nat.ne_of_lt (Nat.lt_of_lt_of_le (Heap.lt_size x1) hL'),x3⟩
 ·rw [List.map_cons,List.nodup_cons]
  exact ⟨fun q=>by obtain ⟨p,hp,e⟩:=List.mem_map.mp q; exact neL p hp e,S.nd⟩
 ·rcases List.mem_cons.mp hp with rfl | hp
  ·exact .head _
  ·exact .tail _ (S.frin p hp)
 ·rw [List.map_cons,List.nodup_cons]
  exact ⟨fun q=>by obtain ⟨p,hp,e⟩:=List.mem_map.mp q; exact neL p (S.frin p hp) e,S.frnd⟩
 ·rcases List.mem_cons.mp hq with rfl | hq
  ·exact neL p (S.fzin p hp)
  ·exact S.apart p hp q hq
 ·rcases List.mem_cons.mp hq with rfl | hq
  ·exact neL p (S.itin p hp)
  ·exact S.apart' p hp q hq
 ·obtain ⟨g1,g2,g3,ro,g4,g5⟩:=S.hp a o ha
  refine ⟨g1,g2,fun p hp=>?_,ro,.tail _ g4,g5⟩
  rcases List.mem_cons.mp hp with rfl | hp
  ·exact fun e=>neL _ g4 e.symm
  ·exact g3 p hp
inductive Q2 (c:Cx) (fn:Fn) (params:List Str) (body:List Stmt):Prop
 | mk (name:Str) (ps:Arguments) (dV kV doc pm:Value) (an:Option Addr) (ct:Value) (oc:Value) (od:Option Addr) (osl:Array (Option Value)) (hK:c.K.lookup fn.f=some ⟨oc,od,.func (fnOf name fn.qual ps body fn.scope dV kV doc pm an fn.cdv ct),osl⟩)
  (hb:∀ (s:Shared) (vs:List Value),vs.length=params.length→BindsTo s (fnOf name fn.qual ps body fn.scope dV kV doc pm an fn.cdv ct) ⟨vs,[]⟩ (params.zip vs)):Q2 c fn params body
structure FnAt (c:Cx) (fn:Fn) (params:List Str) (keys:List Str) (body:List Stmt):Prop where
 at_:Q2 c fn params body
 code:codeIn c.K fn.cdv fn.qual=true
 nocl:fn.cl=[]
 plain:fn.scope.isCoroutine=false∧fn.scope.isGenerator=false∧fn.scope.kind=.function
 nocell:∀ x∈fn.scope.names,x.2≠.cell
 nd:(fn.scope.names.map (·.1)).Nodup
 keysnd:keys.Nodup
 keysin:∀ x∈keys,(x,NameKind.local)∈fn.scope.names
 parin:∀ x∈params,x∈keys
 parnd:params.Nodup
 nodebug:(fn.scope.names.all fun p=>!(p.1 == ("__debug__" : Str)))=true
def SC (c:Cx) (n:Nat) (hd:Option Addr) (f:Value) (xs:List V) (σ:AH) (Φ:Pv) (Ψ:Addr→AH→Prop):Prop:=
 ∀ fn d A ρ fz a7 R s vs,Ok c fn d→Lv fn d A n hd→St c d ρ σ fz a7 R s→bK c fz xs vs→wpAny (model c.prog c.w) A (call f vs) (PV c d ρ fz a7 R Φ) (PX c d fz a7 R fun ρ' a σ'=>ρ'=ρ∧Ψ a σ') s
def RK (c:Cx) (d:da) (ρ:Loc) (fz a7:Led) (R:Rest) (Φ:Pv) (Ψ:Addr→AH→Prop) (r:Result) (s':Shared):Prop:=match r with
 | .ok (.ret v)=>PV c d ρ fz a7 R Φ v s'
 | .ok _=>False
 | .error e=>PX c d fz a7 R (fun ρ' a σ'=>ρ'=ρ∧Ψ a σ') e s'
def SK (c:Cx) (n:Nat) (hd:Option Addr) (f:Value) (xs:List V) (σ:AH) (Φ:Pv) (Ψ:Addr→AH→Prop):Prop:=
 ∀ fn d A ρ fz a7 R s vs,Ok c fn d→Lv fn d A n hd→St c d ρ σ fz a7 R s→bK c fz xs vs→codeAny (model c.prog c.w) A (.call f ⟨vs,[]⟩) (RK c d ρ fz a7 R Φ Ψ) s
theorem SK.sc {n:Nat} {hd:Option Addr} {f:Value} {xs:List V} {Φ:Pv} {Ψ:Addr→AH→Prop} (h:SK c n hd f xs σ Φ Ψ):SC c n hd f xs σ Φ Ψ:=fun fn d A ρ fz a7 R s vs O L S r=>wpAny_call (h fn d A ρ fz a7 R s vs O L S r)
def iU:AF→V
 | .ret v=>v
 | _=>.none
theorem bK.nth {xs:List V} {vs:List Value} {k:Nat} {x:V} (r:bK c fz xs vs) (e:xs[k]?=some x):∃ v,vs[k]?=some v∧VR c fz x v:=by
 induction r generalizing k with
 | nil=>cases e
 | cons a _ ih=>
  cases k with
  | zero=>cases e; exact ⟨_,rfl,a⟩
  | succ k=>exact ih e
theorem Af {x:Str} {v:V} {ps:List Str} {xs:List V} {vs:List Value} (r:bK c fz xs vs) (h:(x,v)∈ps.zip xs):∃ u,(x,u)∈ps.zip vs∧VR c fz v u:=by
 obtain ⟨k,e⟩:=List.mem_iff_getElem?.mp h
 obtain ⟨e1,e2⟩:=List.getElem?_zip_eq_some.mp e
 obtain ⟨u,g,q⟩:=bK.nth r e2
 exact ⟨u,List.mem_iff_getElem?.mpr ⟨k,List.getElem?_zip_eq_some.mpr ⟨e1,g⟩⟩,q⟩
theorem Au {params:List Str} (nd:params.Nodup) {xs:List V} {vs:List Value} (r:bK c fz xs vs) (hl:vs.length=params.length) (x:Str) (v:V) (hm:(x,v)∈params.zip xs):∃ u,(params.zip vs).reverse.lookup x=some u∧VR c fz v u:=by
 obtain ⟨u,h1,h2⟩:=Af r hm
 refine ⟨u,dS ?_ (List.mem_reverse.mpr h1),h2⟩
 rw [List.map_reverse,List.map_fst_zip (Nat.le_of_eq hl.symm)]
 exact (List.reverse_perm _).nodup_iff.mpr nd
end
inductive PA (c:Cx) (d:da) (ρ:Loc) (fz a7:Led) (R:Rest) (Φ:List V→AH→Prop) (vs:List Value) (s:Shared):Prop
 | mk (xs:List V) (σ:AH) (fz':Led):Φ xs σ→bK c fz' xs vs→(∀ p∈fz,p∈fz')→St c d ρ σ fz' a7 R s→PA c d ρ fz a7 R Φ vs s
def SA (c:Cx) (fn:Fn) (n:Nat) (hd:Option Addr) (ρ:Loc) (σ:AH) (es:List Expr) (Φ:List V→AH→Prop) (Ψ:Px):Prop:=
 ∀ pos d A fz a7 R s,Ok c fn d→Lv fn d A n hd→St c d ρ σ fz a7 R s→wpAny (model c.prog c.w) A (spliced (backTo pos (starEach es (fn.env d.L)))) (PA c d ρ fz a7 R Φ) (PX c d fz a7 R Ψ) s
abbrev R6 (x:V) (Φ:List V→AH→Prop):List V→AH→Prop:=fun xs σ=>Φ (x :: xs) σ
abbrev kA (c:Cx) (fn:Fn) (n:Nat) (hd:Option Addr) (ρ:Loc) (rest:List Expr) (Φ:List V→AH→Prop) (Ψ:Px):Pv:=fun x σ=>SA c fn n hd ρ σ rest (R6 x Φ) Ψ
abbrev RF (c:Cx) (n:Nat) (hd:Option Addr) (f:Value) (Φ:Pv) (Y:Addr→AH→Prop):List V→AH→Prop:=fun xs σ=>SC c n hd f xs σ Φ Y
abbrev Tj (Φ:Pv):List V→AH→Prop:=fun xs σ=>xs.length≤100000∧Φ (.tup xs) σ
abbrev Te (Φ:Pv):List V→AH→Prop:=fun xs σ=>xs.length≤100000∧∀ a,σ a=none→Φ (.ref a) (σ.upd a (.list xs))
abbrev Rz (c:Cx) (n:Nat) (hd:Option Addr) (f:Value) (x:V) (Φ:Pv) (Y:Addr→AH→Prop):List V→AH→Prop:=fun xs σ=>SC c n hd f (x :: xs) σ Φ Y
abbrev kL (c:Cx) (fn:Fn) (n:Nat) (hd:Option Addr) (ρ:Loc) (args:List Expr) (id:String) (Φ:Pv) (Ψ:Px):Pv:=fun ov σ=>∃ a xs,ov=.ref a∧σ a=some (.list xs)∧SA c fn n hd ρ σ args (Rz c n hd (.builtin id) (.ref a) Φ (Ψ ρ)) Ψ
section
variable {c:Cx} {fn:Fn} {n:Nat} {hd:Option Addr} {ρ:Loc} {σ:AH} {d:da} {A:Around} {fz a7:Led} {R:Rest} {s:Shared} {Φ:Pv} {Ψ:Px}
theorem OV {Φ:List V→AH→Prop} (h:Φ [] σ):SA c fn n hd ρ σ [] Φ Ψ:=fun _ _ _ _ _ _ _ _ _ S=>args_nil ⟨[],σ,_,h,.nil,fun _ hp=>hp,S⟩
theorem Lp {e:Expr} {rest:List Expr} {Φ:List V→AH→Prop} (h:SE c fn n hd ρ σ e (kA c fn n hd ρ rest Φ Ψ) Ψ)
  (he:∀ env,starEach (e :: rest) env=(false,eval e env) :: starEach rest env):SA c fn n hd ρ σ (e :: rest) Φ Ψ:=
 fun pos d A fz a7 R s O L S=>args_cons (aE (h d A fz a7 R s O L S) (fun _ _ k=>k) fun x v σ₁ fz₁ s₁ h₁ r₁ sub₁ S₁=>
  wpAny_mono (h₁ pos d A fz₁ a7 R s₁ O L S₁) (fun vs s₂ q=>by obtain ⟨xs,σ₂,fz₂,a,rs,sub₂,S₂⟩:=q; exact ⟨x :: xs,σ₂,fz₂,a,.cons (r₁.mono sub₂) rs,fun p hp=>sub₂ p (sub₁ p hp),S₂⟩) fun _ _ k=>k.weaken sub₁) (he _)
inductive Sh (c:Cx) (fz:Led) (x:V) (xs:List V) (vs:List Value):Prop
 | mk (v:Value) (us:List Value) (e:vs=v :: us) (r:VR c fz x v) (rs:bK c fz xs us)
theorem bK.inv {x:V} {xs:List V} {vs:List Value} (r:bK c fz (x :: xs) vs):Sh c fz x xs vs:=by
 cases r with | cons a b=>exact ⟨_,_,rfl,a,b⟩
inductive Sw (c:Cx) (fz:Led) (u:Value) (us:List Value) (xs:List V):Prop
 | mk (x:V) (xs':List V) (e:xs=x :: xs') (a:VR c fz x u) (r:bK c fz xs' us)
theorem bK.E8 {xs:List V} {u:Value} {us:List Value} (r:bK c fz xs (u :: us)):Sw c fz u us xs:=by
 cases r with | cons a rs=>exact ⟨_,_,rfl,a,rs⟩
theorem bK.snoc {x:V} {xs:List V} {us:List Value} (r:bK c fz (xs ++ [x]) us):∃ us' y,us=us' ++ [y]∧bK c fz xs us'∧VR c fz x y:=by
 induction xs generalizing us with
 | nil=>
  obtain ⟨v,us,rfl,a,b⟩:=bK.inv r
  cases b
  exact ⟨[],v,rfl,.nil,a⟩
 | cons z zs ih=>
  obtain ⟨v,us,rfl,a,b⟩:=bK.inv (xs:=zs ++ [x]) r
  obtain ⟨us',y,rfl,p,q⟩:=ih b
  exact ⟨v :: us',y,rfl,.cons a p,q⟩
theorem bK.jy {vs:List Value} (r:bK c fz [] vs):vs=[]:=by cases r; rfl
inductive Callee (c:Cx):V→Value→Prop
 | g {a:Addr}:keepIn c.K (.ref a)=true→Callee c (.g a) (.ref a)
 | bi {id:String}:Callee c (.bi id) (.builtin id)
 | ty {t:String}:Callee c (.ty t) (.type t)
theorem Callee.vr {x:V} {f v:Value} (k:Callee c x f) (r:VR c fz x v):v=f:=by
 cases k <;> exact r.inv
theorem Callee.keeps {x:V} {f:Value} (k:Callee c x f) {M:Model} (h:Heap) (X:c.K.In h):∃ k,(k=Keeper.frame∨k=Keeper.machine∨k=Keeper.boundFrame)∧Looks M h (keeperOf f) k:=by
 cases k with
 | g e=>exact keeps_K e h X
 | bi=>exact ⟨.machine,.inr (.inl rfl),Looks.of_pure rfl⟩
 | ty=>exact ⟨.machine,.inr (.inl rfl),Looks.of_pure rfl⟩
theorem gI:∀ {es:List Expr} {pos:Pos} {env:Env},(∀ e∈es,∀ rest,starEach (e :: rest) env=(false,eval e env) :: starEach rest env)→(backTo pos (starEach es env)).any (·.1)=false
 | [],_,_,_=>rfl
 | e :: r,pos,env,h=>by
  rw [h e (.head _) r]
  show (false || (backTo pos (starEach r env)).any (·.1))=false
  rw [Bool.false_or]
  exact gI fun x hx=>h x (.tail _ hx)
theorem pP {M:Model} {A:Around} {E:Value→Shared→Prop} {s:Shared} {f:Value} {Q:Args→Shared→Prop} (h:wpAny M A (spliced []) (fun vs s'=>Q ⟨vs,[]⟩ s') E s):wpAny M A (evalArgs f true [] []) Q E s:=by
 unfold evalArgs
 show wpAny M A (spliced [] >>= _) Q E s
 refine wpAny_bind (wpAny_mono h (fun vs s' h'=>?_) fun _ _ x=>x)
 refine wpAny_bind (wpAny_pure ?_)
 refine wpAny_holding ?_
 exact wpAny_bind (wpAny_pure (wpAny_bind (wpAny_pure (wpAny_pure h'))))
theorem bK.app {x₁ x₂:List V} {v₁ v₂:List Value} (r1:bK c fz x₁ v₁) (r2:bK c fz x₂ v₂):bK c fz (x₁ ++ x₂) (v₁ ++ v₂):=by
 induction x₁ generalizing v₁ with
 | nil=>cases r1; exact r2
 | cons y ys ih=>cases r1 with | cons q1 q2=>exact .cons q1 (ih q2)
def Plain (args:List Expr):Prop:=∀ env,∀ e∈args,∀ rest,starEach (e :: rest) env=(false,eval e env) :: starEach rest env
theorem Dk:Plain []:=fun _ _ h=>nomatch h
theorem AB {e:Expr} {r:List Expr} (h:∀ env rest,starEach (e :: rest) env=(false,eval e env) :: starEach rest env) (hr:Plain r):Plain (e :: r):=fun env x hx rest=>by
 rcases List.mem_cons.mp hx with rfl | hx
 ·exact h env rest
 ·exact hr env x hx rest
theorem BM {f:Value} {first:List Value} {firstx:List V} {args:List Expr} {pos:Pos} (hk:∀ h,c.K.In h→∃ k,(k=Keeper.frame∨k=Keeper.machine∨k=Keeper.boundFrame)∧Looks (model c.prog c.w) h (keeperOf f) k)
  (O:Ok c fn d) (L:Lv fn d A n hd) (S:St c d ρ σ fz a7 R s) (hf:bK c fz firstx first) (ha:SA c fn n hd ρ σ args (fun xs σ₂=>SC c n hd f (firstx ++ xs) σ₂ Φ (Ψ ρ)) Ψ) (hp:Plain args):
  wpAny (model c.prog c.w) A (callWith pos f first (backTo pos (starEach args (fn.env d.L))) []) (PV c d ρ fz a7 R Φ) (PX c d fz a7 R Ψ) s:=by
 refine callWith_of (P:=c.K.In) (by show ((backTo pos (starEach args _)).any (·.1) || false)=false; rw [gI (hp _)]; rfl) hk ?_
 have fin:∀ vs s₂,PA c d ρ fz a7 R (fun xs σ₂=>SC c n hd f (firstx ++ xs) σ₂ Φ (Ψ ρ)) vs s₂→c.K.In s₂.heap∧wpAny (model c.prog c.w) A (call f (first ++ vs) []) (PV c d ρ fz a7 R Φ) (PX c d fz a7 R Ψ) s₂:=by
  rintro vs s₂ ⟨xs,σ₂,fz₂,a,rs,sub,S₂⟩
  obtain ⟨m,led,frs,Z⟩:=S₂.ex
  refine ⟨O.cx.kin.keeps Z.fr.keep,?_⟩
  refine wpAny_mono (a fn d A ρ fz₂ a7 R s₂ _ O L S₂ ((hf.mono sub).app rs)) (fun _ _ k=>k.weaken sub) fun e s k=>?_
  obtain ⟨ρ',b,σ',fz',e1,⟨rfl,hΨ⟩,sub',X⟩:=k
  exact ⟨_,b,σ',fz',e1,hΨ,fun p hp=>sub' p (sub p hp),X⟩
 have h1:=ha pos d A fz a7 R s O L S
 cases args with
 | nil=>exact pP (wpAny_mono h1 (fun vs s₂ k=>fin vs s₂ k) fun _ _ k=>k)
 | cons e rest=>
  rw [hp _ e (.head _) rest] at h1 ⊢
  exact evalArgs_plain (wpAny_mono h1 (fun vs s₂ k=>fin vs s₂ k) fun _ _ k=>k)
abbrev kC (c:Cx) (fn:Fn) (n:Nat) (hd:Option Addr) (ρ:Loc) (args:List Expr) (Φ:Pv) (Ψ:Px):Pv:=fun fv σ=>∃ f,Callee c fv f∧SA c fn n hd ρ σ args (RF c n hd f Φ (Ψ ρ)) Ψ
theorem KC {func:Expr} {args:List Expr} {pos:Pos} (h:SE c fn n hd ρ σ func (kC c fn n hd ρ args Φ Ψ) Ψ) (hp:Plain args)
  (he:∀ env,eval (.Call func args [] pos) env=(do callWith pos (← eval func env) [] (backTo pos (starEach args env)) (backToKw pos (keywordEach [] env)))):SE c fn n hd ρ σ (.Call func args [] pos) Φ Ψ:=
 fun d A fz a7 R s O L S=>Call_ (aE (h d A fz a7 R s O L S) (fun _ _ k=>k) fun x v σ₁ fz₁ s₁ ⟨f,cl,ha⟩ r₁ sub₁ S₁=>by
  obtain rfl:=cl.vr r₁
  exact back sub₁ (BM (firstx:=[]) (fun h X=>cl.keeps h X) O L S₁ .nil ha hp)) (he _)
theorem IF {elts:List Expr} {k:Nat} {pos:Pos} (h:SA c fn n hd ρ σ elts (Tj Φ) Ψ):SE c fn n hd ρ σ (.Tuple elts k pos) Φ Ψ:=
 fun d A fz a7 R s O L S=>Tuple_ (wpAny_mono (h pos d A fz a7 R s O L S) (fun vs s₁ q=>by
  obtain ⟨xs,σ₁,fz₁,⟨hl,a⟩,rs,sub,⟨⟨m,led,frs,Z⟩,hr⟩⟩:=q
  refine newTuple_N Z.fr Z.nw (fun h' F' N'=>?_) (by rw [← rs.len,sizeLine_eq]; omega)
  have Z':=Z.fresh F' N' Z.dU
  refine ⟨.tup xs,σ₁,_,a,.tup (.inl (.head _)) (rs.mono fun p hp=>.tail _ hp),fun p hp=>.tail _ (sub p hp),⟨_,_,_,Z'⟩,hr⟩) fun _ _ k=>k)
theorem Gs {elts:List Expr} {pos:Pos} (h:SA c fn n hd ρ σ elts (Te Φ) Ψ):SE c fn n hd ρ σ (.List elts pos) Φ Ψ:=
 fun d A fz a7 R s O L S=>List_ (wpAny_mono (h pos d A fz a7 R s O L S) (fun vs s₁ q=>by
  obtain ⟨xs,σ₁,fz₁,⟨hl,a⟩,rs,sub,⟨⟨m,led,frs,Z⟩,hr⟩⟩:=q
  refine newList_N Z.fr Z.nw (fun h' F' N'=>?_) (by rw [← rs.len,sizeLine_eq]; omega)
  have Z':=Z.alloc (o:=.list xs) F' N' Z.dU (.list 0 rs)
  exact ⟨.ref _,_,_,a _ (Z.cw Z.dU),.ref _,sub,⟨_,_,_,Z'⟩,hr⟩) fun _ _ k=>k)
theorem SC.mono {n:Nat} {hd:Option Addr} {f:Value} {xs:List V} {σ:AH} {Φ Φ':Pv} {Ψ Ψ':Addr→AH→Prop} (h:SC c n hd f xs σ Φ Ψ) (h1:∀ x σ,Φ x σ→Φ' x σ) (h2:∀ a σ,Ψ a σ→Ψ' a σ):SC c n hd f xs σ Φ' Ψ':=
 fun fn d A ρ fz a7 R s vs O L S r=>wpAny_mono (h fn d A ρ fz a7 R s vs O L S r) (fun _ _ q=>by obtain ⟨x,σ,fz',a,b,b2,b3⟩:=q; exact ⟨x,σ,fz',h1 _ _ a,b,b2,b3⟩) fun _ _ q=>by obtain ⟨ρ',a,σ,fz',e,⟨p,q⟩,r,r2⟩:=q; exact ⟨ρ',a,σ,fz',e,⟨p,h2 _ _ q⟩,r,r2⟩
inductive QA (c:Cx) (fz led:Led) (a:Addr) (xs:List V):Prop
 | mk (vs:List Value) (k:Nat) (pre post:Led) (e:led=pre ++ (a,gF vs k) :: post) (h1:∀ p∈pre,p.1≠a) (h2:∀ p∈post,p.1≠a) (r:bK c fz xs vs) (hm:(a,gF vs k)∈led)
theorem Seen.eS {h:Heap} {m led frs} (Z:Seen c d ρ σ fz a7 h m led frs) {a:Addr} {xs:List V} (hs:σ a=some (.list xs)):QA c fz led a xs:=by
 obtain ⟨_,_,_,ro,hm,ho⟩:=Z.hp a _ hs
 obtain ⟨_,k,rfl,rs⟩:=ho.inv
 obtain ⟨pre,post,e,p1,p2⟩:=bC Z.nd hm
 exact ⟨_,k,pre,post,e,p1,p2,rs,hm⟩
theorem Cy {a:Addr} {xs:List V} {x:V} {Ψ:Addr→AH→Prop} (hs:σ a=some (.list xs)) (hl:xs.length≤100000) (h:Φ .none (σ.upd a (.list (xs ++ [x])))):SC c n hd (.builtin "list.append") [.ref a,x] σ Φ Ψ:=by
 intro fn d A ρ fz a7 R s vs O L S r
 replace r:=r.inv
 obtain ⟨v1,_,rfl,r1,r⟩:=r
 replace r:=r.inv
 obtain ⟨v2,_,rfl,r2,r⟩:=r
 obtain rfl:=r.jy
 obtain rfl:=r1.inv
 obtain ⟨⟨m,led,frs,Z⟩,hr⟩:=S
 obtain ⟨us,k,pre,post,rfl,p1,p2,rs,hm⟩:=Z.eS hs
 refine append_K Z.fr Z.nw (eV p1 p2) (fun h' F' N'=>?_) (by rw [List.size_toArray,← rs.len,sizeLine_eq]; omega)
 have e:us.toArray.push v2=(us ++ [v2]).toArray:=by simp
 rw [e] at N'
 have Z':=Z.put (o':=.list (xs ++ [x])) (by rw [hs]; rfl) F' N' (.list _ (rs.app (.cons r2 .nil)))
 exact ⟨.none,_,fz,h,.none,fun _ hp=>hp,⟨_,_,_,Z'⟩,hr⟩
theorem Ms {a:Addr} {xs:List V} {x:V} {Ψ:Addr→AH→Prop} (hs:σ a=some (.list (xs ++ [x]))) (hl:xs.length≤100000) (h:Φ x (σ.upd a (.list xs))):SC c n hd (.builtin "list.pop") [.ref a] σ Φ Ψ:=by
 intro fn d A ρ fz a7 R s vs O L S r
 replace r:=r.inv
 obtain ⟨v1,_,rfl,r1,r⟩:=r
 obtain rfl:=r.jy
 obtain rfl:=r1.inv
 obtain ⟨⟨m,led,frs,Z⟩,hr⟩:=S
 obtain ⟨us,k,pre,post,rfl,p1,p2,rs,hm⟩:=Z.eS hs
 obtain ⟨us',y,rfl,rs',ry⟩:∃ us' y,us=us' ++ [y]∧bK c fz xs us'∧VR c fz x y:=by
  exact rs.snoc
 have kl:∀ (l:List Value) (y:Value),kl_last (l ++ [y])=some (l,y):=fun l y=>by
  cases q:kl_last (l ++ [y]) with
  | none=>have:=kl_last_none q; simp at this
  | some z=>
   obtain ⟨p',y'⟩:=z
   have:=kl_last_spec q
   obtain ⟨h1,h2⟩:=List.append_inj' this rfl
   cases h1; cases h2; rfl
 refine kl_pop Z.fr Z.nw (kl us' y) (eV p1 p2) (by simp only [List.length_append,List.length_singleton]; rw [← rs'.len,sizeLine_eq]; omega) (fun h' F' N'=>?_)
 have Z':=Z.put (o':=.list xs) (by rw [hs]; rfl) F' N' (.list _ rs')
 exact ⟨x,_,fz,h,ry,fun _ hp=>hp,⟨_,_,_,Z'⟩,hr⟩
theorem HU {o:Expr} {name:Str} {id:String} {args:List Expr} {apos pos:Pos} (slot:Slot "list" name id) (hty:typeOf (.builtin id)=pure (.type "method_descriptor"))
  (h:SE c fn n hd ρ σ o (kL c fn n hd ρ args id Φ Ψ) Ψ) (hp:Plain args) {pl:Env→Sem Bool}
  (he:∀ env,eval (.Call (.Attribute o name apos) args [] pos) env=(do
   let ov ← eval o env
   standAt apos.atName
   let (f,first) ← holding [ov] (getMethod ov name (pl env))
   callWith pos f first (backTo pos (starEach args env)) [])):SE c fn n hd ρ σ (.Call (.Attribute o name apos) args [] pos) Φ Ψ:=
 fun d A fz a7 R s O L S=>MethodCall_ (pl:=pl (fn.env d.L)) (aE (h d A fz a7 R s O L S) (fun _ _ k=>k) fun x v σ₁ fz₁ s₁ ⟨a,xs,e1,hs,ha⟩ r₁ sub₁ S₁=>by
  subst e1
  obtain rfl:=r₁.inv
  have S₂:=S₁
  obtain ⟨⟨m,led,frs,Z⟩,hr⟩:=S₂
  obtain ⟨us,k,pre,post,_,p1,p2,rs,hm⟩:=Z.eS hs
  refine listMethod_K Z.nw hm slot hty ?_
  exact back sub₁ (BM (firstx:=[.ref a]) (fun h X=>⟨.machine,.inr (.inl rfl),Looks.of_pure rfl⟩) O L S₁ (.cons (.ref a) .nil) ha hp)) (he _)
end
set_option linter.unusedVariables false
def CW (K:Frag) (C:Addr) (name:Str):Bool:=findIn K (.ref C) "__getattribute__" == some (some (.builtin "BaseException.__getattribute__")) && findIn K (.ref C) "__getattr__" == some none && mroIn K C (.type "BaseException") == some true && hasDictIn K C && findIn K (.ref C) name == some none
section
variable {prog:Program} {w:World} {A:Around} {E:Value→Shared→Prop} {s:Shared} {K:Frag} {x C:Addr} {ox:Obj} {od:Option Obj} {name:Str} {expr:Bool} {Q:Value→Shared→Prop}
theorem va {nameV:Value} {q:Unit→Shared→Prop} (X:K.In s.heap) (I:InstAt s.heap x ox C od) (hm:mroIn K C (.type "BaseException")=some true) (hq:q () s):
  wpAny (model prog w) A (checkBuiltinCall "BaseException.__getattribute__" ⟨[.ref x,nameV],[]⟩) q E s:=by
 have hk:builtinKind "BaseException.__getattribute__" = some .slot:=by decide +kernel
 have hsplit:splitId "BaseException.__getattribute__" = some ("BaseException", "__getattribute__"):=by decide +kernel
 have ha:=F.args_bexc_ga (.ref x) nameV
 have L:Looks (model prog w) s.heap (isInstance (.ref x) (.type "BaseException")) true:=I.type.andThen (looks_mroIn X hm)
 obtain ⟨h,g,d,t,os⟩:=s
 simp only [checkBuiltinCall,hk,hsplit]
 refine wpAny_bind ?_
 refine L.at ?_
 repeat (any_goals (first | assumption | wp_step))
theorem tx {v:Value} (X:K.In s.heap) (I:InstAt s.heap x ox C od) (hga:findIn K (.ref C) "__getattribute__" = some (some (.builtin "BaseException.__getattribute__"))) (hgn:findIn K (.ref C) "__getattr__" = some none)
  (hm:mroIn K C (.type "BaseException")=some true) (hf:findObj K C od name=some (.value v)) (hh:handedIn v=true) (h:Q v { s with toks:=s.toks + 1 }):wpAny (model prog w) A (getAttr (.ref x) name expr) Q E s:=by
 obtain ⟨hp,g,d,t,os⟩:=s
 have L0:=I.type (M:=model prog w)
 have L1:=looks_findIn (M:=model prog w) X hga
 have L2:=looks_findIn (M:=model prog w) X hgn
 have L3:=looks_find (M:=model prog w) X I hf
 have FB:=PySem.F.attrBase_Exception
 have f3:=FB.ga.bind (.ref x)
 have hx0:(expr && onTheHeap (Value.builtin "BaseException.__getattribute__"))=false:=by cases expr <;> rfl
 have hx2:(Value.builtin "BaseException.__getattribute__" == Value.builtin "object.__getattribute__")=false:=by decide +kernel
 have hx1:(onTheHeap (Value.ref C) && Value.builtin "BaseException.__getattribute__" == Value.builtin "object.__getattribute__")=false:=by rw [hx2]; rfl
 unfold getAttr getAttrBy
 refine wpAny_bind (wpAny_mkText (wpAny_holding (wpAny_bind (L0.at (wpAny_bind (L1.at ?_))))))
 show wpAny _ _ (if (onTheHeap (Value.ref C) && Value.builtin "BaseException.__getattribute__" == Value.builtin "object.__getattribute__")=true then _ else _) _ _ _
 rw [hx1,if_neg (by decide)]
 unfold getAttrByItsOwn
 refine wpAny_bind (L2.at ?_)
 have key:∀ {R:Result→Shared→Prop} {A':Around} {tk:Tok},R (.ok (.ret v)) ⟨hp,g,d,t + 1,os⟩→codeAny (model prog w) A' (.call (.builtin "BaseException.__getattribute__") ⟨[.ref x,.str name tk],[]⟩) R ⟨hp,g,d,t + 1,os⟩:=by
  intro R A' tk hR
  refine codeAny_call_builtin FB.ga.plain F.entry_bexc_ga (va (s:=⟨hp,g,d,t + 1,os⟩) X I hm ?_)
  unfold Builtin.«object.__getattribute__»
  repeat (any_goals (first | assumption | (with_reducible refine L0.at ?_) | (with_reducible refine L3.at ?_) | wp_step))
 repeat (any_goals (first | assumption | (refine key ?_) | wp_step))
 show wpAny _ _ (handedOut v) _ _ _
 rw [handedOut_of hh]
 exact wpAny_pure h
end
class inductive KV {K:Type} (x:K) (v:V):List K→List V→Prop
 | head {ks:List K} {vs:List V}:KV x v (x :: ks) (v :: vs)
 | tail {k:K} {u:V} {ks:List K} {vs:List V}:KV x v ks vs→KV x v (k :: ks) (u :: vs)
class inductive KP {K:Type} (x:K) (v:V):List K→List V→List V→Prop
 | head {u:V} {ks:List K} {vs:List V}:KP x v (x :: ks) (u :: vs) (v :: vs)
 | tail {k:K} {u:V} {ks:List K} {vs vs':List V}:KP x v ks vs vs'→KP x v (k :: ks) (u :: vs) (u :: vs')
theorem KV.inv {K:Type} {x k:K} {v u:V} {ks:List K} {vs:List V} (h:KV x v (k :: ks) (u :: vs)):(x=k∧v=u)∨KV x v ks vs:=by
 cases h with
 | head=>exact .inl ⟨rfl,rfl⟩
 | tail h=>exact .inr h
theorem KP.inv {K:Type} {x k:K} {v u:V} {ks:List K} {vs ws:List V} (h:KP x v (k :: ks) (u :: vs) ws):(x=k∧ws=v :: vs)∨∃ ws',ws=u :: ws'∧KP x v ks vs ws':=by
 cases h with
 | head=>exact .inl ⟨rfl,rfl⟩
 | tail h=>exact .inr ⟨_,rfl,h⟩
theorem KV.mem {K:Type} {x:K} {v:V} {ks:List K} {vs:List V} (h:KV x v ks vs):x∈ks:=by
 induction h with
 | head=>exact .head _
 | tail _ ih=>exact .tail _ ih
theorem KP.mem {K:Type} {x:K} {v:V} {ks:List K} {vs vs':List V} (h:KP x v ks vs vs'):x∈ks:=by
 induction h with
 | head=>exact .head _
 | tail _ ih=>exact .tail _ ih
def Kt (c:Cx) (fn:Fn) (n:Nat) (hd:Option Addr) (rest:List Stmt) (Φ:AF→Loc→AH→Prop) (Ψ:Px):AF→Loc→AH→Prop:=fun f ρ σ=>match f with
 | .next=>SB c fn n hd ρ σ rest Φ Ψ
 | f=>Φ f ρ σ
abbrev kR (ρ:Loc) (Θ:AF→Loc→AH→Prop):Pv:=fun v σ=>Θ (.ret v) ρ σ
abbrev kE (ρ:Loc) (Θ:AF→Loc→AH→Prop):Pv:=fun _ σ=>Θ .next ρ σ
abbrev kS (x:Str) (ρ:Loc) (Θ:AF→Loc→AH→Prop):Pv:=fun v σ=>∃ ρ',sI x v ρ ρ'∧Θ .next ρ' σ
section
variable {c:Cx} {fn:Fn} {n:Nat} {hd:Option Addr} {ρ:Loc} {σ:AH} {d:da} {A:Around} {fz a7:Led} {R:Rest} {s:Shared} {Φ:Pv} {Ψ:Px} {Θ:AF→Loc→AH→Prop}
theorem jQ (k:Str) (t:Tok):(Value.str k t).isStr k=true:=by simp [Value.isStr]
theorem r7 {k x:Str} (t:Tok) (h:k≠x):(Value.str k t).isStr x=false:=by simp [Value.isStr,h]
theorem Fp {x:Str} {t:Tok} {hsh:Int} {v:Value} {es:List DictEntry}:getL x ((⟨hsh,.str x t,v⟩:DictEntry) :: es)=some (some v):=by
 simp [getL,jQ]
theorem ue {x k:Str} {t:Tok} {hsh:Int} {v:Value} {es:List DictEntry} (ne:k≠x):getL x ((⟨hsh,.str k t,v⟩:DictEntry) :: es)=getL x es:=by
 unfold getL
 rw [List.find?_cons,r7 t ne]
 rfl
theorem F5 {x:Str} {t:Tok} {hsh h2:Int} {v u key:Value} {es:List DictEntry}:putL x hsh key u ((⟨h2,.str x t,v⟩:DictEntry) :: es)=(⟨h2,.str x t,u⟩:DictEntry) :: es:=by
 simp [putL,jQ]
theorem uB {x k:Str} {t:Tok} {hsh h2:Int} {v u key:Value} {es:List DictEntry} (ne:k≠x):putL x hsh key u ((⟨h2,.str k t,v⟩:DictEntry) :: es)=(⟨h2,.str k t,v⟩:DictEntry) :: putL x hsh key u es:=by
 simp [putL,r7 t ne]
theorem Dv {x:Str} {t:Tok} {h2:Int} {v:Value} {es:List DictEntry} {n:Nat}:putN x ((⟨h2,.str x t,v⟩:DictEntry) :: es) n=n:=by
 simp [putN,jQ]
theorem u9 {x k:Str} {t:Tok} {h2:Int} {v:Value} {es:List DictEntry} {n:Nat} (ne:k≠x):putN x ((⟨h2,.str k t,v⟩:DictEntry) :: es) n=putN x es n:=by
 simp [putN,r7 t ne]
theorem KV.ne {K:Type} {x k:K} {v:V} {ks:List K} {vs:List V} (nd:(k :: ks).Nodup) (h:KV x v ks vs):k≠x:=fun e=>(List.nodup_cons.mp nd).1 (e ▸ h.mem)
theorem KP.kv {K:Type} {x:K} {v:V} {ks:List K} {vs vs':List V} (h:KP x v ks vs vs'):∃ y,KV x y ks vs:=by
 induction h with
 | head=>exact ⟨_,.head⟩
 | tail _ ih=>exact ⟨_,.tail ih.choose_spec⟩
inductive S9 (c:Cx) (fz:Led) (k:Str) (x:V) (ks:List Str) (xs:List V) (es:List DictEntry):Prop
 | mk (t:Tok) (v:Value) (es':List DictEntry) (e:es=⟨PyData.keyHash c.w.params k,.str k t,v⟩ :: es') (a:VR c fz x v) (r:DR c fz ks xs es')
theorem DR.De {k:Str} {x:V} {ks:List Str} {xs:List V} {es:List DictEntry} (r:DR c fz (k :: ks) (x :: xs) es):S9 c fz k x ks xs es:=by
 cases r with | cons a rs=>exact ⟨_,_,_,rfl,a,rs⟩
inductive T5 (c:Cx) (fz:Led) (x:Str) (v:V) (es:List DictEntry):Prop
 | mk (u:Value) (e:getL x es=some (some u)) (r:VR c fz v u)
theorem DR.get {x:Str} {v:V} {ks:List Str} {xs:List V} {es:List DictEntry} (nd:ks.Nodup) (r:DR c fz ks xs es) (h:KV x v ks xs):T5 c fz x v es:=by
 induction h generalizing es with
 | head=>
  obtain ⟨_,_,_,rfl,a,_⟩:=r.De
  exact ⟨_,Fp,a⟩
 | tail h ih=>
  obtain ⟨_,_,_,rfl,_,rs⟩:=r.De
  obtain ⟨u,p,q⟩:=ih (List.nodup_cons.mp nd).2 rs
  exact ⟨u,(ue (h.ne nd)).trans p,q⟩
theorem DR.none {x:Str} {ks:List Str} {xs:List V} {es:List DictEntry} (r:DR c fz ks xs es) (h:x∉ks):getL x es=some Option.none:=by
 induction es generalizing ks xs with
 | nil=>cases r; rfl
 | cons e es ih=>cases r with | cons a rs=>
  rw [ue fun e=>h (by subst e; exact .head _)]
  exact ih rs fun m=>h (.tail _ m)
theorem DR.put {x:Str} {v:V} {u:Value} {hsh:Int} {key:Value} {n:Nat} {ks:List Str} {xs xs':List V} {es:List DictEntry} (nd:ks.Nodup) (r:DR c fz ks xs es) (h:KP x v ks xs xs') (q:VR c fz v u):
  DR c fz ks xs' (putL x hsh key u es)∧putN x es n=n∧(putL x hsh key u es).length=es.length:=by
 induction h generalizing es with
 | head=>
  obtain ⟨_,_,_,rfl,_,rs⟩:=r.De
  rw [F5,Dv]
  exact ⟨.cons q rs,rfl,rfl⟩
 | tail h ih=>
  obtain ⟨_,_,_,rfl,a,rs⟩:=r.De
  obtain ⟨y,kv⟩:=h.kv
  obtain ⟨p1,p2,p3⟩:=ih (List.nodup_cons.mp nd).2 rs
  rw [uB (kv.ne nd),u9 (kv.ne nd),List.length_cons,List.length_cons,p3]
  exact ⟨.cons a p1,p2,rfl⟩
theorem DR.add {x:Str} {v:V} {u:Value} {t':Tok} {n:Nat} {ks:List Str} {xs:List V} {es:List DictEntry} (r:DR c fz ks xs es) (h:x∉ks) (q:VR c fz v u):
  DR c fz (ks ++ [x]) (xs ++ [v]) (putL x (PyData.keyHash c.w.params x) (.str x t') u es)∧putN x es n=n + 1∧(putL x (PyData.keyHash c.w.params x) (.str x t') u es).length=es.length + 1:=by
 induction es generalizing ks xs with
 | nil=>cases r; exact ⟨.cons q .nil,rfl,rfl⟩
 | cons e es ih=>cases r with | cons a rs=>
  obtain ⟨p1,p2,p3⟩:=ih rs fun m=>h (.tail _ m)
  rw [uB fun e=>h (by subst e; exact .head _),u9 fun e=>h (by subst e; exact .head _),List.length_cons,List.length_cons,p3]
  exact ⟨.cons a p1,p2,rfl⟩
theorem DR.len {ks:List Str} {xs:List V} {es:List DictEntry} (h:DR c fz ks xs es):es.length=ks.length:=by
 induction es generalizing ks xs with
 | nil=>cases h; rfl
 | cons e r ih=>cases h with | cons _ h=>rw [List.length_cons,List.length_cons,ih h]
theorem Jv (h:Θ .next ρ σ):SB c fn n hd ρ σ [] Θ Ψ:=fun d A fz a7 R s O L S=>wpAny_execs_nil ⟨.next,ρ,σ,fz,h,.next,fun _ hp=>hp,S⟩
theorem c6 {st:Stmt} {rest:List Stmt} (h:SS c fn n hd ρ σ st (Kt c fn n hd rest Θ Ψ) Ψ):SB c fn n hd ρ σ (st :: rest) Θ Ψ:=
 fun d A fz a7 R s O L S=>wpAny_execs_cons (wpAny_mono (h d A fz a7 R s O L S) (fun f s₁ q=>by
  obtain ⟨x,ρ₁,σ₁,fz₁,a,r,sub,S₁⟩:=q
  cases r with
  | next=>exact wpAny_mono (a d A fz₁ a7 R s₁ O L S₁) (fun _ _ k=>k.weaken sub) fun _ _ k=>k.weaken sub
  | brk=>exact ⟨.brk,ρ₁,σ₁,fz₁,a,.brk,sub,S₁⟩
  | cont=>exact ⟨.cont,ρ₁,σ₁,fz₁,a,.cont,sub,S₁⟩
  | ret r=>exact ⟨.ret _,ρ₁,σ₁,fz₁,a,.ret r,sub,S₁⟩) fun _ _ k=>k)
theorem Oz {e:Expr} {pos:Pos} (h:SE c fn n hd ρ σ e (kR ρ Θ) Ψ):SS c fn n hd ρ σ (.Return (some e) pos) Θ Ψ:=
 fun d A fz a7 R s O L S=>wpAny_Return_some (aE (h d A fz a7 R s O L S) (fun _ _ k=>k) fun x v σ₁ fz₁ s₁ h₁ r₁ sub₁ S₁=>⟨.ret x,ρ,σ₁,fz₁,h₁,.ret r₁,sub₁,S₁⟩)
theorem LZ {pos:Pos} (h:Θ (.ret .none) ρ σ):SS c fn n hd ρ σ (.Return none pos) Θ Ψ:=
 fun d A fz a7 R s O L S=>wpAny_Return_none ⟨.ret .none,ρ,σ,fz,h,.ret .none,fun _ hp=>hp,S⟩
theorem JZ {e:Expr} {pos:Pos} (h:SE c fn n hd ρ σ e (kE ρ Θ) Ψ) (hs:∀ env,swapsWith e none pos.line env=pure false):SS c fn n hd ρ σ (.Expr e pos) Θ Ψ:=
 fun d A fz a7 R s O L S=>wpAny_Expr_any (aE (h d A fz a7 R s O L S) (fun _ _ k=>k) fun x v σ₁ fz₁ s₁ h₁ r₁ sub₁ S₁=>⟨.next,ρ,σ₁,fz₁,h₁,.next,sub₁,S₁⟩)
  (by show (fn.scope.kind == .module && _)=false; rw [O.kind]; rfl) (hs _)
theorem Qd {t:Expr} {b o:List Stmt} {pos:Pos} (h:ST c fn n hd ρ σ t (fun q σ₁=>if q then SB c fn n hd ρ σ₁ b Θ Ψ else SB c fn n hd ρ σ₁ o Θ Ψ) Ψ):SS c fn n hd ρ σ (.If t b o pos) Θ Ψ:=
 fun d A fz a7 R s O L S=>wpAny_If (N0 (h d A fz a7 R s O L S) (fun _ _ k=>k) fun q σ₁ fz₁ s₁ a sub S₁=>by
  cases q <;> exact wpAny_mono (a d A fz₁ a7 R s₁ O L S₁) (fun _ _ k=>k.weaken sub) fun _ _ k=>k.weaken sub)
theorem St.stored {x:Str} {v:V} {u:Value} {ρ':Loc} {Q:Unit→Shared→Prop} {E:Value→Shared→Prop} (O:Ok c fn d) (S:St c d ρ σ fz a7 R s) (r:VR c fz v u) (P:sI x v ρ ρ')
  (h:∀ s',St c d ρ' σ fz a7 R s'→Q () s'):wpAny (model c.prog c.w) A (storeName (fn.env d.L) x u) Q E s:=by
 obtain ⟨⟨m,led,frs,Z⟩,hr⟩:=S
 have mem:=O.keysin x (Z.keys ▸ P.mem)
 exact storeX_L (cl:=fn.cl) Z.fr Z.nw (fun h' F' N'=>h _ ⟨⟨_,_,_,Z.store O.keysnd P F' N' r⟩,hr⟩) O.kind (O.kindOf mem)
theorem yj {x:Str} {p' pos:Pos} {e:Expr} (h:SE c fn n hd ρ σ e (kS x ρ Θ) Ψ) (hs:∀ env,swapsWith e (some (.Name x p')) pos.line env=pure false):
  SS c fn n hd ρ σ (.Assign [.Name x p'] e pos) Θ Ψ:=
 fun d A fz a7 R s O L S=>wpAny_Assign_Name (aE (h d A fz a7 R s O L S) (fun _ _ k=>k) fun x v σ₁ fz₁ s₁ ⟨ρ',P,h₁⟩ r₁ sub₁ S₁=>S₁.stored O r₁ P fun s' S'=>⟨.next,ρ',σ₁,fz₁,h₁,.next,sub₁,S'⟩) (hs _)
theorem Nt {x:Str} {v:V} {p' pos:Pos} {op:Operator} {e:Expr} (hx:At ρ x v) (h:SE c fn n hd ρ σ e (Rm c fn n hd (inplaceOp op) ρ (kS x ρ Θ) Ψ v) Ψ):
  SS c fn n hd ρ σ (.AugAssign (.Name x p') op e pos) Θ Ψ:=
 fun d A fz a7 R s O L S=>by
  have S':=S
  obtain ⟨⟨m,led,frs,Z⟩,hr⟩:=S'
  obtain ⟨u,hu,r⟩:=Z.lc x v hx
  have mem:=O.keysin x (Z.keys ▸ hx.mem)
  refine wpAny_AugAssign_Name (wpAny_loadName_local O.kind (O.kindOf mem) Z.fr.ns hu ?_)
  exact aE (h d A fz a7 R s O L S) (fun _ _ k=>k) fun w uw σ₁ fz₁ s₁ h₁ r₁ sub₁ S₁=>aE (h₁ d A fz₁ a7 R s₁ u uw O L S₁ (r.mono sub₁) r₁) (fun _ _ k=>k.weaken sub₁)
   fun y uy σ₂ fz₂ s₂ ⟨ρ',P,h₂⟩ r₂ sub₂ S₂=>S₂.stored O r₂ P fun s' S'=>⟨.next,ρ',σ₂,fz₂,h₂,.next,fun p hp=>sub₂ p (sub₁ p hp),S'⟩
def bB (K:Frag) (C:Addr) (x:Str):Bool:=plainGet K C x && hasDictIn K C && findIn K (.ref C) x == some none
def bJ (K:Frag) (C:Addr) (x:Str):Bool:=findIn K (.ref C) "__setattr__" == some (some (.builtin "object.__setattr__")) && plainOver K C && takerIn K C x == some none && hasDictIn K C
inductive Inst (σ:AH):V→Addr→List Str→List V→Prop
 | ref {a C dd:Addr} {ks:List Str} {vs:List V}:σ a=some (.inst C dd)→σ dd=some (.ds ks vs)→Inst σ (.ref a) C ks vs
 | obj {C:Addr} {ks:List Str} {vs:List V}:Inst σ (.obj C ks vs) C ks vs
inductive Qv (c:Cx) (fz:Led) (h:Heap) (C:Addr) (ks:List Str) (vs:List V) (v:Value):Prop
 | mk (a dd:Addr) (es:List DictEntry) (k:Nat) (e:v=.ref a) (I:InstAt h a (instObj C dd) C (some (dictOf es k))) (r:DR c fz ks vs es) (nd:ks.Nodup)
theorem Inst.real {h:Heap} {m led frs} {x:V} {v:Value} {C:Addr} {ks:List Str} {vs:List V} (I:Inst σ x C ks vs) (O:Ok c fn d) (Z:Seen c d ρ σ fz a7 h m led frs) (r:VR c fz x v):
  Qv c fz h C ks vs v:=by
 cases I with
 | ref h1 h2=>
  obtain rfl:=r.inv
  obtain ⟨_,_,_,ro,m1,o1⟩:=Z.hp _ _ h1
  obtain ⟨_,_,_,rd,m2,o2⟩:=Z.hp _ _ h2
  obtain rfl:=o1.inv
  obtain ⟨_,k,rfl,nd,rs⟩:=o2.inv
  exact ⟨_,_,_,k,rfl,⟨(Z.nw _ m1).1,rfl,rfl,(Z.nw _ m2).1⟩,rs,nd⟩
 | obj=>
  obtain ⟨_,_,_,_,rfl,nd,k1,k2,rs⟩:=r.inv
  exact ⟨_,_,_,_,rfl,⟨Z.known O.cx.kin k1,rfl,rfl,Z.known O.cx.kin k2⟩,rs,nd⟩
theorem noGet_none (K:Frag):noGet K none=true:=rfl
theorem u5 {x:V} {v:Value} (r:VR c fz x v) (h:∀ id,x≠.bi id):handedIn v=true:=by
 cases r <;> first | rfl | exact absurd rfl (h _)
theorem Q1 {a C dd:Addr} {name:Str} {y:V} {ks:List Str} {vs:List V} {v:Value} {E:Value→Shared→Prop} (hs:σ a=some (.exc C dd)) (hs2:σ dd=some (.ds ks vs)) (hg:CW c.K C name=true) (kv:KV name y ks vs) (hb:∀ id,y≠.bi id) (h:Φ y σ) (O:Ok c fn d) (S:St c d ρ σ fz a7 R s)
  (r:VR c fz (.ref a) v):wpAny (model c.prog c.w) A (getAttr v name true) (PV c d ρ fz a7 R Φ) E s:=by
 obtain ⟨⟨m,led,frs,Z⟩,hr⟩:=S
 obtain rfl:=r.inv
 obtain ⟨_,_,_,ro,m1,o1⟩:=Z.hp _ _ hs
 obtain ⟨_,_,_,rd,m2,o2⟩:=Z.hp _ _ hs2
 unfold CW at hg
 simp only [Bool.and_eq_true,beq_iff_eq] at hg
 obtain ⟨⟨⟨⟨g1,g2⟩,g3⟩,g4⟩,g5⟩:=hg
 obtain ⟨ws,rfl,hw⟩:=o1.inv
 obtain ⟨_,k,rfl,nd,rs⟩:=o2.inv
 obtain ⟨u,hu,ru⟩:=rs.get nd kv
 have I:W.InstAt s.heap a (ft C dd ws) C (some (dictOf _ k)):=⟨(Z.nw _ m1).1,rfl,rfl,(Z.nw _ m2).1⟩
 exact tx (O.cx.kin.keeps Z.fr.keep) I g1 g2 g3 (findObj_own g4 g5 (noGet_none _) hu) (u5 ru hb) ⟨y,σ,fz,h,ru,fun _ hp=>hp,⟨_,_,_,Z⟩,hr⟩
inductive GR (c:Cx) (σ:AH) (name:Str) (v:V):V→Prop
 | inst {x:V} {C:Addr} {ks:List Str} {vs:List V}:Inst σ x C ks vs→bB c.K C name=true→KV name v ks vs→GR c σ name v x
 | exc {a C dd:Addr} {ks:List Str} {vs:List V}:σ a=some (.exc C dd)→σ dd=some (.ds ks vs)→CW c.K C name=true→KV name v ks vs→GR c σ name v (.ref a)
def vZ (c:Cx) (x:V) (σ:AH) (name:Str) (Φ:Pv):Prop:=∃ v,GR c σ name v x∧(∀ id,v≠.bi id)∧Φ v σ
theorem vZ.run {x:V} {v:Value} {name:Str} {E:Value→Shared→Prop} (g:vZ c x σ name Φ) (O:Ok c fn d) (S:St c d ρ σ fz a7 R s) (r:VR c fz x v):wpAny (model c.prog c.w) A (getAttr v name true) (PV c d ρ fz a7 R Φ) E s:=by
 obtain ⟨y,g,hb,h⟩:=g
 cases g with
 | exc h1 h2 h3 h4=>exact Q1 h1 h2 h3 h4 hb h O S r
 | inst I ha kv=>
 obtain ⟨⟨m,led,frs,Z⟩,hr⟩:=S
 obtain ⟨a,dd,es,k,rfl,IA,dr,nd⟩:=I.real O Z r
 unfold bB at ha
 simp only [Bool.and_eq_true,beq_iff_eq] at ha
 obtain ⟨u,hu,ru⟩:=dr.get nd kv
 exact get_own Z.fr O.cx.kin IA ha.1.1 ha.1.2 ha.2 (noGet_none _) hu (u5 ru hb) ⟨y,σ,fz,h,ru,fun _ hp=>hp,⟨_,_,_,Z⟩,hr⟩
abbrev kG (c:Cx) (attr:Str) (Φ:Pv):Pv:=fun x σ=>vZ c x σ attr Φ
theorem KD {value:Expr} {attr:Str} {pos:Pos} (h:SE c fn n hd ρ σ value (kG c attr Φ) Ψ)
  (he:∀ env,eval (.Attribute value attr pos) env=(do
   let o ← eval value env
   standAt pos.atName
   let r ← holding [o] (getAttr o attr true)
   letTemporaryGo value o r
   pure r)):SE c fn n hd ρ σ (.Attribute value attr pos) Φ Ψ:=
 fun d A fz a7 R s O L S=>Attribute_any_ (aE (h d A fz a7 R s O L S) (fun _ _ k=>k) fun x v σ₁ fz₁ s₁ g r₁ sub₁ S₁=>back sub₁ (g.run O S₁ r₁)) (he _)
inductive p5 {K:Type} (x:K) (v:V) (ks:List K) (vs:List V):List K→List V→Prop
 | old {vs':List V}:KP x v ks vs vs'→p5 x v ks vs ks vs'
 | new:x∉ks→p5 x v ks vs (ks ++ [x]) (vs ++ [v])
inductive pL (c:Cx) (x:V) (σ:AH) (name:Str) (v:V) (k:AH→Prop):Prop
 | mk (a C dd:Addr) (ks:List Str) (vs:List V) (ks':List Str) (vs':List V) (e:x=.ref a) (h1:σ a=some (.inst C dd)) (h2:σ dd=some (.ds ks vs)) (h3:bJ c.K C name=true) (h4:ks.length≤900) (h5:p5 name v ks vs ks' vs') (q:k (σ.upd dd (.ds ks' vs')))
theorem pL.run {x y:V} {v u:Value} {name:Str} {k:AH→Prop} {Q:Unit→Shared→Prop} {E:Value→Shared→Prop} (g:pL c x σ name y k) (O:Ok c fn d) (S:St c d ρ σ fz a7 R s) (r:VR c fz x v) (ru:VR c fz y u)
  (h:∀ σ' s',k σ'→St c d ρ σ' fz a7 R s'→Q () s'):wpAny (model c.prog c.w) A (setAttr v name u) Q E s:=by
 obtain ⟨a,C,dd,ks,vs,ks',vs',rfl,h1,h2,hc,hlen,hput,hk⟩:=g
 obtain ⟨⟨m,led,frs,Z⟩,hr⟩:=S
 obtain rfl:=r.inv
 obtain ⟨_,_,_,ro,m1,o1⟩:=Z.hp _ _ h1
 obtain ⟨_,_,_,rd,m2,o2⟩:=Z.hp _ _ h2
 obtain rfl:=o1.inv
 obtain ⟨es,q,rfl,nd,rs⟩:=o2.inv
 unfold bJ at hc
 simp only [Bool.and_eq_true,beq_iff_eq] at hc
 obtain ⟨pre,post,rfl,p1,p2⟩:=bC Z.nd m2
 cases hput with
 | old kp=>
  obtain ⟨a1,a2,a3⟩:=rs.put (hsh:=PyData.keyHash c.w.params name) (key:=.str name (s.toks + 1)) (n:=q) nd kp ru
  refine set_dict Z.fr O.cx.kin Z.nw ⟨(Z.nw _ m1).1,rfl,rfl,(Z.nw _ m2).1⟩ rfl hc.1.1.1 hc.1.1.2 hc.1.2 hc.2 ?_ rfl (eV p1 p2) (by rw [a3,rs.len]; omega) fun h' F' N'=>?_
  ·have:∃ w,getL name es=some w:=by
    obtain ⟨y',kv⟩:=kp.kv
    obtain ⟨u',hu',_⟩:=rs.get nd kv
    exact ⟨_,hu'⟩
   obtain ⟨w,hw⟩:=this
   rw [hw]; rfl
  ·exact h _ _ hk ⟨⟨_,_,_,Z.put (by rw [h2]; rfl) F' N' (.ds _ nd a1)⟩,hr⟩
 | new hx=>
  obtain ⟨a1,a2,a3⟩:=rs.add (t':=s.toks + 1) (n:=q) hx ru
  refine set_dict Z.fr O.cx.kin Z.nw ⟨(Z.nw _ m1).1,rfl,rfl,(Z.nw _ m2).1⟩ rfl hc.1.1.1 hc.1.1.2 hc.1.2 hc.2 (by rw [rs.none hx]; rfl) rfl (eV p1 p2) (by rw [a3,rs.len]; omega) fun h' F' N'=>?_
  refine h _ _ hk ⟨⟨_,_,_,Z.put (by rw [h2]; rfl) F' N' (.ds _ ?_ a1)⟩,hr⟩
  rw [List.nodup_append]
  exact ⟨nd,by simp,fun p hp q hq=>by rw [List.mem_singleton.mp hq]; exact fun e=>hx (e ▸ hp)⟩
end
inductive ec (σ:AH):V→List V→Prop
 | ref {a:Addr} {xs:List V}:σ a=some (.list xs)→ec σ (.ref a) xs
 | fl {xs:List V}:ec σ (.fl xs) xs
inductive Aw (σ:AH):V→List Str→List V→Prop
 | ref {a:Addr} {ks:List Str} {xs:List V}:σ a=some (.ds ks xs)→Aw σ (.ref a) ks xs
 | aH {ks:List Str} {xs:List V}:Aw σ (.aH ks xs) ks xs
inductive JK (σ:AH):V→List Int→List V→Prop
 | ref {a:Addr} {ks:List Int} {xs:List V}:σ a=some (.di ks xs)→JK σ (.ref a) ks xs
 | e9 {ks:List Int} {xs:List V}:JK σ (.e9 ks xs) ks xs
section
variable {c:Cx} {fn:Fn} {n:Nat} {hd:Option Addr} {ρ:Loc} {σ:AH} {d:da} {A:Around} {fz a7:Led} {R:Rest} {s:Shared} {Φ:Pv} {Ψ:Px} {h:Heap} {m:Str→Option Value} {led frs:Led}
theorem Seen.qk (Z:Seen c d ρ σ fz a7 h m led frs) (O:Ok c fn d) {p:Addr×Obj} (hp:p∈led):(p.1 == sysModules)=false:=by
 refine beq_eq_false_iff_ne.mpr fun e=>?_
 have:=(Z.nw p hp).2.2
 rw [e] at this
 have q:=O.cx.mods
 rw [this] at q
 cases q
inductive PW (c:Cx) (fz led:Led) (xs:List V) (v:Value):Prop
 | mk (a:Addr) (vs:List Value) (k:Nat) (e:v=.ref a) (hm:(a,gF vs k)∈led) (r:bK c fz xs vs)
inductive Qt (c:Cx) (fz:Led) (h:Heap) (ks:List Str) (xs:List V) (v:Value):Prop
 | mk (a:Addr) (es:List DictEntry) (k:Nat) (e:v=.ref a) (hg:h.get? a=some (dictOf es k)) (r:DR c fz ks xs es) (nd:ks.Nodup) (ns:(a == sysModules)=false)
inductive QC (c:Cx) (fz:Led) (h:Heap) (ks:List Int) (xs:List V) (v:Value):Prop
 | mk (a:Addr) (es:List DictEntry) (k:Nat) (e:v=.ref a) (hg:h.get? a=some (dictOf es k)) (r:DI c fz ks xs es) (nd:ks.Nodup) (ns:(a == sysModules)=false)
theorem ec.real {x:V} {v:Value} {xs:List V} (I:ec σ x xs) (O:Ok c fn d) (Z:Seen c d ρ σ fz a7 h m led frs) (r:VR c fz x v):PW c fz led xs v:=by
 cases I with
 | ref hs=>
  obtain rfl:=r.inv
  obtain ⟨us,k,pre,post,e,p1,p2,rs,hm⟩:=Z.eS hs
  exact ⟨_,_,k,rfl,hm,rs⟩
 | fl=>
  obtain ⟨_,_,_,rfl,k,rs⟩:=r.inv
  rcases k with k | k
  ·exact ⟨_,_,_,rfl,Z.fzin _ k,rs⟩
  ·exact absurd k (O.cx.nolst _ _ _)
theorem Seen.isList (Z:Seen c d ρ σ fz a7 h m led frs) {a:Addr} {vs:List Value} {k:Nat} (hm:(a,gF vs k)∈led):h.IsList a vs.toArray:=⟨_,(Z.nw _ hm).1,rfl,k,rfl⟩
theorem Aw.real {x:V} {v:Value} {ks:List Str} {xs:List V} (I:Aw σ x ks xs) (O:Ok c fn d) (Z:Seen c d ρ σ fz a7 h m led frs) (r:VR c fz x v):Qt c fz h ks xs v:=by
 cases I with
 | ref hs=>
  obtain rfl:=r.inv
  obtain ⟨_,_,_,ro,hm,ho⟩:=Z.hp _ _ hs
  obtain ⟨_,k,rfl,nd,rs⟩:=ho.inv
  exact ⟨_,_,k,rfl,(Z.nw _ hm).1,rs,nd,Z.qk O hm⟩
 | aH=>
  obtain ⟨_,_,_,rfl,nd,k,rs⟩:=r.inv
  refine ⟨_,_,_,rfl,Z.known O.cx.kin k,rs,nd,?_⟩
  rcases k with k | k
  ·exact Z.qk O (Z.fzin _ k)
  ·exact beq_eq_false_iff_ne.mpr fun e=>by rw [e,O.cx.kmods] at k; cases k
theorem JK.real {x:V} {v:Value} {ks:List Int} {xs:List V} (I:JK σ x ks xs) (O:Ok c fn d) (Z:Seen c d ρ σ fz a7 h m led frs) (r:VR c fz x v):QC c fz h ks xs v:=by
 cases I with
 | ref hs=>
  obtain rfl:=r.inv
  obtain ⟨_,_,_,ro,hm,ho⟩:=Z.hp _ _ hs
  obtain ⟨_,k,rfl,nd,rs⟩:=ho.inv
  exact ⟨_,_,k,rfl,(Z.nw _ hm).1,rs,nd,Z.qk O hm⟩
 | e9=>
  obtain ⟨_,_,_,rfl,nd,k,rs⟩:=r.inv
  refine ⟨_,_,_,rfl,Z.known O.cx.kin k,rs,nd,?_⟩
  rcases k with k | k
  ·exact Z.qk O (Z.fzin _ k)
  ·exact beq_eq_false_iff_ne.mpr fun e=>by rw [e,O.cx.kmods] at k; cases k
inductive Rx {K:Type} [DecidableEq K] (c:Cx) (fz:Led) (knd:KeyKind c.prog c.w K) (ks:List K) (xs:List V) (es:List DictEntry):Prop
 | mk (kvs:List (K×Value)) (p:Pairs knd es kvs) (e:kvs.map (·.1)=ks) (r:bK c fz xs (kvs.map (·.2))) (h:∀ e∈es,∃ k,knd.is k e.key=true∧e.hash=knd.hash k)
theorem DR.pairs {ks:List Str} {xs:List V} {es:List DictEntry} (r:DR c fz ks xs es):Rx c fz (strKind c.prog c.w) ks xs es:=by
 induction es generalizing ks xs with
 | nil=>cases r; exact ⟨[],.nil,rfl,.nil,fun _ h=>nomatch h⟩
 | cons e es ih=>cases r with | @cons k t x v ks xs _ a rs=>
  obtain ⟨kvs,p,q,r,u⟩:=ih rs
  refine ⟨(k,v) :: kvs,.cons (strKind_is _ _ _ _) rfl p,by rw [List.map_cons,q],by rw [List.map_cons]; exact .cons a r,fun e he=>?_⟩
  rcases List.mem_cons.mp he with rfl | he
  ·exact ⟨k,strKind_is _ _ _ _,rfl⟩
  ·exact u e he
theorem DR.mw {ks:List Str} {xs:List V} {es:List DictEntry} {kvs:List (Str×Value)} (p:Pairs (strKind c.prog c.w) es kvs) (hk:kvs.map (·.1)=ks) (hx:bK c fz xs (kvs.map (·.2)))
  (hh:∀ e∈es,∃ k,(strKind c.prog c.w).is k e.key=true∧e.hash=(strKind c.prog c.w).hash k):DR c fz ks xs es:=by
 induction p generalizing ks xs with
 | nil=>subst hk; cases hx; exact .nil
 | @cons e kv es kvs h1 h2 h3 ih=>
  subst hk
  obtain ⟨x,xs,rfl,a,b⟩:=bK.E8 hx
  obtain ⟨t,e2⟩:=Value.isStrOf_shape h1
  obtain ⟨k,q1,q2⟩:=hh e (.head _)
  have:k=kv.1:=(strKind c.prog c.w).inj _ _ _ q1 h1
  subst this
  obtain ⟨hs,key,val⟩:=e
  dsimp only at e2 h2 q2
  subst e2 h2 q2
  exact .cons a (ih rfl b fun e he=>hh e (.tail _ he))
theorem DI.pairs {ks:List Int} {xs:List V} {es:List DictEntry} (r:DI c fz ks xs es):Rx c fz (intKind c.prog c.w) ks xs es:=by
 induction es generalizing ks xs with
 | nil=>cases r; exact ⟨[],.nil,rfl,.nil,fun _ h=>nomatch h⟩
 | cons e es ih=>cases r with | @cons k hs t x v ks xs _ eh a rs=>
  obtain ⟨kvs,p,q,r,u⟩:=ih rs
  refine ⟨(k,v) :: kvs,.cons (intKind_is _ _ _ _) rfl p,by rw [List.map_cons,q],by rw [List.map_cons]; exact .cons a r,fun e he=>?_⟩
  rcases List.mem_cons.mp he with rfl | he
  ·exact ⟨k,intKind_is _ _ _ _,eh⟩
  ·exact u e he
theorem isInt_shape {v:Value} {i:Int} (h:v.isInt i=true):∃ t,v=.int i t:=by
 cases v with
 | int j t=>exact ⟨t,by rw [eq_of_beq (show (j == i)=true from h)]⟩
 | _=>cases h
theorem DI.mw {ks:List Int} {xs:List V} {es:List DictEntry} {kvs:List (Int×Value)} (p:Pairs (intKind c.prog c.w) es kvs) (hk:kvs.map (·.1)=ks) (hx:bK c fz xs (kvs.map (·.2)))
  (hh:∀ e∈es,∃ k,(intKind c.prog c.w).is k e.key=true∧e.hash=(intKind c.prog c.w).hash k):DI c fz ks xs es:=by
 induction p generalizing ks xs with
 | nil=>subst hk; cases hx; exact .nil
 | @cons e kv es kvs h1 h2 h3 ih=>
  subst hk
  obtain ⟨x,xs,rfl,a,b⟩:=bK.E8 hx
  obtain ⟨t,e2⟩:=isInt_shape h1
  obtain ⟨k,q1,q2⟩:=hh e (.head _)
  have:k=kv.1:=(intKind c.prog c.w).inj _ _ _ q1 h1
  subst this
  obtain ⟨hs,key,val⟩:=e
  dsimp only at e2 h2 q2
  subst e2 h2
  exact .cons q2 a (ih rfl b fun e he=>hh e (.tail _ he))
theorem gQ {K:Type} [DecidableEq K] {k x:K} {v:Value} {r:List (K×Value)}:valueAt ((k,v) :: r) x=if k=x then some v else valueAt r x:=by
 unfold valueAt
 rw [List.find?_cons]
 by_cases e:k=x
 ·simp [e]
 ·simp [e]
theorem ki {K:Type} [DecidableEq K] {x:K} {kvs:List (K×Value)} (h:x∉kvs.map (·.1)):valueAt kvs x=none:=by
 induction kvs with
 | nil=>rfl
 | cons p r ih=>exact ((gQ ..).trans (if_neg fun e:p.1=x=>h (by rw [← e]; exact .head _))).trans (ih fun q=>h (.tail _ q))
theorem KV.value {K:Type} [DecidableEq K] {x:K} {v:V} {ks:List K} {xs:List V} {kvs:List (K×Value)} (nd:ks.Nodup) (k:KV x v ks xs) (hk:kvs.map (·.1)=ks) (hx:bK c fz xs (kvs.map (·.2))):∃ u,valueAt kvs x=some u∧VR c fz v u:=by
 subst hk
 induction kvs generalizing xs with
 | nil=>cases k
 | cons kv r ih=>
  obtain ⟨_,_,rfl,a,b⟩:=bK.E8 hx
  rcases k.inv with ⟨rfl,rfl⟩ | k
  ·exact ⟨kv.2,(gQ ..).trans (if_pos rfl),a⟩
  ·obtain ⟨u,p,q⟩:=ih b (List.nodup_cons.mp nd).2 k
   exact ⟨u,((gQ ..).trans (if_neg (k.ne nd))).trans p,q⟩
theorem cg {K:Type} [DecidableEq K] {knd:KeyKind c.prog c.w K} {es:List DictEntry} {k:Nat} {kvs:List (K×Value)} (p:Pairs knd es kvs) (hh:∀ e∈es,∃ k,knd.is k e.key=true∧e.hash=knd.hash k) (nd:(kvs.map (·.1)).Nodup):(dictOf es k).IsDictOf knd kvs:=
 ⟨es.toArray,k,⟨rfl,rfl,rfl⟩,rfl,fun e he=>hh e (by simpa using he),p,nd⟩
inductive SN {K:Type} [DecidableEq K] {c:Cx} (knd:KeyKind c.prog c.w K) (o:Obj) (kvs:List (K×Value)):Prop
 | mk (es:List DictEntry) (k:Nat) (e:o=dictOf es k) (p:Pairs knd es kvs) (h:∀ e∈es,∃ k,knd.is k e.key=true∧e.hash=knd.hash k) (nd:(kvs.map (·.1)).Nodup)
theorem df {K:Type} [DecidableEq K] {knd:KeyKind c.prog c.w K} {o:Obj} {kvs:List (K×Value)} (h:o.IsDictOf knd kvs):SN knd o kvs:=by
 obtain ⟨es,ep,⟨e1,e2,e3⟩,hd,hk,hp,nd⟩:=h
 obtain ⟨cls,dd,data,sl⟩:=o
 dsimp only at e1 e2 e3 hd
 subst e1 e2 e3 hd
 exact ⟨es.toList,ep,by show _=({ cls:=_,dict:=_,data:=.dict es.toList.toArray ep,slots:=_ }:Obj); rw [Array.toArray_toList],hp,fun e he=>hk e (by simpa using he),nd⟩
end
def Idx (slice:Expr):Prop:=∀ o i,∃ ops,subscripted slice false o i=operate ops (getItem o i)
theorem BA {n:Nat} (h:n≤1000000):(n:Int) < 2 ^ 63:=by omega
theorem JC {k:Int} {n:Nat} (h0:0≤k) (h:k.toNat < n) (hn:n≤1000000):k < 2 ^ 63:=by omega
theorem DU {k:Int} {n:Nat} (h:-(n:Int)≤k) (hn:n≤1000000):-2 ^ 63≤k:=by omega
section
variable {c:Cx} {fn:Fn} {n:Nat} {hd:Option Addr} {ρ:Loc} {σ:AH} {d:da} {A:Around} {fz a7:Led} {R:Rest} {s:Shared} {Φ:Pv} {Ψ:Px} {h:Heap} {m:Str→Option Value} {led frs:Led}
theorem Seen.up {h':Heap} (Z:Seen c d ρ σ fz a7 h m led frs) (k:∀ b o,h.get? b=some o→h'.get? b=some o):Seen c d ρ σ fz a7 h' m led frs:=by
 refine Z.grow ⟨?_,fun b o e=>k _ _ (Z.fr.keep b o e),Z.fr.above⟩ fun p hp=>⟨k _ _ (Z.nw p hp).1,(Z.nw p hp).2⟩
 obtain ⟨oL,es,ep,hL,r⟩:=Z.fr.ns
 exact ⟨oL,es,ep,k _ _ hL,r⟩
theorem St.up {h':Heap} {tk:Nat} (S:St c d ρ σ fz a7 R s) (k:∀ b o,s.heap.get? b=some o→h'.get? b=some o):St c d ρ σ fz a7 R { s with heap:=h',toks:=tk }:=by
 obtain ⟨⟨m,led,frs,Z⟩,hr⟩:=S
 exact ⟨⟨m,led,frs,Z.up k⟩,hr⟩
theorem P4 {value slice:Expr} {pos:Pos} (h:SE c fn n hd ρ σ value (kB c fn n hd (subscriptTail value slice) ρ slice Φ Ψ) Ψ):SE c fn n hd ρ σ (.Subscript value slice pos) Φ Ψ:=
 fun d A fz a7 R s O L S=>Subscript_ (aE (h d A fz a7 R s O L S) (fun _ _ k=>k) fun x v σ₁ fz₁ s₁ h₁ r₁ sub₁ S₁=>aE (h₁ d A fz₁ a7 R s₁ O L S₁) (fun _ _ k=>k.weaken sub₁) fun y u σ₂ fz₂ s₂ h₂ r₂ sub₂ S₂=>
  back sub₁ (back sub₂ (h₂ d A fz₂ a7 R s₂ v u O L S₂ (r₁.mono sub₂) r₂)))
theorem AP {value slice:Expr} {x y:V} {xs:List V} {k:Int} (hs:Idx slice) (I:ec σ x xs) (h0:0≤k) (hl:xs.length≤1000000) (hx:xs[k.toNat]?=some y) (h:Φ y σ):O2 c fn n hd (subscriptTail value slice) x (.int k) ρ σ Φ Ψ:=by
 intro d A fz a7 R s v u O L S r1 r2
 obtain ⟨⟨m,led,frs,Z⟩,hr⟩:=S
 obtain ⟨a,vs,q,rfl,hm,rs⟩:=I.real O Z r1
 obtain ⟨t,rfl⟩:=r2.inv
 obtain ⟨ops,e⟩:=hs (.ref a) (.int k t)
 obtain ⟨w,hw,rw⟩:=rs.nth hx
 have hlt:=(List.getElem?_eq_some_iff.mp hx).1
 exact tail_any (Z.isList hm).typeIs slot_list_getitem.lookup (wpAny_getItem_list (Z.isList hm) h0 (JC h0 hlt hl) (by simpa using hw) (St.pv ⟨⟨_,_,_,Z⟩,hr⟩ rw h)) e
theorem CF {value slice:Expr} {x y:V} {xs:List V} {k:Int} (hs:Idx slice) (I:ec σ x xs) (h0:k < 0) (h1:-(xs.length:Int)≤k) (hl:xs.length≤1000000) (hx:xs[(k + xs.length).toNat]?=some y) (h:Φ y σ):O2 c fn n hd (subscriptTail value slice) x (.int k) ρ σ Φ Ψ:=by
 intro d A fz a7 R s v u O L S r1 r2
 obtain ⟨⟨m,led,frs,Z⟩,hr⟩:=S
 obtain ⟨a,vs,q,rfl,hm,rs⟩:=I.real O Z r1
 obtain ⟨t,rfl⟩:=r2.inv
 obtain ⟨ops,e⟩:=hs (.ref a) (.int k t)
 obtain ⟨w,hw,rw⟩:=rs.nth hx
 have hlen:=rs.len
 exact tail_any (Z.isList hm).typeIs slot_list_getitem.lookup (wpAny_getItem_list_neg (Z.isList hm) h0 (by simpa [← hlen] using h1) (DU h1 hl) (by simpa [← hlen] using hw) (St.pv ⟨⟨_,_,_,Z⟩,hr⟩ rw h)) e
theorem D4 {value slice:Expr} {y:V} {xs:List V} {k:Int} {j:Nat} (hs:Idx slice) (hlo:-(2 ^ 63)≤k) (hhi:k < 2 ^ 63) (hj:seqIndex? k xs.length=some j) (hx:xs[j]?=some y) (h:Φ y σ):O2 c fn n hd (subscriptTail value slice) (.tup xs) (.int k) ρ σ Φ Ψ:=by
 intro d A fz a7 R s v u O L S r1 r2
 obtain ⟨⟨m,led,frs,Z⟩,hr⟩:=S
 obtain ⟨a,vs,q,rfl,k',rs⟩:=r1.inv
 obtain ⟨t,rfl⟩:=r2.inv
 obtain ⟨ops,e⟩:=hs (.ref a) (.int k t)
 obtain ⟨w,hw,rw⟩:=rs.nth hx
 have hT:IsTup s.heap a vs.toArray:=⟨_,Z.known O.cx.kin k',rfl,_,rfl⟩
 exact tail_any hT.typeIs slot_tuple_getitem.lookup (getItem_tuple hT hlo hhi (by simpa [← rs.len] using hj) (by simpa using hw) (St.pv ⟨⟨_,_,_,Z⟩,hr⟩ rw h)) e
theorem DB {value slice:Expr} {x y:V} {ks:List Str} {xs:List V} {k:Str} (hs:Idx slice) (I:Aw σ x ks xs) (hx:KV k y ks xs) (h:Φ y σ):O2 c fn n hd (subscriptTail value slice) x (.str k) ρ σ Φ Ψ:=by
 intro d A fz a7 R s v u O L S r1 r2
 obtain ⟨⟨m,led,frs,Z⟩,hr⟩:=S
 obtain ⟨a,es,q,rfl,hg,rs,nd,lo⟩:=I.real O Z r1
 obtain ⟨t,rfl⟩:=r2.inv
 obtain ⟨ops,e⟩:=hs (.ref a) (.str k t)
 obtain ⟨kvs,p1,p2,p3,p4⟩:=rs.pairs
 obtain ⟨w,hw,rw⟩:=hx.value nd p2 p3
 have hD:s.heap.DictOf (strKind c.prog c.w) a kvs:=Heap.dictOf_iff.mpr ⟨_,hg,cg p1 p4 (p2 ▸ nd)⟩
 exact tail_any hD.typeIs slot_dict_getitem.lookup (wpAny_getItem_of (strKind_is _ _ _ _) hD.mapOf hw ((St.toks ⟨⟨_,_,_,Z⟩,hr⟩ _).pv rw h)) e
theorem Gr {value slice:Expr} {x y:V} {ks:List Int} {xs:List V} {k:Int} (hs:Idx slice) (I:JK σ x ks xs) (hx:KV k y ks xs) (h:Φ y σ):O2 c fn n hd (subscriptTail value slice) x (.int k) ρ σ Φ Ψ:=by
 intro d A fz a7 R s v u O L S r1 r2
 obtain ⟨⟨m,led,frs,Z⟩,hr⟩:=S
 obtain ⟨a,es,q,rfl,hg,rs,nd,lo⟩:=I.real O Z r1
 obtain ⟨t,rfl⟩:=r2.inv
 obtain ⟨ops,e⟩:=hs (.ref a) (.int k t)
 obtain ⟨kvs,p1,p2,p3,p4⟩:=rs.pairs
 obtain ⟨w,hw,rw⟩:=hx.value nd p2 p3
 have hD:s.heap.DictOf (intKind c.prog c.w) a kvs:=Heap.dictOf_iff.mpr ⟨_,hg,cg p1 p4 (p2 ▸ nd)⟩
 exact tail_any hD.typeIs slot_dict_getitem.lookup (wpAny_getItem_of (intKind_is _ _ _ _) hD.mapOf hw ((St.toks ⟨⟨_,_,_,Z⟩,hr⟩ _).pv rw h)) e
theorem KV.FK {K:Type} [DecidableEq K] {x:K} {ks:List K}:∀ {xs:List V},x∈ks→xs.length=ks.length→∃ v,KV x v ks xs:=by
 induction ks with
 | nil=>intro _ h; exact nomatch h
 | cons k ks ih=>
  intro xs h e
  cases xs with
  | nil=>cases e
  | cons v xs=>
   by_cases q:x=k
   ·subst q; exact ⟨v,.head⟩
   ·obtain ⟨w,p⟩:=ih ((List.mem_cons.mp h).resolve_left q) (Nat.succ.inj e)
    exact ⟨w,.tail p⟩
theorem DR.has {ks:List Str} {xs:List V} {es:List DictEntry} {x:Str} (r:DR c fz ks xs es) (nd:ks.Nodup):∃ kvs,Pairs (strKind c.prog c.w) es kvs∧(∀ e∈es,∃ k,(strKind c.prog c.w).is k e.key=true∧e.hash=(strKind c.prog c.w).hash k)∧(kvs.map (·.1)).Nodup∧(valueAt kvs x).isSome=decide (x∈ks):=by
 obtain ⟨kvs,p1,p2,p3,p4⟩:=r.pairs
 refine ⟨kvs,p1,p4,p2 ▸ nd,?_⟩
 by_cases q:x∈ks
 ·obtain ⟨v,kv⟩:=KV.FK q (by rw [p3.len,← p2]; simp)
  obtain ⟨w,hw,_⟩:=kv.value nd p2 p3
  rw [hw,decide_eq_true q]; rfl
 ·rw [ki (by rw [p2]; exact q),decide_eq_false q]; rfl
theorem DI.has {ks:List Int} {xs:List V} {es:List DictEntry} {x:Int} (r:DI c fz ks xs es) (nd:ks.Nodup):∃ kvs,Pairs (intKind c.prog c.w) es kvs∧(∀ e∈es,∃ k,(intKind c.prog c.w).is k e.key=true∧e.hash=(intKind c.prog c.w).hash k)∧(kvs.map (·.1)).Nodup∧(valueAt kvs x).isSome=decide (x∈ks):=by
 obtain ⟨kvs,p1,p2,p3,p4⟩:=r.pairs
 refine ⟨kvs,p1,p4,p2 ▸ nd,?_⟩
 by_cases q:x∈ks
 ·obtain ⟨v,kv⟩:=KV.FK q (by rw [p3.len,← p2]; simp)
  obtain ⟨w,hw,_⟩:=kv.value nd p2 p3
  rw [hw,decide_eq_true q]; rfl
 ·rw [ki (by rw [p2]; exact q),decide_eq_false q]; rfl
theorem Hj {x:V} {ks:List Str} {xs:List V} {k:Str} (I:Aw σ x ks xs) (h:Φ (.bool (decide (k∈ks))) σ):O2 c fn n hd (compareOp .In) (.str k) x ρ σ Φ Ψ:=by
 intro d A fz a7 R s v u O L S r1 r2
 obtain ⟨⟨m,led,frs,Z⟩,hr⟩:=S
 obtain ⟨a,es,q,rfl,hg,rs,nd,lo⟩:=I.real O Z r2
 obtain ⟨t,rfl⟩:=r1.inv
 obtain ⟨kvs,p1,p4,nd',hb⟩:=rs.has (x:=k) nd
 have hD:s.heap.DictOf (strKind c.prog c.w) a kvs:=Heap.dictOf_iff.mpr ⟨_,hg,cg p1 p4 nd'⟩
 exact wpAny_in_of (strKind_is _ _ _ _) lo hD.mapOf (by rw [hb]; exact (St.toks ⟨⟨_,_,_,Z⟩,hr⟩ _).pv (.bool _) h)
theorem zQ {x:V} {ks:List Str} {xs:List V} {k:Str} (I:Aw σ x ks xs) (h:Φ (.bool (!decide (k∈ks))) σ):O2 c fn n hd (compareOp .NotIn) (.str k) x ρ σ Φ Ψ:=by
 intro d A fz a7 R s v u O L S r1 r2
 obtain ⟨⟨m,led,frs,Z⟩,hr⟩:=S
 obtain ⟨a,es,q,rfl,hg,rs,nd,lo⟩:=I.real O Z r2
 obtain ⟨t,rfl⟩:=r1.inv
 obtain ⟨kvs,p1,p4,nd',hb⟩:=rs.has (x:=k) nd
 have hD:s.heap.DictOf (strKind c.prog c.w) a kvs:=Heap.dictOf_iff.mpr ⟨_,hg,cg p1 p4 nd'⟩
 exact wpAny_notIn_of (strKind_is _ _ _ _) lo hD.mapOf (by rw [hb]; exact (St.toks ⟨⟨_,_,_,Z⟩,hr⟩ _).pv (.bool _) h)
theorem Ap {x:V} {ks:List Int} {xs:List V} {k:Int} (I:JK σ x ks xs) (h:Φ (.bool (!decide (k∈ks))) σ):O2 c fn n hd (compareOp .NotIn) (.int k) x ρ σ Φ Ψ:=by
 intro d A fz a7 R s v u O L S r1 r2
 obtain ⟨⟨m,led,frs,Z⟩,hr⟩:=S
 obtain ⟨a,es,q,rfl,hg,rs,nd,lo⟩:=I.real O Z r2
 obtain ⟨t,rfl⟩:=r1.inv
 obtain ⟨kvs,p1,p4,nd',hb⟩:=rs.has (x:=k) nd
 have hD:s.heap.DictOf (intKind c.prog c.w) a kvs:=Heap.dictOf_iff.mpr ⟨_,hg,cg p1 p4 nd'⟩
 exact wpAny_notIn_of (intKind_is _ _ _ _) lo hD.mapOf (by rw [hb]; exact (St.toks ⟨⟨_,_,_,Z⟩,hr⟩ _).pv (.bool _) h)
def V.BH:V→Bool
 | .tup _ | .fl _ | .rng .. | .obj .. | .aH .. | .e9 .. | .ref _ | .g _ | .int _ | .str _ | .bool _=>true
 | _=>false
theorem VR.plain {x:V} {v:Value} (r:VR c fz x v) (h:x.BH=true):plainIs v .none=true∧v≠.none:=by
 cases r
 case none=>exact Bool.noConfusion (show false=true from h)
 case bi=>exact Bool.noConfusion (show false=true from h)
 all_goals exact ⟨rfl,by intro e; cases e⟩
theorem Cs (h:Φ (.bool true) σ):O2 c fn n hd (compareOp .Is) .none .none ρ σ Φ Ψ:=fun d A fz a7 R s v u O L S r1 r2=>by
 obtain rfl:=r1.inv; obtain rfl:=r2.inv; exact wpAny_is_self rfl (S.pv (.bool _) h)
theorem uR (h:Φ (.bool false) σ):O2 c fn n hd (compareOp .IsNot) .none .none ρ σ Φ Ψ:=fun d A fz a7 R s v u O L S r1 r2=>by
 obtain rfl:=r1.inv; obtain rfl:=r2.inv; exact wpAny_isNot_self rfl (S.pv (.bool _) h)
theorem Cn {x:V} (hx:x.BH=true) (h:Φ (.bool false) σ):O2 c fn n hd (compareOp .Is) x .none ρ σ Φ Ψ:=fun d A fz a7 R s v u O L S r1 r2=>by
 obtain rfl:=r2.inv; exact wpAny_is_other (r1.plain hx).1 (r1.plain hx).2 (S.pv (.bool _) h)
theorem uS {x:V} (hx:x.BH=true) (h:Φ (.bool true) σ):O2 c fn n hd (compareOp .IsNot) x .none ρ σ Φ Ψ:=fun d A fz a7 R s v u O L S r1 r2=>by
 obtain rfl:=r2.inv; exact wpAny_isNot_other (r1.plain hx).1 (r1.plain hx).2 (S.pv (.bool _) h)
theorem qE {x y:V} {xs ys:List V} (I:ec σ x xs) (J:ec σ y ys) (hl:xs.length + ys.length≤100000) (h:∀ a,σ a=none→Φ (.ref a) (σ.upd a (.list (xs ++ ys)))):O2 c fn n hd (binaryOp .Add) x y ρ σ Φ Ψ:=by
 intro d A fz a7 R s v u O L S r1 r2
 obtain ⟨⟨m,led,frs,Z⟩,hr⟩:=S
 obtain ⟨a,vs,q,rfl,hm,rs⟩:=I.real O Z r1
 obtain ⟨b,us,q',rfl,hm',rs'⟩:=J.real O Z r2
 refine add_lists Z.fr Z.nw (Z.isList hm) (Z.isList hm') (fun h' F' N'=>?_) (by rw [← rs.len,← rs'.len,sizeLine_eq]; omega)
 have Z':=Z.alloc (o:=.list (xs ++ ys)) F' N' Z.dU (.list 0 (rs.app rs'))
 exact ⟨.ref _,_,fz,h _ (Z.cw Z.dU),.ref _,fun _ hp=>hp,⟨_,_,_,Z'⟩,hr⟩
theorem HA {x:V} {xs:List V} {Φ:Bool→AH→Prop} (I:ec σ x xs) (hl:xs.length≤1000000) (h:Φ (!xs.isEmpty) σ):OT c fn n hd x ρ σ Φ Ψ:=by
 intro d A fz a7 R s v O L S r
 obtain ⟨⟨m,led,frs,Z⟩,hr⟩:=S
 obtain ⟨a,vs,q,rfl,hm,rs⟩:=I.real O Z r
 refine wpAny_truthy_list (Z.isList hm) (by rw [List.size_toArray,← rs.len]; exact BA hl) ?_
 have:vs.toArray.isEmpty=xs.isEmpty:=by cases rs <;> rfl
 rw [this]
 exact (St.toks ⟨⟨_,_,_,Z⟩,hr⟩ _).pb h
theorem Ma {x:V} {xs:List V} {Ψ:Addr→AH→Prop} (I:ec σ x xs) (hl:xs.length≤1000000) (h:Φ (.int xs.length) σ):SC c n hd (.builtin "len") [x] σ Φ Ψ:=by
 intro fn d A ρ fz a7 R s vs O L S r
 replace r:=r.inv
 obtain ⟨v1,_,rfl,r1,r⟩:=r
 obtain rfl:=r.jy
 obtain ⟨⟨m,led,frs,Z⟩,hr⟩:=S
 obtain ⟨a,vs,q,rfl,hm,rs⟩:=I.real O Z r1
 refine Calls.call_len_list (Z.isList hm) (by rw [List.size_toArray,← rs.len]; exact BA hl) ?_
 rw [List.size_toArray,← rs.len]
 exact (St.toks ⟨⟨_,_,_,Z⟩,hr⟩ _).pv (.int _ _) h
theorem zH {x:Str} {Ψ:Addr→AH→Prop} (hl:x.length≤1000000) (h:Φ (.int x.length) σ):SC c n hd (.builtin "len") [.str x] σ Φ Ψ:=by
 intro fn d A ρ fz a7 R s vs O L S r
 replace r:=r.inv
 obtain ⟨v1,_,rfl,r1,r⟩:=r
 obtain rfl:=r.jy
 obtain ⟨_,rfl⟩:=r1.inv
 exact PySem.P.len_str (Int.not_le.mpr (BA hl)) ((S.toks _).pv (.int _ _) h)
theorem zM {xs:List V} {Ψ:Addr→AH→Prop} (hl:xs.length≤1000000) (h:Φ (.int xs.length) σ):SC c n hd (.builtin "len") [.tup xs] σ Φ Ψ:=by
 intro fn d A ρ fz a7 R s vs O L S r
 replace r:=r.inv
 obtain ⟨v1,_,rfl,r1,r⟩:=r
 obtain rfl:=r.jy
 obtain ⟨⟨m,led,frs,Z⟩,hr⟩:=S
 obtain ⟨a,vs,q,rfl,k',rs⟩:=r1.inv
 have hT:IsTup s.heap a vs.toArray:=⟨_,Z.known O.cx.kin k',rfl,_,rfl⟩
 refine len_tuple hT (by rw [List.size_toArray,← rs.len]; exact BA hl) ?_
 rw [List.size_toArray,← rs.len]
 exact (St.toks ⟨⟨_,_,_,Z⟩,hr⟩ _).pv (.int _ _) h
theorem Gg {i:Int} {Ψ:Addr→AH→Prop} (h:Φ (.bool true) σ):SC c n hd (.builtin "isinstance") [.int i,.ty "int"] σ Φ Ψ:=by
 intro fn d A ρ fz a7 R s vs O L S r
 replace r:=r.inv
 obtain ⟨v1,_,rfl,r1,r⟩:=r
 replace r:=r.inv
 obtain ⟨v2,_,rfl,r2,r⟩:=r
 obtain rfl:=r.jy
 obtain ⟨_,rfl⟩:=r1.inv; obtain rfl:=r2.inv
 exact PySem.IsiPair.int_int (S.pv (.bool _) h)
theorem w4 {x:Str} {Ψ:Addr→AH→Prop} (h:Φ (.bool false) σ):SC c n hd (.builtin "isinstance") [.str x,.ty "int"] σ Φ Ψ:=by
 intro fn d A ρ fz a7 R s vs O L S r
 replace r:=r.inv
 obtain ⟨v1,_,rfl,r1,r⟩:=r
 replace r:=r.inv
 obtain ⟨v2,_,rfl,r2,r⟩:=r
 obtain rfl:=r.jy
 obtain ⟨_,rfl⟩:=r1.inv; obtain rfl:=r2.inv
 exact PySem.IsiPair.str_int ((S.toks _).pv (.bool _) h)
theorem LY {i j:Int} {Ψ:Addr→AH→Prop} (h:Φ (.int (if j > i then j else i)) σ):SC c n none (.builtin "max") [.int i,.int j] σ Φ Ψ:=by
 intro fn d A ρ fz a7 R s vs O L S r
 replace r:=r.inv
 obtain ⟨v1,_,rfl,r1,r⟩:=r
 replace r:=r.inv
 obtain ⟨v2,_,rfl,r2,r⟩:=r
 obtain rfl:=r.jy
 obtain ⟨_,rfl⟩:=r1.inv; obtain ⟨_,rfl⟩:=r2.inv
 refine max_two_ints L.handled fun h' tk k=>?_
 by_cases q:j > i
 ·rw [if_pos q] at h ⊢; exact (S.up k).pv (.int _ _) h
 ·rw [if_neg q] at h ⊢; exact (S.up k).pv (.int _ _) h
end
theorem El {K:Type} [DecidableEq K] {x:K} {u:Value} {kvs:List (K×Value)} (h:x∉kvs.map (·.1)):kvs.map (fun kv=>if kv.1=x then (kv.1,u) else kv)=kvs:=by
 induction kvs with
 | nil=>rfl
 | cons p r ih=>rw [List.map_cons,ih fun q=>h (.tail _ q),if_neg fun e:p.1=x=>h (by rw [← e]; exact .head _)] at ⊢
theorem zV {K:Type} [DecidableEq K] {x:K} {u:Value} {kvs:List (K×Value)} (h:x∈kvs.map (·.1)):stored kvs x u=kvs.map (fun kv=>if kv.1=x then (kv.1,u) else kv):=by
 unfold stored
 rw [if_pos]
 obtain ⟨kv,h1,h2⟩:=List.mem_map.mp h
 exact List.any_eq_true.mpr ⟨kv,h1,by simpa using h2⟩
theorem stored_new {K:Type} [DecidableEq K] {x:K} {u:Value} {kvs:List (K×Value)} (h:x∉kvs.map (·.1)):stored kvs x u=kvs ++ [(x,u)]:=by
 unfold stored
 rw [if_neg]
 intro q
 obtain ⟨kv,h1,h2⟩:=List.any_eq_true.mp q
 exact h (List.mem_map.mpr ⟨kv,h1,by simpa using h2⟩)
section
variable {c:Cx} {fn:Fn} {n:Nat} {hd:Option Addr} {ρ:Loc} {σ:AH} {d:da} {A:Around} {fz a7:Led} {R:Rest} {s:Shared} {Φ:Pv} {Ψ:Px} {Θ:AF→Loc→AH→Prop} {h:Heap} {m:Str→Option Value} {led frs:Led}
theorem KP.stored {K:Type} [DecidableEq K] {x:K} {v:V} {u:Value} {ks:List K} {xs xs':List V} (k:KP x v ks xs xs'):∀ {kvs:List (K×Value)},ks.Nodup→kvs.map (·.1)=ks→bK c fz xs (kvs.map (·.2))→VR c fz v u→
  (kvs.map (fun kv=>if kv.1=x then (kv.1,u) else kv)).map (·.1)=ks∧bK c fz xs' ((kvs.map (fun kv=>if kv.1=x then (kv.1,u) else kv)).map (·.2)):=by
 intro kvs nd hk hx hv
 subst hk
 induction kvs generalizing xs xs' with
 | nil=>cases k
 | cons kv r ih=>
  obtain ⟨_,_,rfl,a,b⟩:=bK.E8 hx
  rcases k.inv with ⟨rfl,rfl⟩ | ⟨_,rfl,k'⟩
  ·rw [List.map_cons,if_pos rfl,El (List.nodup_cons.mp nd).1] at ⊢
   exact ⟨rfl,.cons hv b⟩
  ·obtain ⟨p,q⟩:=ih b k' (List.nodup_cons.mp nd).2
   have ne:kv.1≠x:=fun e=>(List.nodup_cons.mp nd).1 (by show kv.1∈_; rw [e]; exact k'.mem)
   rw [List.map_cons,if_neg ne,List.map_cons,List.map_cons,p] at ⊢
   exact ⟨rfl,.cons a q⟩
theorem p5.stored {K:Type} [DecidableEq K] {x:K} {v:V} {u:Value} {ks ks':List K} {xs xs':List V} {kvs:List (K×Value)} (k:p5 x v ks xs ks' xs') (nd:ks.Nodup) (hk:kvs.map (·.1)=ks) (hx:bK c fz xs (kvs.map (·.2))) (hv:VR c fz v u):
  (stored kvs x u).map (·.1)=ks'∧bK c fz xs' ((stored kvs x u).map (·.2)):=by
 cases k with
 | old kp=>rw [zV (by rw [hk]; exact kp.mem)]; exact kp.stored nd hk hx hv
 | new hn=>
  rw [stored_new (by rw [hk]; exact hn),List.map_append,List.map_append,hk]
  exact ⟨rfl,hx.app (.cons hv .nil)⟩
theorem lL {pre post:Led} {a:Addr} {o:Obj} (h1:∀ p∈pre,p.1≠a) (h2:∀ p∈post,p.1≠a):UpdF a o (pre ++ (a,o) :: post) (fun o'=>pre ++ (a,o') :: post):=by
 induction pre with
 | nil=>exact .head h2
 | cons p r ih=>exact .tail (h1 p (.head _)) (ih fun q hq=>h1 q (.tail _ hq))
def kX (c:Cx) (fn:Fn) (n:Nat) (hd:Option Addr) (x i v:V) (ρ:Loc) (σ:AH) (k:AH→Prop):Prop:=
 ∀ d A fz a7 R s ux ui uv (Q:Unit→Shared→Prop) (E:Value→Shared→Prop),Ok c fn d→Lv fn d A n hd→St c d ρ σ fz a7 R s→VR c fz x ux→VR c fz i ui→VR c fz v uv→(∀ σ' s',k σ'→St c d ρ σ' fz a7 R s'→Q () s')→
  wpAny (model c.prog c.w) A (setItem ux ui uv) Q E s
theorem HH {a:Addr} {x:Str} {v:V} {ks ks':List Str} {xs xs':List V} {k:AH→Prop} (hs:σ a=some (.ds ks xs)) (hl:ks.length≤100000) (hp:p5 x v ks xs ks' xs') (h:k (σ.upd a (.ds ks' xs'))):kX c fn n hd (.ref a) (.str x) v ρ σ k:=by
 intro d A fz a7 R s ux ui uv Q E O L S r1 r2 r3 q
 obtain ⟨⟨m,led,frs,Z⟩,hr⟩:=S
 obtain rfl:=r1.inv; obtain ⟨_,rfl⟩:=r2.inv
 obtain ⟨_,_,_,ro,hm,ho⟩:=Z.hp _ _ hs
 obtain ⟨es,k,rfl,nd,rs⟩:=ho.inv
 obtain ⟨pre,post,rfl,p1,p2⟩:=bC Z.nd hm
 obtain ⟨kvs,q1,q2,q3,q4⟩:=rs.pairs
 have hsz:kvs.length≤sizeLine:=by rw [sizeLine_eq,← List.length_map (f:=(·.1)),q2]; omega
 refine kda_set Z.fr Z.nw (lL p1 p2) (cg q1 q4 (q2 ▸ nd)) (strKind_is _ _ _ _) hsz fun h' o' F' N' D'=>?_
 obtain ⟨es',k',rfl,w1,w2,w3⟩:=df D'
 obtain ⟨e1,e2⟩:=hp.stored nd q2 q3 r3
 exact q _ _ h ⟨⟨_,_,_,Z.put (by rw [hs]; rfl) F' N' (.ds _ (e1 ▸ w3) (DR.mw w1 e1 e2 w2))⟩,hr⟩
theorem HS {a:Addr} {x:Int} {v:V} {ks ks':List Int} {xs xs':List V} {k:AH→Prop} (hs:σ a=some (.di ks xs)) (hl:ks.length≤100000) (hp:p5 x v ks xs ks' xs') (h:k (σ.upd a (.di ks' xs'))):kX c fn n hd (.ref a) (.int x) v ρ σ k:=by
 intro d A fz a7 R s ux ui uv Q E O L S r1 r2 r3 q
 obtain ⟨⟨m,led,frs,Z⟩,hr⟩:=S
 obtain rfl:=r1.inv; obtain ⟨_,rfl⟩:=r2.inv
 obtain ⟨_,_,_,ro,hm,ho⟩:=Z.hp _ _ hs
 obtain ⟨es,k,rfl,nd,rs⟩:=ho.inv
 obtain ⟨pre,post,rfl,p1,p2⟩:=bC Z.nd hm
 obtain ⟨kvs,q1,q2,q3,q4⟩:=rs.pairs
 have hsz:kvs.length≤sizeLine:=by rw [sizeLine_eq,← List.length_map (f:=(·.1)),q2]; omega
 refine kda_set Z.fr Z.nw (lL p1 p2) (cg q1 q4 (q2 ▸ nd)) (intKind_is _ _ _ _) hsz fun h' o' F' N' D'=>?_
 obtain ⟨es',k',rfl,w1,w2,w3⟩:=df D'
 obtain ⟨e1,e2⟩:=hp.stored nd q2 q3 r3
 exact q _ _ h ⟨⟨_,_,_,Z.put (by rw [hs]; rfl) F' N' (.di _ (e1 ▸ w3) (DI.mw w1 e1 e2 w2))⟩,hr⟩
theorem bK.set {xs:List V} {vs:List Value} {v:V} {u:Value} (r:bK c fz xs vs) (q:VR c fz v u):∀ k,bK c fz (xs.set k v) (vs.set k u):=by
 induction vs generalizing xs with
 | nil=>cases r; intro k; exact .nil
 | cons w vs ih=>cases r with | cons a rs=>
  intro k
  cases k with
  | zero=>exact .cons q rs
  | succ k=>exact .cons a (ih rs k)
theorem rZ {u:Value}:∀ {vs:List Value} {k:Nat},k < vs.length→ki_setL vs k u=some (vs.set k u)
 | [],_,h=>by simp at h
 | v :: vs,0,_=>rfl
 | v :: vs,k + 1,h=>by
  have:=rZ (u:=u) (vs:=vs) (k:=k) (by simpa using h)
  show (match ki_setL vs k u with | some q=>some (v :: q) | none=>none)=_
  rw [this]; rfl
theorem E7 {a:Addr} {i:Int} {v:V} {xs:List V} {k:AH→Prop} (hs:σ a=some (.list xs)) (h0:i < 0) (h1:-(xs.length:Int)≤i) (hl:xs.length≤100000) (h:k (σ.upd a (.list (xs.set (i + xs.length).toNat v)))):kX c fn n hd (.ref a) (.int i) v ρ σ k:=by
 intro d A fz a7 R s ux ui uv Q E O L S r1 r2 r3 q
 obtain ⟨⟨m,led,frs,Z⟩,hr⟩:=S
 obtain rfl:=r1.inv; obtain ⟨_,rfl⟩:=r2.inv
 obtain ⟨us,k,pre,post,rfl,p1,p2,rs,hm⟩:=Z.eS hs
 have hlen:=rs.len
 refine ki_setNeg (j:=(i + xs.length).toNat) Z.fr Z.nw h0 (DU h1 (Nat.le_trans hl (by decide))) ?_ (rZ (by rw [← hlen]; omega)) (eV p1 p2) fun h' F' N'=>?_
 ·rw [List.size_toArray,← hlen]; exact PySem.seqIndex_neg h0 h1
 ·exact q _ _ h ⟨⟨_,_,_,Z.put (by rw [hs]; rfl) F' N' (.list _ (rs.set r3 _))⟩,hr⟩
abbrev kN (ρ:Loc) (Θ:AF→Loc→AH→Prop):AH→Prop:=fun σ=>Θ .next ρ σ
abbrev SU (c:Cx) (fn:Fn) (n:Nat) (hd:Option Addr) (ρ:Loc) (Θ:AF→Loc→AH→Prop) (Ψ:Px) (v x:V):Pv:=fun y σ=>kX c fn n hd x y v ρ σ (kN ρ Θ)
abbrev SO (c:Cx) (fn:Fn) (n:Nat) (hd:Option Addr) (ρ:Loc) (i:Expr) (Θ:AF→Loc→AH→Prop) (Ψ:Px) (v:V):Pv:=fun x σ=>SE c fn n hd ρ σ i (SU c fn n hd ρ Θ Ψ v x) Ψ
abbrev kI (c:Cx) (fn:Fn) (n:Nat) (hd:Option Addr) (ρ:Loc) (o i:Expr) (Θ:AF→Loc→AH→Prop) (Ψ:Px):Pv:=fun v σ=>SE c fn n hd ρ σ o (SO c fn n hd ρ i Θ Ψ v) Ψ
abbrev Sn (c:Cx) (ρ:Loc) (attr:Str) (Θ:AF→Loc→AH→Prop) (v:V):Pv:=fun x σ=>pL c x σ attr v (kN ρ Θ)
abbrev kW (c:Cx) (fn:Fn) (n:Nat) (hd:Option Addr) (ρ:Loc) (o:Expr) (attr:Str) (Θ:AF→Loc→AH→Prop) (Ψ:Px):Pv:=fun v σ=>SE c fn n hd ρ σ o (Sn c ρ attr Θ v) Ψ
theorem Kb {o i value:Expr} {p' pos:Pos} (h:SE c fn n hd ρ σ value (kI c fn n hd ρ o i Θ Ψ) Ψ)
  (hs:∀ env,swapsWith value (some (.Subscript o i p')) pos.line env=pure false):SS c fn n hd ρ σ (.Assign [.Subscript o i p'] value pos) Θ Ψ:=
 fun d A fz a7 R s O L S=>wpAny_Assign_Subscript (aE (h d A fz a7 R s O L S) (fun _ _ k=>k) fun v uv σ₁ fz₁ s₁ h₁ r₁ sub₁ S₁=>aE (h₁ d A fz₁ a7 R s₁ O L S₁) (fun _ _ k=>k.weaken sub₁) fun x ux σ₂ fz₂ s₂ h₂ r₂ sub₂ S₂=>
  aE (h₂ d A fz₂ a7 R s₂ O L S₂) (fun _ _ k=>(k.weaken sub₂).weaken sub₁) fun y uy σ₃ fz₃ s₃ h₃ r₃ sub₃ S₃=>h₃ d A fz₃ a7 R s₃ ux uy uv _ _ O L S₃ (r₂.mono sub₃) r₃ ((r₁.mono sub₂).mono sub₃) fun σ' s' hk S'=>
   ⟨.next,ρ,σ',fz₃,hk,.next,fun p hp=>sub₃ p (sub₂ p (sub₁ p hp)),S'⟩) (hs _)
theorem Ln {o value:Expr} {attr:Str} {p' pos:Pos} (h:SE c fn n hd ρ σ value (kW c fn n hd ρ o attr Θ Ψ) Ψ)
  (hs:∀ env,swapsWith value (some (.Attribute o attr p')) pos.line env=pure false):SS c fn n hd ρ σ (.Assign [.Attribute o attr p'] value pos) Θ Ψ:=
 fun d A fz a7 R s O L S=>plainObj_wpAny_Assign_Attribute (aE (h d A fz a7 R s O L S) (fun _ _ k=>k) fun v uv σ₁ fz₁ s₁ h₁ r₁ sub₁ S₁=>aE (h₁ d A fz₁ a7 R s₁ O L S₁) (fun _ _ k=>k.weaken sub₁) fun x ux σ₂ fz₂ s₂ h₂ r₂ sub₂ S₂=>
  h₂.run O S₂ r₂ (r₁.mono sub₂) fun σ' s' hk S'=>⟨.next,ρ,σ',fz₂,hk,.next,fun p hp=>sub₂ p (sub₁ p hp),S'⟩) (hs _)
theorem JW {o value:Expr} {attr:Str} {op:Operator} {p' pos:Pos} (h:SE c fn n hd ρ σ o (fun x σ₁=>vZ c x σ₁ attr fun old σ₂=>SE c fn n hd ρ σ₂ value (fun v σ₃=>O2 c fn n hd (inplaceOp op) old v ρ σ₃ (fun new σ₄=>pL c x σ₄ attr new fun σ'=>Θ .next ρ σ') Ψ) Ψ) Ψ):
  SS c fn n hd ρ σ (.AugAssign (.Attribute o attr p') op value pos) Θ Ψ:=
 fun d A fz a7 R s O L S=>wpAny_AugAssign_AttributeAny (aE (h d A fz a7 R s O L S) (fun _ _ k=>k) fun x ux σ₁ fz₁ s₁ h₁ r₁ sub₁ S₁=>
  aE (h₁.run (E:=PX c d fz₁ a7 R Ψ) O S₁ r₁) (fun _ _ k=>k.weaken sub₁) fun old uo σ₂ fz₂ s₂ h₂ r₂ sub₂ S₂=>aE (h₂ d A fz₂ a7 R s₂ O L S₂) (fun _ _ k=>(k.weaken sub₂).weaken sub₁) fun v uv σ₃ fz₃ s₃ h₃ r₃ sub₃ S₃=>
   aE (h₃ d A fz₃ a7 R s₃ uo uv O L S₃ (r₂.mono sub₃) r₃) (fun _ _ k=>((k.weaken sub₃).weaken sub₂).weaken sub₁) fun new un σ₄ fz₄ s₄ h₄ r₄ sub₄ S₄=>
    h₄.run O S₄ (((r₁.mono sub₂).mono sub₃).mono sub₄) r₄ fun σ' s' hk S'=>⟨.next,ρ,σ',fz₄,hk,.next,fun p hp=>sub₄ p (sub₃ p (sub₂ p (sub₁ p hp))),S'⟩)
end
def aA (K:Frag) (C:Addr) (name:Str) (f:Addr):Bool:=plainGet K C name && (findIn K (.ref C) name == some (some (.ref f))) && isFn K (.ref f) && keepIn K (.ref f)
def iY (K:Frag) (C fI:Addr):Bool:=makesIn K C && (findIn K (.ref C) "__init__" == some (some (.ref fI))) && isFn K (.ref fI)
def aR (K:Frag) (C:Addr):Bool:=makesIn K C && (findIn K (.ref C) "__init__" == some (some (.builtin "object.__init__")))
section
variable {c:Cx} {fn:Fn} {n:Nat} {hd:Option Addr} {ρ:Loc} {σ:AH} {d:da} {A:Around} {fz a7:Led} {R:Rest} {s:Shared} {Φ:Pv} {Ψ:Px} {Θ:AF→Loc→AH→Prop} {h:Heap} {m:Str→Option Value} {led frs:Led}
inductive MM (c:Cx) (σ:AH) (x:V) (name:Str) (P:Addr→Prop):Prop
 | mk (C:Addr) (ks:List Str) (vs:List V) (f:Addr) (I:Inst σ x C ks vs) (h1:aA c.K C name f=true) (h2:name∉ks) (q:P f)
abbrev kM (c:Cx) (fn:Fn) (n:Nat) (hd:Option Addr) (ρ:Loc) (name:Str) (args:List Expr) (Φ:Pv) (Ψ:Px):Pv:=fun x σ=>MM c σ x name fun f=>SA c fn n hd ρ σ args (Rz c n hd (.ref f) x Φ (Ψ ρ)) Ψ
theorem M6 {o:Expr} {name:Str} {args:List Expr} {apos pos:Pos}
  (h:SE c fn n hd ρ σ o (kM c fn n hd ρ name args Φ Ψ) Ψ) (hp:Plain args) {pl:Env→Sem Bool}
  (he:∀ env,eval (.Call (.Attribute o name apos) args [] pos) env=(do
   let ov ← eval o env
   standAt apos.atName
   let (f,first) ← holding [ov] (getMethod ov name (pl env))
   callWith pos f first (backTo pos (starEach args env)) [])):SE c fn n hd ρ σ (.Call (.Attribute o name apos) args [] pos) Φ Ψ:=
 fun d A fz a7 R s O L S=>MethodCall_ (pl:=pl (fn.env d.L)) (aE (h d A fz a7 R s O L S) (fun _ _ k=>k) fun x v σ₁ fz₁ s₁ q r₁ sub₁ S₁=>by
  obtain ⟨C,ks,vs,f,I,hm,hk,ha⟩:=q
  have S₂:=S₁
  obtain ⟨⟨m,led,frs,Z⟩,hr⟩:=S₂
  obtain ⟨a,dd,es,k,rfl,IA,dr,nd⟩:=I.real O Z r₁
  unfold aA at hm
  simp only [Bool.and_eq_true,beq_iff_eq] at hm
  refine method_inst Z.fr O.cx.kin IA hm.1.1.1 hm.1.1.2 hm.1.2 (dr.none hk) ?_
  exact back sub₁ (BM (firstx:=[x]) (fun h X=>keeps_K hm.2 h X) O L S₁ (.cons r₁ .nil) ha hp)) (he _)
theorem uj (C:Addr) (rest:List Value) (kw:List (Str×Value)):(Code.builtin "type.__call__" ⟨.ref C :: rest,kw⟩).weight≤1:=Nat.le_of_eq (by kernel_rfl)
theorem ET (C:Addr) (rest:List Value) (kw:List (Str×Value)):(Code.builtin "type.__call__" ⟨.ref C :: rest,kw⟩).cUnits≤4:=by
 have h:=uj C rest kw
 unfold Code.weight at h
 show 1 + 3 * (Code.builtin "type.__call__" ⟨.ref C :: rest,kw⟩).frames≤4
 omega
theorem Hx (C:Addr) (rest:List Value) (kw:List (Str×Value)):(Code.builtin "type.__call__" ⟨.ref C :: rest,kw⟩).envs=[]:=by kernel_rfl
theorem Lv.under {fn:Fn} {d:da} {A:Around} {n:Nat} {hd:Option Addr} (L:Lv fn d A (n + 1) hd) (C:Addr) (vs:List Value):Lv fn d (A.under (.builtin "type.__call__" ⟨.ref C :: vs,[]⟩)) n hd where
 frames:=by
  unfold Around.under
  dsimp only
  rw [Hx]; exact L.frames
 depth:=by
  have:=L.depth
  have:=uj C vs []
  show A.depth + _ + 4 * n + 10 < _
  clear L; omega
 units:=by
  have:=L.units
  have:=ET C vs []
  show A.units + _ + 16 * n + 100 < _
  clear L; omega
 handled:=L.handled
theorem Kf {C fI:Addr} {xs:List V} {Ψ:Addr→AH→Prop} (hm:iY c.K C fI=true)
  (h:∀ a dd,σ a=none→σ dd=none→a≠dd→SK c n hd (.ref fI) (.ref a :: xs) ((σ.upd dd (.ds [] [])).upd a (.inst C dd)) (fun r σ'=>r=.none∧Φ (.ref a) σ') Ψ):SC c (n + 1) hd (.ref C) xs σ Φ Ψ:=by
 intro fn d A ρ fz a7 R s vs O L S r
 obtain ⟨⟨m,led,frs,Z⟩,hr⟩:=S
 unfold iY at hm
 simp only [Bool.and_eq_true,beq_iff_eq] at hm
 refine call_cls Z.fr O.cx.kin Z.nw hm.1.1 hm.1.2 hm.2 fun x dx h' F' N' l1 l2=>?_
 have Z1:Seen c d ρ (σ.upd dx (.ds [] [])) fz a7 h' m ((dx,dictOf [] 0) :: led) frs:=Z.alloc F' (fun p hp=>N' p (.tail _ hp)) (fun p hp=>Nat.ne_of_lt (l1 p hp)) (.ds 0 List.nodup_nil .nil)
 have ne:∀ p∈(dx,dictOf [] 0) :: led,p.1≠x:=fun p hp=>by
  rcases List.mem_cons.mp hp with rfl | hp
  ·exact Nat.ne_of_lt l2
  ·exact Nat.ne_of_lt (Nat.lt_trans (l1 p hp) l2)
 have hdx:σ dx=none:=Z.cw fun p hp=>Nat.ne_of_lt (l1 p hp)
 have hx:σ x=none:=Z.cw fun p hp=>ne p (.tail _ hp)
 have Z2:=Z1.alloc F' N' ne (.inst C dx)
 have L':=L.under C vs
 refine codeAny_mono (h x dx hx hdx (Nat.ne_of_gt l2) fn d _ ρ fz a7 R { s with heap:=h' } (.ref x :: vs) O L' ⟨⟨_,_,_,Z2⟩,hr⟩ (.cons (.ref x) r)) fun r s' z=>?_
 cases r with
 | error e=>exact z
 | ok f=>cases f with
  | ret v=>
   obtain ⟨y,σ',fz',⟨rfl,hΦ⟩,rv,sub,S'⟩:=z
   obtain rfl:=rv.inv
   exact ⟨rfl,.ref x,σ',fz',hΦ,.ref x,sub,S'⟩
  | _=>exact z.elim
theorem H8 {C:Addr} {Ψ:Addr→AH→Prop} (hm:aR c.K C=true) (h:∀ a dd,σ a=none→σ dd=none→a≠dd→Φ (.ref a) ((σ.upd dd (.ds [] [])).upd a (.inst C dd))):SC c n hd (.ref C) [] σ Φ Ψ:=by
 intro fn d A ρ fz a7 R s vs O L S r
 obtain rfl:=r.jy
 obtain ⟨⟨m,led,frs,Z⟩,hr⟩:=S
 unfold aR at hm
 simp only [Bool.and_eq_true,beq_iff_eq] at hm
 refine call_cls0 Z.fr O.cx.kin Z.nw hm.1 hm.2 fun x dx h' F' N' l1 l2=>?_
 have Z1:Seen c d ρ (σ.upd dx (.ds [] [])) fz a7 h' m ((dx,dictOf [] 0) :: led) frs:=Z.alloc F' (fun p hp=>N' p (.tail _ hp)) (fun p hp=>Nat.ne_of_lt (l1 p hp)) (.ds 0 List.nodup_nil .nil)
 have ne:∀ p∈(dx,dictOf [] 0) :: led,p.1≠x:=fun p hp=>by
  rcases List.mem_cons.mp hp with rfl | hp
  ·exact Nat.ne_of_lt l2
  ·exact Nat.ne_of_lt (Nat.lt_trans (l1 p hp) l2)
 have hdx:σ dx=none:=Z.cw fun p hp=>Nat.ne_of_lt (l1 p hp)
 have hx:σ x=none:=Z.cw fun p hp=>ne p (.tail _ hp)
 exact ⟨.ref x,_,fz,h x dx hx hdx (Nat.ne_of_gt l2),.ref x,fun _ hp=>hp,⟨_,_,_,Z1.alloc F' N' ne (.inst C dx)⟩,hr⟩
theorem Mq {x dflt y:V} {ks:List Str} {xs:List V} {k:Str} {Ψ:Addr→AH→Prop} (I:Aw σ x ks xs) (hy:(k∉ks∧y=dflt)∨KV k y ks xs) (h:Φ y σ):SC c n hd (.builtin "dict.get") [x,.str k,dflt] σ Φ Ψ:=by
 intro fn d A ρ fz a7 R s vs O L S r
 replace r:=r.inv
 obtain ⟨v1,_,rfl,r1,r⟩:=r
 replace r:=r.inv
 obtain ⟨v2,_,rfl,r2,r⟩:=r
 replace r:=r.inv
 obtain ⟨v3,_,rfl,r3,r⟩:=r
 obtain rfl:=r.jy
 obtain ⟨⟨m,led,frs,Z⟩,hr⟩:=S
 obtain ⟨a,es,q,rfl,hg,rs,nd,lo⟩:=I.real O Z r1
 obtain ⟨t,rfl⟩:=r2.inv
 obtain ⟨kvs,p1,p2,p3,p4⟩:=rs.pairs
 have hD:s.heap.DictOf (strKind c.prog c.w) a kvs:=Heap.dictOf_iff.mpr ⟨_,hg,cg p1 p4 (p2 ▸ nd)⟩
 refine call_meetsIn PySem.F.slot_dict_get hD.typeIs PySem.F.entry_dict_get (PySem.F.args_dict_get_3 _ _ _) (meets_dict_get_default (strKind c.prog c.w) a (strKind_is _ _ _ _) lo v3) ⟨_,hD.mapOf,?_⟩
 have S':St c d ρ σ fz a7 R { s with toks:=s.toks + 1 }:=St.toks ⟨⟨_,_,_,Z⟩,hr⟩ _
 rcases hy with ⟨hn,rfl⟩ | kv
 ·rw [ki (by rw [p2]; exact hn)]
  exact S'.pv r3 h
 ·obtain ⟨w,hw,rw⟩:=kv.value nd p2 p3
  rw [hw]
  exact S'.pv rw h
theorem Dg {a:Addr} {y:V} {xs ys:List V} {Ψ:Addr→AH→Prop} (hs:σ a=some (.list xs)) (J:ec σ y ys) (hl:xs.length + ys.length≤100000) (h:Φ .none (σ.upd a (.list (xs ++ ys)))):SC c n hd (.builtin "list.extend") [.ref a,y] σ Φ Ψ:=by
 intro fn d A ρ fz a7 R s vs O L S r
 replace r:=r.inv
 obtain ⟨v1,_,rfl,r1,r⟩:=r
 replace r:=r.inv
 obtain ⟨v2,_,rfl,r2,r⟩:=r
 obtain rfl:=r.jy
 obtain rfl:=r1.inv
 obtain ⟨⟨m,led,frs,Z⟩,hr⟩:=S
 obtain ⟨b,ws,q,rfl,hb,rb⟩:=J.real O Z r2
 obtain ⟨us,k,pre,post,rfl,p1,p2,rs,hm⟩:=Z.eS hs
 have e1:=rs.len
 have e2:=rb.len
 have big:¬(!us.toArray.isEmpty && Builtin.List.listTooLong (us.toArray.size + ws.toArray.size))=true:=by
  have:Builtin.List.listTooLong (us.toArray.size + ws.toArray.size)=false:=by
   rw [List.size_toArray,List.size_toArray]
   unfold Builtin.List.listTooLong
   have:=sizeLine_eq
   first | exact decide_eq_false (by omega) | (simp; omega)
  rw [this,Bool.and_false]; exact Bool.false_ne_true
 by_cases e:ys=[]
 ·subst e
  obtain rfl:=rb.jy
  refine kxn_extend Z.fr Z.nw hb rfl (eV p1 p2) big (by simp [sizeLine_eq]; omega) (by simp [sizeLine_eq]; omega) fun h' F' N'=>?_
  have Z':=Z.put (o':=.list (xs ++ [])) (by rw [hs]; rfl) F' N' (by rw [List.append_nil]; exact .list _ rs)
  exact ⟨.none,_,fz,h,.none,fun _ hp=>hp,⟨_,_,_,Z'⟩,hr⟩
 ·have ne:ws.length≠0:=by
   rw [← e2]; exact fun z=>e (List.length_eq_zero_iff.mp z)
  refine kl_extend (l:=us ++ ws) Z.fr Z.nw hb rfl (by simpa using ne) (eV p1 p2) big (by simp [sizeLine_eq]; omega) (by simp [sizeLine_eq]; omega) fun h' F' N'=>?_
  have Z':=Z.put (o':=.list (xs ++ ys)) (by rw [hs]; rfl) F' N' (.list _ (rs.app rb))
  exact ⟨.none,_,fz,h,.none,fun _ hp=>hp,⟨_,_,_,Z'⟩,hr⟩
theorem bK.rev {xs:List V} {vs:List Value} (r:bK c fz xs vs):bK c fz xs.reverse vs.reverse:=by
 induction vs generalizing xs with
 | nil=>cases r; exact .nil
 | cons v vs ih=>cases r with | cons a rs=>rw [List.reverse_cons,List.reverse_cons]; exact (ih rs).app (.cons a .nil)
theorem A2 {a:Addr} {xs:List V} {Ψ:Addr→AH→Prop} (hs:σ a=some (.list xs)) (hl:xs.length≤100000) (h:Φ .none (σ.upd a (.list xs.reverse))):SC c n hd (.builtin "list.reverse") [.ref a] σ Φ Ψ:=by
 intro fn d A ρ fz a7 R s vs O L S r
 replace r:=r.inv
 obtain ⟨v1,_,rfl,r1,r⟩:=r
 obtain rfl:=r.jy
 obtain rfl:=r1.inv
 obtain ⟨⟨m,led,frs,Z⟩,hr⟩:=S
 obtain ⟨us,k,pre,post,rfl,p1,p2,rs,hm⟩:=Z.eS hs
 refine kl_reverse (l:=us.reverse) Z.fr Z.nw rfl (eV p1 p2) (by simp [sizeLine_eq]; have:=rs.len; omega) fun h' F' N'=>?_
 have Z':=Z.put (o':=.list xs.reverse) (by rw [hs]; rfl) F' N' (.list _ rs.rev)
 exact ⟨.none,_,fz,h,.none,fun _ hp=>hp,⟨_,_,_,Z'⟩,hr⟩
end
theorem sD:entryFor table "proto.unchain" = some Builtin.«proto.unchain»:=entryFor_of_tree (by kernel_rfl)
section
variable {prog:Program} {w:World} {A:Around} {E:Value→Shared→Prop} {s:Shared}
inductive RW (A:Around) (h:Heap):Prop
 | mk (a C dd:Addr) (ws:List Value) (e1:A.handled=some (.ref a)) (e2:h.get? a=some (ft C dd ws)) (e3:ws[2]?=some .none)
def Pr (A:Around) (h:Heap):Prop:=A.handled=none∨RW A h
theorem uI {e a C dd:Addr} {ws:List Value} {Q:Value→Shared→Prop} (ho:s.heap.get? a=some (ft C dd ws)) (h2:ws[2]?=some .none) (q:Q .none s):
  wpAny (model prog w) A (runValue (.builtin "proto.unchain" ⟨[.ref e,.ref a,.ref a,.bool false],[]⟩)) Q E s:=by
 refine wpAny_runValue (codeAny_builtin sD ?_)
 show wpAny _ _ (field (.ref a) 2 >>= _) _ _ _
 refine wpAny_bind (eF ho h2 ?_)
 rw [if_pos (by rfl)]
 unfold ret
 refine wpAny_pure ?_
 exact q
theorem next_end {it t:Addr} {i:Nat} {items} {Q:Option Value→Shared→Prop} (hh:Pr A s.heap)
  (hit:IsTupIter s.heap it t i) (ht:IsTup s.heap t items) (hx:items[i]?=none)
  (hQ:∀ h',Heap.ExtBut it s.heap h'→Q none { s with heap:=h' }):wpAny (model prog w) A (pyNext (.ref it)) Q E s:=by
 obtain ⟨o,ho,hc,hd⟩:=id hit
 obtain ⟨ol,hol,_,nl,hdl⟩:=ht
 unfold pyNext
 refine wpAny_bind (wpAny_attempt (wpAny_callSpecial?_slot (name:=Str.ofString "__next__") hit.typeIs slot_tupleiter_next
  (wpAny_call_entry slot_tupleiter_next hit.typeIs entry_tupleiter_next ?_ (args_tupleiter_next _))))
 show wpAny _ _ (field (.ref it) 0 >>= _) _ _ s
 refine wpAny_bind (wpAny_field ho hd (x:=.ref t) rfl ?_)
 show wpAny _ _ (if (Value.ref t == Value.none)=true then _ else _) _ _ s
 rw [if_neg (show ¬ ((Value.ref t == Value.none)=true) from Bool.false_ne_true)]
 show wpAny _ _ (field (.ref it) 1 >>= _) _ _ s
 refine wpAny_bind (wpAny_field ho hd (x:=.int i 0) rfl ?_)
 show wpAny _ _ (seqItems? (.ref t) >>= _) _ _ s
 refine wpAny_bind (wpAny_seqItems hol hdl ?_)
 simp only [Int.toNat_natCast,hx]
 refine wpAny_bind (wpAny_rule (wpAny_bind (wpAny_setField ho hd (by simp) ?_)))
 show wpAny _ _ (newExc (.type "StopIteration") [] >>= _) _ _ _
 refine wpAny_bind ?_
 simp only [newExc,newTuple]
 refine wpAny_bind (wpAny_newObj_type ?_ (by size_fits))
 refine wpAny_bind (m:=firstArgMember _ _) (wpAny_of_eq (a:=Value.none) (by first | rfl | (simp only [firstArgMember]; rfl)) ?_)
 refine wpAny_newObj_type ?_ (by size_fits)
 unfold raiseNew
 refine wpAny_bind (wpAny_handled ?_)
 rcases hh with hh | ⟨a,C,dd,ws,hh,ha,h2⟩
 ·first | rewrite [show A.in1.handled=none from hh] | rewrite [hh]
  refine wpAny_bind (wpAny_pure (wpAny_throw ?_))
  refine wpAny_bind (wpAny_isInstance (T := "StopIteration") (b:=true) ⟨_,Heap.get?_push_size _ rfl,rfl⟩ isSubtype_stop ?_)
  exact wpAny_pure (hQ _ (((Heap.SameBut.update ..).extBut.push _).push _))
 ·first | rewrite [show A.in1.handled=some (.ref a) from hh] | rewrite [hh]
  have ait:it≠a:=fun e=>by
   subst e
   rw [ho] at ha; cases ha
   cases hc
  have hlt:=Heap.lt_size ha
  have hk:∀ b o,b≠it→s.heap.get? b=some o→(s.heap.update it (Obj.mapFields fun x=>x.setIfInBounds 0 Value.none)).get? b=some o:=fun b o hb e=>(Heap.get?_update_other _ _ (Ne.symm hb)).trans e
  have hsz:s.heap.objs.size=(s.heap.update it (Obj.mapFields fun x=>x.setIfInBounds 0 Value.none)).objs.size:=(Heap.size_update ..).symm
  generalize (s.heap.update it (Obj.mapFields fun x=>x.setIfInBounds 0 Value.none))=H1 at *
  have ha1:=hk a _ (Ne.symm ait) ha
  generalize hob:({ cls:=.type "tuple", data:=.seq #[] }:Obj)=ob
  generalize hT:H1.push ob=T at *
  have hTs:T.objs.size=H1.objs.size + 1:=by rw [← hT]; exact Heap.size_push ..
  have haT:T.get? a=some (ft C dd ws):=by rw [← hT]; exact Heap.get?_push_of_some _ ha1
  generalize hxo:({ cls:=.type "StopIteration", data:=.fields (#[.ref H1.objs.size,.none,.none,.none,.bool false,.none] ++ ownMembersOf (.type "StopIteration") []) }:Obj)=xo
  have hxd:xo.data=.fields (#[.ref H1.objs.size,.none,.none,.none,.bool false,.none] ++ ownMembersOf (.type "StopIteration") []):=by rw [← hxo]
  have hxc:xo.cls=.type "StopIteration" := by rw [← hxo]
  have hxf:xo.isFreed=false:=by rw [← hxo]; rfl
  have hF:(T.push xo).get? T.objs.size=some xo:=Heap.get?_push_size _ hxf
  show wpAny _ _ (if (Value.ref a != Value.ref T.objs.size)=true then _ else _) _ _ _
  have haL:a < T.objs.size:=by rw [hTs,← hsz]; exact Nat.lt_succ_of_lt hlt
  rw [if_pos (bne_iff_ne.mpr fun e=>Nat.ne_of_lt haL (by injection e))]
  refine wpAny_bind (wpAny_holding (uI (Heap.get?_push_of_some _ haT) h2 ?_))
  show wpAny _ _ (setField (.ref T.objs.size) 2 (.ref a) >>= _) _ _ _
  refine wpAny_bind (wpAny_setField hF hxd (by rw [Array.size_append]; exact Nat.lt_of_lt_of_le (show 2 < 6 by decide) (Nat.le_add_right _ _)) (wpAny_throw ?_))
  have hu:=Heap.get?_update_self (Obj.mapFields (·.setIfInBounds 2 (Value.ref a))) hF (Obj.isFreed_of_fields (Obj.data_mapFields hxd _))
  refine wpAny_bind (wpAny_isInstance (T := "StopIteration") (b:=true) ⟨_,hu,?_⟩ isSubtype_stop ?_)
  ·show (Obj.mapFields _ xo).cls=_
   obtain ⟨c1,c2,c3,c4⟩:=xo
   cases c3 <;> exact hxc
  ·refine wpAny_pure (hQ _ fun b o hb e=>?_)
   have hlb:=Heap.lt_size e
   refine (Heap.get?_update_other _ _ (Nat.ne_of_gt (by rw [hTs,← hsz]; exact Nat.lt_succ_of_lt hlb))).trans (Heap.get?_push_of_some _ ?_)
   rw [← hT]; exact Heap.get?_push_of_some _ (hk b o hb e)
theorem sM {t:Addr} {items:Array Value} {Q:List Value→Shared→Prop} (hh:Pr A s.heap) (ht:IsTup s.heap t items)
  (hQ:∀ h',Heap.ExtBut s.heap.objs.size s.heap h'→Q items.toList { s with heap:=h' }):wpAny (model prog w) A (unpackItems (.ref t) items.size none) Q E s:=by
 have hlt:t≠s.heap.objs.size:=by obtain ⟨o,ho,_⟩:=ht; exact Nat.ne_of_lt (Heap.lt_size ho)
 unfold unpackItems
 refine wpAny_bind ?_
 ·unfold notIterableAtAll
  refine wpAny_bind (wpAny_specialOf ht.typeIs slot_tuple_iter.lookup ?_)
  refine wpAny_pure ?_
  simp only [Bool.false_eq_true,if_false]
  refine wpAny_bind (wpAny_holding (iter_tuple ht ?_))
  refine wpAny_bind (wpAny_holding (draw_tuple hlt items.size 0 _ _ ⟨_,Heap.get?_push_size _ rfl,rfl,rfl⟩ (ht.push _) (by omega) fun h₁ hit₁ hs₁=>?_))
  have hall:List.take items.size (List.drop 0 items.toList)=items.toList:=by
   rw [List.drop_zero]; exact List.take_of_length_le (by simp)
  rw [hall]
  rw [if_neg (by simp)]
  have ht₁:IsTup h₁ t items:=(ht.push _).extBut hs₁.extBut hlt
  have hh₁:Pr A h₁:=by
   refine hh.imp id fun q=>?_
   obtain ⟨a,C,dd,ws,e1,e2,e3⟩:=q
   refine ⟨a,C,dd,ws,e1,?_,e3⟩
   exact hs₁.extBut a _ (Nat.ne_of_lt (Heap.lt_size e2)) (Heap.get?_push_of_some _ e2)
  refine wpAny_bind (wpAny_holding (next_end hh₁ hit₁ ht₁ (by simp) fun h₂ he₂=>?_))
  simp only [Option.isSome_none,Bool.false_eq_true,if_false]
  refine wpAny_pure (hQ h₂ fun b o hb e=>he₂ b o hb (hs₁.extBut b o hb (Heap.get?_push_of_some _ e)))
end
def HD (hd:Option Addr) (σ:AH):Prop:=hd=none∨∃ e C dd,hd=some e∧σ e=some (.exc C dd)
def SG (c:Cx) (fn:Fn) (n:Nat) (hd:Option Addr) (ρ:Loc) (σ:AH) (ts:List Expr) (xs:List V) (Θ:AF→Loc→AH→Prop) (Ψ:Px):Prop:=
 ∀ d A fz a7 R s vs,Ok c fn d→Lv fn d A n hd→St c d ρ σ fz a7 R s→bK c fz xs vs→wpAny (model c.prog c.w) A (assignInOrder ((assignEach ts (fn.env d.L)).map (·.2)) vs) (fun _=>PF c d fz a7 R Θ .next) (PX c d fz a7 R Ψ) s
section
variable {c:Cx} {fn:Fn} {n:Nat} {hd:Option Addr} {ρ ρ':Loc} {σ:AH} {d:da} {A:Around} {fz a7:Led} {R:Rest} {s:Shared} {Φ:Pv} {Ψ:Px} {Θ:AF→Loc→AH→Prop} {h:Heap} {m:Str→Option Value} {led frs:Led}
theorem NO (h:Θ .next ρ σ):SG c fn n hd ρ σ [] [] Θ Ψ:=fun d A fz a7 R s vs O L S r=>by
 obtain rfl:=r.jy
 exact wpAny_pure ⟨.next,ρ,σ,fz,h,.next,fun _ hp=>hp,S⟩
theorem M3 {x:Str} {v:V} {pos:Pos} {ts:List Expr} {xs:List V} (P:sI x v ρ ρ') (h:SG c fn n hd ρ' σ ts xs Θ Ψ):SG c fn n hd ρ σ (.Name x pos :: ts) (v :: xs) Θ Ψ:=fun d A fz a7 R s vs O L S r=>by
 obtain ⟨u,us,rfl,r1,r2⟩:=r.inv
 show wpAny _ _ (do holding us (assign (.Name x pos) (fn.env d.L) u); assignInOrder ((assignEach ts (fn.env d.L)).map (·.2)) us) _ _ _
 refine wpAny_bind (wpAny_holding (assign_Name ?_))
 exact S.stored O r1 P fun s' S'=>h d A fz a7 R s' us O L S' r2
theorem Lw {o:Expr} {attr:Str} {v:V} {pos:Pos} {ts:List Expr} {xs:List V} (h:SE c fn n hd ρ σ o (fun x σ₁=>pL c x σ₁ attr v fun σ₂=>SG c fn n hd ρ σ₂ ts xs Θ Ψ) Ψ):SG c fn n hd ρ σ (.Attribute o attr pos :: ts) (v :: xs) Θ Ψ:=fun d A fz a7 R s vs O L S r=>by
 obtain ⟨u,us,rfl,r1,r2⟩:=r.inv
 show wpAny _ _ (do holding us (assign (.Attribute o attr pos) (fn.env d.L) u); assignInOrder ((assignEach ts (fn.env d.L)).map (·.2)) us) _ _ _
 refine wpAny_bind (wpAny_holding ?_)
 rw [assign_Attribute]
 refine wpAny_bind (wpAny_holding (aE (h d A fz a7 R s O L S) (fun _ _ k=>k) fun x ux σ₁ fz₁ s₁ g r₁ sub₁ S₁=>?_))
 refine wpAny_bind (wpAny_standAt (wpAny_bind (wpAny_holding (g.run O S₁ r₁ (r1.mono sub₁) fun σ' s' hk S'=>?_))))
 refine wpAny_release ?_
 exact wpAny_mono (hk d A fz₁ a7 R s' us O L S' (r2.mono sub₁)) (fun _ _ k=>k.weaken sub₁) fun _ _ k=>k.weaken sub₁
theorem Lv.wD {led frs:Led} {m:Str→Option Value} (L:Lv fn d A n hd) (H:HD hd σ) (Z:Seen c d ρ σ fz a7 h m led frs):Pr A h:=by
 rcases H with rfl | ⟨e,C,dd,rfl,hs⟩
 ·exact .inl L.handled
 ·obtain ⟨_,_,_,ro,hm,ho⟩:=Z.hp _ _ hs
  obtain ⟨ws,rfl,h2⟩:=ho.inv
  exact .inr ⟨e,C,dd,ws,L.handled,(Z.nw _ hm).1,h2⟩
theorem Ea {elts:List Expr} {k:Nat} {tpos pos:Pos} {value:Expr} (h:SE c fn n hd ρ σ value (fun v σ₁=>∃ xs,v=.tup xs∧xs.length=elts.length∧HD hd σ₁∧SG c fn n hd ρ σ₁ elts xs Θ Ψ) Ψ)
  (h1:∀ env,(assignEach elts env).length=elts.length) (h2:∀ env,(assignEach elts env).findIdx? (·.1)=none)
  (hs:∀ env,swapsWithSole [.Tuple elts k tpos] value pos.line env=pure false)
  (hw:∀ env,swappedStores [.Tuple elts k tpos] value env=pure none):SS c fn n hd ρ σ (.Assign [.Tuple elts k tpos] value pos) Θ Ψ:=
 fun d A fz a7 R s O L S=>Assign_Tuple (aE (h d A fz a7 R s O L S) (fun _ _ k=>k) fun v uv σ₁ fz₁ s₁ q r₁ sub₁ S₁=>by
  obtain ⟨xs,e,hl,H,hg⟩:=q
  subst e
  obtain ⟨a,vs,q,rfl,k',rs⟩:=r₁.inv
  obtain ⟨⟨m,led,frs,Z⟩,hr⟩:=S₁
  have hT:IsTup s₁.heap a vs.toArray:=⟨_,Z.known O.cx.kin k',rfl,_,rfl⟩
  rw [PyProof.Rows.assign_Tuple]
  refine wpAny_bind (wpAny_standAt ?_)
  unfold unpack
  rw [h1,h2,← hl,rs.len,← List.size_toArray]
  refine wpAny_bind (wpAny_holding (sM (L.wD H Z) hT fun h' he=>?_))
  have S':St c d ρ σ₁ fz₁ a7 R { s₁ with heap:=h',toks:=s₁.toks }:=St.up ⟨⟨m,led,frs,Z⟩,hr⟩ fun b o e=>he b o (Nat.ne_of_lt (Heap.lt_size e)) e
  exact wpAny_mono (hg d A fz₁ a7 R _ vs O L S' rs) (fun _ _ k=>k.weaken sub₁) fun _ _ k=>k.weaken sub₁) (hs _) (hw _)
theorem IY {pos:Pos} (h:∀ a,σ a=none→Φ (.ref a) (σ.upd a (.ds [] []))∨Φ (.ref a) (σ.upd a (.di [] []))):SE c fn n hd ρ σ (.Dict [] [] pos) Φ Ψ:=
 fun d A fz a7 R s O L S=>by
  obtain ⟨⟨m,led,frs,Z⟩,hr⟩:=S
  refine newDict_K Z.fr Z.nw O.cx.top.nolimit fun a h' o F' N' lt lo hS _ hI _=>?_
  have ne:∀ p∈led,p.1≠a:=fun p hp=>Nat.ne_of_lt (lt p hp)
  obtain ⟨es,k,rfl,w1,w2,w3⟩:=df hS
  cases w1
  rcases h a (Z.cw ne) with q | q
  ·exact ⟨.ref a,_,fz,q,.ref a,fun _ hp=>hp,⟨_,_,_,Z.alloc F' N' ne (.ds k List.nodup_nil .nil)⟩,hr⟩
  ·exact ⟨.ref a,_,fz,q,.ref a,fun _ hp=>hp,⟨_,_,_,Z.alloc F' N' ne (.di k List.nodup_nil .nil)⟩,hr⟩
inductive PD (c:Cx) (d:da) (ρ:Loc) (fz a7:Led) (R:Rest) (Φ:List Str→List V→AH→Prop) (kvs:List (Value×Value)) (s:Shared):Prop
 | mk (ks:List Str) (xs:List V) (σ:AH) (fz':Led):Φ ks xs σ→allStrKeys kvs=true→(strPairs kvs).map (·.1)=ks→bK c fz' xs ((strPairs kvs).map (·.2))→(∀ p∈fz,p∈fz')→St c d ρ σ fz' a7 R s→PD c d ρ fz a7 R Φ kvs s
def SD (c:Cx) (fn:Fn) (n:Nat) (hd:Option Addr) (ρ:Loc) (σ:AH) (ks:List (Option Expr)) (vs:List Expr) (Φ:List Str→List V→AH→Prop) (Ψ:Px):Prop:=
 ∀ d A fz a7 R s pos,Ok c fn d→Lv fn d A n hd→St c d ρ σ fz a7 R s→wpAny (model c.prog c.w) A (evalPairs (pairTrees ks vs (fn.env d.L) pos)) (PD c d ρ fz a7 R Φ) (PX c d fz a7 R Ψ) s
theorem Nr {Φ:List Str→List V→AH→Prop} (h:Φ [] [] σ):SD c fn n hd ρ σ [] [] Φ Ψ:=fun d A fz a7 R s pos O L S=>wpAny_pure ⟨[],[],σ,fz,h,rfl,rfl,.nil,fun _ hp=>hp,S⟩
theorem DZ {Φ:List Str→List V→AH→Prop} {x:Str} {k:Nat} {kp:Pos} {e:Expr} {ks:List (Option Expr)} {vs:List Expr} (h:SE c fn n hd ρ σ e (fun v σ₁=>SD c fn n hd ρ σ₁ ks vs (fun ks xs σ₂=>Φ (x :: ks) (v :: xs) σ₂) Ψ) Ψ):
  SD c fn n hd ρ σ (some (.Constant (.str x) k kp) :: ks) (e :: vs) Φ Ψ:=fun d A fz a7 R s pos O L S=>by
 show wpAny _ _ (do
  let kv ← eval (.Constant (.str x) k kp) (fn.env d.L)
  let vv ← holding [kv] (do let y ← eval e (fn.env d.L); standAt pos; pure y)
  return (kv,vv) :: (← holding [kv,vv] (evalPairs (pairTrees ks vs (fn.env d.L) pos)))) _ _ _
 refine wpAny_bind (wpAny_Constant_str ?_)
 refine wpAny_bind (wpAny_holding (wpAny_bind (aE (h d A fz a7 R _ O L (S.toks _)) (fun _ _ k=>k) fun v u σ₁ fz₁ s₁ h₁ r₁ sub₁ S₁=>wpAny_bind (wpAny_standAt (wpAny_pure ?_)))))
 refine wpAny_bind (wpAny_holding (wpAny_mono (h₁ d A fz₁ a7 R s₁ pos O L S₁) (fun kvs s₂ q=>?_) fun _ _ k=>k.weaken sub₁))
 obtain ⟨ks',xs,σ',fz',a,b1,b2,b3,sub,S'⟩:=q
 refine wpAny_pure ?_
 refine ⟨x :: ks',v :: xs,σ',fz',a,b1,by rw [← b2]; rfl,?_,fun p hp=>sub p (sub₁ p hp),S'⟩
 exact .cons (r₁.mono sub) b3
theorem LJ {keys:List (Option Expr)} {values:List Expr} {pos:Pos} (h:∀ a,σ a=none→SD c fn n hd ρ (σ.upd a (.ds [] [])) keys values (fun ks xs σ₂=>σ₂ a=some (.ds [] [])∧ks.Nodup∧Φ (.ref a) (σ₂.upd a (.ds ks xs))) Ψ)
  (h0:strLits keys=true) (h1:keys.all (·.isSome)=true) (h2:keys.length=values.length) (h3:keys≠[]) (h4:keys.length≤15):SE c fn n hd ρ σ (.Dict keys values pos) Φ Ψ:=
 fun d A fz a7 R s O L S=>by
  obtain ⟨⟨m,led,frs,Z⟩,hr⟩:=S
  refine kdn_str h0 Z.fr Z.nw O.cx.top.nolimit h1 h2 h3 h4 fun a h' o F' N' lt lo hS=>?_
  have ne:∀ p∈led,p.1≠a:=fun p hp=>Nat.ne_of_lt (lt p hp)
  obtain ⟨es,k,rfl,w1,w2,w3⟩:=df hS
  cases w1
  have S':St c d ρ (σ.upd a (.ds [] [])) fz a7 R { s with heap:=h' }:=⟨⟨_,_,_,Z.alloc F' N' ne (.ds k List.nodup_nil .nil)⟩,hr⟩
  refine wpAny_mono (h a (Z.cw ne) d A fz a7 R _ pos O L S') (fun kvs s₂ q=>?_) fun _ _ k=>k
  obtain ⟨ks,xs,σ₂,fz₂,⟨q1,q2,q3⟩,b1,b2,b3,sub,S₂⟩:=q
  obtain ⟨⟨m₂,led₂,frs₂,Z₂⟩,hr₂⟩:=S₂
  obtain ⟨_,_,_,ro,hm,ho⟩:=Z₂.hp _ _ q1
  obtain ⟨es',k',rfl,nd,rs⟩:=ho.inv
  cases rs
  obtain ⟨pre,post,rfl,p1,p2⟩:=bC Z₂.nd hm
  refine kdn_made_str Z₂.fr Z₂.nw (lL p1 p2) (cg .nil (fun e he=>nomatch he) List.nodup_nil) b1 (b2 ▸ q2) fun h'' o' F'' N'' D'=>?_
  obtain ⟨es',k',rfl,v1,v2,v3⟩:=df D'
  exact ⟨.ref a,_,fz₂,q3,.ref a,sub,⟨_,_,_,Z₂.put (by rw [q1]; rfl) F'' N'' (.ds _ q2 (DR.mw v1 b2 b3 v2))⟩,hr₂⟩
end
section
variable {c:Cx} {fn:Fn} {n:Nat} {hd:Option Addr} {ρ ρ':Loc} {σ:AH} {d:da} {A:Around} {fz a7:Led} {R:Rest} {s:Shared} {Φ:Pv} {Ψ:Px} {Θ:AF→Loc→AH→Prop} {h h':Heap} {m:Str→Option Value} {led frs:Led}
def Turn (Θ:AF→Loc→AH→Prop) (J:Loc→AH→Prop):AF→Loc→AH→Prop:=fun f ρ σ=>match f with
 | .next | .cont=>J ρ σ
 | .brk=>Θ .next ρ σ
 | .ret v=>Θ (.ret v) ρ σ
theorem vI {e:Value} {fz₁:Led} {Q:Value→Shared→Prop} (O:Ok c fn d) (L:Lv fn d A n hd) (sub:∀ p∈fz,p∈fz₁) (X:PX c d fz₁ a7 R Ψ e s):
  notedBy (model c.prog c.w) A (fn.env d.L) (fun e s'=>cameBackBy (model c.prog c.w) A (fn.env d.L) (PX c d fz a7 R Ψ) e s') e s:=Ov O L.frames (X.weaken sub)
inductive WI (c:Cx) (d:da) (fz a7:Led) (R:Rest) (I:Nat→Loc→AH→Prop) (k:Nat) (s:Shared):Prop
 | mk (ρ:Loc) (σ:AH) (fz':Led):I k ρ σ→(∀ p∈fz,p∈fz')→St c d ρ σ fz' a7 R s→WI c d fz a7 R I k s
theorem IS {test:Expr} {body:List Stmt} {pos:Pos} (I:Nat→Loc→AH→Prop) (k:Nat) (h0:I k ρ σ)
  (turn:∀ k ρ σ,I k ρ σ→ST c fn n hd ρ σ test (fun b σ₁=>if b then SB c fn n hd ρ σ₁ body (Turn Θ fun ρ₂ σ₂=>∃ m,m < k∧I m ρ₂ σ₂) Ψ else Θ .next ρ σ₁) Ψ):SS c fn n hd ρ σ (.While test body [] pos) Θ Ψ:=
 fun d A fz a7 R s O L S=>by
  refine wpAny_While (codeAny_whileLoop (WI c d fz a7 R I) ?_ k ⟨ρ,σ,fz,h0,fun _ hp=>hp,S⟩)
  clear h0 S
  intro k s q
  obtain ⟨ρ,σ,fz₁,hI,sub,S⟩:=q
  refine wpAny_mono (turn k ρ σ hI d A fz₁ a7 R s O L S) (fun b s₁ q=>?_) fun e s₁ X=>vI (Q:=fun _ _=>True) O L sub X
  obtain ⟨σ₁,fz₂,a,sub₁,S₁⟩:=q
  have sub₂:∀ p∈fz,p∈fz₂:=fun p hp=>sub₁ p (sub p hp)
  cases b with
  | false=>exact wpAny_execs_nil ⟨.next,ρ,σ₁,fz₂,a,.next,sub₂,S₁⟩
  | true=>
   refine wpAny_mono ((show SB c fn n hd ρ σ₁ body (Turn Θ fun ρ₂ σ₂=>∃ m,m < k∧I m ρ₂ σ₂) Ψ from a) d A fz₂ a7 R s₁ O L S₁) (fun f s₂ q=>?_) fun e s₁ X=>vI (Q:=fun _ _=>True) O L sub₂ X
   obtain ⟨x,ρ₂,σ₂,fz₃,q,rel,sub₃,S₂⟩:=q
   have s3:∀ p∈fz,p∈fz₃:=fun p hp=>sub₃ p (sub₂ p hp)
   have nx:(∃ m,m < k∧I m ρ₂ σ₂)→∃ m,m < k∧WI c d fz a7 R I m s₂:=fun ⟨m,hm,h⟩=>⟨m,hm,ρ₂,σ₂,fz₃,h,s3,S₂⟩
   cases rel with
   | next=>exact nx q
   | cont=>exact nx q
   | brk=>exact ⟨.next,ρ₂,σ₂,fz₃,q,.next,s3,S₂⟩
   | ret r=>exact ⟨.ret _,ρ₂,σ₂,fz₃,q,.ret r,s3,S₂⟩
theorem Seen.LK {it:Addr} {o:Obj} (S:Seen c d ρ σ fz a7 h m led frs) (F:Fr c.H0 d.L h' m) (N:News c.H0 d.L h' ((it,o) :: led)) (hf:∀ p∈led,p.1≠it):Seen c d ρ σ fz ((it,o) :: a7) h' m ((it,o) :: led) frs:=by
 refine ⟨F,N,?_,fun p hp=>.tail _ (S.fzin p hp),fun p hp=>?_,fun p hp=>.tail _ (S.frin p hp),S.frup,S.frnd,S.apart,fun p hp q hq=>?_,fun b o' hb=>?_,S.keys,S.lc,fun p hp q hq=>?_⟩
 ·rw [List.map_cons,List.nodup_cons]
  exact ⟨fun q=>by obtain ⟨p,hp,e⟩:=List.mem_map.mp q; exact hf p hp e,S.nd⟩
 ·rcases List.mem_cons.mp hp with rfl | hp
  ·exact .head _
  ·exact .tail _ (S.itin p hp)
 ·rcases List.mem_cons.mp hp with rfl | hp
  ·exact fun e=>hf q (S.frin q hq) e.symm
  ·exact S.apart' p hp q hq
 ·obtain ⟨g1,g2,g5,rb,g3,g4⟩:=S.hp b o' hb
  refine ⟨g1,fun p hp=>?_,g5,rb,.tail _ g3,g4⟩
  rcases List.mem_cons.mp hp with rfl | hp
  ·exact fun e=>hf _ g3 e.symm
  ·exact g2 p hp
 ·rcases List.mem_cons.mp hq with rfl | hq
  ·exact hf p (S.fzin p hp)
  ·exact S.apfi p hp q hq
theorem Seen.Jc {it:Addr} {o o':Obj} (S:Seen c d ρ σ fz ((it,o) :: a7) h m led frs) (hits:∀ p∈a7,p.1≠it) (hs:Heap.SameBut it h h') (ho:h'.get? it=some o') (hL:it≠d.L):∃ led',Seen c d ρ σ fz ((it,o') :: a7) h' m led' frs:=by
 have hm:=S.itin _ (.head _)
 obtain ⟨pre,post,rfl,p1,p2⟩:=bC S.nd hm
 have swap:∀ p:Addr×Obj,p.1≠it→p∈pre ++ (it,o) :: post→p∈pre ++ (it,o') :: post:=fun p hp hm=>by
  rcases List.mem_append.mp hm with q | q
  ·exact List.mem_append_left _ q
  ·rcases List.mem_cons.mp q with rfl | q
   ·exact absurd rfl hp
   ·exact List.mem_append_right _ (.tail _ q)
 have hn:=S.nw _ hm
 refine ⟨pre ++ (it,o') :: post,S.fr.change hs hn.2.1 hn.2.2,S.nw.setIn p1 p2 hs ho,?_,fun p hp=>swap p (S.apfi p hp _ (.head _)) (S.fzin p hp),fun p hp=>?_,fun p hp=>swap p (fun e=>S.apart' _ (.head _) p hp e.symm) (S.frin p hp),S.frup,S.frnd,S.apart,fun p hp q hq=>?_,fun b o₂ hb=>?_,S.keys,S.lc,fun p hp q hq=>?_⟩
 ·have:=S.nd
  simpa only [List.map_append,List.map_cons] using this
 ·rcases List.mem_cons.mp hp with rfl | hp
  ·exact List.mem_append_right _ (.head _)
  ·exact swap p (hits p hp) (S.itin p (.tail _ hp))
 ·rcases List.mem_cons.mp hp with rfl | hp
  ·exact (show it≠q.1 from S.apart' (it,o) (.head _) q hq)
  ·exact S.apart' p (.tail _ hp) q hq
 ·obtain ⟨g1,g2,g5,rb,g3,g4⟩:=S.hp b o₂ hb
  refine ⟨g1,fun p hp=>?_,g5,rb,swap _ (fun e=>g2 _ (.head _) e.symm) g3,g4⟩
  rcases List.mem_cons.mp hp with rfl | hp
  ·exact (show it≠b from g2 (it,o) (.head _))
  ·exact g2 p (.tail _ hp)
 ·rcases List.mem_cons.mp hq with rfl | hq
  ·exact (show p.1≠it from S.apfi p hp (it,o) (.head _))
  ·exact S.apfi p hp q (.tail _ hq)
theorem Seen.Ls {it:Addr} {o:Obj} (S:Seen c d ρ σ fz ((it,o) :: a7) h m led frs) (hits:∀ p∈a7,p.1≠it) (hs:Heap.ExtBut it h h') (hL:it≠d.L):∃ led',Seen c d ρ σ fz a7 h' m led' frs:=by
 have hm:=S.itin _ (.head _)
 have hn:=S.nw _ hm
 have ne:∀ p∈led,p.1≠it→p∈led.filter (fun p=>p.1 != it):=fun p hp h=>List.mem_filter.mpr ⟨hp,by simpa using h⟩
 have F':Fr c.H0 d.L h' m:=by
  refine ⟨?_,fun b o e=>hs b o (fun z=>by have:=hn.2.2; rw [← z,e] at this; cases this) (S.fr.keep b o e),S.fr.above⟩
  obtain ⟨oL,es,ep,hL',r⟩:=S.fr.ns
  exact ⟨oL,es,ep,hs _ _ (Ne.symm hL) hL',r⟩
 refine ⟨led.filter (fun p=>p.1 != it),F',fun p hp=>?_,S.nd.sublist (List.Sublist.map _ List.filter_sublist),fun p hp=>ne p (S.fzin p hp) (S.apfi p hp _ (.head _)),fun p hp=>ne p (S.itin p (.tail _ hp)) (hits p hp),fun p hp=>ne p (S.frin p hp) (fun e=>S.apart' _ (.head _) p hp e.symm),S.frup,S.frnd,S.apart,fun p hp q hq=>S.apart' p (.tail _ hp) q hq,fun b o₂ hb=>?_,S.keys,S.lc,fun p hp q hq=>S.apfi p hp q (.tail _ hq)⟩
 ·obtain ⟨h1,h2⟩:=List.mem_filter.mp hp
  exact ⟨hs _ _ (by simpa using h2) (S.nw p h1).1,(S.nw p h1).2⟩
 ·obtain ⟨g1,g2,g5,rb,g3,g4⟩:=S.hp b o₂ hb
  exact ⟨g1,fun p hp=>g2 p (.tail _ hp),g5,rb,ne _ g3 (fun e=>g2 _ (.head _) e.symm),g4⟩
end
def dM (i j k:Int):List V:=(List.range (Builtin.Range.rangeSize i j k).toNat).map fun n:Nat=>.int (i + k * n)
inductive ph (σ:AH):V→List V→Prop
 | list {x:V} {xs:List V}:ec σ x xs→ph σ x xs
 | tup {xs:List V}:ph σ (.tup xs) xs
 | rng {i j k:Int}:Builtin.Range.small i j k=true→ph σ (.rng i j k) (dM i j k)
 | aH {ks:List Str} {xs:List V}:ph σ (.aH ks xs) (ks.map .str)
inductive F9 (nm:String) (v:Value) (k:Nat) (o:Obj):Prop
 | mk (l:Addr) (e:v=.ref l) (h1:o.cls=.type nm) (h2:o.data=.fields #[.ref l,.int k 0])
inductive Lz (c:Cx) (fz:Led) (ks:List Str) (v:Value) (k:Nat) (o:Obj):Prop
 | mk (l:Addr) (ep:Nat) (es:List DictEntry) (e:v=.ref l) (kn:Kn c fz l (dictOf es ep)) (h1:o.cls=.type "dict_keyiterator") (h2:o.data=.fields #[.ref l,.int k 0,.int ks.length 0,.int ep 0])
def zu (c:Cx) (fz:Led) (x:V) (v:Value) (k:Nat) (o:Obj):Prop:=match x with
 | .tup _=>F9 "tuple_iterator" v k o
 | .rng i j q=>o={ cls:=.type "range_iterator", dict:=none,data:=.fields #[rawInt (i + q * k),rawInt (Builtin.Range.rangeSize i j q - k),rawInt q],slots:=#[] }
 | .aH ks _=>Lz c fz ks v k o
 | _=>F9 "list_iterator" v k o
theorem zu.mono {c:Cx} {fz fz':Led} (h:∀ p∈fz,p∈fz') {x:V} {v:Value} {k:Nat} {o:Obj} (w:zu c fz x v k o):zu c fz' x v k o:=by
 cases x with
 | aH ks xs=>
  obtain ⟨l,ep,es,e,kn,h1,h2⟩:=w
  exact ⟨l,ep,es,e,kn.mono h,h1,h2⟩
 | _=>exact w
theorem zu.list {c:Cx} {fz:Led} {σ:AH} {x:V} {xs:List V} (L:ec σ x xs) (v:Value) (k:Nat) (o:Obj):zu c fz x v k o=F9 "list_iterator" v k o:=by
 cases L <;> rfl
section
variable {c:Cx} {fn:Fn} {n:Nat} {hd:Option Addr} {ρ ρ':Loc} {σ:AH} {d:da} {A:Around} {fz a7:Led} {R:Rest} {s:Shared} {Φ:Pv} {Ψ:Px} {Θ:AF→Loc→AH→Prop} {h h':Heap} {m:Str→Option Value} {led frs:Led}
structure NT (c:Cx) (d:da) (ρ:Loc) (σ:AH) (fz a7:Led) (R:Rest) (x:V) (v:Value) (it:Addr) (k:Nat) (s:Shared):Prop where
 st:∃ o,zu c fz x v k o∧St c d ρ σ fz ((it,o) :: a7) R s
 off:∀ p∈a7,p.1≠it
 notL:it≠d.L
theorem Dd {h:Heap} {a:Addr} {es:List DictEntry} {k:Nat} {kvs:List (Str×Value)} (hg:h.get? a=some (dictOf es k)) (p:Pairs (strKind c.prog c.w) es kvs)
  (hh:∀ e∈es,∃ k,(strKind c.prog c.w).is k e.key=true∧e.hash=(strKind c.prog c.w).hash k) (nd:(kvs.map (·.1)).Nodup):h.DictAt (strKind c.prog c.w) a kvs k:=
 ⟨_,es.toArray,hg,⟨rfl,rfl,rfl⟩,rfl,fun e he=>hh e (by simpa using he),p,nd⟩
theorem zp {es es':List DictEntry} {k k':Nat} (h:dictOf es k=dictOf es' k'):es=es'∧k=k':=by
 unfold dictOf at h
 injection h with _ _ h _
 injection h with h1 h2
 exact ⟨congrArg Array.toList h1,h2⟩
theorem Seen.gq {p:Addr×Obj} (S:Seen c d ρ σ fz (p :: a7) h m led frs):Seen c d ρ σ fz a7 h m led frs:=
 ⟨S.fr,S.nw,S.nd,S.fzin,fun q hq=>S.itin q (.tail _ hq),S.frin,S.frup,S.frnd,S.apart,fun q hq=>S.apart' q (.tail _ hq),fun a o q=>by obtain ⟨g1,g2,g3,ro,g4,g5⟩:=S.hp a o q; exact ⟨g1,fun r hr=>g2 r (.tail _ hr),g3,ro,g4,g5⟩,S.keys,S.lc,fun q hq r hr=>S.apfi q hq r (.tail _ hr)⟩
theorem St.gq {p:Addr×Obj} (S:St c d ρ σ fz (p :: a7) R s):St c d ρ σ fz a7 R s:=by
 obtain ⟨⟨m,led,frs,Z⟩,hr⟩:=S
 exact ⟨⟨m,led,frs,Z.gq⟩,hr⟩
theorem PX.gq {p:Addr×Obj} {e:Value} (X:PX c d fz (p :: a7) R Ψ e s):PX c d fz a7 R Ψ e s:=
 by obtain ⟨ρ,a,σ,fz',h1,h2,h3,⟨⟨m,led,frs,C,dd,ws,Z,h4,h5,h6⟩,hr⟩⟩:=X; exact ⟨ρ,a,σ,fz',h1,h2,h3,⟨⟨m,led,frs,C,dd,ws,Z.gq,h4,h5,h6⟩,hr⟩⟩
def NQ (c:Cx) (fz:Led) (y:V) (it:Addr) (W:Obj→Prop) (Q:Option Value→Shared→Prop) (s:Shared):Prop:=
 ∀ u h' o' tk,VR c fz y u→Heap.SameBut it s.heap h'→h'.get? it=some o'→W o'→Q (some u) { s with heap:=h',toks:=tk }
def PK (it:Addr) (Q:Option Value→Shared→Prop) (s:Shared):Prop:=∀ h',Heap.ExtBut it s.heap h'→Q none { s with heap:=h' }
section
variable {x:V} {xs:List V} {v:Value} {it:Addr} {k:Nat} {y:V} {o:Obj} {QV:Value→Shared→Prop} {Q:Option Value→Shared→Prop} {E:Value→Shared→Prop} {i j q:Int} {ks:List Str}
theorem BU (L:ec σ x xs) (O:Ok c fn d) (Z:Seen c d ρ σ fz a7 s.heap m led frs) (r:VR c fz x v) (hg:s.heap.get? it=some o) (w:F9 "list_iterator" v k o) (hy:xs[k]?=some y) (q:NQ c fz y it (F9 "list_iterator" v (k + 1)) Q s):wpAny (model c.prog c.w) A (pyNext (.ref it)) Q E s:=by
 obtain ⟨a,vs,n,rfl,hm,rs⟩:=L.real O Z r
 obtain ⟨u,hu,ru⟩:=rs.nth hy
 obtain ⟨l,e,e1,e2⟩:=w
 cases e
 exact wpAny_pyNext_list_item ⟨o,hg,e1,e2⟩ (Z.isList hm) (by simpa using hu) fun h' ⟨o',g1,g2,g3⟩ hs=>q u h' o' s.toks ru hs g1 ⟨_,rfl,g2,g3⟩
theorem FR (L:ec σ x xs) (O:Ok c fn d) (Z:Seen c d ρ σ fz a7 s.heap m led frs) (r:VR c fz x v) (hh:A.handled=none) (hg:s.heap.get? it=some o) (w:F9 "list_iterator" v xs.length o) (q:PK it Q s):wpAny (model c.prog c.w) A (pyNext (.ref it)) Q E s:=by
 obtain ⟨a,vs,n,rfl,hm,rs⟩:=L.real O Z r
 obtain ⟨l,e,e1,e2⟩:=w
 cases e
 exact wpAny_pyNext_list_end hh ⟨o,hg,e1,e2⟩ (Z.isList hm) (by simp [rs.len]) q
theorem Ao (L:ec σ x xs) (O:Ok c fn d) (Z:Seen c d ρ σ fz a7 s.heap m led frs) (r:VR c fz x v) (q:∀ o:Obj,o.isFreed=false→F9 "list_iterator" v 0 o→QV (.ref s.heap.objs.size) { s with heap:=s.heap.push o }):wpAny (model c.prog c.w) A (pyIter v) QV E s:=by
 obtain ⟨a,vs,n,rfl,hm,rs⟩:=L.real O Z r
 exact wpAny_pyIter_list (Z.isList hm) (q _ rfl ⟨_,rfl,rfl,rfl⟩)
theorem qR (O:Ok c fn d) (Z:Seen c d ρ σ fz a7 s.heap m led frs) (r:VR c fz (.tup xs) v):∃ a vs,(v=.ref a∧bK c fz xs vs)∧IsTup s.heap a vs.toArray:=by
 obtain ⟨a,vs,n,rfl,k',rs⟩:=r.inv
 exact ⟨a,vs,⟨rfl,rs⟩,_,Z.known O.cx.kin k',rfl,_,rfl⟩
theorem DK (O:Ok c fn d) (Z:Seen c d ρ σ fz a7 s.heap m led frs) (r:VR c fz (.tup xs) v) (hg:s.heap.get? it=some o) (w:F9 "tuple_iterator" v k o) (hy:xs[k]?=some y) (q:NQ c fz y it (F9 "tuple_iterator" v (k + 1)) Q s):wpAny (model c.prog c.w) A (pyNext (.ref it)) Q E s:=by
 obtain ⟨a,vs,⟨rfl,rs⟩,hT⟩:=qR O Z r
 obtain ⟨u,hu,ru⟩:=rs.nth hy
 obtain ⟨l,e,e1,e2⟩:=w
 cases e
 exact next_tuple_item ⟨o,hg,e1,e2⟩ hT (by simpa using hu) fun h' ⟨o',g1,g2,g3⟩ hs=>q u h' o' s.toks ru hs g1 ⟨_,rfl,g2,g3⟩
theorem IX (O:Ok c fn d) (Z:Seen c d ρ σ fz a7 s.heap m led frs) (r:VR c fz (.tup xs) v) (hh:A.handled=none) (hg:s.heap.get? it=some o) (w:F9 "tuple_iterator" v xs.length o) (q:PK it Q s):wpAny (model c.prog c.w) A (pyNext (.ref it)) Q E s:=by
 obtain ⟨a,vs,⟨rfl,rs⟩,hT⟩:=qR O Z r
 obtain ⟨l,e,e1,e2⟩:=w
 cases e
 exact next_tuple_end hh ⟨o,hg,e1,e2⟩ hT (by simp [rs.len]) q
theorem CN (O:Ok c fn d) (Z:Seen c d ρ σ fz a7 s.heap m led frs) (r:VR c fz (.tup xs) v) (q:∀ o:Obj,o.isFreed=false→F9 "tuple_iterator" v 0 o→QV (.ref s.heap.objs.size) { s with heap:=s.heap.push o }):wpAny (model c.prog c.w) A (pyIter v) QV E s:=by
 obtain ⟨a,vs,⟨rfl,rs⟩,hT⟩:=qR O Z r
 exact iter_tuple hT (q _ rfl ⟨_,rfl,rfl,rfl⟩)
theorem FV (hg:s.heap.get? it=some o) (w:zu c fz (.rng i j q) v k o) (hy:(dM i j q)[k]?=some y) (K:NQ c fz y it (zu c fz (.rng i j q) v (k + 1)) Q s):wpAny (model c.prog c.w) A (pyNext (.ref it)) Q E s:=by
 unfold dM at hy
 rw [List.getElem?_map] at hy
 obtain ⟨n0,hn0,rfl⟩:=Option.map_eq_some_iff.mp hy
 obtain ⟨hlt,e0⟩:=List.getElem?_eq_some_iff.mp hn0
 rw [List.getElem_range] at e0
 subst e0
 rw [List.length_range] at hlt
 cases w
 refine wpAny_pyNext_range_item hg (by omega) fun h' g hs=>K _ _ _ _ (.int _ _) hs g ?_
 have e1:i + q * (k:Int) + q=i + q * ((k + 1:Nat):Int):=by rw [Int.natCast_add,Int.mul_add,Int.add_assoc]; show _=i + (q * k + q * 1); rw [Int.mul_one]
 have e2:Builtin.Range.rangeSize i j q - (k:Int) - 1=Builtin.Range.rangeSize i j q - ((k + 1:Nat):Int):=by omega
 rw [e1,e2]; rfl
theorem qQ (O:Ok c fn d) (Z:Seen c d ρ σ fz a7 s.heap m led frs) (r:VR c fz (.aH ks xs) v):∃ (a:Addr) (es:List DictEntry) (n:Nat) (kvs:List (Str×Value)),(v=.ref a∧Kn c fz a (dictOf es n))∧(s.heap.get? a=some (dictOf es n)∧kvs.map (·.1)=ks)∧s.heap.DictAt (strKind c.prog c.w) a kvs n:=by
 obtain ⟨a,es,nn,rfl,nd,k',rs⟩:=r.inv
 obtain ⟨kvs,p1,p2,p3,p4⟩:=rs.pairs
 have hgd:=Z.known O.cx.kin k'
 exact ⟨a,es,nn,kvs,⟨rfl,k'⟩,⟨hgd,p2⟩,Dd hgd p1 p4 (p2 ▸ nd)⟩
theorem Lz.at {a:Addr} {es:List DictEntry} {n:Nat} (w:Lz c fz ks (.ref a) k o) (O:Ok c fn d) (Z:Seen c d ρ σ fz a7 s.heap m led frs) (hg:s.heap.get? a=some (dictOf es n)):o.cls=.type "dict_keyiterator" ∧ o.data=.fields #[.ref a,.int k 0,.int ks.length 0,.int n 0]:=by
 obtain ⟨l,ep,es2,e,kn,h1,h2⟩:=w
 cases e
 obtain ⟨_,rfl⟩:=zp (Option.some.inj (hg.symm.trans (Z.known O.cx.kin kn)))
 exact ⟨h1,h2⟩
theorem DN (O:Ok c fn d) (Z:Seen c d ρ σ fz a7 s.heap m led frs) (r:VR c fz (.aH ks xs) v) (hg:s.heap.get? it=some o) (w:Lz c fz ks v k o) (hy:(ks.map V.str)[k]?=some y) (q:NQ c fz y it (Lz c fz ks v (k + 1)) Q s):wpAny (model c.prog c.w) A (pyNext (.ref it)) Q E s:=by
 obtain ⟨a,es,n,kvs,⟨rfl,k'⟩,⟨hgd,p2⟩,hD⟩:=qQ O Z r
 obtain ⟨e1,e2⟩:=w.at O Z hgd
 subst p2
 rw [List.map_map,List.getElem?_map] at hy
 obtain ⟨kv,hk2,rfl⟩:=Option.map_eq_some_iff.mp hy
 rw [List.length_map] at e2
 refine wpAny_pyNext_dict_item ⟨o,hg,e1,e2⟩ hD hk2 fun kk h' hk ⟨o',g1,g2,g3⟩ hs=>?_
 obtain ⟨t,rfl⟩:=Value.isStrOf_shape hk
 exact q _ _ _ _ (.str _ t) hs g1 ⟨_,_,_,rfl,k',g2,by rw [List.length_map]; exact g3⟩
theorem IZ (O:Ok c fn d) (Z:Seen c d ρ σ fz a7 s.heap m led frs) (r:VR c fz (.aH ks xs) v) (hh:A.handled=none) (hg:s.heap.get? it=some o) (w:Lz c fz ks v ks.length o) (q:PK it Q s):wpAny (model c.prog c.w) A (pyNext (.ref it)) Q E s:=by
 obtain ⟨a,es,n,kvs,⟨rfl,k'⟩,⟨hgd,p2⟩,hD⟩:=qQ O Z r
 obtain ⟨e1,e2⟩:=w.at O Z hgd
 subst p2
 rw [List.length_map] at e2
 exact wpAny_pyNext_dict_end hh ⟨o,hg,e1,e2⟩ hD (List.getElem?_eq_none (Nat.le_refl _)) q
theorem Dl (O:Ok c fn d) (Z:Seen c d ρ σ fz a7 s.heap m led frs) (r:VR c fz (.aH ks xs) v) (q:∀ o:Obj,o.isFreed=false→Lz c fz ks v 0 o→QV (.ref s.heap.objs.size) { s with heap:=s.heap.push o }):wpAny (model c.prog c.w) A (pyIter v) QV E s:=by
 obtain ⟨_,es',_,e0,_,_,_,lo⟩:=(Aw.aH (σ:=σ)).real O Z r
 obtain ⟨a,es,n,kvs,⟨rfl,k'⟩,⟨hgd,p2⟩,hD⟩:=qQ O Z r
 cases e0
 subst p2
 exact wpAny_pyIter_dict lo hD (q _ rfl ⟨_,_,_,rfl,k',rfl,by rw [List.length_map]; rfl⟩)
end
theorem Az {x:V} {xs:List V} {v:Value} {Q:Value→Shared→Prop} {E:Value→Shared→Prop} (I:ph σ x xs) (O:Ok c fn d) (S:St c d ρ σ fz a7 R s) (r:VR c fz x v)
  (h:∀ it s',NT c d ρ σ fz a7 R x v it 0 s'→Q (.ref it) s'):wpAny (model c.prog c.w) A (pyIter v) Q E s:=by
 obtain ⟨⟨m,led,frs,Z⟩,hr⟩:=S
 have fin:∀ o:Obj,o.isFreed=false→zu c fz x v 0 o→Q (.ref s.heap.objs.size) { s with heap:=s.heap.push o }:=fun o hf w=>by
  have F':=Z.fr.push o
  have hat:(s.heap.push o).get? s.heap.objs.size=some o:=Heap.get?_push_size _ hf
  have N':News c.H0 d.L (s.heap.push o) ((s.heap.objs.size,o) :: led):=news_pushed Z.fr Z.nw (fun b x e=>Heap.get?_push_of_some _ e) hat rfl
  exact h _ _ ⟨⟨o,w,⟨_,_,_,Z.LK F' N' Z.dU⟩,hr⟩,fun p hp=>Z.dU p (Z.itin p hp),Nat.ne_of_gt Z.fr.ns.lt⟩
 clear h
 cases I with
 | list L=>exact Ao L O Z r fun o hf w=>fin o hf (zu.list L .. ▸ w)
 | tup=>exact CN O Z r fin
 | rng hs=>
  obtain ⟨_,_,_,_,rfl,k'⟩:=r.inv
  exact wpAny_pyIter_range (Z.known O.cx.kin k') hs (fin _ rfl (by unfold zu; simp))
 | aH=>exact Dl O Z r fin
theorem D0 {x:V} {xs:List V} {v:Value} {it:Addr} {k:Nat} {y:V} {Q:Option Value→Shared→Prop} {E:Value→Shared→Prop} (I:ph σ x xs) (O:Ok c fn d) (T:NT c d ρ σ fz a7 R x v it k s) (r:VR c fz x v) (hy:xs[k]?=some y)
  (h:∀ u s',VR c fz y u→NT c d ρ σ fz a7 R x v it (k + 1) s'→Q (some u) s'):wpAny (model c.prog c.w) A (pyNext (.ref it)) Q E s:=by
 obtain ⟨⟨o,w,⟨⟨m,led,frs,Z⟩,hr⟩⟩,off,notL⟩:=T
 have hg:=(Z.nw _ (Z.itin _ (.head _))).1
 have fin:NQ c fz y it (zu c fz x v (k + 1)) Q s:=fun u h' o' tk ru hs ho w'=>by
  obtain ⟨led',Z'⟩:=Z.Jc off hs ho notL
  exact h u _ ru ⟨⟨o',w',⟨_,_,_,Z'⟩,hr⟩,off,notL⟩
 clear h off notL hr
 cases I with
 | list L=>exact BU L O Z r hg (zu.list L .. ▸ w) hy fun u h' o' tk ru hs ho w'=>fin u h' o' tk ru hs ho (zu.list L .. ▸ w')
 | tup=>exact DK O Z r hg w hy fin
 | rng hs=>exact FV hg w hy fin
 | aH=>exact DN O Z r hg w hy fin
theorem DE {x:V} {xs:List V} {v:Value} {it:Addr} {Q:Option Value→Shared→Prop} {E:Value→Shared→Prop} (I:ph σ x xs) (O:Ok c fn d) (L:Lv fn d A n none) (T:NT c d ρ σ fz a7 R x v it xs.length s) (r:VR c fz x v)
  (h:∀ s',St c d ρ σ fz a7 R s'→Q none s'):wpAny (model c.prog c.w) A (pyNext (.ref it)) Q E s:=by
 obtain ⟨⟨o,w,⟨⟨m,led,frs,Z⟩,hr⟩⟩,off,notL⟩:=T
 have hh:A.handled=none:=L.handled
 have hg:=(Z.nw _ (Z.itin _ (.head _))).1
 have fin:PK it Q s:=fun h' hs=>by
  obtain ⟨led',Z'⟩:=Z.Ls off hs notL
  exact h _ ⟨⟨_,_,_,Z'⟩,hr⟩
 clear h off notL hr
 cases I with
 | list L=>exact FR L O Z r hh hg (zu.list L .. ▸ w) fin
 | tup=>exact IX O Z r hh hg w fin
 | @rng i j q hs=>
  cases w
  refine wpAny_pyNext_range_end hh hg ?_ fin
  unfold dM
  rw [List.length_map,List.length_range]
  omega
 | @aH ks xs=>
  rw [List.length_map] at w
  exact IZ O Z r hh hg w fin
inductive FI (c:Cx) (d:da) (fz a7:Led) (R:Rest) (v:V) (u:Value) (it:Addr) (n:Nat) (I:Nat→Loc→AH→Prop):Nat→Shared→Prop
 | mk {k j:Nat} {ρ:Loc} {σ:AH} {fz':Led} {s:Shared}:k + j=n→I j ρ σ→(∀ p∈fz,p∈fz')→NT c d ρ σ fz' a7 R v u it j s→FI c d fz a7 R v u it n I k s
theorem NC {x:Str} {px pos:Pos} {iter:Expr} {body:List Stmt}
  (h:SE c fn n none ρ σ iter (fun v σ₁=>∃ (xs:List V) (I:Nat→Loc→AH→Prop),(∀ k ρ σ,I k ρ σ→ph σ v xs)∧I 0 ρ σ₁∧
   (∀ k y ρ σ,xs[k]?=some y→I k ρ σ→∃ ρ',sI x y ρ ρ'∧SB c fn n none ρ' σ body (Turn Θ (I (k + 1))) Ψ)∧(∀ ρ σ,I xs.length ρ σ→Θ .next ρ σ)) Ψ)
  (hs:∀ env x,foldedSetIterable iter env x=pure x) (hl:∀ it v,letOwnedTupleGo (.Name x px) it v=pure ()):SS c fn n none ρ σ (.For (.Name x px) iter body [] pos) Θ Ψ:=
 fun d A fz a7 R s O L S=>wpAny_For (aE (h d A fz a7 R s O L S) (fun _ _ k=>k) fun v u σ₁ fz₁ s₁ q r₁ sub₁ S₁=>by
  obtain ⟨xs,I,hsrc,h0,turn,done⟩:=q
  refine Az (hsrc 0 _ _ h0) O S₁ r₁ fun it s₂ T=>codeAny_forLoop (FI c d fz₁ a7 R v u it xs.length I) ?_ xs.length (.mk rfl h0 (fun _ hp=>hp) T) (hl _)
  clear h0 T hl
  intro k s q
  cases q with | @mk j ρ σ fz₂ _ hk hI sub₂ T=>
  have sub:∀ p∈fz,p∈fz₂:=fun p hp=>sub₂ p (sub₁ p hp)
  cases k with
  | succ m=>
   have hj:j < xs.length:=by rw [← hk]; exact Nat.lt_add_of_pos_left (Nat.succ_pos m)
   refine D0 (hsrc j _ _ hI) O T (r₁.mono sub₂) (List.getElem?_eq_getElem hj) fun w s₃ rw T'=>?_
   obtain ⟨ρ',P,hb⟩:=turn j _ ρ σ (List.getElem?_eq_getElem hj) hI
   obtain ⟨⟨o,wi,S₃⟩,off,notL⟩:=T'
   refine wpAny_assign_Name (S₃.stored O rw P fun s₄ S₄=>wpAny_mono (hb d A fz₂ ((it,o) :: a7) R s₄ O L S₄) (fun f s₅ q=>?_) fun e s₅ X=>vI (Q:=fun _ _=>True) O L sub X.gq)
   obtain ⟨x',ρ₂,σ₂,fz₃,q,rel,sub₃,S₅⟩:=q
   have nx:I (j + 1) ρ₂ σ₂→∃ m',m' < m + 1∧FI c d fz₁ a7 R v u it xs.length I m' s₅:=fun q=>⟨m,Nat.lt_succ_self m,.mk ((Nat.add_right_comm m j 1).trans (hk ▸ by rw [Nat.add_right_comm])) q (fun p hp=>sub₃ p (sub₂ p hp)) ⟨⟨o,wi.mono sub₃,S₅⟩,off,notL⟩⟩
   have s3:∀ p∈fz,p∈fz₃:=fun p hp=>sub₃ p (sub p hp)
   cases rel with
   | next=>exact nx q
   | cont=>exact nx q
   | brk=>exact ⟨.next,ρ₂,σ₂,fz₃,q,.next,s3,S₅.gq⟩
   | ret r=>exact ⟨.ret _,ρ₂,σ₂,fz₃,q,.ret r,s3,S₅.gq⟩
  | zero=>
   rw [Nat.zero_add] at hk
   subst hk
   exact DE (hsrc _ _ _ hI) O L T (r₁.mono sub₂) fun s₃ S₃=>wpAny_execs_nil ⟨.next,ρ,σ,fz₂,done _ _ hI,.next,sub,S₃⟩) (hs _)
end
inductive IL (C:Addr) (bm:List Value):Obj→Prop
 | mk (nm q:Str) (N:Addr) (bs:List Value) (hdct:Bool) (sn:List Str) (sub:List Value) (ab:Bool) (col:Option Bool) (dd:Option Addr) (k0 k1 k2 k3 k5:Option Value):IL C bm (excClassObj nm q C N bs bm hdct sn sub ab col dd k0 k1 k2 k3 k5 "Exception.__new__")
inductive xZ (K:Frag) (C fI:Addr):Prop
 | mk (o:Obj) (bm:List Value) (hx:IL C bm o) (hC:K.lookup C=some o) (hB:(Value.ref C :: bm).contains (.type "Exception")=true) (hB2:(Value.ref C :: bm).contains (.type "BaseException")=true) (hA:(Value.ref C :: bm).contains (.type "AttributeError")=false) (hN:(Value.ref C :: bm).contains (.type "NameError")=false)
   (hi:findIn K (.ref C) "__init__" = some (some (.ref fI))) (hf:typeIn K (.ref fI)=some (.type "function"))
section
variable {prog:Program} {w:World} {A:Around} {E:Value→Shared→Prop} {K:Frag} {C N:Addr} {h:Heap} {g:Array GenState} {d:Drawn} {t:Nat} {os:OsState} {R:Result→Shared→Prop}
variable {oc:Obj} {bm:List Value}
theorem Ck {rest:List Value} {Q:Unit→Shared→Prop} (hx:IL C bm oc) (hC:h.get? C=some oc) (hB:(Value.ref C :: bm).contains (.type "Exception")=true)
  (hq:Q () ⟨h,g,d,t,os⟩):wpAny (model prog w) A (checkBuiltinCall "Exception.__new__" ⟨.ref C :: rest,[]⟩) Q E ⟨h,g,d,t,os⟩:=by
 cases hx
 exact wpAny_check_new_subU (bmB:=bm) PySem.F.excBase_Exception (show bm.contains (.type "Exception")=true from hB) .base hC hq
abbrev gS (C t:Addr):Obj:=yI C t
theorem J3 {rest:List Value} (hx:IL C bm oc) (hC:h.get? C=some oc) (hB:(Value.ref C :: bm).contains (.type "Exception")=true)
  (hA:(Value.ref C :: bm).contains (.type "AttributeError")=false) (hN:(Value.ref C :: bm).contains (.type "NameError")=false)
  (hq:R (.ok (.ret (.ref (h.objs.size + 1)))) ⟨(h.push { cls:=.type "tuple", data:=.seq rest.toArray }).push (gS C h.objs.size),g,d,t,os⟩) (hrest:rest.length≤sizeLine):
  codeAny (model prog w) A (.builtin "Exception.__new__" ⟨.ref C :: rest,[]⟩) R ⟨h,g,d,t,os⟩:=by
 cases hx
 have F:=PySem.F.excBase_Exception
 have hends:=F.ends
 refine codeAny_builtinAt F.entry ?_
 unfold Builtin.«BaseException.__new__»
 refine PySem.wpAt_bind ?_
 show PySem.wpAt _ _ _ (stack >>= _) _ _ _
 refine PySem.wpAt_bind (PySem.wpAt_stack fun p below=>PySem.wpAt_of_wpAny ?_)
 wp_walk
 refine PySem.wpAt_of_wpAny ?_
 rw [F.owner]
 repeat (first | with_reducible refine wpAny_madeHere_exc F.canon hC ?_ | with_reducible refine wpAny_loadPart_at hC ?_ | (with_reducible refine wpAny_isSubtype_exc hC ?_; first | rewrite [hB] | rewrite [hA] | rewrite [hN]) | wp_step)
 show R _ _
 rw [Heap.size_push]
 exact hq
theorem sV {rest:List Value} {fI:Addr} {Q:PySem.Fin→Shared→Prop} (X:K.In h) (hx:IL C bm oc) (hC:h.get? C=some oc) (hB:(Value.ref C :: bm).contains (.type "Exception")=true)
  (hA:(Value.ref C :: bm).contains (.type "AttributeError")=false) (hN:(Value.ref C :: bm).contains (.type "NameError")=false) (hi:findIn K (.ref C) "__init__" = some (some (.ref fI))) (hf:typeIn K (.ref fI)=some (.type "function"))
  (hq:wpAny (model prog w) A (call (.ref fI) (.ref (h.objs.size + 1) :: rest)) (fun r s'=>r=.none∧Q (.done (.ret (.ref (h.objs.size + 1)))) s') E ⟨(h.push { cls:=.type "tuple", data:=.seq rest.toArray }).push (gS C h.objs.size),g,d,t,os⟩) (hrest:rest.length≤sizeLine):
  wpAny (model prog w) A (Builtin.«type.__call__» ⟨.ref C :: rest,[]⟩) Q E ⟨h,g,d,t,os⟩:=by
 have hx0:=hx
 cases hx
 have F:=PySem.F.excBase_Exception
 repeat (first | with_reducible refine wpAny_loadPart_at hC ?_ | with_reducible refine wpAny_madeBy_exc hC ?_ | wp_step)
 refine codeAny_call_builtin_code (Code.quiet_builtin _ F.quiet) (Ck hx0 hC hB ?_)
 refine J3 hx0 hC hB hA hN ?_ hrest
 show wpAny _ _ _ _ _ _
 have up:∀ b o,h.get? b=some o→((h.push { cls:=.type "tuple", data:=.seq rest.toArray }).push (gS C h.objs.size)).get? b=some o:=fun b o e=>Heap.get?_push_of_some _ (Heap.get?_push_of_some _ e)
 have hC₁:=up _ _ hC
 have X₁:=X.keeps up
 have hget:((h.push { cls:=.type "tuple", data:=.seq rest.toArray }).push (gS C h.objs.size)).get? (h.objs.size + 1)=some (gS C h.objs.size):=by heap_get
 have hcC:(Value.ref C :: bm).contains (.ref C)=true:=by simp
 unfold isInstance
 repeat (first | with_reducible refine wpAny_loadPart_at hget ?_ | (with_reducible refine wpAny_isSubtype_exc hC₁ ?_; rw [hcC]) | wp_step)
 show wpAny _ _ (typeLookup (.ref C) _) _ _ _
 refine (looks_findIn (M:=model prog w) X₁ hi).here ?_
 refine wpAny_holding (wpAny_bind ?_)
 refine (bind_fn (M:=model prog w) X₁ _ hf).here ?_
 refine wpAny_bind (wpAny_mono hq (fun r s' hr=>?_) fun _ _ x=>x)
 obtain ⟨rfl,hQ⟩:=hr
 wp_walk
 exact hQ
theorem FC {rest:List Value} {fI:Addr} {Q:Value→Shared→Prop} (X:K.In h) (hx:IL C bm oc) (hC:h.get? C=some oc) (hB:(Value.ref C :: bm).contains (.type "Exception")=true)
  (hA:(Value.ref C :: bm).contains (.type "AttributeError")=false) (hN:(Value.ref C :: bm).contains (.type "NameError")=false) (hi:findIn K (.ref C) "__init__" = some (some (.ref fI))) (hf:typeIn K (.ref fI)=some (.type "function"))
  (hq:wpAny (model prog w) (A.under (.builtin "type.__call__" ⟨.ref C :: rest,[]⟩)) (call (.ref fI) (.ref (h.objs.size + 1) :: rest)) (fun r s'=>r=.none∧Q (.ref (h.objs.size + 1)) s') E ⟨(h.push { cls:=.type "tuple", data:=.seq rest.toArray }).push (gS C h.objs.size),g,d,t,os⟩) (hrest:rest.length≤sizeLine):
  wpAny (model prog w) A (call (.ref C) rest) Q E ⟨h,g,d,t,os⟩:=by
 have hx0:=hx
 cases hx
 have f1:=tc_lookup
 have f2:=PySem.tc_bind (.ref C)
 have hT:(⟨h,g,d,t,os⟩:Shared).TypeIs (.ref C) "type" := ⟨_,hC,rfl⟩
 refine wpAny_call (codeAny_of_tree ?_)
 show wpAny _ _ (callAny (.ref C) _) _ _ _
 repeat (any_goals (first | assumption | with_reducible refine wpAny_loadPart_at hC ?_ | wp_step))
 refine ⟨rfl,?_⟩
 exact codeAny_call_builtin_at (Code.quiet_builtin _ (by decide +kernel)) entry_typeCall (wpAny_check_type_call_sub hC (sV X hx0 hC hB hA hN hi hf hq hrest))
end
inductive EM:List Value→Prop
 | e:EM [.type "Exception", .type "BaseException", .type "object"]
 | c {a:Addr} {r:List Value}:EM r→EM (.ref a :: r)
theorem A0 (self:Value) {l:List Value} (e:EM l):refuseLoop self "__setattr__" l=pure ():=by
 induction e with
 | e=>exact PySem.F.store_Exception.passes self
 | c _ h=>exact (refuseLoop_ref ..).trans h
theorem BC {l:List Value} (e:EM l):l.isEmpty=false∧l.contains (.type "object")=true:=by
 induction e with
 | e=>exact ⟨rfl,by decide⟩
 | c _ h=>exact ⟨rfl,by rw [List.contains_cons,h.2,Bool.or_true]⟩
inductive fw (K:Frag) (C:Addr) (name:Str):Prop
 | mk (cd:ClassData) (hc:clsIn K C=some cd) (hm:EM cd.mro) (hd:cd.hasDict=true) (hs:findIn K (.ref C) "__setattr__" = some (some (.builtin "object.__setattr__"))) (ht:takerIn K C name=some none)
section
variable {prog:Program} {w:World} {A:Around} {E:Value→Shared→Prop} {K:Frag} {C x:Addr} {s:Shared} {R:Result→Shared→Prop} {cd:ClassData}
theorem xQ {ox:Obj} {od:Option Obj} {name:Str} {tk:Tok} {v:Value} {r:Option Value} (X:K.In s.heap) (I:InstAt s.heap x ox C od) (hc:clsIn K C=some cd) (ho:EM cd.mro) (ht:takerIn K C name=some r)
  (h:∀ b,wpAny (model prog w) A.in1 (match r with | some a=>Builtin.ObjectAttr.setByDescriptor a (.ref x) v | none=>Builtin.ObjectAttr.storeInOwnDict (.ref x) (.ref C) (.str name tk) name v b)
   (fun fin s'=>match fin with | .done f=>R (.ok f) s' | .again c'=>c'.quiet=true∧codeAny (model prog w) A c' R s') (fun e s'=>R (.error e) s') s):
  codeAny (model prog w) A (.call (.builtin "object.__setattr__") ⟨[.ref x,.str name tk,v],[]⟩) R s:=by
 have SF:=PySem.F.store_object
 have sub:Looks (model prog w) s.heap (isInstance (.ref x) (.type "object")) true:=I.type.andThen (looks_mroIn X (by unfold mroIn; rw [hc,Option.bind_some,if_neg (by rw [(BC ho).1]; decide),(BC ho).2]))
 refine codeAny_call_builtin SF.slot.plain SF.entry (@check_slot (model prog w) _ _ s "object.__setattr__" "object" "__setattr__" (.ref x) [.str name tk,v] [] _ SF.kind SF.split sub (SF.args (.ref x) (.str name tk) v) ?_)
 obtain ⟨attr,ha,hr⟩:=Option.bind_eq_some_iff.mp ht
 have hm:Looks (model prog w) s.heap (mroOf (.ref C)) cd.mro:=(looks_clsIn X hc).andThen .now
 have L3:Looks (model prog w) s.heap (Builtin.ObjectAttr.storeTaker? attr) r:=by
  cases attr with
  | none=>cases hr; exact .now
  | some a=>
   obtain ⟨b,hb,rfl⟩:=Option.map_eq_some_iff.mp hr
   refine (looks_takesIn X hb).andThen ?_
   cases b <;> exact .now
 rw [osa_eq,refuse_eq]
 refine wpAny_bind (wpAny_bind (I.type.here (wpAny_bind (hm.here ?_))))
 rw [A0 _ ho]
 exact wpAny_pure (wpAny_bind (I.type.here (wpAny_bind ((looks_findIn X ha).here (wpAny_bind (L3.here (h _)))))))
theorem yX {dx:Addr} {es es':List DictEntry} {n n':Nat} {name:Str} {tk:Tok} {v:Value} {Q:PySem.Fin→Shared→Prop} (D:s.heap.get? dx=some (dictOf es n)) (hl:(getL name es).isSome=true)
  (e:(putL name (PyData.keyHash w.params name) (.str name s.toks) v es,putN name es n)=(es',n')) (hz:es'.length≤1000)
  (h:Q (.done (.ret .none)) { s with heap:=s.heap.update dx (Obj.putName name (PyData.keyHash w.params name) (.str name s.toks) v),toks:=s.toks + 1 }):
  wpAny (model prog w) A (Builtin.ObjectAttr.storeInDict dx (.str name tk) name v) Q E s:=by
 obtain ⟨e1,e2⟩:=Prod.mk.inj e
 have D':(s.heap.update dx (Obj.putName name (PyData.keyHash w.params name) (.str name s.toks) v)).get? dx=some (dictOf es' n'):=by
  have hp:Obj.putName name (PyData.keyHash w.params name) (.str name s.toks) v (dictOf es n)=dictOf es' n':=by rw [putName_dict,e1,e2]
  rw [Heap.get?_update_self _ D (by rw [hp]; rfl),hp]
 refine wpAny_bind (wpAny_pure (wpAny_bind ?_))
 unfold nsSet
 refine wpAny_bind (wpAny_bind (wpAny_askSetting (wpAny_pure (wpAny_bind (wpAny_mkText (wpAny_bind (wpAny_loadPart D ?_)))))))
 have c:(!es.toArray.any (·.key.isStr name) && es.toArray.any (·.refKey))=false:=by
  rw [← Array.any_toList,← Array.any_toList]
  unfold getL at hl
  split at hl
  ·rename_i en he
   rw [List.any_eq_true.mpr ⟨en,List.mem_of_find?_eq_some he,List.find?_some he⟩]; rfl
  ·split at hl
   ·cases hl
   ·rename_i z; rw [Bool.not_eq_true] at z; rw [z,Bool.and_false]
 dsimp only
 rw [aRefKeyMayBeTheName_at,c]
 refine wpAny_updatePart D ?_
 refine wpAny_bind (wpAny_lookBehind D' (pastItsLine_dict (by rw [List.size_toArray,sizeLine_eq]; omega)) ?_)
 exact wpAny_pure h
end
section
variable {c:Cx} {fn:Fn} {n:Nat} {hd:Option Addr} {ρ ρ':Loc} {σ:AH} {d:da} {A:Around} {fz a7:Led} {R:Rest} {s:Shared} {Φ:Pv} {Ψ:Px} {Θ:AF→Loc→AH→Prop} {h h':Heap} {m:Str→Option Value} {led frs:Led}
theorem Ot {a C:Addr} {name:Str} {v:V} {u:Value} {Q:Unit→Shared→Prop} {E:Value→Shared→Prop} (hs:σ a=some (.exc0 C)) (hx:fw c.K C name) (O:Ok c fn d) (S:St c d ρ σ fz a7 R s) (r:VR c fz v u)
  (h:∀ dd s',σ dd=none→dd≠a→St c d ρ ((σ.upd dd (.ds [name] [v])).upd a (.excn C dd)) fz a7 R s'→Q () s'):wpAny (model c.prog c.w) A (setAttr (.ref a) name u) Q E s:=by
 obtain ⟨⟨m,led,frs,Z⟩,hr⟩:=S
 obtain ⟨cd,hc,hem,hdd',hset,htk⟩:=hx
 obtain ⟨f1,f2,f3,ro,hm,ho⟩:=Z.hp _ _ hs
 obtain ⟨t,rfl⟩:=ho.inv
 have X:=O.cx.kin.keeps Z.fr.keep
 have hat:=(Z.nw _ hm).1
 have I:InstAt s.heap a (yI C t) C none:=⟨hat,rfl,rfl,trivial⟩
 refine set_plain X I hset (xQ (s:={ s with toks:=s.toks + 1 }) X I hc hem htk fun b=>?_)
 refine wpAny_bind (wpAny_pure (wpAny_bind (wpAny_bind (wpAny_loadPart hat (wpAny_bind (looks_clsIn (M:=model c.prog c.w) X hc _ _ _ _ (fun _ _ e=>e) ?_))))))
 rw [hdd']
 have hdd:s.heap.objs.size≠a:=Z.dU _ hm |>.symm
 have hσd:σ s.heap.objs.size=none:=Z.cw Z.dU
 have F1:=Z.fr.push (dictOf [] 0)
 have N1:News c.H0 d.L (s.heap.push (dictOf [] 0)) ((s.heap.objs.size,dictOf [] 0) :: led):=news_pushed Z.fr Z.nw (fun b x e=>Heap.get?_push_of_some _ e) (Heap.get?_push_size _ rfl) rfl
 have Z1:=Z.alloc F1 N1 Z.dU (o:=.ds [] []) (.ds 0 List.nodup_nil .nil)
 have hm1:(a,yI C t)∈(s.heap.objs.size,dictOf [] 0) :: led:=.tail _ hm
 obtain ⟨pre,post,hled,p1,p2⟩:=bC Z1.nd hm1
 have Z1':=Z1
 rw [hled] at Z1'
 have U:=news_upd (f:=fun o=>{ o with dict:=some s.heap.objs.size }) Z1'.fr Z1'.nw p1 p2 (rfl:_=ft C s.heap.objs.size [.ref t,.none,.none,.none,.bool false,.none]) rfl
 have hsa:(σ.upd s.heap.objs.size (.ds [] [])) a=some (.exc0 C):=by rw [AH.a8 _ _ (Ne.symm hdd)]; exact hs
 have Z2:=Z1'.put (o':=.excn C s.heap.objs.size) (by rw [hsa]; rfl) U.1 U.2 (.excn C _ _)
 refine wpAny_bind (wpAny_alloc (wpAny_bind (wpAny_update (Z1.nw _ hm1).1 (wpAny_pure ?_))))
 have hsd:((σ.upd s.heap.objs.size (.ds [] [])).upd a (.excn C s.heap.objs.size)) s.heap.objs.size=some (.ds [] []):=by rw [AH.a8 _ _ hdd,AH.a9]
 obtain ⟨_,_,_,ro2,hm2,ho2⟩:=Z2.hp _ _ hsd
 obtain ⟨es,k,rfl,nd,rs⟩:=ho2.inv
 cases rs
 obtain ⟨a1,a2,a3⟩:=DR.add (c:=c) (fz:=fz) .nil (x:=name) (t':=s.toks + 1) (n:=k) List.not_mem_nil r
 refine yX (Z2.nw _ hm2).1 rfl rfl (by rw [a3]; decide) ?_
 obtain ⟨pre',post',hled',p1',p2'⟩:=bC Z2.nd hm2
 have Z2':=Z2
 rw [hled'] at Z2'
 have U':=news_upd (f:=Obj.putName name (PyData.keyHash c.w.params name) (.str name (s.toks + 1)) u) Z2'.fr Z2'.nw p1' p2' (putName_dict ..) rfl
 have Z3:=Z2'.put (o':=.ds ([] ++ [name]) ([] ++ [v])) (by rw [hsd]; rfl) U'.1 U'.2 (.ds _ (by simp) a1)
 have e:((σ.upd s.heap.objs.size (.ds [] [])).upd a (.excn C s.heap.objs.size)).upd s.heap.objs.size (.ds ([] ++ [name]) ([] ++ [v]))=(σ.upd s.heap.objs.size (.ds [name] [v])).upd a (.excn C s.heap.objs.size):=by
  rw [AH.aF _ _ _ (Ne.symm hdd),AH.aU]; rfl
 rw [e] at Z3
 exact h _ _ hσd hdd ⟨⟨_,_,_,Z3⟩,hr⟩
theorem QP {a C dd:Addr} {name:Str} {v:V} {u:Value} {ks ks':List Str} {vs vs':List V} {Q:Unit→Shared→Prop} {E:Value→Shared→Prop} (hs:σ a=some (.excn C dd)) (hs2:σ dd=some (.ds ks vs)) (hlen:ks.length≤900) (hput:p5 name v ks vs ks' vs')
  (hx:fw c.K C name) (O:Ok c fn d) (S:St c d ρ σ fz a7 R s) (r:VR c fz v u)
  (h:∀ s',St c d ρ (σ.upd dd (.ds ks' vs')) fz a7 R s'→Q () s'):wpAny (model c.prog c.w) A (setAttr (.ref a) name u) Q E s:=by
 obtain ⟨⟨m,led,frs,Z⟩,hr⟩:=S
 obtain ⟨cd,hc,hem,hdd',hset,htk⟩:=hx
 obtain ⟨f1,f2,f3,ro,hm,ho⟩:=Z.hp _ _ hs
 obtain ⟨_,_,_,ro2,hm2,ho2⟩:=Z.hp _ _ hs2
 obtain ⟨t,rfl⟩:=ho.inv
 obtain ⟨es,k,rfl,nd,rs⟩:=ho2.inv
 have X:=O.cx.kin.keeps Z.fr.keep
 have hat:=(Z.nw _ hm).1
 have hdt:=(Z.nw _ hm2).1
 have I:InstAt s.heap a (ft C dd [.ref t,.none,.none,.none,.bool false,.none]) C (some (dictOf es k)):=⟨hat,rfl,rfl,hdt⟩
 obtain ⟨pre,post,hled,p1,p2⟩:=bC Z.nd hm2
 have Z':=Z
 rw [hled] at Z'
 have U:=news_upd (f:=Obj.putName name (PyData.keyHash c.w.params name) (.str name (s.toks + 1)) u) Z'.fr Z'.nw p1 p2 (putName_dict ..) rfl
 have key:DR c fz ks' vs' (putL name (PyData.keyHash c.w.params name) (.str name (s.toks + 1)) u es)∧ks'.Nodup∧(getL name es).isSome=true∧(putL name (PyData.keyHash c.w.params name) (.str name (s.toks + 1)) u es).length≤1000:=by
  have hlen2:=rs.len
  cases hput with
  | old kp=>
   obtain ⟨y,kv⟩:=kp.kv
   obtain ⟨u',hu',_⟩:=rs.get nd kv
   obtain ⟨a1,a2,a3⟩:=rs.put (hsh:=PyData.keyHash c.w.params name) (key:=.str name (s.toks + 1)) (n:=k) nd kp r
   exact ⟨a1,nd,by rw [hu']; rfl,by rw [a3]; omega⟩
  | new hn=>
   obtain ⟨a1,a2,a3⟩:=rs.add (t':=s.toks + 1) (n:=k) hn r
   refine ⟨a1,?_,by rw [rs.none hn]; rfl,by rw [a3]; omega⟩
   rw [List.nodup_append]
   exact ⟨nd,by simp,fun p hp q hq=>by rw [List.mem_singleton.mp hq]; exact fun e=>hn (e ▸ hp)⟩
 refine set_plain X I hset (xQ (s:={ s with toks:=s.toks + 1 }) X I hc hem htk fun b=>?_)
 refine wpAny_bind (wpAny_pure (wpAny_bind (wpAny_bind (wpAny_loadPart hat (wpAny_bind (looks_clsIn (M:=model c.prog c.w) X hc _ _ _ _ (fun _ _ e=>e) ?_))))))
 rw [hdd']
 refine wpAny_pure (a:=some dd) (yX hdt key.2.2.1 rfl key.2.2.2 ?_)
 exact h _ ⟨⟨_,_,_,Z'.put (by rw [hs2]; rfl) U.1 U.2 (.ds _ key.2.1 key.1)⟩,hr⟩
inductive SM (a C:Addr) (attr:Str) (v:V) (σ:AH) (k:AH→Prop):Prop
 | mk (dd:Addr) (ks:List Str) (vs:List V) (ks':List Str) (vs':List V) (e1:σ a=some (.excn C dd)) (e2:σ dd=some (.ds ks vs)) (e3:ks.length≤900) (e4:p5 attr v ks vs ks' vs') (q:k (σ.upd dd (.ds ks' vs')))
theorem Eo {o value:Expr} {attr:Str} {p' pos:Pos} (h:SE c fn n hd ρ σ value (fun v σ₁=>SE c fn n hd ρ σ₁ o (fun x σ₂=>∃ a C,x=.ref a∧fw c.K C attr∧
   ((σ₂ a=some (.exc0 C)∧∀ dd,σ₂ dd=none→dd≠a→Θ .next ρ ((σ₂.upd dd (.ds [attr] [v])).upd a (.excn C dd))) ∨
    SM a C attr v σ₂ (Θ .next ρ))) Ψ) Ψ)
  (hs:∀ env,swapsWith value (some (.Attribute o attr p')) pos.line env=pure false):SS c fn n hd ρ σ (.Assign [.Attribute o attr p'] value pos) Θ Ψ:=
 fun d A fz a7 R s O L S=>plainObj_wpAny_Assign_Attribute (aE (h d A fz a7 R s O L S) (fun _ _ k=>k) fun v uv σ₁ fz₁ s₁ h₁ r₁ sub₁ S₁=>aE (h₁ d A fz₁ a7 R s₁ O L S₁) (fun _ _ k=>k.weaken sub₁) fun x ux σ₂ fz₂ s₂ q r₂ sub₂ S₂=>by
  obtain ⟨a,C,e,hx,h₂⟩:=q
  subst e
  obtain rfl:=r₂.inv
  have r1:=r₁.mono sub₂
  have sub:∀ p∈fz,p∈fz₂:=fun p hp=>sub₂ p (sub₁ p hp)
  rcases h₂ with ⟨h0,k⟩ | ⟨dd,ks,vs,ks',vs',e1,e2,e3,e4,k⟩
  ·exact Ot h0 hx O S₂ r1 fun dd s' q1 q2 S'=>⟨.next,ρ,_,fz₂,k dd q1 q2,.next,sub,S'⟩
  ·exact QP e1 e2 e3 e4 hx O S₂ r1 fun s' S'=>⟨.next,ρ,_,fz₂,k,.next,sub,S'⟩) (hs _)
end
section
variable {prog:Program} {w:World} {A:Around} {E:Value→Shared→Prop} {K:Frag} {C N:Addr} {h:Heap} {g:Array GenState} {d:Drawn} {t:Nat} {os:OsState} {R:Result→Shared→Prop}
inductive Td (E:Value→Shared→Prop) (v:Value) (s:Shared):Prop
 | mk (e dx t C:Addr) (o:Obj) (bm:List Value) (ev:v=.ref e) (hx:IL C bm o) (hB:(Value.ref C :: bm).contains (.type "BaseException")=true) (hC:s.heap.get? C=some o) (he:s.heap.get? e=some (ft C dx [.ref t,.none,.none,.none,.bool false,.none])) (h:E (.ref e) s)
theorem Ag {M:Model} {s:Shared} {env:Env} {x:Sem Value} {Q:Flow→Shared→Prop} (hh:A.handled=none) (h:wpAny M A x (Td E) E s):
  wpAny M A (raiseStmt env (some x) none) Q E s:=by
 unfold raiseStmt
 refine wpAny_bind (wpAny_mono h (fun v s₁ h₁=>?_) fun _ _ x=>x)
 obtain ⟨e,dx,t,C,o,bm,rfl,hx,hB,hC,he,hE⟩:=h₁
 cases hx
 obtain ⟨hp,g,d,tk,os⟩:=s₁
 repeat (first | with_reducible refine wpAny_loadPart_at he ?_ | with_reducible refine wpAny_loadPart_at hC ?_ | (with_reducible refine wpAny_isSubtype_exc hC ?_; rw [hB]) | wp_step)
 exact wpAny_raiseNew_none hh hE
end
section
variable {c:Cx} {fn:Fn} {n:Nat} {hd:Option Addr} {ρ ρ':Loc} {σ:AH} {d:da} {A:Around} {fz a7:Led} {R:Rest} {s:Shared} {Φ:Pv} {Ψ:Px} {Θ:AF→Loc→AH→Prop} {h h':Heap} {m:Str→Option Value} {led frs:Led}
theorem Seen.turn {a:Addr} {o o':AO} {ro:Obj} (S:Seen c d ρ σ fz a7 h m led frs) (hs:σ a=some o) (hm:(a,ro)∈led) (ho:OR c fz o' ro):Seen c d ρ (σ.upd a o') fz a7 h m led frs:=by
 obtain ⟨f1,f2,f3,_⟩:=S.hp a o hs
 refine ⟨S.fr,S.nw,S.nd,S.fzin,S.itin,S.frin,S.frup,S.frnd,S.apart,S.apart',fun b o₂ hb=>?_,S.keys,S.lc,S.apfi⟩
 unfold AH.upd at hb
 by_cases e:b=a
 ·subst e
  rw [if_pos rfl] at hb
  cases hb
  exact ⟨f1,f2,f3,ro,hm,ho⟩
 ·rw [if_neg e] at hb
  exact S.hp b o₂ hb
theorem Mn {C fI:Addr} {xs:List V} {Ψ:Addr→AH→Prop} (hm:xZ c.K C fI) (hl:xs.length≤1000)
  (h:∀ a,σ a=none→SC c n hd (.ref fI) (.ref a :: xs) (σ.upd a (.exc0 C)) (fun r σ'=>r=.none∧Φ (.ref a) σ') Ψ):SC c (n + 1) hd (.ref C) xs σ Φ Ψ:=by
 intro fn d A ρ fz a7 R s vs O L S r
 obtain ⟨⟨m,led,frs,Z⟩,hr⟩:=S
 obtain ⟨oc,bm,hx,hC,hB,hB2,hA,hN,hi,hf⟩:=hm
 have X:=O.cx.kin.keeps Z.fr.keep
 obtain ⟨hp,gg,dr,tk,os⟩:=s
 refine FC X hx (X _ _ hC) hB hA hN hi hf ?_ (by rw [← r.len,sizeLine_eq]; omega)
 have L':=L.under C vs
 have Z1:=Z.push { cls:=.type "tuple", data:=.seq vs.toArray }
 have hsz:(hp.push { cls:=.type "tuple", data:=.seq vs.toArray }).objs.size=hp.objs.size + 1:=Heap.size_push ..
 have F2:=Z1.fr.push (gS C hp.objs.size)
 have N2:News c.H0 d.L ((hp.push { cls:=.type "tuple", data:=.seq vs.toArray }).push (gS C hp.objs.size)) (((hp.push { cls:=.type "tuple", data:=.seq vs.toArray }).objs.size,gS C hp.objs.size) :: led):=
  news_pushed (s:=⟨hp.push { cls:=.type "tuple", data:=.seq vs.toArray },gg,dr,tk,os⟩) Z1.fr Z1.nw (fun b x e=>Heap.get?_push_of_some _ e) (Heap.get?_push_size _ rfl) rfl
 have Z2:=Z1.alloc F2 N2 Z1.dU (o:=.exc0 C) (.exc0 C hp.objs.size)
 rw [hsz] at Z2
 have hnone:σ (hp.objs.size + 1)=none:=by rw [← hsz]; exact Z1.cw Z1.dU
 refine wpAny_mono (h _ hnone fn d _ ρ fz a7 R ⟨_,gg,dr,tk,os⟩ (.ref (hp.objs.size + 1) :: vs) O L' ⟨⟨_,_,_,Z2⟩,hr⟩ (.cons (.ref _) r)) (fun v s' z=>?_) fun _ _ k=>k
 obtain ⟨y,σ',fz',⟨rfl,hΦ⟩,rv,sub,S'⟩:=z
 obtain rfl:=rv.inv
 exact ⟨rfl,.ref _,σ',fz',hΦ,.ref _,sub,S'⟩
theorem HI {e:Expr} {pos:Pos} (h:SE c fn n none ρ σ e (fun v σ₁=>∃ a C dd fI,v=.ref a∧σ₁ a=some (.excn C dd)∧xZ c.K C fI∧Ψ ρ a (σ₁.upd a (.exc C dd))) Ψ):SS c fn n none ρ σ (.Raise (some e) none pos) Θ Ψ:=
 fun d A fz a7 R s O L S=>by
  rw [arm_exec_Raise]
  refine wpAny_bind (wpAny_standAt ?_)
  show wpAny _ _ (raiseStmt (fn.env d.L) (some (do let v ← eval e (fn.env d.L); standAt pos; pure v)) none) _ _ _
  refine Ag L.handled (wpAny_bind (aE (h d A fz a7 R s O L S) (fun _ _ k=>k) fun x v σ₁ fz₁ s₁ q r₁ sub S₁=>wpAny_bind (wpAny_standAt (wpAny_pure ?_))))
  obtain ⟨a,C,dd,fI,e1,hs,wD,hΨ⟩:=q
  subst e1
  obtain rfl:=r₁.inv
  obtain ⟨⟨m,led,frs,Z⟩,hr⟩:=S₁
  obtain ⟨oc,bm,hx,hC,hB,hB2,hA,hN,hi,hf⟩:=wD
  obtain ⟨f1,f2,f3,ro,hm,ho⟩:=Z.hp _ _ hs
  obtain ⟨t,rfl⟩:=ho.inv
  refine ⟨a,dd,t,C,oc,bm,rfl,hx,hB2,(O.cx.kin.keeps Z.fr.keep) _ _ hC,(Z.nw _ hm).1,?_⟩
  exact ⟨ρ,a,_,fz₁,rfl,hΨ,sub,⟨_,_,_,C,dd,_,Z.turn hs hm (.exc C dd _ rfl),AH.a9 ..,hm,Nat.le_refl 6,.inl rfl⟩,hr⟩
end
section
variable {prog:Program} {w:World} {A:Around} {E:Value→Shared→Prop} {K:Frag} {C D N N2:Addr} {h:Heap} {g:Array GenState} {d:Drawn} {t:Nat} {os:OsState} {R:Result→Shared→Prop}
variable {oC oD:Obj} {bm bm2:List Value}
theorem yJ {M:Model} {e:Addr} {oe:Obj} {b:Bool} {Q:Bool→Shared→Prop} (hx:IL C bm oC) (hy:IL D bm2 oD) (hC:h.get? C=some oC)
  (hD:h.get? D=some oD) (he:h.get? e=some oe) (hcls:oe.cls=.ref C)
  (hB:(Value.ref D :: bm2).contains (.type "BaseException")=true) (hb:(Value.ref C :: bm).contains (.ref D)=b) (hq:Q b ⟨h,g,d,t,os⟩):wpAny M A (excMatches (.ref e) (.ref D)) Q E ⟨h,g,d,t,os⟩:=by
 have f:=tc_notTuple
 cases hx
 cases hy
 unfold excMatches
 repeat (first | (with_reducible refine wpAny_loadPart_at he ?_; rw [hcls]) | with_reducible refine wpAny_loadPart_at hD ?_ | (with_reducible refine wpAny_isSubtype_exc hD ?_; rw [hB]) | (with_reducible refine wpAny_isSubtype_exc hC ?_; rw [hb]) | wp_step)
 cases b <;> (wp_walk; exact hq)
end
def um (K:Frag) (x:Str) (C D fC fD:Addr) (b:Bool):Prop:=nsIn K mainGlobals x=some (some (.ref D))∧xZ K C fC∧xZ K D fD∧subIn K (.ref C) (.ref D)=some b
def SH (c:Cx) (fn:Fn) (n:Nat) (ρ:Loc) (σ:AH) (a:Addr) (hs:List ExceptHandler) (Θ:AF→Loc→AH→Prop) (Ψ:Px):Prop:=
 ∀ d A fz a7 R s,Ok c fn d→Lv fn d A n none→GS c d ρ σ fz a7 R a s→wpAny (model c.prog c.w) A (handleBy (.ref a) (fn.env d.L) hs) (PF c d fz a7 R Θ) (PX c d fz a7 R Ψ) s
section
variable {c:Cx} {fn:Fn} {n:Nat} {hd:Option Addr} {ρ ρ':Loc} {σ:AH} {d:da} {A A':Around} {fz a7:Led} {R:Rest} {s:Shared} {Φ:Pv} {Ψ:Px} {Θ:AF→Loc→AH→Prop} {h h':Heap} {m:Str→Option Value} {led frs:Led}
theorem kg {a:Addr} {E:Value→Shared→Prop} {fl:Option Addr} (X:GS c d ρ σ fz a7 R a s):
  wpAny (model c.prog c.w) A (setFlight (.ref a) fl) (fun _ s'=>GS c d ρ σ fz a7 R a s') E s:=by
 obtain ⟨⟨m,led,frs,C,dd,ws,S,hσ,hm,hl,T,oT,ts,hx,t1,t2,t3,t4,t5,t6⟩,hr⟩:=X
 have he:=(S.nw _ hm).1
 unfold setFlight
 refine wpAny_bind (eF he hx ?_)
 rw [if_pos (show (Value.ref T != Value.none)=true from by simp)]
 refine wpAny_setField t4 t5 (by omega) ?_
 have hd:=Obj.data_mapFields t5 (·.setIfInBounds 3 (fl.elim Value.none fun f=>rawInt f))
 refine ⟨⟨m,led,frs,C,dd,ws,S.zC _ t3 t1 t2,hσ,hm,hl,⟨T,_,_,hx,t1,t2,t3,Heap.get?_update_self _ t4 (Obj.isFreed_of_fields hd),hd,?_⟩⟩,hr⟩
 rw [Array.size_setIfInBounds]; exact t6
theorem GP.st {a:Addr} (X:GP c d ρ σ fz a7 R a s):St c d ρ σ fz a7 R s:=⟨by cases X.ex with | mk m led frs C dd ws Z=>exact ⟨m,led,frs,Z⟩,X.rest⟩
theorem Lv.mark {a:Addr} (L:Lv fn d A n none):Lv fn d (A.mark (some (.ref a))) n (some a):=by
 refine ⟨L.frames,L.depth,L.units,?_⟩
 show (some (Value.ref a)).or A.handled=some (.ref a)
 rfl
theorem HJ {e:Value} {fz₁:Led} (O:Ok c fn d) (hA:A'.frames=some (fn.env d.L :: d.outer)) (sub:∀ p∈fz,p∈fz₁) (X:PX c d fz₁ a7 R Ψ e s):
  notedBy (model c.prog c.w) A' (fn.env d.L) (fun e s'=>cameBackBy (model c.prog c.w) A (fn.env d.L) (PX c d fz a7 R Ψ) e s') e s:=by
 obtain ⟨ρ,a,σ,fz',rfl,hΨ,sub',X⟩:=X
 exact wpAny_mono (qm O hA X) (fun _ _ X'=>AV X' fun s' X''=>⟨ρ,a,σ,fz',rfl,hΨ,fun p hp=>sub' p (sub p hp),X''⟩) fun _ _ e=>e
theorem FN {a C D dd fC fD:Addr} {x:Str} {np pos:Pos} {b:Bool} {Rr:Result→Shared→Prop} (hm:(x,NameKind.globalImplicit)∈fn.scope.names) (hs:σ a=some (.exc C dd)) (ht:um c.K x C D fC fD b) (O:Ok c fn d) (X:GS c d ρ σ fz a7 R a s)
  (h:Rr (.ok (if b then .brk else .next)) s):codeAny (model c.prog c.w) A (.handlers (.ref a) [.ExceptHandler (some (.Name x np)) none [] pos] (fn.env d.L)) Rr s:=by
 have X':=X
 obtain ⟨⟨m,led,frs,C',dd',ws,Z,hσ,hm',hl,T,oT,ts,hx,_⟩,hr⟩:=X'
 obtain ⟨t1,t2,t3,t4⟩:=ht
 have:C'=C:=by rw [hs] at hσ; cases hσ; rfl
 subst this
 obtain ⟨oC,bm,hx,hC,hB,hB2,hA,hN,hi,hf⟩:=t2
 obtain ⟨oD,bm2,hy,hD,gB,gB2,gA,gN,gi,gf⟩:=t3
 have XK:=O.cx.kin.keeps Z.fr.keep
 have hb:(Value.ref C' :: bm).contains (.ref D)=b:=by
  unfold subIn mroIn clsIn at t4
  dsimp only at t4
  rw [hC] at t4
  clear hC
  cases hx
  simpa using t4
 refine codeAny_handlers_test (nameX_K (cl:=fn.cl) Z.fr O.cx.kin O.cx.top t1 ?_ O.kind (O.kindOf hm) (eE O.nodebug hm))
 obtain ⟨hp,gg,dr,tk,os⟩:=s
 exact yJ hx hy (XK _ _ hC) (XK _ _ hD) (Z.nw _ hm').1 rfl gB2 hb h
theorem Nm {a C D dd fC fD:Addr} {x:Str} {np pos:Pos} {b₀:Stmt} {body:List Stmt} {rest:List ExceptHandler} (hm:(x,NameKind.globalImplicit)∈fn.scope.names) (hs:σ a=some (.exc C dd)) (ht:um c.K x C D fC fD true)
  (h:SB c fn n (some a) ρ σ (b₀ :: body) Θ Ψ):SH c fn n ρ σ a (.ExceptHandler (some (.Name x np)) none (b₀ :: body) pos :: rest) Θ Ψ:=fun d A fz a7 R s O L X=>
 wpAny_handleBy_cons (FN hm hs ht O X (codeAny_handlers_suite (wpAny_mono (kg X) (fun _ s' X'=>wpAny_mono (h d _ fz a7 R s' O L.mark X'.x.st) (fun f s'' k=>k) fun e s'' k=>HJ O L.frames (fun _ hp=>hp) k) fun _ _ e=>e))) (by intro q; cases q)
def Loc.clear (ρ:Loc):Loc:=ρ.map fun p=>(p.1,none)
theorem Loc.AL (ρ:Loc):(Loc.clear ρ).map (·.1)=ρ.map (·.1):=by unfold Loc.clear; rw [List.map_map]; rfl
theorem At.Dj {ρ:Loc} {x:Str} {v:V} (h:At (Loc.clear ρ) x v):False:=by
 unfold Loc.clear at h
 induction ρ with
 | nil=>cases h
 | cons p r ih=>
  rw [List.map_cons] at h
  cases h with
  | tail h=>exact ih h
theorem Eb {a C D dd fC fD:Addr} {x y:Str} {np pos:Pos} {b₀:Stmt} {body:List Stmt} {rest:List ExceptHandler} (hm:(x,NameKind.globalImplicit)∈fn.scope.names) (hs:σ a=some (.exc C dd)) (ht:um c.K x C D fC fD true)
  (P:sI y (.ref a) ρ ρ') (h:SB c fn n (some a) ρ' σ (b₀ :: body) (fun f ρ₂ σ₂=>Θ f (Loc.clear ρ₂) σ₂) (fun _ _ _=>False)):SH c fn n ρ σ a (.ExceptHandler (some (.Name x np)) (some y) (b₀ :: body) pos :: rest) Θ Ψ:=fun d A fz a7 R s O L X=>by
 refine wpAny_handleBy_cons (FN hm hs ht O X (codeAny_handlers_suite_as (wpAny_mono (kg X) (fun _ s' X'=>?_) fun _ _ e=>e))) (by intro q; cases q)
 refine X'.x.st.stored O (.ref a) P fun s₂ S₂=>?_
 refine wpAny_mono (h d _ fz a7 R s₂ O L.mark S₂) (fun f s₃ ⟨f',ρ₃,σ₃,fz₃,hΘ,rel,sub,S₃⟩=>?_) fun e s'' k=>?_
 ·obtain ⟨⟨m,led,frs,Z⟩,hr⟩:=S₃
  have mem:(y,NameKind.local)∈fn.scope.names:=O.keysin y (by obtain ⟨m0,_,_,Z0⟩:=S₂.ex; rw [← Z0.keys,P.keys]; exact P.mem)
  refine wpAny_nameGoes (O.kindOf mem) Z.fr.ns (by show (fn.scope.kind == .class || (fn.scope.kind == .module && d.L != mainGlobals))=false; rw [O.kind]; rfl) fun h' m' hn hs=>?_
  refine ⟨f',Loc.clear ρ₃,σ₃,fz₃,hΘ,rel,sub,⟨m',led,frs,⟨⟨hn,fun b o e=>hs.extBut b o (fun z=>?_) (Z.fr.keep b o e),Z.fr.above⟩,Z.nw.set hs,Z.nd,Z.fzin,Z.itin,Z.frin,Z.frup,Z.frnd,Z.apart,Z.apart',Z.hp,by rw [Loc.AL]; exact Z.keys,fun x v hx=>hx.Dj.elim,Z.apfi⟩⟩,hr⟩
  rw [z] at e
  exact absurd (Nat.lt_of_lt_of_le (Heap.lt_size e) Z.fr.above) (Nat.lt_irrefl _)
 ·obtain ⟨_,_,_,_,_,f,_⟩:=k
  exact f.elim
theorem OO {body:List Stmt} {h₀:ExceptHandler} {hs:List ExceptHandler} {pos:Pos} (h:SB c fn n none ρ σ body Θ (fun ρ₁ a σ₁=>SH c fn n ρ₁ σ₁ a (h₀ :: hs) Θ Ψ)):SS c fn n none ρ σ (.Try body (h₀ :: hs) [] [] pos) Θ Ψ:=fun d A fz a7 R s O L S=>by
 refine wpAny_Try_except (wpAny_mono (h d A fz a7 R s O L S) (fun f s' k=>?_) fun e s' k=>?_)
 ·cases f with
  | next=>exact wpAny_execs_nil k
  | brk=>exact k
  | cont=>exact k
  | ret v=>exact k
 ·obtain ⟨ρ₁,a,σ₁,fz₁,rfl,hSH,sub,X⟩:=k
  refine wpAny_mono (qm O L.frames X) (fun _ s₁ X₁=>wpAny_mono (kg X₁) (fun _ s₂ X₂=>?_) fun _ _ e=>e) fun _ _ e=>e
  exact wpAny_mono (hSH d A fz₁ a7 R s₂ O L X₂) (fun _ _ k=>k.weaken sub) fun _ _ k=>k.weaken sub
end
inductive PP (c:Cx) (d:da) (ρ:Loc) (fz a7:Led) (R:Rest) (Φ:Option Int→AH→Prop) (v:Value) (s:Shared):Prop
 | mk (o:Option Int) (σ:AH) (fz':Led):IsPart v o→Φ o σ→(∀ p∈fz,p∈fz')→St c d ρ σ fz' a7 R s→PP c d ρ fz a7 R Φ v s
def SP (c:Cx) (fn:Fn) (n:Nat) (hd:Option Addr) (ρ:Loc) (σ:AH) (x:Option Expr) (Φ:Option Int→AH→Prop) (Ψ:Px):Prop:=
 ∀ d A fz a7 R s,Ok c fn d→Lv fn d A n hd→St c d ρ σ fz a7 R s→wpAny (model c.prog c.w) A (evalPart x (fn.env d.L)) (PP c d ρ fz a7 R Φ) (PX c d fz a7 R Ψ) s
def jB (xs:List V) (lo hi st:Option Int):List V:=(sliceRange (sliceBounds lo hi st xs.length).1 (sliceBounds lo hi st xs.length).2.1 (sliceBounds lo hi st xs.length).2.2).filterMap (xs[·]?)
section
variable {c:Cx} {fn:Fn} {n:Nat} {hd:Option Addr} {ρ ρ':Loc} {σ:AH} {d:da} {A A':Around} {fz a7:Led} {R:Rest} {s:Shared} {Φ:Pv} {Ψ:Px} {Θ:AF→Loc→AH→Prop} {h h':Heap} {m:Str→Option Value} {led frs:Led}
theorem AG {Φ:Option Int→AH→Prop} (h:Φ none σ):SP c fn n hd ρ σ none Φ Ψ:=fun d A fz a7 R s O L S=>evalPart_none_step ⟨none,σ,fz,.none,h,fun _ hp=>hp,S⟩
theorem Fo {e:Expr} {Φ:Option Int→AH→Prop} (h:SE c fn n hd ρ σ e (fun v σ₁=>∃ i,v=.int i∧Φ (some i) σ₁) Ψ):SP c fn n hd ρ σ (some e) Φ Ψ:=fun d A fz a7 R s O L S=>
 evalPart_some_step (aE (h d A fz a7 R s O L S) (fun _ _ k=>k) fun x v σ₁ fz₁ s₁ ⟨i,e1,h1⟩ r sub S₁=>by
  subst e1
  obtain ⟨t,rfl⟩:=r.inv
  exact ⟨some i,σ₁,fz₁,.int i t,h1,sub,S₁⟩)
theorem DF {xs:List V} {vs:List Value} (r:bK c fz xs vs) (l:List Nat):bK c fz (l.filterMap (xs[·]?)) (l.filterMap (vs[·]?)):=by
 induction l with
 | nil=>exact .nil
 | cons i l ih=>
  rw [List.filterMap_cons,List.filterMap_cons]
  cases hx:xs[i]? with
  | some x=>
   obtain ⟨v,hv,rv⟩:=r.nth hx
   rw [hv]
   exact .cons rv ih
  | none=>
   have:vs[i]?=none:=by
    rw [List.getElem?_eq_none_iff] at hx ⊢
    rw [← r.len]; exact hx
   rw [this]
   exact ih
def J9 (x:V) (lo hi st:Option Int) (σ:AH) (Φ:Pv):Prop:=
 (∃ xs,ec σ x xs∧st≠some 0∧xs.length≤100000∧∀ a,σ a=none→Φ (.ref a) (σ.upd a (.list (jB xs lo hi st))))∨(∃ y,x=.str y∧st=none∧y.length≤100000∧Φ (.str (Txt.slice y lo hi)) σ)
theorem IsPart.str {v:Value} {o:Option Int} (p:IsPart v o):∃ q:Option (Int×Tok),q.map (·.1)=o∧v=(match q with | some (i,t)=>.int i t | none=>.none):=by
 cases p with
 | none=>exact ⟨none,rfl,rfl⟩
 | int i t=>exact ⟨some (i,t),rfl,rfl⟩
def HQ (l u k:Value):Obj:={ cls:=.type "slice", data:=.fields #[l,u,k] }
def PJ (c:Cx) (ρ:Loc) (Ψ:Px) (value slice:Expr) (x:V) (ol ou ok:Option Int) (σ:AH) (Φ:Pv):Prop:=
 ∀ fn d A fz a7 R s v l u k,Ok c fn d→St c d ρ σ fz a7 R s→VR c fz x v→IsPart l ol→IsPart u ou→IsPart k ok→wpAny (model c.prog c.w) A (subscriptTail value slice v (.ref s.heap.objs.size)) (PV c d ρ fz a7 R Φ) (PX c d fz a7 R Ψ) { s with heap:=s.heap.push (HQ l u k) }
theorem Bw {t:Sem Value} {Φ₁:Option Int→AH→Prop} {Q:Value→Shared→Prop} {E:Value→Shared→Prop} (h:wpAny (model c.prog c.w) A t (PP c d ρ fz a7 R Φ₁) (PX c d fz a7 R Ψ) s) (hE:∀ e s,PX c d fz a7 R Ψ e s→E e s)
  (k:∀ x v σ₁ fz₁ s₁,IsPart v x→Φ₁ x σ₁→(∀ p∈fz,p∈fz₁)→St c d ρ σ₁ fz₁ a7 R s₁→Q v s₁):wpAny (model c.prog c.w) A t Q E s:=
 wpAny_mono h (fun _ _ h=>by cases h with | mk x σ fz' a b e f=>exact k x _ σ fz' _ a b e f) hE
theorem BB {value:Expr} {lo hi st:Option Expr} {sp pos:Pos} (h:SE c fn n hd ρ σ value (fun x σ₁=>SP c fn n hd ρ σ₁ lo (fun l σ₂=>SP c fn n hd ρ σ₂ hi (fun u σ₃=>SP c fn n hd ρ σ₃ st (fun k σ₄=>PJ c ρ Ψ value (.Slice lo hi st sp) x l u k σ₄ Φ) Ψ) Ψ) Ψ) Ψ):SE c fn n hd ρ σ (.Subscript value (.Slice lo hi st sp) pos) Φ Ψ:=
 fun d A fz a7 R s O L S=>Subscript_ (aE (h d A fz a7 R s O L S) (fun _ _ k=>k) fun x v σ₁ fz₁ s₁ h₁ r₁ sub₁ S₁=>wpAny_Slice (Bw (h₁ d A fz₁ a7 R s₁ O L S₁) (fun _ _ e=>e.weaken sub₁) fun l lv σ₂ fz₂ s₂ pl h₂ sub₂ S₂=>
  Bw (h₂ d A fz₂ a7 R s₂ O L S₂) (fun _ _ e=>(e.weaken sub₂).weaken sub₁) fun u uv σ₃ fz₃ s₃ pu h₃ sub₃ S₃=>Bw (h₃ d A fz₃ a7 R s₃ O L S₃) (fun _ _ e=>((e.weaken sub₃).weaken sub₂).weaken sub₁) fun k kv σ₄ fz₄ s₄ pk h₄ sub₄ S₄=>
   wpAny_mono (h₄ fn d A fz₄ a7 R s₄ v lv uv kv O S₄ (((r₁.mono sub₂).mono sub₃).mono sub₄) pl pu pk) (fun _ _ e=>(((e.weaken sub₄).weaken sub₃).weaken sub₂).weaken sub₁) fun _ _ e=>(((e.weaken sub₄).weaken sub₃).weaken sub₂).weaken sub₁))
theorem Iy (vs:List Value) (n:Nat) (ol ou ok:Option Int) (h:vs.length=n):slicePick vs.toArray ol ou ok=((sliceRange (sliceBounds ol ou ok n).1 (sliceBounds ol ou ok n).2.1 (sliceBounds ol ou ok n).2.2).filterMap (vs[·]?)).toArray:=by
 subst h
 unfold slicePick
 rw [List.size_toArray]
 simp
theorem zb {value slice:Expr} {x:V} {xs:List V} {ol ou ok:Option Int} (hs:Idx slice) (hst:ok≠some 0) (hl:xs.length≤100000) (hx:∀ fn d fz a7 h m led frs v,Ok c fn d→Seen c d ρ σ fz a7 h m led frs→VR c fz x v→∃ a vs q,v=.ref a∧h.get? a=some (gF vs q)∧bK c fz xs vs)
  (hΦ:∀ a,σ a=none→Φ (.ref a) (σ.upd a (.list (jB xs ol ou ok)))):PJ c ρ Ψ value slice x ol ou ok σ Φ:=by
 intro fn d A fz a7 R s v l u k O S r pl pu pk
 obtain ⟨⟨m,led,frs,Z⟩,hr⟩:=S
 obtain ⟨a,vs,q,rfl,hg,rs⟩:=hx fn d fz a7 _ m led frs v O Z r
 obtain ⟨ops,e⟩:=hs (.ref a) (.ref s.heap.objs.size)
 obtain ⟨hp,g,dr,tk,os⟩:=s
 have hL2:Heap.IsList (hp.push (HQ l u k)) a vs.toArray:=⟨_,Heap.get?_push_of_some _ hg,rfl,q,rfl⟩
 refine tail_any hL2.typeIs slot_list_getitem.lookup (wpAny_getItem_list_slice hL2 (Heap.IsSliceOf.new ..) pl pu pk hst ?_ (by rw [List.size_toArray,sizeLine_eq,← rs.len]; omega)) e
 rw [Iy vs _ ol ou ok rs.len.symm]
 have Z1:=Z.push (HQ l u k)
 exact ⟨.ref _,_,fz,hΦ _ (Z1.cw Z1.dU),.ref _,fun _ hp=>hp,⟨_,_,_,Z1.alloc (Z1.fr.push _) (news_pushed (s:=⟨hp.push (HQ l u k),g,dr,tk,os⟩) Z1.fr Z1.nw (fun b x e=>Heap.get?_push_of_some _ e) (Heap.get?_push_size (o:=gF _ _) _ rfl) rfl) Z1.dU (o:=.list (jB xs ol ou ok)) (.list 0 (DF rs _))⟩,hr⟩
theorem IH {value slice:Expr} {y:Str} {ol ou:Option Int} (hs:Idx slice) (hl:y.length≤100000) (hΦ:Φ (.str (Txt.slice y ol ou)) σ):PJ c ρ Ψ value slice (.str y) ol ou none σ Φ:=by
 intro fn d A fz a7 R s v l u k O S r pl pu pk
 obtain ⟨⟨m,led,frs,Z⟩,hr⟩:=S
 obtain ⟨t,rfl⟩:=r.inv
 obtain ⟨ql,rfl,rfl⟩:=IsPart.str pl
 obtain ⟨qu,rfl,rfl⟩:=IsPart.str pu
 obtain ⟨ops,e⟩:=hs (.str y t) (.ref s.heap.objs.size)
 cases pk
 obtain ⟨hp,g,dr,tk,os⟩:=s
 refine tail_any (typeIs_str _ _ _) PySem.F.slot_str_getitem.lookup (wpAny_getItem_str_slice (l:=ql) (u:=qu) (st:=none) ⟨_,Heap.get?_push_size _ rfl,rfl,by cases ql <;> cases qu <;> rfl⟩ rfl (post_val_or_str ?_)) e
 refine ⟨Nat.le_trans (Txt.slice_le y _ _) (Nat.le_trans hl (by rw [sizeLine_eq]; decide)),fun t' k'=>⟨.str _,σ,fz,hΦ,.str _ t',fun _ hp=>hp,⟨m,led,frs,Z.push _⟩,hr⟩⟩
theorem J9.q {value slice:Expr} {x:V} {ol ou ok:Option Int} (hs:Idx slice) (q:J9 x ol ou ok σ Φ):PJ c ρ Ψ value slice x ol ou ok σ Φ:=by
 unfold J9 at q
 rcases q with ⟨xs,I,hst,hl,hΦ⟩ | ⟨y,rfl,rfl,hl,hΦ⟩
 ·exact zb hs hst hl (fun fn d fz a7 h m led frs v O Z r=>by
   obtain ⟨a,vs,q,e,hm,rs⟩:=I.real O Z r
   exact ⟨a,vs,q,e,(Z.nw _ hm).1,rs⟩) hΦ
 ·exact IH hs hl hΦ
end
class inductive V.Data:Nat→V→Prop
 | none {k:Nat}:V.Data k .none
 | bool {k:Nat} {b:Bool}:V.Data k (.bool b)
 | int {k:Nat} {i:Int}:V.Data k (.int i)
 | str {k:Nat} {x:Str}:V.Data k (.str x)
 | tup {k:Nat} {xs:List V}:(∀ x∈xs,V.Data k x)→V.Data (k + 1) (.tup xs)
section
variable {c:Cx} {fn:Fn} {n:Nat} {hd:Option Addr} {ρ ρ':Loc} {σ:AH} {d:da} {A A':Around} {fz a7:Led} {R:Rest} {s:Shared} {Φ:Pv} {Ψ:Px} {Θ:AF→Loc→AH→Prop} {h h':Heap} {m:Str→Option Value} {led frs:Led}
theorem B1 (O:Ok c fn d) (Z:Seen c d ρ σ fz a7 s.heap m led frs):∀ {k:Nat} {x:V},V.Data k x→∀ {A:Around} {v u:Value},A.units + k < cLine→VR c fz x v→VR c fz x u→SeqAt.EqAt A s v u true:=by
 intro k x D
 induction D with
 | none=>intro A v u _ r1 r2; obtain rfl:=r1.inv; obtain rfl:=r2.inv; exact SeqAt.EqAt.same _
 | bool=>intro A v u _ r1 r2; obtain rfl:=r1.inv; obtain rfl:=r2.inv; exact SeqAt.EqAt.same _
 | @int k i=>
  intro A v u _ r1 r2
  obtain ⟨t,rfl⟩:=r1.inv
  obtain ⟨t',rfl⟩:=r2.inv
  have:=SeqAt.EqAt.int_int (A:=A) (s:=s) i t i t'
  rwa [beq_self_eq_true] at this
 | @str k x=>
  intro A v u _ r1 r2
  obtain ⟨t,rfl⟩:=r1.inv
  obtain ⟨t',rfl⟩:=r2.inv
  have:=SeqAt.EqAt.str_str (A:=A) (s:=s) x t x t'
  rwa [beq_self_eq_true] at this
 | @tup k xs hx ih=>
  intro A v u hu r1 r2
  obtain ⟨a,vs,q,rfl,k1,rs⟩:=r1.inv
  obtain ⟨b,us,q',rfl,k2,rs'⟩:=r2.inv
  by_cases e:a=b
  ·subst e; exact SeqAt.EqAt.same _
  ·refine SeqAt.EqAt.of_refs e ?_
   have hT1:s.heap.IsTuple a vs.toArray:=⟨_,Z.known O.cx.kin k1,rfl,_,rfl⟩
   have hT2:s.heap.IsTuple b us.toArray:=⟨_,Z.known O.cx.kin k2,rfl,_,rfl⟩
   have key:=SeqAt.RcAt.tuples (A:=A) (e:=fun _=>true) hT1 hT2 (by omega) fun j h1 h2=>?_
   ·have e1:=rs.len
    have e2:=rs'.len
    have e3:((List.range (min vs.toArray.size us.toArray.size)).all (fun _=>true) && vs.toArray.size == us.toArray.size)=true:=by
     rw [List.size_toArray,List.size_toArray,← e1,← e2,beq_self_eq_true,Bool.and_true]
     exact List.all_eq_true.mpr fun _ _=>rfl
    rw [e3] at key
    exact key
   ·have h1':j < xs.length:=by rw [rs.len]; simpa using h1
    obtain ⟨v',hv,rv⟩:=rs.nth (List.getElem?_eq_getElem h1')
    obtain ⟨u',hu',ru⟩:=rs'.nth (List.getElem?_eq_getElem h1')
    have ev:vs.toArray[j]=v':=by simpa using (List.getElem?_eq_some_iff.mp hv).2
    have eu:us.toArray[j]=u':=by simpa using (List.getElem?_eq_some_iff.mp hu').2
    rw [ev,eu]
    exact ih _ (List.getElem_mem h1') (by show A.units + 1 + k < cLine; omega) rv ru
theorem Cb {x y:V} {xs:List V} {k:Nat} (I:ec σ x xs) (J:ec σ y xs) (hk:∀ z∈xs,V.Data k z) (hk2:k≤10) (h:Φ (.bool true) σ):O2 c fn n hd (compareOp .Eq) x y ρ σ Φ Ψ:=by
 intro d A fz a7 R s v u O L S r1 r2
 obtain ⟨⟨m,led,frs,Z⟩,hr⟩:=S
 obtain ⟨a,vs,q,rfl,hm,rs⟩:=I.real O Z r1
 obtain ⟨b,us,q',rfl,hm',rs'⟩:=J.real O Z r2
 have hu:=L.units
 refine SeqAt.eq_listAt (e:=fun _=>true) (Z.isList hm) (Z.isList hm') (by rw [List.size_toArray,List.size_toArray,← rs.len,← rs'.len]) (by omega) (fun j h1 h2=>?_) ?_
 ·have h1':j < xs.length:=by rw [rs.len]; simpa using h1
  obtain ⟨v',hv,rv⟩:=rs.nth (List.getElem?_eq_getElem h1')
  obtain ⟨u',hu',ru⟩:=rs'.nth (List.getElem?_eq_getElem h1')
  have ev:vs.toArray[j]=v':=by simpa using (List.getElem?_eq_some_iff.mp hv).2
  have eu:us.toArray[j]=u':=by simpa using (List.getElem?_eq_some_iff.mp hu').2
  rw [ev,eu]
  exact B1 O Z (hk _ (List.getElem_mem h1')) (by show A.units + 1 + k < cLine; omega) rv ru
 ·have:((List.range vs.toArray.size).all fun _=>true)=true:=by simp
  rw [this]
  exact St.pv ⟨⟨_,_,_,Z⟩,hr⟩ (.bool true) h
theorem Hh (O:Ok c fn d) (Z:Seen c d ρ σ fz a7 s.heap m led frs) {k:Str} {t:Tok}:∀ {ks:List Str} {vs:List Value},bK c fz (ks.map .str) vs→∃ e:Value→Bool,(∀ A:Around,∀ y∈vs,SeqAt.EqAt A s y (.str k t) (e y))∧vs.any e=decide (k∈ks):=by
 intro ks vs r
 refine ⟨fun y=>match y with | .str x _=>x == k | _=>false,?_⟩
 induction ks generalizing vs with
 | nil=>cases r; exact ⟨fun _ _ h=>(nomatch h),rfl⟩
 | cons x ks ih=>
  obtain ⟨v,us,rfl,r1,r2⟩:=bK.inv (xs:=ks.map .str) r
  obtain ⟨t',rfl⟩:=r1.inv
  obtain ⟨h1,h2⟩:=ih r2
  refine ⟨fun A y hy=>?_,?_⟩
  ·rcases List.mem_cons.mp hy with rfl | hy
   ·exact SeqAt.EqAt.str_str x t' k t
   ·exact h1 A y hy
  ·rw [List.any_cons,h2]
   by_cases e:x=k
   ·subst e; simp
   ·have e':¬ k=x:=fun z=>e z.symm
    simp [e,e']
theorem BF (O:Ok c fn d) (Z:Seen c d ρ σ fz a7 s.heap m led frs) {k:Int} {t:Tok}:∀ {ks:List Int} {vs:List Value},bK c fz (ks.map .int) vs→∃ e:Value→Bool,(∀ A:Around,∀ y∈vs,SeqAt.EqAt A s y (.int k t) (e y))∧vs.any e=decide (k∈ks):=by
 intro ks vs r
 refine ⟨fun y=>match y with | .int x _=>x == k | _=>false,?_⟩
 induction ks generalizing vs with
 | nil=>cases r; exact ⟨fun _ _ h=>(nomatch h),rfl⟩
 | cons x ks ih=>
  obtain ⟨v,us,rfl,r1,r2⟩:=bK.inv (xs:=ks.map .int) r
  obtain ⟨t',rfl⟩:=r1.inv
  obtain ⟨h1,h2⟩:=ih r2
  refine ⟨fun A y hy=>?_,?_⟩
  ·rcases List.mem_cons.mp hy with rfl | hy
   ·exact SeqAt.EqAt.int_int x t' k t
   ·exact h1 A y hy
  ·rw [List.any_cons,h2]
   by_cases e:x=k
   ·subst e; simp
   ·have e':¬ k=x:=fun z=>e z.symm
    simp [e,e']
theorem D8 {k:Str} {ks:List Str} (h:Φ (.bool (decide (k∈ks))) σ):O2 c fn n hd (compareOp .In) (.str k) (.tup (ks.map .str)) ρ σ Φ Ψ:=by
 intro d A fz a7 R s v u O L S r1 r2
 obtain ⟨⟨m,led,frs,Z⟩,hr⟩:=S
 obtain ⟨t,rfl⟩:=r1.inv
 obtain ⟨a,vs,q,rfl,k1,rs⟩:=r2.inv
 obtain ⟨e,h1,h2⟩:=Hh (k:=k) (t:=t) O Z rs
 have hT1:s.heap.IsTuple a vs.toArray:=⟨_,Z.known O.cx.kin k1,rfl,_,rfl⟩
 refine SeqAt.in_tupleAt e hT1 (fun y hy=>h1 _ y (by simpa using hy)) ?_
 rw [← Array.any_toList,h2]
 exact St.pv ⟨⟨_,_,_,Z⟩,hr⟩ (.bool _) h
theorem CM {k:Int} {ks:List Int} (h:Φ (.bool (decide (k∈ks))) σ):O2 c fn n hd (compareOp .In) (.int k) (.tup (ks.map .int)) ρ σ Φ Ψ:=by
 intro d A fz a7 R s v u O L S r1 r2
 obtain ⟨⟨m,led,frs,Z⟩,hr⟩:=S
 obtain ⟨t,rfl⟩:=r1.inv
 obtain ⟨a,vs,q,rfl,k1,rs⟩:=r2.inv
 obtain ⟨e,h1,h2⟩:=BF (k:=k) (t:=t) O Z rs
 have hT1:s.heap.IsTuple a vs.toArray:=⟨_,Z.known O.cx.kin k1,rfl,_,rfl⟩
 refine SeqAt.in_tupleAt e hT1 (fun y hy=>h1 _ y (by simpa using hy)) ?_
 rw [← Array.any_toList,h2]
 exact St.pv ⟨⟨_,_,_,Z⟩,hr⟩ (.bool _) h
theorem Cf {x:V} {k:Int} {ks:List Int} (I:ec σ x (ks.map .int)) (h:Φ (.bool (decide (k∈ks))) σ):O2 c fn n hd (compareOp .In) (.int k) x ρ σ Φ Ψ:=by
 intro d A fz a7 R s v u O L S r1 r2
 obtain ⟨⟨m,led,frs,Z⟩,hr⟩:=S
 obtain ⟨t,rfl⟩:=r1.inv
 obtain ⟨a,vs,q,rfl,hm,rs⟩:=I.real O Z r2
 obtain ⟨e,h1,h2⟩:=BF (k:=k) (t:=t) O Z rs
 refine SeqAt.in_listAt e (Z.isList hm) (fun y hy=>h1 _ y (by simpa using hy)) ?_
 rw [← Array.any_toList,h2]
 exact St.pv ⟨⟨_,_,_,Z⟩,hr⟩ (.bool _) h
theorem Nk {i:Int} (h:Φ (.int (-i)) σ):O1 c fn n hd (unaryOp .USub) (.int i) ρ σ Φ Ψ:=fun d A fz a7 R s v O L S r=>by
 obtain ⟨_,rfl⟩:=r.inv; exact PyProof.Rows.neg_int ((S.toks _).pv (.int _ _) h)
abbrev kU (c:Cx) (fn:Fn) (n:Nat) (hd:Option Addr) (op:UnaryOp) (ρ:Loc) (Φ:Pv) (Ψ:Px):Pv:=fun a σ=>O1 c fn n hd (unaryOp op) a ρ σ Φ Ψ
theorem Mh {op:UnaryOp} {x:Expr} {pos:Pos} (h:SE c fn n hd ρ σ x (kU c fn n hd op ρ Φ Ψ) Ψ):SE c fn n hd ρ σ (.UnaryOp op x pos) Φ Ψ:=
 fun d A fz a7 R s O L S=>wpAny_UnaryOp (aE (h d A fz a7 R s O L S) (fun _ _ k=>k) fun a v σ₁ fz₁ s₁ h₁ r₁ sub₁ S₁=>back sub₁ (h₁ d A fz₁ a7 R s₁ v O L S₁ r₁))
theorem MV {op:BoolOp} {x:Expr} {pos:Pos} (h:SE c fn n hd ρ σ x Φ Ψ):SE c fn n hd ρ σ (.BoolOp op [x] pos) Φ Ψ:=fun d A fz a7 R s O L S=>BoolOp_one (h d A fz a7 R s O L S)
theorem OH {x y:Expr} {rest:List Expr} {pos:Pos} (h:SE c fn n hd ρ σ x (fun a σ₁=>∃ b,a=.bool b∧if b then SE c fn n hd ρ σ₁ (.BoolOp .And (y :: rest) pos) Φ Ψ else Φ (.bool false) σ₁) Ψ):SE c fn n hd ρ σ (.BoolOp .And (x :: y :: rest) pos) Φ Ψ:=
 fun d A fz a7 R s O L S=>BoolOp_and (aE (h d A fz a7 R s O L S) (fun _ _ k=>k) fun a v σ₁ fz₁ s₁ ⟨b,e,h₁⟩ r₁ sub₁ S₁=>by
  subst e
  obtain rfl:=r₁.inv
  refine wpAny_truthy_bool ?_
  cases b with
  | false=>exact (S₁.pv (.bool false) h₁).weaken sub₁
  | true=>exact back sub₁ (h₁ d A fz₁ a7 R s₁ O L S₁))
theorem QO {x y:Expr} {rest:List Expr} {pos:Pos} (h:SE c fn n hd ρ σ x (fun a σ₁=>∃ b,a=.bool b∧if b then Φ (.bool true) σ₁ else SE c fn n hd ρ σ₁ (.BoolOp .Or (y :: rest) pos) Φ Ψ) Ψ):SE c fn n hd ρ σ (.BoolOp .Or (x :: y :: rest) pos) Φ Ψ:=
 fun d A fz a7 R s O L S=>BoolOp_or (aE (h d A fz a7 R s O L S) (fun _ _ k=>k) fun a v σ₁ fz₁ s₁ ⟨b,e,h₁⟩ r₁ sub₁ S₁=>by
  subst e
  obtain rfl:=r₁.inv
  refine wpAny_truthy_bool ?_
  cases b with
  | false=>exact back sub₁ (h₁ d A fz₁ a7 R s₁ O L S₁)
  | true=>exact (S₁.pv (.bool true) h₁).weaken sub₁)
theorem C4 {x y:V} {xs:List V} {k:Nat} (I:ec σ x xs) (J:ec σ y xs) (hk:∀ z∈xs,V.Data k z) (hk2:k≤10) (h:Φ (.bool false) σ):O2 c fn n hd (compareOp .NotEq) x y ρ σ Φ Ψ:=by
 intro d A fz a7 R s v u O L S r1 r2
 obtain ⟨⟨m,led,frs,Z⟩,hr⟩:=S
 obtain ⟨a,vs,q,rfl,hm,rs⟩:=I.real O Z r1
 obtain ⟨b,us,q',rfl,hm',rs'⟩:=J.real O Z r2
 have hu:=L.units
 have key:=SeqAt.RcNeAt.lists (A:=A) (s:=s) (e:=fun _=>true) (Z.isList hm) (Z.isList hm') (by rw [List.size_toArray,List.size_toArray,← rs.len,← rs'.len]) (by omega) (fun j h1 h2=>?_)
 ·have e3:((List.range vs.toArray.size).all fun _=>true)=true:=List.all_eq_true.mpr fun _ _=>rfl
  rw [e3] at key
  exact key c.prog c.w _ _ (St.pv ⟨⟨_,_,_,Z⟩,hr⟩ (.bool false) h)
 ·have h1':j < xs.length:=by rw [rs.len]; simpa using h1
  obtain ⟨v',hv,rv⟩:=rs.nth (List.getElem?_eq_getElem h1')
  obtain ⟨u',hu',ru⟩:=rs'.nth (List.getElem?_eq_getElem h1')
  have ev:vs.toArray[j]=v':=by simpa using (List.getElem?_eq_some_iff.mp hv).2
  have eu:us.toArray[j]=u':=by simpa using (List.getElem?_eq_some_iff.mp hu').2
  rw [ev,eu]
  exact B1 O Z (hk _ (List.getElem_mem h1')) (by show A.units + 1 + k < cLine; omega) rv ru
theorem CP {i:Int} {Ψ:Addr→AH→Prop} (h:Φ (.rng 0 i 1) σ):SC c n hd (.type "range") [.int i] σ Φ Ψ:=by
 intro fn d A ρ fz a7 R s vs O L S r
 replace r:=r.inv
 obtain ⟨v1,_,rfl,r1,r⟩:=r
 obtain rfl:=r.jy
 obtain ⟨t,rfl⟩:=r1.inv
 obtain ⟨⟨m,led,frs,Z⟩,hr⟩:=S
 refine call_range_1 ?_
 have N':News c.H0 d.L (s.heap.push (BZ 0 i 1 s.toks t (s.toks + 1))) ((s.heap.objs.size,BZ 0 i 1 s.toks t (s.toks + 1)) :: led):=news_pushed Z.fr Z.nw (fun b x e=>Heap.get?_push_of_some _ e) (Heap.get?_push_size _ rfl) rfl
 have Z':=Z.fresh (Z.fr.push _) N' Z.dU
 exact ⟨.rng 0 i 1,σ,_,h,.rng (.inl (.head _)),fun p hp=>.tail _ hp,⟨_,_,_,Z'⟩,hr⟩
theorem Cq {i j k:Int} {Ψ:Addr→AH→Prop} (hk:k≠0) (hp:Builtin.divisionGoesByPylong (j - i) k=false) (h:Φ (.rng i j k) σ):SC c n hd (.type "range") [.int i,.int j,.int k] σ Φ Ψ:=by
 intro fn d A ρ fz a7 R s vs O L S r
 replace r:=r.inv
 obtain ⟨v1,_,rfl,r1,r⟩:=r
 replace r:=r.inv
 obtain ⟨v2,_,rfl,r2,r⟩:=r
 replace r:=r.inv
 obtain ⟨v3,_,rfl,r3,r⟩:=r
 obtain rfl:=r.jy
 obtain ⟨t1,rfl⟩:=r1.inv
 obtain ⟨t2,rfl⟩:=r2.inv
 obtain ⟨t3,rfl⟩:=r3.inv
 obtain ⟨⟨m,led,frs,Z⟩,hr⟩:=S
 refine call_range_3 hk ?_ (.inl hp)
 have N':News c.H0 d.L (s.heap.push (BZ i j k t1 t2 t3)) ((s.heap.objs.size,BZ i j k t1 t2 t3) :: led):=news_pushed Z.fr Z.nw (fun b x e=>Heap.get?_push_of_some _ e) (Heap.get?_push_size _ rfl) rfl
 have Z':=Z.fresh (Z.fr.push _) N' Z.dU
 exact ⟨.rng i j k,σ,_,h,.rng (.inl (.head _)),fun p hp=>.tail _ hp,⟨_,_,_,Z'⟩,hr⟩
end
inductive Q6 (c:Cx) (d:da) (ρ:Loc) (σ:AH) (fz a7:Led) (R:Rest) (s:Shared) (q:Led→Prop):Prop
 | mk (fz':Led):(∀ p∈fz,p∈fz')→St c d ρ σ fz' a7 R s→q fz'→Q6 c d ρ σ fz a7 R s q
inductive PY (c:Cx) (d:da) (ρ:Loc) (σ:AH) (fz a7:Led) (R:Rest) (s:Shared):Prop
 | mk (fz':Led):(∀ p∈fz,p∈fz')→St c d ρ σ fz' a7 R s→PY c d ρ σ fz a7 R s
def b7 (c:Cx) (x:V) (σ:AH) (y:V) (σ':AH):Prop:=∀ d ρ fz a7 R s v,St c d ρ σ fz a7 R s→VR c fz x v→Q6 c d ρ σ' fz a7 R s fun fz'=>VR c fz' y v
def cF (c:Cx) (σ σ':AH):Prop:=∀ d ρ fz a7 R s,St c d ρ σ fz a7 R s→PY c d ρ σ' fz a7 R s
def Ka (c:Cx) (ρ:Loc) (σ:AH) (ρ':Loc) (σ':AH):Prop:=∀ d fz a7 R s,d.keys.Nodup→St c d ρ σ fz a7 R s→PY c d ρ' σ' fz a7 R s
section
variable {c:Cx} {fn:Fn} {n:Nat} {hd:Option Addr} {ρ ρ' ρ'':Loc} {σ σ' σ'':AH} {d:da} {A A':Around} {fz a7:Led} {R:Rest} {s:Shared} {Φ:Pv} {Ψ:Px} {Θ:AF→Loc→AH→Prop} {h h':Heap} {m:Str→Option Value} {led frs:Led}
theorem b7.refl (x:V) (σ:AH):b7 c x σ x σ:=fun d ρ fz a7 R s v S r=>⟨fz,fun _ hp=>hp,S,r⟩
theorem b7.trans {x y z:V} (h1:b7 c x σ y σ') (h2:b7 c y σ' z σ''):b7 c x σ z σ'':=fun d ρ fz a7 R s v S r=>by
 obtain ⟨fz₁,sub₁,S₁,r₁⟩:=h1 d ρ fz a7 R s v S r
 obtain ⟨fz₂,sub₂,S₂,r₂⟩:=h2 d ρ fz₁ a7 R s v S₁ r₁
 exact ⟨fz₂,fun p hp=>sub₂ p (sub₁ p hp),S₂,r₂⟩
theorem cF.v {x:V} (h1:cF c σ σ'):b7 c x σ x σ':=fun d ρ fz a7 R s v S r=>by obtain ⟨fz₁,sub₁,S₁⟩:=h1 d ρ fz a7 R s S; exact ⟨fz₁,sub₁,S₁,r.mono sub₁⟩
theorem cF.trans (h1:cF c σ σ') (h2:cF c σ' σ''):cF c σ σ'':=fun d ρ fz a7 R s S=>by
 obtain ⟨fz₁,sub₁,S₁⟩:=h1 d ρ fz a7 R s S
 obtain ⟨fz₂,sub₂,S₂⟩:=h2 d ρ fz₁ a7 R s S₁
 exact ⟨fz₂,fun p hp=>sub₂ p (sub₁ p hp),S₂⟩
theorem cF.l (h1:cF c σ σ'):Ka c ρ σ ρ σ':=fun d fz a7 R s _ S=>h1 d ρ fz a7 R s S
theorem cF.drop (hs:∀ a o,σ' a=some o→σ a=some o):cF c σ σ':=fun d ρ fz a7 R s S=>by obtain ⟨⟨m,led,frs,Z⟩,hr⟩:=S; exact ⟨fz,fun _ hp=>hp,⟨⟨m,led,frs,Z.drop hs⟩,hr⟩⟩
theorem AH.cj {a b:Addr} (h:b≠a):(σ.del a) b=σ b:=if_neg h
theorem b7.fl {a:Addr} {xs:List V} (hs:σ a=some (.list xs)):b7 c (.ref a) σ (.fl xs) (σ.del a):=fun d ρ fz a7 R s v S r=>by
 obtain ⟨⟨m,led,frs,Z⟩,hr⟩:=S
 obtain rfl:=r.inv
 obtain ⟨vs,k,pre,post,e,p1,p2,rs,hm⟩:=Z.eS hs
 exact ⟨_,fun p hp=>.tail _ hp,⟨⟨_,_,_,Z.freeze hs hm⟩,hr⟩,.fl (.inl (.head _)) (rs.mono fun p hp=>.tail _ hp)⟩
theorem b7.aH {a:Addr} {ks:List Str} {xs:List V} (hs:σ a=some (.ds ks xs)):b7 c (.ref a) σ (.aH ks xs) (σ.del a):=fun d ρ fz a7 R s v S r=>by
 obtain ⟨⟨m,led,frs,Z⟩,hr⟩:=S
 obtain rfl:=r.inv
 obtain ⟨_,_,_,ro,hm,ho⟩:=Z.hp _ _ hs
 obtain ⟨_,k,rfl,nd,rs⟩:=ho.inv
 exact ⟨_,fun p hp=>.tail _ hp,⟨⟨_,_,_,Z.freeze hs hm⟩,hr⟩,.aH nd (.inl (.head _)) (rs.mono fun p hp=>.tail _ hp)⟩
theorem b7.e9 {a:Addr} {ks:List Int} {xs:List V} (hs:σ a=some (.di ks xs)):b7 c (.ref a) σ (.e9 ks xs) (σ.del a):=fun d ρ fz a7 R s v S r=>by
 obtain ⟨⟨m,led,frs,Z⟩,hr⟩:=S
 obtain rfl:=r.inv
 obtain ⟨_,_,_,ro,hm,ho⟩:=Z.hp _ _ hs
 obtain ⟨_,k,rfl,nd,rs⟩:=ho.inv
 exact ⟨_,fun p hp=>.tail _ hp,⟨⟨_,_,_,Z.freeze hs hm⟩,hr⟩,.e9 nd (.inl (.head _)) (rs.mono fun p hp=>.tail _ hp)⟩
theorem b7.obj {a C dd:Addr} {ks:List Str} {xs:List V} (hs:σ a=some (.inst C dd)) (hs2:σ dd=some (.ds ks xs)):b7 c (.ref a) σ (.obj C ks xs) ((σ.del dd).del a):=fun d ρ fz a7 R s v S r=>by
 obtain ⟨⟨m,led,frs,Z⟩,hr⟩:=S
 obtain rfl:=r.inv
 have ne:a≠dd:=fun e=>by subst e; rw [hs] at hs2; cases hs2
 obtain ⟨_,_,_,ro,hm,ho⟩:=Z.hp _ _ hs2
 obtain ⟨_,k,rfl,nd,rs⟩:=ho.inv
 have Z1:=Z.freeze hs2 hm
 have hs':(σ.del dd) a=some (.inst C dd):=by rw [AH.cj ne]; exact hs
 obtain ⟨_,_,_,ro2,hm2,ho2⟩:=Z1.hp _ _ hs'
 obtain rfl:=ho2.inv
 exact ⟨_,fun p hp=>.tail _ (.tail _ hp),⟨⟨_,_,_,Z1.freeze hs' hm2⟩,hr⟩,.obj nd (.inl (.head _)) (.inl (.tail _ (.head _))) (rs.mono fun p hp=>.tail _ (.tail _ hp))⟩
theorem DR.Kd {k:Str} {x y:V} {ks:List Str} {xs ys:List V} {es:List DictEntry} (r:DR c fz ks xs es) (kv:KV k x ks xs) (kp:KP k y ks xs ys) (nd:ks.Nodup) (hy:∀ v,VR c fz x v→VR c fz y v):DR c fz ks ys es:=by
 induction kp generalizing es with
 | head=>
  obtain ⟨_,_,_,rfl,a,rs⟩:=r.De
  rcases kv.inv with ⟨_,rfl⟩ | h
  ·exact .cons (hy _ a) rs
  ·exact absurd h.mem (List.nodup_cons.mp nd).1
 | tail h ih=>
  obtain ⟨_,_,_,rfl,a,rs⟩:=r.De
  rcases kv.inv with ⟨e,_⟩ | h'
  ·exact absurd (e ▸ h.mem) (List.nodup_cons.mp nd).1
  ·exact .cons a (ih rs h' (List.nodup_cons.mp nd).2)
def I1 (c:Cx) (x:V) (σ:AH) (y:V) (σ':AH):Prop:=∀ d ρ fz a7 R s,St c d ρ σ fz a7 R s→Q6 c d ρ σ' fz a7 R s fun fz'=>∀ v,VR c fz x v→VR c fz' y v
theorem I1.KR {a:Addr} {y:V} (h:b7 c (.ref a) σ y σ'):I1 c (.ref a) σ y σ':=fun d ρ fz a7 R s S=>by
 obtain ⟨fz',sub,S',r⟩:=h d ρ fz a7 R s (.ref a) S (.ref a)
 exact ⟨fz',sub,S',fun v hv=>by cases hv; exact r⟩
theorem cF.Ig {a:Addr} {k:Str} {x y:V} {ks:List Str} {xs ys:List V} (e:I1 c x σ y σ') (hs':σ' a=some (.ds ks xs)) (kv:KV k x ks xs) (kp:KP k y ks xs ys) (hx:∀ d ρ fz fz' a7 R s,St c d ρ σ fz a7 R s→St c d ρ σ' fz' a7 R s→∀ v,VR c fz' x v→VR c fz x v):cF c σ (σ'.upd a (.ds ks ys)):=fun d ρ fz a7 R s S=>by
 obtain ⟨fz',sub,S',hy⟩:=e d ρ fz a7 R s S
 have S'':=S'
 obtain ⟨⟨m,led,frs,Z⟩,hr⟩:=S''
 obtain ⟨_,_,_,ro,hm,ho⟩:=Z.hp _ _ hs'
 obtain ⟨_,q,rfl,nd,rs⟩:=ho.inv
 exact ⟨fz',sub,⟨⟨_,_,_,Z.turn hs' hm (.ds q nd (rs.Kd kv kp nd fun v hv=>hy v (hx _ _ _ _ _ _ _ S S' v hv)))⟩,hr⟩⟩
theorem cF.vj {a b:Addr} {k:Str} {y:V} {ks:List Str} {xs ys:List V} (e:b7 c (.ref b) σ y σ') (hs':σ' a=some (.ds ks xs)) (kv:KV k (.ref b) ks xs) (kp:KP k y ks xs ys):cF c σ (σ'.upd a (.ds ks ys)):=
 cF.Ig (I1.KR e) hs' kv kp fun _ _ _ _ _ _ _ _ _ v hv=>by cases hv; exact .ref b
theorem PV.ent {v:Value} (k:PV c d ρ fz a7 R (fun x σ₁=>∃ y σ₂,b7 c x σ₁ y σ₂∧Φ y σ₂) v s):PV c d ρ fz a7 R Φ v s:=by
 obtain ⟨x,σ₁,fz₁,⟨y,σ₂,e,hΦ⟩,r,sub,S⟩:=k
 obtain ⟨fz₂,sub₂,S₂,r₂⟩:=e d ρ fz₁ a7 R s v S r
 exact ⟨y,σ₂,fz₂,hΦ,r₂,fun p hp=>sub₂ p (sub p hp),S₂⟩
theorem SE.ent {e:Expr} (h:SE c fn n hd ρ σ e (fun x σ₁=>∃ y σ₂,b7 c x σ₁ y σ₂∧Φ y σ₂) Ψ):SE c fn n hd ρ σ e Φ Ψ:=fun d A fz a7 R s O L S=>wpAny_mono (h d A fz a7 R s O L S) (fun _ _ k=>k.ent) fun _ _ k=>k
theorem SC.ent {f:Value} {xs:List V} {Ψ:Addr→AH→Prop} (h:SC c n hd f xs σ (fun x σ₁=>∃ y σ₂,b7 c x σ₁ y σ₂∧Φ y σ₂) Ψ):SC c n hd f xs σ Φ Ψ:=fun fn d A ρ fz a7 R s vs O L S r=>wpAny_mono (h fn d A ρ fz a7 R s vs O L S r) (fun _ _ k=>k.ent) fun _ _ k=>k
theorem SB.pre {b:List Stmt} (e:Ka c ρ σ ρ' σ') (h:SB c fn n hd ρ' σ' b Θ Ψ):SB c fn n hd ρ σ b Θ Ψ:=fun d A fz a7 R s O L S=>by
 obtain ⟨fz₁,sub,S₁⟩:=e d fz a7 R s O.keysnd S
 exact wpAny_mono (h d A fz₁ a7 R s O L S₁) (fun _ _ k=>k.weaken sub) fun _ _ k=>k.weaken sub
theorem SE.mono {e:Expr} {Φ':Pv} {Ψ':Px} (h:SE c fn n hd ρ σ e Φ Ψ) (h1:∀ x σ,Φ x σ→Φ' x σ) (h2:∀ ρ a σ,Ψ ρ a σ→Ψ' ρ a σ):SE c fn n hd ρ σ e Φ' Ψ':=fun d A fz a7 R s O L S=>
 wpAny_mono (h d A fz a7 R s O L S) (fun _ _ q=>by obtain ⟨x,σ,fz',a,b,b2,b3⟩:=q; exact ⟨x,σ,fz',h1 _ _ a,b,b2,b3⟩) fun _ _ q=>by obtain ⟨ρ',a,σ,fz',e,p,r,r2⟩:=q; exact ⟨ρ',a,σ,fz',e,h2 _ _ _ p,r,r2⟩
end
def GD (σ:AH) (val:Str→Option V):List (Str×Addr)→AH
 | []=>σ
 | (x,a) :: r=>GD (σ.upd a (.cell (val x))) val r
theorem zj {k:Str→Option NameKind} {x:Str} {bs:List (Str×Value)} {m:Str→Option Value} (h:x∉bs.map (·.1)):bindL k bs m x=m x:=by
 induction bs generalizing m with
 | nil=>rfl
 | cons p r ih=>
  refine (ih fun q=>h (.tail _ q)).trans ?_
  by_cases hk:k p.1=some .local
  ·rw [if_pos hk]; exact if_neg fun e:x=p.1=>h (by rw [e]; exact .head _)
  ·rw [if_neg hk]
theorem rh {k:Str→Option NameKind} {x:Str} {bs:List (Str×Value)} {m:Str→Option Value} (h:x∉bs.map (·.1)):bindC k bs m x=m x:=by
 induction bs generalizing m with
 | nil=>rfl
 | cons p r ih=>
  refine (ih fun q=>h (.tail _ q)).trans ?_
  by_cases hk:k p.1=some .local
  ·rw [if_pos hk]
  ·rw [if_neg hk]; exact if_neg fun e:x=p.1=>h (by rw [e]; exact .head _)
theorem C7 {k:Str→Option NameKind} {x:Str} {u:Value} {bs:List (Str×Value)} {m:Str→Option Value} (hk:k x=some .local) (nd:(bs.map (·.1)).Nodup) (h:(x,u)∈bs):bindL k bs m x=some u:=by
 induction bs generalizing m with
 | nil=>cases h
 | cons p r ih=>
  have nd':=List.nodup_cons.mp nd
  rcases List.mem_cons.mp h with rfl | h
  ·refine (zj nd'.1).trans ?_
   rw [if_pos hk]; exact if_pos rfl
  ·exact ih nd'.2 h
theorem Co {k:Str→Option NameKind} {x:Str} {u:Value} {bs:List (Str×Value)} {m:Str→Option Value} (hk:k x=some .cell) (nd:(bs.map (·.1)).Nodup) (h:(x,u)∈bs):bindC k bs m x=some u:=by
 induction bs generalizing m with
 | nil=>cases h
 | cons p r ih=>
  have nd':=List.nodup_cons.mp nd
  rcases List.mem_cons.mp h with rfl | h
  ·refine (rh nd'.1).trans ?_
   rw [if_neg fun e=>NameKind.noConfusion (Option.some.inj (hk.symm.trans e))]; exact if_pos rfl
  ·exact ih nd'.2 h
section
variable {c:Cx} {fn fn':Fn} {d:da} {ρ ρ':Loc} {σ σ':AH} {fz fz' a7:Led} {R:Rest} {h h':Heap} {m m':Str→Option Value} {led led' frs frs':Led}
theorem Seen.cells {val:Str→Option V} {cm:Str→Option Value} (hval:∀ x,(∀ v,val x=some v→∃ u,cm x=some u∧VR c fz v u)∧(val x=none→cm x=none)) {cl:List (Str×Addr)} (S:Seen c d ρ σ fz a7 h m led frs)
  (nd:(cl.map (·.2)).Nodup) (H:∀ p∈cl,h.IsCell p.2 (cm p.1)∧p.2≠d.L∧c.H0.get? p.2=none∧∀ q∈led,q.1≠p.2):∃ led',Seen c d ρ (GD σ val cl) fz a7 h m led' frs:=by
 induction cl generalizing σ led with
 | nil=>exact ⟨led,S⟩
 | cons p cl ih=>
  have nd':=List.nodup_cons.mp nd
  obtain ⟨⟨ro,g1,g2⟩,g3,g4,g5⟩:=H p (.head _)
  have ho:OR c fz (.cell (val p.1)) ro:=by
   cases q:val p.1 with
   | none=>exact .cell0 (g2.trans (congrArg _ ((hval _).2 q)))
   | some v=>
    obtain ⟨u,e,r⟩:=(hval _).1 v q
    exact .cell (g2.trans (congrArg _ e)) r
  refine ih (S.alloc (a:=p.2) (ro:=ro) S.fr (fun q hq=>?_) g5 ho) nd'.2 fun q hq=>?_
  ·rcases List.mem_cons.mp hq with rfl | hq
   ·exact ⟨g1,g3,g4⟩
   ·exact S.nw q hq
  ·obtain ⟨k1,k2,k3,k4⟩:=H q (.tail _ hq)
   refine ⟨k1,k2,k3,fun w hw=>?_⟩
   rcases List.mem_cons.mp hw with rfl | hw
   ·exact fun e=>nd'.1 (List.mem_map.mpr ⟨q,hq,e.symm⟩)
   ·exact k4 w hw
structure Bd (c:Cx) (fn:Fn) (params:List Str) (keys:List Str) (cn:List Str) (body:List Stmt):Prop where
 at_:Q2 c fn params body
 code:codeIn c.K fn.cdv fn.qual=true
 plain:fn.scope.isCoroutine=false∧fn.scope.isGenerator=false∧fn.scope.kind=.function
 nd:(fn.scope.names.map (·.1)).Nodup
 keysnd:keys.Nodup
 keysin:∀ x∈keys,(x,NameKind.local)∈fn.scope.names
 cellsin:∀ x∈cn,(x,NameKind.cell)∈fn.scope.names
 cells:(cellsFrom 0 fn.scope.names []).map (·.1)=cn
 cellsnd:cn.Nodup
 parin:∀ x∈params,x∈keys∨x∈cn
 parnd:params.Nodup
 nodebug:(fn.scope.names.all fun p=>!(p.1 == ("__debug__" : Str)))=true
theorem lookup_some {cl:List (Str×Addr)} {x:Str}:x∈cl.map (·.1)→(cl.lookup x).isSome=true:=by
 induction cl with
 | nil=>intro h; cases h
 | cons p r ih=>
  obtain ⟨y,a⟩:=p
  intro h
  by_cases e:x=y
  ·subst e; rw [List.lookup_cons,beq_self_eq_true]; rfl
  ·rw [List.lookup_cons,beq_false_of_ne e]
   exact ih (by rw [List.map_cons,List.mem_cons] at h; exact h.resolve_left e)
theorem DL {n:Nat} {hd:Option Addr} {params keys cn:List Str} {body:List Stmt} {xs:List V} {ρ₀:Loc} {val:Str→Option V} {Φ:Pv} {Ψ:Addr→AH→Prop} (G:Bd c fn' params keys cn body) (hlen:xs.length=params.length)
  (h0:ρ₀.map (·.1)=keys) (h1:∀ x v,At ρ₀ x v→(x,v)∈params.zip xs) (h2:∀ x,(∀ v,val x=some v→x∈cn∧(x,v)∈params.zip xs)∧(x∈cn→val x=none→x∉params))
  (hb:∀ cl:List (Str×Addr),cl.map (·.1)=cn→(cl.map (·.2)).Nodup→(∀ p∈cl,σ p.2=none)→SB c { fn' with cl:=cl } n hd ρ₀ (GD σ val cl) body (fun f _ σ'=>Φ (iU f) σ') (fun _ a σ'=>Ψ a σ')):SK c (n + 1) hd (.ref fn'.f) xs σ Φ Ψ:=by
 intro fn d A ρ fz a7 R s vs O L S r
 obtain ⟨name,ps,dV,kV,doc,pm,an,ct,oc,od,osl,hK,hbind⟩:=G.at_
 obtain ⟨⟨m,led,frs,Z⟩,hr⟩:=S
 have X:=O.cx.kin.keeps Z.fr.keep
 obtain ⟨oL,es,ep,hL,hLd,hLk⟩:=Z.fr.ns
 have hl:=r.len
 have hll:vs.length=params.length:=by rw [← hl]; exact hlen
 have hlim:=O.cx.top.nolimit.keeps Z.fr.keep
 have kl:∀ x∈keys,fn'.scope.names.lookup x=some .local:=fun x hx=>dS G.nd (G.keysin x hx)
 have kc:∀ x∈cn,fn'.scope.names.lookup x=some .cell:=fun x hx=>dS G.nd (G.cellsin x hx)
 have hcn:∀ k,(cellsFrom k fn'.scope.names []).map (·.1)=cn:=fun k=>(cellsFrom_names fn'.scope.names k 0 [] [] rfl).trans G.cells
 refine codeAny_call_function (fd:=fnOf name fn'.qual ps body fn'.scope dV kV doc pm an fn'.cdv ct) (by have:=L.depth; omega) (X _ _ hK) rfl G.plain.1 G.plain.2.1 rfl (codeRec_of X G.code) (hbind s vs hll _ _ _ _ ?_)
 refine wpAny_newFunctionEnv_cells G.plain.2.2 (fun y hy=>?_) fun env' he s' x=>?_
 ·have hy':=(List.of_mem_zip hy).1
  rcases G.parin _ hy' with q | q
  ·exact .inl (kl _ q)
  ·exact .inr ⟨kc _ q,lookup_some (by rw [hcn]; exact q)⟩
 subst he
 refine ⟨hlim.keeps x.toInCall.keep,codeAny_func ?_⟩
 obtain ⟨h₁,tk,rfl,_⟩:=x.done
 have hk₁:=x.toInCall.keep
 let cl:=cellsFrom (s.heap.objs.size + 1) fn'.scope.names []
 have hclk:cl.map (·.1)=cn:=hcn _
 have hcell:∀ p∈cl,h₁.IsCell p.2 (bindC (fun y=>fn'.scope.names.lookup y) (params.zip vs) (fun _=>none) p.1)∧s.heap.objs.size < p.2:=fun p hp=>
  ⟨x.cell p.1 p.2 (lookup_of_mem_nodup (show (cl.map (·.1)).Nodup by rw [hclk]; exact G.cellsnd) hp),x.above p.1 p.2 hp⟩
 have hcnd:(cl.map (·.2)).Nodup:=by
  have:=x.apart
  rw [List.nodup_iff_pairwise_ne,List.pairwise_map]
  exact this
 have F₁:Fr c.H0 s.heap.objs.size h₁ (bindL (fun y=>fn'.scope.names.lookup y) (params.zip vs) fun _=>none):=⟨x.toInCall.ns,fun b o e=>hk₁ b o (Z.fr.keep b o e),Nat.le_trans Z.fr.above (Nat.le_of_lt (Heap.lt_size hL))⟩
 have Z₁:=Z.AE (fn:=fn) (A:=A) (keys:=keys) (oL:=oL) (ρ':=ρ₀) hL F₁ hk₁ (Nat.le_refl _) h0 (fun x v hx=>by
  obtain ⟨u,a1,a2⟩:=Af r (h1 x v hx)
  exact ⟨u,C7 (kl x (h0 ▸ hx.mem)) (by rw [List.map_fst_zip (Nat.le_of_eq hll.symm)]; exact G.parnd) a1,a2⟩)
 obtain ⟨led₁,Z₂⟩:=Z₁.cells (val:=val) (cm:=bindC (fun y=>fn'.scope.names.lookup y) (params.zip vs) (fun _=>none)) (cl:=cl) (fun x=>⟨fun v e=>by
  obtain ⟨g1,g2⟩:=(h2 x).1 v e
  obtain ⟨u,a1,a2⟩:=Af r g2
  exact ⟨u,Co (kc x g1) (by rw [List.map_fst_zip (Nat.le_of_eq hll.symm)]; exact G.parnd) a1,a2⟩,fun e=>by
  by_cases hx:x∈params
  ·rcases G.parin x hx with q | q
   ·have:∀ {bs:List (Str×Value)} {mm:Str→Option Value},mm x=none→bindC (fun y=>fn'.scope.names.lookup y) bs mm x=none:=by
     intro bs
     induction bs with
     | nil=>intro mm e; exact e
     | cons p bs ih=>
      intro mm e
      unfold bindC
      refine ih ?_
      split
      ·exact e
      ·rename_i hne
       by_cases hxp:x=p.1
       ·rw [← hxp] at hne; exact absurd (kl x q) hne
       ·show (if x=p.1 then _ else _)=_
        rw [if_neg hxp]; exact e
    exact this rfl
   ·exact absurd hx ((h2 x).2 q e)
  ·rw [rh (by rw [List.map_fst_zip (Nat.le_of_eq hll.symm)]; exact hx)]⟩) hcnd (fun p hp=>by
  obtain ⟨g1,g2⟩:=hcell p hp
  refine ⟨g1,Nat.ne_of_gt g2,Heap.get?_none_of_le (Nat.le_trans (Nat.le_trans Z.fr.above (Nat.le_of_lt (Heap.lt_size hL))) (Nat.le_of_lt g2)),fun q hq=>?_⟩
  rcases List.mem_cons.mp hq with rfl | hq
  ·exact Nat.ne_of_lt (Nat.lt_trans (Heap.lt_size hL) g2)
  ·exact Nat.ne_of_lt (Nat.lt_trans (Heap.lt_size (Z.nw q hq).1) g2))
 have O':Ok c { fn' with cl:=cl } (d.down A fn frs oL s.heap.objs.size keys):=⟨O.cx,L.frames,⟨by show fn.scope.kind≠.module; rw [O.kind]; decide,rfl,⟨es,ep,hLd⟩,O.frs.up Z.frup⟩,G.plain.2.2,G.nd,G.keysnd,G.keysin,G.nodebug⟩
 let fnc:Fn:={ fn' with cl:=cl }
 have L':Lv fnc (d.down A fn frs oL s.heap.objs.size keys) (A.deeper (fnc.env s.heap.objs.size)) n hd:=by
  refine ⟨Around.frames_deeper L.frames,?_,?_,L.handled⟩
  ·have:=L.depth; show A.depth + 1 + 4 * n + 10 < _; omega
  ·have:=L.units; show A.units + 3 + 16 * n + 100 < _; omega
 have hfree:∀ p∈cl,σ p.2=none:=fun p hp=>Z.cw fun q hq=>Nat.ne_of_lt (Nat.lt_trans (Heap.lt_size (Z.nw q hq).1) (hcell p hp).2)
 have St₁:St c (d.down A fn frs oL s.heap.objs.size keys) ρ₀ (GD σ val cl) fz a7 R { s with heap:=h₁,toks:=tk }:=⟨⟨_,_,_,Z₂⟩,hr⟩
 have hb':=hb cl hclk hcnd hfree (d.down A fn frs oL s.heap.objs.size keys) (A.deeper (fnc.env s.heap.objs.size)) fz a7 R _ O' L' St₁
 refine wpAny_mono hb' (fun f s' hf=>?_) (fun e s' hx=>?_)
 ·obtain ⟨x,ρ',σ',fz',hΦ,rel,sub,⟨m',led',frs',Z'⟩,hr'⟩:=hf
  obtain ⟨led'',frs'',Z'',_⟩:=Z'.pop (ρ:=ρ) (m₀:=m) hLd hLk Z.fr.above Z.frup Z.keys (fun x v hx=>by obtain ⟨u,a,b⟩:=Z.lc x v hx; exact ⟨u,a,b.mono sub⟩)
  refine ⟨iU x,σ',fz',hΦ,?_,sub,⟨_,_,_,Z''⟩,hr'⟩
  cases rel with
  | ret r=>exact r
  | _=>exact .none
 ·obtain ⟨ρ',a,σ',fz',rfl,hΨ,sub,X'⟩:=hx
  have fr':(A.deeper (fnc.env s.heap.objs.size)).frames=some (fnc.env s.heap.objs.size :: fn.env d.L :: d.outer):=Around.frames_deeper L.frames
  have lv:=Ak (A:=A.deeper (fnc.env s.heap.objs.size)) (E:=fun _ _=>False) O' fr' X'
  refine wpAny_mono lv (fun _ s'' X''=>?_) (fun _ _ q=>q.elim)
  obtain ⟨⟨m',led',frs',C,dd,ws,Z',hσ,hm,hl',hx'⟩,hr'⟩:=X''
  obtain ⟨led'',frs'',Z'',hin,hsub,hLin,hne⟩:=Z'.pop (ρ:=ρ) (m₀:=m) hLd hLk Z.fr.above Z.frup Z.keys (fun x v hx=>by obtain ⟨u,a,b⟩:=Z.lc x v hx; exact ⟨u,a,b.mono sub⟩)
  refine ⟨ρ,a,σ',fz',rfl,⟨rfl,hΨ⟩,sub,⟨m,led'',frs'',C,dd,ws,Z'',hσ,hin _ hm (hne _ _ hσ),hl',hx'.imp id fun q=>?_⟩,hr'⟩
  obtain ⟨T,oT,ts,t0,_,t2,t3,t4,t5,t6⟩:=q
  refine ⟨T,oT,ts,t0,?_,t2,fun p hp=>t3 p (hsub p hp),t4,t5,t6⟩
  obtain ⟨p,hp,e⟩:=List.mem_map.mp hLin
  exact fun z=>t3 p hp (e.trans z.symm)
theorem Fn.nil {f:Fn} (h:f.cl=[]):{ f with cl:=[] }=f:=by cases f; cases h; rfl
theorem rm:∀ {l:List (Str×NameKind)},(∀ x∈l,x.2≠.cell)→∀ k,cellsFrom k l []=[]
 | [],_,_=>rfl
 | (x,q) :: l,h,k=>by
  have hq:¬ (q == NameKind.cell)=true:=fun e=>h _ (.head _) (eq_of_beq e)
  rw [cellsFrom,if_neg hq]
  exact rm (fun x hx=>h x (.tail _ hx)) k
theorem Jj {n:Nat} {hd:Option Addr} {params keys:List Str} {body:List Stmt} {xs:List V} {ρ₀:Loc} {Φ:Pv} {Ψ:Addr→AH→Prop} (G:FnAt c fn' params keys body) (hlen:xs.length=params.length)
  (h0:ρ₀.map (·.1)=keys) (h1:∀ x v,At ρ₀ x v→(x,v)∈params.zip xs)
  (hb:SB c fn' n hd ρ₀ σ body (fun f _ σ'=>Φ (iU f) σ') (fun _ a σ'=>Ψ a σ')):SK c (n + 1) hd (.ref fn'.f) xs σ Φ Ψ:=
 DL (val:=fun _=>none) ⟨G.at_,G.code,G.plain,G.nd,G.keysnd,G.keysin,fun _ h=>(by cases h),by rw [rm G.nocell]; rfl,List.nodup_nil,fun x hx=>.inl (G.parin x hx),G.parnd,G.nodebug⟩ hlen h0 h1 (fun x=>⟨fun v e=>(by cases e),fun h=>(by cases h)⟩) fun cl e1 _ _=>by
  cases cl with
  | nil=>rw [Fn.nil G.nocl]; exact hb
  | cons p r=>cases e1
theorem Nu {n:Nat} {hd:Option Addr} {params keys:List Str} {body:List Stmt} {xs:List V} {ρ₀:Loc} {Φ:Pv} {Ψ:Addr→AH→Prop} (G:FnAt c fn' params keys body) (hlen:xs.length=params.length)
  (h0:ρ₀.map (·.1)=keys) (h1:∀ x v,At ρ₀ x v→(x,v)∈params.zip xs)
  (hb:SB c fn' n hd ρ₀ σ body (fun f _ σ'=>Φ (iU f) σ') (fun _ a σ'=>Ψ a σ')):SC c (n + 1) hd (.ref fn'.f) xs σ Φ Ψ:=(Jj G hlen h0 h1 hb).sc
end
section
variable {c:Cx} {fn:Fn} {n:Nat} {hd:Option Addr} {ρ ρ':Loc} {σ:AH} {d:da} {A:Around} {fz a7:Led} {R:Rest} {s:Shared} {Φ:Pv} {Ψ:Px} {Θ:AF→Loc→AH→Prop}
theorem L4 {x:Str} {v:V} {a:Addr} {pos:Pos} (hm:(x,NameKind.cell)∈fn.scope.names) (hc:fn.cl.lookup x=some a) (hs:σ a=some (.cell (some v))) (h:Φ v σ):SE c fn n hd ρ σ (.Name x pos) Φ Ψ:=fun d A fz a7 R s O _ S=>by
 obtain ⟨m,led,frs,Z⟩:=S.ex
 obtain ⟨_,_,_,ro,hmem,ho⟩:=Z.hp _ _ hs
 obtain ⟨_,e,r⟩:=ho.inv
 exact nameX_C Z.nw hc hmem e (S.pv r h) O.kind (O.kindOf hm) (eE O.nodebug hm)
theorem St.Hz {x:Str} {v:V} {u:Value} {a:Addr} {o:Option V} {Q:Unit→Shared→Prop} {E:Value→Shared→Prop} (O:Ok c fn d) (S:St c d ρ σ fz a7 R s) (r:VR c fz v u) (hm:(x,NameKind.cell)∈fn.scope.names) (hc:fn.cl.lookup x=some a) (hs:σ a=some (.cell o))
  (h:∀ s',St c d ρ (σ.upd a (.cell (some v))) fz a7 R s'→Q () s'):wpAny (model c.prog c.w) A (storeName (fn.env d.L) x u) Q E s:=by
 obtain ⟨⟨m,led,frs,Z⟩,hr⟩:=S
 obtain ⟨_,_,_,ro,hmem,ho⟩:=Z.hp _ _ hs
 obtain ⟨pre,post,rfl,p1,p2⟩:=bC Z.nd hmem
 have hd:∃ v₀,ro.data=.cell v₀:=by
  cases ho with
  | cell0 e=>exact ⟨_,e⟩
  | cell e _=>exact ⟨_,e⟩
 obtain ⟨v₀,hd⟩:=hd
 exact storeX_C Z.fr Z.nw hc (lL p1 p2) hd (fun h' o' F' N' hd'=>h _ ⟨⟨_,_,_,Z.put (by rw [hs]; rfl) F' N' (.cell hd' r)⟩,hr⟩) O.kind (O.kindOf hm)
end
def EL (c:Cx) (fn:Fn) (n:Nat) (scope:Scope) (cl:List (Str×Addr)) (elt:Expr) (x:Str) (σ:AH) (y z:V):Prop:=
 ∀ d A fz a7 R ρ s C m₂ u (E':Value→Shared→Prop),Ok c fn d→Lv fn d A n none→St c d ρ σ fz a7 R s→s.heap.Ns C m₂→m₂ x=some u→VR c fz y u→
  wpAny (model c.prog c.w) A (eval elt (compEnvC scope cl C (fn.env d.L))) (fun v s'=>VR c fz z v∧∃ tk,s'={ s with toks:=tk }) E' s
def Pp (c:Cx) (fn:Fn) (n:Nat) (scope:Scope) (cl:List (Str×Addr)) (ct:Expr) (x:Str) (σ:AH) (y:V) (b:Bool):Prop:=
 ∀ d A fz a7 R ρ s C m₂ u (E':Value→Shared→Prop),Ok c fn d→Lv fn d A n none→St c d ρ σ fz a7 R s→s.heap.Ns C m₂→m₂ x=some u→VR c fz y u→
  wpAny (model c.prog c.w) A (isTrue ct (compEnvC scope cl C (fn.env d.L)) (eval ct (compEnvC scope cl C (fn.env d.L)))) (fun v s'=>v=b∧∃ tk,s'={ s with toks:=tk }) E' s
section
variable {c:Cx} {fn:Fn} {n:Nat} {hd:Option Addr} {ρ ρ':Loc} {σ:AH} {d:da} {A:Around} {fz a7:Led} {R:Rest} {s:Shared} {Φ:Pv} {Ψ:Px} {Θ:AF→Loc→AH→Prop} {h:Heap} {m:Str→Option Value} {led frs:Led}
theorem CR {x:Str} {p' pos:Pos} {e:Expr} {a:Addr} (hm:(x,NameKind.cell)∈fn.scope.names) (hc:fn.cl.lookup x=some a) (h:SE c fn n hd ρ σ e (fun v σ₁=>∃ o,σ₁ a=some (.cell o)∧Θ .next ρ (σ₁.upd a (.cell (some v)))) Ψ)
  (hs:∀ env,swapsWith e (some (.Name x p')) pos.line env=pure false):SS c fn n hd ρ σ (.Assign [.Name x p'] e pos) Θ Ψ:=
 fun d A fz a7 R s O L S=>wpAny_Assign_Name (aE (h d A fz a7 R s O L S) (fun _ _ k=>k) fun v u σ₁ fz₁ s₁ ⟨o,ho,h₁⟩ r₁ sub₁ S₁=>S₁.Hz O r₁ hm hc ho fun s' S'=>⟨.next,ρ,_,fz₁,h₁,.next,sub₁,S'⟩) (hs _)
theorem bK.Js {xs:List V} {vs:List Value} {x:V} {v:Value} (r:bK c fz xs vs) (q:VR c fz x v):bK c fz (xs ++ [x]) (vs ++ [v]):=r.app (.cons q .nil)
theorem Fx {elt:Expr} {x:Str} {scope:Scope} {cl:List (Str×Addr)} {S:List (Addr×Obj)→Prop} {P:Nat→Value→Prop} {Fin:List Value→List (Addr×Obj)→Prop} {xs:List V} {f:V→V} (O:Ok c fn d) (L:Lv fn d A n none) (Z:Seen c d ρ σ fz a7 h m led frs)
  (hr:s.gens=R.gens∧s.drawn=R.drawn∧s.os=R.os) (hS:S led) (hP:∀ i v,P i v→i < xs.length→∃ y,xs[i]?=some y∧VR c fz y v) (hE:∀ y∈xs,EL c fn n scope cl elt x σ y (f y))
  (hF:∀ ys,bK c fz (xs.map f) ys→Fin ys led):∀ (k i:Nat) (ys:List Value),i + k=xs.length→bK c fz ((xs.take i).map f) ys→CompRest c.prog c.w A c.H0 d.L m (fn.env d.L) elt x scope cl s S P Fin k i ys led:=by
 intro k
 induction k with
 | zero=>exact fun i ys e r=>CompRest.zero (hF ys (by rwa [List.take_of_length_le (by omega)] at r))
 | succ k ih=>
  refine fun i ys e r=>CompRest.succ fun v I oI C oC D m₂ h' tk E' hp hNs hx F N off ne=>?_
  obtain ⟨y,hy,ry⟩:=hP i v hp (by omega)
  have hm:=List.mem_of_getElem? hy
  have N':News c.H0 d.L h' led:=fun p hp=>N p (.tail _ (.tail _ (.tail _ hp)))
  have St':St c d ρ σ fz a7 R { s with heap:=h',toks:=tk }:=⟨⟨m,led,frs,Z.grow F N'⟩,hr⟩
  have hC:h'.Ns C m₂:=hNs.ns (N (C,oC) (.tail _ (.head _))).1
  refine wpAny_mono (hE y hm d A fz a7 R ρ _ C m₂ v E' O L St' hC hx ry) (fun w s' hw=>?_) fun _ _ e=>e
  obtain ⟨rw,tk',rfl⟩:=hw
  refine ⟨h',tk',led,rfl,F,N,off,hS,?_⟩
  refine ih (i + 1) (ys ++ [w]) (by omega) ?_
  have:xs.take (i + 1)=xs.take i ++ [y]:=by rw [List.take_succ,hy]; rfl
  rw [this,List.map_append]
  exact r.Js rw
theorem Cm {ct elt:Expr} {x:Str} {scope:Scope} {cl:List (Str×Addr)} {S:List (Addr×Obj)→Prop} {P:Nat→Value→Prop} {Fin:List Value→List (Addr×Obj)→Prop} {xs:List V} {f:V→V} {b:V→Bool} (O:Ok c fn d) (L:Lv fn d A n none) (Z:Seen c d ρ σ fz a7 h m led frs)
  (hr:s.gens=R.gens∧s.drawn=R.drawn∧s.os=R.os) (hS:S led) (hP:∀ i v,P i v→i < xs.length→∃ y,xs[i]?=some y∧VR c fz y v) (hT:∀ y∈xs,Pp c fn n scope cl ct x σ y (b y)) (hE:∀ y∈xs,EL c fn n scope cl elt x σ y (f y))
  (hF:∀ ys,bK c fz ((xs.filter b).map f) ys→Fin ys led):∀ (k i:Nat) (ys:List Value),i + k=xs.length→bK c fz (((xs.take i).filter b).map f) ys→CompRestT c.prog c.w A c.H0 d.L m (fn.env d.L) ct elt x scope cl s S P Fin k i ys led:=by
 intro k
 induction k with
 | zero=>exact fun i ys e r=>CompRestT.zero (hF ys (by rwa [List.take_of_length_le (by omega)] at r))
 | succ k ih=>
  refine fun i ys e r=>CompRestT.succ fun v I oI C oC D m₂ h' tk E' hp hNs hx F N off ne=>?_
  obtain ⟨y,hy,ry⟩:=hP i v hp (by omega)
  have hm:=List.mem_of_getElem? hy
  have N':News c.H0 d.L h' led:=fun p hp=>N p (.tail _ (.tail _ (.tail _ hp)))
  have St':St c d ρ σ fz a7 R { s with heap:=h',toks:=tk }:=⟨⟨m,led,frs,Z.grow F N'⟩,hr⟩
  have hC:h'.Ns C m₂:=hNs.ns (N (C,oC) (.tail _ (.head _))).1
  have tk1:xs.take (i + 1)=xs.take i ++ [y]:=by rw [List.take_succ,hy]; rfl
  refine wpAny_mono (hT y hm d A fz a7 R ρ _ C m₂ v E' O L St' hC hx ry) (fun q s' hw=>?_) fun _ _ e=>e
  obtain ⟨rfl,tk',rfl⟩:=hw
  cases hb:b y with
  | true=>
   rw [if_pos rfl]
   refine wpAny_mono (hE y hm d A fz a7 R ρ _ C m₂ v E' O L (St'.toks tk') hC hx ry) (fun w s' hw=>?_) fun _ _ e=>e
   obtain ⟨rw,tk'',rfl⟩:=hw
   refine ⟨h',tk'',led,rfl,F,N,off,hS,?_⟩
   refine ih (i + 1) (ys ++ [w]) (by omega) ?_
   rw [tk1,List.filter_append,List.map_append,List.filter_cons_of_pos hb]
   exact r.Js rw
  | false=>
   rw [if_neg (by decide)]
   refine ⟨h',tk',led,rfl,F,N,off,hS,?_⟩
   refine ih (i + 1) ys (by omega) ?_
   rw [tk1,List.filter_append,List.filter_cons_of_neg (by rw [hb]; decide),List.filter_nil,List.append_nil]
   exact r
structure cW (c:Cx) (d:da) (ρ:Loc) (σ:AH) (fz a7:Led) (h:Heap) (m:Str→Option Value) (led frs:Led) (C D:Addr) (zs:List V):Prop where
 z:∃ ys,Seen c d ρ (σ.upd D (.list zs)) fz a7 h m ((D,gF ys ys.length) :: led) frs
 fresh:σ D=none
 c1:C≠d.L
 c0:c.H0.get? C=none
 cd:C≠D
 cl:∀ p∈led,p.1≠C
 ns:∃ m',h.Ns C m'
theorem cW.of {C D:Addr} {h₁:Heap} {m':Str→Option Value} {ys:List Value} {zs:List V} (Z:Seen c d ρ σ fz a7 h₁ m led frs) (F:Fr c.H0 d.L h m) (N:News c.H0 d.L h ((D,lst ys) :: led)) (o1:Off1 D led) (r:bK c fz zs ys) (hn:h.Ns C m') (h1:C≠d.L) (h2:c.H0.get? C=none) (h3:C≠D) (h4:∀ p∈led,p.1≠C):
  cW c d ρ σ fz a7 h m led frs C D zs:=by
 have hf:∀ p∈led,p.1≠D:=by
  clear N r h4 Z
  induction led with
  | nil=>intro p hp; cases hp
  | cons q l ih=>
   intro p hp
   rcases List.mem_cons.mp hp with rfl | hp
   ·exact o1.1
   ·exact ih o1.2 p hp
 exact ⟨⟨ys,Z.alloc F N hf (.list _ r)⟩,Z.cw hf,h1,h2,h3,h4,⟨m',hn⟩⟩
theorem cW.end_ {C D:Addr} {zs:List V} {h':Heap} (X:cW c d ρ σ fz a7 h m led frs C D zs) (hs:Heap.SameBut C h h'):∃ led',Seen c d ρ (σ.upd D (.list zs)) fz a7 h' m led' frs:=by
 obtain ⟨ys,Z⟩:=X.z
 refine ⟨_,Z.grow (Z.fr.change hs X.c1 X.c0) fun p hp=>⟨hs.extBut _ _ ?_ (Z.nw p hp).1,(Z.nw p hp).2⟩⟩
 rcases List.mem_cons.mp hp with rfl | hp
 ·exact X.cd.symm
 ·exact X.cl p hp
theorem cW.store {C D:Addr} {zs:List V} {y:Str} {py:Pos} {E:Value→Shared→Prop} {Q:Unit→Shared→Prop} (X:cW c d ρ σ fz a7 s.heap m led frs C D zs) (O:Ok c fn d) (P:sI y (.ref D) ρ ρ')
  (h:∀ s',(∃ m',s'.heap.Ns C m')→(∀ h',Heap.SameBut C s'.heap h'→∃ m' led',Seen c d ρ' (σ.upd D (.list zs)) fz a7 h' m' led' frs)→s'.gens=s.gens∧s'.drawn=s.drawn∧s'.os=s.os→Q () s'):
  wpAny (model c.prog c.w) A (assign (.Name y py) (fn.env d.L) (.ref D)) Q E s:=by
 obtain ⟨ys,Z⟩:=X.z
 obtain ⟨m',oC,es,ep,e1,e2⟩:=X.ns
 have mem:=O.keysin y (Z.keys ▸ P.mem)
 have N2:News c.H0 d.L s.heap ((C,oC) :: (D,gF ys ys.length) :: led):=fun p hp=>by
  rcases List.mem_cons.mp hp with rfl | hp
  ·exact ⟨e1,X.c1,X.c0⟩
  ·exact Z.nw p hp
 refine wpAny_assign_Name (storeX_L (cl:=fn.cl) Z.fr N2 (fun h' F' N'=>?_) O.kind (O.kindOf mem))
 have N3:News c.H0 d.L h' ((D,gF ys ys.length) :: led):=fun p hp=>N' p (.tail _ hp)
 have Z3:=Z.store O.keysnd P F' N3 (.ref D)
 refine h _ ⟨m',oC,es,ep,(N' _ (.head _)).1,e2⟩ (fun h'' hs=>?_) ⟨rfl,rfl,rfl⟩
 refine ⟨_,_,Z3.grow (Z3.fr.change hs X.c1 X.c0) fun p hp=>⟨hs.extBut _ _ ?_ (Z3.nw p hp).1,(Z3.nw p hp).2⟩⟩
 rcases List.mem_cons.mp hp with rfl | hp
 ·exact X.cd.symm
 ·exact X.cl p hp
theorem DC {elt iter:Expr} {x:Str} {px pos:Pos} {scope:Scope} {cl:List (Str×Addr)} {v:V} {u:Value} {xs:List V} {f:V→V} {E:Value→Shared→Prop} {RR:Value→Addr→Result→Shared→Prop}
  (hcell:∀ y∈scope.names,y.2≠.cell) (hkind:scope.kind=.function) (hx:scope.names.lookup x=some .local) (O:Ok c fn d) (L:Lv fn d A n none) (Z:Seen c d ρ σ fz a7 s.heap m led frs) (hr:s.gens=R.gens∧s.drawn=R.drawn∧s.os=R.os)
  (r:VR c fz v u) (I:ec σ v xs) (hl:xs.length≤100000) (hE:∀ y∈xs,EL c fn n scope cl elt x σ y (f y))
  (k:∀ D C h tk,cW c d ρ σ fz a7 h m led frs C D (xs.map f)→RR (.ref D) C (.ok .next) { s with heap:=h,toks:=tk }):
  wpAny (model c.prog c.w) A (pyIter u) (fun it s₂=>wpAny (model c.prog c.w) A (newList []) (fun acc s₃=>wpAny (model c.prog c.w) A (newFunctionEnv scope (fn.env d.L).globals cl [] (fn.env d.L).qual none .none (some (fn.env d.L))) (fun cenv s₄=>
   codeAny (model c.prog c.w) A (.compStart (.ListComp elt [⟨.Name x px,iter,[],0⟩] scope pos) 0 it acc { cenv with scope:=relabel scope (fn.env d.L) }) (RR acc cenv.locals) s₄) E s₃) E s₂) E s:=by
 obtain ⟨a,vs,q,rfl,hm,rs⟩:=I.real O Z r
 have hil:=Z.isList hm
 have hlt:a < s.heap.objs.size:=Heap.lt_size (Z.nw _ hm).1
 have up:∀ b o,s.heap.get? b=some o→(s.heap.push { cls:=.type "list_iterator", data:=.fields #[.ref a,.int 0 0] }).get? b=some o:=fun b o e=>Heap.get?_push_of_some _ e
 have hlen:=rs.len
 refine wpAny_pyIter_list hil (block_U (Walks.list L.handled s.heap.objs.size a (Nat.ne_of_lt hlt) vs.toArray) (by rw [List.size_toArray,← hlen,sizeLine_eq]; omega) (fun i h st=>by obtain ⟨o,e,_⟩:=st.1; exact ⟨o,e⟩) list_st hcell hkind hx
  ⟨⟨_,Heap.get?_push_size _ rfl,rfl,rfl⟩,hil.push _⟩ (fun b hb=>?_) (Z.fr.keeps up) (Z.nw.grown up) (Nat.ne_of_lt Z.fr.ns.lt) (next_is_new Z.fr) (fun p hp=>Nat.ne_of_lt (Heap.lt_size (Z.nw p hp).1)) (.inr ⟨_,hm,rfl,_,rfl⟩)
  (Fx (R:=R) (s:={ s with heap:=s.heap.push { cls:=.type "list_iterator", data:=.fields #[.ref a,.int 0 0] } }) (S:=SrcAt c.H0 a vs.toArray) (P:=fun i v=>vs.toArray[i]?=some v) (Fin:=fun ys l=>l=led∧bK c fz (xs.map f) ys) (f:=f) O L Z hr (.inr ⟨_,hm,rfl,_,rfl⟩) (fun i v hv hi=>?_) hE (fun ys h=>⟨rfl,h⟩) vs.toArray.size 0 [] (by rw [Nat.zero_add,List.size_toArray,hlen]) .nil) ?_)
 ·show b < (s.heap.push _).objs.size
  rw [Heap.size_push]
  rcases List.mem_cons.mp hb with rfl | hb
  ·exact Nat.lt_succ_self _
  ·rw [List.mem_singleton.mp hb]; exact Nat.lt_succ_of_lt hlt
 ·obtain ⟨y,hy⟩:∃ y,xs[i]?=some y:=⟨_,List.getElem?_eq_getElem hi⟩
  obtain ⟨w,e1,e2⟩:=rs.nth hy
  rw [List.getElem?_toArray] at hv
  rw [hv] at e1; cases e1
  exact ⟨y,hy,e2⟩
 ·intro D C h tk m' ys news' F' N' o1 hn hC₀ hD₀ hCL hDL hCD offC fin
  obtain ⟨rfl,fin⟩:=fin
  exact k D C h tk (cW.of Z F' N' o1 fin hn hCL hC₀ hCD offC)
theorem Ho {elt iter:Expr} {x:Str} {px pos:Pos} {scope:Scope} {cl:List (Str×Addr)} (hclos:∀ L,closureFor scope (fn.env L)=pure cl) (hcell:∀ y∈scope.names,y.2≠.cell) (hkind:scope.kind=.function)
  (hnames:∀ y∈scope.names,y.2=.local→scope.names.lookup y.1=some .local) (hx:scope.names.lookup x=some .local)
  (h:SE c fn n none ρ σ iter (fun v σ₁=>∃ xs f,ec σ₁ v xs∧xs.length≤100000∧(∀ y∈xs,EL c fn n scope cl elt x σ₁ y (f y))∧∀ a,σ₁ a=none→Φ (.ref a) (σ₁.upd a (.list (xs.map f)))) Ψ)
  (hs:∀ env x,foldedSetIterable iter env x=pure x):SE c fn n none ρ σ (.ListComp elt [⟨.Name x px,iter,[],0⟩] scope pos) Φ Ψ:=fun d A fz a7 R s O L S=>by
 rw [eval_ListComp]
 refine wpAny_comprehension_free (use:=none) rfl (hs _) (hclos _) hkind hnames (aE (h d A fz a7 R s O L S) (fun _ _ k=>k) fun v u σ₁ fz₁ s₁ h₁ r₁ sub₁ S₁=>?_)
 obtain ⟨xs,f,I,hl,hE,hΦ⟩:=h₁
 obtain ⟨⟨m,led,frs,Z⟩,hr⟩:=S₁
 refine DC hcell hkind hx O L Z hr r₁ I hl hE fun D C h tk X=>?_
 obtain ⟨m',hn⟩:=X.ns
 refine ⟨m',hn,fun h' hs'=>?_⟩
 obtain ⟨led',Z'⟩:=X.end_ hs'
 exact ⟨_,_,fz₁,hΦ D X.fresh,.ref D,sub₁,⟨_,_,_,Z'⟩,hr⟩
theorem Ic {elt iter:Expr} {x y:Str} {px py pos spos:Pos} {scope:Scope} {cl:List (Str×Addr)} (hclos:∀ L,closureFor scope (fn.env L)=pure cl) (hcell:∀ y∈scope.names,y.2≠.cell) (hkind:scope.kind=.function)
  (hnames:∀ y∈scope.names,y.2=.local→scope.names.lookup y.1=some .local) (hx:scope.names.lookup x=some .local) (hsw:∀ L,swapsWith (.ListComp elt [⟨.Name x px,iter,[],0⟩] scope pos) (some (.Name y py)) spos.line (fn.env L)=pure true)
  (h:SE c fn n none ρ σ iter (fun v σ₁=>∃ xs f,ec σ₁ v xs∧xs.length≤100000∧(∀ y∈xs,EL c fn n scope cl elt x σ₁ y (f y))∧∀ a,σ₁ a=none→∃ ρ',sI y (.ref a) ρ ρ'∧Θ .next ρ' (σ₁.upd a (.list (xs.map f)))) Ψ)
  (hs:∀ env x,foldedSetIterable iter env x=pure x):SS c fn n none ρ σ (.Assign [.Name y py] (.ListComp elt [⟨.Name x px,iter,[],0⟩] scope pos) spos) Θ Ψ:=fun d A fz a7 R s O L S=>by
 rw [exec_Assign_Name_used _ _ _ _ (hsw _)]
 refine wpAny_bind (wpAny_standAt (wpAny_bind ?_))
 show wpAny _ A (do let _ ← comprehension (.ListComp elt [⟨.Name x px,iter,[],0⟩] scope pos) scope (fn.env d.L) _ (newList []) false (eval iter (fn.env d.L)) (some (assign (.Name y py) (fn.env d.L)))) _ _ s
 refine wpAny_bind (wpAny_mono (wpAny_comprehension_free (use:=some (assign (.Name y py) (fn.env d.L))) (Q:=fun _ s'=>PF c d fz a7 R Θ .next s') rfl (hs _) (hclos _) hkind hnames (aE (h d A fz a7 R s O L S) (fun _ _ k=>k) fun v u σ₁ fz₁ s₁ h₁ r₁ sub₁ S₁=>?_))
  (fun _ s' hq=>wpAny_pure (wpAny_pure hq)) fun _ _ e=>e)
 obtain ⟨xs,f,I,hl,hE,hΦ⟩:=h₁
 obtain ⟨⟨m,led,frs,Z⟩,hr⟩:=S₁
 refine DC hcell hkind hx O L Z hr r₁ I hl hE fun D C h tk X=>?_
 obtain ⟨ρ',P,hΘ⟩:=hΦ D X.fresh
 refine cW.store (s:={ s₁ with heap:=h,toks:=tk }) X O P fun s' hn hz hq=>?_
 obtain ⟨m',hn⟩:=hn
 refine ⟨m',hn,fun h' hs'=>?_⟩
 obtain ⟨m'',led',Z'⟩:=hz h' hs'
 exact ⟨.next,_,_,fz₁,hΘ,.next,sub₁,⟨_,_,_,Z'⟩,hq.1.trans hr.1,hq.2.1.trans hr.2.1,hq.2.2.trans hr.2.2⟩
end
section
variable {c:Cx} {fn:Fn} {n:Nat} {hd:Option Addr} {ρ ρ':Loc} {σ:AH} {d:da} {A:Around} {fz a7:Led} {R:Rest} {s:Shared} {Φ:Pv} {Ψ:Px} {Θ:AF→Loc→AH→Prop} {h:Heap} {m:Str→Option Value} {led frs:Led}
theorem Kx {ct elt iter:Expr} {x:Str} {px pos:Pos} {scope:Scope} {cl:List (Str×Addr)} {u:Value} {N:Nat} {f:V→V} {b:V→Bool} {E:Value→Shared→Prop} {RR:Value→Addr→Result→Shared→Prop}
  (hcell:∀ y∈scope.names,y.2≠.cell) (hkind:scope.kind=.function) (hx:scope.names.lookup x=some .local) (O:Ok c fn d) (L:Lv fn d A n none) (Z:Seen c d ρ σ fz a7 s.heap m led frs) (hr:s.gens=R.gens∧s.drawn=R.drawn∧s.os=R.os)
  (r:VR c fz (.rng 0 N 1) u) (hl:N≤100000) (hT:∀ k:Nat,k < N→Pp c fn n scope cl ct x σ (.int k) (b (.int k))) (hE:∀ k:Nat,k < N→EL c fn n scope cl elt x σ (.int k) (f (.int k)))
  (k:∀ D C h tk,cW c d ρ σ fz a7 h m led frs C D ((((List.range N).map fun k:Nat=>V.int k).filter b).map f)→RR (.ref D) C (.ok .next) { s with heap:=h,toks:=tk }):
  wpAny (model c.prog c.w) A (pyIter u) (fun it s₂=>wpAny (model c.prog c.w) A (newList []) (fun acc s₃=>wpAny (model c.prog c.w) A (newFunctionEnv scope (fn.env d.L).globals cl [] (fn.env d.L).qual none .none (some (fn.env d.L))) (fun cenv s₄=>
   codeAny (model c.prog c.w) A (.compStart (.ListComp elt [⟨.Name x px,iter,[ct],0⟩] scope pos) 0 it acc { cenv with scope:=relabel scope (fn.env d.L) }) (RR acc cenv.locals) s₄) E s₃) E s₂) E s:=by
 obtain ⟨t1,t2,t3,a,rfl,hk⟩:=r.inv
 have hir:=Z.known O.cx.kin hk
 have hsz:Builtin.Range.rangeSize 0 (N:Int) 1=((N:Nat):Int):=by rw [rangeSize_one]; split <;> omega
 have hsm:Builtin.Range.small 0 (N:Int) 1=true:=small_one (by omega) (by omega) (by omega) (by omega)
 have up:∀ (o:Obj) b o',s.heap.get? b=some o'→(s.heap.push o).get? b=some o':=fun o b o' e=>Heap.get?_push_of_some _ e
 refine wpAny_pyIter_range hir hsm (block_T (Fin:=fun ys l=>l=led∧bK c fz ((((List.range N).map fun k:Nat=>V.int k).filter b).map f) ys) (range_walks L.handled 0 N) (by rw [sizeLine_eq]; omega) (fun i h st=>⟨_,st⟩) range_st hcell hkind hx (by show IsRangeIter _ _ _ _ _; rw [hsz]; simpa using Heap.get?_push_size _ rfl) (fun b hb=>?_)
  (Z.fr.keeps (up _)) (Z.nw.grown (up _)) (Nat.ne_of_lt Z.fr.ns.lt) (next_is_new Z.fr) (fun p hp=>Nat.ne_of_lt (Heap.lt_size (Z.nw p hp).1)) trivial ?_ ?_)
 ·rw [List.mem_singleton.mp hb]
  show s.heap.objs.size < (s.heap.push _).objs.size
  rw [Heap.size_push]; exact Nat.lt_succ_self _
 ·have hmem:∀ y∈((List.range N).map fun k:Nat=>V.int k),∃ k,k < N∧y=.int (k:Nat):=fun y hy=>by
   obtain ⟨k,h1,h2⟩:=List.mem_map.mp hy
   exact ⟨k,List.mem_range.mp h1,h2.symm⟩
  refine Cm (R:=R) (xs:=(List.range N).map fun k:Nat=>V.int k) (f:=f) (b:=b) O L Z ?_ trivial (fun i v hv hi=>?_) (fun y hy=>?_) (fun y hy=>?_) (fun ys h=>⟨rfl,h⟩) N 0 [] (by simp) .nil
  ·exact hr
  ·obtain ⟨t,rfl⟩:=hv
   rw [List.length_map,List.length_range] at hi
   exact ⟨.int i,by simp [hi],by rw [Int.zero_add]; exact .int _ _⟩
  ·obtain ⟨k,h1,rfl⟩:=hmem y hy; exact hT k h1
  ·obtain ⟨k,h1,rfl⟩:=hmem y hy; exact hE k h1
 ·intro D C h tk m' ys news' F' N' o1 hn hC₀ hD₀ hCL hDL hCD offC fin
  obtain ⟨rfl,fin⟩:=fin
  exact k D C h tk (cW.of Z F' N' o1 fin hn hCL hC₀ hCD offC)
theorem HG {ct elt iter:Expr} {x y:Str} {px py pos spos:Pos} {scope:Scope} {cl:List (Str×Addr)} (hclos:∀ L,closureFor scope (fn.env L)=pure cl) (hcell:∀ y∈scope.names,y.2≠.cell) (hkind:scope.kind=.function)
  (hnames:∀ y∈scope.names,y.2=.local→scope.names.lookup y.1=some .local) (hx:scope.names.lookup x=some .local) (hsw:∀ L,swapsWith (.ListComp elt [⟨.Name x px,iter,[ct],0⟩] scope pos) (some (.Name y py)) spos.line (fn.env L)=pure true)
  (h:SE c fn n none ρ σ iter (fun v σ₁=>∃ (N:Nat) (f:V→V) (b:V→Bool),v=.rng 0 N 1∧N≤100000∧(∀ k:Nat,k < N→Pp c fn n scope cl ct x σ₁ (.int k) (b (.int k)))∧(∀ k:Nat,k < N→EL c fn n scope cl elt x σ₁ (.int k) (f (.int k)))∧
   ∀ a,σ₁ a=none→∃ ρ',sI y (.ref a) ρ ρ'∧Θ .next ρ' (σ₁.upd a (.list ((((List.range N).map fun k:Nat=>V.int k).filter b).map f)))) Ψ)
  (hs:∀ env x,foldedSetIterable iter env x=pure x):SS c fn n none ρ σ (.Assign [.Name y py] (.ListComp elt [⟨.Name x px,iter,[ct],0⟩] scope pos) spos) Θ Ψ:=fun d A fz a7 R s O L S=>by
 rw [exec_Assign_Name_used _ _ _ _ (hsw _)]
 refine wpAny_bind (wpAny_standAt (wpAny_bind ?_))
 show wpAny _ A (do let _ ← comprehension (.ListComp elt [⟨.Name x px,iter,[ct],0⟩] scope pos) scope (fn.env d.L) _ (newList []) false (eval iter (fn.env d.L)) (some (assign (.Name y py) (fn.env d.L)))) _ _ s
 refine wpAny_bind (wpAny_mono (wpAny_comprehension_free (use:=some (assign (.Name y py) (fn.env d.L))) (Q:=fun _ s'=>PF c d fz a7 R Θ .next s') rfl (hs _) (hclos _) hkind hnames (aE (h d A fz a7 R s O L S) (fun _ _ k=>k) fun v u σ₁ fz₁ s₁ h₁ r₁ sub₁ S₁=>?_))
  (fun _ s' hq=>wpAny_pure (wpAny_pure hq)) fun _ _ e=>e)
 obtain ⟨N,f,b,rfl,hl,hT,hE,hΦ⟩:=h₁
 obtain ⟨⟨m,led,frs,Z⟩,hr⟩:=S₁
 refine Kx hcell hkind hx O L Z hr r₁ hl hT hE fun D C h tk X=>?_
 obtain ⟨ρ',P,hΘ⟩:=hΦ D X.fresh
 refine cW.store (s:={ s₁ with heap:=h,toks:=tk }) X O P fun s' hn hz hq=>?_
 obtain ⟨m',hn⟩:=hn
 refine ⟨m',hn,fun h' hs'=>?_⟩
 obtain ⟨m'',led',Z'⟩:=hz h' hs'
 exact ⟨.next,_,_,fz₁,hΘ,.next,sub₁,⟨_,_,_,Z'⟩,hq.1.trans hr.1,hq.2.1.trans hr.2.1,hq.2.2.trans hr.2.2⟩
end
section
variable {c:Cx} {fn:Fn} {n:Nat} {hd:Option Addr} {ρ:Loc} {σ:AH} {Φ:Pv} {Ψ:Px}
theorem Mp {o:Expr} {args:List Expr} {apos pos:Pos}
  (h:SE c fn n hd ρ σ o (fun ov σ₁=>∃ ks xs,Aw σ₁ ov ks xs∧SA c fn n hd ρ σ₁ args (fun ys σ₂=>SC c n hd (.builtin "dict.get") (ov :: ys) σ₂ Φ (Ψ ρ)) Ψ) Ψ) (hp:Plain args) {pl:Env→Sem Bool}
  (he:∀ env,eval (.Call (.Attribute o "get" apos) args [] pos) env=(do
   let ov ← eval o env
   standAt apos.atName
   let (f,first) ← holding [ov] (getMethod ov "get" (pl env))
   callWith pos f first (backTo pos (starEach args env)) [])):SE c fn n hd ρ σ (.Call (.Attribute o "get" apos) args [] pos) Φ Ψ:=
 fun d A fz a7 R s O L S=>MethodCall_ (pl:=pl (fn.env d.L)) (aE (h d A fz a7 R s O L S) (fun _ _ k=>k) fun x v σ₁ fz₁ s₁ ⟨ks,xs,I,ha⟩ r₁ sub₁ S₁=>by
  have S₂:=S₁
  obtain ⟨⟨m,led,frs,Z⟩,hr⟩:=S₂
  obtain ⟨a,es,q,rfl,hg,rs,nd,lo⟩:=I.real O Z r₁
  obtain ⟨kvs,p1,p2,p3,p4⟩:=rs.pairs
  have hD:s₁.heap.DictOf (strKind c.prog c.w) a kvs:=Heap.dictOf_iff.mpr ⟨_,hg,cg p1 p4 (p2 ▸ nd)⟩
  refine getMethod_builtin hD.typeIs PySem.F.plainAttrs_dict PySem.F.slot_dict_get rfl (fun b e=>by cases e; exact ⟨_,hg,rfl⟩) ?_
  exact back sub₁ (BM (firstx:=[x]) (fun h X=>⟨.machine,.inr (.inl rfl),Looks.of_pure rfl⟩) O L S₁ (.cons r₁ .nil) ha hp)) (he _)
end
section
variable {c:Cx} {fn:Fn} {n:Nat} {hd:Option Addr} {ρ ρ':Loc} {σ τ:AH} {Φ:Pv} {Ψ:Px} {Y:Addr→AH→Prop} {a:Addr} {xs ys:List V}
theorem SA.mono {es:List Expr} {Φ Φ':List V→AH→Prop} (h:SA c fn n hd ρ σ es Φ Ψ) (h1:∀ x σ,Φ x σ→Φ' x σ):SA c fn n hd ρ σ es Φ' Ψ:=fun pos d A fz a7 R s O L S=>
 wpAny_mono (h pos d A fz a7 R s O L S) (fun vs s' hw=>by obtain ⟨xs,σ',fz',a1,a2,a3,a4⟩:=hw; exact ⟨xs,σ',fz',h1 _ _ a1,a2,a3,a4⟩) fun _ _ h=>h
abbrev S1 (Φ:Pv):List V→AH→Prop:=fun xs σ=>xs.length≤100000∧Φ (.fl xs) σ
theorem J7 {elts:List Expr} {pos:Pos} (h:SA c fn n hd ρ σ elts (S1 Φ) Ψ):SE c fn n hd ρ σ (.List elts pos) Φ Ψ:=
 SE.ent (Gs (h.mono fun xs σ₁ hx=>⟨hx.1,fun a ha=>⟨.fl xs,σ₁,by have:=b7.fl (c:=c) (AH.a9 σ₁ a (.list xs)); rwa [AH.dw ha] at this,hx.2⟩⟩))
theorem L7 {x y:V} (I:ec σ x xs) (J:ec σ y ys) (hl:xs.length + ys.length≤100000) (h:Φ (.fl (xs ++ ys)) σ):O2 c fn n hd (binaryOp .Add) x y ρ σ Φ Ψ:=fun d A fz a7 R s v u O L S r1 r2=>
 wpAny_mono (qE (Φ:=fun x' σ₁=>∃ y' σ₂,b7 c x' σ₁ y' σ₂∧Φ y' σ₂) I J hl (fun a ha=>⟨.fl (xs ++ ys),σ,by have:=b7.fl (c:=c) (AH.a9 σ a (.list (xs ++ ys))); rwa [AH.dw ha] at this,h⟩) d A fz a7 R s v u O L S r1 r2) (fun _ _ k=>k.ent) fun _ _ k=>k
end
section
variable {c:Cx} {fn:Fn} {n:Nat} {ρ:Loc} {σ:AH} {X:Px}
theorem ST.mono {hd:Option Addr} {e:Expr} {Φ Φ':Bool→AH→Prop} (h:ST c fn n hd ρ σ e Φ X) (h1:∀ b σ,Φ b σ→Φ' b σ):ST c fn n hd ρ σ e Φ' X:=fun d A fz a7 R s O L S=>
 wpAny_mono (h d A fz a7 R s O L S) (fun b s₁ ⟨σ₁,fz₁,a,sub,S₁⟩=>⟨σ₁,fz₁,h1 _ _ a,sub,S₁⟩) fun _ _ k=>k
end
def nth (l:List Stmt) (i:Nat):Stmt:=l.getD i (.Pass ⟨0,0,0,0⟩)
def Pm (s:Stmt):List Stmt×Scope×Arguments×List Expr:=
 let s0:Scope:={ kind:=.function,names:=[],isGenerator:=false,isCoroutine:=false,more:=[] }
 let a0:Arguments:={ posonlyargs:=[],args:=[],vararg:=none,kwonlyargs:=[],kw_defaults:=[],kwarg:=none,defaults:=[] }
 match s with
 | .FunctionDef _ a b _ _ _ s _ _ _=>(b,s,a,[])
 | .ClassDef _ _ _ b _ _ _ _ _ _ _=>(b,s0,a0,[])
 | .For _ _ b _ _=>(b,s0,a0,[])
 | .If e b _ _=>(b,s0,a0,[e])
 | .Assign _ e _=>([],s0,a0,[e])
 | _=>([],s0,a0,[])
def bodyOf (s:Stmt):List Stmt:=(Pm s).1
def lN (s:Stmt):Scope:=(Pm s).2.1
def oA (s:Stmt):Arguments:=(Pm s).2.2.1
abbrev top:List Stmt:=PySem.Challenge.pw_xm0343_01.main.body
def en (P:Params) (x:Str) (t:Nat) (v:Value):DictEntry:={ hash:=PyData.keyHash P x,key:=.str x t,val:=v }
def cdO (n q:Str) (t:Nat) (l a b c f:Int) (r:Nat) (z:Int) (u:Nat):Obj:={ cls:=.type "code", data:=.fields #[.str n t,.str q (t + 1),.str "/claim/cut.py" (t + 2),.int l 0,.int a 0,.int b 0,.int c 0,.int f 0,.ref r,.bool true,.int z 0,.ref (r + 1),.none,.ref (r + 2),.ref (r + 3),.ref (r + 4),.int ((u - 1:Nat):Int) 0,.int l 0,.str "/claim/cut.py" u] }
def fnO (n q:Str) (s:Stmt) (m:Str) (t:Nat) (c:Addr):Obj:={ cls:=.type "function", data:=.func { name:=n,qualname:=q,params:=oA s,body:=.stmts (bodyOf s),scope:=lN s,globals:=3,closure:=[],defaults:=.none,kwdefaults:=.none,pyModule:=.str m t,code:=.ref c } }
def clO (n:Str) (b m:List Value) (s:Addr) (l:Array (Option Value)):Obj:={ cls:=.type "type", data:=.cls { name:=n,bases:=b,mro:=m,ns:=s,qualname:=n },slots:=l }
def dcO (es:Array DictEntry) (n:Nat):Obj:={ cls:=.type "dict", data:=.dict es n }
def gsO (vs:List Value):Obj:={ cls:=.type "getset_descriptor", data:=.fields vs.toArray }
def gk (x:Str) (t:Nat) (v:Value) (l:List (Str×Nat×Value)):=(x,t,v) :: l
def gK:=gk "__name__" 165 (.str "law_xm0343_01" 2120) <| gk "__doc__" 166 .none <| gk "__package__" 167 .none <| gk "__loader__" 168 (.builtin "__main__.__loader__#opaque") <| gk "__spec__" 169 .none <| gk "__annotations__" 170 (.ref 6) <| gk "__builtins__" 171 (.ref 4) <| gk "__file__" 173 (.str "/claim/cut.py" 172) <| gk "__cached__" 174 .none <| gk "_wall" 193 (.ref 21) <| gk "TK_END" 195 (.int 0 194) <| gk "TK_NAME" 197 (.int 1 196) <| gk "TK_WORD" 199 (.int 2 198) <| gk "TK_INT" 201 (.int 3 200) <| gk "TK_TEXT" 203 (.int 4 202) <| gk "TK_CHAR" 205 (.int 5 204) <| gk "TK_SIGN" 207 (.int 6 206) <| gk "N_INT" 211 (.int 1 210) <| gk "N_TEXT" 213 (.int 2 212) <| gk "N_CHARLIT" 215 (.int 3 214) <| gk "N_TRUE" 217 (.int 4 216) <| gk "N_FALSE" 219 (.int 5 218) <| gk "N_NULL" 221 (.int 6 220) <| gk "N_NAME" 223 (.int 7 222) <| gk "N_THIS" 225 (.int 8 224) <| gk "N_BASE" 227 (.int 9 226) <| gk "N_PAREN" 229 (.int 10 228) <| gk "N_MEMBER" 231 (.int 11 230) <| gk "N_CALL" 233 (.int 12 232) <| gk "N_ARG" 235 (.int 13 234) <| gk "N_INDEX" 237 (.int 14 236) <| gk "N_NEW" 239 (.int 15 238) <| gk "N_NEWARR" 241 (.int 16 240) <| gk "N_UNARY" 243 (.int 17 242) <| gk "N_PRE" 245 (.int 18 244) <| gk "N_POST" 247 (.int 19 246) <| gk "N_BIN" 249 (.int 20 248) <| gk "N_LOGIC" 251 (.int 21 250) <| gk "N_COND" 253 (.int 22 252) <| gk "N_ASSIGN" 255 (.int 23 254) <| gk "N_CAST" 257 (.int 24 256) <| gk "N_IS" 259 (.int 25 258) <| gk "N_AS" 261 (.int 26 260) <| gk "N_DEFAULT" 263 (.int 27 262) <| gk "N_TYPEOF" 265 (.int 28 264) <| gk "N_CHECKED" 267 (.int 29 266) <| gk "N_LAMBDA" 269 (.int 30 268) <| gk "N_AWAIT" 271 (.int 31 270) <| gk "N_TYPE" 273 (.int 40 272) <| gk "N_TARRAY" 275 (.int 41 274) <| gk "N_TNULL" 277 (.int 42 276) <| gk "N_PARAM" 279 (.int 100 278) <| gk "N_LIST" 281 (.int 110 280) <| gk "M_ASYNC" 283 (.int 4096 282) <| gk "M_REF" 285 (.int 8192 284) <| gk "M_OUT" 287 (.int 16384 286) <| gk "Node" 325 (.ref 38) <| gk "Diags" 378 (.ref 80) <| gk "leaf" 387 (.ref 91) <| gk "twig" 397 (.ref 98) <| gk "node_row" 405 (.ref 105) <| gk "with_mods" 413 (.ref 112) <| gk "unmarked" 420 (.ref 119) <| gk "RuneError" 453 (.ref 136) <| gk "TooDeep" 469 (.ref 149) <| gk "LeftOut" 485 (.ref 161) <| gk "BindStop" 501 (.ref 173) <| gk "MOST_PARTS" 505 (.int 40 504) <| gk "MOST_CHAIN" 507 (.int 40 506) <| gk "PT_TYPE" 509 (.int 1 508) <| gk "PT_EXPR" 511 (.int 2 510) <| gk "PT_BLOCK" 513 (.int 4 512) <| gk "PT_ARGS" 515 (.int 7 514) <| gk "SIGN_NUMBERS" 528 (.ref 176) <| gk "TOKEN_KEYS" 544 (.ref 177) <| gk "Part" 572 (.ref 194) <| gk "Parser" 758 (.ref 341) <| gk "read_part" 767 (.ref 352) <| gk "is_token" 776 (.ref 359) <| gk "eat_token" 785 (.ref 366) <| gk "need_sign" 793 (.ref 373) <| gk "need_sign_cspcore" 794 (.ref 373) <| gk "sign_ahead" 803 (.ref 380) <| gk "key_of" 810 (.ref 387) <| gk "shown" 817 (.ref 394) <| gk "check_chain" 825 (.ref 401) <| gk "KEY_TYPES" 864 (.ref 402) <| gk "REAL_TYPES" 874 (.ref 403) <| gk "BEHIND_ARGS" 935 (.ref 404) <| gk "EXPR_WORDS" 1002 (.ref 406) <| gk "EXPR_SIGNS" 1024 (.ref 408) <| gk "TypePart" 1048 (.ref 425) <| gk "install_types" 1055 (.ref 434) <| gk "read_type" 1063 (.ref 441) <| gk "read_plain_type" 1072 (.ref 448) <| gk "read_key_type" 1080 (.ref 455) <| gk "read_type_tail" 1090 (.ref 462) <| gk "read_type_args" 1098 (.ref 469) <| gk "read_return_type" 1105 (.ref 476) <| gk "try_type" 1113 (.ref 483) <| gk "try_type_args" 1123 (.ref 490) <| gk "behind_args" 1130 (.ref 497) <| gk "starts_expr" 1137 (.ref 504) <| gk "is_sure_type" 1144 (.ref 511) <| gk "POWERS" 1210 (.ref 512) <| gk "POWER_RIGHT" 1212 (.int 1 1211) <| gk "POWER_LOGIC" 1214 (.int 3 1213) <| gk "ASSIGN_SIGNS" 1248 (.ref 514) <| gk "PATTERN_KEYS" 1270 (.ref 515) <| gk "HEAD_KINDS" 1289 (.ref 516) <| gk "FirstRead" 1317 (.ref 533) <| gk "TailRead" 1346 (.ref 554) <| gk "ExprPart" 1370 (.ref 575) <| gk "ArgsPart" 1394 (.ref 594) <| gk "read_expr" 1405 (.ref 603) <| gk "read_choice" 1415 (.ref 610) <| gk "sign_here" 1424 (.ref 617) <| gk "operator_here" 1432 (.ref 624) <| gk "pass_tokens" 1440 (.ref 631) <| gk "read_binary" 1454 (.ref 638) <| gk "binds_first" 1463 (.ref 645) <| gk "join_last" 1474 (.ref 652) <| gk "read_is" 1484 (.ref 659) <| gk "read_unary" 1494 (.ref 666) <| gk "read_prefix" 1502 (.ref 673) <| gk "read_cast" 1512 (.ref 680) <| gk "follows_cast" 1519 (.ref 687) <| gk "read_primary" 1529 (.ref 694) <| gk "ValueLeaf" 1563 (.ref 718) <| gk "WordLeaf" 1596 (.ref 744) <| gk "OutRead" 1620 (.ref 763) <| gk "NameRead" 1645 (.ref 782) <| gk "type_args_here" 1652 (.ref 791) <| gk "BaseRead" 1677 (.ref 808) <| gk "KeyTypeRead" 1702 (.ref 827) <| gk "ParenRead" 1728 (.ref 846) <| gk "DefaultRead" 1754 (.ref 865) <| gk "TypeofRead" 1780 (.ref 884) <| gk "CheckedRead" 1806 (.ref 903) <| gk "NewRead" 1833 (.ref 922) <| gk "read_new_array" 1845 (.ref 931) <| gk "read_items" 1854 (.ref 938) <| gk "read_args" 1865 (.ref 945) <| gk "read_arg" 1874 (.ref 952) <| gk "declares_here" 1884 (.ref 959) <| gk "MemberTail" 1910 (.ref 976) <| gk "CallTail" 1935 (.ref 995) <| gk "IndexTail" 1960 (.ref 1014) <| gk "PostTail" 1985 (.ref 1033) <| gk "OutTail" 2010 (.ref 1052) <| gk "LambdaRead" 2034 (.ref 1071) <| gk "read_lambda" 2046 (.ref 1080) <| gk "lambda_head" 2055 (.ref 1087) <| gk "in_params" 2062 (.ref 1094) <| gk "read_lambda_params" 2072 (.ref 1101) <| gk "read_lambda_param" 2082 (.ref 1108) <| gk "install_p_literals" 2089 (.ref 1115) <| gk "install_p_names" 2097 (.ref 1122) <| gk "install_p_words" 2105 (.ref 1129) <| gk "install_p_tails" 2112 (.ref 1136) <| gk "install_exprs" 2119 (.ref 1143) <| gk "_law_POOLS" 2171 (.ref 1152) <| gk "_law_BEFORE" 2180 (.ref 1153) <| gk "_law_BEHIND" 2186 (.ref 1154) <| gk "_law_ASSIGNS" 2198 (.ref 1155) <| gk "_law_take" 2208 (.ref 1162) <| gk "_law_operand" 2226 (.ref 1169) <| gk "_law_powers" 2236 (.ref 1176) <| gk "_law_fold" 2242 (.ref 1181) <| gk "_law_tree" 2248 (.ref 1186) <| gk "_law_chain" 2275 (.ref 1193) <| gk "_law_whole" 2298 (.ref 1200) <| gk "_law_tokens" 2311 (.ref 1207) <| gk "_law_rows" 2321 (.ref 1214) <| gk "_law_holds" 2336 (.ref 1221) <| gk "law" 2342 (.ref 1226) []
def K1 (P:Params):Frag:=[
 (2,{ cls:=.none,data:=.dict #[en P "type.__subclasses__.Exception.0" 450 (.int 136 0),en P "type.__subclasses__.Exception.n" 451 (.int 1 0)] 2 }),
 (3,dcO (gK.map fun p=>en P p.1 p.2.1 p.2.2).toArray 176),
 (20,cdO "_wall" "_wall" 187 1 1 0 0 3 15 181 192),
 (21,fnO "_wall" "_wall" (nth top 0) "__main__" 164 20),
 (34,cdO "__init__" "Node.__init__" 300 53 6 0 0 3 29 181 310),
 (35,fnO "__init__" "Node.__init__" (nth (bodyOf (nth top 48)) 0) "framerune.csnodes" 208 34),
 (37,dcO #[en P "__module__" 295 (.str "framerune.csnodes" 208),en P "__firstlineno__" 299 (.int 51 298),en P "__init__" 311 (.ref 35),en P "__static_attributes__" 318 (.ref 36),en P "__dict__" 320 (.ref 39),en P "__weakref__" 322 (.ref 40),en P "__doc__" 323 .none] 4),
 (38,clO "Node" [.type "object"] [.ref 38,.type "object"] 37 #[none,none,some (.str "Node" 288),some (.str "Node" 296),some (.builtin "object.__new__"),some (.bool true)]),
 (39,gsO [.str "__dict__" 319,.ref 38,.builtin "function.__dict__", .builtin "function.__dict__#set"]),
 (40,gsO [.str "__weakref__" 321,.ref 38,.builtin "ExceptionGroup.__weakref__", .none]),
 (55,cdO "__init__" "Diags.__init__" 338 62 1 0 0 3 50 181 343),
 (56,fnO "__init__" "Diags.__init__" (nth (bodyOf (nth top 49)) 0) "framerune.csnodes" 208 55),
 (62,cdO "put" "Diags.put" 345 65 4 0 0 3 57 181 353),
 (63,fnO "put" "Diags.put" (nth (bodyOf (nth top 49)) 1) "framerune.csnodes" 208 62),
 (69,cdO "cut" "Diags.cut" 355 68 2 0 0 3 64 181 361),
 (70,fnO "cut" "Diags.cut" (nth (bodyOf (nth top 49)) 2) "framerune.csnodes" 208 69),
 (76,cdO "numbers" "Diags.numbers" 363 72 1 0 0 3 71 181 368),
 (77,fnO "numbers" "Diags.numbers" (nth (bodyOf (nth top 49)) 3) "framerune.csnodes" 208 76),
 (79,dcO #[en P "__module__" 333 (.str "framerune.csnodes" 208),en P "__firstlineno__" 337 (.int 60 336),en P "__init__" 344 (.ref 56),en P "put" 354 (.ref 63),en P "cut" 362 (.ref 70),en P "numbers" 369 (.ref 77),en P "__static_attributes__" 371 (.ref 78),en P "__dict__" 373 (.ref 81),en P "__weakref__" 375 (.ref 82),en P "__doc__" 376 .none] 4),
 (80,clO "Diags" [.type "object"] [.ref 80,.type "object"] 79 #[none,none,some (.str "Diags" 326),some (.str "Diags" 334),some (.builtin "object.__new__"),some (.bool true)])
]
def K2 (P:Params):Frag:=[
 (81,gsO [.str "__dict__" 372,.ref 80,.builtin "function.__dict__", .builtin "function.__dict__#set"]),
 (82,gsO [.str "__weakref__" 374,.ref 80,.builtin "ExceptionGroup.__weakref__", .none]),
 (90,cdO "leaf" "leaf" 379 74 3 0 0 3 85 181 386),
 (91,fnO "leaf" "leaf" (nth top 50) "framerune.csnodes" 208 90),
 (97,cdO "twig" "twig" 388 76 4 0 0 3 92 181 396),
 (98,fnO "twig" "twig" (nth top 51) "framerune.csnodes" 208 97),
 (104,cdO "node_row" "node_row" 398 78 2 0 0 3 99 181 404),
 (105,fnO "node_row" "node_row" (nth top 52) "framerune.csnodes" 208 104),
 (111,cdO "with_mods" "with_mods" 406 80 2 0 0 3 106 181 412),
 (112,fnO "with_mods" "with_mods" (nth top 53) "framerune.csnodes" 208 111),
 (118,cdO "unmarked" "unmarked" 414 83 1 0 0 3 113 181 419),
 (119,fnO "unmarked" "unmarked" (nth top 54) "framerune.csnodes" 208 118),
 (132,cdO "__init__" "RuneError.__init__" 435 88 3 0 0 3 127 181 442),
 (133,fnO "__init__" "RuneError.__init__" (nth (bodyOf (nth top 56)) 0) "framerune.faults" 421 132),
 (135,dcO #[en P "__module__" 430 (.str "framerune.faults" 421),en P "__firstlineno__" 434 (.int 86 433),en P "__init__" 443 (.ref 133),en P "__static_attributes__" 446 (.ref 134),en P "__weakref__" 448 (.ref 137),en P "__doc__" 449 .none] 3),
 (136,{ cls:=.type "type", data:=.cls { name := "RuneError", bases:=[.type "Exception"],mro:=[.ref 136,.type "Exception", .type "BaseException", .type "object"],ns:=135,qualname := "RuneError", subclasses:=[.ref 149,.ref 161,.ref 173] },slots:=#[some (.ref 120),none,some (.str "RuneError" 423),some (.str "RuneError" 431),some (.builtin "Exception.__new__"),some (.bool true)] }),
 (137,gsO [.str "__weakref__" 447,.ref 136,.builtin "ExceptionGroup.__weakref__", .none]),
 (148,dcO #[en P "__module__" 461 (.str "framerune.faults" 421),en P "__firstlineno__" 465 (.int 91 464),en P "__static_attributes__" 466 (.ref 147),en P "__doc__" 467 .none] 2),
 (149,clO "TooDeep" [.ref 136] [.ref 149,.ref 136,.type "Exception", .type "BaseException", .type "object"] 148 #[some (.ref 140),none,some (.str "TooDeep" 454),some (.str "TooDeep" 462),some (.builtin "Exception.__new__"),some (.bool true)]),
 (160,dcO #[en P "__module__" 477 (.str "framerune.faults" 421),en P "__firstlineno__" 481 (.int 93 480),en P "__static_attributes__" 482 (.ref 159),en P "__doc__" 483 .none] 2)
]
def K3 (P:Params):Frag:=[
 (161,clO "LeftOut" [.ref 136] [.ref 161,.ref 136,.type "Exception", .type "BaseException", .type "object"] 160 #[some (.ref 152),none,some (.str "LeftOut" 470),some (.str "LeftOut" 478),some (.builtin "Exception.__new__"),some (.bool true)]),
 (172,dcO #[en P "__module__" 493 (.str "framerune.faults" 421),en P "__firstlineno__" 497 (.int 95 496),en P "__static_attributes__" 498 (.ref 171),en P "__doc__" 499 .none] 2),
 (173,clO "BindStop" [.ref 136] [.ref 173,.ref 136,.type "Exception", .type "BaseException", .type "object"] 172 #[some (.ref 164),none,some (.str "BindStop" 486),some (.str "BindStop" 494),some (.builtin "Exception.__new__"),some (.bool true)]),
 (176,dcO #[en P ";" 516 (.int 1002 517),en P ")" 518 (.int 1026 519),en P "{" 520 (.int 1514 521),en P "}" 522 (.int 1513 523)] 4),
 (177,dcO #[{ hash:=0,key:=.int 0 529,val:=.str "#end" 530 },{ hash:=1,key:=.int 1 531,val:=.str "#name" 532 },{ hash:=3,key:=.int 3 533,val:=.str "#int" 534 },{ hash:=4,key:=.int 4 535,val:=.str "#text" 536 },{ hash:=5,key:=.int 5 537,val:=.str "#char" 538 }] 5),
 (190,cdO "parse" "Part.parse" 557 108 2 0 0 3 185 181 563),
 (191,fnO "parse" "Part.parse" (nth (bodyOf (nth top 69)) 0) "framerune.cspcore" 502 190),
 (193,dcO #[en P "__module__" 552 (.str "framerune.cspcore" 502),en P "__firstlineno__" 556 (.int 106 555),en P "parse" 564 (.ref 191),en P "__static_attributes__" 565 (.ref 192),en P "__dict__" 567 (.ref 195),en P "__weakref__" 569 (.ref 196),en P "__doc__" 570 .none] 4),
 (194,{ cls:=.type "type", data:=.cls { name := "Part", bases:=[.type "object"],mro:=[.ref 194,.type "object"],ns:=193,qualname := "Part", subclasses:=[.ref 425,.ref 575,.ref 594] },slots:=#[none,none,some (.str "Part" 545),some (.str "Part" 553),some (.builtin "object.__new__"),some (.bool true)] }),
 (195,gsO [.str "__dict__" 566,.ref 194,.builtin "function.__dict__", .builtin "function.__dict__#set"]),
 (196,gsO [.str "__weakref__" 568,.ref 194,.builtin "ExceptionGroup.__weakref__", .none]),
 (211,cdO "__init__" "Parser.__init__" 585 112 3 0 0 3 206 181 592),
 (212,fnO "__init__" "Parser.__init__" (nth (bodyOf (nth top 70)) 0) "framerune.cspcore" 502 211),
 (218,cdO "now" "Parser.now" 594 125 1 0 0 3 213 181 599),
 (219,fnO "now" "Parser.now" (nth (bodyOf (nth top 70)) 1) "framerune.cspcore" 502 218),
 (225,cdO "ahead" "Parser.ahead" 601 128 2 0 0 3 220 181 608),
 (226,fnO "ahead" "Parser.ahead" (nth (bodyOf (nth top 70)) 2) "framerune.cspcore" 502 225),
 (232,cdO "step" "Parser.step" 610 134 1 0 0 3 227 181 616),
 (233,fnO "step" "Parser.step" (nth (bodyOf (nth top 70)) 3) "framerune.cspcore" 502 232),
 (239,cdO "is_sign" "Parser.is_sign" 618 140 2 0 0 3 234 181 624)
]
def K4 (P:Params):Frag:=[
 (240,fnO "is_sign" "Parser.is_sign" (nth (bodyOf (nth top 70)) 4) "framerune.cspcore" 502 239),
 (246,cdO "is_word" "Parser.is_word" 626 143 2 0 0 3 241 181 632),
 (247,fnO "is_word" "Parser.is_word" (nth (bodyOf (nth top 70)) 5) "framerune.cspcore" 502 246),
 (253,cdO "is_name" "Parser.is_name" 634 146 2 0 0 3 248 181 640),
 (254,fnO "is_name" "Parser.is_name" (nth (bodyOf (nth top 70)) 6) "framerune.cspcore" 502 253),
 (260,cdO "eat_sign" "Parser.eat_sign" 642 149 2 0 0 3 255 181 648),
 (261,fnO "eat_sign" "Parser.eat_sign" (nth (bodyOf (nth top 70)) 7) "framerune.cspcore" 502 260),
 (267,cdO "eat_word" "Parser.eat_word" 650 152 2 0 0 3 262 181 656),
 (268,fnO "eat_word" "Parser.eat_word" (nth (bodyOf (nth top 70)) 8) "framerune.cspcore" 502 267),
 (274,cdO "eat_name" "Parser.eat_name" 658 155 2 0 0 3 269 181 664),
 (275,fnO "eat_name" "Parser.eat_name" (nth (bodyOf (nth top 70)) 9) "framerune.cspcore" 502 274),
 (281,cdO "need_sign" "Parser.need_sign" 666 158 2 0 0 3 276 181 672),
 (282,fnO "need_sign" "Parser.need_sign" (nth (bodyOf (nth top 70)) 10) "framerune.cspcore" 502 281),
 (288,cdO "need_word" "Parser.need_word" 674 161 2 0 0 3 283 181 680),
 (289,fnO "need_word" "Parser.need_word" (nth (bodyOf (nth top 70)) 11) "framerune.cspcore" 502 288),
 (295,cdO "need_name" "Parser.need_name" 682 164 1 0 0 3 290 181 687),
 (296,fnO "need_name" "Parser.need_name" (nth (bodyOf (nth top 70)) 12) "framerune.cspcore" 502 295),
 (302,cdO "fault" "Parser.fault" 689 169 3 0 0 3 297 181 696),
 (303,fnO "fault" "Parser.fault" (nth (bodyOf (nth top 70)) 13) "framerune.cspcore" 502 302),
 (309,cdO "fault_at" "Parser.fault_at" 698 172 4 0 0 3 304 181 706)
]
def K5 (P:Params):Frag:=[
 (310,fnO "fault_at" "Parser.fault_at" (nth (bodyOf (nth top 70)) 14) "framerune.cspcore" 502 309),
 (316,cdO "left_out" "Parser.left_out" 708 176 2 0 0 3 311 181 714),
 (317,fnO "left_out" "Parser.left_out" (nth (bodyOf (nth top 70)) 15) "framerune.cspcore" 502 316),
 (323,cdO "mark" "Parser.mark" 716 179 1 0 0 3 318 181 721),
 (324,fnO "mark" "Parser.mark" (nth (bodyOf (nth top 70)) 16) "framerune.cspcore" 502 323),
 (330,cdO "back" "Parser.back" 723 182 2 0 0 3 325 181 730),
 (331,fnO "back" "Parser.back" (nth (bodyOf (nth top 70)) 17) "framerune.cspcore" 502 330),
 (337,cdO "part" "Parser.part" 732 186 2 0 0 3 332 181 738),
 (338,fnO "part" "Parser.part" (nth (bodyOf (nth top 70)) 18) "framerune.cspcore" 502 337),
 (340,dcO #[en P "__module__" 580 (.str "framerune.cspcore" 502),en P "__firstlineno__" 584 (.int 110 583),en P "__init__" 593 (.ref 212),en P "now" 600 (.ref 219),en P "ahead" 609 (.ref 226),en P "step" 617 (.ref 233),en P "is_sign" 625 (.ref 240),en P "is_word" 633 (.ref 247),en P "is_name" 641 (.ref 254),en P "eat_sign" 649 (.ref 261),en P "eat_word" 657 (.ref 268),en P "eat_name" 665 (.ref 275),en P "need_sign" 673 (.ref 282),en P "need_word" 681 (.ref 289),en P "need_name" 688 (.ref 296),en P "fault" 697 (.ref 303),en P "fault_at" 707 (.ref 310),en P "left_out" 715 (.ref 317),en P "mark" 722 (.ref 324),en P "back" 731 (.ref 331),en P "part" 739 (.ref 338),en P "__static_attributes__" 751 (.ref 339),en P "__dict__" 753 (.ref 342),en P "__weakref__" 755 (.ref 343),en P "__doc__" 756 .none] 4),
 (341,clO "Parser" [.type "object"] [.ref 341,.type "object"] 340 #[none,none,some (.str "Parser" 573),some (.str "Parser" 581),some (.builtin "object.__new__"),some (.bool true)]),
 (342,gsO [.str "__dict__" 752,.ref 341,.builtin "function.__dict__", .builtin "function.__dict__#set"]),
 (343,gsO [.str "__weakref__" 754,.ref 341,.builtin "ExceptionGroup.__weakref__", .none]),
 (351,cdO "read_part" "read_part" 759 188 2 0 0 3 346 181 766),
 (352,fnO "read_part" "read_part" (nth top 71) "framerune.cspcore" 502 351),
 (358,cdO "is_token" "is_token" 768 197 3 0 0 3 353 181 775),
 (359,fnO "is_token" "is_token" (nth top 72) "framerune.cspcore" 502 358),
 (365,cdO "eat_token" "eat_token" 777 199 3 0 0 3 360 181 784),
 (366,fnO "eat_token" "eat_token" (nth top 73) "framerune.cspcore" 502 365),
 (372,cdO "need_sign" "need_sign" 786 204 2 0 0 3 367 181 792)
]
def K6 (P:Params):Frag:=[
 (373,fnO "need_sign" "need_sign" (nth top 74) "framerune.cspcore" 502 372),
 (379,cdO "sign_ahead" "sign_ahead" 795 211 3 0 0 3 374 181 802),
 (380,fnO "sign_ahead" "sign_ahead" (nth top 76) "framerune.cspcore" 502 379),
 (386,cdO "key_of" "key_of" 804 213 1 0 0 3 381 181 809),
 (387,fnO "key_of" "key_of" (nth top 77) "framerune.cspcore" 502 386),
 (393,cdO "shown" "shown" 811 217 1 0 0 3 388 181 816),
 (394,fnO "shown" "shown" (nth top 78) "framerune.cspcore" 502 393),
 (400,cdO "check_chain" "check_chain" 818 227 2 0 0 3 395 181 824),
 (401,fnO "check_chain" "check_chain" (nth top 79) "framerune.cspcore" 502 400),
 (402,dcO #[en P "bool" 828 (.int 1 829),en P "byte" 830 (.int 1 831),en P "sbyte" 832 (.int 1 833),en P "short" 834 (.int 1 835),en P "ushort" 836 (.int 1 837),en P "int" 838 (.int 1 839),en P "uint" 840 (.int 1 841),en P "long" 842 (.int 1 843),en P "ulong" 844 (.int 1 845),en P "char" 846 (.int 1 847),en P "string" 848 (.int 1 849),en P "object" 850 (.int 1 851)] 12),
 (403,dcO #[en P "float" 865 (.int 1 866),en P "double" 867 (.int 1 868),en P "decimal" 869 (.int 1 870)] 3),
 (404,dcO #[en P "(" 875 (.int 1 876),en P ")" 878 (.int 1 879),en P "]" 881 (.int 1 882),en P "}" 884 (.int 1 885),en P ":" 887 (.int 1 888),en P ";" 890 (.int 1 891),en P "," 893 (.int 1 894),en P "." 896 (.int 1 897),en P "?" 899 (.int 1 900),en P "==" 902 (.int 1 903),en P "!=" 905 (.int 1 906),en P "|" 908 (.int 1 909),en P "^" 911 (.int 1 912),en P "&&" 914 (.int 1 915),en P "||" 917 (.int 1 918),en P "&" 920 (.int 1 921),en P "[" 923 (.int 1 924),en P "<" 926 (.int 1 927),en P "<=" 928 (.int 1 929),en P ">=" 930 (.int 1 931)] 20),
 (406,dcO #[en P "true" 936 (.int 1 937),en P "false" 939 (.int 1 940),en P "null" 942 (.int 1 943),en P "this" 945 (.int 1 946),en P "base" 948 (.int 1 949),en P "new" 951 (.int 1 952),en P "default" 954 (.int 1 955),en P "typeof" 957 (.int 1 958),en P "checked" 960 (.int 1 961),en P "unchecked" 963 (.int 1 964),en P "bool" 966 (.int 1 967),en P "byte" 969 (.int 1 970),en P "sbyte" 972 (.int 1 973),en P "short" 975 (.int 1 976),en P "ushort" 978 (.int 1 979),en P "int" 981 (.int 1 982),en P "uint" 984 (.int 1 985),en P "long" 987 (.int 1 988),en P "ulong" 989 (.int 1 990),en P "char" 991 (.int 1 992),en P "string" 993 (.int 1 994),en P "object" 995 (.int 1 996)] 22),
 (408,dcO #[en P "(" 1003 (.int 1 1004),en P "+" 1005 (.int 1 1006),en P "-" 1007 (.int 1 1008),en P "!" 1009 (.int 1 1010),en P "~" 1011 (.int 1 1012),en P "++" 1013 (.int 1 1014),en P "--" 1015 (.int 1 1016)] 7),
 (421,cdO "parse" "TypePart.parse" 1037 238 2 0 0 3 416 181 1043),
 (422,fnO "parse" "TypePart.parse" (nth (bodyOf (nth top 86)) 0) "framerune.csptypes" 826 421),
 (424,dcO #[en P "__module__" 1032 (.str "framerune.csptypes" 826),en P "__firstlineno__" 1036 (.int 236 1035),en P "parse" 1044 (.ref 422),en P "__static_attributes__" 1045 (.ref 423),en P "__doc__" 1046 .none] 2),
 (425,clO "TypePart" [.ref 194] [.ref 425,.ref 194,.type "object"] 424 #[some (.ref 409),none,some (.str "TypePart" 1025),some (.str "TypePart" 1033),some (.builtin "object.__new__"),some (.bool true)]),
 (433,cdO "install_types" "install_types" 1049 240 1 0 0 3 428 181 1054),
 (434,fnO "install_types" "install_types" (nth top 87) "framerune.csptypes" 826 433)
]
def K7 (P:Params):Frag:=[
 (440,cdO "read_type" "read_type" 1056 242 2 0 0 3 435 181 1062),
 (441,fnO "read_type" "read_type" (nth top 88) "framerune.csptypes" 826 440),
 (447,cdO "read_plain_type" "read_plain_type" 1064 244 1 0 0 3 442 181 1071),
 (448,fnO "read_plain_type" "read_plain_type" (nth top 89) "framerune.csptypes" 826 447),
 (454,cdO "read_key_type" "read_key_type" 1073 255 1 0 0 3 449 181 1079),
 (455,fnO "read_key_type" "read_key_type" (nth top 90) "framerune.csptypes" 826 454),
 (461,cdO "read_type_tail" "read_type_tail" 1081 265 3 0 0 3 456 181 1089),
 (462,fnO "read_type_tail" "read_type_tail" (nth top 91) "framerune.csptypes" 826 461),
 (468,cdO "read_type_args" "read_type_args" 1091 281 1 0 0 3 463 181 1097),
 (469,fnO "read_type_args" "read_type_args" (nth top 92) "framerune.csptypes" 826 468),
 (475,cdO "read_return_type" "read_return_type" 1099 290 1 0 0 3 470 181 1104),
 (476,fnO "read_return_type" "read_return_type" (nth top 93) "framerune.csptypes" 826 475),
 (482,cdO "try_type" "try_type" 1106 294 1 0 0 3 477 181 1112),
 (483,fnO "try_type" "try_type" (nth top 94) "framerune.csptypes" 826 482),
 (489,cdO "try_type_args" "try_type_args" 1114 301 1 0 0 3 484 181 1122),
 (490,fnO "try_type_args" "try_type_args" (nth top 95) "framerune.csptypes" 826 489),
 (496,cdO "behind_args" "behind_args" 1124 313 1 0 0 3 491 181 1129),
 (497,fnO "behind_args" "behind_args" (nth top 96) "framerune.csptypes" 826 496),
 (503,cdO "starts_expr" "starts_expr" 1131 319 1 0 0 3 498 181 1136),
 (504,fnO "starts_expr" "starts_expr" (nth top 97) "framerune.csptypes" 826 503)
]
def K8 (P:Params):Frag:=[
 (510,cdO "is_sure_type" "is_sure_type" 1138 325 1 0 0 3 505 181 1143),
 (511,fnO "is_sure_type" "is_sure_type" (nth top 98) "framerune.csptypes" 826 510),
 (512,dcO #[en P "??" 1147 (.int 1 1148),en P "||" 1150 (.int 2 1151),en P "&&" 1153 (.int 3 1154),en P "|" 1156 (.int 4 1157),en P "^" 1159 (.int 5 1160),en P "&" 1162 (.int 6 1163),en P "==" 1165 (.int 7 1166),en P "!=" 1168 (.int 7 1169),en P "<" 1171 (.int 8 1172),en P ">" 1174 (.int 8 1175),en P "<=" 1177 (.int 8 1178),en P ">=" 1180 (.int 8 1181),en P "is" 1183 (.int 8 1184),en P "as" 1186 (.int 8 1187),en P "<<" 1189 (.int 9 1190),en P ">>" 1192 (.int 9 1193),en P "+" 1195 (.int 10 1196),en P "-" 1198 (.int 10 1199),en P "*" 1200 (.int 11 1201),en P "/" 1202 (.int 11 1203),en P "%" 1204 (.int 11 1205)] 21),
 (514,dcO #[en P "=" 1215 (.int 1 1216),en P "+=" 1217 (.int 1 1218),en P "-=" 1219 (.int 1 1220),en P "*=" 1221 (.int 1 1222),en P "/=" 1223 (.int 1 1224),en P "%=" 1225 (.int 1 1226),en P "&=" 1227 (.int 1 1228),en P "|=" 1229 (.int 1 1230),en P "^=" 1231 (.int 1 1232),en P "<<=" 1233 (.int 1 1234),en P ">>=" 1235 (.int 1 1236)] 11),
 (515,dcO #[en P "null" 1249 (.int 1 1250),en P "true" 1251 (.int 1 1252),en P "false" 1253 (.int 1 1254),en P "#int" 1255 (.int 1 1256),en P "#text" 1257 (.int 1 1258),en P "#char" 1259 (.int 1 1260),en P "-" 1261 (.int 1 1262)] 7),
 (516,dcO #[en P "+" 1271 (.int 17 1272),en P "-" 1273 (.int 17 1274),en P "!" 1275 (.int 17 1276),en P "~" 1277 (.int 17 1278),en P "++" 1279 (.int 18 1280),en P "--" 1281 (.int 18 1282)] 6),
 (529,cdO "take" "FirstRead.take" 1302 336 2 0 0 3 524 181 1308),
 (530,fnO "take" "FirstRead.take" (nth (bodyOf (nth top 106)) 0) "framerune.cspexpr" 1145 529),
 (532,dcO #[en P "__module__" 1297 (.str "framerune.cspexpr" 1145),en P "__firstlineno__" 1301 (.int 334 1300),en P "take" 1309 (.ref 530),en P "__static_attributes__" 1310 (.ref 531),en P "__dict__" 1312 (.ref 534),en P "__weakref__" 1314 (.ref 535),en P "__doc__" 1315 .none] 4),
 (533,{ cls:=.type "type", data:=.cls { name := "FirstRead", bases:=[.type "object"],mro:=[.ref 533,.type "object"],ns:=532,qualname := "FirstRead", subclasses:=[.ref 718,.ref 744,.ref 763,.ref 782,.ref 808,.ref 827,.ref 846,.ref 865,.ref 884,.ref 903,.ref 922,.ref 1071] },slots:=#[none,none,some (.str "FirstRead" 1290),some (.str "FirstRead" 1298),some (.builtin "object.__new__"),some (.bool true)] }),
 (534,gsO [.str "__dict__" 1311,.ref 533,.builtin "function.__dict__", .builtin "function.__dict__#set"]),
 (535,gsO [.str "__weakref__" 1313,.ref 533,.builtin "ExceptionGroup.__weakref__", .none]),
 (550,cdO "take" "TailRead.take" 1330 340 3 0 0 3 545 181 1337),
 (551,fnO "take" "TailRead.take" (nth (bodyOf (nth top 107)) 0) "framerune.cspexpr" 1145 550),
 (553,dcO #[en P "__module__" 1325 (.str "framerune.cspexpr" 1145),en P "__firstlineno__" 1329 (.int 338 1328),en P "take" 1338 (.ref 551),en P "__static_attributes__" 1339 (.ref 552),en P "__dict__" 1341 (.ref 555),en P "__weakref__" 1343 (.ref 556),en P "__doc__" 1344 .none] 4),
 (554,{ cls:=.type "type", data:=.cls { name := "TailRead", bases:=[.type "object"],mro:=[.ref 554,.type "object"],ns:=553,qualname := "TailRead", subclasses:=[.ref 976,.ref 995,.ref 1014,.ref 1033,.ref 1052] },slots:=#[none,none,some (.str "TailRead" 1318),some (.str "TailRead" 1326),some (.builtin "object.__new__"),some (.bool true)] }),
 (555,gsO [.str "__dict__" 1340,.ref 554,.builtin "function.__dict__", .builtin "function.__dict__#set"]),
 (556,gsO [.str "__weakref__" 1342,.ref 554,.builtin "ExceptionGroup.__weakref__", .none]),
 (571,cdO "parse" "ExprPart.parse" 1359 344 2 0 0 3 566 181 1365),
 (572,fnO "parse" "ExprPart.parse" (nth (bodyOf (nth top 108)) 0) "framerune.cspexpr" 1145 571)
]
def K9 (P:Params):Frag:=[
 (574,dcO #[en P "__module__" 1354 (.str "framerune.cspexpr" 1145),en P "__firstlineno__" 1358 (.int 342 1357),en P "parse" 1366 (.ref 572),en P "__static_attributes__" 1367 (.ref 573),en P "__doc__" 1368 .none] 2),
 (575,clO "ExprPart" [.ref 194] [.ref 575,.ref 194,.type "object"] 574 #[some (.ref 559),none,some (.str "ExprPart" 1347),some (.str "ExprPart" 1355),some (.builtin "object.__new__"),some (.bool true)]),
 (590,cdO "parse" "ArgsPart.parse" 1383 348 2 0 0 3 585 181 1389),
 (591,fnO "parse" "ArgsPart.parse" (nth (bodyOf (nth top 109)) 0) "framerune.cspexpr" 1145 590),
 (593,dcO #[en P "__module__" 1378 (.str "framerune.cspexpr" 1145),en P "__firstlineno__" 1382 (.int 346 1381),en P "parse" 1390 (.ref 591),en P "__static_attributes__" 1391 (.ref 592),en P "__doc__" 1392 .none] 2),
 (594,clO "ArgsPart" [.ref 194] [.ref 594,.ref 194,.type "object"] 593 #[some (.ref 578),none,some (.str "ArgsPart" 1371),some (.str "ArgsPart" 1379),some (.builtin "object.__new__"),some (.bool true)]),
 (602,cdO "read_expr" "read_expr" 1395 350 1 0 0 3 597 181 1404),
 (603,fnO "read_expr" "read_expr" (nth top 110) "framerune.cspexpr" 1145 602),
 (609,cdO "read_choice" "read_choice" 1406 364 2 0 0 3 604 181 1414),
 (610,fnO "read_choice" "read_choice" (nth top 111) "framerune.cspexpr" 1145 609),
 (616,cdO "sign_here" "sign_here" 1416 370 1 0 0 3 611 181 1423),
 (617,fnO "sign_here" "sign_here" (nth top 112) "framerune.cspexpr" 1145 616),
 (623,cdO "operator_here" "operator_here" 1425 379 1 0 0 3 618 181 1431),
 (624,fnO "operator_here" "operator_here" (nth top 113) "framerune.cspexpr" 1145 623),
 (630,cdO "pass_tokens" "pass_tokens" 1433 384 2 0 0 3 625 181 1439),
 (631,fnO "pass_tokens" "pass_tokens" (nth top 114) "framerune.cspexpr" 1145 630),
 (637,cdO "read_binary" "read_binary" 1441 388 1 0 0 3 632 181 1453),
 (638,fnO "read_binary" "read_binary" (nth top 115) "framerune.cspexpr" 1145 637),
 (644,cdO "binds_first" "binds_first" 1455 410 2 0 0 3 639 181 1462),
 (645,fnO "binds_first" "binds_first" (nth top 116) "framerune.cspexpr" 1145 644)
]
def K10 (P:Params):Frag:=[
 (651,cdO "join_last" "join_last" 1464 415 2 0 0 3 646 181 1473),
 (652,fnO "join_last" "join_last" (nth top 117) "framerune.cspexpr" 1145 651),
 (658,cdO "read_is" "read_is" 1475 420 2 0 0 3 653 181 1483),
 (659,fnO "read_is" "read_is" (nth top 118) "framerune.cspexpr" 1145 658),
 (665,cdO "read_unary" "read_unary" 1485 428 1 0 0 3 660 181 1493),
 (666,fnO "read_unary" "read_unary" (nth top 119) "framerune.cspexpr" 1145 665),
 (672,cdO "read_prefix" "read_prefix" 1495 441 1 0 0 3 667 181 1501),
 (673,fnO "read_prefix" "read_prefix" (nth top 120) "framerune.cspexpr" 1145 672),
 (679,cdO "read_cast" "read_cast" 1503 453 1 0 0 3 674 181 1511),
 (680,fnO "read_cast" "read_cast" (nth top 121) "framerune.cspexpr" 1145 679),
 (686,cdO "follows_cast" "follows_cast" 1513 462 1 0 0 3 681 181 1518),
 (687,fnO "follows_cast" "follows_cast" (nth top 122) "framerune.cspexpr" 1145 686),
 (693,cdO "read_primary" "read_primary" 1520 466 1 0 0 3 688 181 1528),
 (694,fnO "read_primary" "read_primary" (nth top 123) "framerune.cspexpr" 1145 693),
 (707,cdO "__init__" "ValueLeaf.__init__" 1542 481 2 0 0 3 702 181 1548),
 (708,fnO "__init__" "ValueLeaf.__init__" (nth (bodyOf (nth top 124)) 0) "framerune.cspexpr" 1145 707),
 (714,cdO "take" "ValueLeaf.take" 1550 484 2 0 0 3 709 181 1557),
 (715,fnO "take" "ValueLeaf.take" (nth (bodyOf (nth top 124)) 1) "framerune.cspexpr" 1145 714),
 (717,dcO #[en P "__module__" 1537 (.str "framerune.cspexpr" 1145),en P "__firstlineno__" 1541 (.int 479 1540),en P "__init__" 1549 (.ref 708),en P "take" 1558 (.ref 715),en P "__static_attributes__" 1560 (.ref 716),en P "__doc__" 1561 .none] 2),
 (718,clO "ValueLeaf" [.ref 533] [.ref 718,.ref 533,.type "object"] 717 #[some (.ref 695),none,some (.str "ValueLeaf" 1530),some (.str "ValueLeaf" 1538),some (.builtin "object.__new__"),some (.bool true)])
]
def K11 (P:Params):Frag:=[
 (733,cdO "__init__" "WordLeaf.__init__" 1576 489 2 0 0 3 728 181 1582),
 (734,fnO "__init__" "WordLeaf.__init__" (nth (bodyOf (nth top 125)) 0) "framerune.cspexpr" 1145 733),
 (740,cdO "take" "WordLeaf.take" 1584 492 2 0 0 3 735 181 1590),
 (741,fnO "take" "WordLeaf.take" (nth (bodyOf (nth top 125)) 1) "framerune.cspexpr" 1145 740),
 (743,dcO #[en P "__module__" 1571 (.str "framerune.cspexpr" 1145),en P "__firstlineno__" 1575 (.int 487 1574),en P "__init__" 1583 (.ref 734),en P "take" 1591 (.ref 741),en P "__static_attributes__" 1593 (.ref 742),en P "__doc__" 1594 .none] 2),
 (744,clO "WordLeaf" [.ref 533] [.ref 744,.ref 533,.type "object"] 743 #[some (.ref 721),none,some (.str "WordLeaf" 1564),some (.str "WordLeaf" 1572),some (.builtin "object.__new__"),some (.bool true)]),
 (759,cdO "take" "OutRead.take" 1609 496 2 0 0 3 754 181 1615),
 (760,fnO "take" "OutRead.take" (nth (bodyOf (nth top 126)) 0) "framerune.cspexpr" 1145 759),
 (762,dcO #[en P "__module__" 1604 (.str "framerune.cspexpr" 1145),en P "__firstlineno__" 1608 (.int 494 1607),en P "take" 1616 (.ref 760),en P "__static_attributes__" 1617 (.ref 761),en P "__doc__" 1618 .none] 2),
 (763,clO "OutRead" [.ref 533] [.ref 763,.ref 533,.type "object"] 762 #[some (.ref 747),none,some (.str "OutRead" 1597),some (.str "OutRead" 1605),some (.builtin "object.__new__"),some (.bool true)]),
 (778,cdO "take" "NameRead.take" 1633 500 2 0 0 3 773 181 1640),
 (779,fnO "take" "NameRead.take" (nth (bodyOf (nth top 127)) 0) "framerune.cspexpr" 1145 778),
 (781,dcO #[en P "__module__" 1628 (.str "framerune.cspexpr" 1145),en P "__firstlineno__" 1632 (.int 498 1631),en P "take" 1641 (.ref 779),en P "__static_attributes__" 1642 (.ref 780),en P "__doc__" 1643 .none] 2),
 (782,clO "NameRead" [.ref 533] [.ref 782,.ref 533,.type "object"] 781 #[some (.ref 766),none,some (.str "NameRead" 1621),some (.str "NameRead" 1629),some (.builtin "object.__new__"),some (.bool true)]),
 (790,cdO "type_args_here" "type_args_here" 1646 503 1 0 0 3 785 181 1651),
 (791,fnO "type_args_here" "type_args_here" (nth top 128) "framerune.cspexpr" 1145 790),
 (804,cdO "take" "BaseRead.take" 1665 509 2 0 0 3 799 181 1672),
 (805,fnO "take" "BaseRead.take" (nth (bodyOf (nth top 129)) 0) "framerune.cspexpr" 1145 804),
 (807,dcO #[en P "__module__" 1660 (.str "framerune.cspexpr" 1145),en P "__firstlineno__" 1664 (.int 507 1663),en P "take" 1673 (.ref 805),en P "__static_attributes__" 1674 (.ref 806),en P "__doc__" 1675 .none] 2),
 (808,clO "BaseRead" [.ref 533] [.ref 808,.ref 533,.type "object"] 807 #[some (.ref 792),none,some (.str "BaseRead" 1653),some (.str "BaseRead" 1661),some (.builtin "object.__new__"),some (.bool true)])
]
def K12 (P:Params):Frag:=[
 (823,cdO "take" "KeyTypeRead.take" 1690 516 2 0 0 3 818 181 1697),
 (824,fnO "take" "KeyTypeRead.take" (nth (bodyOf (nth top 130)) 0) "framerune.cspexpr" 1145 823),
 (826,dcO #[en P "__module__" 1685 (.str "framerune.cspexpr" 1145),en P "__firstlineno__" 1689 (.int 514 1688),en P "take" 1698 (.ref 824),en P "__static_attributes__" 1699 (.ref 825),en P "__doc__" 1700 .none] 2),
 (827,clO "KeyTypeRead" [.ref 533] [.ref 827,.ref 533,.type "object"] 826 #[some (.ref 811),none,some (.str "KeyTypeRead" 1678),some (.str "KeyTypeRead" 1686),some (.builtin "object.__new__"),some (.bool true)]),
 (842,cdO "take" "ParenRead.take" 1715 523 2 0 0 3 837 181 1723),
 (843,fnO "take" "ParenRead.take" (nth (bodyOf (nth top 131)) 0) "framerune.cspexpr" 1145 842),
 (845,dcO #[en P "__module__" 1710 (.str "framerune.cspexpr" 1145),en P "__firstlineno__" 1714 (.int 521 1713),en P "take" 1724 (.ref 843),en P "__static_attributes__" 1725 (.ref 844),en P "__doc__" 1726 .none] 2),
 (846,clO "ParenRead" [.ref 533] [.ref 846,.ref 533,.type "object"] 845 #[some (.ref 830),none,some (.str "ParenRead" 1703),some (.str "ParenRead" 1711),some (.builtin "object.__new__"),some (.bool true)]),
 (861,cdO "take" "DefaultRead.take" 1741 530 2 0 0 3 856 181 1749),
 (862,fnO "take" "DefaultRead.take" (nth (bodyOf (nth top 132)) 0) "framerune.cspexpr" 1145 861),
 (864,dcO #[en P "__module__" 1736 (.str "framerune.cspexpr" 1145),en P "__firstlineno__" 1740 (.int 528 1739),en P "take" 1750 (.ref 862),en P "__static_attributes__" 1751 (.ref 863),en P "__doc__" 1752 .none] 2),
 (865,clO "DefaultRead" [.ref 533] [.ref 865,.ref 533,.type "object"] 864 #[some (.ref 849),none,some (.str "DefaultRead" 1729),some (.str "DefaultRead" 1737),some (.builtin "object.__new__"),some (.bool true)]),
 (880,cdO "take" "TypeofRead.take" 1767 539 2 0 0 3 875 181 1775),
 (881,fnO "take" "TypeofRead.take" (nth (bodyOf (nth top 133)) 0) "framerune.cspexpr" 1145 880),
 (883,dcO #[en P "__module__" 1762 (.str "framerune.cspexpr" 1145),en P "__firstlineno__" 1766 (.int 537 1765),en P "take" 1776 (.ref 881),en P "__static_attributes__" 1777 (.ref 882),en P "__doc__" 1778 .none] 2),
 (884,clO "TypeofRead" [.ref 533] [.ref 884,.ref 533,.type "object"] 883 #[some (.ref 868),none,some (.str "TypeofRead" 1755),some (.str "TypeofRead" 1763),some (.builtin "object.__new__"),some (.bool true)]),
 (899,cdO "take" "CheckedRead.take" 1793 547 2 0 0 3 894 181 1801),
 (900,fnO "take" "CheckedRead.take" (nth (bodyOf (nth top 134)) 0) "framerune.cspexpr" 1145 899),
 (902,dcO #[en P "__module__" 1788 (.str "framerune.cspexpr" 1145),en P "__firstlineno__" 1792 (.int 545 1791),en P "take" 1802 (.ref 900),en P "__static_attributes__" 1803 (.ref 901),en P "__doc__" 1804 .none] 2),
 (903,clO "CheckedRead" [.ref 533] [.ref 903,.ref 533,.type "object"] 902 #[some (.ref 887),none,some (.str "CheckedRead" 1781),some (.str "CheckedRead" 1789),some (.builtin "object.__new__"),some (.bool true)])
]
def K13 (P:Params):Frag:=[
 (918,cdO "take" "NewRead.take" 1819 555 2 0 0 3 913 181 1828),
 (919,fnO "take" "NewRead.take" (nth (bodyOf (nth top 135)) 0) "framerune.cspexpr" 1145 918),
 (921,dcO #[en P "__module__" 1814 (.str "framerune.cspexpr" 1145),en P "__firstlineno__" 1818 (.int 553 1817),en P "take" 1829 (.ref 919),en P "__static_attributes__" 1830 (.ref 920),en P "__doc__" 1831 .none] 2),
 (922,clO "NewRead" [.ref 533] [.ref 922,.ref 533,.type "object"] 921 #[some (.ref 906),none,some (.str "NewRead" 1807),some (.str "NewRead" 1815),some (.builtin "object.__new__"),some (.bool true)]),
 (930,cdO "read_new_array" "read_new_array" 1834 572 3 0 0 3 925 181 1844),
 (931,fnO "read_new_array" "read_new_array" (nth top 136) "framerune.cspexpr" 1145 930),
 (937,cdO "read_items" "read_items" 1846 595 1 0 0 3 932 181 1853),
 (938,fnO "read_items" "read_items" (nth top 137) "framerune.cspexpr" 1145 937),
 (944,cdO "read_args" "read_args" 1855 607 3 0 0 3 939 181 1864),
 (945,fnO "read_args" "read_args" (nth top 138) "framerune.cspexpr" 1145 944),
 (951,cdO "read_arg" "read_arg" 1866 617 1 0 0 3 946 181 1873),
 (952,fnO "read_arg" "read_arg" (nth top 139) "framerune.cspexpr" 1145 951),
 (958,cdO "declares_here" "declares_here" 1875 627 1 0 0 3 953 181 1883),
 (959,fnO "declares_here" "declares_here" (nth top 140) "framerune.cspexpr" 1145 958),
 (972,cdO "take" "MemberTail.take" 1897 635 3 0 0 3 967 181 1905),
 (973,fnO "take" "MemberTail.take" (nth (bodyOf (nth top 141)) 0) "framerune.cspexpr" 1145 972),
 (975,dcO #[en P "__module__" 1892 (.str "framerune.cspexpr" 1145),en P "__firstlineno__" 1896 (.int 633 1895),en P "take" 1906 (.ref 973),en P "__static_attributes__" 1907 (.ref 974),en P "__doc__" 1908 .none] 2),
 (976,clO "MemberTail" [.ref 554] [.ref 976,.ref 554,.type "object"] 975 #[some (.ref 960),none,some (.str "MemberTail" 1885),some (.str "MemberTail" 1893),some (.builtin "object.__new__"),some (.bool true)]),
 (991,cdO "take" "CallTail.take" 1923 641 3 0 0 3 986 181 1930),
 (992,fnO "take" "CallTail.take" (nth (bodyOf (nth top 142)) 0) "framerune.cspexpr" 1145 991)
]
def K14 (P:Params):Frag:=[
 (994,dcO #[en P "__module__" 1918 (.str "framerune.cspexpr" 1145),en P "__firstlineno__" 1922 (.int 639 1921),en P "take" 1931 (.ref 992),en P "__static_attributes__" 1932 (.ref 993),en P "__doc__" 1933 .none] 2),
 (995,clO "CallTail" [.ref 554] [.ref 995,.ref 554,.type "object"] 994 #[some (.ref 979),none,some (.str "CallTail" 1911),some (.str "CallTail" 1919),some (.builtin "object.__new__"),some (.bool true)]),
 (1010,cdO "take" "IndexTail.take" 1948 645 3 0 0 3 1005 181 1955),
 (1011,fnO "take" "IndexTail.take" (nth (bodyOf (nth top 143)) 0) "framerune.cspexpr" 1145 1010),
 (1013,dcO #[en P "__module__" 1943 (.str "framerune.cspexpr" 1145),en P "__firstlineno__" 1947 (.int 643 1946),en P "take" 1956 (.ref 1011),en P "__static_attributes__" 1957 (.ref 1012),en P "__doc__" 1958 .none] 2),
 (1014,clO "IndexTail" [.ref 554] [.ref 1014,.ref 554,.type "object"] 1013 #[some (.ref 998),none,some (.str "IndexTail" 1936),some (.str "IndexTail" 1944),some (.builtin "object.__new__"),some (.bool true)]),
 (1029,cdO "take" "PostTail.take" 1973 651 3 0 0 3 1024 181 1980),
 (1030,fnO "take" "PostTail.take" (nth (bodyOf (nth top 144)) 0) "framerune.cspexpr" 1145 1029),
 (1032,dcO #[en P "__module__" 1968 (.str "framerune.cspexpr" 1145),en P "__firstlineno__" 1972 (.int 649 1971),en P "take" 1981 (.ref 1030),en P "__static_attributes__" 1982 (.ref 1031),en P "__doc__" 1983 .none] 2),
 (1033,clO "PostTail" [.ref 554] [.ref 1033,.ref 554,.type "object"] 1032 #[some (.ref 1017),none,some (.str "PostTail" 1961),some (.str "PostTail" 1969),some (.builtin "object.__new__"),some (.bool true)]),
 (1048,cdO "take" "OutTail.take" 1998 655 3 0 0 3 1043 181 2005),
 (1049,fnO "take" "OutTail.take" (nth (bodyOf (nth top 145)) 0) "framerune.cspexpr" 1145 1048),
 (1051,dcO #[en P "__module__" 1993 (.str "framerune.cspexpr" 1145),en P "__firstlineno__" 1997 (.int 653 1996),en P "take" 2006 (.ref 1049),en P "__static_attributes__" 2007 (.ref 1050),en P "__doc__" 2008 .none] 2),
 (1052,clO "OutTail" [.ref 554] [.ref 1052,.ref 554,.type "object"] 1051 #[some (.ref 1036),none,some (.str "OutTail" 1986),some (.str "OutTail" 1994),some (.builtin "object.__new__"),some (.bool true)]),
 (1067,cdO "take" "LambdaRead.take" 2023 659 2 0 0 3 1062 181 2029),
 (1068,fnO "take" "LambdaRead.take" (nth (bodyOf (nth top 146)) 0) "framerune.cspexpr" 1145 1067),
 (1070,dcO #[en P "__module__" 2018 (.str "framerune.cspexpr" 1145),en P "__firstlineno__" 2022 (.int 657 2021),en P "take" 2030 (.ref 1068),en P "__static_attributes__" 2031 (.ref 1069),en P "__doc__" 2032 .none] 2),
 (1071,clO "LambdaRead" [.ref 533] [.ref 1071,.ref 533,.type "object"] 1070 #[some (.ref 1055),none,some (.str "LambdaRead" 2011),some (.str "LambdaRead" 2019),some (.builtin "object.__new__"),some (.bool true)]),
 (1079,cdO "read_lambda" "read_lambda" 2035 661 1 0 0 3 1074 181 2045),
 (1080,fnO "read_lambda" "read_lambda" (nth top 147) "framerune.cspexpr" 1145 1079)
]
def K15 (P:Params):Frag:=[
 (1086,cdO "lambda_head" "lambda_head" 2047 676 2 0 0 3 1081 181 2054),
 (1087,fnO "lambda_head" "lambda_head" (nth top 148) "framerune.cspexpr" 1145 1086),
 (1093,cdO "in_params" "in_params" 2056 689 1 0 0 3 1088 181 2061),
 (1094,fnO "in_params" "in_params" (nth top 149) "framerune.cspexpr" 1145 1093),
 (1100,cdO "read_lambda_params" "read_lambda_params" 2063 691 1 0 0 3 1095 181 2071),
 (1101,fnO "read_lambda_params" "read_lambda_params" (nth top 150) "framerune.cspexpr" 1145 1100),
 (1107,cdO "read_lambda_param" "read_lambda_param" 2073 705 1 0 0 3 1102 181 2081),
 (1108,fnO "read_lambda_param" "read_lambda_param" (nth top 151) "framerune.cspexpr" 1145 1107),
 (1114,cdO "install_p_literals" "install_p_literals" 2083 716 1 0 0 3 1109 181 2088),
 (1115,fnO "install_p_literals" "install_p_literals" (nth top 152) "framerune.cspexpr" 1145 1114),
 (1121,cdO "install_p_names" "install_p_names" 2090 723 1 0 0 3 1116 181 2096),
 (1122,fnO "install_p_names" "install_p_names" (nth top 153) "framerune.cspexpr" 1145 1121),
 (1128,cdO "install_p_words" "install_p_words" 2098 730 1 0 0 3 1123 181 2104),
 (1129,fnO "install_p_words" "install_p_words" (nth top 154) "framerune.cspexpr" 1145 1128),
 (1135,cdO "install_p_tails" "install_p_tails" 2106 738 1 0 0 3 1130 181 2111),
 (1136,fnO "install_p_tails" "install_p_tails" (nth top 155) "framerune.cspexpr" 1145 1135),
 (1142,cdO "install_exprs" "install_exprs" 2113 746 1 0 0 3 1137 181 2118),
 (1143,fnO "install_exprs" "install_exprs" (nth top 156) "framerune.cspexpr" 1145 1142),
 (1144,tupO [.str "+" 2122,.str "*" 2123,.str "==" 2124,.str "&&" 2125,.str "<<" 2126,.str "is" 2127,.str "??" 2128,.str "-" 2129,.str "|" 2130,.str ">=" 2131,.str "%" 2132,.str "as" 2133,.str "||" 2134,.str "^" 2135,.str "<" 2136,.str "/" 2137,.str "!=" 2138,.str "&" 2139,.str ">>" 2140,.str "<=" 2141,.str ">" 2142] 0),
 (1145,tupO [.str "+" 2143,.str "-" 2144] 0)
]
def K16 (P:Params):Frag:=[
 (1146,tupO [.str "*" 2145,.str "/" 2146,.str "%" 2147] 0),
 (1147,tupO [.str "==" 2148,.str "!=" 2149] 0),
 (1148,tupO [.str ">=" 2150,.str "is" 2151,.str "<" 2152,.str "as" 2153,.str "<=" 2154,.str ">" 2155] 0),
 (1149,tupO [.str "<<" 2156,.str ">>" 2157] 0),
 (1150,tupO [.str "&&" 2158,.str "??" 2159,.str "||" 2160] 0),
 (1151,tupO [.str "+" 2161,.str "*" 2162,.str "-" 2163,.str "<<" 2164,.str "%" 2165,.str "&" 2166,.str "^" 2167,.str "|" 2168,.str "/" 2169,.str ">>" 2170] 0),
 (1152,tupO [.ref 1144,.ref 1145,.ref 1146,.ref 1147,.ref 1148,.ref 1149,.ref 1150,.ref 1151] 0),
 (1153,tupO [.str "-" 2172,.str "++" 2173,.str "!" 2174,.str "--" 2175,.str "~" 2176,.str "+" 2177,.str "(int)" 2178,.str "await" 2179] 0),
 (1154,{ cls:=.type "tuple", data:=.seq #[.str "++" 2181,.str "--" 2182,.str ".b" 2183,.str "()" 2184,.str "[7]" 2185] }),
 (1155,tupO [.str "=" 2187,.str "+=" 2188,.str "-=" 2189,.str ">>=" 2190,.str "*=" 2191,.str "<<=" 2192,.str "/=" 2193,.str "%=" 2194,.str "&=" 2195,.str "|=" 2196,.str "^=" 2197] 0),
 (1161,cdO "_law_take" "_law_take" 2199 758 2 0 0 3 1156 181 2207),
 (1162,fnO "_law_take" "_law_take" (nth top 162) "law_xm0343_01" 2120 1161),
 (1168,cdO "_law_operand" "_law_operand" 2209 763 4 0 0 3 1163 181 2225),
 (1169,fnO "_law_operand" "_law_operand" (nth top 163) "law_xm0343_01" 2120 1168),
 (1175,cdO "_law_powers" "_law_powers" 2227 803 0 0 0 3 1170 181 2235),
 (1176,fnO "_law_powers" "_law_powers" (nth top 164) "law_xm0343_01" 2120 1175),
 (1180,{ cls:=.type "code", data:=.fields #[.str "_law_fold" 2237,.str "_law_fold" 2238,.str "/claim/cut.py" 2239,.int 810 0,.int 3 0,.int 0 0,.int 0 0,.int 3 0,.ref 1177,.bool true,.int 181 0,.ref 1178,.none,.none,.none,.ref 1179,.int 2240 0,.int 810 0,.str "/claim/cut.py" 2241] }),
 (1181,fnO "_law_fold" "_law_fold" (nth top 165) "law_xm0343_01" 2120 1180),
 (1185,{ cls:=.type "code", data:=.fields #[.str "_law_tree" 2243,.str "_law_tree" 2244,.str "/claim/cut.py" 2245,.int 828 0,.int 2 0,.int 0 0,.int 0 0,.int 3 0,.ref 1182,.bool true,.int 181 0,.ref 1183,.none,.none,.none,.ref 1184,.int 2246 0,.int 828 0,.str "/claim/cut.py" 2247] }),
 (1186,fnO "_law_tree" "_law_tree" (nth top 166) "law_xm0343_01" 2120 1185)
]
def K17 (P:Params):Frag:=[
 (1192,cdO "_law_chain" "_law_chain" 2249 843 4 0 0 3 1187 181 2274),
 (1193,fnO "_law_chain" "_law_chain" (nth top 167) "law_xm0343_01" 2120 1192),
 (1199,cdO "_law_whole" "_law_whole" 2276 878 3 0 0 3 1194 181 2297),
 (1200,fnO "_law_whole" "_law_whole" (nth top 168) "law_xm0343_01" 2120 1199),
 (1206,cdO "_law_tokens" "_law_tokens" 2299 905 2 0 0 3 1201 181 2310),
 (1207,fnO "_law_tokens" "_law_tokens" (nth top 169) "law_xm0343_01" 2120 1206),
 (1213,cdO "_law_rows" "_law_rows" 2312 929 1 0 0 3 1208 181 2320),
 (1214,fnO "_law_rows" "_law_rows" (nth top 170) "law_xm0343_01" 2120 1213),
 (1220,cdO "_law_holds" "_law_holds" 2322 940 5 0 0 3 1215 181 2335),
 (1221,fnO "_law_holds" "_law_holds" (nth top 171) "law_xm0343_01" 2120 1220),
 (1225,{ cls:=.type "code", data:=.fields #[.str "law" 2337,.str "law" 2338,.str "/claim/cut.py" 2339,.int 956 0,.int 1 0,.int 0 0,.int 0 0,.int 3 0,.ref 1222,.bool true,.int 181 0,.ref 1223,.none,.none,.none,.ref 1224,.int 2340 0,.int 956 0,.str "/claim/cut.py" 2341] }),
 (1226,fnO "law" "law" (nth top 172) "law_xm0343_01" 2120 1225)
]
def K (P:Params):Frag:=K1 P ++ (K2 P ++ (K3 P ++ (K4 P ++ (K5 P ++ (K6 P ++ (K7 P ++ (K8 P ++ (K9 P ++ (K10 P ++ (K11 P ++ (K12 P ++ (K13 P ++ (K14 P ++ (K15 P ++ (K16 P ++ (K17 P))))))))))))))))
abbrev eX:List Stmt:=bodyOf (nth top 165)
abbrev dJ:Fn:=⟨"_law_fold", lN (nth top 165),1181,.ref 1180,[]⟩
abbrev eW:List Stmt:=bodyOf (nth top 166)
abbrev dT:Fn:=⟨"_law_tree", lN (nth top 166),1186,.ref 1185,[]⟩
abbrev rS:List Stmt:=bodyOf (nth top 172)
abbrev iX:Fn:=⟨"law", lN (nth top 172),1226,.ref 1225,[]⟩
def Qf (k:Nat):Type:=k.rec (Sem (List (Str×Value))) fun _ T=>Value→T
def cur (k:Nat):(List Value→Sem (List (Str×Value)))→Qf k:=k.rec (fun f=>f []) fun _ ih f v=>ih fun vs=>f (v :: vs)
theorem Iv {k:Nat} {f g:List Value→Sem (List (Str×Value))} (h:cur k f=cur k g) (vs:List Value) (e:vs.length=k):f vs=g vs:=by
 induction k generalizing f g vs with
 | zero=>cases vs with | nil=>exact h | cons=>cases e
 | succ k ih=>cases vs with | nil=>cases e | cons v vs=>exact ih (f:=fun vs=>f (v :: vs)) (g:=fun vs=>g (v :: vs)) (congrFun h v) vs (Nat.succ.inj e)
section
variable {c:Cx} (hK:c.K=K c.w.params)
include hK
abbrev Sg (fn:Fn) (params keys:List Str):Prop:=(fn.scope.isCoroutine=false∧fn.scope.isGenerator=false∧fn.scope.kind=.function)∧(∀ x∈fn.scope.names,x.2≠.cell)∧(fn.scope.names.map (·.1)).Nodup∧keys.Nodup∧(∀ x∈keys,(x,NameKind.local)∈fn.scope.names)∧(∀ x∈params,x∈keys)∧params.Nodup∧(fn.scope.names.all fun p=>!(p.1 == ("__debug__" : Str)))=true
def Mm (P:Params) (fn:Fn) (params keys:List Str):Bool:=codeIn (K P) fn.cdv fn.qual && fn.cl.isEmpty && decide (Sg fn params keys)
abbrev RC (F:FuncData) (ps:List Str):Prop:=∀ vs,vs.length=ps.length→bindArgs F ⟨vs,[]⟩=pure (ps.zip vs)
theorem fnAt {fn:Fn} {params keys:List Str} {body:List Stmt} (name:Str) (ps:Arguments) (pm:Value) (lk:(K c.w.params).lookup fn.f=some ⟨.type "function", none,.func (fnOf name fn.qual ps body fn.scope .none .none .none pm none fn.cdv .none),#[]⟩)
  (hb:RC (fnOf name fn.qual ps body fn.scope .none .none .none pm none fn.cdv .none) params) (h:Mm c.w.params fn params keys=true):FnAt c fn params keys body:=by
 unfold Mm at h
 rw [Bool.and_eq_true,Bool.and_eq_true] at h
 obtain ⟨⟨hc,hn⟩,h⟩:=h
 have h:=of_decide_eq_true h
 exact ⟨⟨name,ps,_,_,_,pm,_,_,_,_,_,by rw [hK]; exact lk,fun s vs e=>.of_eq (hb vs e)⟩,by rw [hK]; exact hc,List.isEmpty_iff.mp hn,h.1,h.2.1,h.2.2.1,h.2.2.2.1,h.2.2.2.2.1,h.2.2.2.2.2.1,h.2.2.2.2.2.2.1,h.2.2.2.2.2.2.2⟩
omit hK in
theorem PL {F:FuncData} {ps:List Str} {k:Nat} (hk:ps.length=k) (h:(cur k fun vs=>bindArgs F ⟨vs,[]⟩)=cur k fun vs=>pure (ps.zip vs)):RC F ps:=fun vs e=>Iv h vs (e.trans hk)
end
theorem bu {c:Cx} (hK:c.K=K c.w.params) {x:Str} {u:Value} {v:V} (e:nsIn (K c.w.params) mainGlobals x=some (some u)) (r:VR c [] v u):Glob c x v:=⟨u,by rw [hK]; exact e,r⟩
theorem mv {c:Cx} (hK:c.K=K c.w.params) {x:Str} {u:Value} {v:V} (e:nsIn (K c.w.params) mainGlobals x=some none) (e2:bootBuiltins x=some u) (e3:x ≠ "__name__") (r:VR c [] v u):uX c x v:=⟨u,by rw [hK]; exact e,e2,e3,r⟩
def KY (P:PySem.Params) (a:Addr):List Value×Nat:=match (K P).lookup a with
 | some o=>(match o.data with
  | .seq xs n=>(xs.toList,n)
  | _=>([],0))
 | none=>([],0)
def MF (P:PySem.Params) (a:Addr):List (Str×Tok×Value)×Nat:=match (K P).lookup a with
 | some o=>(match o.data with
  | .dict es n=>(es.toList.map fun e=>(match e.key with
   | .str k t=>(k,t,e.val)
   | _=>("", 0,e.val)),n)
  | _=>([],0))
 | none=>([],0)
def Ri (P:PySem.Params) (p:Str×Tok×Value):DictEntry:=⟨PyData.keyHash P p.1,.str p.1 p.2.1,p.2.2⟩
def PE (v:Value):Option {x:V // ∀ c fz,VR c fz x v}:=match v with
 | .int i t=>some ⟨.int i,fun _ _=>.int i t⟩
 | .str s t=>some ⟨.str s,fun _ _=>.str s t⟩
 | _=>none
def MG {R:V→Value→Prop} (f:(v:Value)→Option {x:V // R x v}) (l:List Value):Option {xs:List V // FZ R xs l}:=l.rec (some ⟨[],.nil⟩) fun v _ r=>(f v).bind fun x=>r.map fun xs=>⟨x.1 :: xs.1,.cons x.2 xs.2⟩
theorem FZ.imp {R Q:V→Value→Prop} {xs:List V} {l:List Value} (h:FZ R xs l) (k:∀ v∈l,∀ x,R x v→Q x v):FZ Q xs l:=by
 induction h with
 | nil=>exact .nil
 | cons a _ ih=>exact .cons (k _ (.head _) _ a) (ih fun v hv=>k v (.tail _ hv))
theorem zr {R:V→Value→Prop} {f:(v:Value)→Option {x:V // R x v}} {l:List Value} {xs:List V} (h:(MG f l).map (·.1)=some xs):FZ R xs l:=by
 obtain ⟨t,_,e⟩:=Option.map_eq_some_iff.mp h
 exact e ▸ t.2
theorem Sb {c:Cx} {fz:Led} {l:List (Str×Tok×Value)} {xs:List V} (h:bK c fz xs (l.map (·.2.2))):DR c fz (l.map (·.1)) xs (l.map (Ri c.w.params)):=by
 induction l generalizing xs with
 | nil=>cases h; exact .nil
 | cons p l ih=>
  obtain ⟨_,_,rfl,a,r⟩:=bK.E8 h
  exact .cons a (ih r)
def Pl (P:PySem.Params) (a:Addr):Obj:=tupO (KY P a).1 (KY P a).2
theorem A4 {c:Cx} (hK:c.K=K c.w.params) {a:Addr} {xs:List V} (e:((K c.w.params).lookup a,(MG PE (KY c.w.params a).1).map (·.1))=(some (Pl c.w.params a),some xs)):VR c [] (.tup xs) (.ref a):=
 .tup (.inr (by rw [hK]; exact congrArg (·.1) e)) ((zr (congrArg (·.2) e:_=_)).imp fun _ _ _ h=>h c [])
def Pu (l:List Value):List Addr:=l.flatMap fun v=>match v with
 | .ref a=>[a]
 | _=>[]
def SY (P:PySem.Params) (v:Value):Option {x:V // ∀ c:Cx,c.K=K P→(∀ b∈Pu [v],(K P).lookup b=some (Pl P b))→VR c [] x v}:=match v with
 | .ref a=>(MG PE (KY P a).1).map fun t=>⟨.tup t.1,fun c hK h=>.tup (.inr (by rw [hK]; exact h a (.head _))) (t.2.imp fun _ _ _ h=>h c [])⟩
 | _=>none
theorem J1 {c:Cx} (hK:c.K=K c.w.params) {a:Addr} {xs:List V} (e:((K c.w.params).lookup a,(MG (SY c.w.params) (KY c.w.params a).1).map (·.1))=(some (Pl c.w.params a),some xs))
  (e2:(Pu (KY c.w.params a).1).map (fun b=>(K c.w.params).lookup b)=(Pu (KY c.w.params a).1).map fun b=>some (Pl c.w.params b)):VR c [] (.tup xs) (.ref a):=
 .tup (.inr (by rw [hK]; exact congrArg (·.1) e)) ((zr (congrArg (·.2) e:_=_)).imp fun v hv x h=>h c hK fun b hb=>
  List.map_inj_left.mp e2 b (List.mem_flatMap.mpr ⟨v,hv,by rw [Pu,List.flatMap_cons,List.flatMap_nil,List.append_nil] at hb; exact hb⟩))
theorem gE {c:Cx} (hK:c.K=K c.w.params) {a:Addr} {ks:List Str} {xs:List V}
  (e:((K c.w.params).lookup a,(MF c.w.params a).1.map (·.1),(MG PE ((MF c.w.params a).1.map (·.2.2))).map (·.1),decide ks.Nodup)=(some (dictOf ((MF c.w.params a).1.map (Ri c.w.params)) (MF c.w.params a).2),ks,some xs,true)):VR c [] (.aH ks xs) (.ref a):=by
 have e2:(MF c.w.params a).1.map (·.1)=ks:=congrArg (·.2.1) e
 have e3:(MG PE ((MF c.w.params a).1.map (·.2.2))).map (·.1)=some xs:=congrArg (·.2.2.1) e
 refine .aH (of_decide_eq_true (congrArg (·.2.2.2) e:_=_)) (.inr (by rw [hK]; exact congrArg (·.1) e)) ?_
 rw [← e2]
 exact Sb ((zr e3).imp fun _ _ _ h=>h c [])
section
variable {c:Cx} (hK:c.K=K c.w.params)
include hK
abbrev bZ:List Str:=[";", ")", "{", "}"]
abbrev cY:List V:=[.int 1002,.int 1026,.int 1514,.int 1513]
theorem sd:Glob c "SIGN_NUMBERS" (.aH bZ cY):=bu hK (u:=.ref 176) (by kernel_rfl) (gE hK (by kernel_rfl))
abbrev fj:List Int:=[0,1,3,4,5]
abbrev fs:List V:=[.str "#end", .str "#name", .str "#int", .str "#text", .str "#char"]
theorem vz:Glob c "TOKEN_KEYS" (.e9 fj fs):=bu hK (u:=.ref 177) (by kernel_rfl) (.e9 (of_decide_eq_true (by kernel_rfl)) (.inr (by rw [hK]; exact (by kernel_rfl:(K c.w.params).lookup 177=some (dictOf [{ hash:=0,key:=.int 0 529,val:=.str "#end" 530 },{ hash:=1,key:=.int 1 531,val:=.str "#name" 532 },{ hash:=3,key:=.int 3 533,val:=.str "#int" 534 },{ hash:=4,key:=.int 4 535,val:=.str "#text" 536 },{ hash:=5,key:=.int 5 537,val:=.str "#char" 538 }] 5))) ) (.cons rfl (.str _ _) (.cons rfl (.str _ _) (.cons rfl (.str _ _) (.cons rfl (.str _ _) (.cons rfl (.str _ _) (.nil)))))))
abbrev aP:List Str:=["bool", "byte", "sbyte", "short", "ushort", "int", "uint", "long", "ulong", "char", "string", "object"]
abbrev de:List V:=[.int 1,.int 1,.int 1,.int 1,.int 1,.int 1,.int 1,.int 1,.int 1,.int 1,.int 1,.int 1]
theorem xw:Glob c "KEY_TYPES" (.aH aP de):=bu hK (u:=.ref 402) (by kernel_rfl) (gE hK (by kernel_rfl))
abbrev fx:List Str:=["float", "double", "decimal"]
abbrev fq:List V:=[.int 1,.int 1,.int 1]
theorem wq:Glob c "REAL_TYPES" (.aH fx fq):=bu hK (u:=.ref 403) (by kernel_rfl) (gE hK (by kernel_rfl))
abbrev dH:List Str:=["true", "false", "null", "this", "base", "new", "default", "typeof", "checked", "unchecked", "bool", "byte", "sbyte", "short", "ushort", "int", "uint", "long", "ulong", "char", "string", "object"]
abbrev fy:List V:=[.int 1,.int 1,.int 1,.int 1,.int 1,.int 1,.int 1,.int 1,.int 1,.int 1,.int 1,.int 1,.int 1,.int 1,.int 1,.int 1,.int 1,.int 1,.int 1,.int 1,.int 1,.int 1]
theorem w8:Glob c "EXPR_WORDS" (.aH dH fy):=bu hK (u:=.ref 406) (by kernel_rfl) (gE hK (by kernel_rfl))
abbrev cO:List Str:=["(", "+", "-", "!", "~", "++", "--"]
abbrev fe:List V:=[.int 1,.int 1,.int 1,.int 1,.int 1,.int 1,.int 1]
theorem vT:Glob c "EXPR_SIGNS" (.aH cO fe):=bu hK (u:=.ref 408) (by kernel_rfl) (gE hK (by kernel_rfl))
abbrev aa:List Str:=["??", "||", "&&", "|", "^", "&", "==", "!=", "<", ">", "<=", ">=", "is", "as", "<<", ">>", "+", "-", "*", "/", "%"]
abbrev bj:List V:=[.int 1,.int 2,.int 3,.int 4,.int 5,.int 6,.int 7,.int 7,.int 8,.int 8,.int 8,.int 8,.int 8,.int 8,.int 9,.int 9,.int 10,.int 10,.int 11,.int 11,.int 11]
theorem EO:Glob c "POWERS" (.aH aa bj):=bu hK (u:=.ref 512) (by kernel_rfl) (gE hK (by kernel_rfl))
abbrev ak:List Str:=["=", "+=", "-=", "*=", "/=", "%=", "&=", "|=", "^=", "<<=", ">>="]
abbrev cV:List V:=[.int 1,.int 1,.int 1,.int 1,.int 1,.int 1,.int 1,.int 1,.int 1,.int 1,.int 1]
theorem qL:Glob c "ASSIGN_SIGNS" (.aH ak cV):=bu hK (u:=.ref 514) (by kernel_rfl) (gE hK (by kernel_rfl))
abbrev cX:List Str:=["null", "true", "false", "#int", "#text", "#char", "-"]
abbrev ed:List V:=[.int 1,.int 1,.int 1,.int 1,.int 1,.int 1,.int 1]
theorem qV:Glob c "PATTERN_KEYS" (.aH cX ed):=bu hK (u:=.ref 515) (by kernel_rfl) (gE hK (by kernel_rfl))
abbrev bb:List Str:=["+", "-", "!", "~", "++", "--"]
abbrev bp:List V:=[.int 17,.int 17,.int 17,.int 17,.int 18,.int 18]
theorem vG:Glob c "HEAD_KINDS" (.aH bb bp):=bu hK (u:=.ref 516) (by kernel_rfl) (gE hK (by kernel_rfl))
theorem vA:Glob c "_law_POOLS" (.tup [.tup [.str "+", .str "*", .str "==", .str "&&", .str "<<", .str "is", .str "??", .str "-", .str "|", .str ">=", .str "%", .str "as", .str "||", .str "^", .str "<", .str "/", .str "!=", .str "&", .str ">>", .str "<=", .str ">"],.tup [.str "+", .str "-"],.tup [.str "*", .str "/", .str "%"],.tup [.str "==", .str "!="],.tup [.str ">=", .str "is", .str "<", .str "as", .str "<=", .str ">"],.tup [.str "<<", .str ">>"],.tup [.str "&&", .str "??", .str "||"],.tup [.str "+", .str "*", .str "-", .str "<<", .str "%", .str "&", .str "^", .str "|", .str "/", .str ">>"]]):=bu hK (u:=.ref 1152) (by kernel_rfl) (J1 hK (by kernel_rfl) (by kernel_rfl))
theorem tM:Glob c "_law_BEFORE" (.tup [.str "-", .str "++", .str "!", .str "--", .str "~", .str "+", .str "(int)", .str "await"]):=bu hK (u:=.ref 1153) (by kernel_rfl) (A4 hK (by kernel_rfl))
theorem sG:Glob c "_law_BEHIND" (.tup [.str "++", .str "--", .str ".b", .str "()", .str "[7]"]):=bu hK (u:=.ref 1154) (by kernel_rfl) (A4 hK (by kernel_rfl))
theorem qW:Glob c "_law_ASSIGNS" (.tup [.str "=", .str "+=", .str "-=", .str ">>=", .str "*=", .str "<<=", .str "/=", .str "%=", .str "&=", .str "|=", .str "^="]):=bu hK (u:=.ref 1155) (by kernel_rfl) (A4 hK (by kernel_rfl))
theorem KU:uX c "len" (.bi "len"):=mv hK (by kernel_rfl) (by decide +kernel) (by decide +kernel) (.bi _)
theorem Mc:uX c "max" (.bi "max"):=mv hK (by kernel_rfl) (by decide +kernel) (by decide +kernel) (.bi _)
theorem tj:uX c "isinstance" (.bi "isinstance"):=mv hK (by kernel_rfl) (by decide +kernel) (by decide +kernel) (.bi _)
theorem EX:uX c "range" (.ty "range"):=mv hK (by kernel_rfl) (by decide +kernel) (by decide +kernel) (.ty _)
theorem Kk:uX c "int" (.ty "int"):=mv hK (by kernel_rfl) (by decide +kernel) (by decide +kernel) (.ty _)
abbrev cH:Addr:=38
theorem IT:iY c.K 38 35=true:=by rw [hK]; kernel_rfl
theorem mj:bB c.K 38 "kind" = true:=by rw [hK]; kernel_rfl
theorem vY:bJ c.K 38 "kind" = true:=by rw [hK]; kernel_rfl
theorem uz:bB c.K 38 "a" = true:=by rw [hK]; kernel_rfl
theorem D9:bJ c.K 38 "a" = true:=by rw [hK]; kernel_rfl
theorem gy:bB c.K 38 "kids" = true:=by rw [hK]; kernel_rfl
theorem uT:bJ c.K 38 "kids" = true:=by rw [hK]; kernel_rfl
theorem vt:bJ c.K 38 "mods" = true:=by rw [hK]; kernel_rfl
theorem zt:bB c.K 38 "at" = true:=by rw [hK]; kernel_rfl
theorem A3:bJ c.K 38 "at" = true:=by rw [hK]; kernel_rfl
theorem y7:bJ c.K 38 "nid" = true:=by rw [hK]; kernel_rfl
abbrev cy:Addr:=80
theorem xE:aA c.K 80 "put" 63=true:=by rw [hK]; kernel_rfl
theorem xX:aA c.K 80 "cut" 70=true:=by rw [hK]; kernel_rfl
theorem FU:iY c.K 80 56=true:=by rw [hK]; kernel_rfl
theorem sR:bB c.K 80 "rows" = true:=by rw [hK]; kernel_rfl
theorem sz:bJ c.K 80 "rows" = true:=by rw [hK]; kernel_rfl
abbrev cq:Addr:=149
abbrev cb:Addr:=173
abbrev bY:Addr:=341
theorem wo:aA c.K 341 "now" 219=true:=by rw [hK]; kernel_rfl
theorem eI:aA c.K 341 "ahead" 226=true:=by rw [hK]; kernel_rfl
theorem tW:aA c.K 341 "step" 233=true:=by rw [hK]; kernel_rfl
theorem dG:aA c.K 341 "is_sign" 240=true:=by rw [hK]; kernel_rfl
theorem fJ:aA c.K 341 "is_word" 247=true:=by rw [hK]; kernel_rfl
theorem fG:aA c.K 341 "is_name" 254=true:=by rw [hK]; kernel_rfl
theorem kq:aA c.K 341 "eat_sign" 261=true:=by rw [hK]; kernel_rfl
theorem aN:aA c.K 341 "need_sign" 282=true:=by rw [hK]; kernel_rfl
theorem jW:aA c.K 341 "need_name" 296=true:=by rw [hK]; kernel_rfl
theorem iR:aA c.K 341 "fault" 303=true:=by rw [hK]; kernel_rfl
theorem lq:aA c.K 341 "fault_at" 310=true:=by rw [hK]; kernel_rfl
theorem t8:aA c.K 341 "mark" 324=true:=by rw [hK]; kernel_rfl
theorem fm:aA c.K 341 "back" 331=true:=by rw [hK]; kernel_rfl
theorem cL:aA c.K 341 "part" 338=true:=by rw [hK]; kernel_rfl
theorem C5:iY c.K 341 212=true:=by rw [hK]; kernel_rfl
theorem nD:bB c.K 341 "tokens" = true:=by rw [hK]; kernel_rfl
theorem fZ:bJ c.K 341 "tokens" = true:=by rw [hK]; kernel_rfl
theorem vV:bB c.K 341 "at" = true:=by rw [hK]; kernel_rfl
theorem gw:bJ c.K 341 "at" = true:=by rw [hK]; kernel_rfl
theorem pN:bB c.K 341 "diags" = true:=by rw [hK]; kernel_rfl
theorem i5:bJ c.K 341 "diags" = true:=by rw [hK]; kernel_rfl
theorem i0:bB c.K 341 "parts" = true:=by rw [hK]; kernel_rfl
theorem pX:bJ c.K 341 "parts" = true:=by rw [hK]; kernel_rfl
theorem fQ:bB c.K 341 "firsts" = true:=by rw [hK]; kernel_rfl
theorem oB:bJ c.K 341 "firsts" = true:=by rw [hK]; kernel_rfl
theorem i7:bB c.K 341 "tails" = true:=by rw [hK]; kernel_rfl
theorem pI:bJ c.K 341 "tails" = true:=by rw [hK]; kernel_rfl
theorem pM:bJ c.K 341 "stmts" = true:=by rw [hK]; kernel_rfl
theorem lS:bJ c.K 341 "members" = true:=by rw [hK]; kernel_rfl
theorem r8:bB c.K 341 "deep" = true:=by rw [hK]; kernel_rfl
theorem ez:bJ c.K 341 "deep" = true:=by rw [hK]; kernel_rfl
theorem kb:bB c.K 341 "in_async" = true:=by rw [hK]; kernel_rfl
theorem d5:bJ c.K 341 "in_async" = true:=by rw [hK]; kernel_rfl
theorem oY:bB c.K 341 "owner" = true:=by rw [hK]; kernel_rfl
theorem i8:bJ c.K 341 "owner" = true:=by rw [hK]; kernel_rfl
abbrev jS:Addr:=425
theorem gj:aA c.K 425 "parse" 422=true:=by rw [hK]; kernel_rfl
theorem ym:aR c.K 425=true:=by rw [hK]; kernel_rfl
abbrev zy:Addr:=575
theorem fH:aA c.K 575 "parse" 572=true:=by rw [hK]; kernel_rfl
theorem yx:aR c.K 575=true:=by rw [hK]; kernel_rfl
abbrev Aa:Addr:=594
theorem nK:aA c.K 594 "parse" 591=true:=by rw [hK]; kernel_rfl
theorem xg:aR c.K 594=true:=by rw [hK]; kernel_rfl
abbrev eY:Addr:=718
theorem fT:aA c.K 718 "take" 715=true:=by rw [hK]; kernel_rfl
theorem vQ:iY c.K 718 708=true:=by rw [hK]; kernel_rfl
theorem mu:bB c.K 718 "kind" = true:=by rw [hK]; kernel_rfl
theorem lC:bJ c.K 718 "kind" = true:=by rw [hK]; kernel_rfl
abbrev jZ:Addr:=744
theorem wW:iY c.K 744 734=true:=by rw [hK]; kernel_rfl
theorem oH:bJ c.K 744 "kind" = true:=by rw [hK]; kernel_rfl
abbrev ew:Addr:=763
theorem AA:aR c.K 763=true:=by rw [hK]; kernel_rfl
abbrev ke:Addr:=782
theorem qh:aA c.K 782 "take" 779=true:=by rw [hK]; kernel_rfl
theorem xm:aR c.K 782=true:=by rw [hK]; kernel_rfl
abbrev zX:Addr:=808
theorem yl:aR c.K 808=true:=by rw [hK]; kernel_rfl
abbrev tN:Addr:=827
theorem rU:aR c.K 827=true:=by rw [hK]; kernel_rfl
abbrev iq:Addr:=846
theorem nI:aA c.K 846 "take" 843=true:=by rw [hK]; kernel_rfl
theorem vo:aR c.K 846=true:=by rw [hK]; kernel_rfl
abbrev sr:Addr:=865
theorem rR:aR c.K 865=true:=by rw [hK]; kernel_rfl
abbrev uJ:Addr:=884
theorem sJ:aR c.K 884=true:=by rw [hK]; kernel_rfl
abbrev jF:Addr:=903
theorem jb:aR c.K 903=true:=by rw [hK]; kernel_rfl
abbrev CJ:Addr:=922
theorem A5:aR c.K 922=true:=by rw [hK]; kernel_rfl
abbrev kJ:Addr:=976
theorem ma:aA c.K 976 "take" 973=true:=by rw [hK]; kernel_rfl
theorem tL:aR c.K 976=true:=by rw [hK]; kernel_rfl
abbrev rY:Addr:=995
theorem pj:aA c.K 995 "take" 992=true:=by rw [hK]; kernel_rfl
theorem yr:aR c.K 995=true:=by rw [hK]; kernel_rfl
abbrev oU:Addr:=1014
theorem ow:aA c.K 1014 "take" 1011=true:=by rw [hK]; kernel_rfl
theorem vW:aR c.K 1014=true:=by rw [hK]; kernel_rfl
abbrev jV:Addr:=1033
theorem qb:aA c.K 1033 "take" 1030=true:=by rw [hK]; kernel_rfl
theorem oQ:aR c.K 1033=true:=by rw [hK]; kernel_rfl
abbrev BY:Addr:=1052
theorem zS:aR c.K 1052=true:=by rw [hK]; kernel_rfl
abbrev kO:Addr:=1071
theorem lA:aA c.K 1071 "take" 1068=true:=by rw [hK]; kernel_rfl
theorem tO:aR c.K 1071=true:=by rw [hK]; kernel_rfl
abbrev xo (a:Addr) (n:Str) (i s k l:Nat):Obj:=clO n [.ref 136] [.ref a,.ref 136,.type "Exception", .type "BaseException", .type "object"] s #[some (.ref i),none,some (.str n k),some (.str n l),some (.builtin "Exception.__new__"),some (.bool true)]
theorem jT:c.K.lookup cq=some (xo 149 "TooDeep" 140 148 454 462):=by rw [hK]; kernel_rfl
theorem iE:c.K.lookup cb=some (xo 173 "BindStop" 164 172 486 494):=by rw [hK]; kernel_rfl
theorem km:xZ c.K cq 133:=⟨_,_,.mk ..,jT hK,by decide,by decide,by decide,by decide,by rw [hK]; kernel_rfl,by rw [hK]; kernel_rfl⟩
theorem il:xZ c.K cb 133:=⟨_,_,.mk ..,iE hK,by decide,by decide,by decide,by decide,by rw [hK]; kernel_rfl,by rw [hK]; kernel_rfl⟩
theorem Ht {C:Addr} {n:Str} {a i s k l:Nat} {x:Str} (h:c.K.lookup C=some (xo a n i s k l)) (h1:findIn (K c.w.params) (.ref C) "__setattr__" = some (some (.builtin "object.__setattr__"))) (h2:takerIn (K c.w.params) C x=some none):fw c.K C x:=
 ⟨_,(show clsIn c.K C=some _ by unfold clsIn; rw [h]; rfl),.c (.c .e),rfl,by rw [hK]; exact h1,by rw [hK]; exact h2⟩
theorem pS:fw c.K cq "code" := Ht hK (jT hK) (by kernel_rfl) (by kernel_rfl)
theorem tm:fw c.K cq "at" := Ht hK (jT hK) (by kernel_rfl) (by kernel_rfl)
theorem n9:fw c.K cb "code" := Ht hK (iE hK) (by kernel_rfl) (by kernel_rfl)
theorem qS:fw c.K cb "at" := Ht hK (iE hK) (by kernel_rfl) (by kernel_rfl)
theorem j6:um c.K "BindStop" cb cb 133 133 true:=⟨by rw [hK]; kernel_rfl,il hK,il hK,by rw [hK]; kernel_rfl⟩
theorem kf:um c.K "TooDeep" cq cq 133 133 true:=⟨by rw [hK]; kernel_rfl,km hK,km hK,by rw [hK]; kernel_rfl⟩
end
structure Bs where
 c:Cx
 hK:c.K=K c.w.params
abbrev Fm:=List (Option V)
abbrev Ph:=AF→Fm→AH→Prop
structure XX where
 b:Bs
 n:Nat
 hd:Option Addr
 Y:Fm→Addr→AH→Prop
abbrev TE:=XX→Fm→AH→Pv→Prop
abbrev TA:=XX→Fm→AH→(List V→AH→Prop)→Prop
abbrev TT:=XX→Fm→AH→(Bool→AH→Prop)→Prop
abbrev TS:=XX→Fm→AH→Ph→Prop
abbrev TH:=XX→Fm→AH→Addr→Ph→Prop
@[irreducible] noncomputable def TC (b:Bs) (n:Nat) (hd:Option Addr) (f:Value) (xs:List V) (σ:AH) (Φ:Pv) (Y:Addr→AH→Prop):Prop:=SC b.c n hd f xs σ Φ Y
theorem TC.of {b:Bs} {n:Nat} {hd:Option Addr} {f:Value} {xs:List V} {σ:AH} {Φ:Pv} {Y:Addr→AH→Prop} (h:SC b.c n hd f xs σ Φ Y):TC b n hd f xs σ Φ Y:=by unfold TC; exact h
theorem TC.sc {b:Bs} {n:Nat} {hd:Option Addr} {f:Value} {xs:List V} {σ:AH} {Φ:Pv} {Y:Addr→AH→Prop} (h:TC b n hd f xs σ Φ Y):SC b.c n hd f xs σ Φ Y:=by unfold TC at h; exact h
def Kp:Option V→Pv→AH→Prop
 | some v,Φ,σ=>Φ v σ
 | none,_,_=>False
def vy:Bool→Prop→Prop→Prop
 | true,p,_=>p
 | false,_,q=>q
def GX (x:V) (f:Int→Prop) (d:Prop):Prop:=match x with
 | .int i=>f i
 | _=>d
def Fw (x:V) (f:Str→Prop) (d:Prop):Prop:=match x with
 | .str i=>f i
 | _=>d
def OQ (x:V) (f:List V→Prop) (d:Prop):Prop:=match x with
 | .tup i=>f i
 | _=>d
def ii (x y:V) (k:Int→Int→Prop):Prop:=GX x (fun i=>GX y (k i) False) False
def Oe:V→Prop→Prop→Prop
 | .none,p,_=>p
 | .bi _,_,_ | .ty _,_,_=>False
 | _,_,q=>q
@[irreducible] noncomputable def Jm (Φ:Pv) (xs:List V) (σ:AH):Prop:=Φ (.fl xs) σ∨∀ a,σ a=none→Φ (.ref a) (σ.upd a (.list xs))
inductive MC (σ:AH):V→V→Bool→Prop
 | ds {k:Str} {y:V} {ks:List Str} {xs:List V}:Aw σ y ks xs→MC σ (.str k) y (decide (k∈ks))
 | sst {k:Str} {y:V} {ks:List Str}:y=.tup (ks.map .str)→MC σ (.str k) y (decide (k∈ks))
 | sin {k:Int} {y:V} {ks:List Int}:y=.tup (ks.map .int)→MC σ (.int k) y (decide (k∈ks))
 | lst {k:Int} {y:V} {ks:List Int}:ec σ y (ks.map .int)→MC σ (.int k) y (decide (k∈ks))
inductive Pt (σ:AH):V→V→Bool→Prop
 | ds {k:Str} {y:V} {ks:List Str} {xs:List V}:Aw σ y ks xs→Pt σ (.str k) y (decide (k∈ks))
 | di {k:Int} {y:V} {ks:List Int} {xs:List V}:JK σ y ks xs→Pt σ (.int k) y (decide (k∈ks))
inductive Pb (σ:AH):V→V→Prop
 | mk {x y:V} {xs:List V} {k:Nat}:ec σ x xs→ec σ y xs→(∀ z∈xs,V.Data k z)→k≤10→Pb σ x y
@[irreducible] noncomputable def NP (x y:V) (σ:AH) (Φ:Bool→AH→Prop):Prop:=∃ b,MC σ x y b∧Φ b σ
@[irreducible] noncomputable def Pf (x y:V) (σ:AH) (Φ:Bool→AH→Prop):Prop:=∃ b,Pt σ x y b∧Φ (!b) σ
def PZ (x y:V) (σ:AH) (Φ:Bool→AH→Prop):Prop:=GX x (fun i=>GX y (fun j=>Φ (i == j) σ) False) (Fw x (fun s=>Fw y (fun t=>Φ (s == t) σ) False) (Pb σ x y∧Φ true σ))
def RN (x y:V) (σ:AH) (Φ:Bool→AH→Prop):Prop:=GX x (fun i=>GX y (fun j=>Φ (i != j) σ) False) (Pb σ x y∧Φ false σ)
def OW (op:CmpOp) (x y:V) (σ:AH) (Φ:Bool→AH→Prop):Prop:=match op with
 | .Eq=>PZ x y σ Φ
 | .NotEq=>RN x y σ Φ
 | .Lt=>ii x y fun i j=>Φ (decide (i < j)) σ
 | .Gt=>ii x y fun i j=>Φ (decide (j < i)) σ
 | .LtE=>ii x y fun i j=>Φ (decide (i≤j)) σ
 | .GtE=>ii x y fun i j=>Φ (decide (j≤i)) σ
 | .In=>NP x y σ Φ
 | .NotIn=>Pf x y σ Φ
 | .Is=>Oe y (Oe x (Φ true σ) (Φ false σ)) False
 | .IsNot=>Oe y (Oe x (Φ false σ) (Φ true σ)) False
@[irreducible] noncomputable def Lg (x y:V) (σ:AH) (Φ:Pv):Prop:=∃ xs ys,ec σ x xs∧ec σ y ys∧xs.length + ys.length≤100000∧Jm Φ (xs ++ ys) σ
def N8 (x y:V) (σ:AH) (Φ:Pv):Prop:=GX x (fun i=>GX y (fun j=>Φ (.int (i + j)) σ) False) (Fw x (fun s=>Fw y (fun t=>s.length + t.length≤sizeLine∧Φ (.str (s ++ t)) σ) False) (Lg x y σ Φ))
def QY (op:Operator) (x y:V) (σ:AH) (Φ:Pv):Prop:=match op with
 | .Add=>N8 x y σ Φ
 | .Sub=>ii x y fun i j=>Φ (.int (i - j)) σ
 | .Mult=>ii x y fun i j=>IntMulOk i j∧Φ (.int (i * j)) σ
 | .Mod=>ii x y fun i j=>j≠0∧Φ (.int (i.fmod j)) σ
 | .FloorDiv=>ii x y fun i j=>(j≠0∧Builtin.divisionGoesByPylong i j=false)∧Φ (.int (i.fdiv j)) σ
 | _=>False
def IQ (op:Operator) (x y:V) (σ:AH) (Φ:Pv):Prop:=match op with
 | .Add=>ii x y fun i j=>Φ (.int (i + j)) σ
 | .Sub=>ii x y fun i j=>Φ (.int (i - j)) σ
 | _=>False
@[irreducible] noncomputable def OX (x:V) (σ:AH) (Φ:Bool→AH→Prop):Prop:=∃ xs,ec σ x xs∧xs.length≤1000000∧Φ (!xs.isEmpty) σ
def QF (x:V) (σ:AH) (Φ:Bool→AH→Prop):Prop:=match x with
 | .bool b=>Φ b σ
 | x=>OX x σ Φ
inductive BQ (σ:AH):V→V→V→Prop
 | list {x y:V} {xs:List V} {k:Int}:ec σ x xs→0≤k→xs.length≤1000000→xs[k.toNat]?=some y→BQ σ x (.int k) y
 | neg {x y:V} {xs:List V} {k:Int}:ec σ x xs→k < 0→-(xs.length:Int)≤k→xs.length≤1000000→xs[(k + xs.length).toNat]?=some y→BQ σ x (.int k) y
 | ds {x y:V} {ks:List Str} {xs:List V} {k:Str}:Aw σ x ks xs→KV k y ks xs→BQ σ x (.str k) y
 | di {x y:V} {ks:List Int} {xs:List V} {k:Int}:JK σ x ks xs→KV k y ks xs→BQ σ x (.int k) y
@[irreducible] noncomputable def Oh (x y:V) (σ:AH) (Φ:Pv):Prop:=∃ v,BQ σ x y v∧Φ v σ
def G1 (xs:List V):Int→Option V
 | .ofNat j=>bif Nat.ble xs.length 1000000 then xs[j]? else none
 | .negSucc _=>none
def tp (x y:V) (σ:AH) (Φ:Pv):Prop:=OQ x (fun xs=>GX y (fun k=>Kp (G1 xs k) Φ σ) False) (Oh x y σ Φ)
inductive IM (σ:AH):V→V→V→AH→Prop
 | ds {a:Addr} {x:Str} {v:V} {ks ks':List Str} {xs xs':List V}:σ a=some (.ds ks xs)→ks.length≤100000→p5 x v ks xs ks' xs'→IM σ (.ref a) (.str x) v (σ.upd a (.ds ks' xs'))
 | di {a:Addr} {x:Int} {v:V} {ks ks':List Int} {xs xs':List V}:σ a=some (.di ks xs)→ks.length≤100000→p5 x v ks xs ks' xs'→IM σ (.ref a) (.int x) v (σ.upd a (.di ks' xs'))
 | neg {a:Addr} {i:Int} {v:V} {xs:List V}:σ a=some (.list xs)→i < 0→-(xs.length:Int)≤i→xs.length≤100000→IM σ (.ref a) (.int i) v (σ.upd a (.list (xs.set (i + xs.length).toNat v)))
@[irreducible] noncomputable def wF (x i v:V) (σ:AH) (k:AH→Prop):Prop:=∃ σ',IM σ x i v σ'∧k σ'
@[irreducible] noncomputable def OG (b:Bs) (v:V) (σ:AH) (x:Str) (Φ:Pv):Prop:=vZ b.c v σ x Φ
@[irreducible] noncomputable def OS (b:Bs) (o:V) (σ:AH) (x:Str) (v:V) (k:AH→Prop):Prop:=pL b.c o σ x v k
inductive MR (b:Bs) (σ:AH) (x:V) (name:Str) (f:Addr):Prop
 | mk {C:Addr} {ks:List Str} {vs:List V}:Inst σ x C ks vs→aA b.c.K C name f=true→name∉ks→MR b σ x name f
def QL (es:TA) (X:XX) (r:Fm) (Φ:List V→AH→Prop):Pv:=fun x σ=>es X r σ (R6 x Φ)
def Tn (X:XX) (r:Fm) (f:Value) (Φ:Pv):List V→AH→Prop:=fun xs σ=>TC X.b X.n X.hd f xs σ Φ (X.Y r)
def JB (X:XX) (r:Fm) (f:Value) (x:V) (Φ:Pv):List V→AH→Prop:=fun xs σ=>TC X.b X.n X.hd f (x :: xs) σ Φ (X.Y r)
@[irreducible] noncomputable def OM (X:XX) (r:Fm) (x:V) (name:Str) (es:TA) (σ:AH) (Φ:Pv):Prop:=∃ f,MR X.b σ x name f∧es X r σ (JB X r (.ref f) x Φ)
@[irreducible] noncomputable def JE (X:XX) (r:Fm) (x:V) (id:String) (es:TA) (σ:AH) (Φ:Pv):Prop:=∃ a xs,x=.ref a∧σ a=some (.list xs)∧es X r σ (JB X r (.builtin id) x Φ)
@[irreducible] noncomputable def PR (X:XX) (r:Fm) (x:V) (es:TA) (σ:AH) (Φ:Pv):Prop:=∃ ks xs,Aw σ x ks xs∧es X r σ (JB X r (.builtin "dict.get") x Φ)
def R7 (b:Bs) (x:Str) (Φ:Pv):Pv:=fun v σ=>OG b v σ x Φ
def QX (X:XX) (r:Fm) (name:Str) (es:TA) (Φ:Pv):Pv:=fun x σ=>OM X r x name es σ Φ
def RM (X:XX) (r:Fm) (id:String) (es:TA) (Φ:Pv):Pv:=fun x σ=>JE X r x id es σ Φ
def R1 (X:XX) (r:Fm) (es:TA) (Φ:Pv):Pv:=fun x σ=>PR X r x es σ Φ
def Ru (op:Operator) (x:V) (Φ:Pv):Pv:=fun y σ=>QY op x y σ Φ
def Qc (op:Operator) (b:TE) (X:XX) (r:Fm) (Φ:Pv):Pv:=fun x σ=>b X r σ (Ru op x Φ)
def T7 (op:CmpOp) (x:V) (Φ:Bool→AH→Prop):Pv:=fun y σ=>OW op x y σ Φ
def SJ (op:CmpOp) (b:TE) (X:XX) (r:Fm) (Φ:Bool→AH→Prop):Pv:=fun x σ=>b X r σ (T7 op x Φ)
def T8 (x:V) (Φ:Pv):Pv:=fun y σ=>tp x y σ Φ
def Sa (b:TE) (X:XX) (r:Fm) (Φ:Pv):Pv:=fun x σ=>b X r σ (T8 x Φ)
def Sy (Φ:Bool→AH→Prop):Pv:=fun x σ=>QF x σ Φ
def Sx (Φ:Pv):Bool→AH→Prop:=fun q σ=>Φ (.bool q) σ
def S5 (Φ:Bool→AH→Prop):Bool→AH→Prop:=fun q σ=>Φ (!q) σ
def So (b:TT) (X:XX) (r:Fm) (Φ:Bool→AH→Prop):Bool→AH→Prop:=fun q σ=>vy q (b X r σ Φ) (Φ false σ)
def Sr (b:TT) (X:XX) (r:Fm) (Φ:Bool→AH→Prop):Bool→AH→Prop:=fun q σ=>vy q (Φ true σ) (b X r σ Φ)
def RA (b:TE) (X:XX) (r:Fm) (Φ:Pv):Pv:=fun x σ=>match x with
 | .bool q=>vy q (b X r σ Φ) (Φ (.bool false) σ)
 | _=>False
def QS (b:TE) (X:XX) (r:Fm) (Φ:Pv):Pv:=fun x σ=>match x with
 | .bool q=>vy q (Φ (.bool true) σ) (b X r σ Φ)
 | _=>False
def SR (a b:TE) (X:XX) (r:Fm) (Φ:Pv):Bool→AH→Prop:=fun q σ=>vy q (a X r σ Φ) (b X r σ Φ)
def Rp (Φ:Pv):List V→AH→Prop:=fun xs σ=>Φ (.tup xs) σ
def QQ (Φ:Pv):List V→AH→Prop:=fun xs σ=>Φ (.fl xs) σ
def S2 (Φ:Pv):List V→AH→Prop:=fun xs σ=>∀ a,σ a=none→Φ (.ref a) (σ.upd a (.list xs))
def RD (Φ:Pv):Pv:=fun x σ=>match x with
 | .int i=>Φ (.int (-i)) σ
 | _=>False
def GV (c:Cx) (Φ:Pv):Pv:=fun x σ=>∃ y σ',b7 c x σ y σ'∧Φ y σ'
def xL (i:Nat):TE:=fun X r σ Φ=>Kp (r.getD i none) Φ σ
def xK (v:V):TE:=fun X r σ Φ=>Φ v σ
def xB (op:Operator) (a b:TE):TE:=fun X r σ Φ=>a X r σ (Qc op b X r Φ)
def xN (a:TE):TE:=fun X r σ Φ=>a X r σ (RD Φ)
def aG (op:CmpOp) (a b:TE):TT:=fun X r σ Φ=>a X r σ (SJ op b X r Φ)
def wG (t:TT):TE:=fun X r σ Φ=>t X r σ (Sx Φ)
def xT (a:TE):TT:=fun X r σ Φ=>a X r σ (Sy Φ)
def GO (a:TT):TT:=fun X r σ Φ=>a X r σ (S5 Φ)
def qx (a b:TT):TT:=fun X r σ Φ=>a X r σ (So b X r Φ)
def D6 (a b:TT):TT:=fun X r σ Φ=>a X r σ (Sr b X r Φ)
def MJ (a b:TE):TE:=fun X r σ Φ=>a X r σ (RA b X r Φ)
def Q0 (a b:TE):TE:=fun X r σ Φ=>a X r σ (QS b X r Φ)
def tZ (t:TT) (a b:TE):TE:=fun X r σ Φ=>t X r σ (SR a b X r Φ)
def bG (es:TA):TE:=fun X r σ Φ=>es X r σ (Rp Φ)
def cP (es:TA):TE:=fun X r σ Φ=>es X r σ (QQ Φ)
def ko (es:TA):TE:=fun X r σ Φ=>es X r σ (S2 Φ)
def bg (o:TE) (x:Str):TE:=fun X r σ Φ=>o X r σ (R7 X.b x Φ)
def xS (o i:TE):TE:=fun X r σ Φ=>o X r σ (Sa i X r Φ)
def xC (f:Value) (es:TA):TE:=fun X r σ Φ=>es X r σ (Tn X r f Φ)
def xM (o:TE) (name:Str) (es:TA):TE:=fun X r σ Φ=>o X r σ (QX X r name es Φ)
def cC (o:TE) (id:String) (es:TA):TE:=fun X r σ Φ=>o X r σ (RM X r id es Φ)
def Qh (o:TE) (es:TA):TE:=fun X r σ Φ=>o X r σ (R1 X r es Φ)
def xV (o:TE):TE:=fun X r σ Φ=>o X r σ (GV X.b.c Φ)
def GQ:TE:=fun X r σ Φ=>∀ a,σ a=none→Φ (.ref a) (σ.upd a (.ds [] []))∨Φ (.ref a) (σ.upd a (.di [] []))
def QK (x:V) (l u:Option Int) (Φ:Pv):Option Int→AH→Prop:=fun k σ=>J9 x l u k σ Φ
def pt (p:Option TE) (X:XX) (r:Fm) (σ:AH) (k:Option Int→AH→Prop):Prop:=match p with
 | none=>k none σ
 | some e=>e X r σ fun v σ=>match v with
  | .int i=>k (some i) σ
  | _=>False
def Ge (o:TE) (lo hi st:Option TE):TE:=fun X r σ Φ=>o X r σ fun x σ=>pt lo X r σ fun l σ=>pt hi X r σ fun u σ=>pt st X r σ (QK x l u Φ)
@[irreducible] noncomputable def Pq (a:Addr) (σ:AH) (Φ:Pv):Prop:=∃ v,σ a=some (.cell (some v))∧Φ v σ
@[irreducible] noncomputable def Pk (a:Addr) (σ:AH) (p:Prop):Prop:=(∃ o,σ a=some (.cell o))∧p
def CS (a:Addr):TE:=fun _ _ σ Φ=>Pq a σ Φ
inductive lY (keys:List Str) (Y:Fm→Addr→AH→Prop) (ρ:Loc) (a:Addr) (σ:AH):Prop
 | mk (r:Fm) (e:ρ=keys.zip r) (hl:r.length=keys.length) (q:Y r a σ)
inductive lT (keys:List Str) (Θ:Ph) (f:AF) (ρ:Loc) (σ:AH):Prop
 | mk (r:Fm) (e:ρ=keys.zip r) (hl:r.length=keys.length) (q:Θ f r σ)
def Q5 (fn:Fn) (keys:List Str) (e:Expr):TE:=fun X r σ Φ=>SE X.b.c fn X.n X.hd (keys.zip r) σ e Φ (lY keys X.Y)
def xF:TE:=fun _ _ _ _=>False
def bD:TS:=fun _ _ _ _=>False
def a0:TA:=fun X r σ Φ=>Φ [] σ
def a1 (e:TE) (es:TA):TA:=fun X r σ Φ=>e X r σ (QL es X r Φ)
def qT (rest:TS) (X:XX) (Θ:Ph):Ph:=fun f r σ=>match f with
 | .next=>rest X r σ Θ
 | f=>Θ f r σ
def qX (rest:TS) (X:XX) (r:Fm) (Θ:Ph):Pv:=fun _ σ=>rest X r σ Θ
def MU (i:Nat) (rest:TS) (X:XX) (r:Fm) (Θ:Ph):Pv:=fun v σ=>rest X (r.set i (some v)) σ Θ
def S4 (r:Fm) (Θ:Ph):Pv:=fun v σ=>Θ (.ret v) r σ
def Sk (a b:TS) (X:XX) (r:Fm) (Θ:Ph):Bool→AH→Prop:=fun q σ=>vy q (a X r σ Θ) (b X r σ Θ)
def aZ (Φ:Pv):Ph:=fun f _ σ=>Φ (iU f) σ
def bN:TS:=fun X r σ Θ=>Θ .next r σ
def bE (e:TE) (rest:TS):TS:=fun X r σ Θ=>e X r σ (qX rest X r Θ)
def bA (i:Nat) (e:TE) (rest:TS):TS:=fun X r σ Θ=>e X r σ (MU i rest X r Θ)
def bR (e:TE):TS:=fun X r σ Θ=>e X r σ (S4 r Θ)
def Q3:TS:=fun X r σ Θ=>Θ (.ret .none) r σ
def bI (t:TT) (a b rest:TS):TS:=fun X r σ Θ=>t X r σ (Sk a b X r (qT rest X Θ))
def R0 (a:Addr) (rest:TS) (X:XX) (r:Fm) (Θ:Ph):Pv:=fun v σ=>Pk a σ (rest X r (σ.upd a (.cell (some v))) Θ)
def ME (a:Addr) (e:TE) (rest:TS):TS:=fun X r σ Θ=>e X r σ (R0 a rest X r Θ)
def MI (fn:Fn) (keys:List Str) (st:Stmt) (rest:TS):TS:=fun X r σ Θ=>SS X.b.c fn X.n X.hd (keys.zip r) σ st (lT keys (qT rest X Θ)) (lY keys X.Y)
def Qp (op:Operator) (x:V) (Φ:Pv):Pv:=fun y σ=>IQ op x y σ Φ
def bU (i:Nat) (op:Operator) (e:TE) (rest:TS):TS:=fun X r σ Θ=>Kp (r.getD i none) (fun x σ=>e X r σ (Qp op x (MU i rest X r Θ))) σ
def Ld (rest:TS) (X:XX) (r:Fm) (Θ:Ph):AH→Prop:=fun σ=>rest X r σ Θ
def Py (x:Str) (v:V) (rest:TS) (X:XX) (r:Fm) (Θ:Ph):Pv:=fun o σ=>OS X.b o σ x v (Ld rest X r Θ)
def jx (o:TE) (x:Str) (e:TE) (rest:TS):TS:=fun X r σ Θ=>e X r σ fun v σ=>o X r σ (Py x v rest X r Θ)
def SI (o v:V) (rest:TS) (X:XX) (r:Fm) (Θ:Ph):Pv:=fun i σ=>wF o i v σ (Ld rest X r Θ)
def fE (o i e:TE) (rest:TS):TS:=fun X r σ Θ=>e X r σ fun v σ=>o X r σ fun x σ=>i X r σ (SI x v rest X r Θ)
def Sm (x:Str) (o:V) (op:Operator) (e:TE) (rest:TS) (X:XX) (r:Fm) (Θ:Ph):Pv:=fun old σ=>e X r σ (Qp op old fun new σ=>OS X.b o σ x new (Ld rest X r Θ))
def NU (o:TE) (x:Str) (op:Operator) (e:TE) (rest:TS):TS:=fun X r σ Θ=>o X r σ fun v σ=>OG X.b v σ x (Sm x v op e rest X r Θ)
def HB (rest:TS) (X:XX) (Θ:Ph) (J:Fm→AH→Prop):Ph:=fun f r σ=>match f with
 | .next | .cont=>J r σ
 | .brk=>rest X r σ Θ
 | .ret v=>Θ (.ret v) r σ
def QT (I:Nat→Fm→AH→Prop) (k:Nat):Fm→AH→Prop:=fun r σ=>∃ m,m < k∧I m r σ
def Qy (body rest:TS) (X:XX) (r:Fm) (Θ:Ph) (J:Fm→AH→Prop):Bool→AH→Prop:=fun q σ=>vy q (body X r σ (HB rest X Θ J)) (rest X r σ Θ)
@[irreducible] noncomputable def WW (t:TT) (body rest:TS) (X:XX) (r:Fm) (σ:AH) (Θ:Ph):Prop:=∃ (I:Nat→Fm→AH→Prop) (k:Nat),I k r σ∧∀ k r σ,I k r σ→t X r σ (Qy body rest X r Θ (QT I k))
def bW (t:TT) (body rest:TS):TS:=fun X r σ Θ=>WW t body rest X r σ Θ
@[irreducible] noncomputable def WF (i:Nat) (body rest:TS) (X:XX) (v:V) (r:Fm) (σ:AH) (Θ:Ph):Prop:=∃ (xs:List V) (I:Nat→Fm→AH→Prop),(∀ k r σ,I k r σ→ph σ v xs)∧I 0 r σ∧
 (∀ k y r σ,xs[k]?=some y→I k r σ→body X (r.set i (some y)) σ (HB rest X Θ (I (k + 1))))∧∀ r σ,I xs.length r σ→rest X r σ Θ
def Rj (i:Nat) (body rest:TS) (X:XX) (r:Fm) (Θ:Ph):Pv:=fun v σ=>WF i body rest X v r σ Θ
def Jw:Option Addr→Prop→Prop
 | none,p=>p
 | some _,_=>False
def bF (i:Nat) (e:TE) (body rest:TS):TS:=fun X r σ Θ=>Jw X.hd (e X r σ (Rj i body rest X r Θ))
@[irreducible] noncomputable def QI (X:XX) (r:Fm) (v:V) (σ:AH):Prop:=∃ a C dd fI,v=.ref a∧σ a=some (.excn C dd)∧xZ X.b.c.K C fI∧X.Y r a (σ.upd a (.exc C dd))
def PO (X:XX) (r:Fm):Pv:=fun v σ=>QI X r v σ
def bX (e:TE):TS:=fun X r σ Θ=>Jw X.hd (e X r σ (PO X r))
inductive Tg where
 | nm (i:Nat)
 | at_ (o:TE) (x:Str)
def Tg.ctorIdx (x:Tg):Nat:=x.casesOn (fun _=>0) (fun _ _=>1)
def asg:List Tg→List V→XX→Fm→AH→TS→Ph→Prop
 | [],[],X,r,σ,rest,Θ=>rest X r σ Θ
 | .nm i :: ts,v :: vs,X,r,σ,rest,Θ=>asg ts vs X (r.set i (some v)) σ rest Θ
 | .at_ o x :: ts,v :: vs,X,r,σ,rest,Θ=>o X r σ fun y σ=>OS X.b y σ x v fun σ=>asg ts vs X r σ rest Θ
 | _,_,_,_,_,_,_=>False
def PU:Option Addr→AH→Prop→Prop
 | none,_,p=>p
 | some e,σ,p=>(∃ C dd,σ e=some (.exc C dd))∧p
def Rh (ts:List Tg) (rest:TS) (X:XX) (r:Fm) (Θ:Ph):Pv:=fun v σ=>match v with
 | .tup xs=>vy (Nat.beq xs.length ts.length) (PU X.hd σ (asg ts xs X r σ rest Θ)) False
 | _=>False
def HX (ts:List Tg) (e:TE) (rest:TS):TS:=fun X r σ Θ=>e X r σ (Rh ts rest X r Θ)
def bV (ts:TS):TS:=fun X r σ Θ=>∃ r' σ',r'.length=r.length∧(∀ ks:List Str,ks.length=r.length→Ka X.b.c (ks.zip r) σ (ks.zip r') σ')∧ts X r' σ' Θ
def XX.at (X:XX) (a:Addr):XX:={ X with hd:=some a }
@[irreducible] noncomputable def MB (X:XX) (x:Str) (a:Addr) (σ:AH) (p:Prop):Prop:=∃ C D dd fC fD,σ a=some (.exc C dd)∧um X.b.c.K x C D fC fD true∧p
def hC (x:Str) (body:TS):TH:=fun X r σ a Θ=>MB X x a σ (body (X.at a) r σ Θ)
def RQ (Θ:Ph):Ph:=fun f r σ=>Θ f (r.map fun _=>none) σ
def hA (x:Str) (i:Nat) (body:TS):TH:=fun X r σ a Θ=>MB X x a σ (body ⟨X.b,X.n,some a,fun _ _ _=>False⟩ (r.set i (some (.ref a))) σ (RQ Θ))
def Qg (hs:TH) (X:XX) (Θ:Ph):Fm→Addr→AH→Prop:=fun r a σ=>hs X r σ a Θ
def bT (body:TS) (hs:TH) (rest:TS):TS:=fun X r σ Θ=>Jw X.hd <| body ⟨X.b,X.n,none,Qg hs X (qT rest X Θ)⟩ r σ (qT rest X Θ)
section
variable {c:Cx} {fn:Fn} {n:Nat} {hd:Option Addr} {ρ:Loc} {σ:AH} {Φ:Pv} {Ψ:Px} {x y v:V}
theorem ej {f:Int→Prop} {e:Prop} (h:GX x f e):(∃ i,x=.int i∧f i)∨e:=by
 cases x with
 | int i=>exact .inl ⟨i,rfl,h⟩
 | _=>exact .inr h
theorem lx {f:Str→Prop} {e:Prop} (h:Fw x f e):(∃ i,x=.str i∧f i)∨e:=by
 cases x with
 | str i=>exact .inl ⟨i,rfl,h⟩
 | _=>exact .inr h
theorem G0 {f:List V→Prop} {e:Prop} (h:OQ x f e):(∃ i,x=.tup i∧f i)∨e:=by
 cases x with
 | tup i=>exact .inl ⟨i,rfl,h⟩
 | _=>exact .inr h
theorem e8 {k:Int→Int→Prop} (h:ii x y k):∃ i j,x=.int i∧y=.int j∧k i j:=by
 rcases ej h with ⟨i,e,h⟩ | h
 ·rcases ej h with ⟨j,e2,h⟩ | h
  ·exact ⟨i,j,e,e2,h⟩
  ·exact h.elim
 ·exact h.elim
theorem vB {o:Option V} (h:Kp o Φ σ):∃ v,o=some v∧Φ v σ:=by
 cases o with
 | none=>exact False.elim h
 | some v=>exact ⟨v,rfl,h⟩
theorem Jm.fl {xs:List V} (h:Φ (.fl xs) σ):Jm Φ xs σ:=by unfold Jm; exact .inl h
theorem Jm.ref {xs:List V} (h:∀ a,σ a=none→Φ (.ref a) (σ.upd a (.list xs))):Jm Φ xs σ:=by unfold Jm; exact .inr h
theorem EC (h:N8 x y σ Φ):(∃ i j,x=.int i∧y=.int j∧Φ (.int (i + j)) σ)∨(∃ s t,x=.str s∧y=.str t∧s.length + t.length≤sizeLine∧Φ (.str (s ++ t)) σ)∨Lg x y σ Φ:=by
 rcases ej h with ⟨i,e,h⟩ | h
 ·rcases ej h with ⟨j,e2,h⟩ | h
  ·exact .inl ⟨i,j,e,e2,h⟩
  ·exact h.elim
 rcases lx h with ⟨i,e,h⟩ | h
 ·rcases lx h with ⟨j,e2,h⟩ | h
  ·exact .inr (.inl ⟨i,j,e,e2,h⟩)
  ·exact h.elim
 ·exact .inr (.inr h)
theorem KQ {op:Operator} (h:QY op x y σ Φ):O2 c fn n hd (binaryOp op) x y ρ σ Φ Ψ:=by
 cases op with
 | Add=>
  rcases EC h with ⟨i,j,rfl,rfl,h⟩ | ⟨i,j,rfl,rfl,h1,h⟩ | h
  ·exact Oo h
  ·exact BP h h1
  ·unfold Lg Jm at h
   obtain ⟨xs,ys,I,J,hl,h | h⟩:=h
   ·exact L7 I J hl h
   ·exact qE I J hl h
 | Sub=>obtain ⟨i,j,rfl,rfl,h⟩:=e8 h; exact O8 h
 | Mult=>obtain ⟨i,j,rfl,rfl,h1,h⟩:=e8 h; exact O0 h1 h
 | Mod=>obtain ⟨i,j,rfl,rfl,h1,h⟩:=e8 h; exact MO h1 h
 | FloorDiv=>obtain ⟨i,j,rfl,rfl,⟨h1,h2⟩,h⟩:=e8 h; exact P1 h1 h2 h
 | _=>exact False.elim h
theorem Bh {op:Operator} (h:IQ op x y σ Φ):O2 c fn n hd (inplaceOp op) x y ρ σ Φ Ψ:=by
 cases op with
 | Add=>obtain ⟨i,j,rfl,rfl,h⟩:=e8 h; exact JN h
 | Sub=>obtain ⟨i,j,rfl,rfl,h⟩:=e8 h; exact M9 h
 | _=>exact False.elim h
theorem qn {p q:Prop} (h:Oe y p q):(y=.none∧p)∨(y.BH=true∧q):=by
 cases y with
 | none=>exact .inl ⟨rfl,h⟩
 | bi | ty=>exact False.elim h
 | _=>exact .inr ⟨rfl,h⟩
theorem J6 {Φ:Bool→AH→Prop} (h:PZ x y σ Φ):(∃ i j,x=.int i∧y=.int j∧Φ (i == j) σ)∨(∃ s t,x=.str s∧y=.str t∧Φ (s == t) σ)∨(Pb σ x y∧Φ true σ):=by
 rcases ej h with ⟨i,e,h⟩ | h
 ·rcases ej h with ⟨j,e2,h⟩ | h
  ·exact .inl ⟨i,j,e,e2,h⟩
  ·exact h.elim
 rcases lx h with ⟨i,e,h⟩ | h
 ·rcases lx h with ⟨j,e2,h⟩ | h
  ·exact .inr (.inl ⟨i,j,e,e2,h⟩)
  ·exact h.elim
 ·exact .inr (.inr h)
theorem Hi {Φ:Bool→AH→Prop} (h:RN x y σ Φ):(∃ i j,x=.int i∧y=.int j∧Φ (i != j) σ)∨(Pb σ x y∧Φ false σ):=by
 rcases ej h with ⟨i,e,h⟩ | h
 ·rcases ej h with ⟨j,e2,h⟩ | h
  ·exact .inl ⟨i,j,e,e2,h⟩
  ·exact h.elim
 ·exact .inr h
theorem vU {op:CmpOp} {Φ:Bool→AH→Prop} (h:OW op x y σ Φ):O2 c fn n hd (compareOp op) x y ρ σ (fun x σ=>∃ q,x=.bool q∧Φ q σ) Ψ:=by
 cases op with
 | Eq=>
  rcases J6 h with ⟨i,j,rfl,rfl,h⟩ | ⟨i,j,rfl,rfl,h⟩ | ⟨⟨I,J,h1,h2⟩,h⟩
  ·exact E0 ⟨_,rfl,h⟩
  ·exact EP ⟨_,rfl,h⟩
  ·exact Cb I J h1 h2 ⟨_,rfl,h⟩
 | NotEq=>
  rcases Hi h with ⟨i,j,rfl,rfl,h⟩ | ⟨⟨I,J,h1,h2⟩,h⟩
  ·exact Gz ⟨_,rfl,h⟩
  ·exact C4 I J h1 h2 ⟨_,rfl,h⟩
 | Lt=>
  obtain ⟨i,j,rfl,rfl,h⟩:=e8 h; exact Em ⟨_,rfl,h⟩
 | Gt=>
  obtain ⟨i,j,rfl,rfl,h⟩:=e8 h; exact Gq ⟨_,rfl,h⟩
 | LtE=>
  obtain ⟨i,j,rfl,rfl,h⟩:=e8 h; exact Ef ⟨_,rfl,h⟩
 | GtE=>
  obtain ⟨i,j,rfl,rfl,h⟩:=e8 h; exact Fq ⟨_,rfl,h⟩
 | In=>
  change NP x y σ Φ at h; unfold NP at h
  obtain ⟨b,hr,h⟩:=h
  cases hr with
  | ds I=>exact Hj I ⟨_,rfl,h⟩
  | sst e=>subst e; exact D8 ⟨_,rfl,h⟩
  | sin e=>subst e; exact CM ⟨_,rfl,h⟩
  | lst I=>exact Cf I ⟨_,rfl,h⟩
 | NotIn=>
  change Pf x y σ Φ at h; unfold Pf at h
  obtain ⟨b,hr,h⟩:=h
  cases hr with
  | ds I=>exact zQ I ⟨_,rfl,h⟩
  | di I=>exact Ap I ⟨_,rfl,h⟩
 | Is=>
  rcases qn h with ⟨e1,g⟩ | ⟨_,g⟩
  ·subst e1
   rcases qn g with ⟨e2,g2⟩ | ⟨hx,g2⟩
   ·subst e2; exact Cs ⟨_,rfl,g2⟩
   ·exact Cn hx ⟨_,rfl,g2⟩
  ·exact g.elim
 | IsNot=>
  rcases qn h with ⟨e1,g⟩ | ⟨_,g⟩
  ·subst e1
   rcases qn g with ⟨e2,g2⟩ | ⟨hx,g2⟩
   ·subst e2; exact uR ⟨_,rfl,g2⟩
   ·exact uS hx ⟨_,rfl,g2⟩
  ·exact g.elim
theorem Mz {Φ:Bool→AH→Prop} (h:QF x σ Φ):OT c fn n hd x ρ σ Φ Ψ:=by
 have g:(∃ b,x=.bool b∧Φ b σ)∨OX x σ Φ:=by
  cases x with
  | bool b=>exact .inl ⟨b,rfl,h⟩
  | _=>exact .inr h
 rcases g with ⟨b,rfl,h⟩ | h
 ·exact IK h
 ·unfold OX at h
  obtain ⟨xs,I,hl,h⟩:=h
  exact HA I hl h
theorem I4 {xs:List V} {k:Int} (h:G1 xs k=some v):∃ j:Nat,k=j∧xs[j]?=some v∧xs.length≤1000000:=by
 cases k with
 | ofNat j=>
  replace h:(bif Nat.ble xs.length 1000000 then xs[j]? else none)=some v:=h
  cases hb:Nat.ble xs.length 1000000 with
  | false=>rw [hb] at h; cases h
  | true=>rw [hb] at h; exact ⟨j,rfl,h,Nat.le_of_ble_eq_true hb⟩
 | negSucc j=>cases h
theorem EG {xs:List V} {k:Nat} (h:xs[k]?=some v) (hl:xs.length≤1000000):G1 xs (k:Int)=some v:=by
 show (bif Nat.ble xs.length 1000000 then xs[k]? else none)=some v
 rw [Nat.ble_eq_true_of_le hl]; exact h
theorem yo {o:Option V} (h:o=some v) (k:Φ v σ):Kp o Φ σ:=by subst h; exact k
theorem J2 {value slice:Expr} {xs:List V} {j:Nat} (hs:Idx slice) (hj:xs[j]?=some v) (hl:xs.length≤1000000) (h:Φ v σ):O2 c fn n hd (subscriptTail value slice) (.tup xs) (.int j) ρ σ Φ Ψ:=by
 have:=(List.getElem?_eq_some_iff.mp hj).1
 refine D4 (j:=j) hs (by omega) (by omega) ?_ hj h
 unfold seqIndex?
 rw [if_neg (Int.not_lt.mpr (Int.natCast_nonneg j))]
 exact if_pos (by rw [decide_eq_true (Int.natCast_nonneg j),decide_eq_true (Int.ofNat_lt.mpr this)]; rfl)
theorem IC {value slice:Expr} (hs:Idx slice) (h:tp x y σ Φ):O2 c fn n hd (subscriptTail value slice) x y ρ σ Φ Ψ:=by
 have g:(∃ xs k,x=.tup xs∧y=.int k∧Kp (G1 xs k) Φ σ)∨Oh x y σ Φ:=by
  rcases G0 h with ⟨i,e,h⟩ | h
  ·rcases ej h with ⟨j,e2,h⟩ | h
   ·exact .inl ⟨i,j,e,e2,h⟩
   ·exact h.elim
  ·exact .inr h
 clear h
 rcases g with ⟨xs,k,rfl,rfl,h⟩ | h
 ·obtain ⟨v,e,h'⟩:=vB h
  obtain ⟨j,rfl,hj,hl⟩:=I4 e
  exact J2 hs hj hl h'
 ·unfold Oh at h
  obtain ⟨v,hr,h⟩:=h
  cases hr with
  | list I h0 hl hx=>exact AP hs I h0 hl hx h
  | neg I h0 h1 hl hx=>exact CF hs I h0 h1 hl hx h
  | ds I hx=>exact DB hs I hx h
  | di I hx=>exact Gr hs I hx h
theorem wF.run {o i:V} {k:AH→Prop} (h:wF o i v σ k):kX c fn n hd o i v ρ σ k:=by
 unfold wF at h
 obtain ⟨σ',hr,h⟩:=h
 cases hr with
 | ds hs hl hp=>exact HH hs hl hp h
 | di hs hl hp=>exact HS hs hl hp h
 | neg hs h0 h1 hl=>exact E7 hs h0 h1 hl h
end
def RE (fn:Fn) (keys:List Str) (e:Expr) (te:TE):Prop:=∀ X r σ Φ,r.length=keys.length→te X r σ Φ→SE X.b.c fn X.n X.hd (keys.zip r) σ e Φ (lY keys X.Y)
def RT (fn:Fn) (keys:List Str) (e:Expr) (te:TT):Prop:=∀ X r σ Φ,r.length=keys.length→te X r σ Φ→ST X.b.c fn X.n X.hd (keys.zip r) σ e Φ (lY keys X.Y)
structure GE (fn:Fn) (keys:List Str) (e:Expr) (te:TE):Prop where
 re:RE fn keys e te
 star:∀ env rest,starEach (e :: rest) env=(false,eval e env) :: starEach rest env
 swp:∀ t l env,swapsWith e t l env=pure false
 fold:∀ env x,foldedSetIterable e env x=pure x
 mark:∀ op,behindInMarks op e=false
 idx:Idx e
structure GA (fn:Fn) (keys:List Str) (es:List Expr) (ta:TA):Prop where
 ra:∀ X r σ Φ,r.length=keys.length→ta X r σ Φ→SA X.b.c fn X.n X.hd (keys.zip r) σ es (fun xs σ=>xs.length=es.length∧Φ xs σ) (lY keys X.Y)
 plain:Plain es
def RB (fn:Fn) (keys:List Str) (b:List Stmt) (ts:TS):Prop:=∀ X r σ Θ,r.length=keys.length→ts X r σ Θ→SB X.b.c fn X.n X.hd (keys.zip r) σ b (lT keys Θ) (lY keys X.Y)
def RH (fn:Fn) (keys:List Str) (hs:List ExceptHandler) (th:TH):Prop:=∀ X r σ a Θ,X.hd=none→r.length=keys.length→th X r σ a Θ→SH X.b.c fn X.n (keys.zip r) σ a hs (lT keys Θ) (lY keys X.Y)
def GN (x:Str) (v:V):Prop:=∀ b:Bs,Glob b.c x v∨uX b.c x v
def GF (x:Str) (f:Value):Prop:=∀ b:Bs,∃ fv,(Glob b.c x fv∨uX b.c x fv)∧Callee b.c fv f
theorem DH {keys:List Str} {r:Fm} {i:Nat} {x:Str} {v:V} (hk:keys[i]?=some x) (hv:r.getD i none=some v):At (keys.zip r) x v:=by
 induction keys generalizing r i with
 | nil=>simp at hk
 | cons k ks ih=>
  cases r with
  | nil=>simp at hv
  | cons o r=>
   cases i with
   | zero=>simp at hk hv; subst hk hv; exact .head
   | succ i=>simp at hk; exact .tail (ih hk (by simpa using hv))
theorem l9 {keys:List Str} {r:Fm} {i:Nat} {x:Str} {v:V} (hk:keys[i]?=some x) (hl:r.length=keys.length):sI x v (keys.zip r) (keys.zip (r.set i (some v))):=by
 induction keys generalizing r i with
 | nil=>simp at hk
 | cons k ks ih=>
  cases r with
  | nil=>simp at hl
  | cons o r=>
   cases i with
   | zero=>simp at hk; subst hk; exact .head
   | succ i=>simp at hk; exact .tail (ih hk (by simpa using hl))
section
variable {fn:Fn} {keys:List Str} {e e1 e2 e3:Expr} {es:List Expr} {te t1 t2 t3:TE} {tt s1 s2:TT} {ta:TA} {pos p1 p2 p3:Pos} {k:Nat} {x:Str} {v:V}
theorem lK {w:V} {u:Const} (h:∀ {c fn n hd ρ σ} {Φ:Pv} {Ψ:Px},Φ w σ→SE c fn n hd ρ σ (.Constant u k pos) Φ Ψ):GE fn keys (.Constant u k pos) (xK w):=
 ⟨fun X r σ Φ hl q=>h q,fun _ _=>rfl,fun _ _ _=>rfl,fun _ _=>rfl,fun _=>rfl,fun _ _=>⟨_,rfl⟩⟩
theorem O9:GE fn keys (.Name x pos) xF:=⟨fun X r σ Φ hl q=>q.elim,fun _ _=>rfl,fun _ _ _=>rfl,fun _ _=>rfl,fun _=>rfl,fun _ _=>⟨_,rfl⟩⟩
theorem MY {kw:List Keyword}:GE fn keys (.Call e es kw pos) xF:=⟨fun X r σ Φ hl q=>q.elim,fun _ _=>rfl,fun _ _ _=>rfl,fun _ _=>rfl,fun _=>rfl,fun _ _=>⟨_,rfl⟩⟩
theorem JR {i:Nat} (hk:keys[i]?=some x):GE fn keys (.Name x pos) (xL i):=
 ⟨fun X r σ Φ hl q=>by obtain ⟨v,e,h⟩:=vB q; exact fb (DH hk e) h,fun _ _=>rfl,fun _ _ _=>rfl,fun _ _=>rfl,fun _=>rfl,fun _ _=>⟨_,rfl⟩⟩
theorem Hr (hm:(x,NameKind.globalImplicit)∈fn.scope.names) (g:GN x v):GE fn keys (.Name x pos) (xK v):=
 ⟨fun X r σ Φ hl q=>(g X.b).elim (fun g=>FH hm g q) fun g=>Gn hm g q,fun _ _=>rfl,fun _ _ _=>rfl,fun _ _=>rfl,fun _=>rfl,fun _ _=>⟨_,rfl⟩⟩
theorem OL {a:Addr} (hm:(x,NameKind.cell)∈fn.scope.names) (hc:fn.cl.lookup x=some a):GE fn keys (.Name x pos) (CS a):=
 ⟨fun X r σ Φ hl q=>by unfold CS Pq at q; obtain ⟨v,hs,h⟩:=q; exact L4 hm hc hs h,fun _ _=>rfl,fun _ _ _=>rfl,fun _ _=>rfl,fun _=>rfl,fun _ _=>⟨_,rfl⟩⟩
theorem Kq {op:Operator} (h1:GE fn keys e1 t1) (h2:GE fn keys e2 t2):GE fn keys (.BinOp e1 op e2 pos) (xB op t1 t2):=
 ⟨fun X r σ Φ hl q=>I0 ((h1.re X r σ _ hl q).mono (fun x σ q=>(h2.re X r σ _ hl q).mono (fun y σ q=>KQ q) fun _ _ _ q=>q) fun _ _ _ q=>q),fun _ _=>rfl,fun _ _ _=>rfl,fun _ _=>rfl,fun _=>rfl,fun _ _=>⟨_,rfl⟩⟩
theorem Kw (h1:GE fn keys e1 t1):GE fn keys (.UnaryOp .USub e1 pos) (xN t1):=
 ⟨fun X r σ Φ hl q=>Mh ((h1.re X r σ _ hl q).mono (fun x σ q=>by
  unfold RD at q
  cases x with
  | int i=>exact Nk q
  | _=>exact False.elim q) fun _ _ _ q=>q),fun _ _=>rfl,fun _ _ _=>rfl,fun _ _=>rfl,fun _=>rfl,fun _ _=>⟨_,rfl⟩⟩
theorem LX {op:CmpOp} (h1:GE fn keys e1 t1) (h2:GE fn keys e2 t2):RT fn keys (.Compare e1 [op] [e2] pos) (aG op t1 t2):=
 fun X r σ Φ hl q=>Jx ((h1.re X r σ _ hl q).mono (fun x σ q=>(h2.re X r σ _ hl q).mono (fun y σ q=>vU q) fun _ _ _ q=>q) fun _ _ _ q=>q) (h2.mark op)
theorem HM {op:CmpOp} (h1:GE fn keys e1 t1) (hm:behindInMarks op e2=false):RT fn keys (.Compare e1 [op] [e2] pos) (aG op t1 (Q5 fn keys e2)):=
 fun X r σ Φ hl q=>Jx ((h1.re X r σ _ hl q).mono (fun x σ q=>SE.mono q (fun y σ q=>vU q) fun _ _ _ q=>q) fun _ _ _ q=>q) hm
theorem LL {op:CmpOp} (h1:GE fn keys e1 t1) (h2:GE fn keys e2 t2):GE fn keys (.Compare e1 [op] [e2] pos) (wG (aG op t1 t2)):=
 ⟨fun X r σ Φ hl q=>OF ((h1.re X r σ _ hl q).mono (fun x σ q=>(h2.re X r σ _ hl q).mono (fun y σ q=>fun d A fz a7 R s v u O L S r1 r2=>wpAny_mono (vU q d A fz a7 R s v u O L S r1 r2) (fun _ _ h=>by obtain ⟨_,_,_,⟨q,rfl,h⟩,r,s,t⟩:=h; exact ⟨_,_,_,h,r,s,t⟩) fun _ _ h=>h) fun _ _ _ q=>q) fun _ _ _ q=>q) (h2.mark op),fun _ _=>rfl,fun _ _ _=>rfl,fun _ _=>rfl,fun _=>rfl,fun _ _=>⟨_,rfl⟩⟩
theorem lj (h:GE fn keys e te) (he:∀ env,isTrue e env (eval e env)=(do let v ← eval e env; standAt e.pos; holding [v] (truthy v))):RT fn keys e (xT te):=
 fun X r σ Φ hl q=>Hn ((h.re X r σ _ hl q).mono (fun x σ q=>Mz q) fun _ _ _ q=>q) he
theorem Mx (h:RT fn keys e tt):RT fn keys (.UnaryOp .Not e pos) (GO tt):=fun X r σ Φ hl q=>MZ (h X r σ _ hl q)
theorem Iw (h:RT fn keys e tt):RT fn keys (.BoolOp .And [e] pos) tt:=fun X r σ Φ hl q=>Jo ((h X r σ _ hl q).mono fun b σ q=>by
 cases b with
 | true=>rw [if_pos rfl]; exact Dn q
 | false=>rw [if_neg Bool.false_ne_true]; exact q)
theorem Lf (h:RT fn keys e tt):RT fn keys (.BoolOp .Or [e] pos) tt:=fun X r σ Φ hl q=>O7 ((h X r σ _ hl q).mono fun b σ q=>by
 cases b with
 | true=>rw [if_pos rfl]; exact q
 | false=>rw [if_neg Bool.false_ne_true]; exact DO q)
theorem JP (h1:RT fn keys e s1) (h2:RT fn keys (.BoolOp .And es pos) s2):RT fn keys (.BoolOp .And (e :: es) pos) (qx s1 s2):=fun X r σ Φ hl q=>Jo ((h1 X r σ _ hl q).mono fun b σ q=>by
 cases b with
 | true=>rw [if_pos rfl]; exact h2 X r σ _ hl q
 | false=>rw [if_neg Bool.false_ne_true]; exact q)
theorem OU (h1:RT fn keys e s1) (h2:RT fn keys (.BoolOp .Or es pos) s2):RT fn keys (.BoolOp .Or (e :: es) pos) (D6 s1 s2):=fun X r σ Φ hl q=>O7 ((h1 X r σ _ hl q).mono fun b σ q=>by
 cases b with
 | true=>rw [if_pos rfl]; exact q
 | false=>rw [if_neg Bool.false_ne_true]; exact h2 X r σ _ hl q)
theorem Nh {op:BoolOp} (h:GE fn keys e te):GE fn keys (.BoolOp op [e] pos) te:=
 ⟨fun X r σ Φ hl q=>MV (h.re X r σ _ hl q),fun _ _=>rfl,fun _ _ _=>rfl,fun _ _=>rfl,fun _=>rfl,fun _ _=>⟨_,rfl⟩⟩
theorem Mf (h1:GE fn keys e t1) (h2:GE fn keys (.BoolOp .And (e2 :: es) pos) t2):GE fn keys (.BoolOp .And (e :: e2 :: es) pos) (MJ t1 t2):=
 ⟨fun X r σ Φ hl q=>OH ((h1.re X r σ _ hl q).mono (fun x σ q=>by
  unfold RA at q
  cases x with
  | bool b=>
   refine ⟨b,rfl,?_⟩
   cases b with
   | true=>exact h2.re X r σ _ hl q
   | false=>exact q
  | _=>exact False.elim q) fun _ _ _ q=>q),fun _ _=>rfl,fun _ _ _=>rfl,fun _ _=>rfl,fun _=>rfl,fun _ _=>⟨_,rfl⟩⟩
theorem Of (h1:GE fn keys e t1) (h2:GE fn keys (.BoolOp .Or (e2 :: es) pos) t2):GE fn keys (.BoolOp .Or (e :: e2 :: es) pos) (Q0 t1 t2):=
 ⟨fun X r σ Φ hl q=>QO ((h1.re X r σ _ hl q).mono (fun x σ q=>by
  unfold QS at q
  cases x with
  | bool b=>
   refine ⟨b,rfl,?_⟩
   cases b with
   | true=>rw [if_pos rfl]; exact q
   | false=>rw [if_neg Bool.false_ne_true]; exact h2.re X r σ _ hl q
  | _=>exact False.elim q) fun _ _ _ q=>q),fun _ _=>rfl,fun _ _ _=>rfl,fun _ _=>rfl,fun _=>rfl,fun _ _=>⟨_,rfl⟩⟩
theorem Ou (h:RT fn keys e tt) (h1:GE fn keys e1 t1) (h2:GE fn keys e2 t2):GE fn keys (.IfExp e e1 e2 pos) (tZ tt t1 t2):=
 ⟨fun X r σ Φ hl q=>IV ((h X r σ _ hl q).mono fun b σ q=>by
  cases b with
  | true=>rw [if_pos rfl]; exact h1.re X r σ _ hl q
  | false=>rw [if_neg Bool.false_ne_true]; exact h2.re X r σ _ hl q),fun _ _=>rfl,fun _ _ _=>rfl,fun _ _=>rfl,fun _=>rfl,fun _ _=>⟨_,rfl⟩⟩
theorem Kv:GA fn keys [] a0:=⟨fun X r σ Φ hl q=>OV ⟨rfl,q⟩,Dk⟩
theorem Ii (h1:GE fn keys e t1) (h2:GA fn keys es ta):GA fn keys (e :: es) (a1 t1 ta):=
 ⟨fun X r σ Φ hl q=>Lp ((h1.re X r σ _ hl q).mono (fun x σ q=>(h2.ra X r σ _ hl q).mono fun xs σ q=>⟨congrArg (· + 1) q.1,q.2⟩) fun _ _ _ q=>q) fun env=>h1.star env es,AB h1.star h2.plain⟩
theorem JY (h:GA fn keys es ta) (hl:es.length≤1000):GE fn keys (.Tuple es k pos) (bG ta):=
 ⟨fun X r σ Φ hr q=>IF ((h.ra X r σ _ hr q).mono fun xs σ q=>⟨by rw [q.1]; omega,q.2⟩),fun _ _=>rfl,fun _ _ _=>rfl,fun _ _=>rfl,fun _=>rfl,fun _ _=>⟨_,rfl⟩⟩
theorem Ox (h:GA fn keys es ta) (hl:es.length≤1000):GE fn keys (.List es pos) (cP ta):=
 ⟨fun X r σ Φ hr q=>J7 ((h.ra X r σ _ hr q).mono fun xs σ q=>⟨by rw [q.1]; omega,q.2⟩),fun _ _=>rfl,fun _ _ _=>rfl,fun _ _=>rfl,fun _=>rfl,fun _ _=>⟨_,rfl⟩⟩
theorem NW (h:GA fn keys es ta) (hl:es.length≤1000):GE fn keys (.List es pos) (ko ta):=
 ⟨fun X r σ Φ hr q=>Gs ((h.ra X r σ _ hr q).mono fun xs σ q=>⟨by rw [q.1]; omega,q.2⟩),fun _ _=>rfl,fun _ _ _=>rfl,fun _ _=>rfl,fun _=>rfl,fun _ _=>⟨_,rfl⟩⟩
theorem NX:GE fn keys (.Dict [] [] pos) GQ:=
 ⟨fun X r σ Φ hr q=>IY q,fun _ _=>rfl,fun _ _ _=>rfl,fun _ _=>rfl,fun _=>rfl,fun _ _=>⟨_,rfl⟩⟩
inductive BO:Expr→Prop
 | n {x:Str} {p:Pos}:BO (.Name x p)
 | a {e:Expr} {x:Str} {p:Pos}:BO (.Attribute e x p)
 | s {e i:Expr} {p:Pos}:BO (.Subscript e i p)
theorem Bv (h:BO e) (attr:Str) (env:Env) (w:Sem Value):attributeBase e attr env w=w:=by cases h <;> rfl
theorem Om (h:GE fn keys e te) (hb:BO e):GE fn keys (.Attribute e x pos) (bg te x):=
 ⟨fun X r σ Φ hl q=>KD ((h.re X r σ _ hl q).mono (fun v σ q=>by unfold R7 OG at q; exact q) fun _ _ _ q=>q) (fun env=>by
  show (do
   let o ← attributeBase e x env (eval e env)
   standAt pos.atName
   let r ← holding [o] (getAttr o x true)
   letTemporaryGo e o r
   pure r)=_
  rw [Bv hb]),fun _ _=>rfl,fun _ _ _=>rfl,fun _ _=>rfl,fun _=>rfl,fun _ _=>⟨_,rfl⟩⟩
theorem Mo (h1:GE fn keys e1 t1) (h2:GE fn keys e2 t2):GE fn keys (.Subscript e1 e2 pos) (xS t1 t2):=
 ⟨fun X r σ Φ hl q=>P4 ((h1.re X r σ _ hl q).mono (fun x σ q=>(h2.re X r σ _ hl q).mono (fun y σ q=>IC h2.idx q) fun _ _ _ q=>q) fun _ _ _ q=>q),fun _ _=>rfl,fun _ _ _=>rfl,fun _ _=>rfl,fun _=>rfl,fun _ _=>⟨_,rfl⟩⟩
theorem Bp {X:XX} {r:Fm} {f:Value} {xs:List V} {σ:AH} {Φ:Pv} (hl:r.length=keys.length) (q:TC X.b X.n X.hd f xs σ Φ (X.Y r)):SC X.b.c X.n X.hd f xs σ Φ (lY keys X.Y (keys.zip r)):=q.sc.mono (fun _ _ h=>h) fun a σ h=>⟨r,rfl,hl,h⟩
theorem GY {f:Value} (hm:(x,NameKind.globalImplicit)∈fn.scope.names) (g:GF x f) (h:GA fn keys es ta):GE fn keys (.Call (.Name x p1) es [] pos) (xC f ta):=
 ⟨fun X r σ Φ hl q=>by
  obtain ⟨fv,g,cl⟩:=g X.b
  have q':∃ f,Callee X.b.c fv f∧SA X.b.c fn X.n X.hd (keys.zip r) σ es (RF X.b.c X.n X.hd f Φ (lY keys X.Y (keys.zip r))) (lY keys X.Y):=⟨f,cl,(h.ra X r σ _ hl q).mono fun xs σ q=>Bp hl q.2⟩
  exact KC (g.elim (fun g=>FH hm g q') fun g=>Gn hm g q') h.plain (fun env=>rfl),fun _ _=>rfl,fun _ _ _=>rfl,fun _ _=>rfl,fun _=>rfl,fun _ _=>⟨_,rfl⟩⟩
theorem uK (hb:BO e) (hp:Plain es) (hl:es.length < 30) (he:(p1.endLine == pos.line)=true) (env:Env):eval (.Call (.Attribute e x p1) es [] pos) env=(do
   let ov ← eval e env
   standAt p1.atName
   let (f,first) ← holding [ov] (getMethod ov x (do return (← importBound e env).getD true))
   callWith pos f first (backTo pos (starEach es env)) []):=by
 show (do
  let ov ← attributeBase e x env (eval e env)
  standAt p1.atName
  methodCall e x p1 pos env ov (es.length + 0) (backTo pos (starEach es env)) [])=_
 rw [Bv hb]
 have hf:methodCallForm (es.length + 0) (backTo pos (starEach es env)) []=true:=by
  unfold methodCallForm
  have h1:=gI (hp env) (pos:=pos)
  have h2:((backTo pos (starEach es env)).all fun x=>!x.1)=true:=by
   rw [List.all_eq_true]
   intro z hz
   cases hz1:z.1 with
   | false=>rfl
   | true=>exact absurd (List.any_eq_true.mpr ⟨z,hz,hz1⟩) (by rw [h1]; decide)
  rw [h2]; simpa using hl
 unfold methodCall calleeOf methodCallPos
 rw [hf,he]
 rfl
theorem H9 (h:GE fn keys e te) (hb:BO e) (ha:GA fn keys es ta) (hl:es.length < 30) (he:(p1.endLine == pos.line)=true):GE fn keys (.Call (.Attribute e x p1) es [] pos) (xM te x ta):=
 ⟨fun X r σ Φ hr q=>M6 ((h.re X r σ _ hr q).mono (fun v σ q=>by
  unfold QX OM at q
  obtain ⟨f,⟨I,hm,hn⟩,q⟩:=q
  exact ⟨_,_,_,_,I,hm,hn,(ha.ra X r σ _ hr q).mono fun xs σ q=>Bp hr q.2⟩) fun _ _ _ q=>q) ha.plain (uK hb ha.plain hl he),fun _ _=>rfl,fun _ _ _=>rfl,fun _ _=>rfl,fun _=>rfl,fun _ _=>⟨_,rfl⟩⟩
theorem By {id:String} (h:GE fn keys e te) (hb:BO e) (ha:GA fn keys es ta) (hl:es.length < 30) (he:(p1.endLine == pos.line)=true) (slot:Slot "list" x id) (hty:typeOf (.builtin id)=pure (.type "method_descriptor")):GE fn keys (.Call (.Attribute e x p1) es [] pos) (cC te id ta):=
 ⟨fun X r σ Φ hr q=>HU slot hty ((h.re X r σ _ hr q).mono (fun v σ q=>by
  unfold RM JE at q
  obtain ⟨a,xs,rfl,hs,q⟩:=q
  exact ⟨_,_,rfl,hs,(ha.ra X r σ _ hr q).mono fun xs σ q=>Bp hr q.2⟩) fun _ _ _ q=>q) ha.plain (uK hb ha.plain hl he),fun _ _=>rfl,fun _ _ _=>rfl,fun _ _=>rfl,fun _=>rfl,fun _ _=>⟨_,rfl⟩⟩
theorem NR (h:GE fn keys e te) (hb:BO e) (ha:GA fn keys es ta) (hl:es.length < 30) (he:(p1.endLine == pos.line)=true):GE fn keys (.Call (.Attribute e "get" p1) es [] pos) (Qh te ta):=
 ⟨fun X r σ Φ hr q=>Mp ((h.re X r σ _ hr q).mono (fun v σ q=>by
  unfold R1 PR at q
  obtain ⟨ks,xs,I,q⟩:=q
  exact ⟨_,_,I,(ha.ra X r σ _ hr q).mono fun xs σ q=>Bp hr q.2⟩) fun _ _ _ q=>q) ha.plain (uK hb ha.plain hl he),fun _ _=>rfl,fun _ _ _=>rfl,fun _ _=>rfl,fun _=>rfl,fun _ _=>⟨_,rfl⟩⟩
theorem P5 (h:GE fn keys e te):GE fn keys e (xV te):=⟨fun X r σ Φ hl q=>SE.ent (h.re X r σ _ hl q),h.star,h.swp,h.fold,h.mark,h.idx⟩
def RP (fn:Fn) (keys:List Str) (e:Option Expr) (p:Option TE):Prop:=∀ X r σ (Φ:Option Int→AH→Prop),r.length=keys.length→pt p X r σ Φ→SP X.b.c fn X.n X.hd (keys.zip r) σ e Φ (lY keys X.Y)
theorem Hu:RP fn keys none none:=fun X r σ Φ hl q=>AG q
theorem Ip (h:GE fn keys e te):RP fn keys (some e) (some te):=fun X r σ Φ hl q=>Fo ((h.re X r σ _ hl q).mono (fun v σ q=>by
 cases v with
 | int i=>exact ⟨_,rfl,q⟩
 | _=>exact False.elim q) fun _ _ _ q=>q)
theorem SP.mono {c:Cx} {n:Nat} {hd:Option Addr} {ρ:Loc} {σ:AH} {Ψ:Px} {o:Option Expr} {Φ Φ':Option Int→AH→Prop} (h:SP c fn n hd ρ σ o Φ Ψ) (h1:∀ x σ,Φ x σ→Φ' x σ):SP c fn n hd ρ σ o Φ' Ψ:=fun d A fz a7 R s O L S=>
 Bw (h d A fz a7 R s O L S) (fun _ _ h=>h) fun x v σ fz s a1 a2 a3 a4=>⟨x,σ,fz,a1,h1 _ _ a2,a3,a4⟩
theorem ND {lo hi st:Option Expr} {a b c:Option TE} (h:GE fn keys e te) (h1:RP fn keys lo a) (h2:RP fn keys hi b) (h3:RP fn keys st c) (hs:Idx (.Slice lo hi st p1)):GE fn keys (.Subscript e (.Slice lo hi st p1) pos) (Ge te a b c):=
 ⟨fun X r σ Φ hl q=>BB ((h.re X r σ _ hl q).mono (fun x σ q=>(h1 X r σ _ hl q).mono fun l σ q=>(h2 X r σ _ hl q).mono fun u σ q=>(h3 X r σ _ hl q).mono fun k σ q=>J9.q hs q) fun _ _ _ q=>q),fun _ _=>rfl,fun _ _ _=>rfl,fun _ _=>rfl,fun _=>rfl,fun _ _=>⟨_,rfl⟩⟩
end
section
variable {fn:Fn} {keys:List Str} {e e1 e2 e3:Expr} {es:List Expr} {te t1 t2 t3:TE} {tt:TT} {pos p1 p2 p3:Pos} {x:Str} {v:V} {st:Stmt} {rest body orelse:List Stmt} {tr tb to:TS}
theorem SB.mono {c:Cx} {n:Nat} {hd:Option Addr} {ρ:Loc} {σ:AH} {b:List Stmt} {Θ Θ':AF→Loc→AH→Prop} {Ψ Ψ':Px} (h:SB c fn n hd ρ σ b Θ Ψ) (h1:∀ f ρ σ,Θ f ρ σ→Θ' f ρ σ) (h2:∀ ρ a σ,Ψ ρ a σ→Ψ' ρ a σ):SB c fn n hd ρ σ b Θ' Ψ':=fun d A fz a7 R s O L S=>
 wpAny_mono (h d A fz a7 R s O L S) (fun f s' ⟨x,ρ,σ,fz',a,b,e,g⟩=>⟨x,ρ,σ,fz',h1 _ _ _ a,b,e,g⟩) fun e s' ⟨ρ,a,σ,fz',e1,q,g,g2⟩=>⟨ρ,a,σ,fz',e1,h2 _ _ _ q,g,g2⟩
theorem kH {X:XX} {Θ:Ph} {f:AF} {ρ:Loc} {σ:AH} (hr:RB fn keys rest tr) (q:lT keys (qT tr X Θ) f ρ σ):Kt X.b.c fn X.n X.hd rest (lT keys Θ) (lY keys X.Y) f ρ σ:=by
 obtain ⟨r,rfl,hl,q⟩:=q
 cases f with
 | next=>exact hr X r σ Θ hl q
 | brk=>exact ⟨r,rfl,hl,q⟩
 | cont=>exact ⟨r,rfl,hl,q⟩
 | ret v=>exact ⟨r,rfl,hl,q⟩
theorem HN {b:List Stmt}:RB fn keys b bD:=fun X r σ Θ hl q=>q.elim
theorem Ko:RB fn keys [] bN:=fun X r σ Θ hl q=>Jv ⟨r,rfl,hl,q⟩
theorem H2 (h:GE fn keys e te) (hr:RB fn keys rest tr):RB fn keys (.Expr e pos :: rest) (bE te tr):=
 fun X r σ Θ hl q=>c6 (JZ ((h.re X r σ _ hl q).mono (fun x σ q=>hr X r σ Θ hl q) fun _ _ _ q=>q) fun env=>h.swp _ _ env)
theorem LW {i:Nat} (hk:keys[i]?=some x) (h:GE fn keys e te) (hr:RB fn keys rest tr):RB fn keys (.Assign [.Name x p1] e pos :: rest) (bA i te tr):=
 fun X r σ Θ hl q=>c6 (yj ((h.re X r σ _ hl q).mono (fun v σ q=>⟨_,l9 hk hl,hr X _ σ Θ (by rw [List.length_set]; exact hl) q⟩) fun _ _ _ q=>q) fun env=>h.swp _ _ env)
theorem HR {a:Addr} (hm:(x,NameKind.cell)∈fn.scope.names) (hc:fn.cl.lookup x=some a) (h:GE fn keys e te) (hr:RB fn keys rest tr):RB fn keys (.Assign [.Name x p1] e pos :: rest) (ME a te tr):=
 fun X r σ Θ hl q=>c6 (CR hm hc ((h.re X r σ _ hl q).mono (fun v σ q=>by
  unfold R0 Pk at q
  obtain ⟨⟨o,ho⟩,q⟩:=q
  exact ⟨o,ho,hr X r _ Θ hl q⟩) fun _ _ _ q=>q) fun env=>h.swp _ _ env)
theorem Lq (hr:RB fn keys rest tr):RB fn keys (st :: rest) (MI fn keys st tr):=fun X r σ Θ hl q=>c6 fun d A fz a7 R s O L S=>
 wpAny_mono (q d A fz a7 R s O L S) (fun f s' ⟨x,ρ,σ,fz',a,b,e,g⟩=>⟨x,ρ,σ,fz',kH hr a,b,e,g⟩) fun _ _ h=>h
theorem Ku (h:GE fn keys e te):RB fn keys (.Return (some e) pos :: rest) (bR te):=
 fun X r σ Θ hl q=>c6 (Oz ((h.re X r σ _ hl q).mono (fun v σ q=>⟨r,rfl,hl,q⟩) fun _ _ _ q=>q))
theorem Iq:RB fn keys (.Return none pos :: rest) Q3:=fun X r σ Θ hl q=>c6 (LZ ⟨r,rfl,hl,q⟩)
theorem OK (h:RT fn keys e tt) (h1:RB fn keys body tb) (h2:RB fn keys orelse to) (hr:RB fn keys rest tr):RB fn keys (.If e body orelse pos :: rest) (bI tt tb to tr):=
 fun X r σ Θ hl q=>c6 (Qd ((h X r σ _ hl q).mono fun b σ q=>by
  cases b with
  | true=>rw [if_pos rfl]; exact (h1 X r σ _ hl q).mono (fun _ _ _ q=>kH hr q) fun _ _ _ q=>q
  | false=>rw [if_neg Bool.false_ne_true]; exact (h2 X r σ _ hl q).mono (fun _ _ _ q=>kH hr q) fun _ _ _ q=>q))
theorem uH {op:Operator} {a b:V} {σ:AH} {Φ Φ':Pv} (h:IQ op a b σ Φ) (h1:∀ v σ,Φ v σ→Φ' v σ):IQ op a b σ Φ':=by
 cases op with
 | Add=>obtain ⟨i,j,rfl,rfl,q⟩:=e8 h; exact h1 _ _ q
 | Sub=>obtain ⟨i,j,rfl,rfl,q⟩:=e8 h; exact h1 _ _ q
 | _=>exact h
theorem Mg {i:Nat} {op:Operator} (hk:keys[i]?=some x) (h:GE fn keys e te) (hr:RB fn keys rest tr):RB fn keys (.AugAssign (.Name x p1) op e pos :: rest) (bU i op te tr):=
 fun X r σ Θ hl q=>by
  obtain ⟨v,ev,q⟩:=vB q
  exact c6 (Nt (DH hk ev) ((h.re X r σ _ hl q).mono (fun w σ q=>Bh (fn:=fn) (ρ:=keys.zip r) (n:=X.n) (hd:=X.hd) (Φ:=fun v σ=>∃ ρ',sI x v (keys.zip r) ρ'∧Kt X.b.c fn X.n X.hd rest (lT keys Θ) (lY keys X.Y) .next ρ' σ) (by
   have hm:∀ v σ,MU i tr X r Θ v σ→∃ ρ',sI x v (keys.zip r) ρ'∧Kt X.b.c fn X.n X.hd rest (lT keys Θ) (lY keys X.Y) .next ρ' σ:=fun v σ q=>⟨_,l9 hk hl,hr X _ σ Θ (by rw [List.length_set]; exact hl) q⟩
   unfold Qp at q
   exact uH q hm)) fun _ _ _ q=>q))
theorem pL.mono {c:Cx} {o:V} {σ:AH} {k k':AH→Prop} (h:pL c o σ x v k) (h1:∀ σ,k σ→k' σ):pL c o σ x v k':=by
 obtain ⟨a,C,dd,ks,vs,ks',vs',e,g1,g2,g3,g4,g5,q⟩:=h
 exact ⟨a,C,dd,ks,vs,ks',vs',e,g1,g2,g3,g4,g5,h1 _ q⟩
theorem vZ.mono {c:Cx} {o:V} {σ:AH} {k k':Pv} (h:vZ c o σ x k) (h1:∀ v σ,k v σ→k' v σ):vZ c o σ x k':=by
 obtain ⟨w,g1,g2,q⟩:=h
 exact ⟨w,g1,g2,h1 _ _ q⟩
theorem NJ (ho:GE fn keys e1 t1) (h:GE fn keys e te) (hr:RB fn keys rest tr):RB fn keys (.Assign [.Attribute e1 x p1] e pos :: rest) (jx t1 x te tr):=
 fun X r σ Θ hl q=>c6 (Ln ((h.re X r σ _ hl q).mono (fun v σ q=>(ho.re X r σ _ hl q).mono (fun o σ q=>by
  unfold Py OS at q
  exact pL.mono q fun σ q=>hr X r σ Θ hl q) fun _ _ _ q=>q) fun _ _ _ q=>q) fun env=>h.swp _ _ env)
theorem kX.mono {c:Cx} {n:Nat} {hd:Option Addr} {ρ:Loc} {o i:V} {σ:AH} {k k':AH→Prop} (h:kX c fn n hd o i v ρ σ k) (h1:∀ σ,k σ→k' σ):kX c fn n hd o i v ρ σ k':=
 fun d A fz a7 R s ux ui uv Q E O L S r1 r2 r3 q=>h d A fz a7 R s ux ui uv Q E O L S r1 r2 r3 fun σ' s' hk S'=>q σ' s' (h1 _ hk) S'
theorem Oq (ho:GE fn keys e1 t1) (hi:GE fn keys e2 t2) (h:GE fn keys e te) (hr:RB fn keys rest tr):RB fn keys (.Assign [.Subscript e1 e2 p1] e pos :: rest) (fE t1 t2 te tr):=
 fun X r σ Θ hl q=>c6 (Kb ((h.re X r σ _ hl q).mono (fun v σ q=>(ho.re X r σ _ hl q).mono (fun o σ q=>(hi.re X r σ _ hl q).mono (fun i σ q=>kX.mono (wF.run q) fun σ q=>hr X r σ Θ hl q) fun _ _ _ q=>q) fun _ _ _ q=>q) fun _ _ _ q=>q) fun env=>h.swp _ _ env)
theorem Nv {op:Operator} (ho:GE fn keys e1 t1) (h:GE fn keys e te) (hr:RB fn keys rest tr):RB fn keys (.AugAssign (.Attribute e1 x p1) op e pos :: rest) (NU t1 x op te tr):=
 fun X r σ Θ hl q=>c6 (JW ((ho.re X r σ _ hl q).mono (fun o σ q=>by
  unfold OG at q
  exact vZ.mono q fun old σ q=>(h.re X r σ _ hl q).mono (fun v σ q=>Bh (uH q fun new σ q=>by
   unfold OS at q
   exact pL.mono q fun σ q=>hr X r σ Θ hl q)) fun _ _ _ q=>q) fun _ _ _ q=>q))
theorem AY {X:XX} {Θ:Ph} {J:Fm→AH→Prop} {J':Loc→AH→Prop} {f:AF} {ρ:Loc} {σ:AH} (hr:RB fn keys rest tr) (hJ:∀ r σ,r.length=keys.length→J r σ→J' (keys.zip r) σ) (q:lT keys (HB tr X Θ J) f ρ σ):Turn (Kt X.b.c fn X.n X.hd rest (lT keys Θ) (lY keys X.Y)) J' f ρ σ:=by
 obtain ⟨r,rfl,hl,q⟩:=q
 cases f with
 | next=>exact hJ r σ hl q
 | cont=>exact hJ r σ hl q
 | brk=>exact hr X r σ Θ hl q
 | ret v=>exact ⟨r,rfl,hl,q⟩
theorem Fh (h:RT fn keys e tt) (h1:RB fn keys body tb) (hr:RB fn keys rest tr):RB fn keys (.While e body [] pos :: rest) (bW tt tb tr):=
 fun X r σ Θ hl q=>by
  unfold bW WW at q
  obtain ⟨I,k,h0,turn⟩:=q
  refine c6 (IS (fun k ρ σ=>∃ r,ρ=keys.zip r∧r.length=keys.length∧I k r σ) k ⟨r,rfl,hl,h0⟩ ?_)
  rintro k ρ σ ⟨r,rfl,hl,hI⟩
  refine (h X r σ _ hl (turn k r σ hI)).mono fun b σ q=>?_
  cases b with
  | false=>rw [if_neg Bool.false_ne_true]; exact hr X r σ Θ hl q
  | true=>
   rw [if_pos rfl]
   exact (h1 X r σ _ hl q).mono (fun _ _ _ q=>AY hr (fun r σ hl ⟨m,hm,q⟩=>⟨m,hm,r,rfl,hl,q⟩) q) fun _ _ _ q=>q
theorem L9 {i:Nat} (hk:keys[i]?=some x) (h:GE fn keys e te) (h1:RB fn keys body tb) (hr:RB fn keys rest tr):RB fn keys (.For (.Name x p1) e body [] pos :: rest) (bF i te tb tr):=
 fun X r σ Θ hl q=>by
  obtain ⟨b,n,hd,Y⟩:=X
  cases hd with
  | some _=>exact False.elim q
  | none=>
   refine c6 (NC ((h.re ⟨b,n,none,Y⟩ r σ _ hl q).mono (fun v σ q=>?_) fun _ _ _ q=>q) (fun env x=>h.fold env x) fun _ _=>rfl)
   unfold Rj WF at q
   obtain ⟨xs,I,hsrc,h0,turn,done⟩:=q
   refine ⟨xs,fun k ρ σ=>∃ r,ρ=keys.zip r∧r.length=keys.length∧I k r σ,fun k ρ σ ⟨r,_,_,h⟩=>hsrc k r σ h,⟨r,rfl,hl,h0⟩,?_,?_⟩
   ·rintro k y ρ σ hy ⟨r,rfl,hl,hI⟩
    exact ⟨_,l9 hk hl,(h1 ⟨b,n,none,Y⟩ (r.set i (some y)) σ _ (by rw [List.length_set]; exact hl) (turn k y r σ hy hI)).mono (fun _ _ _ q=>AY hr (fun r σ hl q=>⟨r,rfl,hl,q⟩) q) fun _ _ _ q=>q⟩
   ·rintro ρ σ ⟨r,rfl,hl,hI⟩
    exact hr ⟨b,n,none,Y⟩ r σ Θ hl (done r σ hI)
theorem EB (h:GE fn keys e te):RB fn keys (.Raise (some e) none pos :: rest) (bX te):=
 fun X r σ Θ hl q=>by
  obtain ⟨b,n,hd,Y⟩:=X
  cases hd with
  | some _=>exact False.elim q
  | none=>
   refine c6 (HI ((h.re ⟨b,n,none,Y⟩ r σ _ hl q).mono (fun v σ q=>?_) fun _ _ _ q=>q))
   unfold PO QI at q
   obtain ⟨a,C,dd,fI,e1,e2,e3,q⟩:=q
   exact ⟨a,C,dd,fI,e1,e2,e3,r,rfl,hl,q⟩
theorem SH.mono {c:Cx} {n:Nat} {ρ:Loc} {σ:AH} {a:Addr} {hs:List ExceptHandler} {Θ Θ':AF→Loc→AH→Prop} {Ψ:Px} (h:SH c fn n ρ σ a hs Θ Ψ) (h1:∀ f ρ σ,Θ f ρ σ→Θ' f ρ σ):SH c fn n ρ σ a hs Θ' Ψ:=fun d A fz a7 R s O L S=>
 wpAny_mono (h d A fz a7 R s O L S) (fun f s' ⟨x,ρ,σ,fz',a,b,e,g⟩=>⟨x,ρ,σ,fz',h1 _ _ _ a,b,e,g⟩) fun _ _ h=>h
class inductive GT (fn:Fn) (keys:List Str):List Expr→List Tg→Prop
 | nil:GT fn keys [] []
 | nm {x:Str} {i:Nat} {p:Pos} {es:List Expr} {ts:List Tg}:keys[i]?=some x→GT fn keys es ts→GT fn keys (.Name x p :: es) (.nm i :: ts)
 | at_ {o:Expr} {te:TE} {x:Str} {p:Pos} {es:List Expr} {ts:List Tg}:GE fn keys o te→GT fn keys es ts→GT fn keys (.Attribute o x p :: es) (.at_ te x :: ts)
theorem GT.len {ts:List Tg} (g:GT fn keys es ts):ts.length=es.length:=by
 induction g with
 | nil=>rfl
 | nm _ _ ih=>exact congrArg (· + 1) ih
 | at_ _ _ ih=>exact congrArg (· + 1) ih
theorem GT.run {ts:List Tg} (g:GT fn keys es ts) (hr:RB fn keys rest tr):∀ {xs:List V} {X:XX} {r:Fm} {σ:AH} {Θ:Ph},r.length=keys.length→asg ts xs X r σ tr Θ→SG X.b.c fn X.n X.hd (keys.zip r) σ es xs (Kt X.b.c fn X.n X.hd rest (lT keys Θ) (lY keys X.Y)) (lY keys X.Y):=by
 induction g with
 | nil=>
  intro xs X r σ Θ hl q
  cases xs with
  | nil=>exact NO (hr X r σ Θ hl q)
  | cons=>exact False.elim q
 | nm hk g ih=>
  intro xs X r σ Θ hl q
  cases xs with
  | nil=>exact False.elim q
  | cons v vs=>exact M3 (l9 hk hl) (ih (r:=r.set _ (some v)) (by rw [List.length_set]; exact hl) q)
 | at_ h g ih=>
  intro xs X r σ Θ hl q
  cases xs with
  | nil=>exact False.elim q
  | cons v vs=>exact Lw ((h.re X r σ _ hl q).mono (fun o σ q=>by
    unfold OS at q
    exact pL.mono q fun σ q=>ih hl q) fun _ _ _ q=>q)
theorem JS {k:Nat} {ts:List Tg} (g:GT fn keys es ts) (h:GE fn keys e te) (hr:RB fn keys rest tr) (h1:∀ env,(assignEach es env).length=es.length) (h2:∀ env,(assignEach es env).findIdx? (·.1)=none) (hw:∀ env,swappedStores [.Tuple es k p1] e env=pure none):RB fn keys (.Assign [.Tuple es k p1] e pos :: rest) (HX ts te tr):=
 fun X r σ Θ hl q=>c6 (Ea ((h.re X r σ _ hl q).mono (fun v σ q=>by
  unfold Rh at q
  cases v with
  | tup xs=>
   replace q:vy (Nat.beq xs.length ts.length) (PU X.hd σ (asg ts xs X r σ tr Θ)) False:=q
   cases hb:Nat.beq xs.length ts.length with
   | false=>rw [hb] at q; exact False.elim q
   | true=>
    rw [hb] at q
    obtain ⟨b,n,hd,Y⟩:=X
    cases hd with
    | none=>exact ⟨xs,rfl,(Nat.eq_of_beq_eq_true hb).trans g.len,.inl rfl,g.run hr hl q⟩
    | some a=>exact ⟨xs,rfl,(Nat.eq_of_beq_eq_true hb).trans g.len,.inr ⟨a,q.1.choose,q.1.choose_spec.choose,rfl,q.1.choose_spec.choose_spec⟩,g.run hr hl q.2⟩
  | _=>exact False.elim q) fun _ _ _ q=>q) h1 h2 (fun env=>h.swp (some (.Tuple es k p1)) pos.line env) hw)
theorem MS {b:List Stmt} (h:RB fn keys b tb):RB fn keys b (bV tb):=fun X r σ Θ hl q=>by
 obtain ⟨r',σ',hr',he,q⟩:=q
 exact SB.pre (he keys hl.symm) (h X r' σ' Θ (hr'.trans hl) q)
theorem LM {b₀:Stmt} {hs:List ExceptHandler} (hm:(x,NameKind.globalImplicit)∈fn.scope.names) (hb:RB fn keys (b₀ :: body) tb):RH fn keys (.ExceptHandler (some (.Name x p1)) none (b₀ :: body) pos :: hs) (hC x tb):=fun X r σ a Θ hn hl q=>by
 unfold hC MB at q
 obtain ⟨C,D,dd,fC,fD,hs,ht,q⟩:=q
 exact Nm hm hs ht ((hb (X.at a) r σ Θ hl q).mono (fun _ _ _ q=>q) fun _ _ _ q=>q)
theorem ug:∀ {ks:List Str} {r:Fm},ks.zip (r.map fun _=>none)=Loc.clear (ks.zip r)
 | [],_=>rfl
 | _ :: _,[]=>rfl
 | k :: ks,_ :: r=>congrArg ((k,none) :: ·) (ug (ks:=ks) (r:=r))
theorem Nl {b₀:Stmt} {hs:List ExceptHandler} {y:Str} {i:Nat} (hm:(x,NameKind.globalImplicit)∈fn.scope.names) (hk:keys[i]?=some y) (hb:RB fn keys (b₀ :: body) tb):RH fn keys (.ExceptHandler (some (.Name x p1)) (some y) (b₀ :: body) pos :: hs) (hA x i tb):=fun X r σ a Θ hn hl q=>by
 unfold hA MB at q
 obtain ⟨C,D,dd,fC,fD,hs,ht,q⟩:=q
 refine Eb hm hs ht (l9 hk hl) ((hb ⟨X.b,X.n,some a,fun _ _ _=>False⟩ _ σ _ (by rw [List.length_set]; exact hl) q).mono (fun f ρ σ q=>?_) fun ρ a σ q=>?_)
 ·obtain ⟨r',rfl,hl',q⟩:=q
  exact ⟨r'.map fun _=>none,ug.symm,by rw [List.length_map]; exact hl',q⟩
 ·obtain ⟨_,_,_,q⟩:=q
  exact q
theorem DM {h₀:ExceptHandler} {hs:List ExceptHandler} {th:TH} (hb:RB fn keys body tb) (hh:RH fn keys (h₀ :: hs) th) (hr:RB fn keys rest tr):RB fn keys (.Try body (h₀ :: hs) [] [] pos :: rest) (bT tb th tr):=fun X r σ Θ hl q=>by
 obtain ⟨b,n,hd,Y⟩:=X
 cases hd with
 | some _=>exact False.elim q
 | none=>
  refine c6 (OO ((hb ⟨b,n,none,Qg th ⟨b,n,none,Y⟩ (qT tr ⟨b,n,none,Y⟩ Θ)⟩ r σ _ hl q).mono (fun _ _ _ q=>kH hr q) fun ρ a σ q=>?_))
  obtain ⟨r',rfl,hl',q⟩:=q
  exact (hh ⟨b,n,none,Y⟩ r' σ a _ rfl hl' q).mono fun _ _ _ q=>kH hr q
end
structure T6 where
 x:Str
 v:V
 ok:GN x v
structure Sl where
 x:Str
 f:Value
 ok:GF x f
def qi (x:Str) (i:Int) (t:Tok) (l:List (Str×Int×Tok)):=(x,i,t) :: l
def qa (x:Str) (i:Addr) (l:List (Str×Addr)):=(x,i) :: l
def ti:=qi "TK_END" 0 194 <| qi "TK_NAME" 1 196 <| qi "TK_WORD" 2 198 <| qi "TK_INT" 3 200 <| qi "TK_TEXT" 4 202 <| qi "TK_CHAR" 5 204 <| qi "TK_SIGN" 6 206 <| qi "N_INT" 1 210 <| qi "N_TEXT" 2 212 <| qi "N_CHARLIT" 3 214 <| qi "N_TRUE" 4 216 <| qi "N_FALSE" 5 218 <| qi "N_NULL" 6 220 <| qi "N_NAME" 7 222 <| qi "N_THIS" 8 224 <| qi "N_PAREN" 10 228 <| qi "N_MEMBER" 11 230 <| qi "N_CALL" 12 232 <| qi "N_ARG" 13 234 <| qi "N_INDEX" 14 236 <| qi "N_UNARY" 17 242 <| qi "N_PRE" 18 244 <| qi "N_POST" 19 246 <| qi "N_BIN" 20 248 <| qi "N_LOGIC" 21 250 <| qi "N_COND" 22 252 <| qi "N_ASSIGN" 23 254 <| qi "N_CAST" 24 256 <| qi "N_IS" 25 258 <| qi "N_AS" 26 260 <| qi "N_AWAIT" 31 270 <| qi "N_TYPE" 40 272 <| qi "N_LIST" 110 280 <| qi "MOST_PARTS" 40 504 <| qi "MOST_CHAIN" 40 506 <| qi "PT_TYPE" 1 508 <| qi "PT_EXPR" 2 510 <| qi "PT_ARGS" 7 514 <| qi "POWER_RIGHT" 1 1211 <| qi "POWER_LOGIC" 3 1213 []
def tr:=qa "Node" 38 <| qa "Diags" 80 <| qa "leaf" 91 <| qa "twig" 98 <| qa "node_row" 105 <| qa "unmarked" 119 <| qa "TooDeep" 149 <| qa "BindStop" 173 <| qa "Parser" 341 <| qa "read_part" 352 <| qa "is_token" 359 <| qa "eat_token" 366 <| qa "need_sign_cspcore" 373 <| qa "sign_ahead" 380 <| qa "key_of" 387 <| qa "check_chain" 401 <| qa "TypePart" 425 <| qa "install_types" 434 <| qa "read_type" 441 <| qa "read_plain_type" 448 <| qa "read_key_type" 455 <| qa "read_type_tail" 462 <| qa "read_type_args" 469 <| qa "try_type" 483 <| qa "try_type_args" 490 <| qa "starts_expr" 504 <| qa "is_sure_type" 511 <| qa "ExprPart" 575 <| qa "ArgsPart" 594 <| qa "read_expr" 603 <| qa "read_choice" 610 <| qa "sign_here" 617 <| qa "operator_here" 624 <| qa "pass_tokens" 631 <| qa "read_binary" 638 <| qa "binds_first" 645 <| qa "join_last" 652 <| qa "read_is" 659 <| qa "read_unary" 666 <| qa "read_prefix" 673 <| qa "read_cast" 680 <| qa "read_primary" 694 <| qa "ValueLeaf" 718 <| qa "WordLeaf" 744 <| qa "OutRead" 763 <| qa "NameRead" 782 <| qa "type_args_here" 791 <| qa "BaseRead" 808 <| qa "KeyTypeRead" 827 <| qa "ParenRead" 846 <| qa "DefaultRead" 865 <| qa "TypeofRead" 884 <| qa "CheckedRead" 903 <| qa "NewRead" 922 <| qa "read_args" 945 <| qa "read_arg" 952 <| qa "MemberTail" 976 <| qa "CallTail" 995 <| qa "IndexTail" 1014 <| qa "PostTail" 1033 <| qa "OutTail" 1052 <| qa "LambdaRead" 1071 <| qa "read_lambda" 1080 <| qa "lambda_head" 1087 <| qa "in_params" 1094 <| qa "install_p_literals" 1115 <| qa "install_p_names" 1122 <| qa "install_p_words" 1129 <| qa "install_p_tails" 1136 <| qa "install_exprs" 1143 <| qa "_law_take" 1162 <| qa "_law_operand" 1169 <| qa "_law_powers" 1176 <| qa "_law_fold" 1181 <| qa "_law_tree" 1186 <| qa "_law_chain" 1193 <| qa "_law_whole" 1200 <| qa "_law_tokens" 1207 <| qa "_law_rows" 1214 <| qa "_law_holds" 1221 []
theorem P0 (P:Params):(ti.all fun p=>nsIn (K P) mainGlobals p.1 == some (some (.int p.2.1 p.2.2)))=true:=by kernel_rfl
theorem MQ (P:Params):(tr.all fun p=>nsIn (K P) mainGlobals p.1 == some (some (.ref p.2)) && keepIn (K P) (.ref p.2))=true:=by kernel_rfl
theorem NK {x:Str} {i:Int×Tok} (h:(x,i)∈ti):GN x (.int i.1):=fun b=>.inl (bu b.hK (eq_of_beq (List.all_eq_true.1 (P0 b.c.w.params) _ h)) (.int _ _))
theorem NA {x:Str} {a:Addr} (h:(x,a)∈tr):GF x (.ref a):=fun b=>by
 have e:=Bool.and_eq_true_iff.1 (List.all_eq_true.1 (MQ b.c.w.params) _ h)
 exact ⟨_,.inl (bu b.hK (eq_of_beq e.1) (.g a)),.g (by rw [b.hK]; exact e.2)⟩
def gv:List T6:=[
 ⟨"SIGN_NUMBERS", (.aH bZ cY),fun b=>.inl (sd b.hK)⟩,
 ⟨"TOKEN_KEYS", (.e9 fj fs),fun b=>.inl (vz b.hK)⟩,
 ⟨"KEY_TYPES", (.aH aP de),fun b=>.inl (xw b.hK)⟩,
 ⟨"REAL_TYPES", (.aH fx fq),fun b=>.inl (wq b.hK)⟩,
 ⟨"EXPR_WORDS", (.aH dH fy),fun b=>.inl (w8 b.hK)⟩,
 ⟨"EXPR_SIGNS", (.aH cO fe),fun b=>.inl (vT b.hK)⟩,
 ⟨"POWERS", (.aH aa bj),fun b=>.inl (EO b.hK)⟩,
 ⟨"ASSIGN_SIGNS", (.aH ak cV),fun b=>.inl (qL b.hK)⟩,
 ⟨"PATTERN_KEYS", (.aH cX ed),fun b=>.inl (qV b.hK)⟩,
 ⟨"HEAD_KINDS", (.aH bb bp),fun b=>.inl (vG b.hK)⟩,
 ⟨"_law_POOLS", (.tup [.tup [.str "+", .str "*", .str "==", .str "&&", .str "<<", .str "is", .str "??", .str "-", .str "|", .str ">=", .str "%", .str "as", .str "||", .str "^", .str "<", .str "/", .str "!=", .str "&", .str ">>", .str "<=", .str ">"],.tup [.str "+", .str "-"],.tup [.str "*", .str "/", .str "%"],.tup [.str "==", .str "!="],.tup [.str ">=", .str "is", .str "<", .str "as", .str "<=", .str ">"],.tup [.str "<<", .str ">>"],.tup [.str "&&", .str "??", .str "||"],.tup [.str "+", .str "*", .str "-", .str "<<", .str "%", .str "&", .str "^", .str "|", .str "/", .str ">>"]]),fun b=>.inl (vA b.hK)⟩,
 ⟨"_law_BEFORE", (.tup [.str "-", .str "++", .str "!", .str "--", .str "~", .str "+", .str "(int)", .str "await"]),fun b=>.inl (tM b.hK)⟩,
 ⟨"_law_BEHIND", (.tup [.str "++", .str "--", .str ".b", .str "()", .str "[7]"]),fun b=>.inl (sG b.hK)⟩,
 ⟨"_law_ASSIGNS", (.tup [.str "=", .str "+=", .str "-=", .str ">>=", .str "*=", .str "<<=", .str "/=", .str "%=", .str "&=", .str "|=", .str "^="]),fun b=>.inl (qW b.hK)⟩,
 ⟨"int", (.ty "int"),fun b=>.inr (Kk b.hK)⟩]
def gf:List Sl:=[
 ⟨"len", .builtin "len", fun b=>⟨_,.inr (KU b.hK),.bi⟩⟩,
 ⟨"max", .builtin "max", fun b=>⟨_,.inr (Mc b.hK),.bi⟩⟩,
 ⟨"isinstance", .builtin "isinstance", fun b=>⟨_,.inr (tj b.hK),.bi⟩⟩,
 ⟨"range", .type "range", fun b=>⟨_,.inr (EX b.hK),.ty⟩⟩]
def lk {α:Type} (l:List (Str×α)) (x:Str):Option {a:α // (x,a)∈l}:=l.rec none fun g l r=>if h:g.1=x then some ⟨g.2,h ▸ .head _⟩ else r.map fun a=>⟨a.1,.tail _ a.2⟩
def fv (x:Str):Option {v:V // GN x v}:=((lk ti x).map fun i=>⟨.int i.1.1,NK i.2⟩).or (gv.rec none fun g _ r=>if h:g.x=x then some ⟨g.v,h ▸ g.ok⟩ else r)
def ff (x:Str):Option {f:Value // GF x f}:=((lk tr x).map fun i=>⟨.ref i.1,NA i.2⟩).or (gf.rec none fun g _ r=>if h:g.x=x then some ⟨g.f,h ▸ g.ok⟩ else r)
def lo (ks:List Str) (x:Str):Option {i:Nat // ks[i]?=some x}:=ks.rec none fun k ks r=>if h:k=x then some ⟨0,congrArg some h⟩ else r.map fun i=>⟨i.1 + 1,i.2⟩
structure GG where
 fn:Fn
 keys:List Str
 vw:List (Nat×Nat)
 rf:List (Nat×Nat)
 sv:List Nat
 dd:List Nat
def isIn (l:List (Nat×Nat)) (p:Pos):Bool:=l.any fun q=>Nat.beq q.1 p.line && Nat.beq q.2 p.col
def QD {G:GG} {e:Expr} (o:Option {te:TE // GE G.fn G.keys e te}):Option {te:TE // GE G.fn G.keys e te}:=bif isIn G.vw e.pos then o.map fun t=>⟨xV t.1,P5 t.2⟩ else o
abbrev OE (G:GG) (e:Expr):=Option {te:TE // GE G.fn G.keys e te}
section
variable (m:Expr→Type) (d:∀ e,m e) (e:Expr) (co:∀ q k p,m (.Constant q k p):=fun _ _ _=>d _) (nm:∀ x p,m (.Name x p):=fun _ _=>d _) (at_:∀ e x p,m (.Attribute e x p):=fun _ _ _=>d _) (sb:∀ e i p,m (.Subscript e i p):=fun _ _ _=>d _) (ca:∀ f es kw p,m (.Call f es kw p):=fun _ _ _ _=>d _) (di:∀ ks vs p,m (.Dict ks vs p):=fun _ _ _=>d _) (lc:∀ a g s p,m (.ListComp a g s p):=fun _ _ _ _=>d _) (tu:∀ es q p,m (.Tuple es q p):=fun _ _ _=>d _) (un:∀ o a p,m (.UnaryOp o a p):=fun _ _ _=>d _) (cm:∀ a os es p,m (.Compare a os es p):=fun _ _ _ _=>d _) (bl:∀ o es p,m (.BoolOp o es p):=fun _ _ _=>d _) (sl:∀ a b c p,m (.Slice a b c p):=fun _ _ _ _=>d _) (bi:∀ a o b p,m (.BinOp a o b p):=fun _ _ _ _=>d _) (fi:∀ a b c p,m (.IfExp a b c p):=fun _ _ _ _=>d _) (li:∀ es p,m (.List es p):=fun _ _=>d _)
def vE:m e:=match e with
 | .Constant q k p=>co q k p
 | .Name x p=>nm x p
 | .Attribute e x p=>at_ e x p
 | .Subscript e i p=>sb e i p
 | .Call f es kw p=>ca f es kw p
 | .Dict ks vs p=>di ks vs p
 | .ListComp a g s p=>lc a g s p
 | .Tuple es q p=>tu es q p
 | .UnaryOp o a p=>un o a p
 | .Compare a os es p=>cm a os es p
 | .BoolOp o es p=>bl o es p
 | .Slice a b c p=>sl a b c p
 | .BinOp a o b p=>bi a o b p
 | .IfExp a b c p=>fi a b c p
 | .List es p=>li es p
 | e=>d e
end
def bo (e:Expr):Option (PLift (BO e)):=vE (fun e=>Option (PLift (BO e))) (fun _=>none) e (nm:=fun _ _=>some ⟨.n⟩) (at_:=fun _ _ _=>some ⟨.a⟩) (sb:=fun _ _ _=>some ⟨.s⟩)
def cM (G:GG) (e:Expr) (x:Str) (p1:Pos) (es:List Expr) (pos:Pos) (t:{te:TE // GE G.fn G.keys e te}) (ta:{ta:TA // GA G.fn G.keys es ta}):OE G (.Call (.Attribute e x p1) es [] pos):=
 (bo e).bind fun hb=>if h:(p1.endLine == pos.line)=true∧es.length < 30 then
  if hx:x = "append" then some ⟨cC t.1 "list.append" ta.1,By t.2 hb.down ta.2 h.2 h.1 (hx ▸ PySem.F.slot_list_append) rfl⟩
  else if hx:x = "pop" then some ⟨cC t.1 "list.pop" ta.1,By t.2 hb.down ta.2 h.2 h.1 (hx ▸ PySem.F.slot_list_pop) rfl⟩
  else if hx:x = "extend" then some ⟨cC t.1 "list.extend" ta.1,By t.2 hb.down ta.2 h.2 h.1 (hx ▸ PySem.F.slot_list_extend) rfl⟩
  else if hx:x = "reverse" then some ⟨cC t.1 "list.reverse" ta.1,By t.2 hb.down ta.2 h.2 h.1 (hx ▸ PySem.F.slot_list_reverse) rfl⟩
  else if hx:x = "get" then some ⟨Qh t.1 ta.1,hx ▸ NR t.2 hb.down ta.2 h.2 h.1⟩
  else some ⟨xM t.1 x ta.1,H9 t.2 hb.down ta.2 h.2 h.1⟩
 else none
structure CC (G:GG) where
 e:(e:Expr)→OE G e
 t:(e:Expr)→Option {tt:TT // RT G.fn G.keys e tt}
 p:(e:Option Expr)→Option {p:Option TE // RP G.fn G.keys e p}
 a:(es:List Expr)→Option {ta:TA // GA G.fn G.keys es ta}
abbrev Oj (G:GG) (e:Expr):=Option {tt:TT // RT G.fn G.keys e tt}
def SV (G:GG) (x:Str) (pos:Pos):OE G (.Name x pos):=match lo G.keys x with
 | some i=>QD (some ⟨xL i.1,JR i.2⟩)
 | none=>if hm:(x,NameKind.globalImplicit)∈G.fn.scope.names then some (((fv x).map fun v=>⟨xK v.1,Hr hm v.2⟩).getD ⟨xF,O9⟩) else if hc:(x,NameKind.cell)∈G.fn.scope.names then match h:G.fn.cl.lookup x with
  | some a=>QD (some ⟨CS a,OL hc h⟩)
  | none=>none
 else none
def SX (G:GG) (q:Const) (k:Nat) (pos:Pos):OE G (.Constant q k pos):=match q with
 | .none=>some ⟨xK .none,lK KW⟩
 | .bool b=>some ⟨xK (.bool b),lK LF⟩
 | .int i=>some ⟨xK (.int i),lK EK⟩
 | .str s=>some ⟨xK (.str s),lK Ob⟩
 | _=>none
def RX (G:GG) (I:CC G) (o:PySem.BoolOp) (es:List Expr) (pos:Pos):OE G (.BoolOp o es pos):=match es,o with
 | [e],_=>(I.e e).map fun t=>⟨t.1,Nh t.2⟩
 | e :: e2 :: es,.And=>(I.e e).bind fun t1=>(I.e (.BoolOp .And (e2 :: es) pos)).map fun t2=>⟨MJ t1.1 t2.1,Mf t1.2 t2.2⟩
 | e :: e2 :: es,.Or=>(I.e e).bind fun t1=>(I.e (.BoolOp .Or (e2 :: es) pos)).map fun t2=>⟨Q0 t1.1 t2.1,Of t1.2 t2.2⟩
 | _,_=>none
def Sj (G:GG) (I:CC G) (o:PySem.BoolOp) (es:List Expr) (pos:Pos):Oj G (.BoolOp o es pos):=match es,o with
 | [e],.And=>(I.t e).map fun t=>⟨t.1,Iw t.2⟩
 | [e],.Or=>(I.t e).map fun t=>⟨t.1,Lf t.2⟩
 | e :: e2 :: es,.And=>(I.t e).bind fun t1=>(I.t (.BoolOp .And (e2 :: es) pos)).map fun t2=>⟨qx t1.1 t2.1,JP t1.2 t2.2⟩
 | e :: e2 :: es,.Or=>(I.t e).bind fun t1=>(I.t (.BoolOp .Or (e2 :: es) pos)).map fun t2=>⟨D6 t1.1 t2.1,OU t1.2 t2.2⟩
 | _,_=>none
def T3 (G:GG) (I:CC G) (e:Expr) (p:Pos) (t:{te:TE // GE G.fn G.keys e te}) (i:Expr):OE G (.Subscript e i p):=(I.e i).map fun t2=>⟨xS t.1 t2.1,Mo t.2 t2.2⟩
def RU (G:GG) (I:CC G) (e1:Expr) (op:CmpOp) (p:Pos) (t1:{te:TE // GE G.fn G.keys e1 te}) (e2:Expr):Oj G (.Compare e1 [op] [e2] p):=(I.e e2).map fun t2=>⟨aG op t1.1 t2.1,LX t1.2 t2.2⟩
def SQ (G:GG) (I:CC G) (e:Expr):OE G e:=vE (OE G) (fun _=>none) e (co:=SX G) (nm:=SV G)
 (bi:=fun e1 op e2 p=>(I.e e1).bind fun t1=>(I.e e2).map fun t2=>⟨xB op t1.1 t2.1,Kq t1.2 t2.2⟩)
 (un:=fun o e p=>match o with
  | .USub=>(I.e e).map fun t=>⟨xN t.1,Kw t.2⟩
  | _=>none)
 (cm:=fun e1 os es p=>match os,es with
  | [op],[e2]=>(I.e e1).bind fun t1=>(I.e e2).map fun t2=>⟨wG (aG op t1.1 t2.1),LL t1.2 t2.2⟩
  | _,_=>none)
 (bl:=RX G I)
 (fi:=fun e e1 e2 p=>(I.t e).bind fun t=>(I.e e1).bind fun t1=>(I.e e2).map fun t2=>⟨tZ t.1 t1.1 t2.1,Ou t.2 t1.2 t2.2⟩)
 (tu:=fun es q p=>if h:es.length≤1000 then (I.a es).map fun t=>⟨bG t.1,JY t.2 h⟩ else none)
 (li:=fun es p=>if h:es.length≤1000 then (I.a es).map fun t=>bif isIn G.rf p then ⟨ko t.1,NW t.2 h⟩ else ⟨cP t.1,Ox t.2 h⟩ else none)
 (di:=fun ks vs p=>match ks,vs with
  | [],[]=>some ⟨GQ,NX⟩
  | _,_=>none)
 (at_:=fun e x p=>(bo e).bind fun h=>(I.e e).map fun t=>⟨bg t.1 x,Om t.2 h.down⟩)
 (sb:=fun e i p=>(I.e e).bind fun t=>vE (fun i=>OE G (.Subscript e i p)) (T3 G I e p t) i (sl:=fun a b d p1=>(I.p a).bind fun ta=>(I.p b).bind fun tb=>(I.p d).bind fun td=>QD (some ⟨Ge t.1 ta.1 tb.1 td.1,ND t.2 ta.2 tb.2 td.2 (by cases d <;> exact fun _ _=>⟨_,rfl⟩)⟩)))
 (ca:=fun f es kw p=>match kw with
  | []=>vE (fun f=>OE G (.Call f es [] p)) (fun _=>none) f
   (nm:=fun x p1=>if hm:(x,NameKind.globalImplicit)∈G.fn.scope.names then some (((ff x).bind fun f=>(I.a es).map fun ta=>⟨xC f.1 ta.1,GY hm f.2 ta.2⟩).getD ⟨xF,MY⟩) else none)
   (at_:=fun e x p1=>(I.e e).bind fun t=>(I.a es).bind fun ta=>cM G e x p1 es p t ta)
  | _=>none)
def Su (G:GG) (I:CC G) (e:Option Expr):Option {p:Option TE // RP G.fn G.keys e p}:=e.rec (some ⟨none,Hu⟩) fun e=>(I.e e).map fun t=>⟨some t.1,Ip t.2⟩
def Sz (G:GG) (I:CC G) (es:List Expr):Option {ta:TA // GA G.fn G.keys es ta}:=es.rec (some ⟨a0,Kv⟩) fun e es _=>(I.e e).bind fun t=>(I.a es).map fun ta=>⟨a1 t.1 ta.1,Ii t.2 ta.2⟩
def S7 (G:GG) (I:CC G) (e:Expr):Oj G e:=vE (Oj G) (fun _=>none) e
 (un:=fun o e p=>match o with
  | .Not=>(I.t e).map fun t=>⟨GO t.1,Mx t.2⟩
  | _=>none)
 (bl:=Sj G I)
 (cm:=fun e1 os es p=>match os,es with
  | [op],[e2]=>(I.e e1).bind fun t1=>vE (fun e2=>Oj G (.Compare e1 [op] [e2] p)) (RU G I e1 op p t1) e2 (lc:=fun elt gs sc p2=>some ⟨aG op t1.1 (Q5 G.fn G.keys (.ListComp elt gs sc p2)),HM t1.2 rfl⟩)
  | _,_=>none)
 (nm:=fun x p=>(I.e (.Name x p)).map fun t=>⟨xT t.1,lj t.2 fun _=>rfl⟩)
 (ca:=fun f es kw p=>(I.e (.Call f es kw p)).map fun t=>⟨xT t.1,lj t.2 fun _=>rfl⟩)
 (at_:=fun e x p=>(I.e (.Attribute e x p)).map fun t=>⟨xT t.1,lj t.2 fun _=>rfl⟩)
 (co:=fun q k p=>(I.e (.Constant q k p)).map fun t=>⟨xT t.1,lj t.2 fun _=>rfl⟩)
def cc (G:GG) (k:Nat):CC G:=k.rec ⟨fun _=>none,fun _=>none,fun _=>none,fun _=>none⟩ fun _ I=>⟨SQ G I,S7 G I,Su G I,Sz G I⟩
def cE (G:GG) (k:Nat):(e:Expr)→OE G e:=(cc G k).e
def cT (G:GG) (k:Nat):(e:Expr)→Option {tt:TT // RT G.fn G.keys e tt}:=(cc G k).t
theorem GT.each {fn:Fn} {keys:List Str} {es:List Expr} {ts:List Tg} (g:GT fn keys es ts) (env:Env):(assignEach es env).length=es.length∧(assignEach es env).findIdx? (·.1)=none:=by
 induction g with
 | nil=>exact ⟨rfl,rfl⟩
 | @nm x i p es ts hk g ih=>
  have e:assignEach (.Name x p :: es) env=(false,assign (.Name x p) env) :: assignEach es env:=rfl
  rw [e,List.length_cons,ih.1,List.findIdx?_cons,ih.2]; exact ⟨rfl,rfl⟩
 | @at_ o te x p es ts hk g ih=>
  have e:assignEach (.Attribute o x p :: es) env=(false,assign (.Attribute o x p) env) :: assignEach es env:=rfl
  rw [e,List.length_cons,ih.1,List.findIdx?_cons,ih.2]; exact ⟨rfl,rfl⟩
def cG (G:GG) (k:Nat) (es:List Expr):Option {ts:List Tg // GT G.fn G.keys es ts}:=es.rec (some ⟨[],.nil⟩) fun e es r=>r.bind fun t=>vE (fun e=>Option {ts:List Tg // GT G.fn G.keys (e :: es) ts}) (fun _=>none) e
 (nm:=fun x p=>(lo G.keys x).map fun i=>⟨.nm i.1 :: t.1,.nm i.2 t.2⟩) (at_:=fun e x p=>(cE G k e).map fun o=>⟨.at_ o.1 x :: t.1,.at_ o.2 t.2⟩)
abbrev OB (G:GG) (b:List Stmt):=Option {ts:TS // RB G.fn G.keys b ts}
def GL {G:GG} {b:List Stmt} (l:Nat) (o:OB G b):OB G b:=bif G.dd.any (Nat.beq l) then some ⟨bD,HN⟩ else bif G.sv.any (Nat.beq l) then o.map fun t=>⟨bV t.1,MS t.2⟩ else o
def Rb (G:GG) (k:Nat) (es:List Expr) (q:Nat) (p1:Pos) (e:Expr) (pos:Pos) (rest:List Stmt) (t:{ts:TS // RB G.fn G.keys rest ts}) (hw:∀ env,swappedStores [.Tuple es q p1] e env=pure none):OB G (.Assign [.Tuple es q p1] e pos :: rest):=
 (cG G k es).bind fun g=>(cE G k e).map fun te=>⟨HX g.1 te.1 t.1,JS g.2 te.2 t.2 (fun env=>(g.2.each env).1) (fun env=>(g.2.each env).2) hw⟩
section
variable (G:GG) (k:Nat) (I:(b:List Stmt)→OB G b) (rest:List Stmt) (pos:Pos)
def QW (x:Str) (p1:Pos) (e:Expr):OB G (.Assign [.Name x p1] e pos :: rest):=(cE G k e).bind fun te=>(I rest).bind fun t=>match lo G.keys x with
 | some i=>some ⟨bA i.1 te.1 t.1,LW i.2 te.2 t.2⟩
 | none=>if hc:(x,NameKind.cell)∈G.fn.scope.names then match h:G.fn.cl.lookup x with
  | some a=>some ⟨ME a te.1 t.1,HR hc h te.2 t.2⟩
  | none=>none
  else none
def R4 (s:Stmt):OB G (s :: rest):=(I rest).map fun t=>⟨MI G.fn G.keys s t.1,Lq t.2⟩
def Ti (e t:Expr):OB G (.Assign [t] e pos :: rest):=vE (fun t=>OB G (.Assign [t] e pos :: rest)) (fun _=>none) t
 (nm:=fun x p1=>vE (fun e=>OB G (.Assign [.Name x p1] e pos :: rest)) (QW G k I rest pos x p1) e (lc:=fun _ _ _ _=>R4 G I rest _) (di:=fun ks vs p2=>match ks with
  | []=>QW G k I rest pos x p1 _
  | _ :: _=>R4 G I rest _))
 (at_:=fun o x p1=>(cE G k o).bind fun to=>(cE G k e).bind fun te=>(I rest).map fun t=>⟨jx to.1 x te.1 t.1,NJ to.2 te.2 t.2⟩)
 (sb:=fun o i p1=>(cE G k o).bind fun to=>(cE G k i).bind fun ti=>(cE G k e).bind fun te=>(I rest).map fun t=>⟨fE to.1 ti.1 te.1 t.1,Oq to.2 ti.2 te.2 t.2⟩)
 (tu:=fun es q p1=>(I rest).bind fun t=>vE (fun e=>OB G (.Assign [.Tuple es q p1] e pos :: rest)) (fun _=>none) e (ca:=fun f as kw p2=>Rb G k es q p1 _ pos rest t fun _=>rfl) (nm:=fun x p2=>Rb G k es q p1 _ pos rest t fun _=>rfl))
def S8 (a:List Stmt) (h:ExceptHandler) (hs:List ExceptHandler):OB G (.Try a (h :: hs) [] [] pos :: rest):=match h with
 | .ExceptHandler (some t) y (b₀ :: b) p2=>vE (fun t=>OB G (.Try a (.ExceptHandler (some t) y (b₀ :: b) p2 :: hs) [] [] pos :: rest)) (fun _=>none) t (nm:=fun x p1=>if hm:(x,NameKind.globalImplicit)∈G.fn.scope.names then (I a).bind fun ta=>(I (b₀ :: b)).bind fun tb=>(I rest).bind fun t=>match y with
  | none=>some ⟨bT ta.1 (hC x tb.1) t.1,DM ta.2 (LM hm tb.2) t.2⟩
  | some y=>(lo G.keys y).map fun i=>⟨bT ta.1 (hA x i.1 tb.1) t.1,DM ta.2 (Nl hm i.2 tb.2) t.2⟩
  else none)
 | _=>none
def RS (s:Stmt):OB G (s :: rest):=match s with
 | .Expr e pos=>GL pos.line ((cE G k e).bind fun te=>(I rest).map fun t=>⟨bE te.1 t.1,H2 te.2 t.2⟩)
 | .Assign [t] e pos=>GL pos.line (Ti G k I rest pos e t)
 | .AugAssign t op e pos=>GL pos.line (vE (fun t=>OB G (.AugAssign t op e pos :: rest)) (fun _=>none) t
  (nm:=fun x p1=>(lo G.keys x).bind fun i=>(cE G k e).bind fun te=>(I rest).map fun t=>⟨bU i.1 op te.1 t.1,Mg i.2 te.2 t.2⟩)
  (at_:=fun o x p1=>(cE G k o).bind fun to=>(cE G k e).bind fun te=>(I rest).map fun t=>⟨NU to.1 x op te.1 t.1,Nv to.2 te.2 t.2⟩))
 | .Return (some e) pos=>GL pos.line ((cE G k e).map fun te=>⟨bR te.1,Ku te.2⟩)
 | .Return none pos=>GL pos.line (some ⟨Q3,Iq⟩)
 | .If e a b pos=>GL pos.line ((cT G k e).bind fun tt=>(I a).bind fun ta=>(I b).bind fun tb=>(I rest).map fun t=>⟨bI tt.1 ta.1 tb.1 t.1,OK tt.2 ta.2 tb.2 t.2⟩)
 | .While e a [] pos=>GL pos.line ((cT G k e).bind fun tt=>(I a).bind fun ta=>(I rest).map fun t=>⟨bW tt.1 ta.1 t.1,Fh tt.2 ta.2 t.2⟩)
 | .For t e a [] pos=>GL pos.line (vE (fun t=>OB G (.For t e a [] pos :: rest)) (fun _=>none) t (nm:=fun x p1=>(lo G.keys x).bind fun i=>(cE G k e).bind fun te=>(I a).bind fun ta=>(I rest).map fun t=>⟨bF i.1 te.1 ta.1 t.1,L9 i.2 te.2 ta.2 t.2⟩))
 | .Raise (some e) none pos=>GL pos.line ((cE G k e).map fun te=>⟨bX te.1,EB te.2⟩)
 | .Try a (h :: hs) [] [] pos=>GL pos.line (S8 G I rest pos a h hs)
 | _=>none
def Ta (b:List Stmt):OB G b:=b.rec (some ⟨bN,Ko⟩) fun s rest _=>RS G k I rest s
end
def cB (G:GG) (k:Nat):(b:List Stmt)→OB G b:=k.rec (fun _=>none) fun k I=>Ta G k I
theorem At.is {x:Str} {v:V} {ρ:Loc} (h:At ρ x v):(x,some v)∈ρ:=by
 induction h with
 | head=>exact .head _
 | tail _ ih=>exact .tail _ ih
theorem yR {x:Str} {v:V} {ks:List Str} {xs:List V} {m:Nat} (h:At (ks.zip (xs.map some ++ List.replicate m none)) x v):(x,v)∈ks.zip xs:=by
 obtain ⟨i,e⟩:=List.mem_iff_getElem?.1 h.is
 have e:=List.getElem?_zip_eq_some.1 e
 refine List.mem_iff_getElem?.2 ⟨i,List.getElem?_zip_eq_some.2 ⟨e.1,?_⟩⟩
 obtain e:=e.2
 by_cases hi:i < xs.length
 ·rw [List.getElem?_append_left ((List.length_map (as:=xs) some).symm ▸ hi),List.getElem?_map] at e
  obtain ⟨a,e1,e2⟩:=Option.map_eq_some_iff.1 e
  exact e1.trans e2
 ·rw [List.getElem?_append_right ((List.length_map (as:=xs) some).symm ▸ Nat.le_of_not_lt hi)] at e
  exact nomatch List.eq_of_mem_replicate (List.mem_of_getElem? e)
theorem iA {x:Str} {v:V} {ks ps:List Str} {xs:List V} (h:ps <+: ks) (e:xs.length=ps.length) (m:(x,v)∈ks.zip xs):(x,v)∈ps.zip xs:=by
 obtain ⟨t,rfl⟩:=h
 rwa [← List.append_nil xs,List.zip_append e.symm,List.zip_nil_right,List.append_nil] at m
theorem Jq {G:GG} {k:Nat} {body:List Stmt} {tb:TS} (hc:(cB G k body).map (·.1)=some tb):RB G.fn G.keys body tb:=by
 obtain ⟨t,_,e⟩:=Option.map_eq_some_iff.1 hc
 exact e ▸ t.2
theorem QR {b:Bs} {n:Nat} {hd:Option Addr} {G:GG} {params:List Str} {body:List Stmt} {tb:TS} {xs:List V} {m:Nat} {σ:AH} {Φ:Pv} {Ψ:Addr→AH→Prop} (F:FnAt b.c G.fn params G.keys body) (k:Nat) (hc:(cB G k body).map (·.1)=some tb)
  (hp:params <+: G.keys) (h1:xs.length=params.length) (h2:G.keys.length=params.length + m) (h:tb ⟨b,n,hd,fun _=>Ψ⟩ (xs.map some ++ List.replicate m none) σ (aZ Φ)):SK b.c (n + 1) hd (.ref G.fn.f) xs σ Φ Ψ:=by
 have hr:=Jq hc
 have hl:(xs.map some ++ List.replicate m (none:Option V)).length=G.keys.length:=by rw [List.length_append,List.length_map,List.length_replicate,h1,h2]
 exact Jj F h1 (ρ₀:=G.keys.zip (xs.map some ++ List.replicate m none)) (by rw [List.map_fst_zip (by omega)]) (fun x v hx=>iA hp h1 (yR hx)) ((hr ⟨b,n,hd,fun _=>Ψ⟩ _ σ _ hl h).mono (fun f ρ σ ⟨r,e,hl,q⟩=>q) fun ρ a σ ⟨r,e,hl,q⟩=>q)
structure DW where
 nm:Str
 st:Stmt
 md:Value
 np:Nat
 G:GG
def mt (i j:Nat):Stmt:=nth (bodyOf (nth top i)) j
def DW.of (nm qual:Str) (st:Stmt) (f cd:Addr) (md:Value) (np:Nat) (ks:List Str) (vw rf:List (Nat×Nat)) (sv dd:List Nat):DW:=⟨nm,st,md,np,⟨⟨qual,lN st,f,.ref cd,[]⟩,ks,vw,rf,sv,dd⟩⟩
def DW.fd (R:DW):FuncData:=fnOf R.nm R.G.fn.qual (oA R.st) (bodyOf R.st) R.G.fn.scope .none .none .none R.md none R.G.fn.cdv .none
def DW.ps (R:DW):List Str:=R.G.keys.take R.np
def DW.ok (R:DW) (P:PySem.Params):Bool:=Mm P R.G.fn R.ps R.G.keys && Nat.ble R.np R.G.keys.length
def DW.lhs (R:DW) (P:PySem.Params):Option Obj×Option TS×Bool×Qf R.np:=((K P).lookup R.G.fn.f,(cB R.G 40 (bodyOf R.st)).map (·.1),R.ok P,cur R.np fun vs=>bindArgs R.fd ⟨vs,[]⟩)
def DW.rhs (R:DW) (tb:TS):Option Obj×Option TS×Bool×Qf R.np:=(some ⟨.type "function", none,.func R.fd,#[]⟩,some tb,true,cur R.np fun vs=>pure (R.ps.zip vs))
theorem DW.le {R:DW} {P:PySem.Params} {tb:TS} (h:R.lhs P=R.rhs tb):R.np≤R.G.keys.length:=Nat.le_of_ble_eq_true (Bool.and_eq_true_iff.mp (congrArg (·.2.2.1) h:R.ok P=true)).2
theorem DW.len {R:DW} {P:PySem.Params} {tb:TS} (h:R.lhs P=R.rhs tb):R.ps.length=R.np:=(List.length_take ..).trans (Nat.min_eq_left (DW.le h))
theorem DW.at (R:DW) {c:Cx} {tb:TS} (hK:c.K=K c.w.params) (h:R.lhs c.w.params=R.rhs tb):FnAt c R.G.fn R.ps R.G.keys (bodyOf R.st):=
 fnAt hK R.nm (oA R.st) R.md (congrArg (·.1) h:_=_) (PL (DW.len h) (congrArg (·.2.2.2) h:_=_)) (Bool.and_eq_true_iff.mp (congrArg (·.2.2.1) h:R.ok _=true)).1
theorem wk (R:DW) {b:Bs} {n:Nat} {hd:Option Addr} {tb:TS} {xs:List V} {σ:AH} {Φ:Pv} {Ψ:Addr→AH→Prop} (e:R.lhs b.c.w.params=R.rhs tb)
  (hl:xs.length=R.np) (h:tb ⟨b,n,hd,fun _=>Ψ⟩ (xs.map some ++ List.replicate (R.G.keys.length - R.np) none) σ (aZ Φ)):SK b.c (n + 1) hd (.ref R.G.fn.f) xs σ Φ Ψ:=
 QR (m:=R.G.keys.length - R.np) (R.at b.hK e) 40 (congrArg (·.2.1) e:_=_) (List.take_prefix ..) (hl.trans (DW.len e).symm) (by rw [DW.len e]; exact (Nat.add_sub_cancel' (DW.le e)).symm) h
theorem wT (R:DW) {b:Bs} {n:Nat} {hd:Option Addr} {tb:TS} {xs:List V} {σ:AH} {Φ:Pv} {Ψ:Addr→AH→Prop} (e:R.lhs b.c.w.params=R.rhs tb)
  (hl:xs.length=R.np) (h:tb ⟨b,n,hd,fun _=>Ψ⟩ (xs.map some ++ List.replicate (R.G.keys.length - R.np) none) σ (aZ Φ)):TC b (n + 1) hd (.ref R.G.fn.f) xs σ Φ Ψ:=.of (wk R e hl h).sc
theorem Jn {b:Bs} {n:Nat} {hd:Option Addr} {fn:Fn} {params keys cn:List Str} {body:List Stmt} {xs:List V} {r:Fm} {val:Str→Option V} {σ:AH} {Φ:Pv} {Ψ:Addr→AH→Prop} (F:Bd b.c fn params keys cn body) (k:Nat) (hl:xs.length=params.length) (h2:r.length=keys.length)
  (h0:∀ x v,At (keys.zip r) x v→(x,v)∈params.zip xs) (h3:∀ x,(∀ v,val x=some v→x∈cn∧(x,v)∈params.zip xs)∧(x∈cn→val x=none→x∉params))
  (h:∀ cl:List (Str×Addr),cl.map (·.1)=cn→(cl.map (·.2)).Nodup→(∀ p∈cl,σ p.2=none)→∃ (G:GG) (tb:TS),G.fn={ fn with cl:=cl }∧G.keys=keys∧(cB G k body).map (·.1)=some tb∧tb ⟨b,n,hd,fun _=>Ψ⟩ r (GD σ val cl) (aZ Φ)):SK b.c (n + 1) hd (.ref fn.f) xs σ Φ Ψ:=
 DL F hl (ρ₀:=keys.zip r) (by rw [List.map_fst_zip (by omega)]) h0 h3 fun cl e1 e2 e3=>by
  obtain ⟨G,tb,g1,g2,hc,q⟩:=h cl e1 e2 e3
  have hr:=Jq hc
  rw [g1,g2] at hr
  exact (hr ⟨b,n,hd,fun _=>Ψ⟩ r _ _ h2 q).mono (fun f ρ σ ⟨r,e,hl,q⟩=>q) fun ρ a σ ⟨r,e,hl,q⟩=>q
section
variable {b:Bs} {n:Nat} {hd:Option Addr} {σ:AH} {Φ:Pv} {Ψ:Addr→AH→Prop}
def mN:Value:=.str "framerune.csnodes" 208
def mF:Value:=.str "framerune.faults" 421
def mC:Value:=.str "framerune.cspcore" 502
def mY:Value:=.str "framerune.csptypes" 826
def mE:Value:=.str "framerune.cspexpr" 1145
def mL:Value:=.str "law_xm0343_01" 2120
def pB:DW:=.of "__init__" "Node.__init__" (mt 48 0) 35 34 mN 6 ["self", "kind", "a", "kids", "mods", "at"] [] [] [] []
def qe:TS:=jx (xL 0) "kind" (xL 1) (jx (xL 0) "a" (xL 2) (jx (xL 0) "kids" (xL 3) (jx (xL 0) "mods" (xL 4) (jx (xL 0) "at" (xL 5) (jx (xL 0) "nid" (xK (.int 0)) bN)))))
theorem pK {x0 x1 x2 x3 x4 x5:V} (h:qe ⟨b,n,hd,fun _=>Ψ⟩ [some x0,some x1,some x2,some x3,some x4,some x5] σ (aZ Φ)):SK b.c (n + 1) hd (.ref 35) [x0,x1,x2,x3,x4,x5] σ Φ Ψ:=wk pB (by kernel_rfl) rfl h
def nz:DW:=.of "__init__" "Diags.__init__" (mt 49 0) 56 55 mN 1 ["self"] [] [(63,20)] [] []
def nL:TS:=jx (xL 0) "rows" (ko a0) bN
theorem nY {x0:V} (h:nL ⟨b,n,hd,fun _=>Ψ⟩ [some x0] σ (aZ Φ)):SK b.c (n + 1) hd (.ref 56) [x0] σ Φ Ψ:=wk nz (by kernel_rfl) rfl h
def xH:DW:=.of "put" "Diags.put" (mt 49 1) 63 62 mN 4 ["self", "number", "at", "words"] [] [] [] []
def wU:TS:=bE (cC (bg (xL 0) "rows") "list.append" (a1 (bG (a1 (xL 1) (a1 (xL 2) (a1 (xL 3) a0)))) a0)) bN
theorem y6 {x0 x1 x2 x3:V} (h:wU ⟨b,n,hd,fun _=>Ψ⟩ [some x0,some x1,some x2,some x3] σ (aZ Φ)):TC b (n + 1) hd (.ref 63) [x0,x1,x2,x3] σ Φ Ψ:=wT xH (by kernel_rfl) rfl h
def r6:TS:=bE (cC (bg (xL 0) "rows") "list.pop" a0) bN
def yH:DW:=.of "cut" "Diags.cut" (mt 49 2) 70 69 mN 2 ["self", "count"] [] [] [] []
def yO:TS:=bW (aG .Gt (xC (.builtin "len") (a1 (bg (xL 0) "rows") a0)) (xL 1)) r6 bN
theorem yt {x0 x1:V} (h:yO ⟨b,n,hd,fun _=>Ψ⟩ [some x0,some x1] σ (aZ Φ)):TC b (n + 1) hd (.ref 70) [x0,x1] σ Φ Ψ:=wT yH (by kernel_rfl) rfl h
def LR:DW:=.of "leaf" "leaf" (nth top 50) 91 90 mN 3 ["kind", "a", "at"] [] [] [] []
def Ke:TS:=bR (xC (.ref 38) (a1 (xL 0) (a1 (xL 1) (a1 (cP a0) (a1 (xK (.int 0)) (a1 (xL 2) a0))))))
theorem MA {x0 x1 x2:V} (h:Ke ⟨b,n,hd,fun _=>Ψ⟩ [some x0,some x1,some x2] σ (aZ Φ)):TC b (n + 1) hd (.ref 91) [x0,x1,x2] σ Φ Ψ:=wT LR (by kernel_rfl) rfl h
def Lu:DW:=.of "twig" "twig" (nth top 51) 98 97 mN 4 ["kind", "a", "kids", "at"] [] [] [] []
def LO:TS:=bR (xC (.ref 38) (a1 (xL 0) (a1 (xL 1) (a1 (xL 2) (a1 (xK (.int 0)) (a1 (xL 3) a0))))))
theorem Fg {x0 x1 x2 x3:V} (h:LO ⟨b,n,hd,fun _=>Ψ⟩ [some x0,some x1,some x2,some x3] σ (aZ Φ)):TC b (n + 1) hd (.ref 98) [x0,x1,x2,x3] σ Φ Ψ:=wT Lu (by kernel_rfl) rfl h
def zv:DW:=.of "node_row" "node_row" (nth top 52) 105 104 mN 2 ["nodes", "at"] [] [] [] []
def zi:TS:=bR (xC (.ref 38) (a1 (xK (.int 110)) (a1 (xK (.str "")) (a1 (xL 0) (a1 (xK (.int 0)) (a1 (xL 1) a0))))))
theorem zU {x0 x1:V} (h:zi ⟨b,n,hd,fun _=>Ψ⟩ [some x0,some x1] σ (aZ Φ)):TC b (n + 1) hd (.ref 105) [x0,x1] σ Φ Ψ:=wT zv (by kernel_rfl) rfl h
def zW:DW:=.of "unmarked" "unmarked" (nth top 54) 119 118 mN 1 ["name"] [] [] [] []
def zY:TS:=bR (tZ (aG .Eq (Ge (xL 0) none (some (xK (.int 1))) none) (xK (.str "@"))) (Ge (xL 0) (some (xK (.int 1))) none none) (xL 0))
theorem zK {x0:V} (h:zY ⟨b,n,hd,fun _=>Ψ⟩ [some x0] σ (aZ Φ)):TC b (n + 1) hd (.ref 119) [x0] σ Φ Ψ:=wT zW (by kernel_rfl) rfl h
def dP:DW:=.of "__init__" "RuneError.__init__" (mt 56 0) 133 132 mF 3 ["self", "code", "at"] [] [] [] []
def dN:TS:=jx (xL 0) "code" (xL 1) (jx (xL 0) "at" (xL 2) bN)
theorem xl {x0 x1 x2:V} (h:dN ⟨b,n,hd,fun _=>Ψ⟩ [some x0,some x1,some x2] σ (aZ Φ)):SK b.c (n + 1) hd (.ref 133) [x0,x1,x2] σ Φ Ψ:=wk dP (by kernel_rfl) rfl h
def lQ:DW:=.of "__init__" "Parser.__init__" (mt 70 0) 212 211 mC 3 ["self", "tokens", "diags"] [] [] [] []
def kx:TS:=jx (xL 0) "tokens" (xL 1) (jx (xL 0) "at" (xK (.int 0)) (jx (xL 0) "diags" (xL 2) (jx (xL 0) "parts" GQ (jx (xL 0) "firsts" GQ (jx (xL 0) "tails" GQ (jx (xL 0) "stmts" GQ (jx (xL 0) "members" GQ (jx (xL 0) "deep" (xK (.int 0)) (jx (xL 0) "in_async" (xK (.bool false)) (jx (xL 0) "owner" (xK (.str "")) bN))))))))))
theorem lb {x0 x1 x2:V} (h:kx ⟨b,n,hd,fun _=>Ψ⟩ [some x0,some x1,some x2] σ (aZ Φ)):SK b.c (n + 1) hd (.ref 212) [x0,x1,x2] σ Φ Ψ:=wk lQ (by kernel_rfl) rfl h
def vN:DW:=.of "now" "Parser.now" (mt 70 1) 219 218 mC 1 ["self"] [] [] [] []
def vu:TS:=bR (xS (bg (xL 0) "tokens") (bg (xL 0) "at"))
theorem wa {x0:V} (h:vu ⟨b,n,hd,fun _=>Ψ⟩ [some x0] σ (aZ Φ)):TC b (n + 1) hd (.ref 219) [x0] σ Φ Ψ:=wT vN (by kernel_rfl) rfl h
def qA:DW:=.of "ahead" "Parser.ahead" (mt 70 2) 226 225 mC 2 ["self", "n", "place"] [] [] [] []
def rI:TS:=bA 2 (xB .Add (bg (xL 0) "at") (xL 1)) (bI (aG .GtE (xL 2) (xC (.builtin "len") (a1 (bg (xL 0) "tokens") a0))) (bA 2 (xB .Sub (xC (.builtin "len") (a1 (bg (xL 0) "tokens") a0)) (xK (.int 1))) bN) bN (bR (xS (bg (xL 0) "tokens") (xL 2))))
theorem rG {x0 x1:V} (h:rI ⟨b,n,hd,fun _=>Ψ⟩ [some x0,some x1,none] σ (aZ Φ)):TC b (n + 1) hd (.ref 226) [x0,x1] σ Φ Ψ:=wT qA (by kernel_rfl) rfl h
def tn:DW:=.of "step" "Parser.step" (mt 70 3) 233 232 mC 1 ["self", "token"] [] [] [] []
def tQ:TS:=bA 1 (xS (bg (xL 0) "tokens") (bg (xL 0) "at")) (bI (aG .NotEq (xS (xL 1) (xK (.int 0))) (xK (.int 0))) (NU (xL 0) "at" .Add (xK (.int 1)) bN) bN (bR (xL 1)))
theorem tG {x0:V} (h:tQ ⟨b,n,hd,fun _=>Ψ⟩ [some x0,none] σ (aZ Φ)):TC b (n + 1) hd (.ref 233) [x0] σ Φ Ψ:=wT tn (by kernel_rfl) rfl h
def mW:DW:=.of "is_sign" "Parser.is_sign" (mt 70 4) 240 239 mC 2 ["self", "text"] [] [] [] []
def oG:TS:=bR (xC (.ref 359) (a1 (xS (bg (xL 0) "tokens") (bg (xL 0) "at")) (a1 (xK (.int 6)) (a1 (xL 1) a0))))
theorem mO {x0 x1:V} (h:oG ⟨b,n,hd,fun _=>Ψ⟩ [some x0,some x1] σ (aZ Φ)):TC b (n + 1) hd (.ref 240) [x0,x1] σ Φ Ψ:=wT mW (by kernel_rfl) rfl h
def oq:DW:=.of "is_word" "Parser.is_word" (mt 70 5) 247 246 mC 2 ["self", "text"] [] [] [] []
def nJ:TS:=bR (xC (.ref 359) (a1 (xS (bg (xL 0) "tokens") (bg (xL 0) "at")) (a1 (xK (.int 2)) (a1 (xL 1) a0))))
theorem oz {x0 x1:V} (h:nJ ⟨b,n,hd,fun _=>Ψ⟩ [some x0,some x1] σ (aZ Φ)):TC b (n + 1) hd (.ref 247) [x0,x1] σ Φ Ψ:=wT oq (by kernel_rfl) rfl h
def oo:DW:=.of "is_name" "Parser.is_name" (mt 70 6) 254 253 mC 2 ["self", "text"] [] [] [] []
def nF:TS:=bR (xC (.ref 359) (a1 (xS (bg (xL 0) "tokens") (bg (xL 0) "at")) (a1 (xK (.int 1)) (a1 (xL 1) a0))))
theorem nA {x0 x1:V} (h:nF ⟨b,n,hd,fun _=>Ψ⟩ [some x0,some x1] σ (aZ Φ)):TC b (n + 1) hd (.ref 254) [x0,x1] σ Φ Ψ:=wT oo (by kernel_rfl) rfl h
def mx:DW:=.of "eat_sign" "Parser.eat_sign" (mt 70 7) 261 260 mC 2 ["self", "text"] [] [] [] []
def ly:TS:=bR (xC (.ref 366) (a1 (xL 0) (a1 (xK (.int 6)) (a1 (xL 1) a0))))
theorem mr {x0 x1:V} (h:ly ⟨b,n,hd,fun _=>Ψ⟩ [some x0,some x1] σ (aZ Φ)):TC b (n + 1) hd (.ref 261) [x0,x1] σ Φ Ψ:=wT mx (by kernel_rfl) rfl h
def jN:DW:=.of "need_sign" "Parser.need_sign" (mt 70 10) 282 281 mC 2 ["self", "text"] [] [] [] []
def k6:TS:=bE (xC (.ref 373) (a1 (xL 0) (a1 (xL 1) a0))) bN
theorem eG {x0 x1:V} (h:k6 ⟨b,n,hd,fun _=>Ψ⟩ [some x0,some x1] σ (aZ Φ)):TC b (n + 1) hd (.ref 282) [x0,x1] σ Φ Ψ:=wT jN (by kernel_rfl) rfl h
def k7:DW:=.of "need_name" "Parser.need_name" (mt 70 12) 296 295 mC 1 ["self"] [] [] [] []
def jJ:TS:=bI (aG .NotEq (xS (xM (xL 0) "now" a0) (xK (.int 0))) (xK (.int 1))) (bE (xM (xL 0) "fault" (a1 (xK (.int 1001)) (a1 (bG a0) a0))) bN) bN (bR (xC (.ref 119) (a1 (xS (xM (xL 0) "step" a0) (xK (.int 1))) a0)))
theorem jU {x0:V} (h:jJ ⟨b,n,hd,fun _=>Ψ⟩ [some x0] σ (aZ Φ)):TC b (n + 1) hd (.ref 296) [x0] σ Φ Ψ:=wT k7 (by kernel_rfl) rfl h
def qY:DW:=.of "fault" "Parser.fault" (mt 70 13) 303 302 mC 3 ["self", "number", "words"] [] [] [] []
def rL:TS:=bE (xM (xL 0) "fault_at" (a1 (xL 1) (a1 (xS (xM (xL 0) "now" a0) (xK (.int 2))) (a1 (xL 2) a0)))) bN
theorem qF {x0 x1 x2:V} (h:rL ⟨b,n,hd,fun _=>Ψ⟩ [some x0,some x1,some x2] σ (aZ Φ)):TC b (n + 1) hd (.ref 303) [x0,x1,x2] σ Φ Ψ:=wT qY (by kernel_rfl) rfl h
def lX:DW:=.of "fault_at" "Parser.fault_at" (mt 70 14) 310 309 mC 4 ["self", "number", "at", "words"] [] [] [] []
def mA:TS:=bE (xM (bg (xL 0) "diags") "put" (a1 (xL 1) (a1 (xL 2) (a1 (xL 3) a0)))) (bX (xC (.ref 173) (a1 (xL 1) (a1 (xL 2) a0))))
theorem lJ {x0 x1 x2 x3:V} (h:mA ⟨b,n,hd,fun _=>Ψ⟩ [some x0,some x1,some x2,some x3] σ (aZ Φ)):TC b (n + 1) hd (.ref 310) [x0,x1,x2,x3] σ Φ Ψ:=wT lX (by kernel_rfl) rfl h
def sA:DW:=.of "mark" "Parser.mark" (mt 70 16) 324 323 mC 1 ["self"] [] [] [] []
def sH:TS:=bR (bG (a1 (bg (xL 0) "at") (a1 (xC (.builtin "len") (a1 (bg (bg (xL 0) "diags") "rows") a0)) (a1 (bg (xL 0) "deep") (a1 (bg (xL 0) "in_async") (a1 (bg (xL 0) "owner") a0))))))
theorem sN {x0:V} (h:sH ⟨b,n,hd,fun _=>Ψ⟩ [some x0] σ (aZ Φ)):TC b (n + 1) hd (.ref 324) [x0] σ Φ Ψ:=wT sA (by kernel_rfl) rfl h
def sy:DW:=.of "back" "Parser.back" (mt 70 17) 331 330 mC 2 ["self", "spot", "count"] [] [] [] []
def sx:TS:=HX [.at_ (xL 0) "at", .nm 2,.at_ (xL 0) "deep", .at_ (xL 0) "in_async", .at_ (xL 0) "owner"] (xL 1) (bE (xM (bg (xL 0) "diags") "cut" (a1 (xL 2) a0)) bN)
theorem tJ {x0 x1:V} (h:sx ⟨b,n,hd,fun _=>Ψ⟩ [some x0,some x1,none] σ (aZ Φ)):TC b (n + 1) hd (.ref 331) [x0,x1] σ Φ Ψ:=wT sy (by kernel_rfl) rfl h
def sF:DW:=.of "part" "Parser.part" (mt 70 18) 338 337 mC 2 ["self", "n"] [] [] [] []
def t7:TS:=bR (xC (.ref 352) (a1 (xL 0) (a1 (xL 1) a0)))
theorem tX {x0 x1:V} (h:t7 ⟨b,n,hd,fun _=>Ψ⟩ [some x0,some x1] σ (aZ Φ)):TC b (n + 1) hd (.ref 338) [x0,x1] σ Φ Ψ:=wT sF (by kernel_rfl) rfl h
def xy:DW:=.of "read_part" "read_part" (nth top 71) 352 351 mC 2 ["p", "n", "node"] [] [] [] []
def xf:TS:=bI (aG .NotIn (xL 1) (bg (xL 0) "parts")) (bX xF) bN (NU (xL 0) "deep" .Add (xK (.int 1)) (bI (aG .Gt (bg (xL 0) "deep") (xK (.int 40))) (bX (xC (.ref 149) (a1 (xK (.str "parts")) (a1 (xS (xM (xL 0) "now" a0) (xK (.int 2))) a0)))) bN (bA 2 (xM (xS (bg (xL 0) "parts") (xL 1)) "parse" (a1 (xL 0) a0)) (NU (xL 0) "deep" .Sub (xK (.int 1)) (bR (xL 2))))))
theorem xU {x0 x1:V} (h:xf ⟨b,n,hd,fun _=>Ψ⟩ [some x0,some x1,none] σ (aZ Φ)):TC b (n + 1) hd (.ref 352) [x0,x1] σ Φ Ψ:=wT xy (by kernel_rfl) rfl h
def Ah:DW:=.of "is_token" "is_token" (nth top 72) 359 358 mC 3 ["token", "sort", "text"] [] [] [] []
def zT:TS:=bR (MJ (wG (aG .Eq (xS (xL 0) (xK (.int 0))) (xL 1))) (wG (aG .Eq (xS (xL 0) (xK (.int 1))) (xL 2))))
theorem AR {x0 x1 x2:V} (h:zT ⟨b,n,hd,fun _=>Ψ⟩ [some x0,some x1,some x2] σ (aZ Φ)):TC b (n + 1) hd (.ref 359) [x0,x1,x2] σ Φ Ψ:=wT Ah (by kernel_rfl) rfl h
def xn:DW:=.of "eat_token" "eat_token" (nth top 73) 366 365 mC 3 ["p", "sort", "text"] [] [] [] []
def yp:TS:=bI (GO (xT (xC (.ref 359) (a1 (xM (xL 0) "now" a0) (a1 (xL 1) (a1 (xL 2) a0)))))) (bR (xK (.bool false))) bN (bE (xM (xL 0) "step" a0) (bR (xK (.bool true))))
theorem wK {x0 x1 x2:V} (h:yp ⟨b,n,hd,fun _=>Ψ⟩ [some x0,some x1,some x2] σ (aZ Φ)):TC b (n + 1) hd (.ref 366) [x0,x1,x2] σ Φ Ψ:=wT xn (by kernel_rfl) rfl h
def wN:DW:=.of "need_sign" "need_sign" (nth top 74) 373 372 mC 2 ["p", "text"] [] [] [] []
def wR:TS:=bI (xT (xC (.ref 366) (a1 (xL 0) (a1 (xK (.int 6)) (a1 (xL 1) a0))))) Q3 bN (bI (aG .In (xL 1) (xK (.aH bZ cY))) (bE (xM (xL 0) "fault" (a1 (xS (xK (.aH bZ cY)) (xL 1)) (a1 (bG a0) a0))) bN) bN (bE (xM (xL 0) "fault" (a1 (xK (.int 1003)) (a1 (bG (a1 (xL 1) a0)) a0))) bN))
theorem oW {x0 x1:V} (h:wR ⟨b,n,hd,fun _=>Ψ⟩ [some x0,some x1] σ (aZ Φ)):TC b (n + 1) hd (.ref 373) [x0,x1] σ Φ Ψ:=wT wN (by kernel_rfl) rfl h
def uN:DW:=.of "sign_ahead" "sign_ahead" (nth top 76) 380 379 mC 3 ["p", "n", "text"] [] [] [] []
def wb:TS:=bR (xC (.ref 359) (a1 (xM (xL 0) "ahead" (a1 (xL 1) a0)) (a1 (xK (.int 6)) (a1 (xL 2) a0))))
theorem w5 {x0 x1 x2:V} (h:wb ⟨b,n,hd,fun _=>Ψ⟩ [some x0,some x1,some x2] σ (aZ Φ)):TC b (n + 1) hd (.ref 380) [x0,x1,x2] σ Φ Ψ:=wT uN (by kernel_rfl) rfl h
def ED:DW:=.of "key_of" "key_of" (nth top 77) 387 386 mC 1 ["token"] [] [] [] []
def GB:TS:=bI (D6 (aG .Eq (xS (xL 0) (xK (.int 0))) (xK (.int 6))) (aG .Eq (xS (xL 0) (xK (.int 0))) (xK (.int 2)))) (bR (xS (xL 0) (xK (.int 1)))) bN (bR (xS (xK (.e9 fj fs)) (xS (xL 0) (xK (.int 0)))))
theorem Gu {x0:V} (h:GB ⟨b,n,hd,fun _=>Ψ⟩ [some x0] σ (aZ Φ)):TC b (n + 1) hd (.ref 387) [x0] σ Φ Ψ:=wT ED (by kernel_rfl) rfl h
def tP:DW:=.of "check_chain" "check_chain" (nth top 79) 401 400 mC 2 ["p", "count"] [] [] [] []
def sZ:TS:=bI (aG .Gt (xL 1) (xK (.int 40))) (bX (xC (.ref 149) (a1 (xK (.str "chain")) (a1 (xS (xM (xL 0) "now" a0) (xK (.int 2))) a0)))) bN bN
theorem jD {x0 x1:V} (h:sZ ⟨b,n,hd,fun _=>Ψ⟩ [some x0,some x1] σ (aZ Φ)):TC b (n + 1) hd (.ref 401) [x0,x1] σ Φ Ψ:=wT tP (by kernel_rfl) rfl h
def mR:DW:=.of "parse" "TypePart.parse" (mt 86 0) 422 421 mY 2 ["self", "p"] [] [] [] []
def nQ:TS:=bR (xC (.ref 441) (a1 (xL 1) (a1 (xK (.bool false)) a0)))
theorem fW {x0 x1:V} (h:nQ ⟨b,n,hd,fun _=>Ψ⟩ [some x0,some x1] σ (aZ Φ)):TC b (n + 1) hd (.ref 422) [x0,x1] σ Φ Ψ:=wT mR (by kernel_rfl) rfl h
def pF:DW:=.of "install_types" "install_types" (nth top 87) 434 433 mY 1 ["p"] [] [] [] []
def oZ:TS:=fE (bg (xL 0) "parts") (xK (.int 1)) (xC (.ref 425) a0) bN
theorem pT {x0:V} (h:oZ ⟨b,n,hd,fun _=>Ψ⟩ [some x0] σ (aZ Φ)):TC b (n + 1) hd (.ref 434) [x0] σ Φ Ψ:=wT pF (by kernel_rfl) rfl h
def yc:DW:=.of "read_type" "read_type" (nth top 88) 441 440 mY 2 ["p", "bar"] [] [] [] []
def yB:TS:=bR (xC (.ref 462) (a1 (xL 0) (a1 (xC (.ref 448) (a1 (xL 0) a0)) (a1 (xL 1) a0))))
theorem oR {x0 x1:V} (h:yB ⟨b,n,hd,fun _=>Ψ⟩ [some x0,some x1] σ (aZ Φ)):TC b (n + 1) hd (.ref 441) [x0,x1] σ Φ Ψ:=wT yc (by kernel_rfl) rfl h
def lM:DW:=.of "read_plain_type" "read_plain_type" (nth top 89) 448 447 mY 1 ["p", "token", "kids"] [] [] [] []
def lG:TS:=bA 1 (xM (xL 0) "now" a0) (bI (aG .Eq (xS (xL 1) (xK (.int 0))) (xK (.int 2))) (bR (xC (.ref 455) (a1 (xL 0) a0))) bN (bI (aG .NotEq (xS (xL 1) (xK (.int 0))) (xK (.int 1))) (bE (xM (xL 0) "fault" (a1 (xK (.int 1031)) (a1 (bG a0) a0))) bN) bN (bE (xM (xL 0) "step" a0) (bA 2 (cP a0) (bI (xT (xM (xL 0) "is_sign" (a1 (xK (.str "<")) a0))) (bA 2 (xC (.ref 469) (a1 (xL 0) a0)) bN) bN (bR (xC (.ref 98) (a1 (xK (.int 40)) (a1 (xS (xL 1) (xK (.int 1))) (a1 (xL 2) (a1 (xS (xL 1) (xK (.int 2))) a0)))))))))))
theorem dk {x0:V} (h:lG ⟨b,n,hd,fun _=>Ψ⟩ [some x0,none,none] σ (aZ Φ)):TC b (n + 1) hd (.ref 448) [x0] σ Φ Ψ:=wT lM (by kernel_rfl) rfl h
def pW:DW:=.of "read_key_type" "read_key_type" (nth top 90) 455 454 mY 1 ["p", "token"] [] [] [] []
def pY:TS:=bA 1 (xM (xL 0) "now" a0) (bI (aG .In (xS (xL 1) (xK (.int 1))) (xK (.aH fx fq))) (bE (xM (xL 0) "left_out" (a1 (xK (.str "real")) a0)) bN) bN (bI (aG .Eq (xS (xL 1) (xK (.int 1))) (xK (.str "void"))) (bE (xM (xL 0) "fault" (a1 (xK (.int 1547)) (a1 (bG a0) a0))) bN) bN (bI (aG .NotIn (xS (xL 1) (xK (.int 1))) (xK (.aH aP de))) (bE (xM (xL 0) "fault" (a1 (xK (.int 1031)) (a1 (bG a0) a0))) bN) bN (bE (xM (xL 0) "step" a0) (bR (xC (.ref 91) (a1 (xK (.int 40)) (a1 (xS (xL 1) (xK (.int 1))) (a1 (xS (xL 1) (xK (.int 2))) a0)))))))))
theorem p6 {x0:V} (h:pY ⟨b,n,hd,fun _=>Ψ⟩ [some x0,none] σ (aZ Φ)):TC b (n + 1) hd (.ref 455) [x0] σ Φ Ψ:=wT pW (by kernel_rfl) rfl h
def jt:TS:=bU 3 .Add (xK (.int 1)) (bE (xC (.ref 401) (a1 (xL 0) (a1 (xL 3) a0))) (bI (qx (xT (xM (xL 0) "is_sign" (a1 (xK (.str "[")) a0))) (xT (xC (.ref 380) (a1 (xL 0) (a1 (xK (.int 1)) (a1 (xK (.str "]")) a0)))))) (bE (xM (xL 0) "step" a0) (bE (xM (xL 0) "step" a0) (bA 1 (xC (.ref 98) (a1 xF (a1 (xK (.str "")) (a1 (cP (a1 (xL 1) a0)) (a1 (bg (xL 1) "at") a0))))) bN))) (bI (qx (xT (xM (xL 0) "is_sign" (a1 (xK (.str "[")) a0))) (xT (xC (.ref 380) (a1 (xL 0) (a1 (xK (.int 1)) (a1 (xK (.str ",")) a0)))))) (bE (xM (xL 0) "left_out" (a1 (xK (.str "[,]")) a0)) bN) (bI (qx (xT (xM (xL 0) "is_sign" (a1 (xK (.str "?")) a0))) (GO (qx (xT (xL 2)) (xT (xC (.ref 504) (a1 (xM (xL 0) "ahead" (a1 (xK (.int 1)) a0)) a0)))))) (bE (xM (xL 0) "step" a0) (bA 1 (xC (.ref 98) (a1 xF (a1 (xK (.str "")) (a1 (cP (a1 (xL 1) a0)) (a1 (bg (xL 1) "at") a0))))) bN)) (bR (xL 1)) bN) bN) bN))
def nS:DW:=.of "read_type_tail" "read_type_tail" (nth top 91) 462 461 mY 3 ["p", "node", "bar", "links"] [] [] [] []
def nW:TS:=bA 3 (xK (.int 0)) (bW (xT (xK (.bool true))) jt bN)
theorem nT {x0 x1 x2:V} (h:nW ⟨b,n,hd,fun _=>Ψ⟩ [some x0,some x1,some x2,none] σ (aZ Φ)):TC b (n + 1) hd (.ref 462) [x0,x1,x2] σ Φ Ψ:=wT nS (by kernel_rfl) rfl h
def jz:TS:=bE (cC (xL 1) "list.append" (a1 (xM (xL 0) "part" (a1 (xK (.int 1)) a0)) a0)) bN
def jw:TS:=bE (xM (xL 0) "need_sign" (a1 (xK (.str ">")) a0)) (bR (xL 1))
def mQ:DW:=.of "read_type_args" "read_type_args" (nth top 92) 469 468 mY 1 ["p", "kids"] [] [] [] []
def ny:TS:=bE (xM (xL 0) "need_sign" (a1 (xK (.str "<")) a0)) (bI (D6 (xT (xM (xL 0) "is_sign" (a1 (xK (.str ">")) a0))) (xT (xM (xL 0) "is_sign" (a1 (xK (.str ",")) a0)))) (bE (xM (xL 0) "left_out" (a1 (xK (.str "open type")) a0)) bN) bN (bA 1 (cP (a1 (xM (xL 0) "part" (a1 (xK (.int 1)) a0)) a0)) (bW (xT (xM (xL 0) "eat_sign" (a1 (xK (.str ",")) a0))) jz jw)))
theorem fX {x0:V} (h:ny ⟨b,n,hd,fun _=>Ψ⟩ [some x0,none] σ (aZ Φ)):TC b (n + 1) hd (.ref 469) [x0] σ Φ Ψ:=wT mQ (by kernel_rfl) rfl h
def A7:DW:=.of "try_type" "try_type" (nth top 94) 483 482 mY 1 ["p", "spot"] [] [] [300] []
def Am:TS:=bA 1 (xM (xL 0) "mark" a0) (bT (bR (xM (xL 0) "part" (a1 (xK (.int 1)) a0))) (hC "BindStop" (bE (xM (xL 0) "back" (a1 (xL 1) a0)) bN)) (bV (bR (xK .none))))
theorem rq {x0:V} (h:Am ⟨b,n,hd,fun _=>Ψ⟩ [some x0,none] σ (aZ Φ)):TC b (n + 1) hd (.ref 483) [x0] σ Φ Ψ:=wT A7 (by kernel_rfl) rfl h
def q7:DW:=.of "try_type_args" "try_type_args" (nth top 95) 490 489 mY 1 ["p", "spot", "at", "kids"] [] [] [310,312] []
def pR:TS:=bA 1 (xM (xL 0) "mark" a0) (bA 2 (xS (xM (xL 0) "now" a0) (xK (.int 2))) (bT (bA 3 (xC (.ref 469) (a1 (xL 0) a0)) (bI (xT xF) (bR (xC (.ref 105) (a1 (xL 3) (a1 (xL 2) a0)))) bN bN)) (hC "BindStop" (bE (xM (xL 0) "back" (a1 (xL 1) a0)) (bV (bR (xK .none))))) (bE (xM (xL 0) "back" (a1 (xL 1) a0)) (bV (bR (xK .none))))))
theorem p7 {x0:V} (h:pR ⟨b,n,hd,fun _=>Ψ⟩ [some x0,none,none,none] σ (aZ Φ)):TC b (n + 1) hd (.ref 490) [x0] σ Φ Ψ:=wT q7 (by kernel_rfl) rfl h
def tg:DW:=.of "starts_expr" "starts_expr" (nth top 97) 504 503 mY 1 ["token"] [] [] [] []
def sC:TS:=bI (aG .Eq (xS (xL 0) (xK (.int 0))) (xK (.int 6))) (bR (wG (aG .In (xS (xL 0) (xK (.int 1))) (xK (.aH cO fe))))) bN (bI (aG .Eq (xS (xL 0) (xK (.int 0))) (xK (.int 2))) (bR (wG (aG .In (xS (xL 0) (xK (.int 1))) (xK (.aH dH fy))))) bN (bR (wG (aG .In (xS (xL 0) (xK (.int 0))) (bG (a1 (xK (.int 1)) (a1 (xK (.int 3)) (a1 (xK (.int 4)) (a1 (xK (.int 5)) a0)))))))))
theorem sT {x0:V} (h:sC ⟨b,n,hd,fun _=>Ψ⟩ [some x0] σ (aZ Φ)):TC b (n + 1) hd (.ref 504) [x0] σ Φ Ψ:=wT tg (by kernel_rfl) rfl h
def rX:DW:=.of "is_sure_type" "is_sure_type" (nth top 98) 511 510 mY 1 ["node"] [] [] [] []
def rJ:TS:=bR (Q0 (wG (aG .NotEq (bg (xL 0) "kind") (xK (.int 40)))) (wG (aG .In (bg (xL 0) "a") (xK (.aH aP de)))))
theorem qB {x0:V} (h:rJ ⟨b,n,hd,fun _=>Ψ⟩ [some x0] σ (aZ Φ)):TC b (n + 1) hd (.ref 511) [x0] σ Φ Ψ:=wT rX (by kernel_rfl) rfl h
def nc:DW:=.of "parse" "ExprPart.parse" (mt 108 0) 572 571 mE 2 ["self", "p"] [] [] [] []
def nE:TS:=bR (xC (.ref 603) (a1 (xL 1) a0))
theorem gb {x0 x1:V} (h:nE ⟨b,n,hd,fun _=>Ψ⟩ [some x0,some x1] σ (aZ Φ)):TC b (n + 1) hd (.ref 572) [x0,x1] σ Φ Ψ:=wT nc (by kernel_rfl) rfl h
def ni:DW:=.of "parse" "ArgsPart.parse" (mt 109 0) 591 590 mE 2 ["self", "p"] [] [] [] []
def mU:TS:=bR (xC (.ref 945) (a1 (xL 1) (a1 (xK (.str "(")) (a1 (xK (.str ")")) a0))))
theorem nh {x0 x1:V} (h:mU ⟨b,n,hd,fun _=>Ψ⟩ [some x0,some x1] σ (aZ Φ)):TC b (n + 1) hd (.ref 591) [x0,x1] σ Φ Ψ:=wT ni (by kernel_rfl) rfl h
def xv:DW:=.of "read_expr" "read_expr" (nth top 110) 603 602 mE 1 ["p", "node", "sign", "count", "value"] [] [] [] []
def zd:TS:=bI (aG .In (xK (.str "=>")) (bg (xL 0) "firsts")) (bA 1 (xM (xS (bg (xL 0) "firsts") (xK (.str "=>"))) "take" (a1 (xL 0) a0)) (bI (aG .IsNot (xL 1) (xK .none)) (bR (xL 1)) bN bN)) bN (bA 1 (xC (.ref 638) (a1 (xL 0) a0)) (bI (xT (xM (xL 0) "is_sign" (a1 (xK (.str "?")) a0))) (bR (xC (.ref 610) (a1 (xL 0) (a1 (xL 1) a0)))) bN (HX [.nm 2,.nm 3] (xC (.ref 617) (a1 (xL 0) a0)) (bI (aG .In (xL 2) (xK (.aH ak cV))) (bE (xC (.ref 631) (a1 (xL 0) (a1 (xL 3) a0))) (bA 4 (xM (xL 0) "part" (a1 (xK (.int 2)) a0)) (bR (xC (.ref 98) (a1 (xK (.int 23)) (a1 (xL 2) (a1 (cP (a1 (xL 1) (a1 (xL 4) a0))) (a1 (bg (xL 1) "at") a0)))))))) bN (bR (xL 1))))))
theorem y5 {x0:V} (h:zd ⟨b,n,hd,fun _=>Ψ⟩ [some x0,none,none,none,none] σ (aZ Φ)):TC b (n + 1) hd (.ref 603) [x0] σ Φ Ψ:=wT xv (by kernel_rfl) rfl h
def tR:DW:=.of "read_choice" "read_choice" (nth top 111) 610 609 mE 2 ["p", "test", "yes", "no"] [] [] [] []
def sW:TS:=bE (xM (xL 0) "step" a0) (bA 2 (xM (xL 0) "part" (a1 (xK (.int 2)) a0)) (bE (xM (xL 0) "need_sign" (a1 (xK (.str ":")) a0)) (bA 3 (xM (xL 0) "part" (a1 (xK (.int 2)) a0)) (bR (xC (.ref 98) (a1 (xK (.int 22)) (a1 (xK (.str "")) (a1 (cP (a1 (xL 1) (a1 (xL 2) (a1 (xL 3) a0)))) (a1 (bg (xL 1) "at") a0)))))))))
theorem jG {x0 x1:V} (h:sW ⟨b,n,hd,fun _=>Ψ⟩ [some x0,some x1,none,none] σ (aZ Φ)):TC b (n + 1) hd (.ref 610) [x0,x1] σ Φ Ψ:=wT tR (by kernel_rfl) rfl h
def y3:DW:=.of "sign_here" "sign_here" (nth top 112) 617 616 mE 1 ["p", "token", "behind"] [] [] [] []
def yz:TS:=bA 1 (xM (xL 0) "now" a0) (bI (aG .NotEq (xS (xL 1) (xK (.int 0))) (xK (.int 6))) (bR (bG (a1 (xK (.str "")) (a1 (xK (.int 0)) a0)))) bN (bI (aG .Eq (xS (xL 1) (xK (.int 1))) (xK (.str ">"))) (bA 2 (xM (xL 0) "ahead" (a1 (xK (.int 1)) a0)) (bI (qx (aG .Eq (xS (xL 2) (xK (.int 0))) (xK (.int 6))) (qx (aG .Eq (xS (xL 2) (xK (.int 2))) (xB .Add (xS (xL 1) (xK (.int 2))) (xK (.int 1)))) (aG .In (xS (xL 2) (xK (.int 1))) (bG (a1 (xK (.str ">")) (a1 (xK (.str ">=")) a0)))))) (bR (bG (a1 (xB .Add (xK (.str ">")) (xS (xL 2) (xK (.int 1)))) (a1 (xK (.int 2)) a0)))) bN bN)) bN (bR (bG (a1 (xS (xL 1) (xK (.int 1))) (a1 (xK (.int 1)) a0))))))
theorem xc {x0:V} (h:yz ⟨b,n,hd,fun _=>Ψ⟩ [some x0,none,none] σ (aZ Φ)):TC b (n + 1) hd (.ref 617) [x0] σ Φ Ψ:=wT y3 (by kernel_rfl) rfl h
def pe:DW:=.of "operator_here" "operator_here" (nth top 113) 624 623 mE 1 ["p", "token"] [] [] [] []
def pJ:TS:=bA 1 (xM (xL 0) "now" a0) (bI (aG .Eq (xS (xL 1) (xK (.int 0))) (xK (.int 2))) (bR (bG (a1 (xS (xL 1) (xK (.int 1))) (a1 (xK (.int 1)) a0)))) bN (bR (xC (.ref 617) (a1 (xL 0) a0))))
theorem p9 {x0:V} (h:pJ ⟨b,n,hd,fun _=>Ψ⟩ [some x0,none] σ (aZ Φ)):TC b (n + 1) hd (.ref 624) [x0] σ Φ Ψ:=wT pe (by kernel_rfl) rfl h
def nV:TS:=bE (xM (xL 0) "step" a0) (bU 1 .Sub (xK (.int 1)) bN)
def sY:DW:=.of "pass_tokens" "pass_tokens" (nth top 114) 631 630 mE 2 ["p", "count"] [] [] [] []
def tC:TS:=bW (aG .Gt (xL 1) (xK (.int 0))) nV bN
theorem sP {x0 x1:V} (h:tC ⟨b,n,hd,fun _=>Ψ⟩ [some x0,some x1] σ (aZ Φ)):TC b (n + 1) hd (.ref 631) [x0,x1] σ Φ Ψ:=wT sY (by kernel_rfl) rfl h
def fK:TS:=bE (xC (.ref 652) (a1 (xL 1) (a1 (cC (xL 2) "list.pop" a0) a0))) bN
def bw:TS:=bI (aG .Eq (xL 6) (xK (.int 0))) (bR (xS (xL 1) (xK (.int 0)))) bN (bU 3 .Add (xK (.int 1)) (bE (xC (.ref 401) (a1 (xL 0) (a1 (xL 3) a0))) (bE (xC (.ref 631) (a1 (xL 0) (a1 (xL 5) a0))) (bI (aG .Eq (xL 4) (xK (.str "is"))) (fE (xL 1) (xN (xK (.int 1))) (xC (.ref 659) (a1 (xL 0) (a1 (xS (xL 1) (xN (xK (.int 1)))) a0))) bN) (bI (aG .Eq (xL 4) (xK (.str "as"))) (bA 7 (xC (.ref 441) (a1 (xL 0) (a1 (xK (.bool true)) a0))) (fE (xL 1) (xN (xK (.int 1))) (xC (.ref 98) (a1 (xK (.int 26)) (a1 (xK (.str "")) (a1 (cP (a1 (xS (xL 1) (xN (xK (.int 1)))) (a1 (xL 7) a0))) (a1 (bg (xS (xL 1) (xN (xK (.int 1)))) "at") a0))))) bN)) (bE (cC (xL 2) "list.append" (a1 (xL 4) a0)) (bE (cC (xL 1) "list.append" (a1 (xC (.ref 666) (a1 (xL 0) a0)) a0)) bN)) bN) bN))))
def dE:TS:=HX [.nm 4,.nm 5] (xC (.ref 624) (a1 (xL 0) a0)) (bA 6 (Qh (xK (.aH aa bj)) (a1 (xL 4) (a1 (xK (.int 0)) a0))) (bW (qx (xT (xL 2)) (xT (xC (.ref 645) (a1 (xS (xL 2) (xN (xK (.int 1)))) (a1 (xL 6) a0))))) fK bw))
def tU:DW:=.of "read_binary" "read_binary" (nth top 115) 638 637 mE 1 ["p", "nodes", "signs", "links", "word", "count", "power", "kind"] [] [(389,12),(390,12)] [] []
def tq:TS:=bA 1 (ko (a1 (xC (.ref 666) (a1 (xL 0) a0)) a0)) (bA 2 (ko a0) (bA 3 (xK (.int 0)) (bW (xT (xK (.bool true))) dE bN)))
theorem jE {x0:V} (h:tq ⟨b,n,hd,fun _=>Ψ⟩ [some x0,none,none,none,none,none,none,none] σ (aZ Φ)):TC b (n + 1) hd (.ref 638) [x0] σ Φ Ψ:=wT tU (by kernel_rfl) rfl h
def tH:DW:=.of "binds_first" "binds_first" (nth top 116) 645 644 mE 2 ["sign", "power", "held"] [] [] [] []
def tA:TS:=bA 2 (xS (xK (.aH aa bj)) (xL 0)) (bI (aG .Eq (xL 2) (xL 1)) (bR (wG (aG .NotEq (xL 2) (xK (.int 1))))) bN (bR (wG (aG .Gt (xL 2) (xL 1)))))
theorem tD {x0 x1:V} (h:tA ⟨b,n,hd,fun _=>Ψ⟩ [some x0,some x1,none] σ (aZ Φ)):TC b (n + 1) hd (.ref 645) [x0,x1] σ Φ Ψ:=wT tH (by kernel_rfl) rfl h
def y1:DW:=.of "join_last" "join_last" (nth top 117) 652 651 mE 2 ["nodes", "sign", "right", "left", "kind"] [] [] [] []
def xa:TS:=bA 2 (cC (xL 0) "list.pop" a0) (bA 3 (cC (xL 0) "list.pop" a0) (bA 4 (tZ (aG .LtE (xS (xK (.aH aa bj)) (xL 1)) (xK (.int 3))) (xK (.int 21)) (xK (.int 20))) (bE (cC (xL 0) "list.append" (a1 (xC (.ref 98) (a1 (xL 4) (a1 (xL 1) (a1 (cP (a1 (xL 3) (a1 (xL 2) a0))) (a1 (bg (xL 3) "at") a0))))) a0)) bN)))
theorem yV {x0 x1:V} (h:xa ⟨b,n,hd,fun _=>Ψ⟩ [some x0,some x1,none,none,none] σ (aZ Φ)):TC b (n + 1) hd (.ref 652) [x0,x1] σ Φ Ψ:=wT y1 (by kernel_rfl) rfl h
def Cd:DW:=.of "read_is" "read_is" (nth top 118) 659 658 mE 2 ["p", "left", "kind", "name"] [] [] [] []
def CV:TS:=bI (D6 (qx (xT (xM (xL 0) "is_name" (a1 (xK (.str "var")) a0))) (aG .Eq (xS (xM (xL 0) "ahead" (a1 (xK (.int 1)) a0)) (xK (.int 0))) (xK (.int 1)))) (aG .In (xC (.ref 387) (a1 (xM (xL 0) "now" a0) a0)) (xK (.aH cX ed)))) (bE (xM (xL 0) "left_out" (a1 (xK (.str "pattern")) a0)) bN) bN (bA 2 (xC (.ref 441) (a1 (xL 0) (a1 (xK (.bool true)) a0))) (bA 3 (xK (.str "")) (bI (aG .Eq (xS (xM (xL 0) "now" a0) (xK (.int 0))) (xK (.int 1))) (bA 3 (xM (xL 0) "need_name" a0) bN) bN (bR (xC (.ref 98) (a1 (xK (.int 25)) (a1 (xL 3) (a1 (cP (a1 (xL 1) (a1 (xL 2) a0))) (a1 (bg (xL 1) "at") a0)))))))))
theorem D3 {x0 x1:V} (h:CV ⟨b,n,hd,fun _=>Ψ⟩ [some x0,some x1,none,none] σ (aZ Φ)):TC b (n + 1) hd (.ref 659) [x0,x1] σ Φ Ψ:=wT Cd (by kernel_rfl) rfl h
def qc:TS:=bE (cC (xL 1) "list.append" (a1 (xL 2) a0)) (bE (xC (.ref 401) (a1 (xL 0) (a1 (xC (.builtin "len") (a1 (xL 1) a0)) a0))) (bA 2 (xC (.ref 673) (a1 (xL 0) a0)) bN))
def gX:TS:=bA 2 (cC (xL 1) "list.pop" a0) (fE (bg (xL 2) "kids") (xN (xK (.int 1))) (xL 3) (bA 3 (xV (xL 2)) bN))
def gW:TS:=bR (xL 3)
def qg:TS:=bA 3 (xC (.ref 694) (a1 (xL 0) a0)) (bW (xT (xL 1)) gX gW)
def vd:DW:=.of "read_unary" "read_unary" (nth top 119) 666 665 mE 1 ["p", "heads", "head", "node"] [(439,15)] [(429,12)] [] []
def v9:TS:=bA 1 (ko a0) (bA 2 (xC (.ref 673) (a1 (xL 0) a0)) (bW (aG .IsNot (xL 2) (xK .none)) qc qg))
theorem kD {x0:V} (h:v9 ⟨b,n,hd,fun _=>Ψ⟩ [some x0,none,none,none] σ (aZ Φ)):TC b (n + 1) hd (.ref 666) [x0] σ Φ Ψ:=wT vd (by kernel_rfl) rfl h
def t9:DW:=.of "read_prefix" "read_prefix" (nth top 120) 673 672 mE 1 ["p", "token"] [] [(446,56),(451,33)] [] []
def tY:TS:=bA 1 (xM (xL 0) "now" a0) (bI (aG .Eq (xS (xL 1) (xK (.int 0))) (xK (.int 6))) (bI (aG .In (xS (xL 1) (xK (.int 1))) (xK (.aH bb bp))) (bE (xM (xL 0) "step" a0) (bR (xC (.ref 98) (a1 (xS (xK (.aH bb bp)) (xS (xL 1) (xK (.int 1)))) (a1 (xS (xL 1) (xK (.int 1))) (a1 (ko (a1 (xK .none) a0)) (a1 (xS (xL 1) (xK (.int 2))) a0))))))) bN (bI (aG .Eq (xS (xL 1) (xK (.int 1))) (xK (.str "("))) (bR (xC (.ref 680) (a1 (xL 0) a0))) bN bN)) (bI (qx (xT (bg (xL 0) "in_async")) (qx (aG .Eq (xS (xL 1) (xK (.int 0))) (xK (.int 1))) (aG .Eq (xS (xL 1) (xK (.int 1))) (xK (.str "await"))))) (bE (xM (xL 0) "step" a0) (bR (xC (.ref 98) (a1 (xK (.int 31)) (a1 (xK (.str "")) (a1 (ko (a1 (xK .none) a0)) (a1 (xS (xL 1) (xK (.int 2))) a0))))))) bN bN) (bR (xK .none)))
theorem dI {x0:V} (h:tY ⟨b,n,hd,fun _=>Ψ⟩ [some x0,none] σ (aZ Φ)):TC b (n + 1) hd (.ref 673) [x0] σ Φ Ψ:=wT t9 (by kernel_rfl) rfl h
def yN:DW:=.of "read_cast" "read_cast" (nth top 121) 680 679 mE 1 ["p", "spot", "at", "kind"] [] [(459,36)] [] []
def yn:TS:=bA 1 (xM (xL 0) "mark" a0) (bA 2 (xS (xM (xL 0) "step" a0) (xK (.int 2))) (bA 3 (xC (.ref 483) (a1 (xL 0) a0)) (bI (qx (aG .IsNot (xL 3) (xK .none)) (xT (xM (xL 0) "eat_sign" (a1 (xK (.str ")")) a0)))) (bI (D6 (xT (xC (.ref 511) (a1 (xL 3) a0))) (xT xF)) (bR (xC (.ref 98) (a1 (xK (.int 24)) (a1 (xK (.str "")) (a1 (ko (a1 (xL 3) (a1 (xK .none) a0))) (a1 (xL 2) a0)))))) bN bN) bN (bE (xM (xL 0) "back" (a1 (xL 1) a0)) (bR (xK .none))))))
theorem oP {x0:V} (h:yn ⟨b,n,hd,fun _=>Ψ⟩ [some x0,none,none,none] σ (aZ Φ)):TC b (n + 1) hd (.ref 680) [x0] σ Φ Ψ:=wT yN (by kernel_rfl) rfl h
def eT:TS:=bA 1 (xC (.ref 387) (a1 (xM (xL 0) "now" a0) a0)) (bI (aG .NotIn (xL 1) (bg (xL 0) "tails")) (bR (xL 2)) bN (bU 3 .Add (xK (.int 1)) (bE (xC (.ref 401) (a1 (xL 0) (a1 (xL 3) a0))) (bA 2 (xM (xS (bg (xL 0) "tails") (xL 1)) "take" (a1 (xL 0) (a1 (xL 2) a0))) bN))))
def rF:DW:=.of "read_primary" "read_primary" (nth top 123) 694 693 mE 1 ["p", "key", "node", "links"] [] [] [] []
def rt:TS:=bA 1 (xC (.ref 387) (a1 (xM (xL 0) "now" a0) a0)) (bI (D6 (aG .NotIn (xL 1) (bg (xL 0) "firsts")) (aG .Eq (xL 1) (xK (.str "=>")))) (bE (xM (xL 0) "fault" (a1 (xK (.int 1525)) (a1 (bG (a1 xF a0)) a0))) bN) bN (bA 2 (xM (xS (bg (xL 0) "firsts") (xL 1)) "take" (a1 (xL 0) a0)) (bA 3 (xK (.int 0)) (bW (xT (xK (.bool true))) eT bN))))
theorem rE {x0:V} (h:rt ⟨b,n,hd,fun _=>Ψ⟩ [some x0,none,none,none] σ (aZ Φ)):TC b (n + 1) hd (.ref 694) [x0] σ Φ Ψ:=wT rF (by kernel_rfl) rfl h
def iJ:DW:=.of "__init__" "ValueLeaf.__init__" (mt 124 0) 708 707 mE 2 ["self", "kind"] [] [] [] []
def iz:TS:=jx (xL 0) "kind" (xL 1) bN
theorem iP {x0 x1:V} (h:iz ⟨b,n,hd,fun _=>Ψ⟩ [some x0,some x1] σ (aZ Φ)):SK b.c (n + 1) hd (.ref 708) [x0,x1] σ Φ Ψ:=wk iJ (by kernel_rfl) rfl h
def mP:DW:=.of "take" "ValueLeaf.take" (mt 124 1) 715 714 mE 2 ["self", "p", "token"] [] [] [] []
def nq:TS:=bA 2 (xM (xL 1) "step" a0) (bR (xC (.ref 91) (a1 (bg (xL 0) "kind") (a1 (xS (xL 2) (xK (.int 1))) (a1 (xS (xL 2) (xK (.int 2))) a0)))))
theorem nC {x0 x1:V} (h:nq ⟨b,n,hd,fun _=>Ψ⟩ [some x0,some x1,none] σ (aZ Φ)):TC b (n + 1) hd (.ref 715) [x0,x1] σ Φ Ψ:=wT mP (by kernel_rfl) rfl h
def ju:DW:=.of "__init__" "WordLeaf.__init__" (mt 125 0) 734 733 mE 2 ["self", "kind"] [] [] [] []
def jv:TS:=jx (xL 0) "kind" (xL 1) bN
theorem jA {x0 x1:V} (h:jv ⟨b,n,hd,fun _=>Ψ⟩ [some x0,some x1] σ (aZ Φ)):SK b.c (n + 1) hd (.ref 734) [x0,x1] σ Φ Ψ:=wk ju (by kernel_rfl) rfl h
def pA:DW:=.of "take" "NameRead.take" (mt 127 0) 779 778 mE 2 ["self", "p", "token"] [] [] [] []
def pH:TS:=bA 2 (xM (xL 1) "step" a0) (bR (xC (.ref 98) (a1 (xK (.int 7)) (a1 (xC (.ref 119) (a1 (xS (xL 2) (xK (.int 1))) a0)) (a1 (cP (a1 (xC (.ref 791) (a1 (xL 1) a0)) a0)) (a1 (xS (xL 2) (xK (.int 2))) a0))))))
theorem qd {x0 x1:V} (h:pH ⟨b,n,hd,fun _=>Ψ⟩ [some x0,some x1,none] σ (aZ Φ)):TC b (n + 1) hd (.ref 779) [x0,x1] σ Φ Ψ:=wT pA (by kernel_rfl) rfl h
def n8:DW:=.of "type_args_here" "type_args_here" (nth top 128) 791 790 mE 1 ["p"] [] [] [] []
def nH:TS:=bI (xT (xM (xL 0) "is_sign" (a1 (xK (.str "<")) a0))) (bR (xC (.ref 490) (a1 (xL 0) a0))) bN (bR (xK .none))
theorem g9 {x0:V} (h:nH ⟨b,n,hd,fun _=>Ψ⟩ [some x0] σ (aZ Φ)):TC b (n + 1) hd (.ref 791) [x0] σ Φ Ψ:=wT n8 (by kernel_rfl) rfl h
def mV:DW:=.of "take" "ParenRead.take" (mt 131 0) 843 842 mE 2 ["self", "p", "at", "node"] [] [] [] []
def o6:TS:=bA 2 (xS (xM (xL 1) "step" a0) (xK (.int 2))) (bA 3 (xM (xL 1) "part" (a1 (xK (.int 2)) a0)) (bE (xM (xL 1) "need_sign" (a1 (xK (.str ")")) a0)) (bR (xC (.ref 98) (a1 (xK (.int 10)) (a1 (xK (.str "")) (a1 (cP (a1 (xL 3) a0)) (a1 (xL 2) a0))))))))
theorem nZ {x0 x1:V} (h:o6 ⟨b,n,hd,fun _=>Ψ⟩ [some x0,some x1,none,none] σ (aZ Φ)):TC b (n + 1) hd (.ref 843) [x0,x1] σ Φ Ψ:=wT mV (by kernel_rfl) rfl h
def qG:TS:=bE (cC (xL 4) "list.append" (a1 (xC (.ref 952) (a1 (xL 0) a0)) a0)) bN
def yY:DW:=.of "read_args" "read_args" (nth top 138) 945 944 mE 3 ["p", "opener", "closer", "at", "args"] [(616,20)] [(610,11)] [] []
def xP:TS:=bA 3 (xS (xM (xL 0) "now" a0) (xK (.int 2))) (bE (xM (xL 0) "need_sign" (a1 (xL 1) a0)) (bA 4 (ko a0) (bI (GO (xT (xM (xL 0) "is_sign" (a1 (xL 2) a0)))) (bE (cC (xL 4) "list.append" (a1 (xC (.ref 952) (a1 (xL 0) a0)) a0)) (bW (xT (xM (xL 0) "eat_sign" (a1 (xK (.str ",")) a0))) qG bN)) bN (bE (xM (xL 0) "need_sign" (a1 (xL 2) a0)) (bR (xC (.ref 105) (a1 (xV (xL 4)) (a1 (xL 3) a0))))))))
theorem oO {x0 x1 x2:V} (h:xP ⟨b,n,hd,fun _=>Ψ⟩ [some x0,some x1,some x2,none,none] σ (aZ Φ)):TC b (n + 1) hd (.ref 945) [x0,x1,x2] σ Φ Ψ:=wT yY (by kernel_rfl) rfl h
def Ax:DW:=.of "read_arg" "read_arg" (nth top 139) 952 951 mE 1 ["p", "at", "mode"] [] [] [] []
def zx:TS:=bA 1 (xS (xM (xL 0) "now" a0) (xK (.int 2))) (bI (qx (aG .Eq (xS (xM (xL 0) "now" a0) (xK (.int 0))) (xK (.int 1))) (xT (xC (.ref 380) (a1 (xL 0) (a1 (xK (.int 1)) (a1 (xK (.str ":")) a0)))))) (bE (xM (xL 0) "left_out" (a1 (xK (.str "named argument")) a0)) bN) bN (bA 2 (xK (.str "")) (bI (D6 (xT (xM (xL 0) "is_word" (a1 (xK (.str "ref")) a0))) (xT (xM (xL 0) "is_word" (a1 (xK (.str "out")) a0)))) (bA 2 (xS (xM (xL 0) "step" a0) (xK (.int 1))) bN) bN (bI (qx (aG .Eq (xL 2) (xK (.str "out"))) (xT xF)) (bE (xM (xL 0) "left_out" (a1 (xK (.str "out var")) a0)) bN) bN (bR (xC (.ref 98) (a1 (xK (.int 13)) (a1 (xL 2) (a1 (cP (a1 (xM (xL 0) "part" (a1 (xK (.int 2)) a0)) a0)) (a1 (xL 1) a0))))))))))
theorem AI {x0:V} (h:zx ⟨b,n,hd,fun _=>Ψ⟩ [some x0,none,none] σ (aZ Φ)):TC b (n + 1) hd (.ref 952) [x0] σ Φ Ψ:=wT Ax (by kernel_rfl) rfl h
def lW:DW:=.of "take" "MemberTail.take" (mt 141 0) 973 972 mE 3 ["self", "p", "left", "name"] [] [] [] []
def mn:TS:=bE (xM (xL 1) "step" a0) (bA 3 (xM (xL 1) "need_name" a0) (bR (xC (.ref 98) (a1 (xK (.int 11)) (a1 (xL 3) (a1 (cP (a1 (xL 2) (a1 (xC (.ref 791) (a1 (xL 1) a0)) a0))) (a1 (bg (xL 2) "at") a0)))))))
theorem lE {x0 x1 x2:V} (h:mn ⟨b,n,hd,fun _=>Ψ⟩ [some x0,some x1,some x2,none] σ (aZ Φ)):TC b (n + 1) hd (.ref 973) [x0,x1,x2] σ Φ Ψ:=wT lW (by kernel_rfl) rfl h
def pC:DW:=.of "take" "CallTail.take" (mt 142 0) 992 991 mE 3 ["self", "p", "left"] [] [] [] []
def pU:TS:=bR (xC (.ref 98) (a1 (xK (.int 12)) (a1 (xK (.str "")) (a1 (cP (a1 (xL 2) (a1 (xM (xL 1) "part" (a1 (xK (.int 7)) a0)) a0))) (a1 (bg (xL 2) "at") a0)))))
theorem pZ {x0 x1 x2:V} (h:pU ⟨b,n,hd,fun _=>Ψ⟩ [some x0,some x1,some x2] σ (aZ Φ)):TC b (n + 1) hd (.ref 992) [x0,x1,x2] σ Φ Ψ:=wT pC (by kernel_rfl) rfl h
def mX:DW:=.of "take" "IndexTail.take" (mt 143 0) 1011 1010 mE 3 ["self", "p", "left"] [] [] [] []
def nj:TS:=bI (xT (xC (.ref 380) (a1 (xL 1) (a1 (xK (.int 1)) (a1 (xK (.str "]")) a0))))) (bE (xM (xL 1) "fault" (a1 (xK (.int 443)) (a1 (bG a0) a0))) bN) bN (bR (xC (.ref 98) (a1 (xK (.int 14)) (a1 (xK (.str "")) (a1 (cP (a1 (xL 2) (a1 (xC (.ref 945) (a1 (xL 1) (a1 (xK (.str "[")) (a1 (xK (.str "]")) a0)))) a0))) (a1 (bg (xL 2) "at") a0))))))
theorem oj {x0 x1 x2:V} (h:nj ⟨b,n,hd,fun _=>Ψ⟩ [some x0,some x1,some x2] σ (aZ Φ)):TC b (n + 1) hd (.ref 1011) [x0,x1,x2] σ Φ Ψ:=wT mX (by kernel_rfl) rfl h
def pV:DW:=.of "take" "PostTail.take" (mt 144 0) 1030 1029 mE 3 ["self", "p", "left"] [] [] [] []
def pz:TS:=bR (xC (.ref 98) (a1 (xK (.int 19)) (a1 (xS (xM (xL 1) "step" a0) (xK (.int 1))) (a1 (cP (a1 (xL 2) a0)) (a1 (bg (xL 2) "at") a0)))))
theorem pQ {x0 x1 x2:V} (h:pz ⟨b,n,hd,fun _=>Ψ⟩ [some x0,some x1,some x2] σ (aZ Φ)):TC b (n + 1) hd (.ref 1030) [x0,x1,x2] σ Φ Ψ:=wT pV (by kernel_rfl) rfl h
def kz:DW:=.of "take" "LambdaRead.take" (mt 146 0) 1068 1067 mE 2 ["self", "p"] [] [] [] []
def lU:TS:=bR (xC (.ref 1080) (a1 (xL 1) a0))
theorem lP {x0 x1:V} (h:lU ⟨b,n,hd,fun _=>Ψ⟩ [some x0,some x1] σ (aZ Φ)):TC b (n + 1) hd (.ref 1068) [x0,x1] σ Φ Ψ:=wT kz (by kernel_rfl) rfl h
def sE:DW:=.of "read_lambda" "read_lambda" (nth top 147) 1080 1079 mE 1 ["p", "at", "mods", "params", "was", "body"] [] [] [] []
def su:TS:=bA 1 (xS (xM (xL 0) "now" a0) (xK (.int 2))) (bA 2 (xK (.int 0)) (bI (qx (xT (xM (xL 0) "is_name" (a1 (xK (.str "async")) a0))) (xT (xC (.ref 1087) (a1 (xL 0) (a1 (xK (.int 1)) a0))))) (bE (xM (xL 0) "step" a0) (bA 2 xF bN)) (bI (GO (xT (xC (.ref 1087) (a1 (xL 0) (a1 (xK (.int 0)) a0))))) (bR (xK .none)) bN bN) (bA 3 xF (bE (xM (xL 0) "need_sign" (a1 (xK (.str "=>")) a0)) (bA 4 (bg (xL 0) "in_async") (jx (xL 0) "in_async" (wG (aG .NotEq (xL 2) (xK (.int 0)))) (bA 5 (xM (xL 0) "part" (a1 (tZ (xT (xM (xL 0) "is_sign" (a1 (xK (.str "{")) a0))) xF (xK (.int 2))) a0)) (jx (xL 0) "in_async" (xL 4) (bR xF)))))))))
theorem tI {x0:V} (h:su ⟨b,n,hd,fun _=>Ψ⟩ [some x0,none,none,none,none,none] σ (aZ Φ)):TC b (n + 1) hd (.ref 1080) [x0] σ Φ Ψ:=wT sE (by kernel_rfl) rfl h
def o9:TS:=bA 2 (xM (xL 0) "ahead" (a1 (xL 1) a0)) (bI (qx (aG .NotEq (xS (xL 2) (xK (.int 0))) (xK (.int 1))) (qx (aG .NotEq (xS (xL 2) (xK (.int 0))) (xK (.int 2))) (GO (xT (xC (.ref 1094) (a1 (xL 2) a0)))))) (bR (xK (.bool false))) bN (bU 1 .Add (xK (.int 1)) bN))
def nR:TS:=bR (xC (.ref 380) (a1 (xL 0) (a1 (xB .Add (xL 1) (xK (.int 1))) (a1 (xK (.str "=>")) a0))))
def tK:DW:=.of "lambda_head" "lambda_head" (nth top 148) 1087 1086 mE 2 ["p", "n", "token"] [] [] [] []
def tf:TS:=bA 2 (xM (xL 0) "ahead" (a1 (xL 1) a0)) (bI (aG .Eq (xS (xL 2) (xK (.int 0))) (xK (.int 1))) (bR (xC (.ref 380) (a1 (xL 0) (a1 (xB .Add (xL 1) (xK (.int 1))) (a1 (xK (.str "=>")) a0))))) bN (bI (GO (xT (xC (.ref 380) (a1 (xL 0) (a1 (xL 1) (a1 (xK (.str "(")) a0)))))) (bR (xK (.bool false))) bN (bU 1 .Add (xK (.int 1)) (bW (GO (xT (xC (.ref 380) (a1 (xL 0) (a1 (xL 1) (a1 (xK (.str ")")) a0)))))) o9 nR))))
theorem sQ {x0 x1:V} (h:tf ⟨b,n,hd,fun _=>Ψ⟩ [some x0,some x1,none] σ (aZ Φ)):TC b (n + 1) hd (.ref 1087) [x0,x1] σ Φ Ψ:=wT tK (by kernel_rfl) rfl h
def xh:DW:=.of "in_params" "in_params" (nth top 149) 1094 1093 mE 1 ["token"] [] [] [] []
def ye:TS:=bR (MJ (wG (aG .Eq (xS (xL 0) (xK (.int 0))) (xK (.int 6)))) (wG (aG .In (xS (xL 0) (xK (.int 1))) (bG (a1 (xK (.str ",")) (a1 (xK (.str "<")) (a1 (xK (.str ">")) (a1 (xK (.str "[")) (a1 (xK (.str "]")) (a1 (xK (.str "?")) a0))))))))))
theorem xi {x0:V} (h:ye ⟨b,n,hd,fun _=>Ψ⟩ [some x0] σ (aZ Φ)):TC b (n + 1) hd (.ref 1094) [x0] σ Φ Ψ:=wT xh (by kernel_rfl) rfl h
def iy:DW:=.of "install_p_literals" "install_p_literals" (nth top 152) 1115 1114 mE 1 ["p"] [] [] [] []
def iN:TS:=fE (bg (xL 0) "firsts") (xK (.str "#int")) (xC (.ref 718) (a1 (xK (.int 1)) a0)) (fE (bg (xL 0) "firsts") (xK (.str "#text")) (xC (.ref 718) (a1 (xK (.int 2)) a0)) (fE (bg (xL 0) "firsts") (xK (.str "#char")) (xC (.ref 718) (a1 (xK (.int 3)) a0)) (fE (bg (xL 0) "firsts") (xK (.str "true")) (xC (.ref 744) (a1 (xK (.int 4)) a0)) (fE (bg (xL 0) "firsts") (xK (.str "false")) (xC (.ref 744) (a1 (xK (.int 5)) a0)) (fE (bg (xL 0) "firsts") (xK (.str "null")) (xC (.ref 744) (a1 (xK (.int 6)) a0)) bN)))))
theorem iB {x0:V} (h:iN ⟨b,n,hd,fun _=>Ψ⟩ [some x0] σ (aZ Φ)):TC b (n + 1) hd (.ref 1115) [x0] σ Φ Ψ:=wT iy (by kernel_rfl) rfl h
def j5:TS:=fE (bg (xL 0) "firsts") (xL 1) (xC (.ref 827) a0) bN
def kY:DW:=.of "install_p_names" "install_p_names" (nth top 153) 1122 1121 mE 1 ["p", "word"] [] [] [] []
def kT:TS:=fE (bg (xL 0) "firsts") (xK (.str "#name")) (xC (.ref 782) a0) (fE (bg (xL 0) "firsts") (xK (.str "this")) (xC (.ref 744) (a1 (xK (.int 8)) a0)) (fE (bg (xL 0) "firsts") (xK (.str "base")) (xC (.ref 808) a0) (fE (bg (xL 0) "firsts") (xK (.str "(")) (xC (.ref 846) a0) (bF 1 (xK (.aH aP de)) j5 bN))))
theorem kZ {x0:V} (h:kT ⟨b,n,hd,fun _=>Ψ⟩ [some x0,none] σ (aZ Φ)):TC b (n + 1) hd (.ref 1122) [x0] σ Φ Ψ:=wT kY (by kernel_rfl) rfl h
def iG:TS:=fE (bg (xL 0) "firsts") (xL 1) (xC (.ref 763) a0) bN
def kK:DW:=.of "install_p_words" "install_p_words" (nth top 154) 1129 1128 mE 1 ["p", "word"] [] [] [] []
def lR:TS:=fE (bg (xL 0) "firsts") (xK (.str "default")) (xC (.ref 865) a0) (fE (bg (xL 0) "firsts") (xK (.str "typeof")) (xC (.ref 884) a0) (fE (bg (xL 0) "firsts") (xK (.str "checked")) (xC (.ref 903) a0) (fE (bg (xL 0) "firsts") (xK (.str "unchecked")) (xC (.ref 903) a0) (fE (bg (xL 0) "firsts") (xK (.str "new")) (xC (.ref 922) a0) (bF 1 (bG (a1 (xK (.str "delegate")) (a1 (xK (.str "sizeof")) (a1 (xK (.str "stackalloc")) (a1 (xK (.str "float")) (a1 (xK (.str "double")) (a1 (xK (.str "decimal")) a0))))))) iG bN)))))
theorem kP {x0:V} (h:lR ⟨b,n,hd,fun _=>Ψ⟩ [some x0,none] σ (aZ Φ)):TC b (n + 1) hd (.ref 1129) [x0] σ Φ Ψ:=wT kK (by kernel_rfl) rfl h
def mG:DW:=.of "install_p_tails" "install_p_tails" (nth top 155) 1136 1135 mE 1 ["p"] [] [] [] []
def lB:TS:=fE (bg (xL 0) "parts") (xK (.int 7)) (xC (.ref 594) a0) (fE (bg (xL 0) "tails") (xK (.str ".")) (xC (.ref 976) a0) (fE (bg (xL 0) "tails") (xK (.str "(")) (xC (.ref 995) a0) (fE (bg (xL 0) "tails") (xK (.str "[")) (xC (.ref 1014) a0) (fE (bg (xL 0) "tails") (xK (.str "++")) (xC (.ref 1033) a0) (fE (bg (xL 0) "tails") (xK (.str "--")) (xC (.ref 1033) a0) (fE (bg (xL 0) "tails") (xK (.str "?.")) (xC (.ref 1052) a0) bN))))))
theorem m9 {x0:V} (h:lB ⟨b,n,hd,fun _=>Ψ⟩ [some x0] σ (aZ Φ)):TC b (n + 1) hd (.ref 1136) [x0] σ Φ Ψ:=wT mG (by kernel_rfl) rfl h
def pd:DW:=.of "install_exprs" "install_exprs" (nth top 156) 1143 1142 mE 1 ["p"] [] [] [] []
def pn:TS:=fE (bg (xL 0) "parts") (xK (.int 2)) (xC (.ref 575) a0) (bE (xC (.ref 1115) (a1 (xL 0) a0)) (bE (xC (.ref 1122) (a1 (xL 0) a0)) (bE (xC (.ref 1129) (a1 (xL 0) a0)) (bE (xC (.ref 1136) (a1 (xL 0) a0)) (fE (bg (xL 0) "firsts") (xK (.str "=>")) (xC (.ref 1071) a0) bN)))))
theorem p8 {x0:V} (h:pn ⟨b,n,hd,fun _=>Ψ⟩ [some x0] σ (aZ Φ)):TC b (n + 1) hd (.ref 1143) [x0] σ Φ Ψ:=wT pd (by kernel_rfl) rfl h
end
inductive T where
 | sign (x:Str)
 | name (x:Str)
 | word (x:Str)
 | num
 | fin
def T.ctorIdx (x:T):Nat:=x.casesOn (fun _=>0) (fun _=>1) (fun _=>2) 3 4
def T.sort:T→Int
 | .sign _=>6
 | .name _=>1
 | .word _=>2
 | .num=>3
 | .fin=>0
def T.val:T→V
 | .sign x | .name x | .word x=>.str x
 | .num=>.tup [.int 7,.str ""]
 | .fin=>.str ""
def T.txt:T→Str
 | .sign x | .name x | .word x=>x
 | _ => ""
def T.is (t:T) (k:Int) (x:Str):Bool:=t.sort == k && t.txt == x
def bQ (p:T×Int):V:=.tup [.int p.1.sort,p.1.val,.int p.2]
structure b9 where
 ap:Addr
 dp:Addr
 dg:Addr
 dd:Addr
 dr:Addr
 ts:List (T×Int)
 parts:V
 firsts:V
 tails:V
 stmts:V
 members:V
structure c8 where
 i:Nat
 deep:Int
 asy:Bool
 rows:List V
abbrev b8:List Str:=["tokens", "at", "diags", "parts", "firsts", "tails", "stmts", "members", "deep", "in_async", "owner"]
abbrev b9.vals (P:b9) (S:c8):List V:=[.fl (P.ts.map bQ),.int S.i,.ref P.dg,P.parts,P.firsts,P.tails,P.stmts,P.members,.int S.deep,.bool S.asy,.str ""]
structure qp (σ:AH) (P:b9) (S:c8):Prop where
 p:σ P.ap=some (.inst bY P.dp)
 d:σ P.dp=some (.ds b8 (P.vals S))
 g:σ P.dg=some (.inst cy P.dd)
 gd:σ P.dd=some (.ds ["rows"] [.ref P.dr])
 r:σ P.dr=some (.list S.rows)
 len:P.ts.length≤100000
theorem AH.sep {σ:AH} {a b:Addr} {o o':AO} (h:σ a=some o) (h':σ b=some o') (k:Nat.beq o.ctorIdx o'.ctorIdx=false):a≠b:=fun e=>by
 subst e
 cases h.symm.trans h'
 cases (Nat.beq_refl _).symm.trans k
def b9.set (P:b9) (σ:AH) (S:c8):AH:=(σ.upd P.dp (.ds b8 (P.vals S))).upd P.dr (.list S.rows)
section
variable {c:Cx} {n:Nat} {hd:Option Addr} {σ:AH} {Ψ:Addr→AH→Prop} {P:b9} {S S':c8}
theorem qp.ne (h:qp σ P S):P.dp≠P.dr∧P.ap≠P.dp∧P.ap≠P.dr∧P.dg≠P.dp∧P.dg≠P.dr∧P.dd≠P.dp∧P.dd≠P.dr:=by
 refine ⟨AH.sep h.d h.r rfl,AH.sep h.p h.d rfl,AH.sep h.p h.r rfl,AH.sep h.g h.d rfl,AH.sep h.g h.r rfl,fun e=>?_,AH.sep h.gd h.r rfl⟩
 have:=Option.some.inj ((e ▸ h.gd.symm:_=σ P.dp).trans h.d)
 injection this with q1 q2
 cases q1
theorem qp.set (h:qp σ P S) (S':c8):qp (P.set σ S') P S':=by
 obtain ⟨n1,n2,n3,n4,n5,n6,n7⟩:=h.ne
 unfold b9.set
 refine ⟨?_,?_,?_,?_,AH.a9 ..,h.len⟩
 ·rw [AH.a8 _ _ n3,AH.a8 _ _ n2]; exact h.p
 ·rw [AH.a8 _ _ n1,AH.a9]
 ·rw [AH.a8 _ _ n5,AH.a8 _ _ n4]; exact h.g
 ·rw [AH.a8 _ _ n7,AH.a8 _ _ n6]; exact h.gd
theorem qp.gc (h:qp σ P S):P.set σ S=σ:=by
 unfold b9.set
 rw [AH.fV h.d,AH.fV h.r]
inductive PG (P:b9) (σ:AH):Prop
 | mk {S:c8}:qp σ P S→PG P σ
theorem PG.at (h:PG P σ) (S:c8):qp (P.set σ S) P S:=by cases h with | mk h=>exact h.set S
theorem PG.ne (h:PG P σ):P.dp≠P.dr:=by cases h with | mk h=>exact h.ne.1
theorem PG.Oc (h:PG P σ) (hr:S'.rows=S.rows):(P.set σ S).upd P.dp (.ds b8 (P.vals S'))=P.set σ S':=by
 unfold b9.set
 rw [AH.aF _ _ _ h.ne.symm,AH.aU,hr]
theorem PG.Jk (h:PG P σ) (rows:List V):(P.set σ S).upd P.dr (.list rows)=P.set σ { S with rows:=rows }:=by
 unfold b9.set
 rw [AH.aU]
theorem PG.len (h:PG P σ):P.ts.length≤100000:=by cases h with | mk h=>exact h.len
theorem PG.fresh (h:PG P σ) {a:Addr} {o:AO} (ha:(P.set σ S) a=none):σ a=none∧(P.set σ S).upd a o=P.set (σ.upd a o) S∧PG P (σ.upd a o):=by
 have H:=h.at S
 have e:∀ {x:Addr} {o:AO},(P.set σ S) x=some o→a≠x:=fun hx e=>by rw [← e,ha] at hx; cases hx
 have hd:=e H.d
 have hr:=e H.r
 refine ⟨?_,?_,?_⟩
 ·unfold b9.set at ha
  rwa [AH.a8 _ _ hr,AH.a8 _ _ hd] at ha
 ·unfold b9.set
  rw [AH.aF _ _ _ hr.symm,AH.aF _ _ _ hd.symm]
 ·cases h with | @mk S0 h=>
  have up:∀ {x:Addr} {o':AO},a≠x→σ x=some o'→(σ.upd a o) x=some o':=fun hx hb=>by rw [AH.a8 _ _ hx.symm]; exact hb
  exact ⟨up (e H.p) h.p,up hd h.d,up (e H.g) h.g,up (e H.gd) h.gd,up hr h.r,h.len⟩
theorem PG.lt (h:PG P σ) {i:Nat} {t:T×Int} (ht:P.ts[i]?=some t):i < P.ts.length:=(List.getElem?_eq_some_iff.mp ht).1
theorem PG.tl (h:PG P σ):(P.ts.map bQ).length≤1000000:=by rw [List.length_map]; have:=h.len; omega
end
theorem eH {q:Bool} {A B:Prop} (h:q=true) (k:A):vy q A B:=by subst h; exact k
theorem aL {q:Bool} {A B:Prop} (h:q=false) (k:B):vy q A B:=by subst h; exact k
theorem ay {q:Bool} {A B:Prop} (h:q=true→A) (k:q=false→B):vy q A B:=by cases q; exact k rfl; exact h rfl
section
variable {i j:Int} {A B:Prop}
theorem QJ (h:¬ j≤i) (k:B):vy (decide (j≤i)) A B:=aL (decide_eq_false h) k
theorem Mk (h:¬ j < i) (k:B):vy (decide (j < i)) A B:=aL (decide_eq_false h) k
theorem KZ (h:j < i) (k:A):vy (decide (j < i)) A B:=eH (decide_eq_true h) k
end
section
variable {b:Bs} {n:Nat} {hd:Option Addr} {σ:AH} {Φ:Pv} {Ψ:Addr→AH→Prop} {P:b9} {S S':c8} {X:XX} {r:Fm} {t:T×Int} {x:Str} {k:Int} {v:V} {Y:Fm→Addr→AH→Prop}
theorem TC.mono {f:Value} {xs:List V} {Φ':Pv} {Ψ':Addr→AH→Prop} (h:TC b n hd f xs σ Φ Ψ) (h1:∀ x σ,Φ x σ→Φ' x σ) (h2:∀ a σ,Ψ a σ→Ψ' a σ):TC b n hd f xs σ Φ' Ψ':=.of (h.sc.mono h1 h2)
theorem TC.ent {f:Value} {xs:List V} (h:TC b n hd f xs σ (GV b.c Φ) Ψ):TC b n hd f xs σ Φ Ψ:=.of (SC.ent h.sc)
theorem vg (h:PG P σ) (ga:bB b.c.K bY x=true) (kv:KV x v b8 (P.vals S)) (nb:∀ id,v≠.bi id) (q:Φ v (P.set σ S)):OG b (.ref P.ap) (P.set σ S) x Φ:=by
 unfold OG; exact ⟨_,.inst (.ref (h.at S).p (h.at S).d) ga kv,nb,q⟩
theorem dC (h:PG P σ) (q:Φ (.fl (P.ts.map bQ)) (P.set σ S)):OG b (.ref P.ap) (P.set σ S) "tokens" Φ:=vg h (nD b.hK) .head (fun _ e=>by cases e) q
theorem ky (h:PG P σ) (q:Φ (.int S.i) (P.set σ S)):OG b (.ref P.ap) (P.set σ S) "at" Φ:=vg h (vV b.hK) (.tail .head) (fun _ e=>by cases e) q
theorem iZ (h:PG P σ) (q:Φ (.ref P.dg) (P.set σ S)):OG b (.ref P.ap) (P.set σ S) "diags" Φ:=vg h (pN b.hK) (.tail (.tail .head)) (fun _ e=>by cases e) q
theorem wH {ks:List Int} {vs:List V} (h:PG P σ) (e:P.parts=.e9 ks vs) (q:Φ (.e9 ks vs) (P.set σ S)):OG b (.ref P.ap) (P.set σ S) "parts" Φ:=by
 rw [← e] at q; exact vg h (i0 b.hK) (.tail (.tail (.tail .head))) (fun _ e'=>by rw [e] at e'; cases e') q
theorem my (h:PG P σ) (q:Φ (.int S.deep) (P.set σ S)):OG b (.ref P.ap) (P.set σ S) "deep" Φ:=vg h (r8 b.hK) (.tail (.tail (.tail (.tail (.tail (.tail (.tail (.tail .head)))))))) (fun _ e=>by cases e) q
theorem vO (h:PG P σ) (q:Φ (.bool S.asy) (P.set σ S)):OG b (.ref P.ap) (P.set σ S) "in_async" Φ:=vg h (kb b.hK) (.tail (.tail (.tail (.tail (.tail (.tail (.tail (.tail (.tail .head))))))))) (fun _ e=>by cases e) q
theorem Ez (h:PG P σ) (q:Φ (.str "") (P.set σ S)):OG b (.ref P.ap) (P.set σ S) "owner" Φ:=vg h (oY b.hK) (.tail (.tail (.tail (.tail (.tail (.tail (.tail (.tail (.tail (.tail .head)))))))))) (fun _ e=>by cases e) q
theorem jn (h:PG P σ) (q:Φ (.ref P.dr) (P.set σ S)):OG b (.ref P.dg) (P.set σ S) "rows" Φ:=by
 unfold OG; exact ⟨_,.inst (.ref (h.at S).g (h.at S).gd) (sR b.hK) .head,(fun _ e=>by cases e),q⟩
theorem CG {C:Addr} {ks:List Str} {vs:List V} {f:Addr} {es:TA} (I:Inst σ v C ks vs) (m:aA X.b.c.K C x f=true) (nm:x∉ks) (q:es X r σ (JB X r (.ref f) v Φ)):OM X r v x es σ Φ:=by
 unfold OM; exact ⟨_,⟨I,m,nm⟩,q⟩
theorem cQ {f:Addr} {es:TA} (h:PG P σ) (m:aA X.b.c.K bY x f=true) (nm:x∉b8) (q:es X r (P.set σ S) (JB X r (.ref f) (.ref P.ap) Φ)):OM X r (.ref P.ap) x es (P.set σ S) Φ:=CG (.ref (h.at S).p (h.at S).d) m nm q
theorem OZ {f:Addr} {es:TA} (h:PG P σ) (m:aA X.b.c.K cy x f=true) (nm:x∉(["rows"]:List Str)) (q:es X r (P.set σ S) (JB X r (.ref f) (.ref P.dg) Φ)):OM X r (.ref P.dg) x es (P.set σ S) Φ:=CG (.ref (h.at S).g (h.at S).gd) m nm q
theorem HZ {k:AH→Prop} (h:PG P σ) (sa:bJ b.c.K bY x=true) (kp:KP x v b8 (P.vals S) (P.vals S')) (hr:S'.rows=S.rows) (q:k (P.set σ S')):OS b (.ref P.ap) (P.set σ S) x v k:=by
 unfold OS; exact ⟨_,_,_,_,_,_,_,rfl,(h.at S).p,(h.at S).d,sa,(show 11≤900 by omega),.old kp,by rw [h.Oc hr]; exact q⟩
theorem Jt {i:Nat} {k:AH→Prop} (h:PG P σ) (q:k (P.set σ { S with i:=i })):OS b (.ref P.ap) (P.set σ S) "at" (.int i) k:=HZ (S':={ S with i:=i }) h (gw b.hK) (.tail .head) rfl q
theorem vb {i:Int} {k:AH→Prop} (h:PG P σ) (q:k (P.set σ { S with deep:=i })):OS b (.ref P.ap) (P.set σ S) "deep" (.int i) k:=HZ (S':={ S with deep:=i }) h (ez b.hK) (.tail (.tail (.tail (.tail (.tail (.tail (.tail (.tail .head)))))))) rfl q
theorem LC {i:Bool} {k:AH→Prop} (h:PG P σ) (q:k (P.set σ { S with asy:=i })):OS b (.ref P.ap) (P.set σ S) "in_async" (.bool i) k:=HZ (S':={ S with asy:=i }) h (d5 b.hK) (.tail (.tail (.tail (.tail (.tail (.tail (.tail (.tail (.tail .head))))))))) rfl q
theorem DG {k:AH→Prop} (h:PG P σ) (q:k (P.set σ S)):OS b (.ref P.ap) (P.set σ S) "owner" (.str "") k:=HZ (S':=S) h (i8 b.hK) (.tail (.tail (.tail (.tail (.tail (.tail (.tail (.tail (.tail (.tail .head)))))))))) rfl q
theorem ij {y w:V} (s:BQ σ v y w) (nt:∀ xs,v≠.tup xs) (q:Φ w σ):tp v y σ Φ:=by
 have:Oh v y σ Φ:=by unfold Oh; exact ⟨w,s,q⟩
 cases v with
 | tup xs=>exact absurd rfl (nt xs)
 | _=>exact this
theorem B8 {xs:List V} {i:Nat} (h:xs[i]?=some v) (hl:xs.length≤1000000) (q:Φ v σ):tp (.fl xs) (.int i) σ Φ:=
 ij (.list .fl (by omega) hl (by rw [Int.toNat_natCast]; exact h)) (fun _ e=>by cases e) q
theorem nG {i:Nat} {τ:AH} (h:PG P σ) (ht:P.ts[i]?=some t) (q:Φ (bQ t) τ):tp (.fl (P.ts.map bQ)) (.int i) τ Φ:=
 B8 (by rw [List.getElem?_map,ht]; rfl) h.tl q
theorem ON {s:Str} {Φ:Bool→AH→Prop} (h:v=.str s) (q:Φ (s == x) σ):PZ v (.str x) σ Φ:=by subst h; exact q
theorem cD {xs:List V} (I:ec σ v xs) (hl:xs.length≤1000000) (q:Φ (.int xs.length) σ):TC b n hd (.builtin "len") [v] σ Φ Ψ:=.of (Ma I hl q)
end
section
variable {b:Bs} {n:Nat} {hd:Option Addr} {σ:AH} {Φ:Pv} {Ψ:Addr→AH→Prop} {P:b9} {S S':c8} {X:XX} {r:Fm} {t:T×Int} {x:Str} {k:Int} {Y:Fm→Addr→AH→Prop}
theorem KS (h:PG P σ) (ht:P.ts[S.i]?=some t) (q:Φ (bQ t) (P.set σ S)):TC b (n + 1) hd (.ref 219) [.ref P.ap] (P.set σ S) Φ Ψ:=wa (dC h (ky h (nG h ht q)))
theorem aY (h:PG P σ) (ht:P.ts[S.i]?=some t) (q:Φ (bQ t) (P.set σ S)):OM ⟨b,n + 1,hd,Y⟩ r (.ref P.ap) "now" a0 (P.set σ S) Φ:=cQ h (wo b.hK) (by decide +kernel) (KS h ht q)
theorem dR (hk:k=1∨k=2∨k=6) (q:Φ (.bool (t.1.is k x)) σ):TC b (n + 1) hd (.ref 359) [bQ t,.int k,.str x] σ Φ Ψ:=by
 refine AR (ay (fun h=>ON (s:=t.1.txt) ?_ ?_) fun h=>?_)
 ·obtain ⟨t,pl⟩:=t
  cases t <;> first | rfl | (simp [T.sort] at h; omega)
 ·unfold T.is at q; rw [h] at q; exact q
 ·unfold T.is at q; rw [h] at q; exact q
theorem jR (h:PG P σ) (ht:P.ts[S.i]?=some t) (q:Φ (.bool (t.1.is 6 x)) (P.set σ S)):TC b (n + 2) hd (.ref 240) [.ref P.ap,.str x] (P.set σ S) Φ Ψ:=mO (dC h (ky h (nG h ht (dR (.inr (.inr rfl)) q))))
theorem rl (h:PG P σ) (ht:P.ts[S.i]?=some t) (q:Φ (.bool (t.1.is 2 x)) (P.set σ S)):TC b (n + 2) hd (.ref 247) [.ref P.ap,.str x] (P.set σ S) Φ Ψ:=oz (dC h (ky h (nG h ht (dR (.inr (.inl rfl)) q))))
theorem ri (h:PG P σ) (ht:P.ts[S.i]?=some t) (q:Φ (.bool (t.1.is 1 x)) (P.set σ S)):TC b (n + 2) hd (.ref 254) [.ref P.ap,.str x] (P.set σ S) Φ Ψ:=nA (dC h (ky h (nG h ht (dR (.inl rfl) q))))
theorem bP (h:PG P σ) (ht:P.ts[S.i]?=some t) (q:Φ (.bool (t.1.is 6 x)) (P.set σ S)):OM ⟨b,n + 2,hd,Y⟩ r (.ref P.ap) "is_sign" (a1 (xK (.str x)) a0) (P.set σ S) Φ:=cQ h (dG b.hK) (by decide +kernel) (jR h ht q)
def c8.qo (S:c8) (t:T×Int):c8:=if t.1.sort=0 then S else { S with i:=S.i + 1 }
theorem Ha (h:PG P σ) (ht:P.ts[S.i]?=some t) (q:Φ (bQ t) (P.set σ (S.qo t))):TC b (n + 2) hd (.ref 233) [.ref P.ap] (P.set σ S) Φ Ψ:=by
 refine tG (dC h (ky h (nG h ht (ay (fun e=>ky h (Jt (i:=S.i + 1) h ?_)) fun e=>?_))))
 ·unfold c8.qo at q; rw [if_neg (by simpa using e)] at q; exact q
 ·unfold c8.qo at q; rw [if_pos (by simpa using e)] at q; exact q
theorem OJ (h:PG P σ) (ht:P.ts[S.i]?=some t) (h0:t.1.sort≠0) (q:Φ (bQ t) (P.set σ { S with i:=S.i + 1 })):TC b (n + 2) hd (.ref 233) [.ref P.ap] (P.set σ S) Φ Ψ:=Ha h ht (by unfold c8.qo; rw [if_neg h0]; exact q)
theorem bt (h:PG P σ) (ht:P.ts[S.i]?=some t) (h0:t.1.sort≠0) (q:Φ (bQ t) (P.set σ { S with i:=S.i + 1 })):OM ⟨b,n + 2,hd,Y⟩ r (.ref P.ap) "step" a0 (P.set σ S) Φ:=cQ h (tW b.hK) (by decide +kernel) (OJ h ht h0 q)
abbrev c8.on (S:c8) (b:Bool):c8:=if b then { S with i:=S.i + 1 } else S
theorem T.I5 {t:T} (h:t.is k x=true):t.sort=k:=by unfold T.is at h; rw [Bool.and_eq_true,beq_iff_eq] at h; exact h.1
theorem gG (h:PG P σ) (ht:P.ts[S.i]?=some t) (hk:k=1∨k=2∨k=6) (q:Φ (.bool (t.1.is k x)) (P.set σ (S.on (t.1.is k x)))):TC b (n + 3) hd (.ref 366) [.ref P.ap,.int k,.str x] (P.set σ S) Φ Ψ:=by
 refine wK (aY h ht (dR hk ?_))
 cases e:t.1.is k x with
 | false=>rw [e] at q; exact q
 | true=>rw [e] at q; exact bt h ht (by rw [T.I5 e]; omega) q
theorem xx (h:PG P σ) (ht:P.ts[S.i]?=some t) (q:Φ (.bool (t.1.is 6 x)) (P.set σ (S.on (t.1.is 6 x)))):TC b (n + 4) hd (.ref 261) [.ref P.ap,.str x] (P.set σ S) Φ Ψ:=mr (gG h ht (.inr (.inr rfl)) q)
theorem zm (h:PG P σ) (ht:P.ts[S.i]?=some t) (q:Φ (.bool (t.1.is 6 x)) (P.set σ (S.on (t.1.is 6 x)))):OM ⟨b,n + 4,hd,Y⟩ r (.ref P.ap) "eat_sign" (a1 (xK (.str x)) a0) (P.set σ S) Φ:=cQ h (kq b.hK) (by decide +kernel) (xx h ht q)
theorem dv (h:PG P σ) (ht:P.ts[S.i]?=some t) (hx:t.1.is 6 x=true) (q:Φ .none (P.set σ { S with i:=S.i + 1 })):TC b (n + 5) hd (.ref 282) [.ref P.ap,.str x] (P.set σ S) Φ Ψ:=
 eG (oW (gG h ht (.inr (.inr rfl)) (eH hx (by rw [hx]; exact q))))
theorem mI (h:PG P σ) (ht:P.ts[S.i]?=some t) (hx:t.1.is 6 x=true) (q:Φ .none (P.set σ { S with i:=S.i + 1 })):OM ⟨b,n + 5,hd,Y⟩ r (.ref P.ap) "need_sign" (a1 (xK (.str x)) a0) (P.set σ S) Φ:=cQ h (aN b.hK) (by decide +kernel) (dv h ht hx q)
theorem rB {k:Nat} (h:PG P σ) (ht:P.ts[S.i + k]?=some t) (q:Φ (bQ t) (P.set σ S)):TC b (n + 1) hd (.ref 226) [.ref P.ap,.int k] (P.set σ S) Φ Ψ:=by
 have hlt:=h.lt ht
 exact rG (ky h (dC h (cD .fl h.tl (QJ (by rw [List.length_map]; omega) (dC h (nG (i:=S.i + k) h ht q))))))
theorem yU {k:Nat} (h:PG P σ) (ht:P.ts[S.i + k]?=some t) (q:Φ (bQ t) (P.set σ S)):OM ⟨b,n + 1,hd,Y⟩ r (.ref P.ap) "ahead" (a1 (xK (.int k)) a0) (P.set σ S) Φ:=cQ h (eI b.hK) (by decide +kernel) (rB h ht q)
theorem aQ {k:Nat} (h:PG P σ) (ht:P.ts[S.i + k]?=some t) (q:Φ (.bool (t.1.is 6 x)) (P.set σ S)):TC b (n + 2) hd (.ref 380) [.ref P.ap,.int k,.str x] (P.set σ S) Φ Ψ:=
 w5 (cQ h (eI b.hK) (by decide +kernel) (rB h ht (dR (.inr (.inr rfl)) q)))
theorem j4 (hk:k≤40) (q:Φ .none σ):TC b (n + 1) hd (.ref 401) [.ref P.ap,.int k] σ Φ Ψ:=jD (Mk (by omega) q)
inductive rN (P:b9) (rows:List V) (pl:Int) (a:Addr) (σ':AH):Prop
 | mk (dd:Addr) (S':c8) (h1:qp σ' P S') (h2:S'.rows=rows) (h3:σ' a=some (.exc cq dd)) (h4:σ' dd=some (.ds ["code", "at"] [.str "chain", .int pl]))
inductive Bound (P:b9) (S:c8) (σ:AH) (a:Addr) (σ':AH):Prop
 | mk (dd:Addr) (S':c8) (more:List V) (h1:qp σ' P S') (h2:S'.rows=S.rows ++ more) (h3:more.length≤1) (h4:∀ b o,b≠P.dp→b≠P.dr→σ b=some o→σ' b=some o) (h5:σ' a=some (.exc cb dd))
theorem Eg {C:Addr} {x y:V} (hm:xZ b.c.K C 133) (h1:fw b.c.K C "code") (h2:fw b.c.K C "at")
  (q:∀ a dd σ',σ a=none→σ dd=none→(∀ b o,σ b=some o→σ' b=some o)→σ' a=some (.exc C dd)→σ' dd=some (.ds ["code", "at"] [x,y])→Y r a σ'):TC b (n + 2) none (.ref C) [x,y] σ (PO ⟨b,n + 2,none,Y⟩ r) Ψ:=by
 refine .of (Mn hm (show 2≤1000 by omega) fun a ha=>?_)
 refine Nu (dP.at (tb:=dN) b.hK (by kernel_rfl)) rfl (ρ₀:=[("self", some (.ref a)),("code", some x),("at", some y)]) rfl (fun z v hz=>iA (ps:=["self", "code", "at"]) ⟨[],rfl⟩ rfl (yR (xs:=[.ref a,x,y]) (m:=0) hz)) ?_
 refine c6 (Eo (fb (.tail .head) (fb .head ⟨a,C,rfl,h1,.inl ⟨AH.a9 ..,fun dd g1 g2=>?_⟩⟩)) fun _=>rfl)
 have g3:(((σ.upd a (.exc0 C)).upd dd (.ds ["code"] [x])).upd a (.excn C dd)) dd=some (.ds ["code"] [x]):=by rw [AH.a8 _ _ g2,AH.a9]
 refine c6 (Eo (fb (.tail (.tail .head)) (fb .head ⟨a,C,rfl,h2,.inr ⟨dd,_,_,_,_,AH.a9 ..,g3,(by decide),.new (by decide +kernel),Jv ⟨rfl,?_⟩⟩⟩)) fun _=>rfl)
 have hd:σ dd=none:=by rwa [AH.a8 _ _ g2] at g1
 unfold PO QI
 refine ⟨a,C,dd,133,rfl,?_,hm,q a dd _ ha hd (fun b o hb=>?_) (AH.a9 ..) ?_⟩
 ·rw [AH.a8 _ _ g2.symm,AH.a9]
 ·have n1:b≠a:=fun e=>by rw [e,ha] at hb; cases hb
  have n2:b≠dd:=fun e=>by rw [e,hd] at hb; cases hb
  rw [AH.a8 _ _ n1,AH.a8 _ _ n2,AH.a8 _ _ n1,AH.a8 _ _ n2,AH.a8 _ _ n1]; exact hb
 ·rw [AH.a8 _ _ g2,AH.a9]; rfl
theorem qp.keep {τ τ':AH} (h:qp τ P S) (up:∀ b o,τ b=some o→τ' b=some o):qp τ' P S:=⟨up _ _ h.p,up _ _ h.d,up _ _ h.g,up _ _ h.gd,up _ _ h.r,h.len⟩
theorem jP (h:PG P σ) (ht:P.ts[S.i]?=some t) (hk:40 < k):TC b (n + 3) none (.ref 401) [.ref P.ap,.int k] (P.set σ S) Φ (rN P S.rows t.2):=
 jD (KZ hk (aY h ht (Eg (km b.hK) (pS b.hK) (tm b.hK) fun a dd σ' _ _ up e1 e2=>⟨dd,S,(h.at S).keep up,rfl,e1,e2⟩)))
end
abbrev dq:List Str:=["kind", "a", "kids", "mods", "at", "nid"]
def node (k:Int) (a:V) (kids:List V) (at_:V):V:=.obj cH dq [.int k,a,.fl kids,.int 0,at_,.int 0]
def AH.mk (σ:AH) (a dd C:Addr) (ks:List Str) (vs:List V):AH:=(σ.upd dd (.ds ks vs)).upd a (.inst C dd)
def T.key:T→Str
 | .sign x=>x
 | .word x=>x
 | .name _ => "#name"
 | .num => "#int"
 | .fin => "#end"
def aC (t t':T×Int):Str×Nat:=match t.1 with
 | .sign x=>if x = ">" then (match t'.1 with
   | .sign y=>if t'.2=t.2 + 1 then (if y = ">" ∨ y = ">=" then (">" ++ y,2) else (x,1)) else (x,1)
   | _=>(x,1)) else (x,1)
 | _=>("", 0)
def cJ (t t':T×Int):Str×Nat:=match t.1 with
 | .word x=>(x,1)
 | _=>aC t t'
section
variable {c:Cx} {n:Nat} {hd:Option Addr} {σ:AH} {Ψ:Addr→AH→Prop} {Φ:Pv}
theorem AH.mz:(σ.mk a dd C ks vs) a=some (.inst C dd):=AH.a9 ..
theorem AH.jC {a dd C:Addr} {ks:List Str} {vs:List V} (h:a≠dd):(σ.mk a dd C ks vs) dd=some (.ds ks vs):=by
 unfold AH.mk
 rw [AH.a8 _ _ h.symm,AH.a9]
theorem AH.F6 {a dd C:Addr} {ks ks':List Str} {vs vs':List V} (h:a≠dd):(σ.mk a dd C ks vs).upd dd (.ds ks' vs')=σ.mk a dd C ks' vs':=by
 unfold AH.mk
 rw [AH.aF _ _ _ h,AH.aU]
theorem AH.Ai {a dd C:Addr} {ks:List Str} {vs:List V} (h1:σ a=none) (h2:σ dd=none) (h:a≠dd):((σ.mk a dd C ks vs).del dd).del a=σ:=by
 funext b
 unfold AH.mk AH.del AH.upd
 by_cases e:b=a
 ·subst e; simp [h1]
 ·by_cases e2:b=dd
  ·subst e2; simp [e,h2]
  ·simp [e,e2]
end
section
variable {b:Bs} {n:Nat} {hd:Option Addr} {σ:AH} {Φ:Pv} {Ψ:Addr→AH→Prop} {P:b9} {S S' S₀ S₁:c8} {X:XX} {r:Fm} {t t':T×Int} {x:Str} {k:Int} {Y:Fm→Addr→AH→Prop}
theorem cI {C a dd:Addr} {v:V} {ks:List Str} {vs:List V} {k:AH→Prop} (hne:a≠dd) (sa:bJ b.c.K C x=true) (hl:ks.length≤900) (hx:x∉ks) (h:k (σ.mk a dd C (ks ++ [x]) (vs ++ [v]))):OS b (.ref a) (σ.mk a dd C ks vs) x v k:=by
 unfold OS; exact ⟨a,C,dd,ks,vs,_,_,rfl,AH.mz,AH.jC hne,sa,hl,.new hx,by rw [AH.F6 hne]; exact h⟩
theorem rC {C fI:Addr} {xs:List V} (hm:iY b.c.K C fI=true) (h:∀ a dd,σ a=none→σ dd=none→a≠dd→SK b.c n hd (.ref fI) (.ref a :: xs) (σ.mk a dd C [] []) (fun r σ'=>r=.none∧Φ (.ref a) σ') Ψ):TC b (n + 1) hd (.ref C) xs σ Φ Ψ:=.of (Kf hm h)
theorem xG {k av kids m at_:V} (q:∀ a dd,σ a=none→σ dd=none→a≠dd→Φ (.ref a) (σ.mk a dd cH dq [k,av,kids,m,at_,.int 0])):TC b (n + 2) hd (.ref 38) [k,av,kids,m,at_] σ Φ Ψ:=
 rC (IT b.hK) fun a dd h1 h2 h3=>pK (cI h3 (vY b.hK) (by decide) (by decide +kernel) (cI h3 (D9 b.hK) (by decide) (by decide +kernel) (cI h3 (uT b.hK) (by decide) (by decide +kernel)
  (cI h3 (vt b.hK) (by decide) (by decide +kernel) (cI h3 (A3 b.hK) (by decide) (by decide +kernel) (cI h3 (y7 b.hK) (by decide) (by decide +kernel) ⟨rfl,q a dd h1 h2 h3⟩))))))
theorem rA {k:Int} {av m at_:V} {xs:List V} (q:Φ (.obj cH dq [.int k,av,.fl xs,m,at_,.int 0]) σ):TC b (n + 2) hd (.ref 38) [.int k,av,.fl xs,m,at_] σ Φ Ψ:=.ent (xG fun a dd h1 h2 h3=>⟨_,_,by
 have:=b7.obj (c:=b.c) (AH.mz (σ:=σ) (a:=a) (dd:=dd) (C:=cH) (ks:=dq) (vs:=[.int k,av,.fl xs,m,at_,.int 0])) (AH.jC h3)
 rwa [AH.Ai h1 h2 h3] at this,q⟩)
theorem ck {k:Int} {av at_:V} {xs:List V} (q:Φ (node k av xs at_) σ):TC b (n + 3) hd (.ref 98) [.int k,av,.fl xs,at_] σ Φ Ψ:=Fg (rA q)
theorem Gf {k av at_:V} {l:Addr} (q:∀ a dd,σ a=none→σ dd=none→a≠dd→Φ (.ref a) (σ.mk a dd cH dq [k,av,.ref l,.int 0,at_,.int 0])):TC b (n + 3) hd (.ref 98) [k,av,.ref l,at_] σ Φ Ψ:=Fg (xG q)
theorem Bi {k:Int} {av at_:V} (q:Φ (node k av [] at_) σ):TC b (n + 3) hd (.ref 91) [.int k,av,at_] σ Φ Ψ:=MA (rA q)
theorem jo (q:Φ (.str t.1.key) σ):TC b (n + 1) hd (.ref 387) [bQ t] σ Φ Ψ:=by
 obtain ⟨t,pl⟩:=t
 refine Gu ?_
 cases t with
 | sign x | word x=>exact q
 | name x=>exact ij (.di .e9 (.tail .head)) (fun _ e=>by cases e) q
 | num=>exact ij (.di .e9 (.tail (.tail .head))) (fun _ e=>by cases e) q
 | fin=>exact ij (.di .e9 .head) (fun _ e=>by cases e) q
theorem eP {v w:V} {q:Bool} {Φ:Bool→AH→Prop} (h:MC σ v w q) (k:Φ q σ):NP v w σ Φ:=by unfold NP; exact ⟨_,h,k⟩
theorem DJ {v w:V} {q:Bool} {Φ:Bool→AH→Prop} (h:Pt σ v w q) (k:Φ (!q) σ):Pf v w σ Φ:=by unfold Pf; exact ⟨_,h,k⟩
theorem JJ {t:T} (h:t.sort=6):∃ x,t=.sign x:=by cases t <;> first | exact ⟨_,rfl⟩ | (simp [T.sort] at h)
theorem Pd {t:T} (h:t.sort=2):∃ x,t=.word x:=by cases t <;> first | exact ⟨_,rfl⟩ | (simp [T.sort] at h)
theorem ek (h:PG P σ) (ht:P.ts[S.i]?=some t) (ht':t.1=.sign ">" → P.ts[S.i + 1]?=some t') (q:Φ (.tup [.str (aC t t').1,.int (aC t t').2]) (P.set σ S)):TC b (n + 2) hd (.ref 617) [.ref P.ap] (P.set σ S) Φ Ψ:=by
 refine xc (aY h ht (ay (fun e=>?_) fun e=>?_))
 ·have:aC t t'=(("" : Str),0):=by
   obtain ⟨t,pl⟩:=t
   cases t <;> first | rfl | exact Bool.noConfusion (show false=true from e)
  rw [this] at q; exact q
 ·obtain ⟨t,pl⟩:=t
  obtain ⟨x,rfl⟩:=JJ (by simpa using e)
  have one:aC (.sign x,pl) t'=(x,1)→Φ (.tup [.str x,.int 1]) (P.set σ S):=fun e=>by rw [e] at q; exact q
  refine ay (fun e=>?_) fun e=>?_
  ·have e:x = ">" := by simpa using e
   subst e
   refine yU (k:=1) h (ht' rfl) (ay (fun e=>?_) fun e=>?_)
   ·obtain ⟨t',pl'⟩:=t'
    obtain ⟨y,rfl⟩:=JJ (by simpa using e)
    refine ay (fun e=>eP (.sst (ks:=[">", ">="]) rfl) (ay (fun e2=>⟨?_,?_⟩) fun e2=>one ?_)) fun e=>one ?_
    ·rw [sizeLine_eq]; have:y = ">" ∨ y = ">=" := by simpa using e2
     rcases this with rfl | rfl <;> decide
    ·have:aC (.sign ">", pl) (.sign y,pl')=(">" ++ y,2):=by unfold aC; simp at e e2; simp [e,e2]
     rw [this] at q; exact q
    ·unfold aC; simp at e2; simp [e2]
    ·unfold aC; simp at e; simp [e]
   ·refine one ?_
    unfold aC
    obtain ⟨t',pl'⟩:=t'
    cases t' <;> first | rfl | exact Bool.noConfusion (show true=false from e)
  ·exact one (by unfold aC; simp at e; simp [e])
theorem nM (h:PG P σ) (ht:P.ts[S.i]?=some t) (ht':t.1=.sign ">" → P.ts[S.i + 1]?=some t') (q:Φ (.tup [.str (cJ t t').1,.int (cJ t t').2]) (P.set σ S)):TC b (n + 3) hd (.ref 624) [.ref P.ap] (P.set σ S) Φ Ψ:=by
 refine p9 (aY h ht (ay (fun e=>?_) fun e=>?_))
 ·obtain ⟨t,pl⟩:=t
  obtain ⟨x,rfl⟩:=Pd (by simpa using e)
  exact q
 ·refine ek h ht ht' ?_
  have:cJ t t'=aC t t':=by
   obtain ⟨t,pl⟩:=t
   cases t <;> first | rfl | exact Bool.noConfusion (show true=false from e)
  rw [← this]; exact q
theorem ww {tt:TT} {body rest:TS} {Θ:Ph} (I:Nat→Fm→AH→Prop) (k:Nat) (h0:I k r σ) (h:∀ k r σ,I k r σ→tt X r σ (Qy body rest X r Θ (QT I k))):WW tt body rest X r σ Θ:=by unfold WW; exact ⟨I,k,h0,h⟩
inductive QM (P:b9) (σ:AH) (S:c8) (k m:Nat):Fm→AH→Prop
 | mk {j:Nat}:j + m=k→QM P σ S k m [some (.ref P.ap),some (.int m)] (P.set σ { S with i:=S.i + j })
inductive Q8 (P:b9) (σ:AH) (S:c8) (k j:Nat):Fm→AH→Prop
 | mk:k + j≤S.rows.length→Q8 P σ S k j [some (.ref P.dg),some (.int k)] (P.set σ { S with rows:=S.rows.take (k + j) })
theorem vq {k:Nat} (h:PG P σ) (ht:∀ j,j < k→∃ t,P.ts[S.i + j]?=some t∧t.1.sort≠0) (q:Φ .none (P.set σ { S with i:=S.i + k })):TC b (n + 3) hd (.ref 631) [.ref P.ap,.int k] (P.set σ S) Φ Ψ:=by
 refine sP (ww (QM P σ S k) k (.mk (j:=0) (Nat.zero_add k)) ?_)
 rintro m r τ ⟨hj⟩
 rename_i j
 cases m with
 | zero=>obtain rfl:j=k:=hj; exact q
 | succ m=>
  obtain ⟨t,ht1,ht2⟩:=ht j (hj ▸ Nat.lt_add_of_pos_right (Nat.succ_pos m))
  have e:((m + 1:Nat):Int) - 1=(m:Int):=by omega
  refine KZ (Int.ofNat_lt.mpr (Nat.succ_pos m)) (bt h ht1 ht2 ⟨m,Nat.lt_succ_self m,?_⟩)
  change QM P σ S k m [_,some (V.int (((m + 1:Nat):Int) - 1))] _
  rw [e]; exact .mk (j:=j + 1) (by rw [← hj,Nat.add_assoc,Nat.add_comm 1])
def markV (S:c8):V:=.tup [.int S.i,.int S.rows.length,.int S.deep,.bool S.asy,.str ""]
theorem H6 (h:PG P σ) (hr:S.rows.length≤1000) (q:Φ (markV S) (P.set σ S)):TC b (n + 1) hd (.ref 324) [.ref P.ap] (P.set σ S) Φ Ψ:=
 sN (ky h (iZ h (jn h (cD (.ref (h.at S).r) (by omega) (my h (vO h (Ez h q)))))))
theorem lz (h:PG P σ) (hr:S.rows.length≤1000) (q:Φ (markV S) (P.set σ S)):OM ⟨b,n + 1,hd,Y⟩ r (.ref P.ap) "mark" a0 (P.set σ S) Φ:=cQ h (t8 b.hK) (by decide +kernel) (H6 h hr q)
theorem tT {a:Addr} {xs:List V} {id:String} {es:TA} (h:σ a=some (.list xs)) (q:es X r σ (JB X r (.builtin id) (.ref a) Φ)):JE X r (.ref a) id es σ Φ:=by unfold JE; exact ⟨a,xs,rfl,h,q⟩
theorem mT {a:Addr} {xs:List V} {v:V} (hs:σ a=some (.list (xs ++ [v]))) (hl:xs.length≤100000) (q:Φ v (σ.upd a (.list xs))):TC b n hd (.builtin "list.pop") [.ref a] σ Φ Ψ:=.of (Ms hs hl q)
theorem c5 {a:Addr} {xs:List V} {v:V} (hs:σ a=some (.list xs)) (hl:xs.length≤100000) (q:Φ .none (σ.upd a (.list (xs ++ [v])))):TC b n hd (.builtin "list.append") [.ref a,v] σ Φ Ψ:=.of (Cy hs hl q)
theorem Mb {k:Nat} (h:PG P σ) (hk:k≤S.rows.length) (hr:S.rows.length≤1000) (q:Φ .none (P.set σ { S with rows:=S.rows.take k })):TC b (n + 1) hd (.ref 70) [.ref P.dg,.int k] (P.set σ S) Φ Ψ:=by
 obtain ⟨j0,e0⟩:=Nat.le.dest hk
 refine yt (ww (Q8 P σ S k) j0 ?_ ?_)
 ·have:=Q8.mk (P:=P) (σ:=σ) (Nat.le_of_eq e0)
  rw [e0,List.take_of_length_le (Nat.le_refl _)] at this; exact this
 rintro j r τ ⟨h1⟩
 have hlen:(S.rows.take (k + j)).length=k + j:=by rw [List.length_take]; exact Nat.min_eq_left h1
 refine jn h (cD (.ref (h.at _).r) (by rw [hlen]; exact Nat.le_trans h1 (Nat.le_trans hr (by decide))) ?_)
 cases j with
 | zero=>exact Mk (by rw [hlen]; exact Int.lt_irrefl _) q
 | succ j=>
  have hs:=List.take_succ_eq_append_getElem (l:=S.rows) (i:=k + j) h1
  refine KZ (by rw [hlen]; exact Int.ofNat_lt.mpr (Nat.lt_add_of_pos_right (Nat.succ_pos j))) (jn h (tT (h.at _).r (mT (xs:=S.rows.take (k + j)) (v:=S.rows[k + j]) ((h.at _).r.trans (congrArg (fun l=>some (AO.list l)) hs)) (by rw [List.length_take]; exact Nat.le_trans (Nat.min_le_right _ _) (Nat.le_trans hr (by decide))) ⟨j,Nat.lt_succ_self j,?_⟩)))
  rw [h.Jk]; exact .mk (Nat.le_of_succ_le h1)
theorem v7 {more:List V} (h:PG P σ) (hrow:S.rows=S₀.rows ++ more) (hr:S.rows.length≤1000) (H:∀ p:Prop,p→PU hd (P.set σ S) p) (q:Φ .none (P.set σ S₀)):TC b (n + 2) hd (.ref 331) [.ref P.ap,markV S₀] (P.set σ S) Φ Ψ:=by
 refine tJ (H _ (Jt (i:=S₀.i) h (vb (i:=S₀.deep) h (LC (i:=S₀.asy) h (DG h (iZ h (OZ h (xX b.hK) (by decide +kernel) (Mb (k:=S₀.rows.length) h ?_ hr ?_))))))))
 ·show _≤S.rows.length; rw [hrow,List.length_append]; omega
 ·have:S.rows.take S₀.rows.length=S₀.rows:=by rw [hrow,List.take_left]
  show Φ .none (P.set σ { i:=S₀.i,deep:=S₀.deep,asy:=S₀.asy,rows:=S.rows.take S₀.rows.length })
  rw [this]; exact q
theorem L8 {x y z:V} (h:PG P σ) (hr:S.rows.length≤1000) (q:Φ .none (P.set σ { S with rows:=S.rows ++ [.tup [x,y,z]] })):TC b (n + 1) hd (.ref 63) [.ref P.dg,x,y,z] (P.set σ S) Φ Ψ:=
 y6 (jn h (tT (h.at S).r (c5 (h.at S).r (by omega) (by rw [h.Jk]; exact q))))
theorem ze {x y z:V} (h:PG P σ) (hr:S.rows.length≤1000):TC b (n + 3) none (.ref 310) [.ref P.ap,x,y,z] (P.set σ S) Φ (Bound P S (P.set σ S)):=by
 refine lJ (iZ h (OZ h (xE b.hK) (by decide +kernel) (L8 h hr (Eg (il b.hK) (n9 b.hK) (qS b.hK) fun a dd σ' ha hd up e1 e2=>⟨dd,_,[.tup [x,y,z]],(h.at { S with rows:=S.rows ++ [.tup [x,y,z]] }).keep up,rfl,Nat.le_refl 1,fun c o h1 h2 hb=>up _ _ ?_,e1⟩))))
 unfold b9.set at hb ⊢
 rw [AH.a8 _ _ h2,AH.a8 _ _ h1] at hb ⊢; exact hb
theorem yW {x z:V} (h:PG P σ) (ht:P.ts[S.i]?=some t) (hr:S.rows.length≤1000):TC b (n + 4) none (.ref 303) [.ref P.ap,x,z] (P.set σ S) Φ (Bound P S (P.set σ S)):=
 qF (cQ h (lq b.hK) (by decide +kernel) (aY h ht (ze h hr)))
theorem GJ {x:V} {Y:Fm→Addr→AH→Prop} (h:PG P σ) (ht:P.ts[S.i]?=some t) (hr:S.rows.length≤1000) (hY:Y r=Bound P S (P.set σ S)):OM ⟨b,n + 4,none,Y⟩ r (.ref P.ap) "fault" (a1 (xK x) (a1 (bG a0) a0)) (P.set σ S) Φ:=cQ h (iR b.hK) (by decide +kernel) (by
 show TC b (n + 4) none _ _ _ _ (Y r)
 rw [hY]; exact yW h ht hr)
end
def T.starts:T→Bool
 | .sign x=>decide (x∈cO)
 | .word x=>decide (x∈dH)
 | .name _=>true
 | .num=>true
 | .fin=>false
def br (pl:Int):V:=node 40 (.str "int") [] (.int pl)
abbrev cS:List Int:=[1,2,7]
abbrev cU:List V:=[.obj jS [] [],.obj zy [] [],.obj Aa [] []]
def QU (P:b9) (σ:AH) (Φ:Pv):Pv:=fun v τ=>∃ S₁:c8,τ=P.set σ S₁∧Φ v (P.set σ { S₁ with deep:=S₁.deep - 1 })
section
variable {b:Bs} {n:Nat} {hd:Option Addr} {σ:AH} {Φ:Pv} {Ψ:Addr→AH→Prop} {P:b9} {S S' S₀ S₁:c8} {X:XX} {r:Fm} {t t':T×Int} {x:Str} {k:Int} {Y:Fm→Addr→AH→Prop} {v:V}
theorem wj {C f:Addr} {ks:List Int} {vs:List V} (h:PG P σ) (hp:P.parts=.e9 ks vs) (kv:KV k (.obj C [] []) ks vs) (hm:aA b.c.K C "parse" f=true) (hd40:S.deep + 1≤40)
  (q:TC b n hd (.ref f) [.obj C [] [],.ref P.ap] (P.set σ { S with deep:=S.deep + 1 }) (QU P σ Φ) Ψ):TC b (n + 2) hd (.ref 338) [.ref P.ap,.int k] (P.set σ S) Φ Ψ:=
 tX (xU (wH h hp (DJ (.di .e9) (aL (by rw [decide_eq_true kv.mem]; rfl) (my h (vb (i:=S.deep + 1) h (my h (Mk (by show ¬ (40:Int) < S.deep + 1; omega) (wH h hp (ij (.di .e9 kv) (fun _ e=>by cases e)
  (CG .obj hm (by simp) (q.mono (fun v τ ⟨S₁,e,q⟩=>by rw [e]; exact my h (vb h q)) fun _ _ h=>h))))))))))))
theorem uW {C f:Addr} {ks:List Int} {vs:List V} (h:PG P σ) (hp:P.parts=.e9 ks vs) (kv:KV k (.obj C [] []) ks vs) (hm:aA b.c.K C "parse" f=true) (hd40:S.deep + 1≤40)
  (q:TC b n hd (.ref f) [.obj C [] [],.ref P.ap] (P.set σ { S with deep:=S.deep + 1 }) (QU P σ Φ) (Y r)):OM ⟨b,n + 2,hd,Y⟩ r (.ref P.ap) "part" (a1 (xK (.int k)) a0) (P.set σ S) Φ:=cQ h (cL b.hK) (by decide +kernel) (wj h hp kv hm hd40 q)
theorem CZ (q:Φ (.bool t.1.starts) σ):TC b (n + 1) hd (.ref 504) [bQ t] σ Φ Ψ:=by
 obtain ⟨t,pl⟩:=t
 refine sT ?_
 cases t with
 | sign x=>exact eP (.ds .aH) q
 | word x=>exact eP (.ds .aH) q
 | name x | num | fin=>exact eP (.sin (ks:=[1,3,4,5]) rfl) q
theorem ID {pl:Int} (h:PG P σ) (ht:P.ts[S.i]?=some (.word "int", pl)) (q:Φ (br pl) (P.set σ { S with i:=S.i + 1 })):TC b (n + 4) hd (.ref 455) [.ref P.ap] (P.set σ S) Φ Ψ:=
by
 refine p6 (aY h ht (eP (.ds .aH) (aL (by decide +kernel) ?_)))
 refine (DJ (.ds .aH) (aL (by decide +kernel) (bt h ht (fun e=>by cases e) (Bi q))))
theorem nr {pl:Int} (h:PG P σ) (ht:P.ts[S.i]?=some (.word "int", pl)) (q:Φ (br pl) (P.set σ { S with i:=S.i + 1 })):TC b (n + 5) hd (.ref 448) [.ref P.ap] (P.set σ S) Φ Ψ:=
 dk (aY h ht (ID h ht q))
theorem yh (h:PG P σ) (ht:P.ts[S.i]?=some t) (hr:S.rows.length≤1000) (h2:t.1.sort≠2) (h1:t.1.sort≠1):TC b (n + 5) none (.ref 448) [.ref P.ap] (P.set σ S) Φ (Bound P S (P.set σ S)):=
 dk (aY h ht (aL (beq_false_of_ne h2) (eH (by simpa using h1) (GJ h ht hr rfl))))
theorem zP {pl:Int} (h:PG P σ) (ht:P.ts[S.i]?=some (.name x,pl)) (ht':P.ts[S.i + 1]?=some t') (h1:t'.1.is 6 "<" = false) (q:Φ (node 40 (.str x) [] (.int pl)) (P.set σ { S with i:=S.i + 1 })):TC b (n + 5) hd (.ref 448) [.ref P.ap] (P.set σ S) Φ Ψ:=
 dk (aY h ht (bt h ht (fun e=>by cases e) (bP (S:={ S with i:=S.i + 1 }) h ht' (aL h1 (ck q)))))
theorem Ct {bar:Bool} (h:PG P σ) (ht:P.ts[S.i]?=some t) (h1:t.1.is 6 "[" = false) (h2:t.1.is 6 "?" = true→bar=true∧P.ts[S.i + 1]?=some t'∧t'.1.starts=true) (q:Φ v (P.set σ S)):
  TC b (n + 3) hd (.ref 462) [.ref P.ap,v,.bool bar] (P.set σ S) Φ Ψ:=by
 refine nT (ww (fun m r τ=>r=[some (.ref P.ap),some v,some (.bool bar),some (.int 0)]∧τ=P.set σ S) 0 ⟨rfl,rfl⟩ ?_)
 rintro m r τ ⟨rfl,rfl⟩
 refine j4 (by omega) (bP h ht (aL h1 (bP h ht (aL h1 (bP h ht (ay (fun e=>?_) fun e=>q))))))
 obtain ⟨rfl,ht',hs⟩:=h2 e
 exact yU (k:=1) h ht' (CZ (aL (by rw [hs]; rfl) q))
end
section
variable {b:Bs} {n:Nat} {hd:Option Addr} {σ τ:AH} {Φ:Pv} {Ψ:Addr→AH→Prop} {P:b9} {S S' S₀ S₁:c8} {X:XX} {r:Fm} {t t':T×Int} {x:Str} {k:Int} {Y:Fm→Addr→AH→Prop} {v:V} {Θ:Ph} {ts:TS}
theorem O6 (e:cF X.b.c σ τ) (q:ts X r τ Θ):bV ts X r σ Θ:=⟨r,τ,rfl,fun _ _=>e.l,q⟩
theorem Rl {dd a:Addr} {p:Prop} (g:σ a=some (.exc cb dd)) (q:p):MB X "BindStop" a σ p:=by unfold MB; exact ⟨_,_,_,_,_,g,j6 X.b.hK,q⟩
theorem wz {bar:Bool} (h:PG P σ) (ht:P.ts[S₁.i]?=some t) (h1:t.1.is 6 "[" = false) (h2:t.1.is 6 "?" = true→bar=true∧P.ts[S₁.i + 1]?=some t'∧t'.1.starts=true)
  (hp:∀ {Φ:Pv} {Ψ:Addr→AH→Prop},Φ v (P.set σ S₁)→TC b (n + 5) hd (.ref 448) [.ref P.ap] (P.set σ S) Φ Ψ) (q:Φ v (P.set σ S₁)):TC b (n + 6) hd (.ref 441) [.ref P.ap,.bool bar] (P.set σ S) Φ Ψ:=
 oR (hp (Ct (n:=n + 2) h ht h1 h2 q))
theorem y4 (h:PG P σ) (hp:P.parts=.e9 cS cU) (hd40:S.deep + 1≤40) (ht:P.ts[S.i + 1]?=some t) (h1:t.1.is 6 "[" = false) (h2:t.1.is 6 "?" = false)
  (hpl:∀ {Φ:Pv} {Ψ:Addr→AH→Prop},Φ v (P.set σ { S with deep:=S.deep + 1,i:=S.i + 1 })→TC b (n + 5) hd (.ref 448) [.ref P.ap] (P.set σ { S with deep:=S.deep + 1 }) Φ Ψ) (q:Φ v (P.set σ { S with i:=S.i + 1 })):TC b (n + 9) hd (.ref 338) [.ref P.ap,.int 1] (P.set σ S) Φ Ψ:=
 wj (n:=n + 7) h hp .head (gj b.hK) hd40 (fW (wz (t':=t) (S₁:={ S with deep:=S.deep + 1,i:=S.i + 1 }) h ht h1 (fun e=>by rw [h2] at e; cases e) hpl ⟨_,rfl,by
  show Φ v (P.set σ { S with i:=S.i + 1,deep:=S.deep + 1 - 1 })
  rw [Int.add_sub_cancel]; exact q⟩))
theorem D5 {pl:Int} (h:PG P σ) (hp:P.parts=.e9 cS cU) (hd40:S.deep + 1≤40) (ht:P.ts[S.i]?=some (.word "int", pl)) (ht':P.ts[S.i + 1]?=some t) (h1:t.1.is 6 "[" = false) (h2:t.1.is 6 "?" = false) (q:Φ (br pl) (P.set σ { S with i:=S.i + 1 })):
  TC b (n + 9) hd (.ref 338) [.ref P.ap,.int 1] (P.set σ S) Φ Ψ:=y4 h hp hd40 ht' h1 h2 (nr (S:={ S with deep:=S.deep + 1 }) h ht) q
theorem uF (h:PG P σ) (hp:P.parts=.e9 cS cU) (hd40:S.deep + 1≤40) (ht:P.ts[S.i]?=some t) (hr:S.rows.length≤1000) (h2:t.1.sort≠2) (h1:t.1.sort≠1):
  TC b (n + 9) none (.ref 338) [.ref P.ap,.int 1] (P.set σ S) Φ (Bound P S (P.set σ S)):=by
 refine (wj (n:=n + 7) (Ψ:=Bound P { S with deep:=S.deep + 1 } (P.set σ { S with deep:=S.deep + 1 })) h hp .head (gj b.hK) hd40 (fW (oR (yh (S:={ S with deep:=S.deep + 1 }) h ht hr h2 h1)))).mono (fun _ _ h=>h) fun a σ' q=>?_
 obtain ⟨dd,S',more,g1,g2,g3,g4,g5⟩:=q
 refine ⟨dd,S',more,g1,g2,g3,fun b o q1 q2 hb=>g4 b o q1 q2 ?_,g5⟩
 unfold b9.set at hb ⊢; rw [AH.a8 _ _ q2,AH.a8 _ _ q1] at hb ⊢; exact hb
theorem z3 (h:PG P σ) (hr:S.rows.length≤900) (hp:∀ {Φ:Pv} {Ψ:Addr→AH→Prop},Φ v (P.set σ S₁)→TC b (n + 9) none (.ref 338) [.ref P.ap,.int 1] (P.set σ S) Φ Ψ) (q:Φ v (P.set σ S₁)):TC b (n + 10) none (.ref 483) [.ref P.ap] (P.set σ S) Φ Ψ:=
 rq (lz h (by omega) (cQ h (cL b.hK) (by decide +kernel) (hp q)))
theorem qp.sub (h:PG P σ) (g:qp τ P S') (up:∀ b o,b≠P.dp→b≠P.dr→(P.set σ S) b=some o→τ b=some o):cF b.c (P.set τ S) (P.set σ S):=cF.drop fun c o hb=>by
 have hb':=hb
 unfold b9.set at hb ⊢
 by_cases e1:c=P.dr
 ·rw [e1,AH.a9] at hb ⊢; exact hb
 ·rw [AH.a8 _ _ e1] at hb ⊢
  by_cases e2:c=P.dp
  ·rw [e2,AH.a9] at hb ⊢; exact hb
  ·rw [AH.a8 _ _ e2]; exact up c o e2 e1 hb'
theorem vR (h:PG P σ) (hr:S.rows.length≤900) (hp:∀ {Φ:Pv},TC b (n + 9) none (.ref 338) [.ref P.ap,.int 1] (P.set σ S) Φ (Bound P S (P.set σ S))) (q:Φ .none (P.set σ S)):TC b (n + 10) none (.ref 483) [.ref P.ap] (P.set σ S) Φ Ψ:=by
 refine rq (lz h (by omega) (cQ h (cL b.hK) (by decide +kernel) (hp.mono (fun _ _ h=>h) fun a σ' q=>?_)))
 obtain ⟨dd,S',more,g1,g2,g3,g4,g5⟩:=q
 refine Rl g5 ?_
 have g6:=g1.gc
 rw [← g6] at g5
 rw [← g6]
 exact cQ (.mk g1) (fm b.hK) (by decide +kernel) (v7 (n:=n + 7) (.mk g1) g2 (by rw [g2,List.length_append]; omega) (fun p hp=>⟨⟨_,_,g5⟩,hp⟩) (O6 (g1.sub h g4) q))
def AH.hole (σ:AH) (a dd l:Addr) (k:Int) (av:V) (kids:List V) (at_:V):AH:=(σ.upd l (.list kids)).mk a dd cH dq [.int k,av,.ref l,.int 0,at_,.int 0]
inductive nP (σ:AH) (k:Int) (av:V) (kids:List V) (at_:V):V→AH→Prop
 | mk {a dd l:Addr}:σ a=none→σ dd=none→σ l=none→a≠dd→a≠l→dd≠l→nP σ k av kids at_ (.ref a) (σ.hole a dd l k av kids at_)
theorem GK {av at_:V} {l:Addr} {kids:List V} (hl:σ l=none) (q:∀ x τ,nP σ k av kids at_ x τ→Φ x τ):TC b (n + 3) hd (.ref 98) [.int k,av,.ref l,at_] (σ.upd l (.list kids)) Φ Ψ:=Gf fun a dd h1 h2 h3=>by
 have al:a≠l:=fun e=>by rw [e,AH.a9] at h1; cases h1
 have dl:dd≠l:=fun e=>by rw [e,AH.a9] at h2; cases h2
 rw [AH.a8 _ _ al] at h1
 rw [AH.a8 _ _ dl] at h2
 exact q _ _ (.mk h1 h2 hl h3 al dl)
theorem gJ {key:Str} {w:V} {vs:List V} (ga:bB b.c.K cH key=true) (kv:KV key w dq vs) (nb:∀ id,w≠.bi id) (q:Φ w σ):OG b (.obj cH dq vs) σ key Φ:=by
 unfold OG; exact ⟨_,.inst .obj ga kv,nb,q⟩
theorem Hd {pl:Int} (q:Φ (.bool true) σ):TC b (n + 1) hd (.ref 511) [br pl] σ Φ Ψ:=
 qB (gJ (mj b.hK) .head (fun _ e=>by cases e) (gJ (uz b.hK) (.tail .head) (fun _ e=>by cases e) (eP (.ds .aH) (by
  show Φ (.bool (decide (("int" : Str)∈aP))) σ
  rw [show decide (("int" : Str)∈aP)=true from by decide +kernel]; exact q))))
theorem sgn (x y:Str) (pl:Int):((T.sign x,pl):T×Int).1.is 6 y=(x == y):=rfl
theorem J4 {pl pl1 pl2:Int} (h:PG P σ) (hp:P.parts=.e9 cS cU) (hd40:S.deep + 1≤40) (hr:S.rows.length≤900) (h0:P.ts[S.i]?=some (.sign "(", pl)) (h1:P.ts[S.i + 1]?=some (.word "int", pl1)) (h2:P.ts[S.i + 2]?=some (.sign ")", pl2))
  (q:∀ x τ,nP (P.set σ { S with i:=S.i + 3 }) 24 (.str "") [br pl1,.none] (.int pl) x τ→Φ x τ):TC b (n + 11) none (.ref 680) [.ref P.ap] (P.set σ S) Φ Ψ:=
 oP (lz h (by omega) (bt h h0 (fun e=>by cases e) (z3 (S:={ S with i:=S.i + 1 }) (S₁:={ S with i:=S.i + 2 }) h hr
  (D5 (S:={ S with i:=S.i + 1 }) h hp hd40 h1 h2 (by rw [sgn]; decide +kernel) (by rw [sgn]; decide +kernel))
  (zm (n:=n + 6) (S:={ S with i:=S.i + 2 }) h h2 (by
   rw [show ((T.sign ")", pl2):T×Int).1.is 6 ")" = true by rw [sgn]; decide +kernel]
   exact Hd fun l hl=>GK (n:=n + 7) hl q)))))
theorem Fc {pl:Int} (h:PG P σ) (hp:P.parts=.e9 cS cU) (hd40:S.deep + 1≤40) (hr:S.rows.length≤900) (h0:P.ts[S.i]?=some (.sign "(", pl)) (h1:P.ts[S.i + 1]?=some t) (g2:t.1.sort≠2) (g1:t.1.sort≠1) (q:Φ .none (P.set σ S)):
  TC b (n + 11) none (.ref 680) [.ref P.ap] (P.set σ S) Φ Ψ:=
 oP (lz h (by omega) (bt h h0 (fun e=>by cases e) (vR (S:={ S with i:=S.i + 1 }) h hr
  (uF (S:={ S with i:=S.i + 1 }) h hp hd40 h1 (by show S.rows.length≤1000; omega) g2 g1)
  (cQ h (fm b.hK) (by decide +kernel) (v7 (n:=n + 8) (S₀:=S) (more:=[]) h (by simp) (by show S.rows.length≤1000; omega) (fun _ p=>p) q)))))
theorem KV.dec {ks:List Str} {vs:List V} (h:KV x v ks vs):decide (x∈ks)=true:=decide_eq_true h.mem
theorem xY {pl:Int} (h:PG P σ) (ht:P.ts[S.i]?=some (.sign x,pl)) (kv:KV x (.int k) bb bp) (q:∀ y τ,nP (P.set σ { S with i:=S.i + 1 }) k (.str x) [.none] (.int pl) y τ→Φ y τ):TC b (n + 12) none (.ref 673) [.ref P.ap] (P.set σ S) Φ Ψ:=
 dI (aY h ht (eP (.ds .aH) (eH kv.dec (bt h ht (fun e=>by cases e) (ij (.ds .aH kv) (fun _ e=>by cases e) fun l hl=>GK (n:=n + 8) hl q)))))
theorem mq {pl:Int} (h:PG P σ) (ht:P.ts[S.i]?=some (.sign "(", pl)) (q:TC b (n + 11) none (.ref 680) [.ref P.ap] (P.set σ S) Φ Ψ):TC b (n + 12) none (.ref 673) [.ref P.ap] (P.set σ S) Φ Ψ:=
 dI (aY h ht (eP (.ds .aH) (aL (by decide +kernel) q)))
theorem wu {pl:Int} (h:PG P σ) (ht:P.ts[S.i]?=some (.name "await", pl)) (ha:S.asy=true) (q:∀ y τ,nP (P.set σ { S with i:=S.i + 1 }) 31 (.str "") [.none] (.int pl) y τ→Φ y τ):TC b (n + 12) none (.ref 673) [.ref P.ap] (P.set σ S) Φ Ψ:=
 dI (aY h ht (vO h (eH ha (bt h ht (fun e=>by cases e) fun l hl=>GK (n:=n + 8) hl q))))
def T.iL:T→Bool
 | .sign x=>!decide (x∈bb) && !(x == "(")
 | .name x=>!(x == "await")
 | _=>true
theorem z1 (h:PG P σ) (ht:P.ts[S.i]?=some t) (hn:t.1.iL=true) (q:Φ .none (P.set σ S)):TC b (n + 12) none (.ref 673) [.ref P.ap] (P.set σ S) Φ Ψ:=by
 refine dI (aY h ht ?_)
 obtain ⟨t,pl⟩:=t
 cases t with
 | sign x=>
  unfold T.iL at hn
  rw [Bool.and_eq_true,Bool.not_eq_true',Bool.not_eq_true'] at hn
  exact eP (.ds .aH) (aL hn.1 (aL hn.2 q))
 | name x=>
  unfold T.iL at hn
  rw [Bool.not_eq_true'] at hn
  refine vO h (ay (fun _=>aL hn q) fun _=>q)
 | word x | num | fin=>exact vO h (ay (fun _=>q) fun _=>q)
end
structure dy where
 a:Addr
 dd:Addr
 l:Addr
 k:Int
 av:V
 kids:List V
 at_:V
abbrev AH.lay (σ:AH) (h:dy):AH:=σ.hole h.a h.dd h.l h.k h.av (h.kids ++ [.none]) h.at_
class inductive Lay (base:AH):List dy→AH→Prop
 | nil:Lay base [] base
 | cons {h:dy} {hs:List dy} {τ:AH}:Lay base hs τ→τ h.a=none→τ h.dd=none→τ h.l=none→h.a≠h.dd→h.a≠h.l→h.dd≠h.l→h.kids.length≤10→Lay base (h :: hs) (τ.lay h)
section
variable {c:Cx} {σ τ base:AH} {P:b9} {S S':c8}
theorem Ey {a dd l:Addr} {k av at_:V} {xs:List V} (h1:σ a=none) (h2:σ dd=none) (h3:a≠dd) (hl:σ l=some (.list xs)):
  b7 c (.ref a) (σ.mk a dd cH dq [k,av,.ref l,.int 0,at_,.int 0]) (.obj cH dq [k,av,.fl xs,.int 0,at_,.int 0]) (σ.del l):=by
 have la:l≠a:=fun e=>by subst e; rw [hl] at h1; cases h1
 have ld:l≠dd:=fun e=>by subst e; rw [hl] at h2; cases h2
 have e1:(σ.mk a dd cH dq [k,av,.ref l,.int 0,at_,.int 0]) l=some (.list xs):=by
  unfold AH.mk
  rw [AH.a8 _ _ la,AH.a8 _ _ ld]; exact hl
 have e2:((σ.mk a dd cH dq [k,av,.ref l,.int 0,at_,.int 0]).del l) dd=some (.ds dq [k,av,.ref l,.int 0,at_,.int 0]):=by rw [AH.cj ld.symm,AH.jC h3]
 have E1:=cF.vj (c:=c) (b7.fl e1) e2 (.tail (.tail .head)) (.tail (.tail .head):KP ("kids" : Str) (.fl xs) dq [k,av,.ref l,.int 0,at_,.int 0] [k,av,.fl xs,.int 0,at_,.int 0])
 have e3:(((σ.mk a dd cH dq [k,av,.ref l,.int 0,at_,.int 0]).del l).upd dd (.ds dq [k,av,.fl xs,.int 0,at_,.int 0]))=(σ.del l).mk a dd cH dq [k,av,.fl xs,.int 0,at_,.int 0]:=by
  funext b
  unfold AH.mk AH.del AH.upd
  by_cases q1:b=dd
  ·subst q1; simp [h3.symm]
  ·by_cases q2:b=a
   ·subst q2; simp [q1,la.symm]
   ·simp [q1,q2]
 rw [e3] at E1
 have n1:(σ.del l) a=none:=by rw [AH.cj la.symm]; exact h1
 have n2:(σ.del l) dd=none:=by rw [AH.cj ld.symm]; exact h2
 have E2:=b7.obj (c:=c) (AH.mz (σ:=σ.del l) (a:=a) (dd:=dd) (C:=cH) (ks:=dq) (vs:=[k,av,.fl xs,.int 0,at_,.int 0])) (AH.jC h3)
 rw [AH.Ai n1 n2 h3] at E2
 exact (E1.v).trans E2
theorem AH.It {a dd l b:Addr} {k:Int} {av:V} {kids:List V} {at_:V} (h1:b≠a) (h2:b≠dd) (h3:b≠l):(σ.hole a dd l k av kids at_) b=σ b:=by
 unfold AH.hole AH.mk
 rw [AH.a8 _ _ h1,AH.a8 _ _ h2,AH.a8 _ _ h3]
theorem AH.yd {a dd l b:Addr} {k:Int} {av:V} {kids:List V} {at_:V} {o:AO} (h1:b≠a) (h2:b≠dd) (h3:b≠l):(σ.hole a dd l k av kids at_).upd b o=(σ.upd b o).hole a dd l k av kids at_:=by
 unfold AH.hole AH.mk
 rw [AH.aF _ _ _ h1.symm,AH.aF _ _ _ h2.symm,AH.aF _ _ _ h3.symm]
theorem Lay.get {hs:List dy} (L:Lay base hs τ) {b:Addr} {o:AO} (hb:base b=some o):τ b=some o:=by
 induction L with
 | nil=>exact hb
 | @cons h hs τ L h1 h2 h3 _ _ _ _ ih=>
  have e1:b≠h.a:=fun e=>by rw [e,h1] at ih; cases ih
  have e2:b≠h.dd:=fun e=>by rw [e,h2] at ih; cases ih
  have e3:b≠h.l:=fun e=>by rw [e,h3] at ih; cases ih
  show (τ.hole h.a h.dd h.l h.k h.av (h.kids ++ [.none]) h.at_) b=_
  rw [AH.It e1 e2 e3]
  exact ih
theorem Lay.upd {hs:List dy} (L:Lay base hs τ) {b:Addr} {o o':AO} (hb:base b=some o):Lay (base.upd b o') hs (τ.upd b o'):=by
 induction L with
 | nil=>exact .nil
 | @cons h hs τ L h1 h2 h3 n1 n2 n3 n4 ih=>
  have hg:=L.get hb
  have e1:b≠h.a:=fun e=>by rw [e,h1] at hg; cases hg
  have e2:b≠h.dd:=fun e=>by rw [e,h2] at hg; cases hg
  have e3:b≠h.l:=fun e=>by rw [e,h3] at hg; cases hg
  show Lay _ _ ((τ.hole h.a h.dd h.l h.k h.av (h.kids ++ [.none]) h.at_).upd b o')
  rw [AH.yd e1 e2 e3]
  exact .cons ih (by rw [AH.a8 _ _ e1.symm]; exact h1) (by rw [AH.a8 _ _ e2.symm]; exact h2) (by rw [AH.a8 _ _ e3.symm]; exact h3) n1 n2 n3 n4
theorem Lay.set {hs:List dy} (L:Lay base hs τ) (hP:qp base P S) (S':c8):Lay (P.set base S') hs (P.set τ S'):=by
 unfold b9.set
 have L1:=L.upd (o':=.ds b8 (P.vals S')) hP.d
 exact L1.upd (o:=.list S.rows) (by rw [AH.a8 _ _ hP.ne.1.symm]; exact hP.r)
theorem Lay.pat {hs:List dy} (L:Lay base hs τ) (hP:qp base P S):qp τ P S:=⟨L.get hP.p,L.get hP.d,L.get hP.g,L.get hP.gd,L.get hP.r,hP.len⟩
theorem Gy {h:dy} {v:V} (h1:τ h.a=none) (h2:τ h.dd=none) (h3:τ h.l=none) (n1:h.a≠h.dd) (n2:h.a≠h.l) (n3:h.dd≠h.l):
  b7 c (.ref h.a) ((τ.lay h).upd h.l (.list (h.kids ++ [v]))) (node h.k h.av (h.kids ++ [v]) h.at_) τ:=by
 have e:(τ.lay h).upd h.l (.list (h.kids ++ [v]))=τ.hole h.a h.dd h.l h.k h.av (h.kids ++ [v]) h.at_:=by
  show (τ.hole h.a h.dd h.l h.k h.av (h.kids ++ [.none]) h.at_).upd h.l _=_
  unfold AH.hole AH.mk
  rw [AH.aF _ _ _ n2,AH.aF _ _ _ n3,AH.aU]
 rw [e]
 have k:=Ey (c:=c) (σ:=τ.upd h.l (.list (h.kids ++ [v]))) (a:=h.a) (dd:=h.dd) (l:=h.l) (k:=.int h.k) (av:=h.av) (at_:=h.at_) (xs:=h.kids ++ [v]) (by rw [AH.a8 _ _ n2]; exact h1) (by rw [AH.a8 _ _ n3]; exact h2) n1 (AH.a9 ..)
 rw [AH.dw h3] at k
 exact k
theorem Lay.top {h:dy}:(τ.lay h) h.a=some (.inst cH h.dd)∧(h.a≠h.dd→(τ.lay h) h.dd=some (.ds dq [.int h.k,h.av,.ref h.l,.int 0,h.at_,.int 0]))∧(h.a≠h.l→h.dd≠h.l→(τ.lay h) h.l=some (.list (h.kids ++ [.none]))):=by
 refine ⟨AH.mz,fun n1=>AH.jC n1,fun n2 n3=>?_⟩
 show (τ.hole h.a h.dd h.l h.k h.av (h.kids ++ [.none]) h.at_) h.l=_
 unfold AH.hole AH.mk
 rw [AH.a8 _ _ n2.symm,AH.a8 _ _ n3.symm,AH.a9]
end
structure cA where
 k:Int
 av:V
 kids:List V
 at_:V
def sj (P:b9) (i len:Nat) (h:cA):Prop:=
 (len=1∧∃ x pl,P.ts[i]?=some (.sign x,pl)∧KV x (.int h.k) bb bp∧h=⟨h.k,.str x,[],.int pl⟩) ∨
 (len=3∧∃ pl pl1 pl2,P.ts[i]?=some (.sign "(", pl)∧P.ts[i + 1]?=some (.word "int", pl1)∧P.ts[i + 2]?=some (.sign ")", pl2)∧h=⟨24,.str "", [br pl1],.int pl⟩) ∨
 (len=1∧∃ pl,P.ts[i]?=some (.name "await", pl)∧h=⟨31,.str "", [],.int pl⟩)
class inductive h9 (P:b9):Nat→List cA→Nat→Prop
 | nil {i:Nat}:h9 P i [] i
 | cons {i len j:Nat} {h:cA} {hs:List cA}:sj P i len h→h9 P (i + len) hs j→h9 P i (h :: hs) j
def mi (P:b9) (i:Nat):Prop:=∃ t,P.ts[i]?=some t∧(t.1.iL=true∨(t.1=.sign "(" ∧ ∃ t',P.ts[i + 1]?=some t'∧t'.1.sort≠2∧t'.1.sort≠1))
structure PC (P:b9) (S:c8):Prop where
 parts:P.parts=.e9 cS cU
 asy:S.asy=true
 deep:S.deep + 1≤40
 rows:S.rows.length≤900
def wrap:List cA→V→V
 | [],v=>v
 | h :: hs,v=>node h.k h.av (h.kids ++ [wrap hs v]) h.at_
section
variable {b:Bs} {n:Nat} {hd:Option Addr} {σ τ:AH} {Φ:Pv} {Ψ:Addr→AH→Prop} {P:b9} {S S' S₀ S₁:c8} {X:XX} {r:Fm} {t t':T×Int} {x:Str} {k:Int} {Y:Fm→Addr→AH→Prop} {v:V} {Θ:Ph} {lh:Addr} {o:AO}
theorem PC.on {i:Nat} (h:PC P S):PC P { S with i:=i }:=⟨h.parts,h.asy,h.deep,h.rows⟩
theorem qp.tc {f:Value} {xs:List V} (h:qp τ P S) (q:TC b n hd f xs (P.set τ S) Φ Ψ):TC b n hd f xs τ Φ Ψ:=by rwa [h.gc] at q
theorem yf (h:qp τ P S) (C:PC P S) {len:Nat} {w:cA} (hp:sj P S.i len w) (q:∀ y υ,nP (P.set τ { S with i:=S.i + len }) w.k w.av (w.kids ++ [.none]) w.at_ y υ→Φ y υ):TC b (n + 12) none (.ref 673) [.ref P.ap] τ Φ Ψ:=by
 refine h.tc ?_
 rcases hp with ⟨rfl,x,pl,g1,g2,g3⟩ | ⟨rfl,pl,pl1,pl2,g1,g2,g3,g4⟩ | ⟨rfl,pl,g1,g2⟩
 ·rw [g3] at q; exact xY (.mk h) g1 g2 q
 ·rw [g4] at q; exact mq (.mk h) g1 (J4 (.mk h) C.parts C.deep C.rows g1 g2 g3 q)
 ·rw [g2] at q; exact wu (.mk h) g1 C.asy q
theorem zk (h:qp τ P S) (C:PC P S) (hp:mi P S.i) (q:Φ .none τ):TC b (n + 12) none (.ref 673) [.ref P.ap] τ Φ Ψ:=by
 refine h.tc ?_
 rw [← h.gc] at q
 obtain ⟨t,ht,hn | ⟨hn,t',ht',h2,h1⟩⟩:=hp
 ·exact z1 (.mk h) ht hn q
 ·obtain ⟨t,pl⟩:=t
  dsimp only at hn
  subst hn
  exact mq (.mk h) ht (Fc (.mk h) C.parts C.deep C.rows ht ht' h2 h1 q)
theorem Ci (xs:List cA) (s:cA) (w:V):wrap (xs ++ [s]) w=wrap xs (node s.k s.av (s.kids ++ [w]) s.at_):=by
 induction xs with
 | nil=>rfl
 | cons x xs ih=>exact congrArg (fun u=>node x.k x.av (x.kids ++ [u]) x.at_) ih
def dy.spec (h:dy):cA:=⟨h.k,h.av,h.kids,h.at_⟩
abbrev refs (D:List dy):List V:=(D.reverse.map fun h=>.ref h.a)
theorem Bc {xs:List V} {a:Addr} {Φ:Bool→AH→Prop} (h:σ a=some (.list xs)) (hl:xs.length≤1000000) (q:Φ (!xs.isEmpty) σ):QF (.ref a) σ Φ:=by
 show OX _ _ _
 unfold OX; exact ⟨xs,.ref h,hl,q⟩
theorem zL {a:Addr} {i:Int} {w:V} {xs:List V} {k:AH→Prop} (hs:σ a=some (.list xs)) (h0:i < 0) (h1:-(xs.length:Int)≤i) (hl:xs.length≤100000) (q:k (σ.upd a (.list (xs.set (i + xs.length).toNat w)))):wF (.ref a) (.int i) w σ k:=by
 unfold wF; exact ⟨_,.neg hs h0 h1 hl,q⟩
abbrev PM (P:b9) (lh:Addr) (hv nv:Option V):Fm:=[some (.ref P.ap),some (.ref lh),hv,nv]
inductive Ra (b0:AH) (P:b9) (lh:Addr) (W:V):Nat→Fm→AH→Prop
 | mk {D:List dy} {w hv:V} {υ:AH}:D.length≤50→Lay (b0.upd lh (.list (refs D))) D υ→wrap (D.reverse.map dy.spec) w=W→Ra b0 P lh W D.length (PM P lh (some hv) (some w)) υ
theorem Hy (l:List V) (x w:V):(l ++ [x]).set ((-1:Int) + ((l ++ [x]).length:Int)).toNat w=l ++ [w]:=by
 have:((-1:Int) + ((l ++ [x]).length:Int)).toNat=l.length:=by simp; omega
 rw [this]; simp
theorem MT {base:AH} {hv:V} (D:List dy) (hD:D.length≤50) (L:Lay (base.upd lh (.list (refs D))) D τ) (q:Φ (wrap (D.reverse.map dy.spec) v) (base.upd lh (.list []))):
  WW (xT (xL 1)) gX gW ⟨b,n,none,Y⟩ (PM P lh (some hv) (some v)) τ (aZ Φ):=by
 refine ww (Ra base P lh (wrap (D.reverse.map dy.spec) v)) D.length (.mk hD L rfl) ?_
 clear L
 intro m r υ B
 cases B with
 | @mk D' w hv' _ hm50 L' hw=>
 have hlh:υ lh=some (.list (refs D')):=L'.get (AH.a9 ..)
 refine Bc hlh (by simp; omega) ?_
 cases D' with
 | nil=>
  cases L'
  rw [← hw] at q
  exact q
 | cons h D'=>
  refine eH (by simp) ?_
  cases L' with
  | @cons _ _ υ' L' q1 q2 q3 n1 n2 n3 n4=>
  have hlh':υ' lh=some (.list (refs (h :: D'))):=L'.get (AH.a9 ..)
  have e1:lh≠h.a:=fun e=>by rw [e,q1] at hlh'; cases hlh'
  have e2:lh≠h.dd:=fun e=>by rw [e,q2] at hlh'; cases hlh'
  have e3:lh≠h.l:=fun e=>by rw [e,q3] at hlh'; cases hlh'
  have eU:(υ'.lay h).upd lh (.list (refs D'))=(υ'.upd lh (.list (refs D'))).lay h:=AH.yd e1 e2 e3
  have L2:Lay (base.upd lh (.list (refs D'))) D' (υ'.upd lh (.list (refs D'))):=by
   have:=L'.upd (b:=lh) (o':=.list (refs D')) (AH.a9 ..)
   rwa [AH.aU] at this
  obtain ⟨t1,t2,t3⟩:=Lay.top (τ:=υ'.upd lh (.list (refs D'))) (h:=h)
  refine tT hlh (mT (xs:=refs D') (v:=.ref h.a) (by rw [hlh]; simp [refs]) (by have:D'.length + 1≤50:=hm50; simp [refs]; omega) ?_)
  rw [eU]
  have go:∀ {k:AH→Prop},k (((υ'.upd lh (.list (refs D'))).lay h).upd h.l (.list (h.kids ++ [w])))→OG b (.ref h.a) ((υ'.upd lh (.list (refs D'))).lay h) "kids" fun v σ=>wF v (.int (-1)) w σ k:=fun hk=>by
   unfold OG
   exact ⟨_,.inst (.ref t1 (t2 n1)) (gy b.hK) (.tail (.tail .head)),(fun _ e=>by cases e),zL (t3 n2 n3) (by omega) (by rw [List.length_append,List.length_singleton]; omega) (by rw [List.length_append,List.length_singleton]; omega) (by rw [Hy]; exact hk)⟩
  refine go ⟨_,_,Gy (by rw [AH.a8 _ _ e1.symm]; exact q1) (by rw [AH.a8 _ _ e2.symm]; exact q2) (by rw [AH.a8 _ _ e3.symm]; exact q3) n1 n2 n3,D'.length,Nat.lt_succ_self _,.mk (Nat.le_of_succ_le hm50) L2 ?_⟩
  rw [← hw,List.reverse_cons,List.map_append,List.map_cons,List.map_nil,Ci]
  rfl
end
section
variable {b:Bs} {n:Nat} {hd:Option Addr} {σ τ:AH} {Φ:Pv} {Ψ:Addr→AH→Prop} {P:b9} {S S' S₀ S₁ S₂:c8} {X:XX} {r:Fm} {t t':T×Int} {x:Str} {k:Int} {Y:Fm→Addr→AH→Prop} {v:V} {Θ:Ph} {lh:Addr} {o:AO}
theorem PG.set_set (h:PG P σ):P.set (P.set σ S₁) S₂=P.set σ S₂:=by
 unfold b9.set
 rw [AH.aF _ _ _ h.ne.symm,AH.aU,AH.aU]
theorem PG.upd (h:PG P σ) (hl:σ lh=none):P.set (σ.upd lh o) S=(P.set σ S).upd lh o∧(P.set σ S) lh=none:=by
 cases h with | mk h=>
 have hd:lh≠P.dp:=fun e=>by rw [e,h.d] at hl; cases hl
 have hr:lh≠P.dr:=fun e=>by rw [e,h.r] at hl; cases hl
 unfold b9.set
 rw [AH.aF _ _ _ hd,AH.aF _ _ _ hr,AH.a8 _ _ hr,AH.a8 _ _ hd]
 exact ⟨rfl,hl⟩
abbrev Oa (P:b9) (σ:AH) (S:c8) (lh:Addr) (D:List dy) (i:Nat):AH:=P.set (σ.upd lh (.list (refs D))) { S with i:=i }
inductive NH (P:b9) (σ:AH) (S:c8) (lh:Addr) (hs:List cA) (j:Nat):Nat→V→AH→Prop
 | more {D:List dy} {h:dy} {rest:List cA} {i:Nat} {υ:AH}:Lay (Oa P σ S lh D i) (h :: D) υ→h9 P i rest j→D.reverse.map dy.spec ++ h.spec :: rest=hs→NH P σ S lh hs j (rest.length + 1) (.ref h.a) υ
 | done {D:List dy} {υ:AH}:Lay (Oa P σ S lh D j) D υ→D.reverse.map dy.spec=hs→NH P σ S lh hs j 0 .none υ
theorem jl (h:PG P σ) (hl:σ lh=none) (C:PC P S) {D:List dy} {i j:Nat} {rest hs:List cA} (hks:∀ w∈hs,w.kids.length≤10) (hg:PG P (σ.upd lh (.list (refs D))))
  (L:Lay (Oa P σ S lh D i) D τ) (H:h9 P i rest j) (hn:rest=[]→mi P j) (e:D.reverse.map dy.spec ++ rest=hs) (q:∀ y υ,NH P σ S lh hs j rest.length y υ→Φ y υ):TC b (n + 12) none (.ref 673) [.ref P.ap] τ Φ Ψ:=by
 have hb:=hg.at { S with i:=i }
 have hτ:=L.pat hb
 cases H with
 | nil=>exact zk hτ C.on (hn rfl) (q _ _ (.done L (by rw [← e,List.append_nil])))
 | @cons _ len _ w rest hp H'=>
  refine yf hτ C.on hp fun y υ hh=>?_
  cases hh with
  | @mk a dd l q1 q2 q3 n1 n2 n3=>
   refine q _ _ (.more (D:=D) (h:=⟨a,dd,l,w.k,w.av,w.kids,w.at_⟩) (i:=i + len) ?_ H' e)
   have L2:=L.set hb { S with i:=i + len }
   rw [hg.set_set] at L2
   exact .cons (h:=⟨a,dd,l,w.k,w.av,w.kids,w.at_⟩) L2 q1 q2 q3 n1 n2 n3 (hks w (by rw [← e]; simp))
theorem BG {base:AH} {h:dy} {D:List dy} (L:Lay (base.upd lh (.list (refs D))) (h :: D) τ):τ lh=some (.list (refs D))∧Lay (base.upd lh (.list (refs (h :: D)))) (h :: D) (τ.upd lh (.list (refs D ++ [.ref h.a]))):=by
 refine ⟨L.get (AH.a9 ..),?_⟩
 have er:refs D ++ [.ref h.a]=refs (h :: D):=by simp [refs]
 have:=L.upd (b:=lh) (o':=.list (refs (h :: D))) (AH.a9 ..)
 rw [er]; rwa [AH.aU] at this
theorem se {A:Prop} (h:PG P σ) (C:PC P S) {hs:List cA} {j:Nat} (H:h9 P S.i hs j) (hn:mi P j) (hlen:hs.length≤40) (hks:∀ w∈hs,w.kids.length≤10)
  (hp:∀ {υ:AH} {Φ:Pv},PG P υ→(A→Φ v (P.set υ S₁))→TC b (n + 12) none (.ref 694) [.ref P.ap] (P.set υ { S with i:=j }) Φ Ψ) (q:A→Φ (wrap hs v) (P.set σ S₁)):TC b (n + 13) none (.ref 666) [.ref P.ap] (P.set σ S) Φ Ψ:=by
 refine .ent (kD fun lh hl=>?_)
 obtain ⟨hl',e0,_⟩:=h.fresh (o:=.list []) hl
 have hG:∀ o,PG P (σ.upd lh o):=fun o=>(h.fresh (o:=o) hl).2.2
 rw [e0]
 refine jl h hl' C hks (D:=[]) (hG _) .nil H (fun _=>hn) rfl fun y υ hI=>ww (fun k r τ=>∃ y,NH P σ S lh hs j k y τ∧r=PM P lh (some y) none) hs.length ⟨y,hI,rfl⟩ ?_
 rintro k r τ ⟨y,hI,rfl⟩
 cases hI with
 | @more D w rest i _ L H' e=>
  have hDl:=congrArg List.length e
  simp at hDl
  have eg:∀ D i,Oa P σ S lh D i=(P.set σ { S with i:=i }).upd lh (.list (refs D)):=fun D i=>(h.upd hl').1
  rw [eg] at L
  obtain ⟨g1,g2⟩:=BG L
  rw [← eg] at g2
  refine tT g1 (c5 g1 (by simp; omega) (cD (.ref (AH.a9 ..)) (by simp; omega) (j4 (n:=n + 11) (by simp; omega) (jl h hl' C hks (D:=w :: D) (hG _) g2 H' (fun _=>hn) (by rw [List.reverse_cons,List.map_append,List.append_assoc]; exact e) fun y υ hI=>⟨rest.length,Nat.lt_succ_self _,y,hI,rfl⟩))))
 | @done D _ L e=>
  have hDl:=congrArg List.length e
  simp at hDl
  have hb:=(hG (.list (refs D))).at { S with i:=j }
  refine (L.pat hb).tc (hp (.mk (L.pat hb)) fun a=>?_)
  have L2:=L.set hb S₁
  rw [(hG _).set_set,(h.upd hl').1] at L2
  refine MT D (by omega) L2 ⟨_,_,(cF.drop fun c o hb=>?_).v,by rw [e]; exact q a⟩
  rw [AH.a8 _ _ fun e=>by rw [e,(h.upd (o:=.list []) hl').2] at hb; cases hb]; exact hb
theorem Ay (h:PG P σ) (C:PC P S) {hs:List cA} {j:Nat} (H:h9 P S.i hs j) (ht:P.ts[j]?=some t) (hlen:hs.length=41) (hks:∀ w∈hs,w.kids.length≤10):TC b (n + 13) none (.ref 666) [.ref P.ap] (P.set σ S) Φ (rN P S.rows t.2):=by
 refine kD fun lh hl=>?_
 obtain ⟨hl',e0,_⟩:=h.fresh (o:=.list []) hl
 have hG:∀ o,PG P (σ.upd lh o):=fun o=>(h.fresh (o:=o) hl).2.2
 rw [e0]
 refine jl h hl' C hks (D:=[]) (hG _) .nil H (fun e=>by rw [e] at hlen; cases hlen) rfl fun y υ hI=>ww (fun k r τ=>∃ y,NH P σ S lh hs j k y τ∧k≠0∧r=PM P lh (some y) none) hs.length ⟨y,hI,by omega,rfl⟩ ?_
 rintro k r τ ⟨y,hI,hk0,rfl⟩
 cases hI with
 | @more D w rest i _ L H' e=>
  have hDl:=congrArg List.length e
  simp at hDl
  have eg:∀ D i,Oa P σ S lh D i=(P.set σ { S with i:=i }).upd lh (.list (refs D)):=fun D i=>(h.upd hl').1
  rw [eg] at L
  obtain ⟨g1,g2⟩:=BG L
  rw [← eg] at g2
  refine tT g1 (c5 g1 (by simp; omega) (cD (.ref (AH.a9 ..)) (by simp; omega) ?_))
  cases rest with
  | nil=>
   cases H' with | nil=>
   have hb:=(hG (.list (refs (w :: D)))).at { S with i:=j }
   exact (g2.pat hb).tc (jP (n:=n + 9) (.mk (g2.pat hb)) ht (by simp; simp at hDl; omega))
  | cons w' rest=>
   exact j4 (n:=n + 11) (by simp; simp at hDl; omega) (jl h hl' C hks (D:=w :: D) (hG _) g2 H' (fun e=>by cases e) (by rw [List.reverse_cons,List.map_append,List.append_assoc]; exact e) fun y υ hI=>⟨_,Nat.lt_succ_self _,y,hI,by simp,rfl⟩)
 | done=>exact absurd rfl hk0
end
abbrev ao:List Str:=[".", "(", "[", "++", "--", "?."]
abbrev el:List V:=[.obj kJ [] [],.obj rY [] [],.obj oU [] [],.obj jV [] [],.obj jV [] [],.obj BY [] []]
inductive Ds (b:Bs) (n:Nat) (P:b9) (S:c8):Nat→Nat→V→V→Prop
 | mk {i i':Nat} {v v':V} {t:T×Int} {C f:Addr}:P.ts[i]?=some t→KV t.1.key (.obj C [] []) ao el→aA b.c.K C "take" f=true→(∀ {σ:AH} {Φ:Pv} {Ψ:Addr→AH→Prop},PG P σ→Φ v' (P.set σ { S with i:=i' })→TC b n none (.ref f) [.obj C [] [],.ref P.ap,v] (P.set σ { S with i:=i }) Φ Ψ)→Ds b n P S i i' v v'
class inductive eC (b:Bs) (n:Nat) (P:b9) (S:c8):Nat→V→Nat→Nat→V→Prop
 | nil {i:Nat} {v:V}:eC b n P S i v 0 i v
 | cons {i i' j m:Nat} {v v' w:V}:Ds b n P S i i' v v'→eC b n P S i' v' m j w→eC b n P S i v (m + 1) j w
abbrev QZ (P:b9) (k:Str) (v:V) (links:Int):Fm:=[some (.ref P.ap),some (.str k),some v,some (.int links)]
section
variable {b:Bs} {n:Nat} {hd:Option Addr} {σ τ:AH} {Φ:Pv} {Ψ:Addr→AH→Prop} {P:b9} {S S' S₀ S₁ S₂:c8} {X:XX} {r:Fm} {t t':T×Int} {x:Str} {k:Int} {Y:Fm→Addr→AH→Prop} {v w:V}
theorem rn {ks:List Str} {vs:List V} (h:PG P σ) (e:P.tails=.aH ks vs) (q:Φ (.aH ks vs) (P.set σ S)):OG b (.ref P.ap) (P.set σ S) "tails" Φ:=by
 rw [← e] at q; exact vg h (i7 b.hK) (.tail (.tail (.tail (.tail (.tail .head))))) (fun _ e'=>by rw [e] at e'; cases e') q
theorem jq {ks:List Str} {vs:List V} (h:PG P σ) (e:P.firsts=.aH ks vs) (q:Φ (.aH ks vs) (P.set σ S)):OG b (.ref P.ap) (P.set σ S) "firsts" Φ:=by
 rw [← e] at q; exact vg h (fQ b.hK) (.tail (.tail (.tail (.tail .head)))) (fun _ e'=>by rw [e] at e'; cases e') q
inductive Ro (b:Bs) (n:Nat) (P:b9) (σ:AH) (S:c8) (j:Nat) (w:V) (m:Nat):Nat→Fm→AH→Prop
 | mk {l c i:Nat} {v:V} {k:Str}:c + l=m→eC b n P S i v l j w→Ro b n P σ S j w m l (QZ P k v (c:Nat)) (P.set σ { S with i:=i })
theorem zF {m i j:Nat} {k:Str} (h:PG P σ) (htl:P.tails=.aH ao el) (Hc:eC b (n + 11) P S i v m j w) (hm:m≤40) (ht:P.ts[j]?=some t)
  (hend:t.1.key∉ao∨(m=40∧t.1.key∈ao∧∀ a σ',rN P S.rows t.2 a σ'→Ψ a σ')) (q:t.1.key∉ao→Φ w (P.set σ { S with i:=j })):
  WW (xT (xK (.bool true))) eT bN ⟨b,n + 11,none,fun _=>Ψ⟩ (QZ P k v 0) (P.set σ { S with i:=i }) (aZ Φ):=by
 refine ww (Ro b (n + 11) P σ S j w m) m (.mk (c:=0) (Nat.zero_add _) Hc) ?_
 clear Hc
 intro l r τ B
 cases B with
 | @mk c i v k hl Hc=>
 cases Hc with
 | nil=>
  refine aY h ht (jo (rn h htl (DJ (.ds .aH) ?_)))
  by_cases hin:t.1.key∈ao
  ·rcases hend with hh | ⟨h40,_,hD⟩
   ·exact absurd hin hh
   ·exact aL (by rw [decide_eq_true hin]; rfl) ((jP (n:=n + 8) h ht (by omega)).mono (fun _ _ h=>h) hD)
  ·exact eH (by rw [decide_eq_false hin]; rfl) (q hin)
 | @cons _ i' _ m' _ v' _ st Hc'=>
  cases st with
  | mk h1 kv hm2 hs=>
  rename_i t1 _ _
  refine aY h h1 (jo (rn h htl (DJ (.ds .aH) (aL (by rw [kv.dec]; rfl) (j4 (n:=n + 10) (by omega) (rn h htl (ij (.ds .aH kv) (fun _ e=>by cases e) (CG .obj hm2 (by simp) (hs h ⟨m',Nat.lt_succ_self _,.mk (c:=c + 1) ((Nat.add_right_comm ..).trans hl) Hc'⟩)))))))))
theorem s9 {ks:List Str} {vs:List V} {C0 f0:Addr} {k0:List Str} {v0:List V} {m i1 j:Nat} {t0:T×Int} (h:PG P σ) (htl:P.tails=.aH ao el) (hfi:P.firsts=.aH ks vs)
  (ht0:P.ts[S.i]?=some t0) (kv0:KV t0.1.key (.obj C0 k0 v0) ks vs) (hne:t0.1.key ≠ "=>") (hm0:aA b.c.K C0 "take" f0=true) (hk0:("take" : Str)∉k0)
  (h0:∀ {Φ:Pv},Φ v (P.set σ { S with i:=i1 })→TC b (n + 11) none (.ref f0) [.obj C0 k0 v0,.ref P.ap] (P.set σ S) Φ Ψ)
  (Hc:eC b (n + 11) P S i1 v m j w) (hm:m≤40) (ht:P.ts[j]?=some t)
  (hend:t.1.key∉ao∨(m=40∧t.1.key∈ao∧∀ a σ',rN P S.rows t.2 a σ'→Ψ a σ')) (q:t.1.key∉ao→Φ w (P.set σ { S with i:=j })):TC b (n + 12) none (.ref 694) [.ref P.ap] (P.set σ S) Φ Ψ:=
 rE (aY h ht0 (jo (jq h hfi (DJ (.ds .aH) (aL (by rw [kv0.dec]; rfl) (aL (beq_false_of_ne hne) (jq h hfi (ij (.ds .aH kv0) (fun _ e=>by cases e) (CG .obj hm0 hk0 (h0 (zF h htl Hc hm ht hend q)))))))))))
inductive ja:V→V→Prop
 | mk {k:Int} {a at_:V} {kids:List V}:ja (node k a kids at_) at_
theorem ja.og {at_:V} (h:ja v at_) (nb:∀ id,at_≠.bi id) (q:Φ at_ σ):OG b v σ "at" Φ:=by
 cases h
 exact gJ (zt b.hK) (.tail (.tail (.tail (.tail .head)))) nb q
theorem LQ {C:Addr} {ks:List Str} {vs:List V} (ga:bB b.c.K C x=true) (kv:KV x w ks vs) (nb:∀ id,w≠.bi id) (q:Φ w σ):OG b (.obj C ks vs) σ x Φ:=by
 unfold OG; exact ⟨_,.inst .obj ga kv,nb,q⟩
theorem xb {pl:Int} (h:PG P σ) (ht:P.ts[S.i]?=some (.num,pl)) (q:Φ (node 1 (.tup [.int 7,.str ""]) [] (.int pl)) (P.set σ { S with i:=S.i + 1 })):TC b (n + 11) none (.ref 715) [.obj eY ["kind"] [.int 1],.ref P.ap] (P.set σ S) Φ Ψ:=
 nC (bt h ht (fun e=>by cases e) (LQ (mu b.hK) .head (fun _ e=>by cases e) (Bi (n:=n + 7) q)))
theorem CL {pl:Int} {left at_:V} (h:PG P σ) (hn:ja left at_) (nb:∀ id,at_≠.bi id) (ht:P.ts[S.i]?=some (.sign x,pl)) (q:Φ (node 19 (.str x) [left] at_) (P.set σ { S with i:=S.i + 1 })):TC b (n + 11) none (.ref 1030) [.obj jV [] [],.ref P.ap,left] (P.set σ S) Φ Ψ:=
 pQ (bt h ht (fun e=>by cases e) (hn.og nb (ck (n:=n + 7) q)))
theorem oN (h:Txt.slice x none (some 1) ≠ "@") (hl:x.length≤1000) (q:Φ (.str x) σ):TC b (n + 1) none (.ref 119) [.str x] σ Φ Ψ:=zK (.inr ⟨x,rfl,rfl,by omega,aL (beq_false_of_ne h) q⟩)
theorem zq (h:PG P σ) (ht:P.ts[S.i]?=some t) (hn:t.1.is 6 "<" = false) (q:Φ .none (P.set σ S)):TC b (n + 8) none (.ref 791) [.ref P.ap] (P.set σ S) Φ Ψ:=g9 (bP (n:=n + 5) h ht (aL hn q))
theorem Bound.of {a:Addr} {σ':AH} (d:Bound P S₁ (P.set σ S₁) a σ') (hr:S₁.rows=S.rows):Bound P S (P.set σ S) a σ':=by
 obtain ⟨dd,S',more,g1,g2,g3,g4,g5⟩:=d
 refine ⟨dd,S',more,g1,by rw [g2,hr],g3,fun b o q1 q2 hb=>g4 b o q1 q2 ?_,g5⟩
 unfold b9.set at hb ⊢
 rw [AH.a8 _ _ q2,AH.a8 _ _ q1] at hb ⊢; exact hb
theorem ER (h:PG P σ) (ht:P.ts[S.i]?=some t) (hr:S.rows.length≤1000) (hx:t.1.is 6 x=false) (hn:x∉bZ):TC b (n + 6) none (.ref 282) [.ref P.ap,.str x] (P.set σ S) Φ (Bound P S (P.set σ S)):=
 eG (oW (gG (n:=n + 1) h ht (.inr (.inr rfl)) (aL hx (by
  rw [hx]
  exact eP (.ds .aH) (aL (decide_eq_false hn) (cQ h (iR b.hK) (by decide +kernel) (yW h ht hr)))))))
inductive iu (P:b9) (i:Nat):Prop
 | sign {pl:Int} {t1:T×Int}:P.ts[i]?=some (.sign "<", pl)→P.ts[i + 1]?=some t1→t1.1.sort≠2→t1.1.sort≠1→t1.1.is 6 ">" = false→t1.1.is 6 "," = false→iu P i
 | name {pl pl1:Int} {x:Str} {t2:T×Int}:P.ts[i]?=some (.sign "<", pl)→P.ts[i + 1]?=some (.name x,pl1)→P.ts[i + 2]?=some t2→t2.1.is 6 "<" = false→t2.1.is 6 "[" = false→t2.1.is 6 "?" = false→t2.1.is 6 "," = false→t2.1.is 6 ">" = false→iu P i
theorem FG (h:PG P σ) (C:PC P S) (hn:iu P S.i):TC b (n + 10) none (.ref 469) [.ref P.ap] (P.set σ S) Φ (Bound P S (P.set σ S)):=by
 have hr:=C.rows
 cases hn with
 | sign h0 h1 g2 g1 q1 q2=>
  exact fX (mI (n:=n + 4) h h0 (by rw [sgn]; decide +kernel) (bP (n:=n + 7) (S:={ S with i:=S.i + 1 }) h h1 (aL q1 (bP (n:=n + 7) (S:={ S with i:=S.i + 1 }) h h1 (aL q2
   (cQ h (cL b.hK) (by decide +kernel) ((uF (S:={ S with i:=S.i + 1 }) h C.parts C.deep h1 (by show S.rows.length≤1000; omega) g2 g1).mono (fun _ _ h=>h) fun a σ' hb=>hb.of rfl)))))))
 | @name pl pl1 x t2 h0 h1 ht2 q1 q2 q3 q4 q5=>
  refine fX (mI (n:=n + 4) h h0 (by rw [sgn]; decide +kernel) (bP (n:=n + 7) (S:={ S with i:=S.i + 1 }) h h1 (bP (n:=n + 7) (S:={ S with i:=S.i + 1 }) h h1
   (cQ h (cL b.hK) (by decide +kernel) (y4 (S:={ S with i:=S.i + 1 }) h C.parts C.deep ht2 q2 q3 (zP (S:={ S with i:=S.i + 1,deep:=S.deep + 1 }) h h1 ht2 q1) ?_)))))
  refine ww (fun k r τ=>k=0∧τ=P.set σ { S with i:=S.i + 1 + 1 }∧r=[some (.ref P.ap),some (.fl [node 40 (.str x) [] (.int pl1)])]) 0 ⟨rfl,rfl,rfl⟩ ?_
  rintro k r τ ⟨rfl,rfl,rfl⟩
  exact zm (n:=n + 5) (S:={ S with i:=S.i + 1 + 1 }) h ht2 (aL q4 (by
   rw [q4]
   exact cQ h (aN b.hK) (by decide +kernel) ((ER (n:=n + 3) (S:={ S with i:=S.i + 1 + 1 }) h ht2 (by show S.rows.length≤1000; omega) q5 (by decide +kernel)).mono (fun _ _ h=>h) fun a σ' hb=>hb.of rfl)))
theorem BV (h:PG P σ) (C:PC P S) (hn:iu P S.i) (q:Φ .none (P.set σ S)):TC b (n + 12) none (.ref 791) [.ref P.ap] (P.set σ S) Φ Ψ:=by
 have hr:=C.rows
 obtain ⟨pl,h0⟩:∃ pl,P.ts[S.i]?=some (.sign "<", pl):=by cases hn <;> exact ⟨_,by assumption⟩
 refine g9 (bP (n:=n + 9) h h0 (p7 (lz h (by omega) (aY h h0 ((FG (Φ:=fun _ _=>False) h C hn).mono (fun _ _ h=>h.elim) fun a σ' ⟨dd,S',more,g1,g2,g3,g4,g5⟩=>Rl g5 ?_)))))
 have g6:=g1.gc
 rw [← g6] at g5
 rw [← g6]
 exact cQ (.mk g1) (fm b.hK) (by decide +kernel) (v7 (n:=n + 8) (.mk g1) g2 (by rw [g2,List.length_append]; omega) (fun p hp=>⟨⟨_,_,g5⟩,hp⟩) (O6 (g1.sub h g4) q))
end
section
variable {b:Bs} {n:Nat} {hd:Option Addr} {σ τ:AH} {Φ:Pv} {Ψ:Addr→AH→Prop} {P:b9} {S S' S₀ S₁ S₂:c8} {X:XX} {r:Fm} {t t':T×Int} {x:Str} {k:Int} {Y:Fm→Addr→AH→Prop} {v w:V}
inductive eQ (P:b9) (i:Nat):Prop
 | no {t:T×Int}:P.ts[i]?=some t→t.1.is 6 "<" = false→eQ P i
 | bad:iu P i→eQ P i
theorem zc (h:PG P σ) (C:PC P S) (hn:eQ P S.i) (q:Φ .none (P.set σ S)):TC b (n + 12) none (.ref 791) [.ref P.ap] (P.set σ S) Φ Ψ:=by
 cases hn with
 | no ht hn=>exact zq (n:=n + 4) h ht hn q
 | bad hn=>exact BV h C hn q
def g8 (x:Str):Prop:=Txt.slice x none (some 1) ≠ "@" ∧ x.length≤1000
theorem Ca {pl:Int} (h:PG P σ) (C:PC P S) (hx:g8 x) (ht:P.ts[S.i]?=some (.name x,pl)) (hn:eQ P (S.i + 1)) (q:Φ (node 7 (.str x) [.none] (.int pl)) (P.set σ { S with i:=S.i + 1 })):TC b (n + 13) none (.ref 779) [.obj ke [] [],.ref P.ap] (P.set σ S) Φ Ψ:=
 qd (bt (n:=n + 10) h ht (fun e=>by cases e) (oN (n:=n + 11) hx.1 hx.2 (zc (S:={ S with i:=S.i + 1 }) h C.on hn (ck (n:=n + 9) q))))
theorem vP {pl:Int} (h:PG P σ) (hx:g8 x) (ht:P.ts[S.i]?=some (.name x,pl)) (q:Φ (.str x) (P.set σ { S with i:=S.i + 1 })):TC b (n + 3) none (.ref 296) [.ref P.ap] (P.set σ S) Φ Ψ:=
 jU (aY h ht (bt h ht (fun e=>by cases e) (oN (n:=n + 1) hx.1 hx.2 q)))
theorem xd {pl pl1:Int} {left at_:V} (h:PG P σ) (C:PC P S) (hx:g8 x) (hn:ja left at_) (nb:∀ id,at_≠.bi id) (h0:P.ts[S.i]?=some (.sign ".", pl)) (h1:P.ts[S.i + 1]?=some (.name x,pl1)) (he:eQ P (S.i + 2)) (q:Φ (node 11 (.str x) [left,.none] at_) (P.set σ { S with i:=S.i + 2 })):
  TC b (n + 13) none (.ref 973) [.obj kJ [] [],.ref P.ap,left] (P.set σ S) Φ Ψ:=
 lE (bt (n:=n + 10) h h0 (fun e=>by cases e) (cQ h (jW b.hK) (by decide +kernel) (vP (n:=n + 9) (S:={ S with i:=S.i + 1 }) h hx h1 (zc (S:={ S with i:=S.i + 1 + 1 }) h C.on he (hn.og nb (ck (n:=n + 9) q))))))
theorem PG.fl {l:Addr} {xs:List V} (h:PG P σ) (hl:σ l=none):b7 b.c (.ref l) (P.set (σ.upd l (.list xs)) S) (.fl xs) (P.set σ S):=by
 have:=b7.fl (c:=b.c) (AH.a9 (P.set σ S) l (.list xs))
 rw [AH.dw (h.upd (o:=.list []) hl).2,← (h.upd hl).1] at this
 exact this
theorem EY {at_:V} {xs:List V} (q:Φ (node 110 (.str "") xs at_) σ):TC b (n + 3) hd (.ref 105) [.fl xs,at_] σ Φ Ψ:=zU (rA q)
theorem C8 {o q':Str} {pl pl1:Int} (h:PG P σ) (h0:P.ts[S.i]?=some (.sign o,pl)) (h1:P.ts[S.i + 1]?=some (.sign q',pl1)) (q:Φ (node 110 (.str "") [] (.int pl)) (P.set σ { S with i:=S.i + 2 })):TC b (n + 6) none (.ref 945) [.ref P.ap,.str o,.str q'] (P.set σ S) Φ Ψ:=by
 refine oO (aY h h0 (cQ h (aN b.hK) (by decide +kernel) (dv (n:=n) h h0 (by rw [sgn,beq_self_eq_true]) fun l hl=>?_)))
 obtain ⟨hl',e0,h'⟩:=h.fresh (o:=.list []) hl
 rw [e0]
 exact cQ h' (dG b.hK) (by decide +kernel) (jR (n:=n + 3) (S:={ S with i:=S.i + 1 }) h' h1 (aL (by rw [sgn,beq_self_eq_true]; rfl) (cQ h' (aN b.hK) (by decide +kernel) (dv (n:=n) (S:={ S with i:=S.i + 1 }) h' h1 (by rw [sgn,beq_self_eq_true]) ⟨_,_,h.fl hl',EY (n:=n + 2) q⟩))))
theorem D1 {pl pl1:Int} {left at_:V} (h:PG P σ) (C:PC P S) (hn:ja left at_) (nb:∀ id,at_≠.bi id) (h0:P.ts[S.i]?=some (.sign "(", pl)) (h1:P.ts[S.i + 1]?=some (.sign ")", pl1)) (q:Φ (node 12 (.str "") [left,node 110 (.str "") [] (.int pl)] at_) (P.set σ { S with i:=S.i + 2 })):
  TC b (n + 10) none (.ref 992) [.obj rY [] [],.ref P.ap,left] (P.set σ S) Φ Ψ:=
 pZ (uW (n:=n + 7) h C.parts (.tail (.tail .head)) (nK b.hK) C.deep (nh (C8 (S:={ S with deep:=S.deep + 1 }) (n:=n) h h0 h1 ⟨_,rfl,hn.og nb (ck (n:=n + 6) (by
  show Φ _ (P.set σ { S with i:=S.i + 2,deep:=S.deep + 1 - 1 })
  rw [Int.add_sub_cancel]; exact q))⟩)))
def Reads (b:Bs) (n:Nat) (P:b9) (S:c8) (i j:Nat) (v:V):Prop:=
 ∀ {σ:AH} {Φ:Pv} {Ψ:Addr→AH→Prop},PG P σ→Φ v (P.set σ { S with i:=j,deep:=S.deep + 1 })→TC b n none (.ref 603) [.ref P.ap] (P.set σ { S with i:=i,deep:=S.deep + 1 }) Φ Ψ
theorem Reads.om {j:Nat} (h:PG P σ) (C:PC P S) (hr:Reads b n P S S.i j v) (q:Φ v (P.set σ { S with i:=j })):OM ⟨b,n + 3,none,Y⟩ r (.ref P.ap) "part" (a1 (xK (.int 2)) a0) (P.set σ S) Φ:=
 uW (n:=n + 1) h C.parts (.tail .head) (fH b.hK) C.deep (gb (hr h ⟨_,rfl,by
  show Φ _ (P.set σ { S with i:=j,deep:=S.deep + 1 - 1 })
  rw [Int.add_sub_cancel]; exact q⟩))
theorem zB {j:Nat} {pl pl1:Int} (h:PG P σ) (C:PC P S) (h0:P.ts[S.i]?=some (.sign "(", pl)) (h1:P.ts[j]?=some (.sign ")", pl1)) (hr:Reads b (n + 5) P S (S.i + 1) j v) (q:Φ (node 10 (.str "") [v] (.int pl)) (P.set σ { S with i:=j + 1 })):
  TC b (n + 9) none (.ref 843) [.obj iq [] [],.ref P.ap] (P.set σ S) Φ Ψ:=
 nZ (bt (n:=n + 6) h h0 (fun e=>by cases e) (Reads.om (S:={ S with i:=S.i + 1 }) h C.on hr (mI (n:=n + 3) (S:={ S with i:=j }) h h1 (by rw [sgn,beq_self_eq_true]) (ck (n:=n + 5) q))))
theorem Mw {j:Nat} {pl:Int} (h:PG P σ) (C:PC P S) (h0:P.ts[S.i]?=some (.num,pl)) (hr:Reads b (n + 2) P S S.i j v) (q:Φ (node 13 (.str "") [v] (.int pl)) (P.set σ { S with i:=j })):TC b (n + 6) none (.ref 952) [.ref P.ap] (P.set σ S) Φ Ψ:=
 AI (aY h h0 (aY h h0 (cQ h (fJ b.hK) (by decide +kernel) (rl (n:=n + 3) h h0 (cQ h (fJ b.hK) (by decide +kernel) (rl (n:=n + 3) h h0 (Reads.om h C hr (ck (n:=n + 2) q))))))))
theorem DD {o q':Str} {j:Nat} {pl0 pl pl1:Int} (h:PG P σ) (C:PC P S) (h0:P.ts[S.i]?=some (.sign o,pl0)) (h1:P.ts[S.i + 1]?=some (.num,pl)) (h2:P.ts[j]?=some (.sign q',pl1)) (hq:q' ≠ ",") (hr:Reads b (n + 2) P S (S.i + 1) j v)
  (q:Φ (node 110 (.str "") [node 13 (.str "") [v] (.int pl)] (.int pl0)) (P.set σ { S with i:=j + 1 })):TC b (n + 7) none (.ref 945) [.ref P.ap,.str o,.str q'] (P.set σ S) Φ Ψ:=by
 refine oO (aY h h0 (cQ h (aN b.hK) (by decide +kernel) (dv (n:=n + 1) h h0 (by rw [sgn,beq_self_eq_true]) fun l hl=>?_)))
 obtain ⟨hl',e0,h'⟩:=h.fresh (o:=.list []) hl
 rw [e0]
 have e1:(P.set (σ.upd l (.list [])) { S with i:=j }) l=some (.list []):=by rw [(h.upd hl').1,AH.a9]
 have e2:∀ S:c8,(P.set (σ.upd l (.list [])) S).upd l (.list [node 13 (.str "") [v] (.int pl)])=P.set (σ.upd l (.list [node 13 (.str "") [v] (.int pl)])) S:=fun S=>by rw [(h.upd hl').1,(h.upd hl').1,AH.aU]
 have h'':=(h.fresh (o:=.list [node 13 (.str "") [v] (.int pl)]) hl).2.2
 refine cQ h' (dG b.hK) (by decide +kernel) (jR (n:=n + 4) (S:={ S with i:=S.i + 1 }) h' h1 (tT (by rw [(h.upd hl').1,AH.a9]) (Mw (n:=n) (S:={ S with i:=S.i + 1 }) h' C.on h1 hr (c5 e1 (by simp) ?_))))
 rw [List.nil_append,e2]
 refine ww (fun k r τ=>k=0∧τ=P.set (σ.upd l (.list [node 13 (.str "") [v] (.int pl)])) { S with i:=j }∧r=[some (.ref P.ap),some (.str o),some (.str q'),some (.int pl0),some (.ref l)]) 0 ⟨rfl,rfl,rfl⟩ ?_
 rintro k r τ ⟨rfl,rfl,rfl⟩
 have hc:((T.sign q',pl1):T×Int).1.is 6 "," = false:=by rw [sgn]; exact beq_false_of_ne hq
 refine zm (n:=n + 2) (S:={ S with i:=j }) h'' h2 (aL hc ?_)
 rw [hc]
 exact cQ h'' (aN b.hK) (by decide +kernel) (dv (n:=n + 1) (S:={ S with i:=j }) h'' h2 (by rw [sgn,beq_self_eq_true]) ⟨_,_,h.fl hl',EY (n:=n + 3) q⟩)
theorem Aj {j:Nat} {left at_:V} {pl pl0 pl1:Int} (h:PG P σ) (C:PC P S) (hn:ja left at_) (nb:∀ id,at_≠.bi id) (h0:P.ts[S.i]?=some (.sign "[", pl0)) (h1:P.ts[S.i + 1]?=some (.num,pl)) (h2:P.ts[j]?=some (.sign "]", pl1)) (hr:Reads b (n + 2) P S (S.i + 1) j v)
  (q:Φ (node 14 (.str "") [left,node 110 (.str "") [node 13 (.str "") [v] (.int pl)] (.int pl0)] at_) (P.set σ { S with i:=j + 1 })):TC b (n + 8) none (.ref 1011) [.obj oU [] [],.ref P.ap,left] (P.set σ S) Φ Ψ:=
 oj (aQ (n:=n + 5) (k:=1) h h1 (DD h C h0 h1 h2 (by decide) hr (hn.og nb (ck (n:=n + 4) q))))
end
def PT:List (Str×Int):=[("??", 1),("||", 2),("&&", 3),("|", 4),("^", 5),("&", 6),("==", 7),("!=", 7),("<", 8),(">", 8),("<=", 8),(">=", 8),("is", 8),("as", 8),("<<", 9),(">>", 9),("+", 10),("-", 10),("*", 11),("/", 11),("%", 11)]
def look (x:Str):List (Str×Int)→Int
 | []=>0
 | (y,k) :: r=>if x=y then k else look x r
def pw (x:Str):Int:=look x PT
theorem zJ {x y:Str} {k:Int} {r:List (Str×Int)}:look x ((y,k) :: r)=if x=y then k else look x r:=rfl
theorem Bo {x:Str}:∀ {r:List (Str×Int)},x∈r.map Prod.fst→KV x (.int (look x r)) (r.map Prod.fst) (r.map fun q=>.int q.2)
 | (y,k) :: r,h=>by
  rw [zJ]
  by_cases e:x=y
  ·rw [if_pos e,e]; exact .head
  ·rw [if_neg e]
   rw [List.map_cons,List.mem_cons] at h
   exact .tail (Bo (h.resolve_left e))
theorem ur {x:Str} (h:x∈aa):KV x (.int (pw x)) aa bj:=Bo (r:=PT) h
theorem uh {x:Str}:∀ {r:List (Str×Int)},x∉r.map Prod.fst→look x r=0
 | [],_=>rfl
 | (y,k) :: r,h=>by
  rw [List.map_cons,List.mem_cons,not_or] at h
  rw [zJ,if_neg h.1]; exact uh h.2
theorem vk {x:Str} (h:x∉aa):pw x=0:=uh (r:=PT) h
def binds (s:Str) (p:Int):Bool:=if pw s=p then pw s != 1 else decide (p < pw s)
def Ce:V→V
 | .obj _ _ (_ :: _ :: _ :: _ :: a :: _)=>a
 | _=>.none
def cR (s:Str) (l r:V):V:=node (if pw s≤3 then 21 else 20) (.str s) [l,r] (Ce l)
inductive ie:V→Prop
 | mk {k:Int} {a:V} {kids:List V} {i:Int}:ie (node k a kids (.int i))
theorem ie.at_ {v:V} (h:ie v):ja v (Ce v):=by cases h; exact .mk
theorem ie.nb {v:V} (h:ie v):∀ id,Ce v≠.bi id:=by cases h; intro id e; cases e
theorem ie.join {l r:V} {s:Str} (h:ie l):ie (cR s l r):=by cases h; exact .mk
section
variable {b:Bs} {n:Nat} {hd:Option Addr} {σ τ:AH} {Φ:Pv} {Ψ:Addr→AH→Prop} {P:b9} {S S' S₀ S₁ S₂:c8} {X:XX} {r:Fm} {t t':T×Int} {x:Str} {k:Int} {Y:Fm→Addr→AH→Prop} {v w:V}
theorem Gj {s:Str} {p:Int} (hs:s∈aa) (q:Φ (.bool (binds s p)) σ):TC b (n + 1) hd (.ref 645) [.str s,.int p] σ Φ Ψ:=
 tD (ij (.ds .aH (ur hs)) (fun _ e=>by cases e) (ay (fun h=>by
  have h:=beq_iff_eq.mp h
  unfold binds at q; rw [if_pos h] at q; exact q) fun h=>by
  have h:¬ pw s=p:=by simpa using h
  unfold binds at q; rw [if_neg h] at q; exact q))
theorem IG {s:Str} {l:Addr} {xs:List V} {a c:V} (hs:s∈aa) (hl:σ l=some (.list (xs ++ [a] ++ [c]))) (hx:xs.length≤1000) (ha:ie a) (q:Φ .none (σ.upd l (.list (xs ++ [cR s a c])))):TC b (n + 4) hd (.ref 652) [.ref l,.str s] σ Φ Ψ:=by
 refine yV (tT hl (mT (xs:=xs ++ [a]) (v:=c) hl (by simp; omega) (tT (AH.a9 ..) (mT (xs:=xs) (v:=a) (AH.a9 ..) (by omega) ?_))))
 rw [AH.aU]
 have go:∀ k:Int,k=(if pw s≤3 then 21 else 20)→JE ⟨b,n + 3,hd,fun _=>Ψ⟩ [some (.ref l),some (.str s),some c,some a,some (.int k)] (.ref l) "list.append" (a1 (xC (.ref 98) (a1 (xL 4) (a1 (xL 1) (a1 (cP (a1 (xL 3) (a1 (xL 2) a0))) (a1 (bg (xL 3) "at") a0))))) a0) (σ.upd l (.list xs)) fun _ τ=>Φ .none τ:=fun k hk=>
  tT (AH.a9 ..) (ha.at_.og ha.nb (ck (n:=n) (c5 (AH.a9 ..) (by omega) (by rw [AH.aU,hk]; exact q))))
 refine ij (.ds .aH (ur hs)) (fun _ e=>by cases e) (ay (fun h=>go _ ?_) fun h=>go _ ?_)
 ·rw [if_pos (of_decide_eq_true h)]
 ·rw [if_neg (of_decide_eq_false h)]
inductive xD (P:b9) (i:Nat) (pl:Int):Prop
 | mk {t:T×Int}:P.ts[i]?=some (.word "int", pl)→P.ts[i + 1]?=some t→t.1.is 6 "[" = false→t.1.sort≠1→(t.1.is 6 "?" = true→∃ t',P.ts[i + 2]?=some t'∧t'.1.starts=true)→xD P i pl
theorem Eu {pl:Int} (h:PG P σ) (ht:xD P S.i pl) (q:Φ (br pl) (P.set σ { S with i:=S.i + 1 })):TC b (n + 6) hd (.ref 441) [.ref P.ap,.bool true] (P.set σ S) Φ Ψ:=by
 cases ht with
 | @mk t h0 h1 h2 h3 h4=>
 by_cases hq:t.1.is 6 "?" = true
 ·obtain ⟨t',h5,h6⟩:=h4 hq
  exact wz (t':=t') (S₁:={ S with i:=S.i + 1 }) h h1 h2 (fun _=>⟨rfl,h5,h6⟩) (nr h h0) q
 ·exact wz (t':=t) (S₁:={ S with i:=S.i + 1 }) h h1 h2 (fun e=>absurd e hq) (nr h h0) q
def An (k:Int) (l ty:V):V:=node k (.str "") [l,ty] (Ce l)
theorem ie.is {l ty:V} {k:Int} (h:ie l):ie (An k l ty):=by cases h; exact .mk
theorem NL {pl:Int} {l:V} (h:PG P σ) (hl:ie l) (ht:xD P S.i pl) (q:Φ (An 25 l (br pl)) (P.set σ { S with i:=S.i + 1 })):TC b (n + 7) none (.ref 659) [.ref P.ap,l] (P.set σ S) Φ Ψ:=by
 have hh:=ht
 cases ht with
 | mk h0 h1 h2 h3 h4=>
 exact D3 (cQ h (fG b.hK) (by decide +kernel) (ri (n:=n + 4) h h0 (aY h h0 (jo (n:=n + 5) (eP (.ds .aH) (aL (show decide ((T.word "int").key∈cX)=false by decide +kernel) (Eu h hh (aY (S:={ S with i:=S.i + 1 }) h h1 (aL (beq_false_of_ne h3) (hl.at_.og hl.nb (ck (n:=n + 3) q)))))))))))
end
inductive Lk (α:Type) where
 | op (w:Str) (v:α)
 | ty (k:Int) (v:α)
def Lk.ctorIdx {α:Type} (x:Lk α):Nat:=x.casesOn (fun _ _=>0) (fun _ _=>1)
def red {α:Type} (J:Str→α→α→α) (p:Int):List Str→List α→List Str×List α
 | s :: ss,r :: l :: vs=>if binds s p then red J p ss (J s l r :: vs) else (s :: ss,r :: l :: vs)
 | ss,vs=>(ss,vs)
def wQ {α:Type} (f:α→α):List α→List α
 | v :: vs=>f v :: vs
 | []=>[]
def run {α:Type} (J:Str→α→α→α) (I:Int→α→α→α):List (Lk α)→List Str→List α→List α
 | [],ss,vs=>(red J 0 ss vs).2
 | .op w v :: r,ss,vs=>run J I r (w :: (red J (pw w) ss vs).1) (v :: (red J (pw w) ss vs).2)
 | .ty k v :: r,ss,vs=>run J I r (red J 8 ss vs).1 (wQ (fun l=>I k l v) (red J 8 ss vs).2)
section
variable {α:Type} {J:Str→α→α→α} {I:Int→α→α→α} {r:List (Lk α)} {ss:List Str} {vs:List α} {v:α}
theorem Dy:run J I [] ss vs=(red J 0 ss vs).2:=rfl
theorem oE {w:Str}:run J I (.op w v :: r) ss vs=run J I r (w :: (red J (pw w) ss vs).1) (v :: (red J (pw w) ss vs).2):=rfl
theorem rM {k:Int}:run J I (.ty k v :: r) ss vs=run J I r (red J 8 ss vs).1 (wQ (fun l=>I k l v) (red J 8 ss vs).2):=rfl
end
structure Dr (ss:List Str) (vs:List V):Prop where
 len:vs.length=ss.length + 1
 ok:∀ v∈vs,ie v
 pow:∀ s∈ss,s∈aa
theorem fY {α:Type} {J:Str→α→α→α} {p:Int} {s:Str} {ss:List Str} {r l:α} {vs:List α} (hb:binds s p=true):red J p (s :: ss) (r :: l :: vs)=red J p ss (J s l r :: vs):=by
 exact if_pos hb
theorem mh {α:Type} {J:Str→α→α→α} {p:Int} {s:Str} {ss:List Str} {vs:List α} (hb:binds s p=false):red J p (s :: ss) vs=(s :: ss,vs):=by
 match vs with
 | []=>rfl
 | [_]=>rfl
 | r :: l :: vs=>exact if_neg (by rw [hb]; decide)
theorem gp {α:Type} {J:Str→α→α→α} {p:Int} {vs:List α}:red J p [] vs=([],vs):=by
 match vs with
 | []=>rfl
 | [_]=>rfl
 | r :: l :: vs=>rfl
inductive dO (P:b9) (i:Nat) (w:Str) (k:Nat):Prop
 | mk {t t':T×Int}:P.ts[i]?=some t→(t.1=.sign ">" → P.ts[i + 1]?=some t')→cJ t t'=(w,k)→(∀ j,j < k→∃ t,P.ts[i + j]?=some t∧t.1.sort≠0)→dO P i w k
structure M4 (b:Bs) (n:Nat) (P:b9) (S:c8) (i i':Nat) (v:V):Prop where
 ok:ie v
 rd:∀ {σ:AH} {Φ:Pv} {Ψ:Addr→AH→Prop},PG P σ→Φ v (P.set σ { S with i:=i' })→TC b n none (.ref 666) [.ref P.ap] (P.set σ { S with i:=i }) Φ Ψ
class inductive ba (b:Bs) (n:Nat) (P:b9) (S:c8):Nat→List (Lk V)→Nat→Prop
 | nil {i:Nat}:ba b n P S i [] i
 | op {i k i' j:Nat} {w:Str} {v:V} {ls:List (Lk V)}:dO P i w k→w∈aa→w ≠ "is" → w ≠ "as" → M4 b n P S (i + k) i' v→ba b n P S i' ls j→ba b n P S i (.op w v :: ls) j
 | is {i j:Nat} {pl:Int} {ls:List (Lk V)}:dO P i "is" 1→xD P (i + 1) pl→ba b n P S (i + 2) ls j→ba b n P S i (.ty 25 (br pl) :: ls) j
 | as {i j:Nat} {pl:Int} {ls:List (Lk V)}:dO P i "as" 1→xD P (i + 1) pl→ba b n P S (i + 2) ls j→ba b n P S i (.ty 26 (br pl) :: ls) j
inductive C6 (b:Bs) (n:Nat) (P:b9) (S:c8) (Ψ:Addr→AH→Prop) (m j:Nat):Prop
 | done {w:Str} {k:Nat}:dO P j w k→w∉aa→C6 b n P S Ψ m j
 | deep {w:Str} {k:Nat} {t:T×Int}:m=40→P.ts[j]?=some t→dO P j w k→w∈aa→(∀ a σ',rN P S.rows t.2 a σ'→Ψ a σ')→C6 b n P S Ψ m j
 | bad {w:Str} {k:Nat}:m < 40→dO P j w k→w∈aa→w ≠ "is" → w ≠ "as" → (∀ {σ:AH} {Φ:Pv},PG P σ→TC b n none (.ref 666) [.ref P.ap] (P.set σ { S with i:=j + k }) Φ Ψ)→C6 b n P S Ψ m j
structure qf (P:b9) (σ:AH) (ln ls:Addr):Prop where
 pg:PG P σ
 n:σ ln=none
 s:σ ls=none
 ne:ln≠ls
abbrev Pa (σ:AH) (ln ls:Addr) (ss:List Str) (vs:List V):AH:=(σ.upd ln (.list vs.reverse)).upd ls (.list (ss.reverse.map .str))
abbrev nB (P:b9) (σ:AH) (S:c8) (i:Nat) (ln ls:Addr) (ss:List Str) (vs:List V):AH:=P.set (Pa σ ln ls ss vs) { S with i:=i }
abbrev zf (P:b9) (ln ls:Addr) (links:Int) (w k p q:Option V):Fm:=[some (.ref P.ap),some (.ref ln),some (.ref ls),some (.int links),w,k,p,q]
def topBinds (p:Int):List Str→Bool
 | s :: _=>binds s p
 | []=>false
section
variable {b:Bs} {n:Nat} {hd:Option Addr} {σ τ:AH} {Φ:Pv} {Ψ:Addr→AH→Prop} {P:b9} {S S' S₀ S₁ S₂:c8} {X:XX} {r:Fm} {t t':T×Int} {x:Str} {k:Int} {Y:Fm→Addr→AH→Prop} {v w:V} {ln ls:Addr} {i:Nat} {ss:List Str} {vs:List V} {Θ:Ph}
theorem dO.uniq {i k k':Nat} {w w':Str} (h1:dO P i w k) (h2:dO P i w' k'):w=w'∧k=k':=by
 cases h1 with | @mk t u a1 a2 a3 _=>
 cases h2 with | @mk t' u' b1 b2 b3 _=>
 rw [a1] at b1; cases b1
 by_cases q:t.1=.sign ">"
 ·have:=a2 q; rw [b2 q] at this; cases this
  rw [a3] at b3; cases b3; exact ⟨rfl,rfl⟩
 ·have:cJ t u=cJ t u':=by
   unfold cJ aC
   obtain ⟨t,pl⟩:=t
   cases t with
   | sign x=>simp only [] at q ⊢; rw [if_neg (fun e=>q (by rw [e])),if_neg (fun e=>q (by rw [e]))]
   | _=>rfl
  rw [a3,b3] at this; cases this; exact ⟨rfl,rfl⟩
theorem zz {w:Str} (h:w∈aa):0 < pw w:=by
 have:∀ w∈aa,0 < pw w:=by decide +kernel
 exact this w h
theorem Av {s:Str} (h:s∈aa):binds s 0=true:=by
 have:=zz h
 unfold binds
 rw [if_neg (by omega),decide_eq_true_eq]; exact this
theorem si {xs:List V} {v w:V}:(xs ++ [v]).set ((-1:Int) + ((xs ++ [v]).length:Int)).toNat w=xs ++ [w]:=by
 have:((-1:Int) + ((xs ++ [v]).length:Int)).toNat=xs.length:=by simp; omega
 rw [this]; simp
theorem PG.Od (h:PG P σ) {a:Addr} {o:AO} (ha:σ a=none):(P.set (σ.upd a o) S) a=some o:=by rw [(h.upd ha).1,AH.a9]
theorem qf.sn (T:qf P σ ln ls) {o:AO}:(σ.upd ln o) ls=none:=by rw [AH.a8 _ _ T.ne.symm]; exact T.s
theorem qf.ns (T:qf P σ ln ls) {o:AO}:(σ.upd ls o) ln=none:=by rw [AH.a8 _ _ T.ne]; exact T.n
theorem PG.with (h:PG P σ) {a:Addr} {o:AO} (ha:σ a=none):PG P (σ.upd a o):=(h.fresh (S:=⟨0,0,true,[]⟩) (h.upd (o:=o) ha).2).2.2
theorem qf.at (T:qf P σ ln ls):PG P (Pa σ ln ls ss vs):=(T.pg.with T.n).with T.sn
theorem qf.xW (T:qf P σ ln ls):(nB P σ S i ln ls ss vs) ls=some (.list (ss.reverse.map .str)):=(T.pg.with T.n).Od T.sn
theorem qf.swap (T:qf P σ ln ls):Pa σ ln ls ss vs=(σ.upd ls (.list (ss.reverse.map .str))).upd ln (.list vs.reverse):=AH.aF _ _ _ T.ne
theorem qf.yk (T:qf P σ ln ls):(nB P σ S i ln ls ss vs) ln=some (.list vs.reverse):=by
 unfold nB; rw [T.swap]; exact (T.pg.with T.s).Od T.ns
theorem qf.Lh (T:qf P σ ln ls) {ss':List Str} {xs:List V} (e:xs=ss'.reverse.map .str):(nB P σ S i ln ls ss vs).upd ls (.list xs)=nB P σ S i ln ls ss' vs:=by
 unfold nB Pa; rw [((T.pg.with T.n).upd T.sn).1,((T.pg.with T.n).upd T.sn).1,AH.aU,e]
theorem qf.IJ (T:qf P σ ln ls) {vs':List V} {xs:List V} (e:xs=vs'.reverse):(nB P σ S i ln ls ss vs).upd ln (.list xs)=nB P σ S i ln ls ss vs':=by
 unfold nB; rw [T.swap,T.swap,((T.pg.with T.s).upd T.ns).1,((T.pg.with T.s).upd T.ns).1,AH.aU,e]
theorem qf.keep (T:qf P σ ln ls):cF b.c (nB P σ S i ln ls ss vs) (P.set σ { S with i:=i }):=by
 unfold nB Pa
 rw [((T.pg.with T.n).upd T.sn).1,(T.pg.upd T.n).1]
 refine cF.drop fun c o hb=>?_
 have e1:c≠ln:=fun e=>by rw [e,(T.pg.upd (o:=.list []) T.n).2] at hb; cases hb
 have e2:c≠ls:=fun e=>by rw [e,(T.pg.upd (o:=.list []) T.s).2] at hb; cases hb
 rw [AH.a8 _ _ e2,AH.a8 _ _ e1]; exact hb
theorem Ly {α:Type} {vs:List α} {n:Nat} (h:vs.length=n + 1 + 1):∃ c a t,vs=c :: a :: t:=by
 cases vs with
 | nil=>cases h
 | cons c t=>cases t with
  | nil=>cases Nat.succ.inj h
  | cons a t=>exact ⟨c,a,t,rfl⟩
theorem qt {a:Addr} {xs:List V} (hs:σ a=some (.list (xs ++ [v]))) (hl:xs.length≤100000) (q:Φ v σ):tp (.ref a) (.int (-1)) σ Φ:=
 ij (.neg (.ref hs) (by omega) (by simp; omega) (by simp; omega) (by
  have:((-1:Int) + ((xs ++ [v]).length:Int)).toNat=xs.length:=by simp; omega
  rw [this]; simp)) (fun _ e=>by cases e) q
inductive JI (P:b9) (σ:AH) (S:c8) (i:Nat) (ln ls:Addr) (links p:Int) (w k q':Option V) (N:Nat) (E:List Str×List V):Nat→Fm→AH→Prop
 | mk {ss:List Str} {vs:List V}:ss.length≤N→Dr ss vs→red cR p ss vs=E→JI P σ S i ln ls links p w k q' N E ss.length (zf P ln ls links w k (some (.int p)) q') (nB P σ S i ln ls ss vs)
theorem OD {p:Int} {w k q':Option V} {links:Int} (T:qf P σ ln ls) (K0:Dr ss vs) (hs:ss.length≤100) (q:∀ ss' vs',red cR p ss vs=(ss',vs')→Dr ss' vs'→ss'.length≤ss.length→topBinds p ss'=false→bw ⟨b,n + 13,none,Y⟩ (zf P ln ls links w k (some (.int p)) q') (nB P σ S i ln ls ss' vs') Θ):
  WW (qx (xT (xL 2)) (xT (xC (.ref 645) (a1 (xS (xL 2) (xN (xK (.int 1)))) (a1 (xL 6) a0))))) fK bw ⟨b,n + 13,none,Y⟩ (zf P ln ls links w k (some (.int p)) q') (nB P σ S i ln ls ss vs) Θ:=by
 refine ww (JI P σ S i ln ls links p w k q' ss.length (red cR p ss vs)) ss.length (.mk (Nat.le_refl _) K0 rfl) ?_
 clear K0
 intro m r τ B
 cases B with
 | @mk ss' vs' hss K1 hred=>
 refine Bc T.xW (by simp; omega) ?_
 cases ss' with
 | nil=>exact q [] vs' (by rw [← hred,gp]) K1 hss rfl
 | cons s ss''=>
  refine eH (by simp) (qt (xs:=ss''.reverse.map .str) (v:=.str s) (by rw [T.xW]; simp) (by simp at hss ⊢; omega) (Gj (K1.pow s (.head _)) (ay (fun hb=>?_) fun hb=>?_)))
  ·obtain ⟨c,a,vs'',rfl⟩:=Ly K1.len
   have hlen:=K1.len
   refine tT T.xW (mT (xs:=ss''.reverse.map .str) (v:=.str s) (by rw [T.xW]; simp) (by simp at hss ⊢; omega) ?_)
   rw [T.Lh (ss':=ss'') rfl]
   refine IG (n:=n + 9) (xs:=vs''.reverse) (a:=a) (c:=c) (K1.pow s (.head _)) (by rw [T.yk]; simp) (by simp at hss hlen ⊢; omega) (K1.ok a (.tail _ (.head _))) ?_
   rw [T.IJ (vs':=cR s a c :: vs'') (by simp)]
   refine ⟨ss''.length,Nat.lt_succ_self _,.mk (Nat.le_of_succ_le hss) ⟨Nat.succ.inj hlen,fun x hx=>?_,fun x hx=>K1.pow x (.tail _ hx)⟩ ?_⟩
   ·rcases List.mem_cons.mp hx with rfl | hx
    ·exact (K1.ok a (.tail _ (.head _))).join
    ·exact K1.ok x (.tail _ (.tail _ hx))
   ·rw [← hred,fY hb]
  ·exact q (s :: ss'') vs' (by rw [← hred,mh hb]) K1 hss hb
end
inductive BI (b:Bs) (n:Nat) (P:b9) (σ:AH) (S:c8) (ln ls:Addr) (N j:Nat) (v:V):Nat→Fm→AH→Prop
 | mk {i d:Nat} {ss:List Str} {vs:List V} {rest:List (Lk V)} {w k p q:Option V}:ba b n P S i rest j→Dr ss vs→ss.length≤d→d + rest.length=N→run cR An rest ss vs=[v]→BI b n P σ S ln ls N j v rest.length (zf P ln ls d w k p q) (nB P σ S i ln ls ss vs)
section
variable {b:Bs} {n:Nat} {hd:Option Addr} {σ τ:AH} {Φ:Pv} {Ψ:Addr→AH→Prop} {P:b9} {S S' S₀ S₁ S₂:c8} {X:XX} {r:Fm} {t t':T×Int} {x:Str} {k:Int} {Y:Fm→Addr→AH→Prop} {v w:V} {ln ls:Addr} {i:Nat} {ss:List Str} {vs:List V} {Θ:Ph}
theorem Pw (s x:Str) {A B:Prop} (h:s≠x) (q:B):vy (s == x) A B:=aL (beq_false_of_ne h) q
theorem BL {d m:Nat} {y:Str} {q':Option V} (T:qf P σ ln ls) (hd:d < 40) (hp:pw y≠0) (ho:∀ j,j < m→∃ t,P.ts[i + j]?=some t∧t.1.sort≠0)
  (q:bI (aG .Eq (xL 4) (xK (.str "is"))) (fE (xL 1) (xN (xK (.int 1))) (xC (.ref 659) (a1 (xL 0) (a1 (xS (xL 1) (xN (xK (.int 1)))) a0))) bN) (bI (aG .Eq (xL 4) (xK (.str "as"))) (bA 7 (xC (.ref 441) (a1 (xL 0) (a1 (xK (.bool true)) a0))) (fE (xL 1) (xN (xK (.int 1))) (xC (.ref 98) (a1 (xK (.int 26)) (a1 (xK (.str "")) (a1 (cP (a1 (xS (xL 1) (xN (xK (.int 1)))) (a1 (xL 7) a0))) (a1 (bg (xS (xL 1) (xN (xK (.int 1)))) "at") a0))))) bN)) (bE (cC (xL 2) "list.append" (a1 (xL 4) a0)) (bE (cC (xL 1) "list.append" (a1 (xC (.ref 666) (a1 (xL 0) a0)) a0)) bN)) bN) bN
   ⟨b,n + 13,none,Y⟩ (zf P ln ls (d + 1:Nat) (some (.str y)) (some (.int m)) (some (.int (pw y))) q') (nB P σ S (i + m) ln ls ss vs) Θ):
  bw ⟨b,n + 13,none,Y⟩ (zf P ln ls d (some (.str y)) (some (.int m)) (some (.int (pw y))) q') (nB P σ S i ln ls ss vs) Θ:=
 aL (beq_false_of_ne hp) (j4 (n:=n + 12) (by omega) (vq (n:=n + 10) (S:={ S with i:=i }) T.at ho q))
theorem IE {y:V} {d m:Nat} {p q':Option V} {pl:Int} (T:qf P σ ln ls) (hv:ie y) (hl:vs.length≤1000) (ty:xD P i pl) (q:Θ .next (zf P ln ls d (some (.str "is")) (some (.int m)) p q') (nB P σ S (i + 1) ln ls ss (An 25 y (br pl) :: vs))):
  fE (xL 1) (xN (xK (.int 1))) (xC (.ref 659) (a1 (xL 0) (a1 (xS (xL 1) (xN (xK (.int 1)))) a0))) bN ⟨b,n + 13,none,Y⟩ (zf P ln ls d (some (.str "is")) (some (.int m)) p q') (nB P σ S i ln ls ss (y :: vs)) Θ:=
 qt (xs:=vs.reverse) (v:=y) (by rw [T.yk,List.reverse_cons]) (by simp; omega) (NL (n:=n + 6) (S:={ S with i:=i }) T.at hv ty (zL T.yk (by omega) (by rw [List.length_reverse]; simp; omega) (by simp; omega) (by
  rw [T.IJ (vs':=An 25 y (br pl) :: vs) (by rw [List.reverse_cons,si,List.reverse_cons])]; exact q)))
theorem J0 {y:V} {d m:Nat} {p q':Option V} {pl:Int} (T:qf P σ ln ls) (hv:ie y) (hl:vs.length≤1000) (ty:xD P i pl) (q:Θ .next (zf P ln ls d (some (.str "as")) (some (.int m)) p (some (br pl))) (nB P σ S (i + 1) ln ls ss (An 26 y (br pl) :: vs))):
  bA 7 (xC (.ref 441) (a1 (xL 0) (a1 (xK (.bool true)) a0))) (fE (xL 1) (xN (xK (.int 1))) (xC (.ref 98) (a1 (xK (.int 26)) (a1 (xK (.str "")) (a1 (cP (a1 (xS (xL 1) (xN (xK (.int 1)))) (a1 (xL 7) a0))) (a1 (bg (xS (xL 1) (xN (xK (.int 1)))) "at") a0))))) bN) ⟨b,n + 13,none,Y⟩ (zf P ln ls d (some (.str "as")) (some (.int m)) p q') (nB P σ S i ln ls ss (y :: vs)) Θ:=by
 have g:∀ {j:Nat},(nB P σ S j ln ls ss (y :: vs)) ln=some (.list (vs.reverse ++ [y])):=by intro j; rw [T.yk,List.reverse_cons]
 have hl':vs.reverse.length≤100000:=by rw [List.length_reverse]; omega
 exact Eu (n:=n + 7) (S:={ S with i:=i }) T.at ty (qt g hl' (qt g hl' (hv.at_.og hv.nb (ck (n:=n + 10) (zL g (by omega) (by simp; omega) (by simp; omega) (by
  rw [si,T.IJ (vs':=An 26 y (br pl) :: vs) (by rw [List.reverse_cons]; rfl)]; exact q))))))
theorem Im {d m i':Nat} {y:Str} {u:V} {p q':Option V} (T:qf P σ ln ls) (h1:y ≠ "is") (h2:y ≠ "as") (hl:ss.length≤100) (hv:vs.length≤1000) (U:M4 b (n + 13) P S i i' u) (q:Θ .next (zf P ln ls d (some (.str y)) (some (.int m)) p q') (nB P σ S i' ln ls (y :: ss) (u :: vs))):
  bI (aG .Eq (xL 4) (xK (.str "is"))) (fE (xL 1) (xN (xK (.int 1))) (xC (.ref 659) (a1 (xL 0) (a1 (xS (xL 1) (xN (xK (.int 1)))) a0))) bN) (bI (aG .Eq (xL 4) (xK (.str "as"))) (bA 7 (xC (.ref 441) (a1 (xL 0) (a1 (xK (.bool true)) a0))) (fE (xL 1) (xN (xK (.int 1))) (xC (.ref 98) (a1 (xK (.int 26)) (a1 (xK (.str "")) (a1 (cP (a1 (xS (xL 1) (xN (xK (.int 1)))) (a1 (xL 7) a0))) (a1 (bg (xS (xL 1) (xN (xK (.int 1)))) "at") a0))))) bN)) (bE (cC (xL 2) "list.append" (a1 (xL 4) a0)) (bE (cC (xL 1) "list.append" (a1 (xC (.ref 666) (a1 (xL 0) a0)) a0)) bN)) bN) bN
   ⟨b,n + 13,none,Y⟩ (zf P ln ls d (some (.str y)) (some (.int m)) p q') (nB P σ S i ln ls ss vs) Θ:=by
 refine Pw _ _ h1 (Pw _ _ h2 (tT T.xW (c5 T.xW (by simp; omega) ?_)))
 rw [T.Lh (ss':=y :: ss) (by simp)]
 refine tT T.yk (U.rd T.at (c5 T.yk (by simp; omega) ?_))
 rw [T.IJ (vs':=u :: vs) (by simp)]
 exact q
theorem OC {w:Str} {Θ:Pv} (h:Θ (.int (pw w)) σ):TC b n none (.builtin "dict.get") [.aH aa bj,.str w,.int 0] σ Θ Ψ:=.of (Mq .aH (by
 by_cases hw:w∈aa
 ·exact .inr (ur hw)
 ·exact .inl ⟨hw,by rw [vk hw]⟩) h)
theorem Le {es:TA} {Φ:Pv} (h:es X r σ (JB X r (.builtin "dict.get") (.aH aa bj) Φ)):PR X r (.aH aa bj) es σ Φ:=by unfold PR; exact ⟨_,_,.aH,h⟩
theorem dO.pass {w:Str} {k:Nat} (o:dO P i w k) (j:Nat) (hj:j < k):∃ t,P.ts[i + j]?=some t∧t.1.sort≠0:=by
 cases o with | mk _ _ _ h=>exact h j hj
theorem xR {w:Str} (h:w∈aa):pw w≠0:=fun e=>by have:=zz h; omega
theorem Dr.push {w:Str} {u:V} (K:Dr ss vs) (hw:w∈aa) (hu:ie u):Dr (w :: ss) (u :: vs):=⟨congrArg Nat.succ K.len,fun x hx=>by
 rcases List.mem_cons.mp hx with rfl | hx
 ·exact hu
 ·exact K.ok x hx,fun x hx=>by
 rcases List.mem_cons.mp hx with rfl | hx
 ·exact hw
 ·exact K.pow x hx⟩
theorem Dr.top {u u':V} (K:Dr ss (u :: vs)) (hu:ie u'):Dr ss (u' :: vs):=⟨K.len,fun x hx=>by
 rcases List.mem_cons.mp hx with rfl | hx
 ·exact hu
 ·exact K.ok x (.tail _ hx),K.pow⟩
theorem jm {w:Str} {k d:Nat} {J:Fm→AH→Prop} {w0 k0 p0 q0:Option V} (T:qf P σ ln ls) (o:dO P i w k) (K0:Dr ss vs) (hs:ss.length≤100)
  (q:∀ ss' vs',red cR (pw w) ss vs=(ss',vs')→Dr ss' vs'→ss'.length≤ss.length→topBinds (pw w) ss'=false→bw ⟨b,n + 13,none,Y⟩ (zf P ln ls d (some (.str w)) (some (.int k)) (some (.int (pw w))) q0) (nB P σ S i ln ls ss' vs') (HB bN ⟨b,n + 13,none,Y⟩ Θ J)):
  xT (xK (.bool true)) ⟨b,n + 13,none,Y⟩ (zf P ln ls d w0 k0 p0 q0) (nB P σ S i ln ls ss vs) (Qy dE bN ⟨b,n + 13,none,Y⟩ (zf P ln ls d w0 k0 p0 q0) Θ J):=by
 cases o with
 | @mk t t' ht ht' hop _=>
 refine nM (n:=n + 10) (S:={ S with i:=i }) T.at ht ht' ?_
 rw [hop]
 exact Le (OC (OD T K0 hs q))
theorem z8 {links:List (Lk V)} {i j:Nat} {v0 v:V} (C:PC P S) (T:qf P σ ln ls) (h0:ie v0) (H:ba b (n + 13) P S i links j) (hm:links.length≤40) (E:C6 b (n + 13) P S Ψ links.length j)
  (hv:run cR An links [] [v0]=[v]) (q:(∃ w k,dO P j w k∧w∉aa)→Φ v (P.set σ { S with i:=j })):
  WW (xT (xK (.bool true))) dE bN ⟨b,n + 13,none,fun _=>Ψ⟩ (zf P ln ls 0 none none none none) (nB P σ S i ln ls [] [v0]) (aZ (GV b.c Φ)):=by
 refine ww (BI b (n + 13) P σ S ln ls links.length j v) links.length (.mk (d:=0) H ⟨rfl,fun x hx=>by rw [List.mem_singleton] at hx; rw [hx]; exact h0,fun s hs=>by cases hs⟩ (Nat.le_refl _) (Nat.zero_add _) hv) ?_
 clear H hv h0
 intro l r τ B
 cases B with
 | @mk i d ss vs rest w0 k0 p0 q0 H K0 hss hN hrun=>
 have hd:d≤40:=Nat.le_trans (hN ▸ Nat.le_add_right ..) hm
 have hs1:ss.length≤100:=Nat.le_trans hss (Nat.le_trans hd (by decide))
 cases H with
 | nil=>
  cases E with
  | done o hw=>
   refine jm T o K0 hs1 fun ss' vs' hred K1 _ hst=>?_
   have hp0:=vk hw
   obtain rfl:ss'=[]:=by
    cases ss' with
    | nil=>rfl
    | cons s ss''=>rw [hp0,topBinds,Av (K1.pow s (.head _))] at hst; cases hst
   obtain rfl:vs'=[v]:=by rw [Dy,← hp0,hred] at hrun; exact hrun
   exact eH (beq_iff_eq.mpr hp0) (ij (.list (xs:=[v]) (.ref T.yk) (by omega) (by simp) rfl) (fun _ e=>by cases e) ⟨_,_,T.keep.v,q ⟨_,_,o,hw⟩⟩)
  | deep h40 ht o hw hD=>exact jm T o K0 hs1 fun ss' vs' _ _ _ _=>aL (beq_false_of_ne (xR hw)) ((jP (n:=n + 10) (S:={ S with i:=j }) T.at ht (by have:d=links.length:=hN; omega)).mono (fun _ _ h=>h) hD)
  | @bad w k hlt o hw h1 h2 hU=>
   refine jm T o K0 hs1 fun ss' vs' _ K1 hle _=>BL T (by have:d=links.length:=hN; omega) (xR hw) o.pass (Pw _ _ h1 (Pw _ _ h2 (tT T.xW (c5 T.xW (by rw [List.length_map,List.length_reverse]; omega) ?_))))
   rw [T.Lh (ss':=w :: ss') (by simp)]
   exact tT T.yk (hU T.at)
 | op o hw h1 h2 U Hc=>
  refine jm T o K0 hs1 fun ss' vs' hred K1 hle _=>?_
  rw [oE,hred] at hrun
  have hlen:=K1.len
  exact BL T (Nat.lt_of_lt_of_le (hN ▸ Nat.lt_add_of_pos_right (Nat.succ_pos _)) hm) (xR hw) o.pass (Im T h1 h2 (by omega) (by omega) U ⟨_,Nat.lt_succ_self _,.mk Hc (K1.push hw U.ok) (Nat.succ_le_succ (Nat.le_trans hle hss)) ((Nat.add_right_comm ..).trans hN) hrun⟩)
 | is o ty Hc=>
  refine jm T o K0 hs1 fun ss' vs' hred K1 hle _=>?_
  rw [rM,← (by decide +kernel:pw "is" = 8),hred] at hrun
  have hlen:=K1.len
  cases vs' with
  | nil=>cases hlen
  | cons v' vs''=>exact BL T (Nat.lt_of_lt_of_le (hN ▸ Nat.lt_add_of_pos_right (Nat.succ_pos _)) hm) (xR (by decide +kernel)) o.pass (IE T (K1.ok v' (.head _)) (by have:=Nat.succ.inj hlen; omega) ty ⟨_,Nat.lt_succ_self _,.mk Hc (K1.top (K1.ok v' (.head _)).is) (Nat.le_trans (Nat.le_trans hle hss) (Nat.le_succ _)) ((Nat.add_right_comm ..).trans hN) hrun⟩)
 | as o ty Hc=>
  refine jm T o K0 hs1 fun ss' vs' hred K1 hle _=>?_
  rw [rM,← (by decide +kernel:pw "as" = 8),hred] at hrun
  have hlen:=K1.len
  cases vs' with
  | nil=>cases hlen
  | cons v' vs''=>exact BL T (Nat.lt_of_lt_of_le (hN ▸ Nat.lt_add_of_pos_right (Nat.succ_pos _)) hm) (xR (by decide +kernel)) o.pass (J0 T (K1.ok v' (.head _)) (by have:=Nat.succ.inj hlen; omega) ty ⟨_,Nat.lt_succ_self _,.mk Hc (K1.top (K1.ok v' (.head _)).is) (Nat.le_trans (Nat.le_trans hle hss) (Nat.le_succ _)) ((Nat.add_right_comm ..).trans hN) hrun⟩)
end
section
variable {b:Bs} {n:Nat} {hd:Option Addr} {σ τ:AH} {Φ:Pv} {Ψ:Addr→AH→Prop} {P:b9} {S S' S₀ S₁ S₂:c8} {X:XX} {r:Fm} {t t':T×Int} {x:Str} {k:Int} {Y:Fm→Addr→AH→Prop} {v w:V} {ln ls:Addr}
theorem uu {links:List (Lk V)} {i j:Nat} {v0 v:V} (h:PG P σ) (C:PC P S) (U:M4 b (n + 13) P S S.i i v0) (H:ba b (n + 13) P S i links j) (hm:links.length≤40) (E:C6 b (n + 13) P S Ψ links.length j)
  (hv:run cR An links [] [v0]=[v]) (q:(∃ w k,dO P j w k∧w∉aa)→Φ v (P.set σ { S with i:=j })):TC b (n + 14) none (.ref 638) [.ref P.ap] (P.set σ S) Φ Ψ:=by
 refine .ent (jE (U.rd h fun ln hln=>?_))
 obtain ⟨gn,e1,h1⟩:=h.fresh (o:=.list [v0]) hln
 rw [e1]
 intro ls hls
 obtain ⟨gs,e2,_⟩:=h1.fresh (o:=.list []) hls
 rw [e2]
 have hne:ls≠ln:=fun e=>by rw [e,AH.a9] at gs; cases gs
 exact z8 C ⟨h,gn,by rwa [AH.a8 _ _ hne] at gs,hne.symm⟩ U.ok H hm E hv q
theorem A8 (h:∀ {Φ:Pv},TC b (n + 13) none (.ref 666) [.ref P.ap] σ Φ Ψ):TC b (n + 14) none (.ref 638) [.ref P.ap] σ Φ Ψ:=jE h
end
abbrev au:List Str:=[("#int" : Str),("#text" : Str),("#char" : Str),("true" : Str),("false" : Str),("null" : Str),("#name" : Str),("this" : Str),("base" : Str),("(" : Str),("bool" : Str),("byte" : Str),("sbyte" : Str),("short" : Str),("ushort" : Str),("int" : Str),("uint" : Str),("long" : Str),("ulong" : Str),("char" : Str),("string" : Str),("object" : Str),("default" : Str),("typeof" : Str),("checked" : Str),("unchecked" : Str),("new" : Str),("delegate" : Str),("sizeof" : Str),("stackalloc" : Str),("float" : Str),("double" : Str),("decimal" : Str),("=>" : Str)]
abbrev Br (k:Int):V:=.obj jZ ["kind"] [.int k]
abbrev Ee (k:Int):V:=.obj eY ["kind"] [.int k]
abbrev ic:V:=.obj tN [] []
abbrev aD:List V:=[Ee 1,Ee 2,Ee 3,Br 4,Br 5,Br 6,.obj ke [] [],Br 8,.obj zX [] [],.obj iq [] [],ic,ic,ic,ic,ic,ic,ic,ic,ic,ic,ic,ic,.obj sr [] [],.obj uJ [] [],.obj jF [] [],.obj jF [] [],.obj CJ [] [],.obj ew [] [],.obj ew [] [],.obj ew [] [],.obj ew [] [],.obj ew [] [],.obj ew [] [],.obj kO [] []]
inductive bk (P:b9) (i:Nat):Prop
 | name {x:Str} {pl:Int} {t':T×Int}:P.ts[i]?=some (.name x,pl)→x ≠ "async" → P.ts[i + 1]?=some t'→t'.1.is 6 "=>" = false→bk P i
 | other {t:T} {pl:Int}:P.ts[i]?=some (t,pl)→t.sort≠1→t.is 6 "(" = false→bk P i
 | num {pl pl1:Int}:P.ts[i]?=some (.sign "(", pl)→P.ts[i + 1]?=some (.num,pl1)→bk P i
 | cast {pl pl1 pl2:Int} {t3:T×Int}:P.ts[i]?=some (.sign "(", pl)→P.ts[i + 1]?=some (.word "int", pl1)→P.ts[i + 2]?=some (.sign ")", pl2)→P.ts[i + 3]?=some t3→t3.1.is 6 "=>" = false→bk P i
section
variable {b:Bs} {n:Nat} {hd:Option Addr} {σ τ:AH} {Φ:Pv} {Ψ:Addr→AH→Prop} {P:b9} {S S' S₀ S₁ S₂:c8} {X:XX} {r:Fm} {t t':T×Int} {x:Str} {k:Int} {Y:Fm→Addr→AH→Prop} {v w:V} {ln ls:Addr}
theorem et {k:Nat} (h:PG P σ) (ht:P.ts[S.i + k]?=some t) {f:Fm} {i:Nat} (hf:f.getD i none=some (.int k)) (q:Φ (bQ t) (P.set σ S)):OM ⟨b,n + 1,hd,Y⟩ f (.ref P.ap) "ahead" (a1 (xL i) a0) (P.set σ S) Φ:=cQ h (eI b.hK) (by decide +kernel) (yo hf (rB h ht q))
theorem qM (h:PG P σ) (hn:bk P S.i) (q:Φ (.bool false) (P.set σ S)):TC b (n + 3) hd (.ref 1087) [.ref P.ap,.int 0] (P.set σ S) Φ Ψ:=by
 refine sQ ?_
 cases hn with
 | name h0 hx h1 h2=>exact et (n:=n + 1) (k:=0) h h0 rfl (aQ (k:=1) (n:=n) h h1 (by rw [h2]; exact q))
 | other h0 h1 h2=>exact et (n:=n + 1) (k:=0) h h0 rfl (aL (beq_false_of_ne h1) (aQ (k:=0) (n:=n) h h0 (eH (by rw [h2]; rfl) q)))
 | @num pl pl1 h0 h1=>
  refine et (n:=n + 1) (k:=0) h h0 rfl (aQ (k:=0) (n:=n) h h0 (ww (fun l r τ=>l=0∧r=[some (.ref P.ap),some (.int (0 + 1)),some (bQ (.sign "(", pl))]∧τ=P.set σ S) 0 ⟨rfl,rfl,rfl⟩ ?_))
  rintro l r τ ⟨rfl,rfl,rfl⟩
  exact aQ (k:=1) (n:=n) h h1 (et (n:=n + 1) (k:=1) h h1 rfl (xi (n:=n + 1) q))
 | @cast pl pl1 pl2 t3 h0 h1 h2 h3 h4=>
  refine et (n:=n + 1) (k:=0) h h0 rfl (aQ (k:=0) (n:=n) h h0 (ww (fun l r τ=>((l=1∧r=[some (.ref P.ap),some (.int (1:Nat)),some (bQ (.sign "(", pl))])∨(l=0∧r=[some (.ref P.ap),some (.int (2:Nat)),some (bQ (.word "int", pl1))]))∧τ=P.set σ S) 1 ⟨.inl ⟨rfl,rfl⟩,rfl⟩ ?_))
  rintro l r τ ⟨⟨rfl,rfl⟩ | ⟨rfl,rfl⟩,rfl⟩
  ·exact aQ (k:=1) (n:=n) h h1 (et (n:=n + 1) (k:=1) h h1 rfl ⟨0,by omega,.inr ⟨rfl,rfl⟩,rfl⟩)
  ·exact aQ (k:=2) (n:=n) h h2 (aQ (k:=3) (n:=n) h h3 (by rw [h4]; exact q))
theorem z6 (h:PG P σ) (hn:bk P S.i) (q:Φ .none (P.set σ S)):TC b (n + 4) hd (.ref 1080) [.ref P.ap] (P.set σ S) Φ Ψ:=by
 have key:∀ {t:T×Int},P.ts[S.i]?=some t→t.1.is 1 "async" = false→TC b (n + 4) hd (.ref 1080) [.ref P.ap] (P.set σ S) Φ Ψ:=fun h0 ha=>
  tI (aY (n:=n + 2) h h0 (cQ h (fG b.hK) (by decide +kernel) (ri (n:=n + 1) h h0 (aL ha (qM (n:=n) h hn q)))))
 cases hn with
 | name h0 hx h1 h2=>exact key h0 (beq_false_of_ne hx)
 | other h0 h1 h2=>exact key h0 (by rw [T.is,beq_false_of_ne h1]; rfl)
 | num h0 | cast h0=>exact key h0 rfl
end
def cZ (b:Bs) (n:Nat) (P:b9) (S:c8) (i j:Nat) (v:V):Prop:=
 ∀ {σ:AH} {Φ:Pv} {Ψ:Addr→AH→Prop},PG P σ→Φ v (P.set σ { S with i:=j })→TC b n none (.ref 603) [.ref P.ap] (P.set σ { S with i:=i }) Φ Ψ
def dt (b:Bs) (n:Nat) (P:b9) (S:c8) (i:Nat) (pl:Int):Prop:=
 ∀ {σ:AH} {Φ:Pv} {Ψ:Addr→AH→Prop},PG P σ→(∀ a σ',rN P S.rows pl a σ'→Ψ a σ')→TC b n none (.ref 603) [.ref P.ap] (P.set σ { S with i:=i }) Φ Ψ
structure iH (b:Bs) (n:Nat) (P:b9) (S:c8) (i j:Nat) (v:V):Prop where
 ok:ie v
 rd:∀ {σ:AH} {Φ:Pv} {Ψ:Addr→AH→Prop},PG P σ→Φ v (P.set σ { S with i:=j })→TC b n none (.ref 638) [.ref P.ap] (P.set σ { S with i:=i }) Φ Ψ
def AJ (b:Bs) (n:Nat) (P:b9) (S:c8) (i:Nat) (pl:Int):Prop:=
 ∀ {σ:AH} {Φ:Pv} {Ψ:Addr→AH→Prop},PG P σ→(∀ a σ',rN P S.rows pl a σ'→Ψ a σ')→TC b n none (.ref 638) [.ref P.ap] (P.set σ { S with i:=i }) Φ Ψ
inductive SignAt (P:b9) (i:Nat) (w:Str) (k:Nat):Prop
 | mk {t t':T×Int}:P.ts[i]?=some t→(t.1=.sign ">" → P.ts[i + 1]?=some t')→t.1.is 6 "?" = false→aC t t'=(w,k)→(∀ j,j < k→∃ t,P.ts[i + j]?=some t∧t.1.sort≠0)→SignAt P i w k
def Qe:TS:=bI (xT (xM (xL 0) "is_sign" (a1 (xK (.str "?")) a0))) (bR (xC (.ref 610) (a1 (xL 0) (a1 (xL 1) a0)))) bN (HX [.nm 2,.nm 3] (xC (.ref 617) (a1 (xL 0) a0)) (bI (aG .In (xL 2) (xK (.aH ak cV))) (bE (xC (.ref 631) (a1 (xL 0) (a1 (xL 3) a0))) (bA 4 (xM (xL 0) "part" (a1 (xK (.int 2)) a0)) (bR (xC (.ref 98) (a1 (xK (.int 23)) (a1 (xL 2) (a1 (cP (a1 (xL 1) (a1 (xL 4) a0))) (a1 (bg (xL 1) "at") a0)))))))) bN (bR (xL 1))))
section
variable {b:Bs} {n:Nat} {hd:Option Addr} {σ τ:AH} {Φ:Pv} {Ψ:Addr→AH→Prop} {P:b9} {S S' S₀ S₁ S₂:c8} {X:XX} {r:Fm} {t t':T×Int} {x:Str} {Y:Fm→Addr→AH→Prop} {v w v1 v2:V} {i j k l:Nat} {pl pl2:Int} {y:Str}
theorem F3:KV ("=>" : Str) (.obj kO [] []) au aD:=by repeat (first | exact .head | refine .tail ?_)
theorem dD (h:PG P σ) (hfi:P.firsts=.aH au aD) (hn:bk P S.i)
  (q:TC b (n + 14) none (.ref 638) [.ref P.ap] (P.set σ S) (MU 1 Qe ⟨b,n + 14,none,fun _=>Ψ⟩ [some (.ref P.ap),some .none,none,none,none] (aZ Φ)) Ψ):TC b (n + 15) none (.ref 603) [.ref P.ap] (P.set σ S) Φ Ψ:=
 y5 (jq h hfi (eP (.ds .aH) (eH F3.dec (jq h hfi (ij (.ds .aH F3) (fun _ e=>by cases e) (CG .obj (lA b.hK) (by simp) (lP (z6 (n:=n + 9) h hn q))))))))
theorem rj (hfi:P.firsts=.aH au aD) (hn:bk P i) (h:AJ b (n + 14) P S i pl):dt b (n + 15) P S i pl:=fun g hD=>dD (S:={ S with i:=i }) g hfi hn (h g hD)
theorem k8 (hfi:P.firsts=.aH au aD) (hn:bk P i) (h:iH b (n + 14) P S i j v) (hs:SignAt P j y k) (hw:y∉ak):cZ b (n + 15) P S i j v:=fun g q=>by
 cases hs with
 | mk h1 h2 h3 h4 _=>
 exact dD (S:={ S with i:=i }) g hfi hn (h.rd g (bP (n:=n + 12) (S:={ S with i:=j }) g h1 (aL h3 (ek (n:=n + 12) (S:={ S with i:=j }) g h1 h2 (by
  rw [h4]
  exact eP (.ds .aH) (aL (decide_eq_false hw) q))))))
theorem nN (g:PG P σ) (C:PC P S) (h:dt b n P { S with deep:=S.deep + 1 } S.i pl) (hD:∀ a σ',rN P S.rows pl a σ'→Y r a σ'):OM ⟨b,n + 3,none,Y⟩ r (.ref P.ap) "part" (a1 (xK (.int 2)) a0) (P.set σ S) Φ:=
 uW (n:=n + 1) g C.parts (.tail .head) (fH b.hK) C.deep (gb (h g hD))
theorem yD (C:PC P S) (hfi:P.firsts=.aH au aD) (hn:bk P i) (h:iH b (n + 14) P S i j v) (hs:SignAt P j y k) (hw:y∈ak) (h2:Reads b (n + 11) P S (j + k) l v2):cZ b (n + 15) P S i l (node 23 (.str y) [v,v2] (Ce v)):=fun g q=>by
 cases hs with
 | mk h1 h2' h3 h4 h5=>
 exact dD (S:={ S with i:=i }) g hfi hn (h.rd g (bP (n:=n + 12) (S:={ S with i:=j }) g h1 (aL h3 (ek (n:=n + 12) (S:={ S with i:=j }) g h1 h2' (by
  rw [h4]
  exact eP (.ds .aH) (eH (decide_eq_true hw) (vq (n:=n + 11) (S:={ S with i:=j }) g h5 (Reads.om (n:=n + 11) (S:={ S with i:=j + k }) g C.on h2 (h.ok.at_.og h.ok.nb (ck (n:=n + 11) q))))))))))
theorem pO (C:PC P S) (hfi:P.firsts=.aH au aD) (hn:bk P i) (h:iH b (n + 14) P S i j v) (hs:SignAt P j y k) (hw:y∈ak) (h2:dt b (n + 11) P { S with deep:=S.deep + 1 } (j + k) pl):dt b (n + 15) P S i pl:=fun g hD=>by
 cases hs with
 | mk h1 h2' h3 h4 h5=>
 exact dD (S:={ S with i:=i }) g hfi hn (h.rd g (bP (n:=n + 12) (S:={ S with i:=j }) g h1 (aL h3 (ek (n:=n + 12) (S:={ S with i:=j }) g h1 h2' (by
  rw [h4]
  exact eP (.ds .aH) (eH (decide_eq_true hw) (vq (n:=n + 11) (S:={ S with i:=j }) g h5 (nN (n:=n + 11) (S:={ S with i:=j + k }) g C.on h2 hD))))))))
theorem xA (C:PC P S) (hfi:P.firsts=.aH au aD) (hn:bk P i) (h:iH b (n + 14) P S i j v) (hq:P.ts[j]?=some (.sign "?", pl)) (h1:Reads b (n + 10) P S (j + 1) k v1)
  (hc:P.ts[k]?=some (.sign ":", pl2)) (h2:Reads b (n + 10) P S (k + 1) l v2):cZ b (n + 15) P S i l (node 22 (.str "") [v,v1,v2] (Ce v)):=fun g q=>
 dD (S:={ S with i:=i }) g hfi hn (h.rd g (bP (n:=n + 12) (S:={ S with i:=j }) g hq (jG (bt (n:=n + 11) (S:={ S with i:=j }) g hq (fun e=>by cases e) (Reads.om (n:=n + 10) (S:={ S with i:=j + 1 }) g C.on h1
  (mI (n:=n + 8) (S:={ S with i:=k }) g hc (by rw [sgn,beq_self_eq_true]) (Reads.om (n:=n + 10) (S:={ S with i:=k + 1 }) g C.on h2 (h.ok.at_.og h.ok.nb (ck (n:=n + 10) q)))))))))
theorem i4 {place:Int} (C:PC P S) (hfi:P.firsts=.aH au aD) (hn:bk P i) (h:iH b (n + 14) P S i j v) (hq:P.ts[j]?=some (.sign "?", pl))
  (hb:dt b (n + 10) P { S with deep:=S.deep + 1 } (j + 1) place∨∃ k v1 pl2,Reads b (n + 10) P S (j + 1) k v1∧P.ts[k]?=some (.sign ":", pl2)∧dt b (n + 10) P { S with deep:=S.deep + 1 } (k + 1) place):dt b (n + 15) P S i place:=fun g hD=>
 dD (S:={ S with i:=i }) g hfi hn (h.rd g (bP (n:=n + 12) (S:={ S with i:=j }) g hq (jG (bt (n:=n + 11) (S:={ S with i:=j }) g hq (fun e=>by cases e) (by
  rcases hb with hb | ⟨k,v1,pl2,h1,hc,hb⟩
  ·exact nN (n:=n + 10) (S:={ S with i:=j + 1 }) g C.on hb hD
  ·exact Reads.om (n:=n + 10) (S:={ S with i:=j + 1 }) g C.on h1 (mI (n:=n + 8) (S:={ S with i:=k }) g hc (by rw [sgn,beq_self_eq_true]) (nN (n:=n + 10) (S:={ S with i:=k + 1 }) g C.on hb hD)))))))
end
structure PI (P:b9):Prop where
 tails:P.tails=.aH ao el
 firsts:P.firsts=.aH au aD
def d7 (pl:Int):V:=node 1 (.tup [.int 7,.str ""]) [] (.int pl)
def FO (b:Bs) (n:Nat) (P:b9) (S:c8) (i:Nat) (pl:Int):Prop:=
 ∀ {σ:AH} {Φ:Pv} {Ψ:Addr→AH→Prop},PG P σ→(∀ a σ',rN P S.rows pl a σ'→Ψ a σ')→TC b n none (.ref 666) [.ref P.ap] (P.set σ { S with i:=i }) Φ Ψ
def AD (p1 p2 p3:Int):V:=cR "-" (cR "*" (d7 p1) (d7 p2)) (d7 p3)
inductive fh (P:b9):Nat→Nat→V→Prop
 | num {i:Nat} {pl:Int}:P.ts[i]?=some (.num,pl)→fh P i (i + 1) (d7 pl)
 | name {i:Nat} {pl:Int}:P.ts[i]?=some (.name "c", pl)→eQ P (i + 1)→fh P i (i + 1) (node 7 (.str "c") [.none] (.int pl))
 | paren {i:Nat} {pl p1 q1 p2 q2 p3 q3:Int}:P.ts[i]?=some (.sign "(", pl)→P.ts[i + 1]?=some (.num,p1)→P.ts[i + 2]?=some (.sign "*", q1)→P.ts[i + 3]?=some (.num,p2)→P.ts[i + 4]?=some (.sign "-", q2)→P.ts[i + 5]?=some (.num,p3)→P.ts[i + 6]?=some (.sign ")", q3)→
   fh P i (i + 7) (node 10 (.str "") [AD p1 p2 p3] (.int pl))
inductive gP (P:b9):Nat→Nat→V→V→Prop
 | post {i:Nat} {v:V} {x:Str} {pl:Int}:(x = "++" ∨ x = "--")→P.ts[i]?=some (.sign x,pl)→gP P i (i + 1) v (node 19 (.str x) [v] (Ce v))
 | mem {i:Nat} {v:V} {pl pl1:Int}:P.ts[i]?=some (.sign ".", pl)→P.ts[i + 1]?=some (.name "b", pl1)→eQ P (i + 2)→gP P i (i + 2) v (node 11 (.str "b") [v,.none] (Ce v))
 | call {i:Nat} {v:V} {pl pl1:Int}:P.ts[i]?=some (.sign "(", pl)→P.ts[i + 1]?=some (.sign ")", pl1)→gP P i (i + 2) v (node 12 (.str "") [v,node 110 (.str "") [] (.int pl)] (Ce v))
 | idx {i:Nat} {v:V} {pl pl1 pl2:Int}:P.ts[i]?=some (.sign "[", pl)→P.ts[i + 1]?=some (.num,pl1)→P.ts[i + 2]?=some (.sign "]", pl2)→
   gP P i (i + 3) v (node 14 (.str "") [v,node 110 (.str "") [node 13 (.str "") [d7 pl1] (.int pl1)] (.int pl)] (Ce v))
class inductive mD (P:b9):Nat→V→Nat→Nat→V→Prop
 | nil {i:Nat} {v:V}:mD P i v 0 i v
 | cons {i i' j m:Nat} {v v' w:V}:gP P i i' v v'→mD P i' v' m j w→mD P i v (m + 1) j w
section
variable {b:Bs} {n:Nat} {hd:Option Addr} {σ τ:AH} {Φ:Pv} {Ψ:Addr→AH→Prop} {P:b9} {S S' S₀ S₁ S₂:c8} {t t':T×Int} {x:Str} {v w v0:V} {i j k m i2:Nat} {pl p2:Int}
theorem ie.d7 (pl:Int):ie (d7 pl):=.mk
theorem wx (h:P.ts[i]?=some t) (hs:t.1.sort≠0):∀ j,j < 1→∃ t,P.ts[i + j]?=some t∧t.1.sort≠0:=fun j hj=>by
 obtain rfl:j=0:=by omega
 exact ⟨t,h,hs⟩
theorem jr (h:P.ts[i]?=some (.sign x,pl)) (hx:x ≠ ">"):dO P i x 1:=
 .mk (t':=(.sign x,pl)) h (fun e=>absurd (by injection e) hx) (by simp [cJ,aC,hx]) (wx h (by simp [T.sort]))
theorem eR (h:P.ts[i]?=some (.sign x,pl)) (hx:x ≠ ">") (hq:x ≠ "?"):SignAt P i x 1:=
 .mk (t':=(.sign x,pl)) h (fun e=>absurd (by injection e) hx) (by rw [sgn]; simpa using hq) (by simp [aC,hx]) (wx h (by simp [T.sort]))
theorem Bm (I:PI P) (C:PC P S) (h0:P.ts[i]?=some (.num,pl)) (h1:P.ts[i + 1]?=some t) (ht:t.1.key∉ao):M4 b (n + 13) P S i (i + 1) (d7 pl):=
 ⟨.d7 _,fun h q=>se (A:=True) (hs:=[]) (S:={ S with i:=i }) (j:=i) (S₁:={ S with i:=i + 1 }) h C.on .nil ⟨_,h0,.inl rfl⟩ (by simp) (by simp)
  (fun h' q=>s9 (S:={ S with i:=i }) h' I.tails I.firsts h0 .head (show ("#int" : Str) ≠ "=>" by decide +kernel) (fT b.hK) (by decide +kernel) (xb (S:={ S with i:=i }) h' h0) .nil (by omega) h1 (.inl ht) fun _=>q trivial) fun _=>q⟩
theorem ba.of {n:Nat} {ls:List (Lk V)} (H:ba b n P S i ls j):ba b n P { S with i:=k } i ls j:=by
 induction H with
 | nil=>exact .nil
 | op o h1 h2 h3 U _ ih=>exact .op o h1 h2 h3 ⟨U.ok,U.rd⟩ ih
 | is o h _ ih=>exact .is o h ih
 | as o h _ ih=>exact .as o h ih
theorem eC.of {n:Nat} (H:eC b n P S i v m j w):eC b n P { S with i:=k } i v m j w:=by
 induction H with
 | nil=>exact .nil
 | cons a _ ih=>cases a with | mk h1 h2 h3 h4=>exact .cons (.mk h1 h2 h3 h4) ih
theorem iH.of {links:List (Lk V)} {i':Nat} (C:PC P S) (U:M4 b (n + 13) P S i i' v0) (H:ba b (n + 13) P S i' links j) (hm:links.length≤40) (o:dO P j x k) (hw:x∉aa) (hv:run cR An links [] [v0]=[v]) (nk:ie v):iH b (n + 14) P S i j v:=
 ⟨nk,fun h q=>uu (S:={ S with i:=i }) h C.on ⟨U.ok,U.rd⟩ (ba.of H) hm (.done o hw) hv fun _=>q⟩
theorem Ad {q:Str} (I:PI P) (C:PC P S) (h0:P.ts[i]?=some (.num,pl)) (h1:P.ts[i + 1]?=some (.sign q,p2)) (hq:q = ")" ∨ q = "]"):cZ b (n + 15) P S i (i + 1) (d7 pl):=by
 have e:q ≠ ">" ∧ q ≠ "?" ∧ q∉ao∧q∉aa∧q∉ak:=by rcases hq with rfl | rfl <;> decide +kernel
 exact fun {_ _ _} g q=>k8 I.firsts (.other h0 (by simp [T.sort]) (by simp [T.is,T.sort])) (iH.of (v:=d7 pl) C (Bm I C h0 h1 e.2.2.1) .nil (by simp) (jr h1 e.1) e.2.2.2.1 rfl (.d7 _)) (eR h1 e.1 e.2.1) e.2.2.2.2 g q
theorem zA {p1 q1 p2 q2 p3 q3:Int} (I:PI P) (C:PC P S) (h1:P.ts[i]?=some (.num,p1)) (h2:P.ts[i + 1]?=some (.sign "*", q1)) (h3:P.ts[i + 2]?=some (.num,p2)) (h4:P.ts[i + 3]?=some (.sign "-", q2)) (h5:P.ts[i + 4]?=some (.num,p3)) (h6:P.ts[i + 5]?=some (.sign ")", q3)):
  cZ b (n + 15) P S i (i + 5) (AD p1 p2 p3):=by
 refine k8 I.firsts (.other h1 (by simp [T.sort]) (by simp [T.is,T.sort])) ?_ (eR h6 (by decide +kernel) (by decide +kernel)) (by decide +kernel)
 refine iH.of C (links:=[.op "*" (d7 p2),.op "-" (d7 p3)]) (Bm I C h1 h2 (show ("*" : Str)∉ao by decide +kernel)) ?_ (by simp) (jr h6 (by decide +kernel)) (by decide +kernel) ?_ (ie.join (ie.join (.d7 _)))
 ·exact .op (jr h2 (by decide +kernel)) (by decide +kernel) (by decide +kernel) (by decide +kernel) (Bm I C h3 h4 (show ("-" : Str)∉ao by decide +kernel)) (.op (jr h4 (by decide +kernel)) (by decide +kernel) (by decide +kernel) (by decide +kernel) (Bm I C h5 h6 (show (")" : Str)∉ao by decide +kernel)) .nil)
 ·have a1:binds "*" (pw "-")=true:=by decide +kernel
  have a2:binds "-" 0=true:=by decide +kernel
  rw [oE,gp,oE,fY a1,gp,Dy,fY a2,gp]; rfl
theorem cZ.reads (h:cZ b n P { S with deep:=S.deep + 1 } i j v):Reads b n P S i j v:=fun g q=>h g q
theorem fh.M0 (h:fh P i j v):ie v:=by cases h <;> exact .mk
theorem gP.M0 (h:gP P i j v w) (hv:ie v):ie w:=by cases hv; cases h <;> exact .mk
theorem mD.M0 (h:mD P i v m j w) (hv:ie v):ie w:=by
 induction h with
 | nil=>exact hv
 | cons a _ ih=>exact ih (a.M0 hv)
theorem Hb:g8 "c" := ⟨by decide +kernel,by decide +kernel⟩
theorem Hv:g8 "b" := ⟨by decide +kernel,by decide +kernel⟩
theorem CE (I:PI P) (C:PC P S) (C2:PC P { S with deep:=S.deep + 1 }) {i':Nat} (h:gP P i i' v w) (hv:ie v):Ds b (n + 21) P S i i' v w:=by
 cases h with
 | post hx h=>rcases hx with rfl | rfl <;> exact .mk h (.tail (.tail (.tail (by first | exact .head | exact .tail .head)))) (qb b.hK) fun g q=>CL (n:=n + 10) (S:={ S with i:=i }) g hv.at_ hv.nb h q
 | mem h0 h1 h2=>exact .mk h0 .head (ma b.hK) fun g q=>xd (n:=n + 8) (S:={ S with i:=i }) g C.on Hv hv.at_ hv.nb h0 h1 h2 q
 | call h0 h1=>exact .mk h0 (.tail .head) (pj b.hK) fun g q=>D1 (n:=n + 11) (S:={ S with i:=i }) g C.on hv.at_ hv.nb h0 h1 q
 | idx h0 h1 h2=>exact .mk h0 (.tail (.tail .head)) (ow b.hK) fun g q=>Aj (n:=n + 13) (S:={ S with i:=i }) g C.on hv.at_ hv.nb h0 h1 h2 (fun g q=>Ad (n:=n) I C2 h1 h2 (.inr rfl) g q) q
theorem xj (I:PI P) (C:PC P S) (C2:PC P { S with deep:=S.deep + 1 }) (h:mD P i v m j w) (hv:ie v):eC b (n + 21) P S i v m j w:=by
 induction h with
 | nil=>exact .nil
 | cons a _ ih=>exact .cons (CE I C C2 a hv) (ih (a.M0 hv))
theorem Io:KV ("#name" : Str) (.obj ke [] []) au aD:=by repeat (first | exact .head | refine .tail ?_)
theorem JT:KV ("(" : Str) (.obj iq [] []) au aD:=by repeat (first | exact .head | refine .tail ?_)
theorem Bj (I:PI P) (C:PC P S) (C2:PC P { S with deep:=S.deep + 1 }) (h:fh P i i2 v) (ht:mD P i2 v m j w) (hm:m≤40) (hj:P.ts[j]?=some t)
  (hend:t.1.key∉ao∨(m=40∧t.1.key∈ao∧∀ a σ',rN P S.rows t.2 a σ'→Ψ a σ')) (g:PG P σ) (q:t.1.key∉ao→Φ w (P.set σ { S with i:=j })):TC b (n + 22) none (.ref 694) [.ref P.ap] (P.set σ { S with i:=i }) Φ Ψ:=by
 have Hc:=xj (b:=b) (n:=n) I C C2 ht h.M0
 have go:∀ {t0:T×Int} {C0 f0:Addr} {k0:List Str} {v0:List V},P.ts[i]?=some t0→KV t0.1.key (.obj C0 k0 v0) au aD→t0.1.key ≠ "=>" → aA b.c.K C0 "take" f0=true→("take" : Str)∉k0→
   (∀ {Φ:Pv},Φ v (P.set σ { S with i:=i2 })→TC b (n + 21) none (.ref f0) [.obj C0 k0 v0,.ref P.ap] (P.set σ { S with i:=i }) Φ Ψ)→TC b (n + 22) none (.ref 694) [.ref P.ap] (P.set σ { S with i:=i }) Φ Ψ:=
  fun a1 a2 a3 a4 a5 a6=>s9 (n:=n + 10) (S:={ S with i:=i }) g I.tails I.firsts a1 a2 a3 a4 a5 a6 (eC.of Hc) hm hj hend q
 cases h with
 | num h0=>exact go h0 .head (show ("#int" : Str) ≠ "=>" by decide +kernel) (fT b.hK) (by decide +kernel) fun q=>xb (n:=n + 10) (S:={ S with i:=i }) g h0 q
 | name h0 h1=>exact go h0 Io (show ("#name" : Str) ≠ "=>" by decide +kernel) (qh b.hK) (by decide +kernel) fun q=>Ca (n:=n + 8) (S:={ S with i:=i }) g C.on Hb h0 h1 q
 | paren h0 h1 h2 h3 h4 h5 h6=>exact go h0 JT (show ("(" : Str) ≠ "=>" by decide +kernel) (nI b.hK) (by decide +kernel) fun q=>zB (n:=n + 12) (S:={ S with i:=i }) g C.on h0 h6 (fun g q=>zA (n:=n + 2) I C2 h1 h2 h3 h4 h5 h6 g q) q
inductive EE (P:b9) (i j:Nat) (hs:List cA) (m:Nat) (v0 w:V) (t:T×Int):Prop
 | mk {i1 i2:Nat}:h9 P i hs i1→fh P i1 i2 v0→mD P i2 v0 m j w→hs.length≤40→m≤40→P.ts[j]?=some t→EE P i j hs m v0 w t
theorem fh.iL (h:fh P i j v):mi P i:=by
 cases h with
 | num h0=>exact ⟨_,h0,.inl rfl⟩
 | name h0 h1=>exact ⟨_,h0,.inl (show (T.name "c").iL=true by decide +kernel)⟩
 | paren h0 h1=>exact ⟨_,h0,.inr ⟨rfl,_,h1,by simp [T.sort],by simp [T.sort]⟩⟩
theorem h9.small {hs:List cA} (H:h9 P i hs j):∀ h∈hs,h.kids.length≤10∧∃ pl,h.at_=.int pl:=by
 induction H with
 | nil=>exact fun h hh=>nomatch hh
 | cons hp _ ih=>
  intro h hh
  rcases List.mem_cons.mp hh with rfl | hh
  ·rcases hp with ⟨_,x,pl,_,_,e⟩ | ⟨_,pl,_,_,_,_,_,e⟩ | ⟨_,pl,_,e⟩ <;> (rw [e]; exact ⟨by simp,_,rfl⟩)
  ·exact ih h hh
theorem Gb (hw:ie w):∀ {hs:List cA},(∀ h∈hs,h.kids.length≤10∧∃ pl,h.at_=.int pl)→ie (wrap hs w)
 | [],_=>hw
 | h :: hs,H=>by
  obtain ⟨_,pl,e⟩:=H h (.head _)
  show ie (node h.k h.av (h.kids ++ [wrap hs w]) h.at_)
  rw [e]; exact .mk
theorem Kg {hs:List cA} (I:PI P) (C:PC P S) (C2:PC P { S with deep:=S.deep + 1 }) (h:EE P i j hs m v0 w t) (ht:t.1.key∉ao):M4 b (n + 23) P S i j (wrap hs w):=by
 cases h with
 | mk H hc hT hl ml tk=>
 exact ⟨Gb (hT.M0 hc.M0) H.small,fun g q=>se (A:=True) (n:=n + 10) (S:={ S with i:=i }) (S₁:={ S with i:=j }) g C.on H hc.iL hl (fun h hh=>(H.small h hh).1) (fun g' q=>Bj (S:=S) I C C2 hc hT ml tk (.inl ht) g' fun _=>q trivial) fun _=>q⟩
theorem vJ {hs:List cA} (I:PI P) (C:PC P S) (C2:PC P { S with deep:=S.deep + 1 }) (h:EE P i j hs 40 v0 w t) (ht:t.1.key∈ao):FO b (n + 23) P S i t.2:=fun g hD=>by
 cases h with
 | mk H hc hT hl ml tk=>
 exact se (A:=False) (v:=w) (S₁:={ S with i:=j }) (n:=n + 10) (S:={ S with i:=i }) g C.on H hc.iL hl (fun h hh=>(H.small h hh).1) (fun g' _=>Bj (S:=S) I C C2 hc hT ml tk (.inr ⟨rfl,ht,hD⟩) g' fun h=>absurd ht h) False.elim
theorem uM {hs:List cA} (C:PC P S) (H:h9 P i hs j) (hl:hs.length=41) (tk:P.ts[j]?=some t):FO b (n + 23) P S i t.2:=fun g hD=>
 (Ay (n:=n + 10) (S:={ S with i:=i }) g C.on H tk hl fun h hh=>(H.small h hh).1).mono (fun _ _ h=>h) hD
end
inductive Pc where
 | m (k:Nat)
 | w (x:Str)
def Pc.ctorIdx (x:Pc):Nat:=x.casesOn (fun _=>0) (fun _=>1)
def Pc.v:Pc→V
 | .m k=>.int k
 | .w x=>.str x
structure Rw where
 k:Int
 a:V
 n:Nat
def Rw.v (r:Rw):V:=.tup [.int r.k,r.a,.int r.n]
abbrev q8 (l:List Pc):V:=.fl (l.map Pc.v)
abbrev ax (l:List Rw):V:=.fl (l.map Rw.v)
def tk (g:List Int) (a n:Nat):Nat:=((g.getD (a % g.length) 0 + 13 * ((a / g.length:Nat):Int)) % (n:Int)).toNat
def eM:Rw:=⟨1,.tup [.int 7,.str ""],0⟩
def jk:List Str:=["-", "++", "!", "--", "~", "+", "(int)", "await"]
def f9:List Str:=["++", "--", ".b", "()", "[7]"]
def aK (mix t:Nat):Str:=jk.getD ((mix + t * (1 + 2 * (mix / 8))) % 8) ""
def ae (s:Str) (t:Nat):List Pc:=(if s = "(int)" then [.w "(", .w "int", .w ")"] else [.w s]) ++ [.m (t + 1)]
def bM (s:Str):List Rw:=if s = "(int)" then [⟨24,.str "", 2⟩,⟨40,.str "int", 0⟩] else if s = "await" then [⟨31,.str "", 1⟩] else if s.length=2 then [⟨18,.str s,1⟩] else [⟨17,.str s,1⟩]
def af (core:Str):List Pc:=if core = "(" then [.w "(", .w "7", .m 1,.w "*", .w "7", .m 2,.w "-", .w "7", .w ")"] else [.w core]
def cv (core:Str):List Rw:=if core = "(" then [⟨10,.str "", 1⟩,⟨20,.str "-", 2⟩,⟨20,.str "*", 2⟩,eM,eM,eM] else if core = "7" then [eM] else [⟨7,.str "c", 1⟩,⟨0,.str "", 0⟩]
def aM (mix t:Nat):Str:=f9.getD ((mix + t * (1 + mix % 4)) % 5) ""
def aj (w:Str) (t:Nat):List Pc:=.m (t + 1) :: (if w = ".b" then [.w ".", .w "b"] else if w = "()" then [.w "(", .w ")"] else if w = "[7]" then [.w "[", .w "7", .w "]"] else [.w w])
def gH (w:Str):Rw:=if w = ".b" then ⟨11,.str "b", 2⟩ else if w = "()" then ⟨12,.str "", 2⟩ else if w = "[7]" then ⟨14,.str "", 2⟩ else ⟨19,.str w,1⟩
def cf (w:Str):List Rw:=if w = ".b" then [⟨0,.str "", 0⟩] else if w = "()" then [⟨110,.str "", 0⟩] else if w = "[7]" then [⟨110,.str "", 1⟩,⟨13,.str "", 1⟩,eM] else []
def aI (mix n:Nat):List Pc:=(List.range n).flatMap fun t=>ae (aK mix t) t
def dX (mix n:Nat):List Rw:=(List.range n).flatMap fun t=>bM (aK mix t)
def aB (mix n:Nat):List Pc:=(List.range n).flatMap fun t=>aj (aM mix t) t
def gM (mix n:Nat):List Rw:=(List.range n).map fun t=>gH (aM mix t)
def iW (mix n:Nat):List Rw:=(List.range n).flatMap fun t=>cf (aM mix t)
def bO (core:Str) (heads tails mix:Nat):List Pc:=aI mix heads ++ af core ++ aB mix tails
def fA (core:Str) (heads tails mix:Nat):List Rw:=dX mix heads ++ (gM mix tails).reverse ++ (cv core ++ iW mix tails)
theorem Ni {p:Nat→Prop} (h0:p 0) (h1:p 1) (h2:p 2) (h3:p 3) (h4:p 4) (h5:p 5):∀ s,s < 6→p s:=fun s h=>by
 cases s with | zero=>exact h0 | succ s=>
 cases s with | zero=>exact h1 | succ s=>
 cases s with | zero=>exact h2 | succ s=>
 cases s with | zero=>exact h3 | succ s=>
 cases s with | zero=>exact h4 | succ s=>
 cases s with | zero=>exact h5 | succ s=>exact absurd h (Nat.not_lt.mpr (Nat.le_add_left 6 s))
section
variable {b:Bs} {n:Nat} {hd:Option Addr} {σ:AH} {Φ:Pv} {Ψ:Addr→AH→Prop}
def yP:DW:=.of "_law_take" "_law_take" (nth top 162) 1162 1161 mL 2 ["w", "count", "at", "given"] [] [] [] []
def wY:TS:=bA 2 (xS (xL 0) (xK (.str "at"))) (fE (xL 0) (xK (.str "at")) (xB .Add (xL 2) (xK (.int 1))) (bA 3 (xS (xL 0) (xK (.str "given"))) (bR (xB .Mod (xB .Add (xS (xL 3) (xB .Mod (xL 2) (xC (.builtin "len") (a1 (xL 3) a0)))) (xB .Mult (xK (.int 13)) (xB .FloorDiv (xL 2) (xC (.builtin "len") (a1 (xL 3) a0))))) (xL 1)))))
theorem yq {x0 x1:V} (h:wY ⟨b,n,hd,fun _=>Ψ⟩ [some x0,some x1,none,none] σ (aZ Φ)):TC b (n + 1) hd (.ref 1162) [x0,x1] σ Φ Ψ:=wT yP (by kernel_rfl) rfl h
def fa:TS:=bA 7 (xS (xK (.tup [.str "-", .str "++", .str "!", .str "--", .str "~", .str "+", .str "(int)", .str "await"])) (xB .Mod (xB .Add (xL 3) (xB .Mult (xL 6) (xB .Add (xK (.int 1)) (xB .Mult (xK (.int 2)) (xB .FloorDiv (xL 3) (xK (.int 8))))))) (xK (.int 8)))) (bI (aG .Eq (xL 7) (xK (.str "(int)"))) (bE (cC (xL 4) "list.extend" (a1 (cP (a1 (xK (.str "(")) (a1 (xK (.str "int")) (a1 (xK (.str ")")) a0)))) a0)) (bE (cC (xL 5) "list.extend" (a1 (cP (a1 (bG (a1 (xK (.int 24)) (a1 (xK (.str "")) (a1 (xK (.int 2)) a0)))) (a1 (bG (a1 (xK (.int 40)) (a1 (xK (.str "int")) (a1 (xK (.int 0)) a0)))) a0))) a0)) bN)) (bE (cC (xL 4) "list.append" (a1 (xL 7) a0)) (bE (cC (xL 5) "list.append" (a1 (tZ (aG .Eq (xL 7) (xK (.str "await"))) (bG (a1 (xK (.int 31)) (a1 (xK (.str "")) (a1 (xK (.int 1)) a0)))) (bG (a1 (tZ (aG .Eq (xC (.builtin "len") (a1 (xL 7) a0)) (xK (.int 2))) (xK (.int 18)) (xK (.int 17))) (a1 (xL 7) (a1 (xK (.int 1)) a0))))) a0)) bN)) (bE (cC (xL 4) "list.append" (a1 (xB .Add (xL 6) (xK (.int 1))) a0)) bN))
def dc:TS:=bA 11 (xS (xK (.tup [.str "++", .str "--", .str ".b", .str "()", .str "[7]"])) (xB .Mod (xB .Add (xL 3) (xB .Mult (xL 6) (xB .Add (xK (.int 1)) (xB .Mod (xL 3) (xK (.int 4)))))) (xK (.int 5)))) (bE (cC (xL 4) "list.append" (a1 (xB .Add (xL 6) (xK (.int 1))) a0)) (bI (aG .Eq (xL 11) (xK (.str ".b"))) (bE (cC (xL 4) "list.extend" (a1 (cP (a1 (xK (.str ".")) (a1 (xK (.str "b")) a0))) a0)) (bE (cC (xL 8) "list.append" (a1 (bG (a1 (xK (.int 11)) (a1 (xK (.str "b")) (a1 (xK (.int 2)) a0)))) a0)) (bE (cC (xL 10) "list.append" (a1 (bG (a1 (xK (.int 0)) (a1 (xK (.str "")) (a1 (xK (.int 0)) a0)))) a0)) bN))) (bI (aG .Eq (xL 11) (xK (.str "()"))) (bE (cC (xL 4) "list.extend" (a1 (cP (a1 (xK (.str "(")) (a1 (xK (.str ")")) a0))) a0)) (bE (cC (xL 8) "list.append" (a1 (bG (a1 (xK (.int 12)) (a1 (xK (.str "")) (a1 (xK (.int 2)) a0)))) a0)) (bE (cC (xL 10) "list.append" (a1 (bG (a1 (xK (.int 110)) (a1 (xK (.str "")) (a1 (xK (.int 0)) a0)))) a0)) bN))) (bI (aG .Eq (xL 11) (xK (.str "[7]"))) (bE (cC (xL 4) "list.extend" (a1 (cP (a1 (xK (.str "[")) (a1 (xK (.str "7")) (a1 (xK (.str "]")) a0)))) a0)) (bE (cC (xL 8) "list.append" (a1 (bG (a1 (xK (.int 14)) (a1 (xK (.str "")) (a1 (xK (.int 2)) a0)))) a0)) (bE (cC (xL 10) "list.extend" (a1 (cP (a1 (bG (a1 (xK (.int 110)) (a1 (xK (.str "")) (a1 (xK (.int 1)) a0)))) (a1 (bG (a1 (xK (.int 13)) (a1 (xK (.str "")) (a1 (xK (.int 1)) a0)))) (a1 (xL 9) a0)))) a0)) bN))) (bE (cC (xL 4) "list.append" (a1 (xL 11) a0)) (bE (cC (xL 8) "list.append" (a1 (bG (a1 (xK (.int 19)) (a1 (xL 11) (a1 (xK (.int 1)) a0)))) a0)) bN)) bN) bN) bN))
def eZ:TS:=bE (cC (xL 8) "list.reverse" a0) (bR (bG (a1 (xV (xL 4)) (a1 (xB .Add (xB .Add (xL 5) (xL 8)) (xL 10)) a0))))
def kr:TS:=bA 8 (ko a0) (bA 9 (bG (a1 (xK (.int 1)) (a1 (bG (a1 (xK (.int 7)) (a1 (xK (.str "")) a0))) (a1 (xK (.int 0)) a0)))) (bI (aG .Eq (xL 0) (xK (.str "("))) (bE (cC (xL 4) "list.extend" (a1 (cP (a1 (xK (.str "(")) (a1 (xK (.str "7")) (a1 (xK (.int 1)) (a1 (xK (.str "*")) (a1 (xK (.str "7")) (a1 (xK (.int 2)) (a1 (xK (.str "-")) (a1 (xK (.str "7")) (a1 (xK (.str ")")) a0)))))))))) a0)) (bA 10 (ko (a1 (bG (a1 (xK (.int 10)) (a1 (xK (.str "")) (a1 (xK (.int 1)) a0)))) (a1 (bG (a1 (xK (.int 20)) (a1 (xK (.str "-")) (a1 (xK (.int 2)) a0)))) (a1 (bG (a1 (xK (.int 20)) (a1 (xK (.str "*")) (a1 (xK (.int 2)) a0)))) (a1 (xL 9) (a1 (xL 9) (a1 (xL 9) a0))))))) bN)) (bE (cC (xL 4) "list.append" (a1 (xL 0) a0)) (bA 10 (tZ (aG .Eq (xL 0) (xK (.str "7"))) (ko (a1 (xL 9) a0)) (ko (a1 (bG (a1 (xK (.int 7)) (a1 (xK (.str "c")) (a1 (xK (.int 1)) a0)))) (a1 (bG (a1 (xK (.int 0)) (a1 (xK (.str "")) (a1 (xK (.int 0)) a0)))) a0)))) bN)) (bF 6 (xC (.type "range") (a1 (xL 2) a0)) dc eZ)))
def rT:DW:=.of "_law_operand" "_law_operand" (nth top 163) 1169 1168 mL 4 ["core", "heads", "tails", "mix", "pieces", "rows", "turn", "sign", "around", "seven", "last", "word"] [(802,12)] [(764,13),(765,11),(775,13),(779,15),(782,15),(782,43)] [] []
def qO:TS:=bA 4 (ko a0) (bA 5 (ko a0) (bF 6 (xC (.type "range") (a1 (xL 1) a0)) fa kr))
theorem sm {x0 x1 x2 x3:V} (h:qO ⟨b,n,hd,fun _=>Ψ⟩ [some x0,some x1,some x2,some x3,none,none,none,none,none,none,none,none] σ (aZ Φ)):TC b (n + 1) hd (.ref 1169) [x0,x1,x2,x3] σ Φ Ψ:=wT rT (by kernel_rfl) rfl h
def oy:TS:=fE (xL 1) (xL 3) (xB .Add (xL 2) (xK (.int 1))) bN
def o7:TS:=bF 3 (xS (xL 0) (xL 2)) oy bN
def nX:TS:=bR (xV (xL 1))
def tB:DW:=.of "_law_powers" "_law_powers" (nth top 164) 1176 1175 mL 0 ["levels", "out", "at", "op"] [(809,11)] [] [] []
def tV:TS:=bA 0 (bG (a1 (bG (a1 (xK (.str "??")) a0)) (a1 (bG (a1 (xK (.str "||")) a0)) (a1 (bG (a1 (xK (.str "&&")) a0)) (a1 (bG (a1 (xK (.str "|")) a0)) (a1 (bG (a1 (xK (.str "^")) a0)) (a1 (bG (a1 (xK (.str "&")) a0)) (a1 (bG (a1 (xK (.str "==")) (a1 (xK (.str "!=")) a0))) (a1 (bG (a1 (xK (.str "<")) (a1 (xK (.str ">")) (a1 (xK (.str "<=")) (a1 (xK (.str ">=")) (a1 (xK (.str "is")) (a1 (xK (.str "as")) a0))))))) (a1 (bG (a1 (xK (.str "<<")) (a1 (xK (.str ">>")) a0))) (a1 (bG (a1 (xK (.str "+")) (a1 (xK (.str "-")) a0))) (a1 (bG (a1 (xK (.str "*")) (a1 (xK (.str "/")) (a1 (xK (.str "%")) a0)))) a0)))))))))))) (bA 1 GQ (bF 2 (xC (.type "range") (a1 (xK (.int 11)) a0)) o7 nX))
theorem tF (h:tV ⟨b,n,hd,fun _=>Ψ⟩ [none,none,none,none] σ (aZ Φ)):TC b (n + 1) hd (.ref 1176) [] σ Φ Ψ:=wT tB (by kernel_rfl) rfl h
def jd:TS:=bE (cC (xL 12) "list.append" (a1 (xL 13) a0)) (bE (cC (xL 10) "list.extend" (a1 (cP (a1 (xL 14) (a1 (xL 13) a0))) a0)) bN)
def ia:TS:=HX [.nm 19,.nm 20] (xC (.ref 1169) (a1 (xL 16) (a1 (xL 17) (a1 (xL 18) (a1 (xB .Mod (xB .Add (xL 8) (xL 14)) (xK (.int 32))) a0))))) (bE (cC (xL 10) "list.extend" (a1 (xL 19) a0)) (bE (cC (xL 11) "list.append" (a1 (xL 20) a0)) bN))
def i6:TS:=bI (aG .Eq (xL 14) (xL 9)) (bA 17 (xC (.builtin "max") (a1 (xL 17) (a1 (xL 2) a0))) (bA 18 (xC (.builtin "max") (a1 (xL 18) (a1 (xL 3) a0))) bN)) bN ia
def hV:TS:=bA 18 (tZ (aG .Eq (xL 15) (xK (.int 2))) (xK (.int 1)) (tZ (qx (aG .Eq (xL 7) (xK (.int 3))) (aG .Lt (xL 1) (xK (.int 25)))) (xK (.int 2)) (xK (.int 0)))) i6
def i3:TS:=bA 17 (tZ (aG .Eq (xL 15) (xK (.int 1))) (xK (.int 1)) (tZ (qx (aG .Eq (xL 7) (xK (.int 2))) (aG .Lt (xL 1) (xK (.int 25)))) (xK (.int 2)) (xK (.int 0)))) hV
def ib:TS:=bI (D6 (aG .Eq (xL 13) (xK (.str "<"))) (D6 (aG .Eq (xL 15) (xK (.int 3))) (qx (aG .Eq (xL 15) (xK (.int 8))) (aG .Eq (xB .Mod (xB .Add (xL 8) (xL 14)) (xK (.int 3))) (xK (.int 0)))))) (bA 16 (xK (.str "7")) bN) bN i3
def gV:TS:=bA 16 (tZ (aG .Eq (xL 15) (xK (.int 0))) (xK (.str "(")) (xK (.str "c"))) ib
def eA:TS:=bI (aG .In (xL 13) (bG (a1 (xK (.str "is")) (a1 (xK (.str "as")) a0)))) (bE (cC (xL 10) "list.append" (a1 (xK (.str "int")) a0)) (bE (cC (xL 11) "list.append" (a1 (cP (a1 (bG (a1 (xK (.int 40)) (a1 (xK (.str "int")) (a1 (xK (.int 0)) a0)))) a0)) a0)) bN)) (bA 15 (tZ (aG .Eq (xL 7) (xK (.int 1))) (xB .Mod (xB .Add (xL 8) (xB .Mult (xK (.int 3)) (xL 14))) (xK (.int 8))) (xK (.int 8))) gV) bN
def dY:TS:=bI (aG .Gt (xL 14) (xK (.int 0))) (bA 13 (xS (xL 4) (xB .Mod (xB .Add (xL 5) (xB .Mult (xL 6) (xL 14))) (xC (.builtin "len") (a1 (xL 4) a0)))) (bI (qx (aG .Eq (xL 14) (xL 9)) (aG .In (xL 13) (bG (a1 (xK (.str "is")) (a1 (xK (.str "as")) a0))))) (bA 13 (xK (.str "<=")) bN) bN jd)) bN eA
def dZ:TS:=bR (bG (a1 (xV (xL 10)) (a1 (tZ (aG .Lt (xL 1) (xK (.int 41))) (xC (.ref 1186) (a1 (xV (xL 11)) (a1 (xV (xL 12)) a0))) (cP a0)) a0)))
def uO:DW:=.of "_law_chain" "_law_chain" (nth top 167) 1193 1192 mL 4 ["w", "links", "heads", "tails", "pool", "first", "step", "deco", "mix", "spot", "pieces", "items", "ops", "op", "turn", "form", "core", "before", "behind", "more", "rows"] [(877,12),(877,30),(877,37)] [(850,13),(851,12),(852,10)] [] []
def we:TS:=bA 4 (xS (xK (.tup [.tup [.str "+", .str "*", .str "==", .str "&&", .str "<<", .str "is", .str "??", .str "-", .str "|", .str ">=", .str "%", .str "as", .str "||", .str "^", .str "<", .str "/", .str "!=", .str "&", .str ">>", .str "<=", .str ">"],.tup [.str "+", .str "-"],.tup [.str "*", .str "/", .str "%"],.tup [.str "==", .str "!="],.tup [.str ">=", .str "is", .str "<", .str "as", .str "<=", .str ">"],.tup [.str "<<", .str ">>"],.tup [.str "&&", .str "??", .str "||"],.tup [.str "+", .str "*", .str "-", .str "<<", .str "%", .str "&", .str "^", .str "|", .str "/", .str ">>"]])) (xC (.ref 1162) (a1 (xL 0) (a1 (xK (.int 8)) a0)))) (bA 5 (xC (.ref 1162) (a1 (xL 0) (a1 (xC (.builtin "len") (a1 (xL 4) a0)) a0))) (bA 6 (xB .Add (xK (.int 1)) (xC (.ref 1162) (a1 (xL 0) (a1 (xB .Sub (xC (.builtin "len") (a1 (xL 4) a0)) (xK (.int 1))) a0)))) (bA 7 (xC (.ref 1162) (a1 (xL 0) (a1 (xK (.int 4)) a0))) (bA 8 (xC (.ref 1162) (a1 (xL 0) (a1 (xK (.int 32)) a0))) (bA 9 (xC (.ref 1162) (a1 (xL 0) (a1 (xB .Add (xL 1) (xK (.int 1))) a0))) (bA 10 (ko a0) (bA 11 (ko a0) (bA 12 (ko a0) (bA 13 (xK (.str "")) (bF 14 (xC (.type "range") (a1 (xB .Add (xL 1) (xK (.int 1))) a0)) dY dZ))))))))))
theorem v8 {x0 x1 x2 x3:V} (h:we ⟨b,n,hd,fun _=>Ψ⟩ [some x0,some x1,some x2,some x3,none,none,none,none,none,none,none,none,none,none,none,none,none,none,none,none,none] σ (aZ Φ)):TC b (n + 1) hd (.ref 1193) [x0,x1,x2,x3] σ Φ Ψ:=wT uO (by kernel_rfl) rfl h
def hZ:TS:=bI (aG .NotEq (xL 8) (xL 5)) (bE (cC (xL 7) "list.append" (a1 (xC (.ref 1193) (a1 (xL 0) (a1 (xS (bG (a1 (xK (.int 0)) (a1 (xK (.int 1)) (a1 (xK (.int 2)) (a1 (xK (.int 5)) (a1 (xK (.int 3)) (a1 (xK (.int 12)) a0))))))) (xC (.ref 1162) (a1 (xL 0) (a1 (xK (.int 6)) a0)))) (a1 (xK (.int 0)) (a1 (xK (.int 0)) a0))))) a0)) bN) (bI (aG .Lt (xL 1) (xK (.int 2))) (bE (cC (xL 7) "list.append" (a1 (xC (.ref 1193) (a1 (xL 0) (a1 (xL 2) (a1 (xC (.ref 1162) (a1 (xL 0) (a1 (xK (.int 3)) a0))) (a1 (xC (.ref 1162) (a1 (xL 0) (a1 (xK (.int 3)) a0))) a0))))) a0)) bN) (bA 9 (xS (bG (a1 (xK (.int 0)) (a1 (xK (.int 3)) (a1 (xK (.int 8)) (a1 (xK (.int 22)) a0))))) (xC (.ref 1162) (a1 (xL 0) (a1 (xK (.int 4)) a0)))) (bA 10 (xC (.ref 1162) (a1 (xL 0) (a1 (xK (.int 3)) a0))) (bE (cC (xL 7) "list.append" (a1 (xC (.ref 1193) (a1 (xL 0) (a1 (xL 9) (a1 (tZ (aG .Eq (xL 1) (xK (.int 2))) (xL 2) (xL 10)) (a1 (tZ (aG .Eq (xL 1) (xK (.int 3))) (xL 2) (xL 10)) a0))))) a0)) bN))) bN) bN
def iK:TS:=bE (cC (xL 15) "list.extend" (a1 (xS (xS (xL 7) (xL 8)) (xK (.int 0))) a0)) (bE (cC (xL 16) "list.extend" (a1 (xB .Add (xS (xL 14) (xL 8)) (xS (xS (xL 7) (xL 8)) (xK (.int 1)))) a0)) bN)
def pE:TS:=bI (aG .Gt (xL 8) (xK (.int 0))) (bE (cC (xL 15) "list.append" (a1 (xS (xL 13) (xB .Sub (xL 8) (xK (.int 1)))) a0)) bN) bN iK
def pG:TS:=bR (bG (a1 (xV (xL 15)) (a1 (xV (xL 16)) a0)))
def jc:TS:=bA 11 (cP (a1 (bG (a1 (xK (.int 22)) (a1 (xK (.str "")) (a1 (xK (.int 3)) a0)))) a0)) (bA 12 (cP (a1 (bG (a1 (xK (.int 23)) (a1 (xL 6) (a1 (xK (.int 2)) a0)))) a0)) (bA 13 (xS (bG (a1 (cP a0) (a1 (cP (a1 (xK (.str "?")) (a1 (xK (.str ":")) a0))) (a1 (cP (a1 (xL 6) a0)) (a1 (cP (a1 (xK (.str "?")) (a1 (xK (.str ":")) (a1 (xL 6) a0)))) (a1 (cP (a1 (xL 6) (a1 (xK (.str "?")) (a1 (xK (.str ":")) a0)))) (a1 (cP (a1 (xK (.str "?")) (a1 (xL 6) (a1 (xK (.str ":")) a0)))) a0))))))) (xL 3)) (bA 14 (xS (bG (a1 (cP (a1 (cP a0) a0)) (a1 (cP (a1 (xL 11) (a1 (cP a0) (a1 (cP a0) a0)))) (a1 (cP (a1 (xL 12) (a1 (cP a0) a0))) (a1 (cP (a1 (xL 11) (a1 (cP a0) (a1 (xL 12) (a1 (cP a0) a0))))) (a1 (cP (a1 (xL 12) (a1 (xL 11) (a1 (cP a0) (a1 (cP a0) a0))))) (a1 (cP (a1 (xL 11) (a1 (xL 12) (a1 (cP a0) (a1 (cP a0) a0))))) a0))))))) (xL 3)) (bA 15 (ko a0) (bA 16 (ko a0) (bF 8 (xC (.type "range") (a1 (xL 4) a0)) pE pG))))))
def pq:TS:=jc
def uU:DW:=.of "_law_whole" "_law_whole" (nth top 168) 1200 1199 mL 3 ["w", "form", "long", "shape", "count", "where", "sign", "chains", "turn", "links", "other", "choice", "put", "glue", "front", "pieces", "rows"] [(904,12),(904,20)] [(883,13),(897,13),(898,11)] [] []
def vD:TS:=bA 3 (xC (.ref 1162) (a1 (xL 0) (a1 (xK (.int 6)) a0))) (bA 4 (xS (bG (a1 (xK (.int 1)) (a1 (xK (.int 3)) (a1 (xK (.int 2)) (a1 (xK (.int 4)) (a1 (xK (.int 4)) (a1 (xK (.int 4)) a0))))))) (xL 3)) (bA 5 (xC (.ref 1162) (a1 (xL 0) (a1 (xL 4) a0))) (bA 6 (xS (xK (.tup [.str "=", .str "+=", .str "-=", .str ">>=", .str "*=", .str "<<=", .str "/=", .str "%=", .str "&=", .str "|=", .str "^="])) (xC (.ref 1162) (a1 (xL 0) (a1 (xK (.int 11)) a0)))) (bA 7 (ko a0) (bF 8 (xC (.type "range") (a1 (xL 4) a0)) hZ pq)))))
theorem vc {x0 x1 x2:V} (h:vD ⟨b,n,hd,fun _=>Ψ⟩ [some x0,some x1,some x2,none,none,none,none,none,none,none,none,none,none,none,none,none,none] σ (aZ Φ)):TC b (n + 1) hd (.ref 1200) [x0,x1,x2] σ Φ Ψ:=wT uU (by kernel_rfl) rfl h
def gY:TS:=bE (cC (xL 2) "list.append" (a1 (bG (a1 (xL 6) (a1 (tZ (aG .Eq (xL 6) (xK (.int 3))) (bG (a1 (xK (.int 7)) (a1 (xK (.str "")) a0))) (xL 5)) (a1 (xL 4) a0)))) a0)) (bA 4 (xB .Add (xB .Add (xL 4) (xC (.builtin "len") (a1 (xL 5) a0))) (xL 1)) bN)
def pD:TS:=bA 6 (xK (.int 6)) (bI (aG .In (xL 5) (bG (a1 (xK (.str "b")) (a1 (xK (.str "c")) (a1 (xK (.str "await")) a0))))) (bA 6 (xK (.int 1)) bN) (bI (aG .Eq (xL 5) (xK (.str "7"))) (bA 6 (xK (.int 3)) bN) (bI (aG .In (xL 5) (bG (a1 (xK (.str "int")) (a1 (xK (.str "is")) (a1 (xK (.str "as")) a0))))) (bA 6 (xK (.int 2)) bN) bN bN) bN) gY)
def fO:TS:=bI (xT (xC (.builtin "isinstance") (a1 (xL 5) (a1 (xK (.ty "int")) a0)))) (bI (qx (aG .Gt (xL 5) (xK (.int 40))) (aG .Lt (xL 3) (xK (.int 0)))) (bA 3 (xL 4) bN) bN bN) (bI (aG .In (xL 5) (bG (a1 (xK (.str ">>")) (a1 (xK (.str ">>=")) a0)))) (bE (cC (xL 2) "list.append" (a1 (bG (a1 (xK (.int 6)) (a1 (xK (.str ">")) (a1 (xL 4) a0)))) a0)) (bE (cC (xL 2) "list.append" (a1 (bG (a1 (xK (.int 6)) (a1 (Ge (xL 5) (some (xK (.int 1))) none none) (a1 (xB .Add (xL 4) (xK (.int 1))) a0)))) a0)) (bA 4 (xB .Add (xB .Add (xL 4) (xC (.builtin "len") (a1 (xL 5) a0))) (xL 1)) bN))) pD bN) bN
def oh:TS:=bE (cC (xL 2) "list.append" (a1 (bG (a1 (xK (.int 0)) (a1 (xK (.str "")) (a1 (xL 4) a0)))) a0)) (bR (bG (a1 (xV (xL 2)) (a1 (xL 3) a0))))
def u0:DW:=.of "_law_tokens" "_law_tokens" (nth top 169) 1207 1206 mL 2 ["pieces", "gap", "tokens", "bound", "place", "piece", "sort"] [(928,12)] [(906,13)] [] []
def tS:TS:=bA 2 (ko a0) (bA 3 (xN (xK (.int 1))) (bA 4 (xK (.int 0)) (bF 5 (xL 0) fO oh)))
theorem sU {x0 x1:V} (h:tS ⟨b,n,hd,fun _=>Ψ⟩ [some x0,some x1,none,none,none,none,none] σ (aZ Φ)):TC b (n + 1) hd (.ref 1207) [x0,x1] σ Φ Ψ:=wT u0 (by kernel_rfl) rfl h
def j7:TS:=bA 3 (cC (xL 2) "list.pop" a0) (bI (aG .Is (xL 3) (xK .none)) (bE (cC (xL 1) "list.append" (a1 (bG (a1 (xK (.int 0)) (a1 (xK (.str "")) (a1 (xK (.int 0)) a0)))) a0)) bN) (bE (cC (xL 1) "list.append" (a1 (bG (a1 (bg (xL 3) "kind") (a1 (bg (xL 3) "a") (a1 (xC (.builtin "len") (a1 (bg (xL 3) "kids") a0)) a0)))) a0)) (bE (cC (xL 2) "list.extend" (a1 (xV (Ge (bg (xV (xL 3)) "kids") none none (some (xN (xK (.int 1)))))) a0)) bN)) bN)
def rP:TS:=bR (xV (xL 1))
def yC:DW:=.of "_law_rows" "_law_rows" (nth top 170) 1214 1213 mL 1 ["root", "rows", "stack", "node"] [(938,25),(939,11)] [(930,11),(931,12)] [] []
def y0:TS:=bA 1 (ko a0) (bA 2 (ko (a1 (xL 0) a0)) (bW (aG .Gt (xC (.builtin "len") (a1 (xL 2) a0)) (xK (.int 0))) j7 rP))
theorem z5 {x0:V} (h:y0 ⟨b,n,hd,fun _=>Ψ⟩ [some x0,none,none,none] σ (aZ Φ)):TC b (n + 1) hd (.ref 1214) [x0] σ Φ Ψ:=wT yC (by kernel_rfl) rfl h
def iw:TS:=bI (D6 (aG .GtE (xL 6) (xK (.int 0))) (D6 (aG .NotEq (bg (xL 0) "at") (xB .Sub (xC (.builtin "len") (a1 (xL 5) a0)) (xK (.int 1)))) (D6 (aG .NotEq (bg (xL 0) "deep") (xL 3)) (aG .NotEq (bg (bg (xL 0) "diags") "rows") (cP a0))))) (bR (xK (.bool false))) bN (bR (wG (aG .Eq (xC (.ref 1214) (a1 (xL 7) a0)) (xL 2))))
def eJ:TS:=bT (bA 7 (xC (.ref 603) (a1 (xL 0) a0)) bN) (hA "TooDeep" 8 (bR (MJ (wG (aG .Eq (bg (xL 8) "code") (xK (.str "chain")))) (MJ (wG (aG .Eq (bg (xL 8) "at") (xL 6))) (wG (aG .Eq (bg (bg (xL 0) "diags") "rows") (cP a0))))))) iw
def uY:DW:=.of "_law_holds" "_law_holds" (nth top 171) 1221 1220 mL 5 ["p", "pieces", "rows", "deep", "gap", "tokens", "bound", "node", "fault"] [] [] [] []
def vF:TS:=HX [.nm 5,.nm 6] (xC (.ref 1207) (a1 (xL 1) (a1 (xL 4) a0))) (jx (xL 0) "tokens" (xL 5) (jx (xL 0) "at" (xK (.int 0)) (jx (xL 0) "deep" (xL 3) (jx (xL 0) "in_async" (xK (.bool true)) (jx (xL 0) "diags" (xC (.ref 80) a0) eJ)))))
theorem vi {x0 x1 x2 x3 x4:V} (h:vF ⟨b,n,hd,fun _=>Ψ⟩ [some x0,some x1,some x2,some x3,some x4,none,none,none,none] σ (aZ Φ)):TC b (n + 1) hd (.ref 1221) [x0,x1,x2,x3,x4] σ Φ Ψ:=wT uY (by kernel_rfl) rfl h
abbrev fc:List Str:=["items", "ops", "power", "op", "left", "rest", "at", "rows"]
abbrev rQ:List Str:=["script", "given", "w", "p", "gap", "turn", "form", "long", "pieces", "rows"]
abbrev d6:List Str:=["items", "ops", "left", "at", "spots", "first", "whole"]
abbrev FF (ap:Addr):Fn:={ dJ with cl:=[("powers", ap)] }
abbrev FT (ah ap:Addr):Fn:={ dT with cl:=[("held", ah),("powers", ap)] }
def Qx (s:Stmt):Expr:=(Pm s).2.2.2.rec (.Name "x" ⟨0,0,0,0⟩) fun e _ _=>vE (fun _=>Expr) id e (cm:=fun e _ es _=>es.headD e) (lc:=fun e gs _ _=>gs.rec e fun g _ _=>g.iter)
def Ju:Expr:=Qx (nth (bodyOf (nth eX 0)) 0)
def Bf:Stmt:=nth (bodyOf (nth (bodyOf (nth eW 3)) 0)) 0
theorem wg (P:PySem.Params):(K P).lookup 1181=some ⟨.type "function", none,.func (fnOf "_law_fold" dJ.qual (oA (nth top 165)) eX dJ.scope .none .none .none (PySem.Value.str "law_xm0343_01" 2120) none dJ.cdv .none),#[]⟩:=by kernel_rfl
theorem wA {c:Cx} (hK:c.K=K c.w.params):Bd c dJ ["items", "ops", "powers"] fc ["powers"] eX where
 at_:=⟨_,_,_,_,_,_,_,_,_,_,_,(by rw [hK]; exact wg _),fun s vs h=>.of_eq (PL (k:=3) rfl (by kernel_rfl) vs h)⟩
 code:=(by rw [hK]; kernel_rfl)
 plain:=⟨rfl,rfl,rfl⟩
 nd:=of_decide_eq_true (by kernel_rfl)
 keysnd:=of_decide_eq_true (by kernel_rfl)
 keysin:=of_decide_eq_true (by kernel_rfl)
 cellsin:=of_decide_eq_true (by kernel_rfl)
 cells:=(by kernel_rfl)
 cellsnd:=of_decide_eq_true (by kernel_rfl)
 parin:=of_decide_eq_true (by kernel_rfl)
 parnd:=of_decide_eq_true (by kernel_rfl)
 nodebug:=(by kernel_rfl)
theorem wB (P:PySem.Params):(K P).lookup 1186=some ⟨.type "function", none,.func (fnOf "_law_tree" dT.qual (oA (nth top 166)) eW dT.scope .none .none .none (PySem.Value.str "law_xm0343_01" 2120) none dT.cdv .none),#[]⟩:=by kernel_rfl
theorem vC {c:Cx} (hK:c.K=K c.w.params):Bd c dT ["items", "ops"] d6 ["held", "powers"] eW where
 at_:=⟨_,_,_,_,_,_,_,_,_,_,_,(by rw [hK]; exact wB _),fun s vs h=>.of_eq (PL (k:=2) rfl (by kernel_rfl) vs h)⟩
 code:=(by rw [hK]; kernel_rfl)
 plain:=⟨rfl,rfl,rfl⟩
 nd:=of_decide_eq_true (by kernel_rfl)
 keysnd:=of_decide_eq_true (by kernel_rfl)
 keysin:=of_decide_eq_true (by kernel_rfl)
 cellsin:=of_decide_eq_true (by kernel_rfl)
 cells:=(by kernel_rfl)
 cellsnd:=of_decide_eq_true (by kernel_rfl)
 parin:=of_decide_eq_true (by kernel_rfl)
 parnd:=of_decide_eq_true (by kernel_rfl)
 nodebug:=(by kernel_rfl)
def iT (ap:Addr):TS:=bA 3 (xS (xL 1) (xL 6)) (bI (aG .Eq (xS (CS ap) (xL 3)) (xL 2)) (fE (xL 4) (xN (xK (.int 1))) (xB .Add (xB .Add (cP (a1 (bG (a1 (tZ (aG .Lt (xL 2) (xK (.int 4))) (xK (.int 21)) (xK (.int 20))) (a1 (xL 3) (a1 (xK (.int 2)) a0)))) a0)) (xS (xL 4) (xN (xK (.int 1))))) (xS (xL 0) (xB .Add (xL 6) (xK (.int 1))))) bN) (bE (cC (xL 4) "list.append" (a1 (xS (xL 0) (xB .Add (xL 6) (xK (.int 1)))) a0)) (bE (cC (xL 5) "list.append" (a1 (xL 3) a0)) bN)) bN)
def r9 (ap:Addr):TS:=bA 0 (xV (xL 4)) (bA 1 (xV (xL 5)) bN)
def iC (ap:Addr):TS:=bI (aG .In (xL 2) (Q5 (FF ap) fc Ju)) (bA 4 (ko (a1 (xS (xL 0) (xK (.int 0))) a0)) (bA 5 (ko a0) (bF 6 (xC (.type "range") (a1 (xC (.builtin "len") (a1 (xL 1) a0)) a0)) (iT ap) (r9 ap)))) bN bN
def sk (ap:Addr):TS:=bA 7 (xB .Add (xB .Add (cP (a1 (bG (a1 (xK (.int 21)) (a1 (xK (.str "??")) (a1 (xK (.int 2)) a0)))) a0)) (xS (xL 0) (xL 6))) (xL 7)) bN
def qJ (ap:Addr):TS:=bR (xV (xL 7))
def iV (ap:Addr):TS:=bA 7 (xS (xL 0) (xN (xK (.int 1)))) (bF 6 (xC (.type "range") (a1 (xB .Sub (xC (.builtin "len") (a1 (xL 1) a0)) (xK (.int 1))) (a1 (xN (xK (.int 1))) (a1 (xN (xK (.int 1))) a0)))) (sk ap) (qJ ap))
def iS (ap:Addr):TS:=bF 2 (xC (.type "range") (a1 (xK (.int 11)) (a1 (xK (.int 1)) (a1 (xN (xK (.int 1))) a0)))) (iC ap) (iV ap)
theorem yy (ap:Addr):(cB ⟨FF ap,fc,[(822,20),(823,18),(827,11)],[(813,19),(814,19)],[],[]⟩ 40 eX).map (·.1)=some (iS ap):=by kernel_rfl
def s8 (ah ap:Addr):TS:=bA 2 (xB .Add (xV (Ge (xV (xL 2)) none (some (xL 5)) none)) (cP (a1 (xB .Add (xB .Add (cP (a1 (bG (a1 (tZ (aG .Eq (xS (xL 1) (xL 3)) (xK (.str "is"))) (xK (.int 25)) (xK (.int 26))) (a1 (xK (.str "")) (a1 (xK (.int 2)) a0)))) a0)) (xL 6)) (xS (xL 0) (xB .Add (xL 3) (xK (.int 1))))) a0))) (ME ah (Ge (CS ah) none (some (xL 5)) none) bN)
def ik (ah ap:Addr):TS:=bA 6 (xC (.ref 1181) (a1 (xV (Ge (xV (xL 2)) (some (xL 5)) none none)) (a1 (xV (Ge (xV (CS ah)) (some (xL 5)) none none)) (a1 (CS ap) a0)))) (s8 ah ap)
def ip (ah ap:Addr):TS:=bA 5 (tZ (aG .Gt (xC (.builtin "len") (a1 (xL 4) a0)) (xK (.int 0))) (xS (xL 4) (xN (xK (.int 1)))) (xK (.int 0))) (ik ah ap)
def ir (ah ap:Addr):TS:=MI (FT ah ap) d6 Bf (ip ah ap)
def iI (ah ap:Addr):TS:=bI (aG .In (xS (xL 1) (xL 3)) (bG (a1 (xK (.str "is")) (a1 (xK (.str "as")) a0)))) (ir ah ap) (bE (cC (xL 2) "list.append" (a1 (xS (xL 0) (xB .Add (xL 3) (xK (.int 1)))) a0)) (bE (cC (CS ah) "list.append" (a1 (xS (xL 1) (xL 3)) a0)) bN)) bN
def qD (ah ap:Addr):TS:=bR (xC (.ref 1181) (a1 (xV (xL 2)) (a1 (xV (CS ah)) (a1 (CS ap) a0))))
def oK (ah ap:Addr):TS:=ME ap (xC (.ref 1176) a0) (bA 2 (ko (a1 (xS (xL 0) (xK (.int 0))) a0)) (ME ah (ko a0) (bF 3 (xC (.type "range") (a1 (xC (.builtin "len") (a1 (xL 1) a0)) a0)) (iI ah ap) (qD ah ap))))
theorem xO (ah ap:Addr):(cB ⟨FT ah ap,d6,[(836,30),(836,44),(837,19),(842,21),(842,27)],[(830,11),(831,11)],[],[]⟩ 40 eW).map (·.1)=some (oK ah ap):=by kernel_rfl
def yG:TS:=bA 6 (xC (.ref 1162) (a1 (xL 2) (a1 (xK (.int 4)) a0))) (bA 7 (xS (xS (bG (a1 (bG (a1 (xK (.int 40)) (a1 (xK (.int 39)) (a1 (xK (.int 40)) (a1 (xK (.int 36)) (a1 (xK (.int 38)) (a1 (xK (.int 37)) a0))))))) (a1 (bG (a1 (xK (.int 41)) (a1 (xK (.int 42)) (a1 (xK (.int 41)) (a1 (xK (.int 44)) (a1 (xK (.int 43)) (a1 (xK (.int 40)) a0))))))) a0))) (xL 5)) (xC (.ref 1162) (a1 (xL 2) (a1 (xK (.int 6)) a0)))) (HX [.nm 8,.nm 9] (xC (.ref 1200) (a1 (xL 2) (a1 (xL 6) (a1 (xL 7) a0)))) (bI (GO (xT (xC (.ref 1221) (a1 (xL 3) (a1 (xL 8) (a1 (xL 9) (a1 (xC (.ref 1162) (a1 (xL 2) (a1 (xK (.int 4)) a0))) (a1 (xL 4) a0)))))))) (bR (xK (.bool false))) bN bN)))
def Ej:TS:=bR (xK (.bool true))
def B3:TS:=bA 4 (xB .Add (xK (.int 1)) (xC (.ref 1162) (a1 (xL 2) (a1 (xK (.int 3)) a0)))) (bF 5 (xC (.type "range") (a1 (xK (.int 2)) a0)) yG Ej)
def BK:TS:=bA 3 (xC (.ref 341) (a1 (cP a0) (a1 (xC (.ref 80) a0) a0))) (bE (xC (.ref 434) (a1 (xL 3) a0)) (bE (xC (.ref 1143) (a1 (xL 3) a0)) B3))
def B9:TS:=MI iX rQ (nth rS 2) BK
def Bb:TS:=bI (aG .Eq (xC (.builtin "len") (a1 (xL 1) a0)) (xK (.int 0))) (bA 1 (ko (a1 (xK (.int 0)) (a1 (xK (.int 2)) (a1 (xK (.int 0)) (a1 (xK (.int 0)) (a1 (xK (.int 0)) (a1 (xK (.int 0)) (a1 (xK (.int 0)) (a1 (xK (.int 1)) (a1 (xK (.int 0)) (a1 (xK (.int 0)) (a1 (xK (.int 0)) (a1 (xK (.int 0)) (a1 (xK (.int 8)) (a1 (xK (.int 0)) (a1 (xK (.int 0)) (a1 (xK (.int 0)) (a1 (xK (.int 0)) (a1 (xK (.int 1)) (a1 (xK (.int 1)) (a1 (xK (.int 0)) (a1 (xK (.int 1)) (a1 (xK (.int 1)) (a1 (xK (.int 0)) (a1 (xK (.int 0)) (a1 (xK (.int 0)) (a1 (xK (.int 0)) (a1 (xK (.int 0)) (a1 (xK (.int 1)) (a1 (xK (.int 1)) (a1 (xK (.int 0)) (a1 (xK (.int 0)) (a1 (xK (.int 0)) (a1 (xK (.int 1)) (a1 (xK (.int 5)) (a1 (xK (.int 2)) (a1 (xK (.int 0)) (a1 (xK (.int 0)) (a1 (xK (.int 0)) (a1 (xK (.int 0)) (a1 (xK (.int 0)) (a1 (xK (.int 1)) (a1 (xK (.int 0)) (a1 (xK (.int 0)) a0)))))))))))))))))))))))))))))))))))))))))))) bN) bN B9
def Jy:TS:=MI iX rQ (nth rS 0) Bb
theorem P9:RB iX rQ rS Jy:=by
 have hc:(cB ⟨iX,rQ,[],[(959,16)],[],[]⟩ 90 rS).map (·.1)=some Jy:=by kernel_rfl
 obtain ⟨t,e,e2⟩:=Option.map_eq_some_iff.mp hc
 rw [← e2]; exact t.2
theorem z0 {x0 x1 x2:V} (h:∀ ap,σ ap=none→iS ap ⟨b,n,hd,fun _=>Ψ⟩ [some x0,some x1,none,none,none,none,none,none] (σ.upd ap (.cell (some x2))) (aZ Φ)):TC b (n + 1) hd (.ref 1181) [x0,x1,x2] σ Φ Ψ:=by
 refine .of (Jn (r:=[some x0,some x1,none,none,none,none,none,none]) (val:=fun x=>if x = "powers" then some x2 else none) (wA b.hK) 40 rfl rfl (fun x v hx=>?_) (fun x=>⟨fun v hv=>?_,fun hx hv=>?_⟩) fun cl h1 h2 h3=>?_).sc
 ·have:=iA (ps:=["items", "ops"]) ⟨["power", "op", "left", "rest", "at", "rows"],rfl⟩ rfl (yR (xs:=[x0,x1]) (m:=6) hx)
  rcases List.mem_cons.mp this with h | h
  ·rw [h]; exact .head _
  ·rcases List.mem_cons.mp h with h | h
   ·rw [h]; exact .tail _ (.head _)
   ·cases h
 ·by_cases e:x = "powers"
  ·subst e
   rw [if_pos rfl] at hv
   rw [← Option.some.inj hv]
   exact ⟨.head _,.tail _ (.tail _ (.head _))⟩
  ·rw [if_neg e] at hv; cases hv
 ·have e:x = "powers" := by simpa using hx
  rw [if_pos e] at hv; cases hv
 obtain ⟨a,rfl⟩:∃ a,cl=[(("powers" : Str),a)]:=by
  match cl,h1 with
  | [(x,a)],h1=>
   have:x = "powers" := by simpa using h1
   subst this; exact ⟨a,rfl⟩
 refine ⟨_,_,?_,?_,yy a,?_⟩
 ·rfl
 ·rfl
 show iS a _ _ (σ.upd a (.cell (if ("powers" : Str) = "powers" then some x2 else none))) _
 rw [if_pos rfl]; exact h a (h3 _ (.head _))
theorem wX {x0 x1:V} (h:∀ ah ap,ah≠ap→σ ah=none→σ ap=none→oK ah ap ⟨b,n,hd,fun _=>Ψ⟩ [some x0,some x1,none,none,none,none,none] ((σ.upd ah (.cell none)).upd ap (.cell none)) (aZ Φ)):TC b (n + 1) hd (.ref 1186) [x0,x1] σ Φ Ψ:=by
 refine .of (Jn (r:=[some x0,some x1,none,none,none,none,none]) (val:=fun x=>none) (vC b.hK) 40 rfl rfl (fun x v hx=>iA ⟨["left", "at", "spots", "first", "whole"],rfl⟩ rfl (yR (xs:=[x0,x1]) (m:=5) hx)) (fun x=>⟨fun v hv=>(by cases hv),fun hx hv=>?_⟩) fun cl h1 h2 h3=>?_).sc
 ·have:∀ x∈[("held" : Str),"powers"],x∉[("items" : Str),"ops"]:=by decide +kernel
  exact this x hx
 obtain ⟨ah,ap,rfl⟩:∃ ah ap,cl=[(("held" : Str),ah),("powers", ap)]:=by
  match cl,h1 with
  | [(x,a),(y,b)],h1=>
   have h4:x = "held" ∧ y = "powers" := by simpa using h1
   obtain ⟨rfl,rfl⟩:=h4; exact ⟨a,b,rfl⟩
 refine ⟨_,_,?_,?_,xO ah ap,h ah ap (by simpa using h2) (h3 _ (.head _)) (h3 _ (.tail _ (.head _)))⟩
 ·rfl
 ·rfl
end
abbrev dz (g:List Int) (a:Nat):AO:=.ds ["given", "at"] [.fl (g.map .int),.int a]
section
variable {c:Cx} {n:Nat} {hd:Option Addr} {σ τ:AH} {Ψ:Addr→AH→Prop} {Φ:Pv} {fn:Fn} {ρ:Loc} {X:Px}
theorem bq (g:List Int) (a:Nat) {m:Nat} (h:0 < m):tk g a m < m:=by
 unfold tk
 have h1:=Int.emod_nonneg (g.getD (a % g.length) 0 + 13 * ((a / g.length:Nat):Int)) (b:=m) (Int.natCast_ne_zero.mpr (Nat.ne_of_gt h))
 have h2:=Int.emod_lt_of_pos (g.getD (a % g.length) 0 + 13 * ((a / g.length:Nat):Int)) (b:=m) (Int.natCast_pos.mpr h)
 exact (Int.toNat_lt h1).mpr h2
theorem HY {g:List Int} {a m:Nat} {x:Int} (hm:0 < m) (hx:g.getD (a % g.length) 0=x):(x + 13 * (Int.fdiv a g.length)).fmod m=(tk g a m:Int):=by
 have e1:Int.fdiv (a:Int) (g.length:Int)=((a / g.length:Nat):Int):=by rw [Int.fdiv_eq_ediv_of_nonneg _ (by omega)]; rfl
 rw [e1,Int.fmod_eq_emod_of_nonneg _ (by omega)]
 unfold tk
 rw [hx,Int.toNat_of_nonneg (Int.emod_nonneg _ (by omega))]
end
def lay (σ:AH):List (Addr×List V)→AH
 | []=>σ
 | (a,xs) :: r=>(lay σ r).upd a (.list xs)
inductive LA (a:Addr) (xs:List V):List (Addr×List V)→Prop
 | head {r:List (Addr×List V)}:LA a xs ((a,xs) :: r)
 | tail {p:Addr×List V} {r:List (Addr×List V)}:LA a xs r→LA a xs (p :: r)
class inductive LU (a:Addr) (ys:List V):List (Addr×List V)→List (Addr×List V)→Prop
 | head {xs:List V} {r:List (Addr×List V)}:LU a ys ((a,xs) :: r) ((a,ys) :: r)
 | tail {p:Addr×List V} {r r':List (Addr×List V)}:LU a ys r r'→LU a ys (p :: r) (p :: r')
class inductive LD (a:Addr):List (Addr×List V)→List (Addr×List V)→Prop
 | head {xs:List V} {r:List (Addr×List V)}:LD a ((a,xs) :: r) r
 | tail {p:Addr×List V} {r r':List (Addr×List V)}:LD a r r'→LD a (p :: r) (p :: r')
structure LN (σ:AH) (l:List (Addr×List V)):Prop where
 nd:(l.map (·.1)).Nodup
 fr:∀ p∈l,σ p.1=none
theorem LA.mem {a:Addr} {xs:List V} {l:List (Addr×List V)} (h:LA a xs l):(a,xs)∈l:=by
 induction h with
 | head=>exact .head _
 | tail _ ih=>exact .tail _ ih
theorem LU.keys {a:Addr} {ys:List V} {l l':List (Addr×List V)} (h:LU a ys l l'):l'.map (·.1)=l.map (·.1):=by
 induction h with
 | head=>rfl
 | tail _ ih=>rw [List.map_cons,List.map_cons,ih]
theorem LU.mem {a:Addr} {ys:List V} {l l':List (Addr×List V)} (h:LU a ys l l'):a∈l.map (·.1):=by
 induction h with
 | head=>exact .head _
 | tail _ ih=>exact .tail _ ih
theorem LD.mem {a:Addr} {l l':List (Addr×List V)} (h:LD a l l'):a∈l.map (·.1):=by
 induction h with
 | head=>exact .head _
 | tail _ ih=>exact .tail _ ih
theorem LD.sub {a:Addr} {l l':List (Addr×List V)} (h:LD a l l'):l'.Sublist l:=by
 induction h with
 | head=>exact .cons _ (List.Sublist.refl _)
 | tail _ ih=>exact .cons_cons _ ih
section
variable {c:Cx} {σ τ:AH} {l l':List (Addr×List V)} {a:Addr} {xs ys:List V}
theorem LN.tail {p:Addr×List V} (h:LN σ (p :: l)):LN σ l:=⟨by have:=h.nd; rw [List.map_cons,List.nodup_cons] at this; exact this.2,fun q hq=>h.fr q (.tail _ hq)⟩
theorem LN.ne {p:Addr×List V} (h:LN σ (p :: l)) (hm:a∈l.map (·.1)):a≠p.1:=fun e=>by
 have:=h.nd
 rw [List.map_cons,List.nodup_cons] at this
 exact this.1 (e ▸ hm)
theorem LN.get (h:LN σ l) (k:LA a xs l):lay σ l a=some (.list xs):=by
 induction k with
 | head=>exact AH.a9 ..
 | @tail p r k ih=>
  have:=h.ne (List.mem_map_of_mem k.mem)
  show ((lay σ r).upd p.1 _) a=_
  rw [AH.a8 _ _ this]; exact ih h.tail
theorem LN.up (h:LN σ l) (k:LU a ys l l'):(lay σ l).upd a (.list ys)=lay σ l':=by
 induction k with
 | head=>exact AH.aU ..
 | @tail p r r' k ih=>
  have:=h.ne k.mem
  show ((lay σ r).upd p.1 _).upd a _=(lay σ r').upd p.1 _
  rw [AH.aF _ _ _ this.symm,ih h.tail]
theorem LN.set (h:LN σ l) (k:LU a ys l l'):LN σ l':=⟨by rw [k.keys]; exact h.nd,fun p hp=>by
 have:p.1∈l'.map (·.1):=List.mem_map_of_mem hp
 rw [k.keys] at this
 obtain ⟨q,hq,e⟩:=List.mem_map.mp this
 rw [← e]; exact h.fr q hq⟩
theorem mf (hm:a∉l.map (·.1)):lay σ l a=σ a:=by
 induction l with
 | nil=>rfl
 | cons p r ih=>
  rw [List.map_cons,List.mem_cons,not_or] at hm
  show ((lay σ r).upd p.1 _) a=_
  rw [AH.a8 _ _ hm.1,ih hm.2]
theorem IW (hm:a∈l.map (·.1)):∃ o,lay σ l a=some o:=by
 induction l with
 | nil=>cases hm
 | cons p r ih=>
  by_cases e:a=p.1
  ·exact ⟨_,by rw [e]; exact AH.a9 ..⟩
  ·rw [List.map_cons,List.mem_cons] at hm
   obtain ⟨o,ho⟩:=ih (hm.resolve_left e)
   exact ⟨o,by show ((lay σ r).upd p.1 _) a=_; rw [AH.a8 _ _ e]; exact ho⟩
theorem LN.new (h:LN σ l) (ha:lay σ l a=none):LN σ ((a,xs) :: l):=by
 have hm:a∉l.map (·.1):=fun hm=>by obtain ⟨o,ho⟩:=IW (σ:=σ) hm; rw [ha] at ho; cases ho
 refine ⟨by rw [List.map_cons,List.nodup_cons]; exact ⟨hm,h.nd⟩,fun p hp=>?_⟩
 rcases List.mem_cons.mp hp with rfl | hp
 ·rw [mf hm] at ha; exact ha
 ·exact h.fr p hp
theorem LN.nil:LN σ []:=⟨List.nodup_nil,fun p hp=>nomatch hp⟩
theorem LN.del (h:LN σ l) (k:LD a l l'):(lay σ l).del a=lay σ l'∧LN σ l':=by
 refine ⟨?_,⟨?_,fun p hp=>h.fr p (k.sub.subset hp)⟩⟩
 ·induction k with
  | @head xs r=>
   refine AH.dw ?_
   have hm:a∉r.map (·.1):=by have:=h.nd; rw [List.map_cons,List.nodup_cons] at this; exact this.1
   rw [mf hm]; exact h.fr _ (.head _)
  | @tail p r r' k ih=>
   have hne:=h.ne k.mem
   show ((lay σ r).upd p.1 _).del a=(lay σ r').upd p.1 _
   rw [← ih h.tail]
   funext b
   unfold AH.upd AH.del
   by_cases e1:b=a
   ·rw [if_pos e1,e1,if_neg hne,if_pos rfl]
   ·rw [if_neg e1]
    by_cases e2:b=p.1
    ·rw [if_pos e2]; exact if_pos e2
    ·rw [if_neg e2,if_neg e1]; exact if_neg e2
 ·exact h.nd.sublist (k.sub.map _)
theorem LN.sub (h:LN σ l) {b:Addr} {o:AO} (hb:σ b=some o):lay σ l b=some o:=by
 rw [mf fun hm=>by obtain ⟨p,hp,e⟩:=List.mem_map.mp hm; rw [← e,h.fr p hp] at hb; cases hb]; exact hb
theorem LN.drop (h:LN σ l):cF c (lay σ l) σ:=cF.drop fun _ _ hb=>h.sub hb
theorem LN.base {b:Addr} {o o':AO} (h:LN σ l) (hb:σ b=some o):(lay σ l).upd b o'=lay (σ.upd b o') l∧LN (σ.upd b o') l:=by
 have hne:∀ p∈l,p.1≠b:=fun p hp e=>by have:=h.fr p hp; rw [e,hb] at this; cases this
 refine ⟨?_,h.nd,fun p hp=>by rw [AH.a8 _ _ (hne p hp)]; exact h.fr p hp⟩
 clear h hb
 induction l with
 | nil=>rfl
 | cons p r ih=>
  show ((lay σ r).upd p.1 _).upd b _=(lay (σ.upd b o') r).upd p.1 _
  rw [AH.aF _ _ _ (hne p (.head _)),ih fun q hq=>hne q (.tail _ hq)]
theorem LN.fl (h:LN σ l) (k:LA a xs l) (kd:LD a l l'):b7 c (.ref a) (lay σ l) (.fl xs) (lay σ l'):=by
 rw [← (h.del kd).1]; exact b7.fl (h.get k)
theorem CH (N:Nat):dM 0 N 1=(List.range N).map fun k:Nat=>V.int k:=by
 unfold dM
 have:Builtin.Range.rangeSize 0 (N:Int) 1=((N:Nat):Int):=by rw [rangeSize_one]; split <;> omega
 rw [this,Int.toNat_natCast]
 refine List.map_congr_left fun k _=>?_
 rw [Int.one_mul,Int.zero_add]
theorem IB {N:Nat} (h:N≤100000):ph σ (.rng 0 N 1) ((List.range N).map fun k:Nat=>V.int k):=by
 rw [← CH]; exact .rng (small_one (by omega) (by omega) (by omega) (by omega))
theorem Cj {N k:Nat} {y:V} (h:((List.range N).map fun k:Nat=>V.int k)[k]?=some y):k < N∧y=.int k:=by
 rw [List.getElem?_map] at h
 by_cases hk:k < N
 ·rw [List.getElem?_range hk] at h
  exact ⟨hk,(Option.some.inj h).symm⟩
 ·rw [List.getElem?_eq_none (by rw [List.length_range]; omega)] at h; cases h
end
section
theorem A6 {x:Int} (h:x.natAbs < 2 ^ 60):Builtin.Int.intBits x≤64:=by
 unfold Builtin.Int.intBits
 split
 ·exact Nat.zero_le _
 ·rename_i hx
  exact Nat.le_trans ((Nat.log2_lt fun e=>hx (by rw [Int.natAbs_eq_zero.mp e]; rfl)).mpr h) (by decide)
theorem eD {l:List Str} {k:Nat} (h:k < l.length):(l.map V.str)[k]?=some (.str (l.getD k "")):=by
 simp [h]
theorem Fz (mix t:Nat):((mix:Int) + t * (1 + 2 * Int.fdiv mix 8)).fmod 8=(((mix + t * (1 + 2 * (mix / 8))) % 8:Nat):Int):=by
 rw [Int.fdiv_eq_ediv_of_nonneg _ (by omega),Int.fmod_eq_emod_of_nonneg _ (by omega)]
 push_cast; rfl
theorem Fd (mix t:Nat):((mix:Int) + t * (1 + Int.fmod mix 4)).fmod 5=(((mix + t * (1 + mix % 4)) % 5:Nat):Int):=by
 rw [Int.fmod_eq_emod_of_nonneg _ (by omega),Int.fmod_eq_emod_of_nonneg _ (by omega)]
 push_cast; rfl
theorem O4 {x y:Int} (h:y.natAbs < 2 ^ 60):Builtin.divisionGoesByPylong x y=false:=by
 unfold Builtin.divisionGoesByPylong
 have:¬ ((if y == 0 then 0 else y.natAbs.log2 / 30 + 1) > 300):=by
  split
  ·omega
  ·rename_i hy
   have h1:y.natAbs.log2 < 60:=by
    rw [Nat.log2_lt (by simp at hy; omega)]; exact h
   omega
 simp only [decide_eq_false this,Bool.false_and]
end
section
variable {b:Bs} {n:Nat} {hd:Option Addr} {σ τ:AH} {Φ:Pv} {Ψ:Addr→AH→Prop} {X:XX} {r:Fm} {v w:V} {Θ:Ph} {l l':List (Addr×List V)} {a:Addr} {xs ys:List V} {es:TA} {Y:Fm→Addr→AH→Prop} {body rest:TS} {i j:Int}
class inductive LP (a:Addr) (xs ys:List V):List (Addr×List V)→List (Addr×List V)→Prop
 | head {r:List (Addr×List V)}:LP a xs ys ((a,xs) :: r) ((a,ys) :: r)
 | tail {p:Addr×List V} {r r':List (Addr×List V)}:LP a xs ys r r'→LP a xs ys (p :: r) (p :: r')
theorem LP.la (h:LP a xs ys l l'):LA a xs l:=by
 induction h with
 | head=>exact .head
 | tail _ ih=>exact .tail ih
theorem LP.lu (h:LP a xs ys l l'):LU a ys l l':=by
 induction h with
 | head=>exact .head
 | tail _ ih=>exact .tail ih
theorem KG (N:LN σ l) (k:LP a xs (xs ++ [v]) l l') (hl:xs.length≤100000) (q:LN σ l'→Φ .none (lay σ l')):TC b n hd (.builtin "list.append") [.ref a,v] (lay σ l) Φ Ψ:=
 c5 (N.get k.la) hl (by rw [N.up k.lu]; exact q (N.set k.lu))
theorem bz (N:LN σ l) (k:LP a xs (xs ++ [v]) l l') (hl:xs.length≤100000) (he:∀ Φ:List V→AH→Prop,Φ [v] (lay σ l)→es X r (lay σ l) Φ) (q:LN σ l'→Φ .none (lay σ l')):JE X r (.ref a) "list.append" es (lay σ l) Φ:=
 tT (N.get k.la) (he _ (KG N k hl q))
theorem Mr (N:LN σ l) (k:LP a xs (xs ++ ys) l l') (J:ec (lay σ l) v ys) (hl:xs.length + ys.length≤100000) (q:LN σ l'→Φ .none (lay σ l')):TC b n hd (.builtin "list.extend") [.ref a,v] (lay σ l) Φ Ψ:=
 .of (Dg (N.get k.la) J hl (by rw [N.up k.lu]; exact q (N.set k.lu)))
theorem gZ (N:LN σ l) (k:LP a xs (xs ++ ys) l l') (J:ec (lay σ l) v ys) (hl:xs.length + ys.length≤100000) (he:∀ Φ:List V→AH→Prop,Φ [v] (lay σ l)→es X r (lay σ l) Φ) (q:LN σ l'→Φ .none (lay σ l')):JE X r (.ref a) "list.extend" es (lay σ l) Φ:=
 tT (N.get k.la) (he _ (Mr N k J hl q))
theorem fg {i:Int} (q:Φ (.rng 0 i 1) σ):TC b n hd (.type "range") [.int i] σ Φ Ψ:=.of (CP q)
theorem gz {N k:Nat} (hN:N≤100000) (I:Nat→Fm→AH→Prop) (h0:I 0 r σ) (ht:∀ j r σ,j < N→I j r σ→body X (r.set k (some (.int j))) σ (HB rest X Θ (I (j + 1)))) (hend:∀ r σ,I N r σ→rest X r σ Θ):WF k body rest X (.rng 0 N 1) r σ Θ:=by
 unfold WF
 exact ⟨_,I,fun _ _ _ _=>IB hN,h0,fun j y r σ hy hI=>by
  obtain ⟨h1,rfl⟩:=Cj hy
  exact ht j r σ h1 hI,fun r σ hI=>hend r σ (by rw [List.length_map,List.length_range] at hI; exact hI)⟩
theorem oF (h:i.natAbs < 2 ^ 60) {A:Prop} (q:A):IntMulOk i j∧A:=⟨IntMulOk.of_left (A6 h),q⟩
theorem E4 (h:j≠0) (h2:j.natAbs < 2 ^ 60) {A:Prop} (q:A):(j≠0∧Builtin.divisionGoesByPylong i j=false)∧A:=⟨⟨h,O4 h2⟩,q⟩
theorem dF {k:Nat} {i:Int} (e:i=k) (h:xs[k]?=some v) (hl:xs.length≤1000000) (q:Φ v σ):Kp (G1 xs i) Φ σ:=by rw [e]; exact yo (EG h hl) q
theorem az {aw:Addr} {g:List Int} {a m:Nat} {i:Int} (hi:i=m) (hg:0 < g.length) (hgl:g.length≤100000) (hm:0 < m) (q:Φ (.int (tk g a m)) (σ.upd aw (dz g (a + 1)))):TC b (n + 1) none (.ref 1162) [.ref aw,.int i] (σ.upd aw (dz g a)) Φ Ψ:=by
 subst hi
 have hs:(σ.upd aw (dz g a)) aw=some (dz g a):=AH.a9 ..
 have hs2:(σ.upd aw (dz g (a + 1))) aw=some (dz g (a + 1)):=AH.a9 ..
 have hlt:a % g.length < g.length:=Nat.mod_lt _ hg
 have hmod:((a:Int).fmod ((g.map V.int).length:Nat))=((a % g.length:Nat):Int):=by rw [List.length_map,Int.fmod_eq_emod_of_nonneg _ (by omega)]; rfl
 have hl:(g.map V.int).length≤1000000:=by rw [List.length_map]; omega
 refine yq (ij (.ds (.ref hs) (.tail .head)) (fun _ e=>by cases e) ?_)
 have oi:∀ {k:AH→Prop},k (σ.upd aw (dz g (a + 1)))→wF (.ref aw) (.str "at") (.int ((a:Int) + 1)) (σ.upd aw (dz g a)) k:=fun h=>by unfold wF; exact ⟨_,.ds hs (by simp) (.old (.tail .head)),by rw [AH.aU]; exact h⟩
 refine oi (ij (.ds (.ref hs2) .head) (fun _ e=>by cases e) (cD .fl hl ⟨by rw [List.length_map]; omega,?_⟩))
 rw [hmod]
 refine B8 (v:=.int (g.getD (a % g.length) 0)) (by simp [hlt]) hl (cD .fl hl (E4 (by rw [List.length_map]; omega) (by rw [List.length_map]; omega) (oF (by decide +kernel) ⟨by omega,?_⟩)))
 rw [List.length_map,HY hm rfl]; exact q
end
theorem oM (mix k:Nat):aI mix (k + 1)=aI mix k ++ ae (aK mix k) k:=by
 unfold aI; rw [List.range_succ,List.flatMap_append]; simp
theorem yZ (mix k:Nat):dX mix (k + 1)=dX mix k ++ bM (aK mix k):=by
 unfold dX; rw [List.range_succ,List.flatMap_append]; simp
theorem yu (mix k:Nat):aB mix (k + 1)=aB mix k ++ aj (aM mix k) k:=by
 unfold aB; rw [List.range_succ,List.flatMap_append]; simp
theorem xI (mix k:Nat):gM mix (k + 1)=gM mix k ++ [gH (aM mix k)]:=by
 unfold gM; rw [List.range_succ,List.map_append]; rfl
theorem yi (mix k:Nat):iW mix (k + 1)=iW mix k ++ cf (aM mix k):=by
 unfold iW; rw [List.range_succ,List.flatMap_append]; simp
theorem c9 {α β:Type} {f:α→List β} {b:Nat} (h:∀ x,(f x).length≤b) (l:List α):(l.flatMap f).length≤b * l.length:=by
 induction l with
 | nil=>exact Nat.zero_le _
 | cons x l ih=>
  rw [List.flatMap_cons,List.length_append,List.length_cons,Nat.mul_succ,Nat.add_comm]
  exact Nat.add_le_add ih (h x)
theorem gu (mix k:Nat):(aI mix k).length≤4 * k:=by
 have:=c9 (f:=fun t=>ae (aK mix t) t) (b:=4) (fun t=>by unfold ae; split <;> simp) (List.range k)
 rwa [List.length_range] at this
theorem gL (mix k:Nat):(dX mix k).length≤2 * k:=by
 have:=c9 (f:=fun t=>bM (aK mix t)) (b:=2) (fun t=>by unfold bM; split; simp; split; simp; split <;> simp) (List.range k)
 rwa [List.length_range] at this
theorem k9 (mix k:Nat):(aB mix k).length≤4 * k:=by
 have:=c9 (f:=fun t=>aj (aM mix t) t) (b:=4) (fun t=>by unfold aj; split; simp; split; simp; split <;> simp) (List.range k)
 rwa [List.length_range] at this
theorem jL (mix k:Nat):(iW mix k).length≤3 * k:=by
 have:=c9 (f:=fun t=>cf (aM mix t)) (b:=3) (fun t=>by unfold cf; split; simp; split; simp; split <;> simp) (List.range k)
 rwa [List.length_range] at this
theorem kj (mix k:Nat):(gM mix k).length=k:=by unfold gM; simp
theorem uA (mix t:Nat):(aK mix t).length≤1000:=by
 have:∀ j,j < 8→(jk.getD j "").length≤1000:=by decide +kernel
 exact this _ (Nat.mod_lt _ (by decide))
def qw (s:Str):Rw:=if s = "await" then ⟨31,.str "", 1⟩ else ⟨if s.length=2 then 18 else 17,.str s,1⟩
theorem yw {s:Str} (h:s ≠ "(int)"):bM s=[qw s]:=by
 unfold bM qw
 rw [if_neg h]
 split
 ·rfl
 ·split <;> rfl
abbrev sO (lp lr:Addr) (ps:List Pc) (rs:List Rw):List (Addr×List V):=[(lr,rs.map Rw.v),(lp,ps.map Pc.v)]
abbrev Pg (core:Str) (heads tails mix:Nat) (lp lr:Addr) (t s ar sv la wd:Option V):Fm:=[some (.str core),some (.int heads),some (.int tails),some (.int mix),some (.ref lp),some (.ref lr),t,s,ar,sv,la,wd]
section
variable {b:Bs} {n:Nat} {hd:Option Addr} {σ τ:AH} {Φ:Pv} {Ψ:Addr→AH→Prop} {X:XX} {r:Fm} {v w:V} {Θ:Ph} {l l':List (Addr×List V)} {a:Addr} {xs ys:List V} {i j:Int} {s:Str} {core:Str} {heads tails mix k:Nat} {lp lr la ll:Addr}
theorem jX (h:j≠0) {A:Prop} (q:A):j≠0∧A:=⟨h,q⟩
theorem uP (h:s.length≤1000000) (q:Φ (.int s.length) σ):TC b n hd (.builtin "len") [.str s] σ Φ Ψ:=.of (zH h q)
theorem BX {sg:Option V} {ps:List Pc} {rs:List Rw} (N:LN σ (sO lp lr ps rs)) (h1:ps.length≤1000) (h2:rs.length≤1000) (hk:k < 100)
  (q:∀ s,LN σ (sO lp lr (ps ++ ae (aK mix k) k) (rs ++ bM (aK mix k)))→Θ .next (Pg core heads tails mix lp lr (some (.int k)) s none none none none) (lay σ (sO lp lr (ps ++ ae (aK mix k) k) (rs ++ bM (aK mix k))))):
  fa ⟨b,n,hd,X.Y⟩ (Pg core heads tails mix lp lr (some (.int k)) sg none none none none) (lay σ (sO lp lr ps rs)) Θ:=by
 refine E4 (by decide) (by decide) (oF (by decide) (oF (by omega) (jX (by decide) (dF (v:=.str (aK mix k)) (Fz mix k) (eD (l:=jk) (Nat.mod_lt _ (by decide))) (by simp) ?_))))
 have fin:∀ {ps' rs':List V},LN σ [(lr,rs'),(lp,ps')]→rs'=(rs ++ bM (aK mix k)).map Rw.v→ps' ++ [V.int ((k:Int) + 1)]=(ps ++ ae (aK mix k) k).map Pc.v→ps'.length≤2000→
   bE (cC (xL 4) "list.append" (a1 (xB .Add (xL 6) (xK (.int 1))) a0)) bN ⟨b,n,hd,X.Y⟩ (Pg core heads tails mix lp lr (some (.int k)) (some (.str (aK mix k))) none none none none) (lay σ [(lr,rs'),(lp,ps')]) Θ:=by
  intro ps' rs' N e1 e2 hl
  refine bz N (.tail .head) (by omega) (fun _ h=>h) fun N2=>?_
  rw [e1,e2] at N2 ⊢
  exact q _ N2
 refine ay (fun hi=>?_) fun hi=>?_
 ·have hi':aK mix k = "(int)" := eq_of_beq hi
  refine gZ N (.tail .head) .fl (by simp; omega) (fun _ h=>h) fun N2=>gZ N2 .head .fl (by simp; omega) (fun _ h=>h) fun N3=>fin N3 (by rw [hi']; simp [bM,Rw.v]) (by rw [hi']; simp [ae,Pc.v]) (by simp; omega)
 ·have hi':aK mix k ≠ "(int)" := ne_of_beq_false hi
  have hw:=uA mix k
  refine bz N (.tail .head) (by simp; omega) (fun _ h=>h) fun N2=>bz (v:=(qw (aK mix k)).v) N2 .head (by simp; omega) (fun _ h=>?_) fun N3=>fin N3 (by rw [yw hi']; simp) (by simp [ae,hi',Pc.v]) (by simp; omega)
  unfold qw at h
  refine ay (fun ha=>?_) fun ha=>uP (by omega) (ay (fun h2=>?_) fun h2=>?_)
  ·rw [if_pos (eq_of_beq ha)] at h; exact h
  ·rw [if_neg (ne_of_beq_false ha),if_pos (by simp at h2; omega)] at h; exact h
  ·rw [if_neg (ne_of_beq_false ha),if_neg (by simp at h2; omega)] at h; exact h
theorem Rd:¬ ("()" : Str) = ".b" := by decide +kernel
theorem R9:¬ ("[7]" : Str) = ".b" := by decide +kernel
theorem Ry:¬ ("[7]" : Str) = "()" := by decide +kernel
theorem Np:¬ ("7" : Str) = "(" := by decide +kernel
abbrev tl (ll la lr lp:Addr) (L A R:List Rw) (P:List Pc):List (Addr×List V):=[(ll,L.map Rw.v),(la,A.map Rw.v),(lr,R.map Rw.v),(lp,P.map Pc.v)]
abbrev Nc (core:Str) (heads tails mix:Nat) (lp lr la ll:Addr) (t s w:Option V):Fm:=Pg core heads tails mix lp lr t s (some (.ref la)) (some eM.v) (some (.ref ll)) w
theorem Cc {sg wd:Option V} {L A R:List Rw} {Q:List Pc} (hk:k < 100) (N:LN σ (tl ll la lr lp L A R Q)) (h1:Q.length≤1000) (h2:A.length≤1000) (h3:L.length≤1000)
  (q:∀ w,LN σ (tl ll la lr lp (L ++ cf (aM mix k)) (A ++ [gH (aM mix k)]) R (Q ++ aj (aM mix k) k))→Θ .next (Nc core heads tails mix lp lr la ll (some (.int k)) sg w) (lay σ (tl ll la lr lp (L ++ cf (aM mix k)) (A ++ [gH (aM mix k)]) R (Q ++ aj (aM mix k) k)))):
  dc ⟨b,n,hd,X.Y⟩ (Nc core heads tails mix lp lr la ll (some (.int k)) sg wd) (lay σ (tl ll la lr lp L A R Q)) Θ:=by
 refine jX (by decide) (oF (by omega) (jX (by decide) (dF (v:=.str (aM mix k)) (Fd mix k) (eD (l:=f9) (Nat.mod_lt _ (by decide))) (by simp) (bz N (.tail (.tail (.tail .head))) (by simp; omega) (fun _ h=>h) fun N2=>?_))))
 have fin:∀ {L' A' Q':List V},LN σ [(ll,L'),(la,A'),(lr,R.map Rw.v),(lp,Q')]→L'=(L ++ cf (aM mix k)).map Rw.v→A'=(A ++ [gH (aM mix k)]).map Rw.v→Q'=(Q ++ aj (aM mix k) k).map Pc.v→
   Θ .next (Nc core heads tails mix lp lr la ll (some (.int k)) sg (some (.str (aM mix k)))) (lay σ [(ll,L'),(la,A'),(lr,R.map Rw.v),(lp,Q')]):=by
  intro L' A' Q' N e1 e2 e3
  rw [e1,e2,e3] at N ⊢
  exact q _ N
 clear q N
 generalize hw:aM mix k=w at fin
 refine ay (fun hi=>?_) fun hi=>ay (fun hi2=>?_) fun hi2=>ay (fun hi3=>?_) fun hi3=>?_
 ·obtain rfl:w = ".b" := eq_of_beq hi
  exact gZ N2 (.tail (.tail (.tail .head))) .fl (by simp; omega) (fun _ h=>h) fun N3=>bz N3 (.tail .head) (by simp; omega) (fun _ h=>h) fun N4=>bz N4 .head (by simp; omega) (fun _ h=>h) fun N5=>
   fin N5 (by rw [List.map_append]; rfl) (by rw [List.map_append]; rfl) (by rw [List.append_assoc,List.map_append]; rfl)
 ·obtain rfl:w = "()" := eq_of_beq hi2
  exact gZ N2 (.tail (.tail (.tail .head))) .fl (by simp; omega) (fun _ h=>h) fun N3=>bz N3 (.tail .head) (by simp; omega) (fun _ h=>h) fun N4=>bz N4 .head (by simp; omega) (fun _ h=>h) fun N5=>
   fin N5 (by rw [List.map_append]; rfl) (by rw [List.map_append]; rfl) (by rw [List.append_assoc,List.map_append]; rfl)
 ·obtain rfl:w = "[7]" := eq_of_beq hi3
  exact gZ N2 (.tail (.tail (.tail .head))) .fl (by simp; omega) (fun _ h=>h) fun N3=>bz N3 (.tail .head) (by simp; omega) (fun _ h=>h) fun N4=>gZ N4 .head .fl (by simp; omega) (fun _ h=>h) fun N5=>
   fin N5 (by rw [List.map_append]; rfl) (by rw [List.map_append]; rfl) (by rw [List.append_assoc,List.map_append]; rfl)
 ·have h1':=ne_of_beq_false hi
  have h2':=ne_of_beq_false hi2
  have h3':=ne_of_beq_false hi3
  exact bz N2 (.tail (.tail (.tail .head))) (by simp; omega) (fun _ h=>h) fun N3=>bz N3 (.tail .head) (by simp; omega) (fun _ h=>h) fun N4=>fin N4 (by simp [cf,h1',h2',h3']) (by simp [gH,h1',h2',h3',Rw.v]) (by simp [aj,h1',h2',h3',Pc.v])
end
inductive Qs (σ:AH) (core:Str) (heads tails mix:Nat) (lp lr:Addr) (k:Nat):Fm→AH→Prop
 | mk {t s:Option V}:LN σ (sO lp lr (aI mix k) (dX mix k))→Qs σ core heads tails mix lp lr k (Pg core heads tails mix lp lr t s none none none none) (lay σ (sO lp lr (aI mix k) (dX mix k)))
abbrev O5 (core:Str) (heads mix:Nat) (ll la lr lp:Addr) (k:Nat):List (Addr×List V):=tl ll la lr lp (cv core ++ iW mix k) (gM mix k) (dX mix heads) (aI mix heads ++ af core ++ aB mix k)
inductive Po (σ:AH) (core:Str) (heads tails mix:Nat) (lp lr la ll:Addr) (k:Nat):Fm→AH→Prop
 | mk {t s w:Option V}:LN σ (O5 core heads mix ll la lr lp k)→Po σ core heads tails mix lp lr la ll k (Nc core heads tails mix lp lr la ll t s w) (lay σ (O5 core heads mix ll la lr lp k))
section
variable {b:Bs} {n:Nat} {hd:Option Addr} {σ τ:AH} {Φ:Pv} {Ψ:Addr→AH→Prop} {X:XX} {r:Fm} {v w:V} {Θ:Ph} {l l':List (Addr×List V)} {a:Addr} {xs ys:List V} {i j:Int} {s:Str} {core:Str} {heads tails mix k:Nat} {lp lr la ll:Addr}
theorem Kl (N:LN σ l) (k:LP a xs xs.reverse l l') (hl:xs.length≤100000) (q:LN σ l'→Φ .none (lay σ l')):TC b n hd (.builtin "list.reverse") [.ref a] (lay σ l) Φ Ψ:=
 .of (A2 (N.get k.la) hl (by rw [N.up k.lu]; exact q (N.set k.lu)))
theorem gC (I:ec σ v xs) (J:ec σ w ys) (hl:xs.length + ys.length≤100000) (q:Φ (.fl (xs ++ ys)) σ):Lg v w σ Φ:=by
 unfold Lg; exact ⟨_,_,I,J,hl,.fl q⟩
theorem w7 (core:Str):(af core).length≤9∧(cv core).length≤6:=by
 constructor
 ·unfold af; split <;> simp
 ·unfold cv; split; simp; split <;> simp
theorem qH {t s:Option V} {L P:List V} (hh:heads≤60) (ht:tails≤60) (N:LN σ [(ll,L),(la,[]),(lr,(dX mix heads).map Rw.v),(lp,P)]) (e1:P=(aI mix heads ++ af core).map Pc.v) (e2:L=(cv core).map Rw.v) (q:Φ (.tup [q8 (bO core heads tails mix),ax (fA core heads tails mix)]) σ):
  bF 6 (xC (.type "range") (a1 (xL 2) a0)) dc eZ ⟨b,n,none,fun _=>Ψ⟩ (Nc core heads tails mix lp lr la ll t s none) (lay σ [(ll,L),(la,[]),(lr,(dX mix heads).map Rw.v),(lp,P)]) (aZ (GV b.c Φ)):=by
 subst e1 e2
 have q1:=gu mix heads
 have q2:=gL mix heads
 obtain ⟨q3,q4⟩:=w7 core
 refine fg (gz (N:=tails) (by omega) (Po σ core heads tails mix lp lr la ll) ?_ ?_ ?_)
 ·have e:O5 core heads mix ll la lr lp 0=tl ll la lr lp (cv core) [] (dX mix heads) (aI mix heads ++ af core):=by
   have e:iW mix 0=[]∧aB mix 0=[]∧gM mix 0=[]:=⟨rfl,rfl,rfl⟩
   rw [O5,e.1,e.2.1,e.2.2,List.append_nil,List.append_nil]
  have:=@Po.mk σ core heads tails mix lp lr la ll 0 t s none
  rw [e] at this; exact this N
 ·rintro k r τ hk ⟨N5⟩
  have r1:=k9 mix k
  have r2:=jL mix k
  have r3:=kj mix k
  refine Cc (X:=⟨b,n,none,fun _=>Ψ⟩) (by omega) N5 (by simp only [List.length_append]; omega) (by omega) (by simp only [List.length_append]; omega) fun w' N'=>?_
  have:=@Po.mk σ core heads tails mix lp lr la ll (k + 1)
  rw [O5,yu,yi,xI,← List.append_assoc,← List.append_assoc] at this; exact this N'
 rintro r τ ⟨N5⟩
 have r1:=k9 mix tails
 have r2:=jL mix tails
 have r3:=kj mix tails
 refine tT (N5.get (.tail .head)) (Kl N5 (.tail .head) (by rw [List.length_map]; omega) fun N6=>⟨_,_,N6.fl (.tail (.tail (.tail .head))) (.tail (.tail (.tail .head))),?_⟩)
 have N7:=(N6.del (a:=lp) (.tail (.tail (.tail .head)))).2
 refine gC (.ref (N7.get (.tail (.tail .head)))) (.ref (N7.get (.tail .head))) (by simp; omega) (gC .fl (.ref (N7.get .head)) (by simp; omega) ⟨_,_,N7.drop.v,?_⟩)
 have e:(dX mix heads).map Rw.v ++ ((gM mix tails).map Rw.v).reverse ++ (cv core ++ iW mix tails).map Rw.v=(fA core heads tails mix).map Rw.v:=by simp [fA]
 rw [e]; exact q
theorem rx (hh:heads≤60) (ht:tails≤60) (q:Φ (.tup [q8 (bO core heads tails mix),ax (fA core heads tails mix)]) σ):TC b (n + 1) none (.ref 1169) [.str core,.int heads,.int tails,.int mix] σ Φ Ψ:=by
 refine .ent (sm fun lp h1 lr h2=>fg (gz (N:=heads) (by omega) (Qs σ core heads tails mix lp lr) (.mk ((LN.nil.new h1).new h2)) ?_ ?_))
 ·rintro k r τ hk ⟨N⟩
  refine BX (X:=⟨b,n,none,fun _=>Ψ⟩) N (by have:=gu mix k; omega) (by have:=gL mix k; omega) (by omega) fun s' N'=>?_
  have:=@Qs.mk σ core heads tails mix lp lr (k + 1)
  rw [oM,yZ] at this; exact this N'
 rintro r τ ⟨N⟩
 have q1:=gu mix heads
 have q2:=gL mix heads
 refine fun la h3=>ay (fun hi=>?_) fun hi=>?_
 ·obtain rfl:core = "(" := eq_of_beq hi
  exact gZ (N.new h3) (.tail (.tail .head)) .fl (by simp; omega) (fun _ h=>h) fun N4 ll h4=>qH hh ht (N4.new h4) (by simp [af,Pc.v]) (by simp [cv,Rw.v,eM]) q
 ·have hc:=ne_of_beq_false hi
  refine bz (N.new h3) (.tail (.tail .head)) (by simp; omega) (fun _ h=>h) fun N4=>ay (fun hj=>?_) fun hj=>?_
  ·exact fun ll h4=>qH hh ht (N4.new h4) (by simp [af,Pc.v,hc]) (by obtain rfl:core = "7" := eq_of_beq hj; simp [cv,Np]; rfl) q
  ·exact fun ll h4=>qH hh ht (N4.new h4) (by simp [af,Pc.v,hc]) (by simp [cv,hc,ne_of_beq_false hj,Rw.v]) q
def aX:List (List Str):=[["??"],["||"],["&&"],["|"],["^"],["&"],["==", "!="],["<", ">", "<=", ">=", "is", "as"],["<<", ">>"],["+", "-"],["*", "/", "%"]]
def ku (k j:Nat):List Str:=(aX.take k).flatten ++ (aX.getD k []).take j
def mc (k j:Nat):List V:=(((aX.take k).zipIdx.map fun q=>q.1.map fun _=>V.int ((q.2:Int) + 1)).flatten) ++ ((aX.getD k []).take j).map fun _=>V.int ((k:Int) + 1)
theorem HK:∀ k,k < 11→∀ j,j < (aX.getD k []).length→(aX.getD k []).getD j "" ∉ ku k j:=by decide +kernel
theorem GZ:∀ k,k < 11→∀ j,j < (aX.getD k []).length→(ku k j).length≤30:=by decide +kernel
theorem zO:∀ k,k < 11→∀ j,j < (aX.getD k []).length→ku k (j + 1)=ku k j ++ [(aX.getD k []).getD j ""]:=by decide +kernel
theorem AS:∀ k,k < 11→ku k (aX.getD k []).length=ku (k + 1) 0:=by decide +kernel
theorem AQ {k j:Nat} (h:j < (aX.getD k []).length):mc k (j + 1)=mc k j ++ [V.int ((k:Int) + 1)]:=by
 unfold mc
 rw [List.take_succ_eq_append_getElem h,List.map_append,List.append_assoc]; rfl
theorem zR {k:Nat} (h:k < 11):mc k (aX.getD k []).length=mc (k + 1) 0:=by
 have h':k < aX.length:=h
 unfold mc
 rw [List.take_length,List.take_succ_eq_append_getElem h',List.zipIdx_append,List.map_append,List.flatten_append]
 simp [h']
 omega
theorem HL:∀ k,k < 11→aX[k]?=some (aX.getD k []):=by decide +kernel
abbrev Nb (o:Addr) (a p:Option V):Fm:=[some (.tup (aX.map fun l=>.tup (l.map .str))),some (.ref o),a,p]
theorem L5 {N:Nat} {body rest:TS} {k:Nat} (he:xs.length=N) (I:Nat→Fm→AH→Prop) (h0:I 0 r σ) (ht:∀ j y r σ,xs[j]?=some y→I j r σ→body X (r.set k (some y)) σ (HB rest X Θ (I (j + 1)))) (hend:∀ r σ,I N r σ→rest X r σ Θ):WF k body rest X (.tup xs) r σ Θ:=by
 subst he
 unfold WF
 exact ⟨_,I,fun _ _ _ _=>.tup,h0,ht,hend⟩
theorem EF {y:Str} {ks ks':List Str} {xs':List V} {k:AH→Prop} (ha:σ a=some (.ds ks xs)) (hl:ks.length≤100000) (hp:p5 y v ks xs ks' xs') (q:k (σ.upd a (.ds ks' xs'))):wF (.ref a) (.str y) v σ k:=by
 unfold wF; exact ⟨_,.ds ha hl hp,q⟩
theorem sX (q:Φ (.aH aa bj) σ):TC b (n + 1) none (.ref 1176) [] σ Φ Ψ:=by
 refine tF fun o ho=>.inl (fg (gz (N:=11) (by decide) (fun k r τ=>∃ a p,r=Nb o a p∧τ=σ.upd o (.ds (ku k 0) (mc k 0))) ⟨none,none,rfl,rfl⟩ ?_ ?_))
 ·rintro k r τ hk ⟨a,p,rfl,rfl⟩
  refine dF (v:=.tup ((aX.getD k []).map .str)) rfl (by rw [List.getElem?_map,HL k hk]; rfl) (by simp; decide +kernel) (L5 (N:=(aX.getD k []).length) (by simp) (fun j r τ=>∃ p,r=Nb o (some (.int k)) p∧τ=σ.upd o (.ds (ku k j) (mc k j))) ⟨p,rfl,rfl⟩ ?_ ?_)
  ·rintro j y r τ hy ⟨p,rfl,rfl⟩
   have hj:j < (aX.getD k []).length:=by
    have:=(List.getElem?_eq_some_iff.mp hy).1
    rwa [List.length_map] at this
   rw [eD hj] at hy
   obtain rfl:=Option.some.inj hy
   refine EF (AH.a9 ..) (by have:=GZ k hk j hj; omega) (.new (HK k hk j hj)) ⟨some (.str ((aX.getD k []).getD j "")),rfl,?_⟩
   rw [AH.aU,zO k hk j hj,AQ hj]
  ·rintro r τ ⟨p,rfl,rfl⟩
   exact ⟨some (.int k),p,rfl,by rw [AS k hk,zR hk]⟩
 rintro r τ ⟨a,p,rfl,rfl⟩
 refine ⟨_,_,b7.aH (AH.a9 ..),?_⟩
 rw [AH.dw ho]
 have e1:ku 11 0=aa:=by decide +kernel
 have e2:mc 11 0=bj:=rfl
 rw [e1,e2]; exact q
end
abbrev Sq (α:Type):=List (Str×α)
section
variable {α:Type} (J:Str→α→α→α)
def pf (p:Int):Str×α→Sq α→Sq α
 | e,[]=>[e]
 | e,(s,r) :: B=>if pw s=p then pf p (e.1,J s e.2 r) B else e :: pf p (s,r) B
def OP (p:Int):Sq α→Sq α
 | []=>[]
 | e :: B=>pf J p e B
def iO:Nat→Sq α→Sq α
 | 0,l=>l
 | n + 1,l=>iO n (OP J ((n:Int) + 2) l)
def eN:α→Sq α→α
 | a,[]=>a
 | a,(_,b) :: r=>J "??" a (eN b r)
def Mv [Inhabited α]:Sq α→α
 | []=>default
 | e :: r=>eN J e.2 r
def bH [Inhabited α] (l:Sq α):α:=Mv J (iO J 10 l)
def eK (p:Int):Str×α→Sq α→Sq α
 | e,[]=>[e]
 | e,(q,l) :: rest=>if binds e.1 p=true then eK p (q,J e.1 l e.2) rest else e :: (q,l) :: rest
def qN (p:Int):Sq α→Sq α
 | []=>[]
 | e :: r=>eK J p e r
def push (st:Sq α) (e:Str×α):Sq α:=e :: qN J (pw e.1) st
def canon (e:Str×α) (M:Sq α):Sq α:=M.foldl (push J) [e]
end
theorem Kz {s:Str} (h:pw s=1):s = "??" := by
 unfold pw at h
 have:∀ (l:List (Str×Int)),look s l=1→(s,(1:Int))∈l:=by
  intro l
  induction l with
  | nil=>intro h; cases h
  | cons a l ih=>
   intro h
   obtain ⟨k,v⟩:=a
   rw [zJ] at h
   split at h
   ·rename_i e
    subst e
    rw [h]; exact .head _
   ·exact .tail _ (ih h)
 have h2:=this _ h
 have h3:∀ p∈PT,p.2=1→p.1 = "??" := by decide +kernel
 exact h3 _ h2 rfl
theorem Ki (s:Str):0≤pw s∧pw s≤11:=by
 by_cases h:s∈aa
 ·have:∀ s∈aa,0≤pw s∧pw s≤11:=by decide +kernel
  exact this s h
 ·rw [vk h]; omega
theorem G3:pw "" = 0:=by decide +kernel
section
variable {α:Type} {J:Str→α→α→α}
theorem mH {p:Int} {e:Str×α} {s:Str} {r:α} {B:Sq α}:pf J p e ((s,r) :: B)=if pw s=p then pf J p (e.1,J s e.2 r) B else e :: pf J p (s,r) B:=rfl
theorem vH {n:Nat} {l:Sq α}:iO J (n + 1) l=iO J n (OP J ((n:Int) + 2) l):=rfl
theorem Ft {a b:α} {s:Str} {r:Sq α}:eN J a ((s,b) :: r)=J "??" a (eN J b r):=rfl
theorem Qr {p:Int} {e:Str×α}:eK J p e []=[e]:=rfl
theorem qC {p:Int} {e:Str×α} {q:Str} {l:α} {rest:Sq α}:eK J p e ((q,l) :: rest)=if binds e.1 p=true then eK J p (q,J e.1 l e.2) rest else e :: (q,l) :: rest:=rfl
theorem Cg {p:Int} {q:Str} {l:α} {Y:Sq α} (hq:pw q≠p) {X:Sq α} {e:Str×α}:pf J p e (X ++ (q,l) :: Y)=pf J p e X ++ pf J p (q,l) Y:=by
 induction X generalizing e with
 | nil=>exact if_neg hq
 | cons a X ih=>
  rw [List.cons_append,mH,mH,ih,ih]
  by_cases h:pw a.1=p
  ·rw [if_pos h,if_pos h]
  ·rw [if_neg h,if_neg h]; rfl
theorem yE {p:Int} {q:Str} {l:α} {Y:Sq α} (hq:pw q≠p) {X:Sq α}:OP J p (X ++ (q,l) :: Y)=OP J p X ++ pf J p (q,l) Y:=by
 cases X with
 | nil=>rfl
 | cons=>exact Cg hq
theorem lZ {p:Int} {Y:Sq α} {e:Str×α}:∃ l' Y',pf J p e Y=(e.1,l') :: Y':=by
 induction Y generalizing e with
 | nil=>exact ⟨e.2,[],rfl⟩
 | cons a Y ih=>
  rw [mH]
  by_cases h:pw a.1=p
  ·rw [if_pos h]; exact ih
  ·rw [if_neg h]; exact ⟨e.2,_,rfl⟩
theorem xp {p:Int} {e:Str×α} {B:Sq α} (h:∀ t b B',B=(t,b) :: B'→pw t≠p):pf J p e B=e :: OP J p B:=by
 cases B with
 | nil=>rfl
 | cons=>exact if_neg (h _ _ _ rfl)
theorem xu {q:Str} {l r:α} {X:Sq α} {a:α}:eN J a (X ++ [(q,l),("??", r)])=eN J a (X ++ [(q,J "??" l r)]):=by
 induction X generalizing a with
 | nil=>rfl
 | cons x X ih=>exact congrArg (J "??" a) ih
variable [Inhabited α]
theorem Tc {q s:Int} (hq:q < s∨(q≤1∧s=1)) {k:Nat} (h:s≤(k + 1:Nat) + 1):q≠(k:Int) + 2:=by omega
theorem key {q s:Str} (hq:pw q < pw s∨(pw q≤1∧pw s=1)) (h1:1≤pw s) {l r:α} (n:Nat) {X B:Sq α} (hn:pw s≤n + 1) (hB:∀ t b B',B=(t,b) :: B'→pw t≤pw s∧pw s≠1):
  Mv J (iO J n (X ++ (q,l) :: (s,r) :: B))=Mv J (iO J n (X ++ (q,J s l r) :: B)):=by
 induction n generalizing X B with
 | zero=>
  have e1:pw s=1:=by omega
  cases B with
  | cons=>exact absurd e1 (hB _ _ _ rfl).2
  | nil=>
   cases Kz e1
   cases X with
   | nil=>rfl
   | cons=>exact xu
 | succ n ih=>
  have hq2:pw q≠(n:Int) + 2:=Tc hq hn
  have hB2:∀ t b B',B=(t,b) :: B'→pw t≤pw s:=fun t b B' e=>(hB t b B' e).1
  rw [vH,vH,yE hq2,yE hq2,mH] at ⊢
  by_cases hs:pw s=(n:Int) + 2
  ·rw [if_pos hs]
  ·have hB3:∀ t b B',B=(t,b) :: B'→pw t≠(n:Int) + 2:=fun t b B' e e2=>hs (Int.le_antisymm hn (e2 ▸ hB2 t b B' e))
   rw [if_neg hs,xp hB3,xp hB3]
   refine ih (Int.lt_add_one_iff.mp (Int.lt_iff_le_and_ne.mpr ⟨hn,hs⟩)) fun t b B' e=>?_
   cases B with
   | nil=>cases e
   | cons a B=>
    obtain ⟨l',Y',e'⟩:=lZ (J:=J) (p:=(n:Int) + 2) (Y:=B) (e:=a)
    cases e'.symm.trans e
    exact hB _ _ _ rfl
def Wk (q s:Str):Prop:=pw q < pw s∨(pw q≤1∧pw s=1)
def vL:Sq α→Prop
 | (s,r) :: (q,l) :: rest=>Wk q s∧1≤pw s∧vL ((q,l) :: rest)
 | _=>True
omit [Inhabited α] in
theorem vL.re {q:Str} {l l':α} {rest:Sq α} (h:vL ((q,l) :: rest)):vL ((q,l') :: rest):=by
 cases rest with
 | nil=>trivial
 | cons=>exact h
theorem Gi {s:Str} {p:Int} (h:binds s p=true):p≤pw s∧(pw s=p→pw s≠1):=by
 unfold binds at h
 split at h
 ·rename_i e; exact ⟨by omega,fun _=>by simpa using h⟩
 ·rename_i e; simp at h; exact ⟨by omega,fun e'=>absurd e' e⟩
theorem BW {s:Str} {p:Int} (h:¬ binds s p=true):pw s < p∨(pw s=p∧pw s=1):=by
 unfold binds at h
 split at h
 ·rename_i e; right; exact ⟨e,by simpa using h⟩
 ·rename_i e; simp at h; left; omega
inductive Rg (J:Str→α→α→α) (p:Int):Str×α→Sq α→Sq α→Prop
 | nil (e:Str×α):Rg J p e [] [e]
 | turn {s q:Str} {r l:α} {st o:Sq α}:binds s p=true→Rg J p (q,J s l r) st o→Rg J p (s,r) ((q,l) :: st) o
 | stay {s q:Str} {r l:α} {st:Sq α}:¬ binds s p=true→Rg J p (s,r) ((q,l) :: st) ((s,r) :: (q,l) :: st)
omit [Inhabited α] in
theorem gR {p:Int} (st:Sq α) (e:Str×α):Rg J p e st (eK J p e st):=by
 induction st generalizing e with
 | nil=>exact .nil e
 | cons a st ih=>
  rw [qC]
  by_cases h:binds e.1 p=true
  ·rw [if_pos h]; exact .turn h (ih _)
  ·rw [if_neg h]; exact .stay h
theorem uc {p:Int} {R:Sq α} (hR:R=[]∨∃ t b R',R=(t,b) :: R'∧pw t=p∧1≤p) {st:Sq α} {e:Str×α} {o:Sq α} (g:Rg J p e st o) (h:vL (e :: st)):bH J (o.reverse ++ R)=bH J ((e :: st).reverse ++ R):=by
 induction g with
 | nil=>rfl
 | stay=>rfl
 | @turn s _ _ _ _ _ hb _ ih=>
  obtain ⟨h1,h2,h3⟩:=h
  rw [ih h3.re,List.reverse_cons,List.append_assoc,List.reverse_cons,List.reverse_cons,List.append_assoc,List.append_assoc]
  obtain ⟨b1,b2⟩:=Gi hb
  refine (key h1 h2 10 (by have:=(Ki s).2; omega) fun t b B' e=>?_).symm
  rcases hR with hR | ⟨t',b',R',hR,g1,g2⟩
  ·cases hR.symm.trans e
  ·cases hR.symm.trans e
   exact ⟨by omega,fun e7=>b2 (by omega) e7⟩
omit [Inhabited α] in
theorem CY {p:Int} {st:Sq α} {e:Str×α} {o:Sq α} (g:Rg J p e st o) (h:vL (e :: st)):vL o∧∀ q l rest,o=(q,l) :: rest→(¬ binds q p=true)∨rest=[]:=by
 induction g with
 | nil=>exact ⟨h,fun _ _ _ e=>.inr (List.cons.inj e).2.symm⟩
 | stay hb=>exact ⟨h,fun _ _ _ e=>by cases e; exact .inl hb⟩
 | turn _ _ ih=>exact ih h.2.2.re
omit [Inhabited α] in
theorem ya {p:Int} {st:Sq α} {e:Str×α} {o:Sq α} (g:Rg J p e st o):(o.map (·.1)).getLast?=((e :: st).map (·.1)).getLast?:=by
 induction g with
 | nil=>rfl
 | stay=>rfl
 | turn _ _ ih=>exact ih
omit [Inhabited α] in
theorem qq {p:Int} {st:Sq α} {e:Str×α} {o:Sq α} (g:Rg J p e st o):∃ q l rest,o=(q,l) :: rest:=by
 induction g with
 | nil e=>exact ⟨e.1,e.2,[],rfl⟩
 | stay=>exact ⟨_,_,_,rfl⟩
 | turn _ _ ih=>exact ih
omit [Inhabited α] in
theorem DT {p:Int} {st:Sq α} {e:Str×α} {o:Sq α} (g:Rg J p e st o) {x:Str} (hx:x∈o.map (·.1)):x∈(e :: st).map (·.1):=by
 induction g with
 | nil=>exact hx
 | stay=>exact hx
 | turn _ _ ih=>exact .tail _ (ih hx)
omit [Inhabited α] in
theorem xr {p:Int} {T:Sq α} {st:Sq α} {e:Str×α} (h:∀ q,((e :: st).map (·.1)).getLast?=some q→¬ binds q p=true):eK J p e (st ++ T)=eK J p e st ++ T:=by
 induction st generalizing e with
 | nil=>
  cases T with
  | nil=>rfl
  | cons a T=>exact if_neg (h _ rfl)
 | cons a st ih=>
  rw [List.cons_append,qC,qC]
  by_cases hb:binds e.1 p=true
  ·rw [if_pos hb,if_pos hb]; exact ih h
  ·rw [if_neg hb,if_neg hb]; rfl
structure qy (q0:Str) (e:Str×α) (M st:Sq α):Prop where
 ne:st≠[]
 mono:vL st
 bot:(st.map (·.1)).getLast?=some e.1
 sub:∀ x∈st.map (·.1),x∈(e :: M).map (·.1)
 bH:∀ R:Sq α,(∀ t b R',R=(t,b) :: R'→1≤pw t)→Internal.bH J (st.reverse ++ R)=Internal.bH J (e :: M ++ R)
theorem En {e:Str×α} (N:Sq α):∀ {M:Sq α} {st:Sq α},(∀ s∈N.map (·.1),pw e.1 < pw s∧1≤pw s)→qy (J:=J) "" e M st→qy (J:=J) "" e (M ++ N) (N.foldl (push J) st):=by
 induction N with
 | nil=>intro M st _ h; rw [List.append_nil]; exact h
 | cons x N ih=>
  intro M st hN h
  obtain ⟨t,b⟩:=x
  rw [List.foldl_cons,show M ++ (t,b) :: N=(M ++ [(t,b)]) ++ N by simp]
  refine ih (fun s hs=>hN s (.tail _ hs)) ?_
  have ht:=hN t (.head _)
  cases st with
  | nil=>exact absurd rfl h.ne
  | cons f st=>
   have g:=gR (J:=J) (p:=pw t) st f
   obtain ⟨m1,m2⟩:=CY g h.mono
   have hb:=ya g
   refine ⟨by simp [push],?_,?_,?_,?_⟩
   ·show vL ((t,b) :: eK J (pw t) f st)
    obtain ⟨q,l,rest,hr⟩:=qq g
    rw [hr] at hb m1 ⊢
    refine ⟨?_,ht.2,m1⟩
    rcases m2 q l rest hr with g | g
    ·rcases BW g with g | ⟨g1,g2⟩
     ·exact .inl g
     ·exact .inr ⟨by omega,by omega⟩
    ·subst g
     have:some q=some e.1:=by rw [← h.bot]; exact hb
     rw [Option.some.inj this]; exact .inl ht.1
   ·show (((t,b) :: eK J (pw t) f st).map (·.1)).getLast?=some e.1
    rw [← h.bot,← hb,List.map_cons,List.getLast?_cons]
    obtain ⟨q,l,rest,hr⟩:=qq g
    rw [hr,List.map_cons,List.getLast?_cons]; rfl
   ·intro x hx
    have hx':x∈((t,b) :: eK J (pw t) f st).map (·.1):=hx
    rw [List.map_cons,List.mem_cons] at hx'
    rcases hx' with rfl | hx'
    ·simp
    ·have:=h.sub x (DT g hx')
     rw [show e :: (M ++ [(t,b)])=(e :: M) ++ [(t,b)] by simp,List.map_append]
     exact List.mem_append_left _ this
   ·intro R hR
    show Internal.bH J (((t,b) :: eK J (pw t) f st).reverse ++ R)=_
    rw [List.reverse_cons,List.append_assoc]
    show Internal.bH J ((eK J (pw t) f st).reverse ++ ((t,b) :: R))=_
    rw [uc (.inr ⟨t,b,R,rfl,rfl,ht.2⟩) g h.mono,h.bH _ fun t' b' R' e'=>by injection e' with e1 e2; injection e1 with e3 e4; rw [← e3]; exact ht.2]
    simp
theorem zE (e:Str×α):qy (J:=J) "" e [] [e]:=⟨by simp,trivial,rfl,fun x hx=>hx,fun R _=>rfl⟩
theorem uf {e:Str×α} {M:Sq α} (h:∀ s∈M.map (·.1),pw e.1 < pw s∧1≤pw s):qy (J:=J) "" e M (canon J e M):=by
 have:=En (J:=J) (e:=e) M (M:=[]) h (zE e)
 rwa [List.nil_append] at this
omit [Inhabited α] in
theorem Dx {p:Int} {st:Sq α} {e:Str×α} {o:Sq α} (g:Rg J p e st o) (h:∀ x∈((e :: st).map (·.1)).dropLast,binds x p=true):∃ l,o=[((((e :: st).map (fun z=>z.1)).getLast?.getD ("" : Str)),l)]:=by
 induction g with
 | nil e=>exact ⟨e.2,rfl⟩
 | stay hb=>exact absurd (h _ (.head _)) hb
 | turn _ _ ih=>exact ih fun x hx=>h x (.tail _ hx)
theorem oa {e:Str×α} {M:Sq α} {p:Int} (h:∀ s∈M.map (·.1),pw e.1 < pw s∧1≤pw s) (hp:∀ s∈M.map (·.1),binds s p=true):qN J p (canon J e M)=[(e.1,bH J (e :: M))]:=by
 have C:=uf (J:=J) h
 generalize hc:canon J e M=k at C ⊢
 cases k with
 | nil=>exact absurd rfl C.ne
 | cons f st=>
  have hb:∀ x∈((f :: st).map (·.1)).dropLast,binds x p=true:=by
   have aux:∀ {N:Sq α} {st₀:Sq α},(∀ s∈N.map (·.1),binds s p=true)→(∀ x∈(st₀.map (·.1)).dropLast,binds x p=true)→st₀≠[]→(∀ x∈((N.foldl (push J) st₀).map (·.1)).dropLast,binds x p=true):=by
    intro N
    induction N with
    | nil=>intro st₀ _ h0 _; exact h0
    | cons x N ih=>
     intro st₀ hN h0 hne
     rw [List.foldl_cons]
     refine ih (fun s hs=>hN s (.tail _ hs)) ?_ (by simp [push])
     intro y hy
     cases st₀ with
     | nil=>exact absurd rfl hne
     | cons f0 s0=>
      have hd:∀ {st:Sq α} {e:Str×α} {o:Sq α},Rg J (pw x.1) e st o→(∀ x∈((e :: st).map (·.1)).dropLast,binds x p=true)→∀ x'∈(o.map (fun z=>z.1)).dropLast,binds x' p=true:=by
       intro st e o g h
       induction g with
       | nil=>exact h
       | stay=>exact h
       | turn _ _ ih=>exact ih fun z hz=>h z (.tail _ hz)
      have hy':y∈((x :: eK J (pw x.1) f0 s0).map (fun z=>z.1)).dropLast:=hy
      obtain ⟨_,_,rest,hr⟩:=qq (gR (J:=J) (p:=pw x.1) s0 f0)
      rw [hr] at hy'
      rcases List.mem_cons.mp hy' with rfl | hy'
      ·exact hN _ (.head _)
      ·refine hd (gR _ _) h0 y ?_
       rw [hr]; exact hy'
   have:=aux (N:=M) (st₀:=[e]) hp (by simp) (by simp)
   rw [show M.foldl (push J) [e]=_ from hc] at this
   exact this
  obtain ⟨l,hl⟩:=Dx (gR (J:=J) (p:=p) _ _) hb
  show eK J p f st=_
  have e1:((f :: st).map (fun z=>z.1)).getLast?.getD ("" : Str)=e.1:=by rw [C.bot]; rfl
  rw [hl,e1]
  have f1:=uc (R:=[]) (.inl rfl) (gR (J:=J) (p:=p) _ _) C.mono
  have f2:=C.bH [] (fun _ _ _ e=>by cases e)
  rw [List.append_nil] at f1 f2
  rw [List.append_nil] at f1
  rw [List.append_nil] at f2
  rw [hl] at f1
  have f3:bH J [((((f :: st).map (fun z=>z.1)).getLast?.getD ("" : Str)),l)]=l:=by
   rfl
  have f4:l=bH J (e :: M):=by rw [← f2,← f1]; exact f3.symm
  rw [f4]
end
section
variable {α:Type} [Inhabited α] {J:Str→α→α→α} {I:Int→α→α→α}
def ag (X:Sq α):Nat:=(((List.range (X.length - 1)).filter fun k=>decide (pw ((X.map (·.1)).getD (k + 1) ("" : Str)) < 8)).map (· + 1)).getLast?.getD 0
def bc (J:Str→α→α→α) (I:Int→α→α→α) (X:Sq α):Lk α→Sq α
 | .op w v=>X ++ [(w,v)]
 | .ty k v=>X.take (ag X) ++ [((X.map (·.1)).getD (ag X) ("" : Str),I k (bH J (X.drop (ag X))) v)]
omit [Inhabited α] in
theorem fR {X:Sq α} (h:X≠[]):ag X < X.length:=by
 unfold ag
 have hl:0 < X.length:=List.length_pos_iff.mpr h
 generalize hL:((List.range (X.length - 1)).filter fun k=>decide (pw ((X.map (·.1)).getD (k + 1) ("" : Str)) < 8)).map (· + 1)=L
 cases hg:L.getLast? with
 | none=>exact hl
 | some j=>
  have:=List.mem_of_getLast? hg
  rw [← hL] at this
  obtain ⟨k,hk,rfl⟩:=List.mem_map.mp this
  have:=List.mem_range.mp (List.mem_filter.mp hk).1
  exact Nat.add_lt_of_lt_sub this
omit [Inhabited α] in
theorem BR {X:Sq α} (h:ag X≠0):pw ((X.map (·.1)).getD (ag X) ("" : Str)) < 8:=by
 unfold ag at h ⊢
 generalize hL:((List.range (X.length - 1)).filter fun k=>decide (pw ((X.map (·.1)).getD (k + 1) ("" : Str)) < 8)).map (· + 1)=L at h ⊢
 cases hg:L.getLast? with
 | none=>rw [hg] at h; exact absurd rfl h
 | some j=>
  have:=List.mem_of_getLast? hg
  rw [← hL] at this
  obtain ⟨k,hk,rfl⟩:=List.mem_map.mp this
  simpa using (List.mem_filter.mp hk).2
theorem Hm {L:List Nat} (hp:L.Pairwise (· < ·)):∀ x∈L,x≤L.getLast?.getD 0:=by
 induction L with
 | nil=>intro x h; cases h
 | cons a L ih=>
  intro x hx
  rw [List.pairwise_cons] at hp
  match L,hp,ih with
  | [],_,_=>simp at hx ⊢; omega
  | b :: L,hp,ih=>
   have e:(a :: b :: L).getLast?=(b :: L).getLast?:=by simp [List.getLast?_cons_cons]
   rw [e]
   rcases List.mem_cons.mp hx with rfl | hx
   ·have:=ih hp.2 b (.head _); have:=hp.1 b (.head _); omega
   ·exact ih hp.2 x hx
omit [Inhabited α] in
theorem Gm {X:Sq α} {j:Nat} (h1:ag X < j) (h2:j < X.length):8≤pw ((X.map (·.1)).getD j ("" : Str)):=by
 refine Int.not_lt.mp fun hlt=>?_
 have hm:j∈((List.range (X.length - 1)).filter fun k=>decide (pw ((X.map (·.1)).getD (k + 1) ("" : Str)) < 8)).map (· + 1):=by
  obtain ⟨k,rfl⟩:=Nat.exists_eq_add_one_of_ne_zero (Nat.ne_of_gt (Nat.zero_lt_of_lt h1))
  exact List.mem_map_of_mem (List.mem_filter.mpr ⟨List.mem_range.mpr (Nat.lt_sub_of_add_lt h2),decide_eq_true hlt⟩)
 have hp:(((List.range (X.length - 1)).filter fun k=>decide (pw ((X.map (·.1)).getD (k + 1) ("" : Str)) < 8)).map (· + 1)).Pairwise (· < ·):=by
  rw [List.pairwise_map]
  exact ((List.pairwise_lt_range).sublist List.filter_sublist).imp Nat.succ_lt_succ
 exact Nat.not_lt.mpr (Hm hp j hm) h1
omit [Inhabited α] in
theorem bL {X:Sq α} {j:Nat} (h:j < X.length):(X.map (·.1)).getD j ("" : Str)=(X[j]).1:=by
 rw [List.getD_eq_getElem?_getD,List.getElem?_map,List.getElem?_eq_getElem h]; rfl
def mk (ss:List Str) (vs:List α):Sq α:=(ss ++ [("" : Str)]).zip vs
omit [Inhabited α] in
theorem KJ {s:Str} {v:α} {ss:List Str} {vs:List α}:mk (s :: ss) (v :: vs)=(s,v) :: mk ss vs:=rfl
omit [Inhabited α] in
theorem Jf (ss:List Str) (vs:List α):∃ q rest,∀ l,mk ss (l :: vs)=(q,l) :: rest:=by
 cases ss with
 | nil=>exact ⟨_,_,fun _=>rfl⟩
 | cons s ss=>exact ⟨_,_,fun _=>rfl⟩
omit [Inhabited α] in
theorem Ec {ss:List Str} {vs:List α} (h:vs.length=ss.length + 1):(mk ss vs).map (·.2)=vs:=List.map_snd_zip (by rw [List.length_append]; exact Nat.le_of_eq h)
omit [Inhabited α] in
theorem Aq {p:Int} {ss:List Str}:∀ {vs:List α},vs.length=ss.length + 1→mk (red J p ss vs).1 (red J p ss vs).2=qN J p (mk ss vs)∧(red J p ss vs).2.length=(red J p ss vs).1.length + 1:=by
 induction ss with
 | nil=>
  intro vs h
  obtain ⟨v,rfl⟩:=List.length_eq_one_iff.mp h
  rw [gp]; exact ⟨rfl,rfl⟩
 | cons s ss ih=>
  intro vs h
  obtain ⟨r,l,vs,rfl⟩:∃ r l t,vs=r :: l :: t:=by
   cases vs with
   | nil=>cases h
   | cons r t=>cases t with
    | nil=>cases Nat.succ.inj h
    | cons l t=>exact ⟨_,_,_,rfl⟩
  obtain ⟨q,rest,hq⟩:=Jf ss vs
  by_cases hb:binds s p=true
  ·rw [fY hb]
   obtain ⟨h1,h2⟩:=ih (vs:=J s l r :: vs) (Nat.succ.inj h)
   refine ⟨?_,h2⟩
   rw [h1,KJ,hq,hq]
   show eK J p (q,J s l r) rest=eK J p (s,r) ((q,l) :: rest)
   rw [qC,if_pos hb]
  ·rw [mh (by simpa using hb)]
   refine ⟨?_,h⟩
   rw [KJ,hq]
   show _=eK J p (s,r) ((q,l) :: rest)
   rw [qC,if_neg hb]
omit [Inhabited α] in
theorem Q9 {ss:List Str} {vs:List α} (h:vs.length=ss.length + 1):(mk ss vs).length=vs.length:=by rw [← List.length_map (f:=fun x:Str×α=>x.2),Ec h]
omit [Inhabited α] in
theorem Lr {f:α→α} {ss:List Str} {vs:List α} (h:vs.length=ss.length + 1):mk ss (wQ f vs)=(match mk ss vs with | (q,l) :: r=>(q,f l) :: r | []=>[]):=by
 cases vs with
 | nil=>cases h
 | cons l vs=>
  obtain ⟨q,rest,hq⟩:=Jf ss vs
  show mk ss (f l :: vs)=_
  rw [hq,hq]
def Hf (J:Str→α→α→α):Sq α→Sq α
 | []=>[]
 | e :: M=>canon J e M
omit [Inhabited α] in
theorem Gk {q:Str} {T:Sq α} {M:Sq α}:∀ {S:Sq α},S≠[]→(S.map (·.1)).getLast?=some q→(∀ t∈M.map (·.1),¬ binds q (pw t)=true)→M.foldl (push J) (S ++ T)=M.foldl (push J) S ++ T:=by
 induction M with
 | nil=>intro S _ _ _; rfl
 | cons x M ih=>
  intro S hne hb hM
  rw [List.foldl_cons,List.foldl_cons]
  cases S with
  | nil=>exact absurd rfl hne
  | cons f st=>
   have e1:push J (f :: st ++ T) x=push J (f :: st) x ++ T:=by
    show x :: eK J (pw x.1) f (st ++ T)=x :: eK J (pw x.1) f st ++ T
    rw [xr fun q' hq=>by
     rw [hb] at hq
     rw [← Option.some.inj hq]; exact hM _ (.head _)]
    rfl
   rw [e1]
   refine ih (by simp [push]) ?_ fun t ht=>hM t (.tail _ ht)
   show ((x :: eK J (pw x.1) f st).map (·.1)).getLast?=some q
   rw [← hb,← ya (gR (J:=J) (p:=pw x.1) st f),List.map_cons,List.getLast?_cons]
   obtain ⟨_,_,_,hr⟩:=qq (gR (J:=J) (p:=pw x.1) st f)
   rw [hr,List.map_cons,List.getLast?_cons]; rfl
theorem ua {q:Str} {p:Int} (h:pw q < p):¬ binds q p=true:=by
 unfold binds
 rw [if_neg (by omega)]
 simp; omega
theorem y2 {q:Str} {p:Int} (h:p≤pw q) (h1:pw q≠1):binds q p=true:=by
 unfold binds
 split
 ·simpa using h1
 ·simp; omega
theorem ne1 {s:Str} (h:8≤pw s):pw s≠1:=fun e=>by rw [e] at h; exact absurd h (by decide)
theorem Fs {e:Str×α} {M:Sq α} (he:e.1 = "") (hM:∀ s∈M.map (·.1),1≤pw s) (k:Int) (v:α):
  (match qN J 8 (canon J e M) with | (q,l) :: r=>(q,I k l v) :: r | []=>[])=Hf J (bc J I (e :: M) (.ty k v)):=by
 have hl:=fR (X:=e :: M) (by simp)
 have hhi:∀ s∈((e :: M).drop (ag (e :: M) + 1)).map (·.1),8≤pw s:=by
  intro s hs
  obtain ⟨p,hp,rfl⟩:=List.mem_map.mp hs
  obtain ⟨i,hi,rfl⟩:=List.mem_iff_getElem.mp hp
  rw [List.length_drop] at hi
  have hj:=Nat.add_lt_of_lt_sub' hi
  have:=Gm (X:=e :: M) (Nat.lt_of_lt_of_le (Nat.lt_succ_self _) (Nat.le_add_right _ i)) hj
  rw [bL hj] at this
  rw [List.getElem_drop]; exact this
 have hlow:=BR (X:=e :: M)
 have hd:(e :: M).drop (ag (e :: M))=((e :: M)[ag (e :: M)]) :: (e :: M).drop (ag (e :: M) + 1):=List.drop_eq_getElem_cons hl
 have hspl:e :: M=(e :: M).take (ag (e :: M)) ++ (e :: M).drop (ag (e :: M)):=(List.take_append_drop _ _).symm
 rw [bc]
 rw [bL hl] at hlow ⊢
 generalize hf:ag (e :: M)=f at hl hhi hlow hd hspl ⊢
 generalize (e :: M)[f]=x at hlow hd ⊢
 rw [hd] at hspl ⊢
 generalize (e :: M).drop (f + 1)=M2 at hhi hspl ⊢
 cases ht:(e :: M).take f with
 | nil=>
  rw [ht,List.nil_append] at hspl
  injection hspl with h1 h2
  subst h1 h2
  rw [oa (J:=J) (p:=8) (fun s hs=>⟨by rw [he,G3]; exact hM s hs,hM s hs⟩) fun s hs=>y2 (hhi s hs) (ne1 (hhi s hs))]
  rfl
 | cons e' M1=>
  rw [ht] at hspl
  have h0:f≠0:=fun h0=>by rw [h0] at ht; cases ht
  have hx:=hlow h0
  obtain ⟨q,l0⟩:=x
  dsimp only at hx
  rw [List.cons_append] at hspl
  injection hspl with h1 h2
  subst h1
  have hcan:canon J e M=canon J (q,l0) M2 ++ qN J (pw q) (canon J e M1):=by
   rw [h2]
   unfold canon
   rw [List.foldl_append,List.foldl_cons]
   exact Gk (q:=q) (S:=[(q,l0)]) (T:=qN J (pw q) (M1.foldl (push J) [e])) (by simp) rfl fun t ht=>ua (Int.lt_of_lt_of_le hx (hhi t ht))
  have hs2:∀ s∈M2.map (·.1),pw q < pw s∧1≤pw s:=fun s hs=>⟨Int.lt_of_lt_of_le hx (hhi s hs),Int.le_trans (by decide) (hhi s hs)⟩
  have C:=uf (J:=J) (e:=(q,l0)) (M:=M2) hs2
  have hr:=oa (J:=J) (e:=(q,l0)) (M:=M2) (p:=8) hs2 fun s hs=>y2 (hhi s hs) (ne1 (hhi s hs))
  have happ:qN J 8 (canon J (q,l0) M2 ++ qN J (pw q) (canon J e M1))=qN J 8 (canon J (q,l0) M2) ++ qN J (pw q) (canon J e M1):=by
   generalize canon J (q,l0) M2=k at C
   cases k with
   | nil=>exact absurd rfl C.ne
   | cons g st=>
    show eK J 8 g (st ++ _)=eK J 8 g st ++ _
    refine xr fun q' hq=>?_
    rw [C.bot] at hq
    rw [← Option.some.inj hq]; exact ua hx
  rw [hcan,happ,hr]
  show (q,I k (bH J ((q,l0) :: M2)) v) :: qN J (pw q) (canon J e M1)=canon J e (M1 ++ [(q,I k (bH J ((q,l0) :: M2)) v)])
  unfold canon
  rw [List.foldl_append]; rfl
def Lk.BS:Lk α→Prop
 | .op w _=>1≤pw w
 | .ty _ _=>True
theorem Dt {e:Str×α} {M:Sq α} {x:Lk α} (he:e.1 = "") (hM:∀ s∈M.map (·.1),1≤pw s) (hx:x.BS):∃ e' M',bc J I (e :: M) x=e' :: M'∧e'.1 = "" ∧ ∀ s∈M'.map (·.1),1≤pw s:=by
 cases x with
 | op w v=>
  refine ⟨e,M ++ [(w,v)],rfl,he,fun s hs=>?_⟩
  rw [List.map_append,List.mem_append] at hs
  rcases hs with hs | hs
  ·exact hM s hs
  ·have:s=w:=by simpa using hs
   rw [this]; exact hx
 | ty k v=>
  have hl:=fR (X:=e :: M) (by simp)
  rw [bc]
  generalize ag (e :: M)=f at hl ⊢
  cases f with
  | zero=>exact ⟨_,[],rfl,he,fun s hs=>nomatch hs⟩
  | succ f=>
   refine ⟨e,M.take f ++ [(((e :: M).map (·.1)).getD (f + 1) ("" : Str),I k (bH J ((e :: M).drop (f + 1))) v)],rfl,he,fun s hs=>?_⟩
   rw [List.map_append,List.mem_append] at hs
   rcases hs with hs | hs
   ·exact hM s ((List.map_subset _ (List.take_subset _ _)) hs)
   ·have h2:f < M.length:=by simpa using hl
    have:s=(M[f]).1:=by
     rw [List.map_cons,List.map_nil,List.mem_singleton] at hs
     rw [hs]
     show ((e :: M).map (·.1)).getD (f + 1) ("" : Str)=_
     rw [bL (by simpa using h2)]; rfl
    rw [this]; exact hM _ (List.mem_map_of_mem (List.getElem_mem h2))
theorem G6 (links:List (Lk α)):∀ {ss:List Str} {vs:List α} {e:Str×α} {M:Sq α},vs.length=ss.length + 1→e.1 = "" → (∀ s∈M.map (·.1),1≤pw s)→(∀ x∈links,x.BS)→mk ss vs=canon J e M→run J I links ss vs=[bH J (links.foldl (bc J I) (e :: M))]:=by
 induction links with
 | nil=>
  intro ss vs e M hl he hM _ hc
  rw [Dy]
  obtain ⟨h1,h2⟩:=Aq (J:=J) (p:=0) hl
  rw [hc,oa (J:=J) (p:=0) (fun s hs=>⟨by rw [he,G3]; have:=hM s hs; omega,hM s hs⟩) fun s hs=>by
   have:=hM s hs
   unfold binds
   rw [if_neg (by omega)]
   simp; omega] at h1
  rw [← Ec h2,h1]; rfl
 | cons x r ih=>
  intro ss vs e M hl he hM hr hc
  cases x with
  | op w v=>
   obtain ⟨h1,h2⟩:=Aq (J:=J) (p:=pw w) hl
   rw [oE,List.foldl_cons]
   refine ih (M:=M ++ [(w,v)]) (congrArg Nat.succ h2) he (fun s hs=>?_) (fun x hx=>hr x (.tail _ hx)) ?_
   ·rw [List.map_append,List.mem_append] at hs
    rcases hs with hs | hs
    ·exact hM s hs
    ·rw [List.mem_singleton.mp hs]; exact hr _ (.head _)
   ·rw [KJ,h1,hc]
    unfold canon
    rw [List.foldl_append]; rfl
  | ty k v=>
   obtain ⟨h1,h2⟩:=Aq (J:=J) (p:=8) hl
   rw [rM,List.foldl_cons]
   obtain ⟨e',M',h3,h4,h5⟩:=Dt (J:=J) (I:=I) (x:=.ty k v) he hM trivial
   have h6:=Fs (J:=J) (I:=I) he hM k v
   rw [h3] at h6 ⊢
   refine ih ?_ h4 h5 (fun x hx=>hr x (.tail _ hx)) ?_
   ·rw [← h2]; cases (red J 8 ss vs).2 <;> rfl
   ·rw [Lr h2,h1,hc,h6]; rfl
theorem Hq {links:List (Lk α)} {a:α} (h:∀ x∈links,x.BS):run J I links [] [a]=[bH J (links.foldl (bc J I) [("", a)])]:=G6 links rfl rfl (fun s hs=>nomatch hs) h rfl
end
def Jr (s:Str) (a b:List Rw):List Rw:=⟨if pw s < 4 then 21 else 20,.str s,2⟩ :: a ++ b
def wt (L:Sq (List Rw)):Nat:=(L.map fun e=>e.2.length + 1).sum
theorem aW (e:Str×List Rw) (L:Sq (List Rw)):wt (e :: L)=e.2.length + 1 + wt L:=by simp [wt]
theorem jI:wt []=0:=rfl
theorem jM (A B:Sq (List Rw)):wt (A ++ B)=wt A + wt B:=by simp [wt]
theorem vK (s:Str) (a b:List Rw):(Jr s a b).length=a.length + b.length + 1:=by simp [Jr]
theorem Dw {p:Int} {B:Sq (List Rw)} {e:Str×List Rw}:wt (pf Jr p e B)=wt (e :: B):=by
 induction B generalizing e with
 | nil=>rfl
 | cons a B ih=>
  rw [mH]
  by_cases h:pw a.1=p
  ·rw [if_pos h,ih,aW,aW,aW,vK]; clear ih; omega
  ·rw [if_neg h,aW,ih,aW e]
theorem JU {α:Type} {J:Str→α→α→α} {p:Int} {B:Sq α} {e:Str×α} (h:∀ s∈B.map (·.1),pw s≠p):pf J p e B=e :: B:=by
 induction B generalizing e with
 | nil=>rfl
 | cons a B ih=>rw [mH,if_neg (h a.1 (.head _)),ih fun s hs=>h s (.tail _ hs)]
theorem H3 {α:Type} {J:Str→α→α→α} {p:Int} {B:Sq α} {e:Str×α}:∀ s∈(pf J p e B).tail.map (·.1),s∈B.map (·.1):=by
 induction B generalizing e with
 | nil=>exact fun s h=>h
 | cons a B ih=>
  rw [mH]
  by_cases hp:pw a.1=p
  ·rw [if_pos hp]; exact fun s h=>.tail _ (ih s h)
  ·rw [if_neg hp]
   intro s h
   obtain ⟨l',Y',e'⟩:=lZ (J:=J) (p:=p) (Y:=B) (e:=a)
   have k:=ih (e:=a) s
   rw [List.tail_cons,show pf J p (a.1,a.2) B=_ from e'] at h
   rw [e'] at k
   rcases List.mem_cons.mp h with h | h
   ·exact h ▸ .head _
   ·exact .tail _ (k h)
abbrev fF (X:Sq (List Rw)):List V:=X.map fun e=>ax e.2
abbrev eO (X:Sq (List Rw)):List V:=X.tail.map fun e=>.str e.1
abbrev zg:V:=.aH aa bj
abbrev GW (I O:V) (p o l r at_ rows:Option V):Fm:=[some I,some O,p,o,l,r,at_,rows]
abbrev Dp (la lr:Addr) (X:Sq (List Rw)):List (Addr×List V):=[(lr,eO X),(la,fF X)]
theorem fU (D:Sq (List Rw)) (e:Str×List Rw):fF (D ++ [e])=fF D ++ [ax e.2]:=by simp [fF]
theorem yT {X:Sq (List Rw)} (h:X≠[]) (e:Str×List Rw):eO (X ++ [e])=eO X ++ [.str e.1]:=by
 cases X with
 | nil=>exact absurd rfl h
 | cons x X=>simp [eO]
theorem GC (D:Sq (List Rw)) (q:Str) (a b:List Rw):eO (D ++ [(q,a)])=eO (D ++ [(q,b)]):=by
 cases D with
 | nil=>rfl
 | cons x X=>simp [eO]
theorem gm (L:Sq (List Rw)):L.length≤wt L:=by
 induction L with
 | nil=>exact Nat.le_refl _
 | cons a L ih=>rw [aW,List.length_cons]; omega
theorem lV (X:Sq (List Rw)):(fF X).length=X.length:=List.length_map ..
theorem jj {X:Sq (List Rw)}:(eO X).length=X.length - 1:=by simp [eO]
section
variable {b:Bs} {n:Nat} {hd:Option Addr} {σ τ:AH} {Φ:Pv} {Ψ:Addr→AH→Prop} {X:XX} {r:Fm} {v w:V} {Θ:Ph} {l l':List (Addr×List V)} {a:Addr} {xs ys:List V} {i j:Int} {s:Str} {k:Nat} {la lr ap:Addr}
theorem Ji (h:σ a=some (.cell (some v))) (q:Φ v σ):Pq a σ Φ:=by unfold Pq; exact ⟨v,h,q⟩
theorem Qj {o:Option V} {p:Prop} (h:σ a=some (.cell o)) (q:p):Pk a σ p:=by unfold Pk; exact ⟨⟨o,h⟩,q⟩
theorem Ll (I:ec σ v xs) (nt:∀ xs,v≠.tup xs) (e:i=k) (h:xs[k]?=some w) (hl:xs.length≤1000000) (q:Φ w σ):tp v (.int i) σ Φ:=by
 subst e; exact ij (.list I (by omega) hl (by rw [Int.toNat_natCast]; exact h)) nt q
theorem fN (e:i=k) (h:xs[k]?=some w) (hl:xs.length≤1000000) (q:Φ w σ):tp (.fl xs) (.int i) σ Φ:=Ll .fl (fun _ e=>by cases e) e h hl q
theorem zG (I:ec σ v (xs ++ [w])) (nt:∀ xs,v≠.tup xs) (hl:xs.length≤100000) (q:Φ w σ):tp v (.int (-1)) σ Φ:=
 ij (.neg I (by omega) (by rw [List.length_append,List.length_singleton]; omega) (by rw [List.length_append,List.length_singleton]; omega) (by rw [List.length_append,List.length_singleton,show ((-1:Int) + ((xs.length + 1:Nat):Int)).toNat=xs.length by omega]; simp)) nt q
theorem Nd (h:s∈aa) (q:Φ (.int (pw s)) σ):tp zg (.str s) σ Φ:=ij (.ds .aH (ur h)) (fun _ e=>by cases e) q
theorem Qz {v':V} (N:LN σ l) (k:LP a (xs ++ [v]) (xs ++ [v']) l l') (hl:xs.length≤99999) {K:AH→Prop} (q:LN σ l'→K (lay σ l')):wF (.ref a) (.int (-1)) v' (lay σ l) K:=by
 unfold wF
 refine ⟨_,.neg (N.get k.la) (by omega) (by rw [List.length_append,List.length_singleton]; omega) (by rw [List.length_append,List.length_singleton]; omega),?_⟩
 have:(xs ++ [v]).set ((-1:Int) + ((xs ++ [v]).length:Int)).toNat v'=xs ++ [v']:=by rw [si]
 rw [this,N.up k.lu]; exact q (N.set k.lu)
theorem Ae {X:Sq (List Rw)} {m:Nat} (h:wt X≤50000) (hm:50000≤m):(fF X).length≤m:=by
 rw [lV]; exact Nat.le_trans (gm X) (Nat.le_trans h hm)
theorem vp {X:Sq (List Rw)} {m:Nat} (h:wt X≤50000) (hm:50000≤m):(eO X).length≤m:=by
 rw [jj]; exact Nat.le_trans (Nat.sub_le _ _) (Nat.le_trans (gm X) (Nat.le_trans h hm))
theorem Cz {a b c d:Nat} (h:a + (b + 1 + 0) + (c + 1 + d)≤50000):a≤50000∧1 + b≤100000∧b + 1 + c≤100000∧a + (b + c + 1 + 1 + 0) + d≤50000∧a + (b + 1 + 0) + (c + 1 + 0) + d≤50000:=
 ⟨by omega,by omega,by omega,by omega,by omega⟩
theorem CA {p:Int} {e0 e:Str×List Rw} {B D:Sq (List Rw)} {s:Str} {rr:List Rw} {o rows:Option V} (hc:σ ap=some (.cell (some zg))) (hB:B[k]?=some (s,rr)) (hs:s∈aa)
  (hw:wt (e0 :: B)≤50000) (hw2:wt (D ++ [e]) + wt (B.drop k)≤50000) (N:LN σ (Dp la lr (D ++ [e])))
  (h:∀ D' e',pf Jr p e (B.drop k)=D' ++ pf Jr p e' (B.drop (k + 1))→wt (D ++ D' ++ [e']) + wt (B.drop (k + 1))≤50000→LN σ (Dp la lr (D ++ D' ++ [e']))→Θ .next (GW (.fl (fF (e0 :: B))) (.fl (eO (e0 :: B))) (some (.int p)) (some (.str s)) (some (.ref la)) (some (.ref lr)) (some (.int k)) rows) (lay σ (Dp la lr (D ++ D' ++ [e'])))):
  iT ap ⟨b,n,hd,X.Y⟩ (GW (.fl (fF (e0 :: B))) (.fl (eO (e0 :: B))) (some (.int p)) o (some (.ref la)) (some (.ref lr)) (some (.int k)) rows) (lay σ (Dp la lr (D ++ [e]))) Θ:=by
 have e1:Dp la lr (D ++ [e])=[(lr,eO (D ++ [e])),(la,fF D ++ [ax e.2])]:=by rw [Dp,fU]
 rw [e1] at N ⊢
 have hk:=(List.getElem?_eq_some_iff.mp hB).1
 have hB':B.drop k=(s,rr) :: B.drop (k + 1):=by
  rw [List.drop_eq_getElem_cons hk,(List.getElem?_eq_some_iff.mp hB).2]
 rw [hB'] at hw2 h
 rw [jM,aW,jI,aW] at hw2
 change wt D + (e.2.length + 1 + 0) + (rr.length + 1 + wt (B.drop (k + 1)))≤50000 at hw2
 obtain ⟨n1,n2,n3,n4,n5⟩:=Cz hw2
 have hop:(eO (e0 :: B))[k]?=some (.str s):=by simp [eO,hB]
 have hit:(fF (e0 :: B))[k + 1]?=some (ax rr):=by simp [fF,hB]
 have li:(fF (e0 :: B)).length≤1000000:=Ae hw (by decide)
 have lD:(fF D).length≤50000:=Ae n1 (by decide)
 have lO:(eO (D ++ [e])).length≤100000:=by rw [jj,List.length_append]; exact Nat.le_trans (gm D) (Nat.le_trans n1 (by decide))
 refine fN rfl hop (vp hw (by decide)) (Ji (N.sub hc) (Nd hs (ay (fun hi=>?_) fun hi=>?_)))
 ·have hp:pw s=p:=eq_of_beq hi
  have hset:∀ q:Int,q=(if pw s < 4 then 21 else 20)→fE (xL 4) (xN (xK (.int 1))) (xB .Add (xB .Add (xK (.fl [.tup [.int q,.str s,.int 2]])) (xS (xL 4) (xN (xK (.int 1))))) (xS (xL 0) (xB .Add (xL 6) (xK (.int 1))))) bN ⟨b,n,hd,X.Y⟩ (GW (.fl (fF (e0 :: B))) (.fl (eO (e0 :: B))) (some (.int p)) (some (.str s)) (some (.ref la)) (some (.ref lr)) (some (.int k)) rows) (lay σ [(lr,eO (D ++ [e])),(la,fF D ++ [ax e.2])]) Θ:=fun q hq=>by
   have e1:[V.tup [.int q,.str s,.int 2]] ++ e.2.map Rw.v ++ rr.map Rw.v=(Jr s e.2 rr).map Rw.v:=by rw [hq]; simp [Jr,Rw.v]
   refine zG (.ref (N.get (.tail .head))) (fun _ e=>by cases e) (by omega) (gC .fl .fl (by simpa using n2) (fN rfl hit li (gC .fl .fl (by simpa using n3) ?_)))
   rw [e1]
   refine Qz N (.tail .head) (by omega) fun N2=>?_
   have e3:[(lr,eO (D ++ [e])),(la,fF D ++ [ax (Jr s e.2 rr)])]=Dp la lr (D ++ [] ++ [(e.1,Jr s e.2 rr)]):=by rw [Dp,List.append_nil,fU,GC D e.1 e.2 (Jr s e.2 rr)]
   rw [e3] at N2 ⊢
   exact h [] (e.1,Jr s e.2 rr) (by rw [mH,if_pos hp]; rfl) (by rw [List.append_nil,jM,aW,jI,vK]; exact n4) N2
  exact ay (fun h4=>hset 21 (by rw [hp,if_pos (of_decide_eq_true h4)])) fun h4=>hset 20 (by rw [hp,if_neg (of_decide_eq_false h4)])
 ·have hp:pw s≠p:=ne_of_beq_false hi
  refine bz N (.tail .head) (by rw [List.length_append]; exact Nat.add_le_add (Nat.le_trans lD (by decide):_≤99999) (Nat.le_refl 1)) (fun _ h=>fN rfl hit li h) fun N2=>bz N2 .head lO (fun _ h=>h) fun N3=>?_
  have e3:[(lr,eO (D ++ [e]) ++ [.str s]),(la,fF D ++ [ax e.2] ++ [ax rr])]=Dp la lr (D ++ [e] ++ [(s,rr)]):=by rw [Dp,fU,fU D,yT (X:=D ++ [e]) (List.append_ne_nil_of_right_ne_nil _ (List.cons_ne_nil _ _))]
  rw [e3] at N3 ⊢
  exact h [e] (s,rr) (by rw [mH,if_neg hp]; rfl) (by rw [jM,jM,aW,aW,jI]; exact n5) N3
end
section
variable {c:Cx} {fn:Fn} {n:Nat} {ρ:Loc} {σ:AH} {Φ:Pv} {Ψ:Px} {scope:Scope} {cl:List (Str×Addr)} {e e1 e2:Expr} {x:Str} {y z w u:V} {i j:Int} {xs:List V} {ks:List Str} {pos:Pos} {k:Nat}
theorem EL.then {d:da} {A:Around} {fz a7:Led} {R:Rest} {s:Shared} {C:Addr} {m₂:Str→Option Value} {u:Value} {E':Value→Shared→Prop} {Q:Value→Shared→Prop} (h:EL c fn n scope cl e x σ y z) (O:Ok c fn d) (L:Lv fn d A n none) (S:St c d ρ σ fz a7 R s) (hn:s.heap.Ns C m₂) (hu:m₂ x=some u) (r:VR c fz y u)
  (k:∀ v tk,VR c fz z v→Q v { s with toks:=tk }):wpAny (model c.prog c.w) A (eval e (compEnvC scope cl C (fn.env d.L))) Q E' s:=
 wpAny_mono (h d A fz a7 R ρ s C m₂ u E' O L S hn hu r) (fun v s' ⟨hv,tk,e⟩=>by rw [e]; exact k v tk hv) fun _ _ h=>h
theorem uV (hk:scope.kind=.function) (hx:scope.names.lookup x=some .local) (hd:(x == ("__debug__" : Str))=false:=by decide):EL c fn n scope cl (.Name x pos) x σ y y:=fun d A fz a7 R ρ s C m₂ u E' O L S hn hu r=>
 ldVarK (env:=fn.env d.L) hn hu ⟨r,s.toks,rfl⟩ hk (lookup_relabel_local hx) hd
theorem vh {a:Addr} {q:Str} (hc:cl.lookup q=some a) (hs:σ a=some (.cell (some z))) (hk:scope.kind=.function) (hx:∀ C L,(compEnvC scope cl C (fn.env L)).kindOf q=some .cell) (hd:(q == ("__debug__" : Str))=false:=by decide):EL c fn n scope cl (.Name q pos) x σ y z:=fun d A fz a7 R ρ s C m₂ u E' O L S hn hu r=>by
 obtain ⟨m,led,frs,Z⟩:=S.ex
 obtain ⟨_,_,_,ro,hmem,ho⟩:=Z.hp _ _ hs
 obtain ⟨_,e,r⟩:=ho.inv
 exact lcf_cell Z.nw hc hmem e ⟨r,s.toks,rfl⟩ hk (hx _ _) hd
theorem AN {q:Nat}:EL c fn n scope cl (.Constant (.int i) q pos) x σ y (.int i):=fun d A fz a7 R ρ s C m₂ u E' O L S hn hu r=>wpAny_Constant_int ⟨.int _ _,_,rfl⟩
theorem Ml (h1:EL c fn n scope cl e1 x σ y (.int i)) (h2:EL c fn n scope cl e2 x σ y (.int j)):EL c fn n scope cl (.BinOp e1 .Add e2 pos) x σ y (.int (i + j)):=fun d A fz a7 R ρ s C m₂ u E' O L S hn hu r=>
 wpAny_BinOp (h1.then O L S hn hu r fun v tk r1=>h2.then O L (S.toks tk) hn hu r fun v2 tk2 r2=>by
  obtain ⟨_,rfl⟩:=r1.inv; obtain ⟨_,rfl⟩:=r2.inv; exact PyProof.Rows.add_int ⟨.int _ _,_,rfl⟩)
theorem Kh (h1:EL c fn n scope cl e1 x σ y (.int i)) (h2:EL c fn n scope cl e2 x σ y (.int j)) (hm:behindInMarks .Lt e2=false):Pp c fn n scope cl (.Compare e1 [.Lt] [e2] pos) x σ y (decide (i < j)):=fun d A fz a7 R ρ s C m₂ u E' O L S hn hu r=>
 wpAny_isTrue_Compare1 (h1.then O L S hn hu r fun v tk r1=>h2.then O L (S.toks tk) hn hu r fun v2 tk2 r2=>by
  obtain ⟨_,rfl⟩:=r1.inv; obtain ⟨_,rfl⟩:=r2.inv; exact PyProof.Rows.lt_int (wpAny_truthy_bool ⟨rfl,_,rfl⟩)) hm
theorem yL {k:Str} (h1:EL c fn n scope cl e1 x σ y u) (I:Aw σ u ks xs) (h2:EL c fn n scope cl e2 x σ y (.str k)) (hs:Idx e2) (hx:KV k z ks xs):EL c fn n scope cl (.Subscript e1 e2 pos) x σ y z:=fun d A fz a7 R ρ s C m₂ u E' O L S hn hu r=>
 Subscript_ (h1.then O L S hn hu r fun v tk r1=>h2.then O L (S.toks tk) hn hu r fun v2 tk2 r2=>by
  obtain ⟨m,led,frs,Z⟩:=S.ex
  obtain ⟨a,es,q,rfl,hg,rs,nd,lo⟩:=I.real O Z r1
  obtain ⟨t,rfl⟩:=r2.inv
  obtain ⟨ops,e⟩:=hs (.ref a) (.str k t)
  obtain ⟨kvs,p1,p2,p3,p4⟩:=rs.pairs
  obtain ⟨w,hw,rw⟩:=hx.value nd p2 p3
  have hD:s.heap.DictOf (strKind c.prog c.w) a kvs:=Heap.dictOf_iff.mpr ⟨_,hg,cg p1 p4 (p2 ▸ nd)⟩
  exact tail_any (s:={ s with toks:=tk2 }) hD.typeIs slot_dict_getitem.lookup (wpAny_getItem_of (strKind_is _ _ _ _) (s:={ s with toks:=tk2 }) hD.mapOf hw ⟨rw,_,rfl⟩) e)
theorem zl {k:Nat} (h1:EL c fn n scope cl e1 x σ y u) (I:ec σ u xs) (h2:EL c fn n scope cl e2 x σ y (.int k)) (hs:Idx e2) (hl:xs.length≤100000) (hx:xs[k]?=some z):EL c fn n scope cl (.Subscript e1 e2 pos) x σ y z:=fun d A fz a7 R ρ s C m₂ u E' O L S hn hu r=>
 Subscript_ (h1.then O L S hn hu r fun v tk r1=>h2.then O L (S.toks tk) hn hu r fun v2 tk2 r2=>by
  obtain ⟨m,led,frs,Z⟩:=S.ex
  obtain ⟨a,vs,q,rfl,hm,rs⟩:=I.real O Z r1
  obtain ⟨t,rfl⟩:=r2.inv
  obtain ⟨ops,e⟩:=hs (.ref a) (.int k t)
  obtain ⟨w,hw,rw⟩:=rs.nth hx
  have hlt:=(List.getElem?_eq_some_iff.mp hx).1
  exact tail_any (s:={ s with toks:=tk2 }) (Z.isList hm).typeIs slot_list_getitem.lookup (wpAny_getItem_list (s:={ s with toks:=tk2 }) (Z.isList hm) (Int.natCast_nonneg k) (JC (Int.natCast_nonneg k) hlt (Nat.le_trans hl (by decide))) (by simpa using hw) ⟨rw,_,rfl⟩) e)
def QG:V→V
 | .str s=>.int (pw s)
 | _=>.none
end
def fp (l:List (List Rw)):Nat:=(l.map fun r=>r.length + 1).sum
theorem bx (x:List Rw) (l:List (List Rw)):fp (x :: l)=x.length + 1 + fp l:=by simp [fp]
theorem FW:fp []=0:=rfl
theorem B7:∀ X:Sq (List Rw),fp (X.map fun e=>e.2)=wt X
 | []=>rfl
 | e :: X=>by rw [List.map_cons,bx,B7 X,aW]
theorem y9:∀ l:List (List Rw),l.length≤fp l
 | []=>Nat.le_refl _
 | x :: l=>by have:=y9 l; rw [bx,List.length_cons]; omega
theorem CQ (l:List (List Rw)) (j:Nat):fp (l.drop j)≤fp l:=by
 induction l generalizing j with
 | nil=>rw [List.drop_nil]; exact Nat.le_refl _
 | cons x l ih=>
  cases j with
  | zero=>exact Nat.le_refl _
  | succ j=>rw [List.drop_succ_cons,bx]; exact Nat.le_trans (ih j) (Nat.le_add_left _ _)
def EV:List (List Rw)→List Rw
 | []=>[]
 | [x]=>x
 | x :: y :: r=>Jr "??" x (EV (y :: r))
theorem DX {x:List Rw} {r:List (List Rw)} (h:r≠[]):EV (x :: r)=Jr "??" x (EV r):=by
 cases r with
 | nil=>exact absurd rfl h
 | cons y r=>rfl
theorem qU:∀ {B:Sq (List Rw)} {a:List Rw},eN Jr a B=EV (a :: B.map fun e=>e.2)
 | [],a=>rfl
 | (s,b) :: B,a=>by
  rw [Ft,qU]
  rfl
theorem Iz {x:List Rw}:EV [x]=x:=rfl
theorem H5 {x y:List Rw} {r:List (List Rw)}:EV (x :: y :: r)=Jr "??" x (EV (y :: r)):=rfl
theorem AW:∀ l:List (List Rw),(EV l).length≤fp l
 | []=>Nat.le_refl _
 | [x]=>by rw [Iz,bx]; omega
 | x :: y :: r=>by
  have:=AW (y :: r)
  rw [H5,vK,bx]; omega
theorem Ol:pw "??" < 4:=by decide +kernel
theorem MX (a b:List Rw):[V.tup [.int 21,.str "??", .int 2]] ++ a.map Rw.v ++ b.map Rw.v=(Jr "??" a b).map Rw.v:=by
 unfold Jr
 rw [if_pos Ol]; simp [Rw.v]
theorem G7 (a:Int) (b:Int) (m:Nat) (h:a - b=m):dM a b (-1)=(List.range m).map fun k:Nat=>V.int (a - k):=by
 unfold dM
 have e:(Builtin.Range.rangeSize a b (-1)).toNat=m:=by rw [rangeSize_down]; split <;> omega
 rw [e]
 refine List.map_congr_left fun k _=>?_
 congr 1; omega
inductive Rk (σ:AH) (la lr:Addr) (p:Int) (e:Str×List Rw) (B:Sq (List Rw)) (k:Nat):Fm→AH→Prop
 | mk {D:Sq (List Rw)} {e':Str×List Rw} {o at_:Option V}:pf Jr p e B=D ++ pf Jr p e' (B.drop k)→wt (D ++ [e']) + wt (B.drop k)≤50000→LN σ (Dp la lr (D ++ [e']))→
  Rk σ la lr p e B k (GW (.fl (fF (e :: B))) (.fl (eO (e :: B))) (some (.int p)) o (some (.ref la)) (some (.ref lr)) at_ none) (lay σ (Dp la lr (D ++ [e'])))
inductive R5 (σ:AH) (e0:Str×List Rw) (B0:Sq (List Rw)) (k:Nat):Fm→AH→Prop
 | mk {m:Nat} {e:Str×List Rw} {B:Sq (List Rw)} {p o l r' at_:Option V}:k + m=10→iO Jr m (e :: B)=iO Jr 10 (e0 :: B0)→wt (e :: B)≤50000→(∀ s∈B.map (·.1),s∈aa)→R5 σ e0 B0 k (GW (.fl (fF (e :: B))) (.fl (eO (e :: B))) p o l r' at_ none) σ
inductive Q4 (σ:AH) (L:List (List Rw)) (O:List V) (p o l r:Option V) (m k:Nat):Fm→AH→Prop
 | mk {j:Nat} {at_:Option V}:j + k=m→Q4 σ L O p o l r m k (GW (.fl (L.map ax)) (.fl O) p o l r at_ (some (ax (EV (L.drop j))))) σ
section
variable {b:Bs} {n:Nat} {hd:Option Addr} {σ τ:AH} {Φ:Pv} {Ψ:Addr→AH→Prop} {X:XX} {r:Fm} {v w:V} {Θ:Ph} {l l':List (Addr×List V)} {a:Addr} {xs ys:List V} {i j:Int} {s:Str} {k:Nat} {la lr ap:Addr} {body rest:TS}
theorem Gd {a b:Int} {m:Nat} (h:a - b=m) (ha:a < 1000000) (hb:-1000000 < b):ph σ (.rng a b (-1)) ((List.range m).map fun k:Nat=>V.int (a - k)):=by
 rw [← G7 a b m h]; exact .rng (small_down (by omega) (by omega) (by omega) (by omega))
theorem F7 {m:Nat} (hm:i - j=m) (ha:i < 1000000) (hb:-1000000 < j) (I:Nat→Fm→AH→Prop) (h0:I 0 r σ) (ht:∀ q r σ,q < m→I q r σ→body X (r.set k (some (.int (i - q)))) σ (HB rest X Θ (I (q + 1)))) (hend:∀ r σ,I m r σ→rest X r σ Θ):WF k body rest X (.rng i j (-1)) r σ Θ:=by
 unfold WF
 refine ⟨_,I,fun _ _ _ _=>Gd hm ha hb,h0,fun q y r σ hy hI=>?_,fun r σ hI=>hend r σ (by rw [List.length_map,List.length_range] at hI; exact hI)⟩
 obtain ⟨hq,e⟩:=List.getElem?_eq_some_iff.mp hy
 rw [List.length_map,List.length_range] at hq
 rw [List.getElem_map,List.getElem_range] at e
 rw [← e]; exact ht q r σ hq hI
theorem Bk (q:Φ (.rng i j (-1)) σ):TC b n hd (.type "range") [.int i,.int j,.int (-1)] σ Φ Ψ:=.of (Cq (by decide) (O4 (by decide)) q)
theorem GH {I:V} {B:List Str} {p o l r at_ rows:Option V} (hc:σ ap=some (.cell (some zg))) (hB:∀ s∈B,s∈aa) (hl:B.length≤100000) {Y:Px} (q:Φ (.fl ((B.map pw).map V.int)) σ):
  SE b.c (FF ap) n none (fc.zip (GW I (.fl (B.map .str)) p o l r at_ rows)) σ Ju Φ Y:=by
 refine SE.ent (Ho (cl:=[("powers", ap)]) (fun L=>rfl) (by decide +kernel) rfl (by decide +kernel) rfl ?_ fun _ _=>rfl)
 refine fb (.tail .head) ⟨_,QG,.fl,(by rw [List.length_map]; exact hl),fun y hy=>?_,fun la hla=>?_⟩
 ·obtain ⟨q,hq,rfl⟩:=List.mem_map.mp hy
  exact yL (vh rfl hc rfl (fun C L=>rfl)) .aH (uV rfl rfl) (fun o i=>⟨_,rfl⟩) (ur (hB _ hq))
 refine ⟨_,_,b7.fl (AH.a9 ..),?_⟩
 rw [AH.dw hla,List.map_map]
 rw [List.map_map] at q; exact q
theorem zN {p:Int} {e:Str×List Rw} {B:Sq (List Rw)} {o l r at_:Option V} (hc:σ ap=some (.cell (some zg))) (hB:∀ s∈B.map (·.1),s∈aa) (hw:wt (e :: B)≤50000)
  (h:∀ o l r at_,Θ .next (GW (.fl (fF (pf Jr p e B))) (.fl (eO (pf Jr p e B))) (some (.int p)) o l r at_ none) σ):
  iC ap ⟨b,n,none,X.Y⟩ (GW (.fl (fF (e :: B))) (.fl (eO (e :: B))) (some (.int p)) o l r at_ none) σ Θ:=by
 have hl:=gm (e :: B)
 rw [List.length_cons] at hl
 have eo:eO (e :: B)=(B.map (·.1)).map .str:=by rw [List.map_map]; rfl
 have eL:((B.map (·.1)).map V.str).length=B.length:=by rw [List.length_map,List.length_map]
 rw [eo]
 refine GH hc hB (by rw [List.length_map]; omega) (eP (.lst .fl) (ay (fun hi=>?_) fun hi=>?_))
 ·refine fN (k:=0) rfl rfl (by rw [lV,List.length_cons]; omega) fun la h1 lr h2=>cD .fl (by rw [eL]; omega) ?_
  rw [eL,← eo]
  refine fg (gz (N:=B.length) (by omega) (Rk σ la lr p e B) (.mk (D:=[]) (e':=e) rfl (by rw [aW] at hw; rw [List.nil_append,aW,jI,List.drop_zero]; omega) ((LN.nil.new h1).new h2)) ?_ ?_)
  ·rintro k r τ hk ⟨f1,f2,N⟩
   have hsr:B[k]?=some (B[k].1,B[k].2):=List.getElem?_eq_getElem hk
   exact CA (X:=⟨b,n,none,X.Y⟩) hc hsr (hB _ (List.mem_map_of_mem (List.getElem_mem hk))) hw f2 N fun D' e'' g1 g2 N'=>.mk (by rw [f1,g1,List.append_assoc]) g2 N'
  rintro r τ ⟨f1,f2,N⟩
  rename_i D e' o' at_'
  rw [List.drop_length] at f1
  have f3:pf Jr p e B=D ++ [e']:=f1
  rw [f3] at h
  exact ⟨_,_,N.fl (.tail .head) (.tail .head),_,_,(N.del (a:=la) (.tail .head)).2.fl .head .head,h _ _ _ _⟩
 ·have f4:pf Jr p e B=e :: B:=JU fun s hs e5=>of_decide_eq_false hi (by rw [← e5]; exact List.mem_map_of_mem hs)
  rw [f4] at h
  rw [← eo]
  exact h o l r at_
theorem Bg {j k N:Nat} (e:j + k=N) (h:k < N):∃ m,j=m + 1∧m + (k + 1)=N:=by
 cases j with
 | zero=>exact absurd h (by omega)
 | succ m=>exact ⟨m,rfl,by omega⟩
theorem CI {L:List (List Rw)} {O:List V} {p o l r at_:Option V} (hL:L≠[]) (hO:O.length + 1=L.length) (hw:fp L≤50000) (sub:cF b.c σ τ) (q:Φ (ax (EV L)) τ):
  iV ap ⟨b,n,none,fun _=>Ψ⟩ (GW (.fl (L.map ax)) (.fl O) p o l r at_ none) σ (aZ Φ):=by
 have hl:=y9 L
 obtain ⟨L',x,rfl⟩:∃ L' x,L=L' ++ [x]:=⟨L.dropLast,L.getLast hL,(List.dropLast_concat_getLast hL).symm⟩
 rw [List.length_append,List.length_singleton] at hO hl
 have e0:(L' ++ [x]).map ax=L'.map ax ++ [ax x]:=by rw [List.map_append]; rfl
 have dl:(L' ++ [x]).drop L'.length=[x]:=by rw [List.drop_left]
 refine zG (v:=.fl ((L' ++ [x]).map ax)) (xs:=L'.map ax) (w:=ax x) (by rw [e0]; exact .fl) (fun _ e=>by cases e) (by rw [List.length_map]; omega) (cD (xs:=O) .fl (by omega) (Bk (F7 (m:=L'.length) (by omega) (by omega) (by decide)
  (Q4 σ (L' ++ [x]) O p o l r L'.length) (by have:=@Q4.mk σ (L' ++ [x]) O p o l r L'.length 0 L'.length at_ rfl; rw [dl] at this; exact this) ?_ ?_)))
 ·rintro k r' σ' hk ⟨hj⟩
  rename_i j at_
  obtain ⟨j,rfl,hj2⟩:=Bg hj hk
  have hl1:j + 1≤L'.length:=Nat.le.intro ((Nat.add_right_comm j k 1 ▸ hj2:j + 1 + k=_))
  have hlt:j < (L' ++ [x]).length:=by rw [List.length_append]; exact Nat.lt_add_right _ hl1
  have d1:=List.drop_eq_getElem_cons hlt
  have d2:(L' ++ [x]).drop (j + 1)≠[]:=fun e=>by
   have:=congrArg List.length e
   rw [List.length_drop,List.length_append] at this
   exact absurd (Nat.sub_eq_zero_iff_le.mp this) (Nat.not_le.mpr (Nat.add_lt_add_right hl1 1))
  have w1:=AW ((L' ++ [x]).drop (j + 1))
  have w2:=CQ (L' ++ [x]) j
  have hit:((L' ++ [x]).map ax)[j]?=some (ax (L' ++ [x])[j]):=by rw [List.getElem?_map,List.getElem?_eq_getElem hlt]; rfl
  rw [d1,bx] at w2
  refine fN (by omega) hit (by rw [List.length_map,List.length_append,List.length_singleton]; omega) (gC .fl .fl (by simp; omega) (gC .fl .fl (by simp; omega) ?_))
  rw [MX,← DX d2,← d1]
  exact .mk hj2
 rintro r' σ' ⟨hj⟩
 rename_i j at_
 obtain rfl:j=0:=Nat.add_eq_right.mp hj
 exact ⟨_,_,sub.v,q⟩
theorem oX {e0:Str×List Rw} {B0:Sq (List Rw)} (hw:wt (e0 :: B0)≤50000) (hB:∀ s∈B0.map (·.1),s∈aa) (q:Φ (ax (bH Jr (e0 :: B0))) σ):
  TC b (n + 1) none (.ref 1181) [.fl (fF (e0 :: B0)),.fl (eO (e0 :: B0)),zg] σ Φ Ψ:=by
 refine z0 fun ap ha=>?_
 have hc:(σ.upd ap (.cell (some zg))) ap=some (.cell (some zg)):=AH.a9 ..
 have sub:cF b.c (σ.upd ap (.cell (some zg))) σ:=cF.drop fun b o hb=>by rw [AH.a8 _ _ fun e=>by rw [e,ha] at hb; cases hb]; exact hb
 generalize σ.upd ap (.cell (some zg))=σ₁ at hc sub
 refine Bk (F7 (m:=10) (by decide) (by decide) (by decide) (R5 σ₁ e0 B0) (.mk rfl rfl hw hB) ?_ ?_)
 ·rintro k r τ hk ⟨hm,f1,f2,f3⟩
  rename_i m e B p o l r' at_
  obtain ⟨m,rfl,hm2⟩:=Bg ((Nat.add_comm _ _).trans hm) hk
  have ep:(11:Int) - k=(m:Int) + 2:=by omega
  rw [ep]
  refine zN (X:=⟨b,n,none,fun _=>Ψ⟩) hc f3 f2 fun o' l' r'' at_'=>?_
  obtain ⟨l2,B2,e2⟩:=lZ (J:=Jr) (p:=(m:Int) + 2) (Y:=B) (e:=e)
  have g3:=H3 (J:=Jr) (p:=(m:Int) + 2) (B:=B) (e:=e)
  have g2:=Dw (p:=(m:Int) + 2) (B:=B) (e:=e)
  rw [vH] at f1
  change iO Jr m (pf Jr ((m:Int) + 2) e B)=_ at f1
  rw [e2] at f1 g2 g3 ⊢
  exact .mk (e:=(e.1,l2)) ((Nat.add_comm _ _).trans hm2) f1 (by rw [g2]; exact f2) fun s hs=>f3 s (g3 s hs)
 rintro r τ ⟨hm,f1,f2,f3⟩
 rename_i m e B p o l r' at_
 obtain rfl:m=0:=Nat.add_eq_left.mp hm
 have f4:bH Jr (e0 :: B0)=EV ((e :: B).map fun e=>e.2):=by
  unfold bH
  rw [← f1]
  exact qU
 rw [f4] at q
 have e5:fF (e :: B)=((e :: B).map fun e=>e.2).map ax:=by rw [List.map_map]; rfl
 rw [e5]
 exact CI (List.cons_ne_nil _ _) (by rw [jj]; simp) (by rw [B7]; exact f2) sub q
end
theorem rD {xs:List V} {a:Nat} (m:Nat):((List.range m).map (a + ·)).filterMap (xs[·]?)=(xs.drop a).take m:=by
 induction m with
 | zero=>rfl
 | succ m ih=>
  rw [List.range_succ,List.map_append,List.filterMap_append,ih,List.take_add_one,List.getElem?_drop]; rfl
theorem clip {n f:Nat}:clipAt n f=min f n:=by
 unfold clipAt
 rw [if_neg (Int.not_lt.mpr (Int.natCast_nonneg f))]
 rcases Nat.le_total f n with h | h
 ·rw [Nat.min_eq_left h,Int.min_eq_left (Int.ofNat_le.mpr h),Int.max_eq_right (Int.natCast_nonneg f)]; rfl
 ·rw [Nat.min_eq_right h,Int.min_eq_right (Int.ofNat_le.mpr h),Int.max_eq_right (Int.natCast_nonneg n)]; rfl
theorem pick_from {xs:List V} {f:Nat} (h:f≤xs.length):jB xs (some f) none none=xs.drop f:=by
 unfold jB
 rw [sliceBounds_plain]
 show (sliceRange ((clipAt xs.length (f:Int):Nat):Int) ((xs.length:Nat):Int) 1).filterMap _=_
 rw [clip,Nat.min_eq_left h,sliceRange_one,rD,← List.length_drop,List.take_length]
theorem o8 {xs:List V} {f:Nat}:jB xs none (some f) none=xs.take f:=by
 unfold jB
 rw [sliceBounds_plain]
 show (sliceRange ((0:Nat):Int) ((clipAt xs.length (f:Int):Nat):Int) 1).filterMap _=_
 rw [clip,sliceRange_one,rD,List.take_eq_take_min (i:=f)]; rfl
def Ir (k:Int) (a b:List Rw):List Rw:=⟨k,.str "", 2⟩ :: a ++ b
theorem Ks (k:Int) (a b:List Rw):(Ir k a b).length=a.length + b.length + 1:=by simp [Ir]
def dQ (op:Str) (it:List Rw):Lk (List Rw):=if op = "is" then .ty 25 it else if op = "as" then .ty 26 it else .op op it
theorem AM {B:Sq (List Rw)} {a:List Rw}:(eN Jr a B).length + 1=wt (("", a) :: B):=by
 induction B generalizing a with
 | nil=>rfl
 | cons p B ih=>
  have:=ih (a:=p.2)
  rw [aW] at this
  rw [aW,aW,show eN Jr a (p :: B)=Jr "??" a (eN Jr p.2 B) from rfl,vK]
  dsimp only at this ⊢; clear ih; omega
theorem G4 (k:Nat) (e:Str×List Rw) (B:Sq (List Rw)):∃ e' B',iO Jr k (e :: B)=e' :: B'∧wt (e' :: B')=wt (e :: B):=by
 induction k generalizing e B with
 | zero=>exact ⟨e,B,rfl,rfl⟩
 | succ k ih=>
  obtain ⟨l',Y',h⟩:=lZ (J:=Jr) (p:=(k:Int) + 2) (Y:=B) (e:=e)
  have hw:=Dw (p:=(k:Int) + 2) (B:=B) (e:=e)
  rw [h] at hw
  obtain ⟨e',B',h1,h2⟩:=ih (e.1,l') Y'
  exact ⟨e',B',(congrArg (iO Jr k) h).trans h1,h2.trans hw⟩
theorem rW (e:Str×List Rw) (B:Sq (List Rw)):(bH Jr (e :: B)).length + 1=wt (e :: B):=by
 obtain ⟨e',B',h1,h2⟩:=G4 10 e B
 unfold bH
 rw [h1]
 show (eN Jr e'.2 B').length + 1=_
 rw [AM,← h2]; rfl
theorem gx (X:Sq (List Rw)) (f:Nat):wt (X.take f) + wt (X.drop f)=wt X:=by
 rw [← jM,List.take_append_drop]
def Bn:Lk (List Rw)→Nat
 | .op _ v=>v.length + 1
 | .ty _ v=>v.length + 1
theorem wV (op:Str) (it:List Rw):Bn (dQ op it)=it.length + 1:=by
 unfold dQ
 split
 ·rfl
 ·split <;> rfl
theorem yQ {X:Sq (List Rw)} (h:X≠[]) (x:Lk (List Rw)):wt (bc Jr Ir X x)=wt X + Bn x:=by
 cases x with
 | op w v=>show wt (X ++ [(w,v)])=_; rw [jM]; rfl
 | ty k v=>
  have hl:=fR h
  have h1:=gx X (ag X)
  rw [bc,jM]
  have h2:X.drop (ag X)=X[ag X] :: X.drop (ag X + 1):=List.drop_eq_getElem_cons hl
  have h3:=rW X[ag X] (X.drop (ag X + 1))
  rw [← h2] at h3
  rw [aW,jI,Ks]
  show _=_ + (v.length + 1)
  omega
theorem Gx (X:Sq (List Rw)) (f:Nat):(fF X).drop f=fF (X.drop f):=by simp [fF]
theorem DS (X:Sq (List Rw)) (f:Nat):(fF X).take f=fF (X.take f):=by simp [fF]
theorem EW (X:Sq (List Rw)) (f:Nat):(eO X).drop f=eO (X.drop f):=by
 simp only [eO,List.tail_drop,← List.map_drop]
 rw [← List.drop_one,List.drop_drop,Nat.add_comm]
theorem Gp {X:Sq (List Rw)} {f:Nat} (h:f < X.length) (w:List Rw):(eO X).take f=eO (X.take f ++ [((X.map (·.1)).getD f ("" : Str),w)]):=by
 rw [bL h]
 cases f with
 | zero=>rfl
 | succ f=>
  match X,h with
  | x :: X,h=>
   have h2:f < X.length:=by simpa using h
   simp only [eO,List.tail_cons,List.take_succ_cons,List.cons_append,List.getElem_cons_succ,List.map_append,List.map_cons,List.map_nil,List.map_take]
   rw [List.take_succ_eq_append_getElem (by simpa using h2)]
   simp
def c7 (X:Sq (List Rw)):List V:=(((List.range (X.length - 1)).filter fun k=>decide (pw ((X.map (·.1)).getD (k + 1) ("" : Str)) < 8)).map fun k:Nat=>V.int ((k:Int) + 1))
theorem Hs {X:Sq (List Rw)} {k:Nat} (h:k + 1 < X.length):(eO X)[k]?=some (.str ((X.map (·.1)).getD (k + 1) ("" : Str))):=by
 rw [bL h]
 match X,h with
 | x :: X,h=>
  have h2:k < X.length:=by simpa using h
  simp only [eO,List.tail_cons,List.getElem?_map,List.getElem_cons_succ]
  rw [List.getElem?_eq_getElem h2]; rfl
theorem rp (X:Sq (List Rw)):(c7 X).getLast?.getD (.int 0)=.int (ag X):=by
 unfold c7 ag
 generalize (List.range (X.length - 1)).filter _=L
 rw [List.getLast?_map,List.getLast?_map]
 cases L.getLast? with
 | none=>rfl
 | some k=>show V.int _=V.int _; congr 1
theorem Cv {X:Sq (List Rw)} (h:0 < (c7 X).length):c7 X=(c7 X).dropLast ++ [.int (ag X)]:=by
 have hne:c7 X≠[]:=List.length_pos_iff.mp h
 have h1:=rp X
 rw [List.getLast?_eq_some_getLast hne] at h1
 have h2:(c7 X).getLast hne=.int (ag X):=h1
 rw [← h2,List.dropLast_concat_getLast]
theorem BN {X:Sq (List Rw)} (h:¬ 0 < (c7 X).length):(ag X:Int)=0:=by
 have hne:c7 X=[]:=List.length_eq_zero_iff.mp (by omega)
 have h1:=rp X
 rw [hne] at h1
 have h2:V.int 0=.int (ag X):=h1
 injection h2 with h3
 exact h3.symm
theorem Fy (X:Sq (List Rw)):(c7 X).length≤X.length:=by
 unfold c7
 rw [List.length_map]
 have:=List.length_filter_le (fun k=>decide (pw ((X.map (·.1)).getD (k + 1) ("" : Str)) < 8)) (List.range (X.length - 1))
 rw [List.length_range] at this; exact Nat.le_trans this (Nat.sub_le _ _)
theorem Dh {α:Type} [Inhabited α] {J:Str→α→α→α} {I:Int→α→α→α} {Q:Str→Prop} {X:Sq α} {x:Lk α} (hne:X≠[]) (hX:∀ s∈X.tail.map (·.1),Q s) (hx:∀ w v,x=.op w v→Q w):bc J I X x≠[]∧∀ s∈(bc J I X x).tail.map (·.1),Q s:=by
 match X,hne with
 | e :: M,_=>
  cases x with
  | op w v=>
   refine ⟨by simp [bc],fun s hs=>?_⟩
   have hs':s∈(M ++ [(w,v)]).map (·.1):=hs
   rw [List.map_append,List.mem_append] at hs'
   rcases hs' with hs | hs
   ·exact hX s hs
   ·have:s=w:=by simpa using hs
    rw [this]; exact hx w v rfl
  | ty k v=>
   have hl:=fR (X:=e :: M) (by simp)
   rw [bc]
   generalize ag (e :: M)=f at hl ⊢
   cases f with
   | zero=>exact ⟨by simp,fun s hs=>nomatch hs⟩
   | succ f=>
    refine ⟨by simp,fun s hs=>?_⟩
    have hs':s∈(M.take f ++ [(((e :: M).map (·.1)).getD (f + 1) ("" : Str),I k (bH J ((e :: M).drop (f + 1))) v)]).map (·.1):=hs
    rw [List.map_append,List.mem_append] at hs'
    rcases hs' with hs | hs
    ·exact hX s ((List.map_subset _ (List.take_subset _ _)) hs)
    ·have h2:f < M.length:=by simpa using hl
     have:s=(M[f]).1:=by
      rw [List.map_cons,List.map_nil,List.mem_singleton] at hs
      rw [hs]
      show ((e :: M).map (·.1)).getD (f + 1) ("" : Str)=_
      rw [bL (by simpa using h2)]; rfl
     rw [this]; exact hX _ (List.mem_map_of_mem (List.getElem_mem h2))
theorem Ia {op w:Str} {it v:List Rw} (h:dQ op it=.op w v):w=op:=by
 unfold dQ at h
 split at h
 ·cases h
 ·split at h
  ·cases h
  ·injection h with h1 h2; exact h1.symm
abbrev treeOf (a0:List Rw) (ops:List Str) (rs:List (List Rw)):Sq (List Rw):=(List.zipWith dQ ops rs).foldl (bc Jr Ir) [(("" : Str),a0)]
abbrev jH (I O:V) (l a s f w:Option V):Fm:=[some I,some O,l,a,s,f,w]
structure TB (σ:AH) (ah ap lh:Addr) (β:AH):Prop where
 h:β ah=some (.cell (some (.ref lh)))
 p:β ap=some (.cell (some zg))
 sub:∀ b o,σ b=some o→β b=some o
abbrev sq (lh la:Addr) (X:Sq (List Rw)):List (Addr×List V):=[(lh,eO X),(la,fF X)]
section
variable {b:Bs} {n:Nat} {hd:Option Addr} {σ τ β:AH} {Φ:Pv} {Ψ:Addr→AH→Prop} {X:XX} {r:Fm} {v w:V} {Θ:Ph} {l l' A B:List (Addr×List V)} {a:Addr} {xs ys:List V} {i j:Int} {s:Str} {k:Nat} {la lr ap ah lh:Addr} {body rest:TS} {Y:Fm→Addr→AH→Prop}
theorem HO (I:ec σ v xs) (J:ec σ w ys) (hl:xs.length + ys.length≤100000) (q:∀ a,σ a=none→Φ (.ref a) (σ.upd a (.list (xs ++ ys)))):Lg v w σ Φ:=by
 unfold Lg; exact ⟨_,_,I,J,hl,.ref q⟩
theorem xJ {c:Cx} {f:Nat} (I:ec σ v xs) (hf:f≤xs.length) (hl:xs.length≤100000) (q:Φ (.fl (xs.drop f)) σ):J9 v (some (f:Int)) none none σ (GV c Φ):=
 .inl ⟨xs,I,by simp,hl,fun a ha=>⟨_,_,b7.fl (AH.a9 ..),by rw [AH.dw ha,pick_from hf]; exact q⟩⟩
theorem EN {c:Cx} {f:Nat} (I:ec σ v xs) (hf:f≤xs.length) (hl:xs.length≤100000) (q:Φ (.fl (xs.take f)) σ):J9 v none (some (f:Int)) none σ (GV c Φ):=
 .inl ⟨xs,I,by simp,hl,fun a ha=>⟨_,_,b7.fl (AH.a9 ..),by rw [AH.dw ha,o8]; exact q⟩⟩
theorem Jb {f:Nat} (I:ec σ v xs) (hf:f≤xs.length) (hl:xs.length≤100000) (q:∀ a,σ a=none→Φ (.ref a) (σ.upd a (.list (xs.take f)))):J9 v none (some (f:Int)) none σ Φ:=
 .inl ⟨xs,I,by simp,hl,fun a ha=>by rw [o8]; exact q a ha⟩
theorem LN.front (h:LN σ (A ++ B)):LN (lay σ B) A:=by
 have nd:=h.nd
 rw [List.map_append,List.nodup_append] at nd
 refine ⟨nd.1,fun p hp=>?_⟩
 rw [mf fun hm=>nd.2.2 _ (List.mem_map_of_mem hp) _ hm rfl]
 exact h.fr p (List.mem_append_left _ hp)
theorem LN.back (h:LN σ (A ++ B)):LN σ B:=by
 have nd:=h.nd
 rw [List.map_append,List.nodup_append] at nd
 exact ⟨nd.2.1,fun p hp=>h.fr p (List.mem_append_right _ hp)⟩
theorem CU:GE (FT ah ap) d6 (Qx Bf) (xC (.type "range") (a1 (xC (.builtin "len") (a1 (CS ah) a0)) a0)):=by
 have hc:(cE ⟨FT ah ap,d6,[],[],[],[]⟩ 40 (Qx Bf)).map (·.1)=some (xC (.type "range") (a1 (xC (.builtin "len") (a1 (CS ah) a0)) a0)):=by kernel_rfl
 obtain ⟨t,e,e2⟩:=Option.map_eq_some_iff.mp hc
 rw [← e2]; exact t.2
def P7:V→V
 | .int i=>.int (i + 1)
 | _=>.none
def P2 (X:Sq (List Rw)):V→Bool
 | .int i=>decide (pw ((X.map (·.1)).getD (i.toNat + 1) ("" : Str)) < 8)
 | _=>false
theorem He (X:Sq (List Rw)):(((List.range (X.length - 1)).map fun k:Nat=>V.int k).filter (P2 X)).map P7=c7 X:=by
 unfold c7
 rw [List.filter_map,List.map_map]
 rfl
theorem Du {Q:Sq (List Rw)} (T:TB σ ah ap lh β) (N:LN β (sq lh la Q)) (hX:∀ s∈Q.tail.map (·.1),s∈aa) (hw:wt Q≤50000) {I O:V} {l a s f w:Option V}
  (h:∀ ls,(lay β (sq lh la Q)) ls=none→rest ⟨b,n,none,Y⟩ (jH I O l a (some (.ref ls)) f w) ((lay β (sq lh la Q)).upd ls (.list (c7 Q))) Θ):
  MI (FT ah ap) d6 Bf rest ⟨b,n,none,Y⟩ (jH I O l a s f w) (lay β (sq lh la Q)) Θ:=by
 have hl:=gm Q
 have hlp:List.lookup ("powers" : Str) [(("powers" : Str),ap),("held", ah)]=some ap:=rfl
 have hlk:List.lookup ("held" : Str) [(("powers" : Str),ap),("held", ah)]=some ah:=by kernel_rfl
 refine HG (fn:=FT ah ap) (cl:=[("powers", ap),("held", ah)]) (fun L=>by kernel_rfl) (by decide +kernel) rfl (by decide +kernel) rfl (fun L=>by kernel_rfl) ?_ fun _ _=>rfl
 refine CU.re ⟨b,n,none,Y⟩ _ _ _ rfl (Ji (N.sub T.h) (cD (xs:=eO Q) (.ref (N.get .head)) (vp hw (by decide)) ?_))
 rw [jj]
 refine fg ⟨Q.length - 1,P7,P2 Q,rfl,Nat.le_trans (Nat.sub_le _ _) (Nat.le_trans (gm Q) (Nat.le_trans hw (by decide))),fun k hk=>?_,fun k hk=>?_,fun ls hls=>⟨_,.tail (.tail (.tail (.tail .head))),jH I O l a (some (.ref ls)) f w,rfl,rfl,?_⟩⟩
 ·have hlt:k + 1 < Q.length:=Nat.add_lt_of_lt_sub hk
  have hm:(Q.map (·.1)).getD (k + 1) ("" : Str)∈aa:=by
   rw [bL hlt]
   refine hX _ ?_
   rw [← List.drop_one]
   exact List.mem_map_of_mem (List.mem_drop_iff_getElem.mpr ⟨k,hlt,by congr 1; exact Nat.add_comm 1 k⟩)
  exact Kh (yL (vh hlp (N.sub T.p) rfl (fun C L=>rfl)) .aH (zl (vh hlk (N.sub T.h) rfl (fun C L=>rfl)) (.ref (N.get .head)) (uV rfl rfl) (fun o i=>⟨_,rfl⟩) (vp hw (by decide)) (Hs hlt)) (fun o i=>⟨_,rfl⟩) (ur hm)) AN (by with_unfolding_all rfl)
 ·exact Ml (uV rfl rfl) AN
 ·have:=h ls hls
  rw [← He] at this
  exact this
end
section
variable {b:Bs} {n:Nat} {hd:Option Addr} {σ τ β:AH} {Φ:Pv} {Ψ:Addr→AH→Prop} {X:XX} {r:Fm} {v w:V} {Θ:Ph} {l l' A B:List (Addr×List V)} {a:Addr} {xs ys:List V} {i j:Int} {s:Str} {k:Nat} {la lr ap ah lh:Addr} {body rest:TS} {Y:Fm→Addr→AH→Prop}
theorem TB.on {β':AH} (T:TB σ ah ap lh β) (h:∀ b o,β b=some o→β' b=some o):TB σ ah ap lh β':=⟨h _ _ T.h,h _ _ T.p,fun b o hb=>h b o (T.sub b o hb)⟩
theorem TB.set {lh':Addr} (T:TB σ ah ap lh β) (hne:ah≠ap) (ha:σ ah=none):TB σ ah ap lh' (β.upd ah (.cell (some (.ref lh')))):=
 ⟨AH.a9 ..,by rw [AH.a8 _ _ hne.symm]; exact T.p,fun b o hb=>by rw [AH.a8 _ _ fun e=>by rw [e,ha] at hb; cases hb]; exact T.sub b o hb⟩
structure TN (Q:Sq (List Rw)) (it:List Rw):Prop where
 lI:(fF Q).length≤100000
 lO:(eO Q).length≤100000
 wI:ag Q≤(fF Q).length
 wO:ag Q≤(eO Q).length
 f:(bH Jr (Q.drop (ag Q))).length + it.length≤50000
 s:(c7 Q).length≤50000
 w:wt Q≤50000
theorem TN.of {Q:Sq (List Rw)} {it:List Rw} (hQ:Q≠[]) (hw:wt Q + it.length + 1≤50000):TN Q it:=by
 have hl:=gm Q
 have hlow:=fR hQ
 have hw1:=Nat.le_of_add_right_le (Nat.le_of_add_right_le hw)
 have h1:=Nat.le_trans hl hw1
 have hf:(bH Jr (Q.drop (ag Q))).length + 1≤wt Q:=by
  have hd:Q.drop (ag Q)=Q[ag Q] :: Q.drop (ag Q + 1):=List.drop_eq_getElem_cons hlow
  have hfl:=rW Q[ag Q] (Q.drop (ag Q + 1))
  rw [← hd] at hfl
  rw [hfl,← gx Q (ag Q)]; exact Nat.le_add_left _ _
 refine ⟨?_,?_,?_,?_,Nat.le_trans (Nat.add_le_add_right (Nat.le_of_succ_le hf) _) (Nat.le_of_add_right_le hw),Nat.le_trans (Fy Q) h1,hw1⟩
 ·rw [lV]; exact Nat.le_trans h1 (by decide)
 ·rw [jj]; exact Nat.le_trans (Nat.sub_le _ _) (Nat.le_trans h1 (by decide))
 ·rw [lV]; exact Nat.le_of_lt hlow
 ·rw [jj]; exact Nat.le_sub_one_of_lt hlow
theorem NV {a:Nat} (h:a≤50000):a≤100000:=Nat.le_trans h (by decide)
theorem EZ {a:Nat} (h:a≤50000):1 + a≤100000:=Nat.le_trans (Nat.add_le_add_left h 1) (by decide)
theorem H4 {Q:Sq (List Rw)} {a7:List (List Rw)} {ops:List Str} {op:Str} {it:List Rw} {s f w:Option V} {q:Int} (hop:(ops.map V.str)[k]?=some (.str op)) (hit:(a7.map ax)[k + 1]?=some (ax it)) (hq:q=if op = "is" then 25 else 26) (T:TB σ ah ap lh β) (hne:ah≠ap) (ha:σ ah=none) (N:LN β (sq lh la Q)) (hQ:Q≠[]) (hX:∀ s∈Q.tail.map (·.1),s∈aa)
  (hw:wt Q + it.length + 1≤50000) (hl1:a7.length≤1000) (hl2:ops.length≤1000)
  (h:∀ β' lh' la' s f w,TB σ ah ap lh' β'→LN β' (sq lh' la' (bc Jr Ir Q (.ty q it)))→Θ .next (jH (.fl (a7.map ax)) (.fl (ops.map .str)) (some (.ref la')) (some (.int k)) s f w) (lay β' (sq lh' la' (bc Jr Ir Q (.ty q it))))):
  ir ah ap
   ⟨b,n + 1,none,Y⟩ (jH (.fl (a7.map ax)) (.fl (ops.map .str)) (some (.ref la)) (some (.int k)) s f w) (lay β (sq lh la Q)) Θ:=by
 have TT:=TN.of hQ hw
 have hlow:=fR hQ
 have hd:Q.drop (ag Q)=Q[ag Q] :: Q.drop (ag Q + 1):=List.drop_eq_getElem_cons hlow
 have hwd:wt (Q.drop (ag Q))≤50000:=Nat.le_trans (by rw [← gx Q (ag Q)]; exact Nat.le_add_left _ _) TT.w
 have hop1:ops.length≤1000000:=by omega
 have hop2:(ops.map V.str).length≤1000000:=by rw [List.length_map]; exact hop1
 have hit2:(a7.map ax).length≤1000000:=by rw [List.length_map]; omega
 refine Du T N hX TT.w fun ls hls=>?_
 have N1:=N.new (xs:=c7 Q) hls
 change ip ah ap _ _ (lay β ((ls,c7 Q) :: sq lh la Q)) _
 have go:ik ah ap
   ⟨b,n + 1,none,Y⟩ (jH (.fl (a7.map ax)) (.fl (ops.map .str)) (some (.ref la)) (some (.int k)) (some (.ref ls)) (some (.int (ag Q))) w) (lay β ((ls,c7 Q) :: sq lh la Q)) Θ:=by
  have gl:ec (lay β ((ls,c7 Q) :: sq lh la Q)) (.ref la) (fF Q):=.ref (N1.get (.tail (.tail .head)))
  have gh:ec (lay β ((ls,c7 Q) :: sq lh la Q)) (.ref lh) (eO Q):=.ref (N1.get (.tail .head))
  have fo:∀ {Φ:Pv} {Ψ:Addr→AH→Prop} {τ:AH},Φ (ax (bH Jr (Q.drop (ag Q)))) τ→TC b (n + 1) none (.ref 1181) [.fl ((fF Q).drop (ag Q)),.fl ((eO Q).drop (ag Q)),zg] τ Φ Ψ:=fun {Φ Ψ τ} h=>by
   rw [Gx,EW]
   rw [hd] at h ⊢
   exact oX (by rw [← hd]; exact hwd) (fun s hs=>hX s (by
    rw [← List.drop_one]
    rw [Nat.add_comm,← List.drop_drop] at hs
    obtain ⟨x,hx,rfl⟩:=List.mem_map.mp hs
    exact List.mem_map_of_mem (List.mem_of_mem_drop hx))) h
  have e1:(fF Q).take (ag Q) ++ [ax (Ir q (bH Jr (Q.drop (ag Q))) it)]=fF (bc Jr Ir Q (.ty q it)):=by rw [bc,fU,DS]
  have e2:(eO Q).take (ag Q)=eO (bc Jr Ir Q (.ty q it)):=by rw [bc]; exact Gp hlow _
  have e3:[V.tup [.int q,.str "", .int 2]] ++ (bH Jr (Q.drop (ag Q))).map Rw.v ++ it.map Rw.v=(Ir q (bH Jr (Q.drop (ag Q))) it).map Rw.v:=by simp [Ir,Rw.v]
  generalize bc Jr Ir Q (.ty q it)=Q' at h e1 e2
  have hset:a1 (xK (.int q)) (a1 (xK (.str "")) (a1 (xK (.int 2)) a0)) ⟨b,n + 1,none,Y⟩ (jH (.fl (a7.map ax)) (.fl (ops.map .str)) (some (.ref la)) (some (.int k)) (some (.ref ls)) (some (.int (ag Q))) (some (ax (bH Jr (Q.drop (ag Q)))))) (lay β ((ls,c7 Q) :: sq lh la Q)) (Rp (QL a0 ⟨b,n + 1,none,Y⟩ (jH (.fl (a7.map ax)) (.fl (ops.map .str)) (some (.ref la)) (some (.int k)) (some (.ref ls)) (some (.int (ag Q))) (some (ax (bH Jr (Q.drop (ag Q)))))) (QQ (Qc .Add (xL 6) ⟨b,n + 1,none,Y⟩ (jH (.fl (a7.map ax)) (.fl (ops.map .str)) (some (.ref la)) (some (.int k)) (some (.ref ls)) (some (.int (ag Q))) (some (ax (bH Jr (Q.drop (ag Q)))))) (Qc .Add (xS (xL 0) (xB .Add (xL 3) (xK (.int 1)))) ⟨b,n + 1,none,Y⟩ (jH (.fl (a7.map ax)) (.fl (ops.map .str)) (some (.ref la)) (some (.int k)) (some (.ref ls)) (some (.int (ag Q))) (some (ax (bH Jr (Q.drop (ag Q)))))) (QL a0 ⟨b,n + 1,none,Y⟩ (jH (.fl (a7.map ax)) (.fl (ops.map .str)) (some (.ref la)) (some (.int k)) (some (.ref ls)) (some (.int (ag Q))) (some (ax (bH Jr (Q.drop (ag Q)))))) (QQ (Ru .Add (.fl ((fF Q).take (ag Q))) (MU 2 (ME ah (Ge (CS ah) none (some (xL 5)) none) bN) ⟨b,n + 1,none,Y⟩ (jH (.fl (a7.map ax)) (.fl (ops.map .str)) (some (.ref la)) (some (.int k)) (some (.ref ls)) (some (.int (ag Q))) (some (ax (bH Jr (Q.drop (ag Q)))))) Θ))))))))):=by
   refine gC .fl .fl (by rw [List.length_map]; exact EZ (Nat.le_trans (Nat.le_add_right _ _) TT.f)) (fN rfl hit hit2 (gC .fl .fl (by rw [List.length_append,List.length_map,List.length_map,List.length_singleton,Nat.add_assoc]; exact EZ TT.f) ?_))
   rw [e3]
   refine HO .fl .fl (by rw [List.length_take,List.length_singleton]; exact Nat.le_trans (Nat.add_le_add_right (Nat.le_trans (Nat.min_le_left _ _) (Nat.le_trans TT.wI (lV Q ▸ Nat.le_trans (gm Q) TT.w))) 1) (by decide)) fun la' h1=>?_
   rw [e1]
   have N2:=N1.new (xs:=fF Q') h1
   refine Ji (N2.sub T.h) (Jb (.ref (N2.get (.tail (.tail .head)))) TT.wO TT.lO fun lh' h2=>?_)
   rw [e2]
   have N3:=N2.new (xs:=eO Q') h2
   obtain ⟨b1,N4⟩:=N3.base (o':=.cell (some (.ref lh'))) T.h
   refine Qj (N3.sub T.h) ?_
   have N5:LN _ (sq lh' la' Q' ++ ((ls,c7 Q) :: sq lh la Q)):=N4
   have:=h _ lh' la' (some (.ref ls)) (some (.int (ag Q))) (some (ax (bH Jr (Q.drop (ag Q))))) ((T.set hne ha).on fun b o hb=>N5.back.sub hb) N5.front
   change Θ .next _ ((lay β ((lh',eO Q') :: (la',fF Q') :: (ls,c7 Q) :: sq lh la Q)).upd ah _)
   rw [b1]; exact this
  refine ⟨_,_,b7.refl _ _,xJ gl TT.wI TT.lI (Ji (N1.sub T.h) ⟨_,_,b7.refl _ _,xJ gh TT.wO TT.lO (Ji (N1.sub T.p) (fo ⟨_,_,b7.refl _ _,EN gl TT.wI TT.lI (fN rfl hop hop2 (ay (fun h4=>?_) fun h4=>?_))⟩))⟩)⟩
  ·rw [if_pos (eq_of_beq h4)] at hq; subst hq; exact hset
  ·rw [if_neg (ne_of_beq_false h4)] at hq; subst hq; exact hset
 refine cD (.ref (N1.get .head)) (Nat.le_trans TT.s (by decide)) (ay (fun hg=>?_) fun hg=>?_)
 ·have hg':=of_decide_eq_true hg
  refine zG (v:=.ref ls) (xs:=(c7 Q).dropLast) (w:=.int (ag Q)) ?_ (fun _ e=>by cases e) (by rw [List.length_dropLast]; exact Nat.le_trans (Nat.sub_le _ _) (NV TT.s)) go
  rw [← Cv (Int.ofNat_lt.mp hg')]; exact .ref (N1.get .head)
 ·have:=BN (X:=Q) fun h=>of_decide_eq_false hg (Int.ofNat_lt.mpr h)
  rw [this] at go; exact go
theorem D7 {Q:Sq (List Rw)} {a7:List (List Rw)} {ops:List Str} {op:Str} {it:List Rw} {s f w:Option V} (hops:ops[k]?=some op) (hits:a7[k + 1]?=some it) (T:TB σ ah ap lh β) (hne:ah≠ap) (ha:σ ah=none) (N:LN β (sq lh la Q)) (hQ:Q≠[]) (hX:∀ s∈Q.tail.map (·.1),s∈aa)
  (hw:wt Q + it.length + 1≤50000) (hl1:a7.length≤1000) (hl2:ops.length≤1000)
  (h:∀ β' lh' la' s f w,TB σ ah ap lh' β'→LN β' (sq lh' la' (bc Jr Ir Q (dQ op it)))→Θ .next (jH (.fl (a7.map ax)) (.fl (ops.map .str)) (some (.ref la')) (some (.int k)) s f w) (lay β' (sq lh' la' (bc Jr Ir Q (dQ op it))))):
  iI ah ap ⟨b,n + 1,none,Y⟩ (jH (.fl (a7.map ax)) (.fl (ops.map .str)) (some (.ref la)) (some (.int k)) s f w) (lay β (sq lh la Q)) Θ:=by
 have hl:=gm Q
 have hop:(ops.map V.str)[k]?=some (.str op):=by rw [List.getElem?_map,hops]; rfl
 have hit:(a7.map ax)[k + 1]?=some (ax it):=by rw [List.getElem?_map,hits]; rfl
 have hop2:(ops.map V.str).length≤1000000:=by rw [List.length_map]; omega
 have hit2:(a7.map ax).length≤1000000:=by rw [List.length_map]; omega
 refine fN rfl hop hop2 (eP (.sst (ks:=["is", "as"]) rfl) (ay (fun hi=>?_) fun hi=>?_))
 ·have hkk:dQ op it=.ty (if op = "is" then 25 else 26) it:=by
   unfold dQ
   by_cases h1:op = "is"
   ·rw [if_pos h1,if_pos h1]
   ·have h2:op = "as" := by
     rcases List.mem_cons.mp (of_decide_eq_true hi) with e | e
     ·exact absurd e h1
     ·exact List.mem_singleton.mp e
    rw [if_neg h1,if_neg h1,if_pos h2]
  rw [hkk] at h
  exact H4 hop hit rfl T hne ha N hQ hX hw hl1 hl2 h
 ·have hi':=of_decide_eq_false hi
  have hkk:dQ op it=.op op it:=by
   unfold dQ
   rw [if_neg (show ¬ op = "is" from fun e=>hi' (e ▸ .head _)),if_neg (show ¬ op = "as" from fun e=>hi' (e ▸ .tail _ (.head _)))]
  rw [hkk] at h
  refine bz N (.tail .head) (Ae (Nat.le_of_add_right_le (Nat.le_of_add_right_le hw)) (by decide)) (fun _ h=>fN rfl hit hit2 h) fun N2=>Ji (N2.sub T.h) (bz N2 .head (vp (Nat.le_of_add_right_le (Nat.le_of_add_right_le hw)) (by decide)) (fun _ h=>fN rfl hop hop2 h) fun N3=>?_)
  have e1:fF Q ++ [ax it]=fF (bc Jr Ir Q (.op op it)):=(fU Q (op,it)).symm
  have e2:eO Q ++ [.str op]=eO (bc Jr Ir Q (.op op it)):=(yT (X:=Q) hQ (op,it)).symm
  rw [e1,e2] at N3 ⊢
  exact h β lh la _ _ _ T N3
inductive TI (σ:AH) (ah ap:Addr) (a0:List Rw) (rs:List (List Rw)) (ops:List Str) (k:Nat):Fm→AH→Prop
 | mk {β:AH} {la lh:Addr} {at_ s f w:Option V} {Q:Sq (List Rw)}:Q=((List.zipWith dQ ops rs).take k).foldl (bc Jr Ir) [(("" : Str),a0)]→TB σ ah ap lh β→LN β (sq lh la Q)→Q≠[]→(∀ s∈Q.tail.map (·.1),s∈aa)→wt Q + fp (rs.drop k)≤50000→
  TI σ ah ap a0 rs ops k (jH (.fl ((a0 :: rs).map ax)) (.fl (ops.map .str)) (some (.ref la)) at_ s f w) (lay β (sq lh la Q))
theorem yg {a0:List Rw} {rs:List (List Rw)} {ops:List Str} (hlen:rs.length=ops.length) (hop:∀ o∈ops,o∈aa) (hw:fp (a0 :: rs)≤50000) (hl:ops.length≤900) (q:Φ (ax (bH Jr (treeOf a0 ops rs))) σ):
  TC b (n + 2) none (.ref 1186) [.fl ((a0 :: rs).map ax),.fl (ops.map .str)] σ Φ Ψ:=by
 refine .ent (wX fun ah ap hne ha hap=>sX (Qj (AH.a9 ..) ?_))
 rw [AH.aU]
 have T0:((σ.upd ah (.cell none)).upd ap (.cell (some zg))) ap=some (.cell (some zg)):=AH.a9 ..
 have T1:((σ.upd ah (.cell none)).upd ap (.cell (some zg))) ah=some (.cell none):=by rw [AH.a8 _ _ hne,AH.a9]
 have T2:∀ b o,σ b=some o→((σ.upd ah (.cell none)).upd ap (.cell (some zg))) b=some o:=fun b o hb=>by
  rw [AH.a8 _ _ (fun e=>by rw [e,hap] at hb; cases hb),AH.a8 _ _ (fun e=>by rw [e,ha] at hb; cases hb)]; exact hb
 generalize (σ.upd ah (.cell none)).upd ap (.cell (some zg))=β at T0 T1 T2
 have hll:(a0 :: rs).length=ops.length + 1:=by rw [List.length_cons,hlen]
 have hl3:(a0 :: rs).length≤901:=by rw [hll]; exact Nat.succ_le_succ hl
 refine fN (k:=0) rfl rfl (by rw [List.length_map]; exact Nat.le_trans hl3 (by decide)) fun la h1 lh h2=>Qj (((LN.nil.new h1).new h2).sub T1) ?_
 obtain ⟨b1,N2⟩:=((LN.nil.new (xs:=[ax a0]) h1).new (xs:=[]) h2).base (o':=.cell (some (.ref lh))) T1
 change bF _ _ _ _ _ _ ((lay β [(lh,[]),(la,[ax a0])]).upd ah _) _
 rw [b1]
 have T:TB σ ah ap lh (β.upd ah (.cell (some (.ref lh)))):=⟨AH.a9 ..,by rw [AH.a8 _ _ hne.symm]; exact T0,fun b o hb=>by rw [AH.a8 _ _ fun e=>by rw [e,ha] at hb; cases hb]; exact T2 b o hb⟩
 generalize β.upd ah (.cell (some (.ref lh)))=β' at N2 T
 refine cD (xs:=ops.map .str) .fl (by rw [List.length_map]; omega) ?_
 rw [List.length_map]
 refine fg (gz (N:=ops.length) (by omega) (TI σ ah ap a0 rs ops) (.mk (Q:=[("", a0)]) (by rw [List.take_zero]; rfl) T N2 (List.cons_ne_nil _ _) (fun s hs=>nomatch hs) (by rw [bx] at hw; rw [aW,jI,List.drop_zero]; exact hw)) ?_ ?_)
 ·rintro k r τ hk ⟨hQ,T,N,hne',hX,hwk⟩
  rename_i lh at_ s f w Q
  have hkr:k < rs.length:=by rw [hlen]; exact hk
  have hz:(List.zipWith dQ ops rs).take (k + 1)=(List.zipWith dQ ops rs).take k ++ [dQ ops[k] rs[k]]:=by
   rw [List.take_succ_eq_append_getElem (by rw [List.length_zipWith]; exact Nat.lt_min.mpr ⟨hk,hkr⟩),List.getElem_zipWith]
  rw [List.drop_eq_getElem_cons hkr,bx,← Nat.add_assoc] at hwk
  refine D7 (List.getElem?_eq_getElem hk) ((List.getElem?_cons_succ ..).trans (List.getElem?_eq_getElem hkr)) T hne ha N hne' hX (Nat.le_of_add_right_le hwk) (Nat.le_trans hl3 (by decide)) (Nat.le_trans hl (by decide)) fun β' lh' la' s' f' w' T' N'=>?_
  obtain ⟨m1,m2⟩:=Dh (J:=Jr) (I:=Ir) (Q:=(·∈aa)) (x:=dQ ops[k] rs[k]) hne' hX fun w v e=>by rw [Ia e]; exact hop _ (List.getElem_mem hk)
  exact .mk (by rw [hz,List.foldl_append,← hQ]; rfl) T' N' m1 m2 (by rw [yQ hne',wV]; exact hwk)
 rintro r τ ⟨hQ,T,N,hne',hX,hwk⟩
 rename_i β' la lh at_ s f w Q
 rw [List.take_of_length_le (by rw [List.length_zipWith]; exact Nat.min_le_left _ _)] at hQ
 change Q=treeOf a0 ops rs at hQ
 rw [← hQ] at q
 refine ⟨_,_,N.fl (.tail .head) (.tail .head),?_⟩
 have N3:=(N.del (a:=la) (.tail .head)).2
 refine Ji (N3.sub T.h) ⟨_,_,N3.fl .head .head,Ji T.p ?_⟩
 cases Q with
 | nil=>exact absurd rfl hne'
 | cons e B=>exact oX (Nat.le_of_add_right_le hwk) hX ⟨_,_,(cF.drop T.sub).v,q⟩
end
def ef:List (List Str):=[["+", "*", "==", "&&", "<<", "is", "??", "-", "|", ">=", "%", "as", "||", "^", "<", "/", "!=", "&", ">>", "<=", ">"],["+", "-"],["*", "/", "%"],["==", "!="],[">=", "is", "<", "as", "<=", ">"],["<<", ">>"],["&&", "??", "||"],["+", "*", "-", "<<", "%", "&", "^", "|", "/", ">>"]]
structure Ch where
 pool:List Str
 first:Nat
 step:Nat
 deco:Nat
 mix:Nat
 spot:Nat
 links:Nat
 heads:Nat
 tails:Nat
abbrev dA (op:Str):Prop:=op = "is" ∨ op = "as"
def Ch.HW (C:Ch) (t:Nat):Str:=C.pool.getD ((C.first + C.step * t) % C.pool.length) ""
def Ch.op (C:Ch) (t:Nat):Str:=if t=0 then "" else if t=C.spot∧dA (C.HW t) then "<=" else C.HW t
def Ch.form (C:Ch) (t:Nat):Nat:=if C.deco=1 then (C.mix + 3 * t) % 8 else 8
def Ch.core (C:Ch) (t:Nat):Str:=if C.op t = "<" ∨ (C.form t=3∨(C.form t=8∧(C.mix + t) % 3=0)) then "7" else if C.form t=0 then "(" else "c"
def Ch.pre (C:Ch) (t:Nat):Nat:=max (if C.form t=1 then 1 else if C.deco=2∧C.links < 25 then 2 else 0) (if t=C.spot then C.heads else 0)
def Ch.oS (C:Ch) (t:Nat):Nat:=max (if C.form t=2 then 1 else if C.deco=3∧C.links < 25 then 2 else 0) (if t=C.spot then C.tails else 0)
def Ch.dW (C:Ch) (t:Nat):List Pc:=if dA (C.op t) then [.w "int"] else bO (C.core t) (C.pre t) (C.oS t) ((C.mix + t) % 32)
def Ch.item (C:Ch) (t:Nat):List Rw:=if dA (C.op t) then [⟨40,.str "int", 0⟩] else fA (C.core t) (C.pre t) (C.oS t) ((C.mix + t) % 32)
def Ch.link (C:Ch) (t:Nat):List Pc:=(if t=0 then [] else [.m t,.w (C.op t)]) ++ C.dW t
def Ch.aO (C:Ch) (k:Nat):List Pc:=(List.range k).flatMap C.link
def Ch.a7 (C:Ch) (k:Nat):List (List Rw):=(List.range k).map C.item
def Ch.ops (C:Ch) (k:Nat):List Str:=(List.range k).map fun j=>C.op (j + 1)
def Ch.rows (C:Ch):List Rw:=if C.links < 41 then bH Jr (treeOf (C.item 0) (C.ops C.links) ((List.range C.links).map fun j=>C.item (j + 1))) else []
theorem jg:∀ p∈ef,2≤p.length∧p.length≤21∧∀ o∈p,o∈aa:=by decide +kernel
structure Ch.Ok (C:Ch):Prop where
 pool:C.pool∈ef
 mix:C.mix < 32
 first:C.first < 30
 step:C.step < 30
 deco:C.deco < 4
 spot:C.spot≤C.links
 links:C.links≤44
 heads:C.heads≤44
 tails:C.tails≤44
theorem Ch.Ok.HW {C:Ch} (h:C.Ok) (t:Nat):C.HW t∈aa:=by
 obtain ⟨h1,h2,h3⟩:=jg _ h.pool
 have:(C.first + C.step * t) % C.pool.length < C.pool.length:=Nat.mod_lt _ (by omega)
 unfold Ch.HW
 rw [List.getD_eq_getElem?_getD,List.getElem?_eq_getElem this]
 exact h3 _ (List.getElem_mem this)
theorem Ch.Ok.op {C:Ch} (h:C.Ok) (t:Nat):C.op (t + 1)∈aa:=by
 unfold Ch.op
 rw [if_neg (by omega)]
 split
 ·decide +kernel
 ·exact h.HW _
theorem Ch.Ok.pre {C:Ch} (h:C.Ok) (t:Nat):C.pre t≤44:=by
 have:=h.heads
 unfold Ch.pre
 refine Nat.max_le.mpr ⟨?_,?_⟩
 ·split
  ·omega
  ·split <;> omega
 ·split <;> omega
theorem Ch.Ok.oS {C:Ch} (h:C.Ok) (t:Nat):C.oS t≤44:=by
 have:=h.tails
 unfold Ch.oS
 refine Nat.max_le.mpr ⟨?_,?_⟩
 ·split
  ·omega
  ·split <;> omega
 ·split <;> omega
theorem Ar {core:Str} {heads tails mix:Nat} (hh:heads≤44) (ht:tails≤44):(fA core heads tails mix).length≤300:=by
 have q2:=gL mix heads
 have q4:=(w7 core).2
 have r2:=jL mix tails
 have r3:=kj mix tails
 unfold fA
 simp only [List.length_append,List.length_reverse]; omega
theorem qP {core:Str} {heads tails mix:Nat} (hh:heads≤44) (ht:tails≤44):(bO core heads tails mix).length≤400:=by
 have q2:=gu mix heads
 have q4:=(w7 core).1
 have r2:=k9 mix tails
 unfold bO
 simp only [List.length_append]; omega
theorem Ch.Ok.item {C:Ch} (h:C.Ok) (t:Nat):(C.item t).length≤300:=by
 unfold Ch.item
 split
 ·simp
 ·exact Ar (h.pre t) (h.oS t)
theorem Ch.Ok.dW {C:Ch} (h:C.Ok) (t:Nat):(C.dW t).length≤400:=by
 unfold Ch.dW
 split
 ·simp
 ·exact qP (h.pre t) (h.oS t)
theorem Ch.kQ (C:Ch) (k:Nat):C.aO (k + 1)=C.aO k ++ C.link k:=by
 unfold Ch.aO; rw [List.range_succ,List.flatMap_append]; simp
theorem Ch.so (C:Ch) (k:Nat):C.a7 (k + 1)=C.a7 k ++ [C.item k]:=by
 unfold Ch.a7; rw [List.range_succ,List.map_append]; rfl
theorem Ch.G2 (C:Ch) (k:Nat):C.ops (k + 1)=C.ops k ++ [C.op (k + 1)]:=by
 unfold Ch.ops; rw [List.range_succ,List.map_append]; rfl
theorem Ch.Bt (C:Ch) (k:Nat):(C.a7 k).length=k:=by unfold Ch.a7; simp
theorem Ch.vm (C:Ch) (k:Nat):(C.ops k).length=k:=by unfold Ch.ops; simp
theorem Ch.Ok.gT {C:Ch} (h:C.Ok) (k:Nat):(C.aO k).length≤402 * k:=by
 have:=c9 (f:=C.link) (b:=402) (fun t=>by
  have:=h.dW t
  unfold Ch.link
  split <;> simp <;> omega) (List.range k)
 rwa [List.length_range] at this
theorem Ch.G9 (C:Ch) (k:Nat):C.a7 (k + 1)=C.item 0 :: (List.range k).map fun j=>C.item (j + 1):=by
 unfold Ch.a7
 rw [List.range_succ_eq_map,List.map_cons,List.map_map]; rfl
theorem FY (A B:List (List Rw)):fp (A ++ B)=fp A + fp B:=by simp [fp]
theorem Ch.Ok.fp {C:Ch} (h:C.Ok) (k:Nat):fp (C.a7 k)≤301 * k:=by
 induction k with
 | zero=>exact Nat.le_refl _
 | succ k ih=>
  have h2:=h.item k
  rw [Ch.so,FY,bx,FW]
  clear h; omega
abbrev lF (aw:Addr) (C:Ch) (lp li lo:Addr) (o t f co b bh m r:Option V):Fm:=[some (.ref aw),some (.int C.links),some (.int C.heads),some (.int C.tails),some (.tup (C.pool.map .str)),some (.int C.first),some (.int C.step),some (.int C.deco),some (.int C.mix),some (.int C.spot),some (.ref lp),some (.ref li),some (.ref lo),o,t,f,co,b,bh,m,r]
abbrev zI (lo li lp:Addr) (O:List Str) (I:List (List Rw)) (P:List Pc):List (Addr×List V):=[(lo,O.map .str),(li,I.map ax),(lp,P.map Pc.v)]
def Ch.FA (C:Ch) (t:Nat):Nat:=if C.form t=1 then 1 else if C.deco=2∧C.links < 25 then 2 else 0
def Ch.IP (C:Ch) (t:Nat):Nat:=if C.form t=2 then 1 else if C.deco=3∧C.links < 25 then 2 else 0
section
variable {b:Bs} {n:Nat} {hd:Option Addr} {σ τ β:AH} {Φ:Pv} {Ψ:Addr→AH→Prop} {X:XX} {r:Fm} {v w:V} {Θ:Ph} {l l' A B:List (Addr×List V)} {a:Addr} {xs ys:List V} {i j:Int} {s:Str} {k:Nat} {aw lp li lo:Addr} {body rest:TS} {Y:Fm→Addr→AH→Prop} {C:Ch} {O:List Str} {I:List (List Rw)} {P:List Pc}
theorem mZ {x y:Nat} (h:((x:Int) == (y:Int))=true):x=y:=Int.ofNat.inj (eq_of_beq h)
theorem j3 {x y:Nat} (h:((x:Int) == (y:Int))=false):¬ x=y:=fun e=>ne_of_beq_false h (congrArg Int.ofNat e)
theorem Ch.LB (C:Ch) (t:Nat):C.pre t=if t=C.spot then max (C.FA t) C.heads else C.FA t:=by
 unfold Ch.pre Ch.FA
 by_cases h:t=C.spot
 ·rw [if_pos h,if_pos h]
 ·rw [if_neg h,if_neg h,Nat.max_zero]
theorem Ch.My (C:Ch) (t:Nat):C.oS t=if t=C.spot then max (C.IP t) C.tails else C.IP t:=by
 unfold Ch.oS Ch.IP
 by_cases h:t=C.spot
 ·rw [if_pos h,if_pos h]
 ·rw [if_neg h,if_neg h,Nat.max_zero]
theorem B6 {K:Int→Prop} {f d l f0 d0 m:Nat} (e:m=if f=f0 then 1 else if d=d0∧l < 25 then 2 else 0) (h:K (m:Int)):vy ((f:Int) == (f0:Int)) (K 1) (vy ((d:Int) == (d0:Int)) (vy (decide ((l:Int) < 25)) (K 2) (K 0)) (K 0)):=by
 subst e
 refine ay (fun h1=>?_) fun h1=>ay (fun h2=>ay (fun h3=>?_) fun h3=>?_) fun h2=>?_
 ·rw [if_pos (mZ h1)] at h; exact h
 ·rw [if_neg (j3 h1),if_pos ⟨mZ h2,by have:=of_decide_eq_true h3; omega⟩] at h; exact h
 ·rw [if_neg (j3 h1),if_neg fun e=>by have:=of_decide_eq_false h3; omega] at h; exact h
 ·rw [if_neg (j3 h1),if_neg fun e=>j3 h2 e.1] at h; exact h
theorem EA {x y:Nat} (q:Φ (.int (max x y:Nat)) σ):TC b n none (.builtin "max") [.int x,.int y] σ Φ Ψ:=.of (LY (by
 have:(if (y:Int) > x then (y:Int) else x)=((max x y:Nat):Int):=by split <;> omega
 rw [this]; exact q))
inductive CO (Θ:Ph) (σ:AH) (aw lp li lo:Addr) (C:Ch) (k:Nat) (O:List Str) (I:List (List Rw)) (P:List Pc):Prop
 | mk:(∀ f co b bh m r,LN σ (zI lo li lp O (I ++ [C.item k]) (P ++ C.dW k))→Θ .next (lF aw C lp li lo (some (.str (C.op k))) (some (.int k)) f co b bh m r) (lay σ (zI lo li lp O (I ++ [C.item k]) (P ++ C.dW k))))→CO Θ σ aw lp li lo C k O I P
theorem Es {m r:Option V} (H:C.Ok) (hty:¬ dA (C.op k)) (N:LN σ (zI lo li lp O I P)) (h1:I.length≤1000) (h2:P.length≤50000) (h:CO Θ σ aw lp li lo C k O I P):
  ia ⟨b,n + 1,none,Y⟩ (lF aw C lp li lo (some (.str (C.op k))) (some (.int k)) (some (.int (C.form k))) (some (.str (C.core k))) (some (.int (C.pre k))) (some (.int (C.oS k))) m r) (lay σ (zI lo li lp O I P)) Θ:=by
 have q9:=H.pre k
 have q10:=H.oS k
 have w1:=qP (core:=C.core k) (mix:=(C.mix + k) % 32) q9 q10
 refine jX (by decide) ?_
 rw [show ((C.mix:Int) + k).fmod 32=(((C.mix + k) % 32:Nat):Int) by rw [Int.fmod_eq_emod_of_nonneg _ (by omega)]; push_cast; rfl]
 refine rx (by omega) (by omega) (gZ N (.tail (.tail .head)) .fl (by simp; omega) (fun _ h=>h) fun N2=>bz N2 (.tail .head) (by simp; omega) (fun _ h=>h) fun N3=>?_)
 have e1:I.map ax ++ [ax (fA (C.core k) (C.pre k) (C.oS k) ((C.mix + k) % 32))]=(I ++ [C.item k]).map ax:=by rw [Ch.item,if_neg hty,List.map_append]; rfl
 have e2:P.map Pc.v ++ (bO (C.core k) (C.pre k) (C.oS k) ((C.mix + k) % 32)).map Pc.v=(P ++ C.dW k).map Pc.v:=by rw [Ch.dW,if_neg hty,List.map_append] at ⊢
 rw [e1,e2] at N3 ⊢
 cases h with
 | mk h=>exact h _ _ _ _ _ _ N3
theorem Ek {bf bh m r:Option V} (H:C.Ok) (hty:¬ dA (C.op k)) (N:LN σ (zI lo li lp O I P)) (h1:I.length≤1000) (h2:P.length≤50000) (h:CO Θ σ aw lp li lo C k O I P):
  i3 ⟨b,n + 1,none,Y⟩ (lF aw C lp li lo (some (.str (C.op k))) (some (.int k)) (some (.int (C.form k))) (some (.str (C.core k))) bf bh m r) (lay σ (zI lo li lp O I P)) Θ:=by
 have go:=Es (b:=b) (n:=n) (Y:=Y) (m:=m) (r:=r) H hty N h1 h2 h
 refine B6 (K:=fun i=>hV ⟨b,n + 1,none,Y⟩ (lF aw C lp li lo (some (.str (C.op k))) (some (.int k)) (some (.int (C.form k))) (some (.str (C.core k))) (some (.int i)) bh m r) (lay σ (zI lo li lp O I P)) Θ) (m:=C.FA k) rfl ?_
 refine B6 (K:=fun i=>i6 ⟨b,n + 1,none,Y⟩ (lF aw C lp li lo (some (.str (C.op k))) (some (.int k)) (some (.int (C.form k))) (some (.str (C.core k))) (some (.int (C.FA k))) (some (.int i)) m r) (lay σ (zI lo li lp O I P)) Θ) (m:=C.IP k) rfl ?_
 rw [C.LB,C.My] at go
 refine ay (fun hs=>?_) fun hs=>?_
 ·rw [if_pos (mZ hs),if_pos (mZ hs)] at go
  exact EA (EA go)
 ·rw [if_neg (j3 hs),if_neg (j3 hs)] at go
  exact go
theorem xe {bf bh m r:Option V} {c0:Str} (e0:c0=if C.form k=0 then ("(" : Str) else ("c" : Str)) (H:C.Ok) (hty:¬ dA (C.op k)) (N:LN σ (zI lo li lp O I P)) (h1:I.length≤1000) (h2:P.length≤50000) (h:CO Θ σ aw lp li lo C k O I P):
  ib ⟨b,n + 1,none,Y⟩ (lF aw C lp li lo (some (.str (C.op k))) (some (.int k)) (some (.int (C.form k))) (some (.str c0)) bf bh m r) (lay σ (zI lo li lp O I P)) Θ:=by
 have p3:=Ek (b:=b) (n:=n) (Y:=Y) (bf:=bf) (bh:=bh) (m:=m) (r:=r) H hty N h1 h2 h
 have e3:((C.mix:Int) + k).fmod 3=(((C.mix + k) % 3:Nat):Int):=by rw [Int.fmod_eq_emod_of_nonneg _ (by omega)]; push_cast; rfl
 have yes:(C.op k = "<" ∨ (C.form k=3∨(C.form k=8∧(C.mix + k) % 3=0)))→C.core k = "7" := fun hh=>if_pos hh
 have no:¬ (C.op k = "<" ∨ (C.form k=3∨(C.form k=8∧(C.mix + k) % 3=0)))→C.core k=c0:=fun hh=>(if_neg hh).trans e0.symm
 refine ay (fun g1=>yes (.inl (eq_of_beq g1)) ▸ p3) fun g1=>ay (fun g2=>yes (.inr (.inl (mZ g2))) ▸ p3) fun g2=>ay (fun g3=>jX (by decide) ?_) fun g3=>no ?_ ▸ p3
 ·rw [e3]
  refine ay (fun g4=>yes (.inr (.inr ⟨mZ g3,mZ g4⟩)) ▸ p3) fun g4=>no ?_ ▸ p3
  rintro (e | e | e)
  ·exact ne_of_beq_false g1 e
  ·exact j3 g2 e
  ·exact j3 g4 e.2
 ·rintro (e | e | e)
  ·exact ne_of_beq_false g1 e
  ·exact j3 g2 e
  ·exact j3 g3 e.1
theorem Fu {co bf bh m r:Option V} (H:C.Ok) (hty:¬ dA (C.op k)) (N:LN σ (zI lo li lp O I P)) (h1:I.length≤1000) (h2:P.length≤50000) (h:CO Θ σ aw lp li lo C k O I P):
  gV ⟨b,n + 1,none,Y⟩ (lF aw C lp li lo (some (.str (C.op k))) (some (.int k)) (some (.int (C.form k))) co bf bh m r) (lay σ (zI lo li lp O I P)) Θ:=
 ay (fun g=>xe (if_pos (mZ g)).symm H hty N h1 h2 h) fun g=>xe (if_neg (j3 g)).symm H hty N h1 h2 h
theorem uq {f co bf bh m r:Option V} (H:C.Ok) (hk:k≤C.links) (N:LN σ (zI lo li lp O I P)) (h1:I.length≤1000) (h2:P.length≤50000) (h:CO Θ σ aw lp li lo C k O I P):
  eA ⟨b,n + 1,none,Y⟩ (lF aw C lp li lo (some (.str (C.op k))) (some (.int k)) f co bf bh m r) (lay σ (zI lo li lp O I P)) Θ:=by
 refine eP (.sst (ks:=["is", "as"]) rfl) (ay (fun hi=>?_) fun hi=>?_)
 ·have hty:dA (C.op k):=by
   rcases List.mem_cons.mp (of_decide_eq_true hi) with e | e
   ·exact .inl e
   ·exact .inr (List.mem_singleton.mp e)
  refine bz N (.tail (.tail .head)) (by simp; omega) (fun _ h=>h) fun N2=>bz (v:=ax [⟨40,.str "int", 0⟩]) N2 (.tail .head) (by simp; omega) (fun _ h=>h) fun N3=>?_
  have e1:I.map ax ++ [ax [⟨40,.str "int", 0⟩]]=(I ++ [C.item k]).map ax:=by rw [Ch.item,if_pos hty,List.map_append]; rfl
  have e2:P.map Pc.v ++ [V.str "int"]=(P ++ C.dW k).map Pc.v:=by rw [Ch.dW,if_pos hty,List.map_append]; rfl
  rw [e1,e2] at N3 ⊢
  cases h with
  | mk h=>exact h _ _ _ _ _ _ N3
 ·have hty:¬ dA (C.op k):=fun e=>of_decide_eq_false hi (by
   rcases e with e | e
   ·rw [e]; exact .head _
   ·rw [e]; exact .tail _ (.head _))
  have q1:=H.mix
  have q2:=H.links
  have p1:=Fu (b:=b) (n:=n) (Y:=Y) (co:=co) (bf:=bf) (bh:=bh) (m:=m) (r:=r) (Θ:=qT bN ⟨b,n + 1,none,Y⟩ Θ) H hty N h1 h2 (by cases h with | mk h=>exact .mk h)
  refine ay (fun g=>oF (by decide) (jX (by decide) ?_)) fun g=>?_
  ·rw [show ((C.mix:Int) + 3 * k).fmod 8=((C.form k:Nat):Int) by rw [Ch.form,if_pos (mZ g),Int.fmod_eq_emod_of_nonneg _ (by omega)]; push_cast; rfl]
   exact p1
  ·rw [show C.form k=8 by rw [Ch.form,if_neg (j3 g)]] at p1; exact p1
end
abbrev Dq (lo li lp:Addr) (C:Ch) (k:Nat):List (Addr×List V):=zI lo li lp (C.ops (k - 1)) (C.a7 k) (C.aO k)
theorem Ch.Hg (C:Ch):C.aO 1=C.aO 0 ++ C.dW 0:=by rw [Ch.kQ]; rfl
theorem Ch.Gw (C:Ch) (k:Nat):C.aO (k + 2)=(C.aO (k + 1) ++ [.m (k + 1),.w (C.op (k + 1))]) ++ C.dW (k + 1):=by
 rw [Ch.kQ,List.append_assoc]; rfl
def A1 (g:List Int) (a links heads tails:Nat):Ch:=
 let pool:=ef.getD (tk g a 8) []
 { pool:=pool,first:=tk g (a + 1) pool.length,step:=1 + tk g (a + 2) (pool.length - 1),deco:=tk g (a + 3) 4,mix:=tk g (a + 4) 32,spot:=tk g (a + 5) (links + 1),links:=links,heads:=heads,tails:=tails }
theorem qr (g:List Int) (a:Nat) {links heads tails:Nat} (h1:links≤44) (h2:heads≤44) (h3:tails≤44):(A1 g a links heads tails).Ok:=by
 have hp:ef.getD (tk g a 8) []∈ef:=by
  have hlt:tk g a 8 < ef.length:=bq g a (by decide)
  rw [List.getD_eq_getElem?_getD,List.getElem?_eq_getElem hlt]
  exact List.getElem_mem hlt
 obtain ⟨g1,g2,g3⟩:=jg _ hp
 refine ⟨hp,bq g _ (by decide),?_,?_,bq g _ (by decide),?_,h1,h2,h3⟩
 ·exact Nat.lt_of_lt_of_le (bq g (a + 1) (Nat.zero_lt_of_lt g1)) (Nat.le_trans g2 (by decide))
 ·exact Nat.lt_of_lt_of_le (Nat.add_lt_of_lt_sub' (bq g (a + 2) (Nat.sub_pos_of_lt g1))) (Nat.le_trans g2 (by decide))
 ·exact Nat.le_of_lt_succ (bq g (a + 5) (Nat.succ_pos _))
inductive RO (β:AH) (aw lp li lo:Addr) (C:Ch) (k:Nat):Fm→AH→Prop
 | mk {o t f co b bh m x:Option V}:(k=0→o=some (.str ""))→LN β (Dq lo li lp C k)→RO β aw lp li lo C k (lF aw C lp li lo o t f co b bh m x) (lay β (Dq lo li lp C k))
section
variable {b:Bs} {n:Nat} {hd:Option Addr} {σ τ β:AH} {Φ:Pv} {Ψ:Addr→AH→Prop} {X:XX} {r:Fm} {v w:V} {Θ:Ph} {l l' A B:List (Addr×List V)} {xs ys:List V} {i j:Int} {s:Str} {k:Nat} {aw lp li lo:Addr} {body rest:TS} {Y:Fm→Addr→AH→Prop} {C:Ch} {O:List Str} {I:List (List Rw)} {P:List Pc}
theorem w6 {l:List Str} (h:l.length≤1000000) (q:Φ (.int l.length) σ):TC b n hd (.builtin "len") [.tup (l.map .str)] σ Φ Ψ:=.of (zM (by rw [List.length_map]; exact h) (by rw [List.length_map]; exact q))
inductive CT (Θ:Ph) (σ:AH) (aw lp li lo:Addr) (C:Ch) (k:Nat):Prop
 | mk:(∀ f co b bh m r,LN σ (Dq lo li lp C (k + 1))→Θ .next (lF aw C lp li lo (some (.str (C.op k))) (some (.int k)) f co b bh m r) (lay σ (Dq lo li lp C (k + 1))))→CT Θ σ aw lp li lo C k
theorem II {f co bf bh m r:Option V} (H:C.Ok) (hk:k + 1≤C.links) (N:LN σ (Dq lo li lp C (k + 1))) (h:CT Θ σ aw lp li lo C (k + 1)):
  jd ⟨b,n + 1,none,Y⟩ (lF aw C lp li lo (some (.str (C.op (k + 1)))) (some (.int ((k + 1:Nat):Int))) f co bf bh m r) (lay σ (Dq lo li lp C (k + 1))) (qT bN ⟨b,n + 1,none,Y⟩ (qT eA ⟨b,n + 1,none,Y⟩ Θ)):=by
 have q6:=H.links
 have w1:=H.gT (k + 1)
 have w2:=C.Bt (k + 1)
 have w3:=C.vm k
 refine bz N .head (by rw [List.length_map]; show (C.ops k).length≤_; omega) (fun _ h=>h) fun N2=>gZ N2 (.tail (.tail .head)) .fl (by rw [List.length_map]; simp; omega) (fun _ h=>h) fun N3=>?_
 have e1:(C.ops (k + 1 - 1)).map V.str ++ [.str (C.op (k + 1))]=(C.ops (k + 2 - 1)).map V.str:=by
  show (C.ops k).map V.str ++ _=(C.ops (k + 1)).map V.str
  rw [Ch.G2,List.map_append]; rfl
 have e2:(C.aO (k + 1)).map Pc.v ++ [V.int ((k + 1:Nat):Int),.str (C.op (k + 1))]=(C.aO (k + 1) ++ [Pc.m (k + 1),Pc.w (C.op (k + 1))]).map Pc.v:=by rw [List.map_append]; rfl
 rw [e1,e2] at N3 ⊢
 refine uq (O:=C.ops (k + 2 - 1)) (I:=C.a7 (k + 1)) H hk N3 (by omega) (by rw [List.length_append]; simp; omega) (.mk fun f co b bh m r N4=>?_)
 rw [← Ch.Gw,← Ch.so] at N4 ⊢
 cases h with
 | mk h=>exact h f co b bh m r N4
theorem Ac {o f co bf bh m r:Option V} (H:C.Ok) (hk:k≤C.links) (ho:k=0→o=some (.str "")) (N:LN σ (Dq lo li lp C k)) (h:CT Θ σ aw lp li lo C k):
  dY ⟨b,n + 1,none,Y⟩ (lF aw C lp li lo o (some (.int k)) f co bf bh m r) (lay σ (Dq lo li lp C k)) Θ:=by
 refine ay (fun hi=>?_) fun hi=>?_
 ·obtain ⟨j,rfl⟩:=Nat.exists_eq_add_one_of_ne_zero (n:=k) fun e=>by subst e; exact absurd hi (by decide)
  have q1:=H.first
  have q2:=H.step
  have q6:=H.links
  obtain ⟨g1,g2,g3⟩:=jg _ H.pool
  have hlt:(C.first + C.step * (j + 1)) % C.pool.length < C.pool.length:=Nat.mod_lt _ (by omega)
  have go:=II (b:=b) (n:=n) (Y:=Y) (f:=f) (co:=co) (bf:=bf) (bh:=bh) (m:=m) (r:=r) H hk N h
  refine oF (by omega) (w6 (by omega) (jX (by omega) (dF (v:=.str (C.HW (j + 1))) (k:=(C.first + C.step * (j + 1)) % C.pool.length) ?_ (eD hlt) (by rw [List.length_map]; omega) ?_)))
  ·rw [Int.fmod_eq_emod_of_nonneg _ (by omega)]; push_cast; rfl
  have no:¬ (j + 1=C.spot∧dA (C.HW (j + 1)))→C.op (j + 1)=C.HW (j + 1):=fun h=>by rw [Ch.op,if_neg (by omega),if_neg h]
  refine ay (fun hs=>eP (.sst (ks:=["is", "as"]) rfl) (ay (fun ht=>?_) fun ht=>?_)) fun hs=>?_
  ·have f1:C.op (j + 1) = "<=" := by
    rw [Ch.op,if_neg (by omega),if_pos]
    refine ⟨mZ hs,?_⟩
    rcases List.mem_cons.mp (of_decide_eq_true ht) with e | e
    ·exact .inl e
    ·exact .inr (List.mem_singleton.mp e)
   rw [f1] at go; exact go
  ·rw [no fun e=>of_decide_eq_false ht (by
    rcases e.2 with e | e
    ·rw [e]; exact .head _
    ·rw [e]; exact .tail _ (.head _))] at go
   exact go
  ·rw [no fun e=>j3 hs e.1] at go; exact go
 ·obtain rfl:k=0:=by have:=of_decide_eq_false hi; omega
  rw [ho rfl]
  have:=uq (b:=b) (n:=n) (Y:=Y) (aw:=aw) (lp:=lp) (li:=li) (lo:=lo) (f:=f) (co:=co) (bf:=bf) (bh:=bh) (m:=m) (r:=r) (O:=C.ops 0) (I:=C.a7 0) (P:=C.aO 0) (Θ:=Θ) H hk N (by rw [C.Bt]; omega) (by have:=H.gT 0; omega) (.mk fun f co b bh m r N4=>by
   rw [← Ch.Hg,← Ch.so] at N4 ⊢
   cases h with
   | mk h=>exact h f co b bh m r N4)
  rw [show C.op 0 = "" from rfl] at this
  exact this
theorem CD {o t f co bf bh m r:Option V} (H:C.Ok) (N:LN β (Dq lo li lp C (C.links + 1))) (q:Φ (.tup [q8 (C.aO (C.links + 1)),ax C.rows]) β):
  dZ ⟨b,n + 2,none,fun _=>Ψ⟩ (lF aw C lp li lo o t f co bf bh m r) (lay β (Dq lo li lp C (C.links + 1))) (aZ (GV b.c Φ)):=by
 refine ⟨_,_,N.fl (.tail (.tail .head)) (.tail (.tail .head)),?_⟩
 have N4:=(N.del (a:=lp) (.tail (.tail .head))).2
 refine ay (fun hl=>?_) fun hl=>?_
 ·have hlk:C.links < 41:=by have:=of_decide_eq_true hl; omega
  have N5:=(N4.del (a:=li) (.tail .head)).2
  refine ⟨_,_,N4.fl (.tail .head) (.tail .head),_,_,N5.fl .head .head,?_⟩
  have w:=H.fp (C.links + 1)
  rw [Ch.G9] at w ⊢
  rw [Ch.rows,if_pos hlk] at q
  refine yg (by rw [Ch.vm]; simp) (fun o ho=>?_) (by omega) (by show (C.ops C.links).length≤900; rw [Ch.vm]; omega) ⟨_,_,b7.refl _ _,q⟩
  obtain ⟨j,_,rfl⟩:=List.mem_map.mp ho
  exact H.op j
 ·rw [Ch.rows,if_neg (by have:=of_decide_eq_false hl; omega)] at q
  exact ⟨_,_,N4.drop.v,q⟩
theorem Ab (H:C.Ok) (N:LN β (Dq lo li lp C 0)) (q:Φ (.tup [q8 (C.aO (C.links + 1)),ax C.rows]) β):
  bF 14 (xC (.type "range") (a1 (xB .Add (xL 1) (xK (.int 1))) a0)) dY dZ ⟨b,n + 2,none,fun _=>Ψ⟩ (lF aw C lp li lo (some (.str "")) none none none none none none none) (lay β (Dq lo li lp C 0)) (aZ (GV b.c Φ)):=by
 have hl:=H.links
 refine fg (gz (N:=C.links + 1) (by omega) (RO β aw lp li lo C) (.mk (fun _=>rfl) N) ?_ ?_)
 ·rintro k r τ hk ⟨ho,N⟩
  exact Ac H (by omega) ho N (.mk fun f co b bh m x N'=>.mk (fun e=>nomatch e) N')
 ·rintro r τ ⟨ho,N⟩
  exact CD H N q
theorem cp {g:List Int} {a links heads tails:Nat} (hg:0 < g.length) (hgl:g.length≤100000) (h1:links≤44) (h2:heads≤44) (h3:tails≤44) (q:Φ (.tup [q8 ((A1 g a links heads tails).aO (links + 1)),ax (A1 g a links heads tails).rows]) (σ.upd aw (dz g (a + 6)))):
  TC b (n + 3) none (.ref 1193) [.ref aw,.int links,.int heads,.int tails] (σ.upd aw (dz g a)) Φ Ψ:=by
 have H:=qr g a h1 h2 h3
 have hp:ef.getD (tk g a 8) []∈ef:=H.pool
 have hlt:tk g a 8 < ef.length:=bq g a (by decide)
 obtain ⟨g1,g2,g3⟩:=jg _ hp
 have hpg:(ef.map fun p=>V.tup (p.map .str))[tk g a 8]?=some (.tup ((ef.getD (tk g a 8) []).map .str)):=by
  rw [List.getElem?_map,List.getD_eq_getElem?_getD,List.getElem?_eq_getElem hlt]; rfl
 refine .ent (v8 (az (m:=8) rfl hg hgl (by decide) (dF rfl hpg (by simp) (w6 (by omega) (az rfl hg hgl (by omega) (w6 (by omega) (az (m:=(ef.getD (tk g a 8) []).length - 1) (by omega) hg hgl (by omega)
  (az (m:=4) rfl hg hgl (by decide) (az (m:=32) rfl hg hgl (by decide) (az (m:=links + 1) rfl hg hgl (by omega) fun lp f1 li f2 lo f3=>?_))))))))))
 exact Ab (C:=A1 g a links heads tails) (aw:=aw) H ((((LN.nil (σ:=σ.upd aw (dz g (a + 6)))).new f1).new f2).new f3) q
end
theorem G5 (l:List (Lk (List Rw))) {X:Sq (List Rw)} (h:X≠[]):wt (l.foldl (bc Jr Ir) X)=wt X + (l.map Bn).sum∧l.foldl (bc Jr Ir) X≠[]:=by
 induction l generalizing X with
 | nil=>exact ⟨rfl,h⟩
 | cons x l ih=>
  have h2:bc Jr Ir X x≠[]:=by cases x <;> simp [bc]
  obtain ⟨g1,g2⟩:=ih h2
  rw [List.foldl_cons]
  refine ⟨?_,g2⟩
  rw [g1,yQ h,List.map_cons,List.sum_cons,Nat.add_assoc]
theorem KI (ops:List Str) (rs:List (List Rw)):((List.zipWith dQ ops rs).map Bn).sum≤fp rs:=by
 induction ops generalizing rs with
 | nil=>exact Nat.zero_le _
 | cons o ops ih=>
  cases rs with
  | nil=>exact Nat.zero_le _
  | cons r rs=>
   rw [List.zipWith_cons_cons,List.map_cons,List.sum_cons,wV,bx]
   exact Nat.add_le_add_left (ih rs) _
theorem Ch.Ok.yb {C:Ch} (H:C.Ok):C.rows.length≤13600:=by
 unfold Ch.rows
 split
 ·obtain ⟨g1,g2⟩:=G5 (List.zipWith dQ (C.ops C.links) ((List.range C.links).map fun j=>C.item (j + 1))) (X:=[(("" : Str),C.item 0)]) (List.cons_ne_nil _ _)
  have h1:=KI (C.ops C.links) ((List.range C.links).map fun j=>C.item (j + 1))
  have h2:=H.fp (C.links + 1)
  rw [Ch.G9,bx] at h2
  have h3:=H.links
  unfold treeOf
  generalize List.foldl (bc Jr Ir) [(("" : Str),C.item 0)] (List.zipWith dQ (C.ops C.links) ((List.range C.links).map fun j=>C.item (j + 1)))=X at g1 g2 ⊢
  rw [aW,jI] at g1
  cases X with
  | nil=>exact absurd rfl g2
  | cons e B=>
   have h4:=rW e B
   dsimp only at g1
   omega
 ·simp
structure Wh where
 shape:Nat
 sign:Str
 ch:Nat→Ch
def fS:List Str:=["=", "+=", "-=", ">>=", "*=", "<<=", "/=", "%=", "&=", "|=", "^="]
def AZ (shape:Nat):Nat:=[1,3,2,4,4,4].getD shape 0
def atT (a wh t:Nat):Nat:=a + 3 + 7 * t + (if wh < t then 1 else 0)
def ot (g:List Int) (a:Nat):Ch:=A1 g (a + 1) ([0,1,2,5,3,12].getD (tk g a 6) 0) 0 0
def fB (g:List Int) (a form long:Nat):Ch:=if form < 2 then A1 g (a + 2) long (tk g a 3) (tk g (a + 1) 3) else A1 g (a + 2) ([0,3,8,22].getD (tk g a 4) 0) (if form=2 then long else tk g (a + 1) 3) (if form=3 then long else tk g (a + 1) 3)
def whereOf (g:List Int) (a:Nat):Nat:=tk g (a + 1) (AZ (tk g a 6))
def cz (g:List Int) (a form long:Nat):Wh:=
 { shape:=tk g a 6,sign:=fS.getD (tk g (a + 2) 11) "", ch:=fun t=>if t=whereOf g a then fB g (atT a (whereOf g a) t) form long else ot g (atT a (whereOf g a) t) }
def Wh.cnt (W:Wh):Nat:=AZ W.shape
def Wh.glue (W:Wh):List Str:=([[],[("?" : Str),":"],[W.sign],["?", ":", W.sign],[W.sign,"?", ":"],["?", W.sign,":"]]:List (List Str)).getD W.shape []
def Wh.choice:List Rw:=[⟨22,.str "", 3⟩]
def Wh.put (W:Wh):List Rw:=[⟨23,.str W.sign,2⟩]
def Wh.front (W:Wh):List (List Rw):=([[[]],[Wh.choice,[],[]],[W.put,[]],[Wh.choice,[],W.put,[]],[W.put,Wh.choice,[],[]],[Wh.choice,W.put,[],[]]]:List (List (List Rw))).getD W.shape []
def Wh.aO (W:Wh) (k:Nat):List Pc:=(List.range k).flatMap fun t=>(if t=0 then [] else [Pc.w (W.glue.getD (t - 1) "")]) ++ (W.ch t).aO ((W.ch t).links + 1)
def Wh.rws (W:Wh) (k:Nat):List Rw:=(List.range k).flatMap fun t=>W.front.getD t [] ++ (W.ch t).rows
structure Wh.Ok (W:Wh):Prop where
 shape:W.shape < 6
 sign:W.sign∈fS
 ch:∀ t,(W.ch t).Ok
theorem CX (g:List Int) (a:Nat):(ot g a).Ok:=by
 have h:=bq g a (m:=6) (by decide)
 have:∀ j,j < 6→[0,1,2,5,3,12].getD j 0≤44:=by decide
 exact qr g _ (this _ h) (by decide) (by decide)
theorem Df (g:List Int) (a:Nat) {form long:Nat} (hl:long≤44):(fB g a form long).Ok:=by
 have h:=bq g a (m:=4) (by decide)
 have h1:=bq g a (m:=3) (by decide)
 have h2:=bq g (a + 1) (m:=3) (by decide)
 have:∀ j,j < 4→[0,3,8,22].getD j 0≤44:=by decide
 unfold fB
 split
 ·exact qr g _ hl (by omega) (by omega)
 ·exact qr g _ (this _ h) (by split <;> omega) (by split <;> omega)
theorem vf (g:List Int) (a:Nat) {form long:Nat} (hl:long≤44):(cz g a form long).Ok:=by
 refine ⟨bq g a (by decide),?_,fun t=>?_⟩
 ·have h:tk g (a + 2) 11 < fS.length:=bq g (a + 2) (by decide)
  show fS.getD _ _∈_
  rw [List.getD_eq_getElem?_getD,List.getElem?_eq_getElem h]
  exact List.getElem_mem h
 ·show (if t=whereOf g a then fB g (atT a (whereOf g a) t) form long else ot g (atT a (whereOf g a) t)).Ok
  split
  ·exact Df g _ hl
  ·exact CX g _
theorem Wh.kQ (W:Wh) (k:Nat):W.aO (k + 1)=W.aO k ++ ((if k=0 then [] else [Pc.w (W.glue.getD (k - 1) "")]) ++ (W.ch k).aO ((W.ch k).links + 1)):=by
 unfold Wh.aO; rw [List.range_succ,List.flatMap_append]; simp
theorem Wh.FX (W:Wh) (k:Nat):W.rws (k + 1)=W.rws k ++ (W.front.getD k [] ++ (W.ch k).rows):=by
 unfold Wh.rws; rw [List.range_succ,List.flatMap_append]; simp
theorem Wh.Ok.gT {W:Wh} (H:W.Ok) (k:Nat):(W.aO k).length≤18100 * k:=by
 have:=c9 (f:=fun t=>(if t=0 then [] else [Pc.w (W.glue.getD (t - 1) "")]) ++ (W.ch t).aO ((W.ch t).links + 1)) (b:=18100) (fun t=>by
  have h1:=(H.ch t).gT ((W.ch t).links + 1)
  have h2:=(H.ch t).links
  rw [List.length_append]
  have:(if t=0 then [] else [Pc.w (W.glue.getD (t - 1) "")]).length≤1:=by split <;> simp
  omega) (List.range k)
 rwa [List.length_range] at this
theorem z7 {α:Type} {l:List α} {p:α→Bool} {d:α} (h:l.all p=true) (hd:p d=true) (i:Nat):p (l.getD i d)=true:=by
 rw [List.getD_eq_getElem?_getD]
 cases e:l[i]? with
 | none=>exact hd
 | some x=>exact List.all_eq_true.mp h x (List.mem_of_getElem? e)
theorem u7 (W:Wh) (t:Nat):(W.front.getD t []).length≤1:=
 Nat.le_of_ble_eq_true (z7 (p:=fun x:List Rw=>Nat.ble x.length 1) (z7 (l:=[[[]],[Wh.choice,[],[]],[W.put,[]],[Wh.choice,[],W.put,[]],[W.put,Wh.choice,[],[]],[Wh.choice,W.put,[],[]]]) (p:=fun l:List (List Rw)=>l.all fun x=>Nat.ble x.length 1) rfl rfl W.shape) rfl t)
theorem Wh.Ok.Bq {W:Wh} (H:W.Ok) (k:Nat):(W.rws k).length≤13601 * k:=by
 have:=c9 (f:=fun t=>W.front.getD t [] ++ (W.ch t).rows) (b:=13601) (fun t=>by
  have h1:=(H.ch t).yb
  have h2:=u7 W t
  rw [List.length_append]; omega) (List.range k)
 rwa [List.length_range] at this
abbrev Fl (aw:Addr) (form long:Nat) (s ct wh sg ch t l o cc p g f ps r:Option V):Fm:=[some (.ref aw),some (.int form),some (.int long),s,ct,wh,sg,ch,t,l,o,cc,p,g,f,ps,r]
def Jg (C:Ch):V:=.tup [q8 (C.aO (C.links + 1)),ax C.rows]
theorem Mj {a wh k:Nat} (h:k≠wh):atT a wh k + 1 + 6=atT a wh (k + 1):=by
 unfold atT
 split <;> split <;> omega
theorem Kr {a wh:Nat}:atT a wh wh + 1 + 1 + 6=atT a wh (wh + 1):=by
 unfold atT
 split <;> split <;> omega
abbrev wS (σ:AH) (lc aw:Addr) (g:List Int) (xs:List V) (a:Nat):AH:=(σ.upd lc (.list xs)).upd aw (dz g a)
section
variable {b:Bs} {n:Nat} {hd:Option Addr} {σ τ β:AH} {Φ:Pv} {Ψ:Addr→AH→Prop} {X:XX} {r:Fm} {v w:V} {Θ:Ph} {l l' A B:List (Addr×List V)} {xs ys:List V} {i j:Int} {s:Str} {k:Nat} {aw lc lp lr:Addr} {body rest:TS} {Y:Fm→Addr→AH→Prop} {g:List Int} {a wh form long:Nat}
theorem vn (h:lc≠aw):(wS σ lc aw g xs a) lc=some (.list xs):=(AH.a8 _ _ h).trans (AH.a9 ..)
theorem ub (h:lc≠aw) (hl:xs.length≤1000) (q:Φ .none (wS σ lc aw g (xs ++ [v]) a)):TC b n hd (.builtin "list.append") [.ref lc,v] (wS σ lc aw g xs a) Φ Ψ:=
 c5 (vn h) (by omega) (by rw [AH.aF _ _ _ h.symm,AH.aU]; exact q)
theorem NN {x y:Nat} (h:((x:Int) != (y:Int))=true):x≠y:=fun e=>bne_iff_ne.mp h (congrArg Int.ofNat e)
theorem NY {x y:Nat} (h:((x:Int) != (y:Int))=false):x=y:=Decidable.byContradiction fun e=>by
 have:((x:Int) != (y:Int))=true:=bne_iff_ne.mpr fun e'=>e (Int.ofNat.inj e')
 rw [h] at this; cases this
theorem ints_get {l:List Nat} (h:k < l.length):(l.map fun i:Nat=>V.int i)[k]?=some (.int (l.getD k 0:Nat)):=by
 rw [List.getElem?_map,List.getD_eq_getElem?_getD,List.getElem?_eq_getElem h]; rfl
theorem A9 {st ct sg l o cc p gl f ps r:Option V} (hg:0 < g.length) (hgl:g.length≤100000) (hlong:long≤44) (hne:lc≠aw) (hx:xs.length≤1000)
  (h:∀ l o,Θ .next (Fl aw form long st ct (some (.int wh)) sg (some (.ref lc)) (some (.int k)) l o cc p gl f ps r) (wS σ lc aw g (xs ++ [Jg (if k=wh then fB g (atT a wh k) form long else ot g (atT a wh k))]) (atT a wh (k + 1)))):
  hZ ⟨b,n + 3,none,Y⟩ (Fl aw form long st ct (some (.int wh)) sg (some (.ref lc)) (some (.int k)) l o cc p gl f ps r) (wS σ lc aw g xs (atT a wh k)) Θ:=by
 have t6:=bq g (atT a wh k) (m:=6) (by decide)
 have t4:=bq g (atT a wh k) (m:=4) (by decide)
 have t3:=bq g (atT a wh k) (m:=3) (by decide)
 have t3':=bq g (atT a wh k + 1) (m:=3) (by decide)
 have u6:∀ j,j < 6→[0,1,2,5,3,12].getD j 0≤44:=by decide
 have u4:∀ j,j < 4→[0,3,8,22].getD j 0≤44:=by decide
 refine ay (fun hi=>?_) fun hi=>?_
 ·have hk:k≠wh:=NN hi
  rw [if_neg hk,← Mj hk] at h
  exact tT (vn hne) (az (m:=6) rfl hg hgl (by decide) (dF rfl (ints_get (l:=[0,1,2,5,3,12]) t6) (by simp) (cp (heads:=0) (tails:=0) hg hgl (u6 _ t6) (by decide) (by decide) (ub hne hx (h _ _)))))
 ·obtain rfl:k=wh:=NY hi
  rw [if_pos rfl,← Kr] at h
  refine ay (fun hf=>?_) fun hf=>?_
  ·rw [fB,if_pos (by have:=of_decide_eq_true hf; omega)] at h
   exact tT (vn hne) (az (m:=3) rfl hg hgl (by decide) (az (m:=3) rfl hg hgl (by decide) (cp hg hgl hlong (by omega) (by omega) (ub hne hx (h _ _)))))
  ·rw [fB,if_neg (by have:=of_decide_eq_false hf; omega)] at h
   refine az (m:=4) rfl hg hgl (by decide) (dF rfl (ints_get (l:=[0,3,8,22]) t4) (by simp) (az (m:=3) rfl hg hgl (by decide) (tT (vn hne) (ay (fun h2=>?_) fun h2=>?_))))
   ·rw [if_pos (mZ (y:=2) h2)] at h
    refine ay (fun h3=>?_) fun h3=>?_
    ·rw [if_pos (mZ (y:=3) h3)] at h
     exact cp hg hgl (u4 _ t4) hlong hlong (ub hne hx (h _ _))
    ·rw [if_neg (j3 (y:=3) h3)] at h
     exact cp hg hgl (u4 _ t4) hlong (by omega) (ub hne hx (h _ _))
   ·rw [if_neg (j3 (y:=2) h2)] at h
    refine ay (fun h3=>?_) fun h3=>?_
    ·rw [if_pos (mZ (y:=3) h3)] at h
     exact cp hg hgl (u4 _ t4) (by omega) hlong (ub hne hx (h _ _))
    ·rw [if_neg (j3 (y:=3) h3)] at h
     exact cp hg hgl (u4 _ t4) (by omega) (by omega) (ub hne hx (h _ _))
end
abbrev Lm (s:Str):List V:=[.fl [],.fl [.str "?", .str ":"],.fl [.str s],.fl [.str "?", .str ":", .str s],.fl [.str s,.str "?", .str ":"],.fl [.str "?", .str s,.str ":"]]
abbrev Ib (s:Str):List V:=[.fl [.fl []],.fl [ax Wh.choice,.fl [],.fl []],.fl [ax [⟨23,.str s,2⟩],.fl []],.fl [ax Wh.choice,.fl [],ax [⟨23,.str s,2⟩],.fl []],.fl [ax [⟨23,.str s,2⟩],ax Wh.choice,.fl [],.fl []],.fl [ax Wh.choice,ax [⟨23,.str s,2⟩],.fl [],.fl []]]
structure Jh (W:Wh):Prop where
 glue:(Lm W.sign)[W.shape]?=some (.fl (W.glue.map .str))
 front:(Ib W.sign)[W.shape]?=some (.fl (W.front.map ax))
 glen:W.glue.length + 1=W.cnt
 flen:W.front.length=W.cnt
 c0:0 < W.cnt
 c4:W.cnt≤4
theorem Jh.of {W:Wh} (h:W.shape < 6):Jh W:=by
 exact Ni (p:=fun s=>∀ sg ch,Jh ⟨s,sg,ch⟩) (fun _ _=>⟨rfl,rfl,rfl,rfl,Nat.le_of_ble_eq_true rfl,Nat.le_of_ble_eq_true rfl⟩) (fun _ _=>⟨rfl,rfl,rfl,rfl,Nat.le_of_ble_eq_true rfl,Nat.le_of_ble_eq_true rfl⟩) (fun _ _=>⟨rfl,rfl,rfl,rfl,Nat.le_of_ble_eq_true rfl,Nat.le_of_ble_eq_true rfl⟩) (fun _ _=>⟨rfl,rfl,rfl,rfl,Nat.le_of_ble_eq_true rfl,Nat.le_of_ble_eq_true rfl⟩) (fun _ _=>⟨rfl,rfl,rfl,rfl,Nat.le_of_ble_eq_true rfl,Nat.le_of_ble_eq_true rfl⟩) (fun _ _=>⟨rfl,rfl,rfl,rfl,Nat.le_of_ble_eq_true rfl,Nat.le_of_ble_eq_true rfl⟩) _ h W.sign W.ch
section
variable {b:Bs} {n:Nat} {hd:Option Addr} {σ τ β:AH} {Φ:Pv} {Ψ:Addr→AH→Prop} {X:XX} {r:Fm} {v w:V} {Θ:Ph} {xs ys:List V} {i j:Int} {s:Str} {k:Nat} {aw lc lp lr:Addr} {body rest:TS} {Y:Fm→Addr→AH→Prop} {g:List Int} {a wh form long:Nat} {W:Wh}
abbrev MH (lr lp lc:Addr) (W:Wh) (P:List Pc) (R:List Rw):List (Addr×List V):=[(lr,R.map Rw.v),(lp,P.map Pc.v),(lc,(List.range W.cnt).map fun t=>Jg (W.ch t))]
abbrev Lo (aw:Addr) (form long:Nat) (W:Wh) (lc lp lr:Addr) (wh t l o:Option V):Fm:=Fl aw form long (some (.int W.shape)) (some (.int W.cnt)) wh (some (.str W.sign)) (some (.ref lc)) t l o (some (ax Wh.choice)) (some (ax [⟨23,.str W.sign,2⟩])) (some (.fl (W.glue.map .str))) (some (.fl (W.front.map ax))) (some (.ref lp)) (some (.ref lr))
inductive Rc (σ:AH) (aw:Addr) (form long:Nat) (W:Wh) (lc lp lr:Addr) (wh l o:Option V) (k:Nat):Fm→AH→Prop
 | mk {t:Option V}:LN σ (MH lr lp lc W (W.aO k) (W.rws k))→Rc σ aw form long W lc lp lr wh l o k (Lo aw form long W lc lp lr wh t l o) (lay σ (MH lr lp lc W (W.aO k) (W.rws k)))
inductive Pz (σ:AH) (aw lc:Addr) (g:List Int) (a form long:Nat) (W:Wh) (k:Nat):Fm→AH→Prop
 | mk {t l o:Option V}:Pz σ aw lc g a form long W k (Fl aw form long (some (.int W.shape)) (some (.int W.cnt)) (some (.int (whereOf g a))) (some (.str W.sign)) (some (.ref lc)) t l o none none none none none none) (wS σ lc aw g ((List.range k).map fun t=>Jg (W.ch t)) (atT a (whereOf g a) k))
theorem BJ {l o wh:Option V} {P:List Pc} (H:W.Ok) (G:Jh W) (hk:k < W.cnt) (hP:P=W.aO k ++ (if k=0 then [] else [Pc.w (W.glue.getD (k - 1) "")])) (N:LN σ (MH lr lp lc W P (W.rws k)))
  (h:LN σ (MH lr lp lc W (W.aO (k + 1)) (W.rws (k + 1)))→Θ .next (Lo aw form long W lc lp lr wh (some (.int k)) l o) (lay σ (MH lr lp lc W (W.aO (k + 1)) (W.rws (k + 1))))):
  iK ⟨b,n,none,Y⟩ (Lo aw form long W lc lp lr wh (some (.int k)) l o) (lay σ (MH lr lp lc W P (W.rws k))) Θ:=by
 have c4:=G.c4
 have l1:=H.gT k
 have l2:=H.Bq k
 have l3:=(H.ch k).gT ((W.ch k).links + 1)
 have l4:=(H.ch k).links
 have l5:=(H.ch k).yb
 have l6:=u7 W k
 have hPl:P.length≤(W.aO k).length + 1:=by rw [hP,List.length_append]; split <;> simp
 have hch:((List.range W.cnt).map fun t=>Jg (W.ch t))[k]?=some (Jg (W.ch k)):=by rw [List.getElem?_map,List.getElem?_range hk]; rfl
 have hcl:((List.range W.cnt).map fun t=>Jg (W.ch t)).length≤1000000:=by rw [List.length_map,List.length_range]; omega
 have hfr:(W.front.map ax)[k]?=some (ax (W.front.getD k [])):=by
  have hlt:k < W.front.length:=by rw [G.flen]; exact hk
  rw [List.getElem?_map,List.getD_eq_getElem?_getD,List.getElem?_eq_getElem hlt]; rfl
 refine gZ (ys:=((W.ch k).aO ((W.ch k).links + 1)).map Pc.v) N (.tail .head) .fl (by rw [List.length_map,List.length_map]; omega) (fun _ h=>Ll (.ref (N.get (.tail (.tail .head)))) (fun _ e=>by cases e) rfl hch hcl h) fun N2=>
  gZ (ys:=(W.front.getD k []).map Rw.v ++ (W.ch k).rows.map Rw.v) N2 .head .fl (by rw [List.length_append,List.length_map,List.length_map,List.length_map]; omega) (fun _ h=>fN rfl hfr (by rw [List.length_map,G.flen]; omega) (Ll (.ref (N2.get (.tail (.tail .head)))) (fun _ e=>by cases e) rfl hch hcl (gC .fl .fl (by rw [List.length_map,List.length_map]; omega) h))) fun N3=>?_
 have e1:P.map Pc.v ++ ((W.ch k).aO ((W.ch k).links + 1)).map Pc.v=(W.aO (k + 1)).map Pc.v:=by rw [Wh.kQ,hP,← List.map_append,List.append_assoc]
 have e2:(W.rws k).map Rw.v ++ ((W.front.getD k []).map Rw.v ++ (W.ch k).rows.map Rw.v)=(W.rws (k + 1)).map Rw.v:=by rw [Wh.FX,List.map_append,List.map_append]
 rw [e1,e2] at N3 ⊢
 exact h N3
theorem zZ {t l o cc p gl f ps r wh:Option V} (H:W.Ok) (N:LN σ [(lc,(List.range W.cnt).map fun t=>Jg (W.ch t))]) (q:Φ (.tup [q8 (W.aO W.cnt),ax (W.rws W.cnt)]) σ):
  jc ⟨b,n,none,fun _=>Ψ⟩ (Fl aw form long (some (.int W.shape)) (some (.int W.cnt)) wh (some (.str W.sign)) (some (.ref lc)) t l o cc p gl f ps r) (lay σ [(lc,(List.range W.cnt).map fun t=>Jg (W.ch t))]) (aZ (GV b.c Φ)):=by
 have G:=Jh.of H.shape
 have c4:=G.c4
 refine dF rfl G.glue (by simp) (dF rfl G.front (by simp) fun lp h1 lr h2=>fg (gz (N:=W.cnt) (by omega) (Rc σ aw form long W lc lp lr wh l o) (.mk ((N.new h1).new h2)) ?_ ?_))
 ·rintro k r τ hk ⟨N⟩
  have l1:=H.gT k
  refine ay (fun hi=>?_) fun hi=>?_
  ·have hk0:k≠0:=by have:=of_decide_eq_true hi; omega
   have hg:(W.glue.map V.str)[k - 1]?=some (.str (W.glue.getD (k - 1) "")):=eD (by have:=G.glen; omega)
   refine bz N (.tail .head) (by rw [List.length_map]; omega) (fun _ h=>fN (by omega) hg (by rw [List.length_map]; have:=G.glen; omega) h) fun N2=>?_
   have e1:(W.aO k).map Pc.v ++ [.str (W.glue.getD (k - 1) "")]=(W.aO k ++ [Pc.w (W.glue.getD (k - 1) "")]).map Pc.v:=by rw [List.map_append]; rfl
   rw [e1] at N2 ⊢
   exact BJ H G hk (by rw [if_neg hk0]) N2 .mk
  ·exact BJ H G hk (by rw [if_pos (by have:=of_decide_eq_false hi; omega),List.append_nil]) N .mk
 ·rintro r τ ⟨N⟩
  have N4:=(N.del (a:=lp) (.tail .head)).2
  have N5:=(N4.del (a:=lr) .head).2
  exact ⟨_,_,N.fl (.tail .head) (.tail .head),_,_,N4.fl .head .head,_,_,N5.drop.v,q⟩
theorem vx (hg:0 < g.length) (hgl:g.length≤100000) (hlong:long≤44) (q:Φ (.tup [q8 ((cz g a form long).aO (cz g a form long).cnt),ax ((cz g a form long).rws (cz g a form long).cnt)]) (σ.upd aw (dz g (a + 3 + 7 * (cz g a form long).cnt + 1)))):
  TC b (n + 4) none (.ref 1200) [.ref aw,.int form,.int long] (σ.upd aw (dz g a)) Φ Ψ:=by
 have H:=vf g a (form:=form) hlong
 have hsh:tk g a 6 < 6:=bq g a (by decide)
 have G:=Jh.of (W:=cz g a form long) hsh
 have c0:0 < AZ (tk g a 6):=G.c0
 have c4:=G.c4
 have hwh:whereOf g a < (cz g a form long).cnt:=bq g (a + 1) c0
 have hcnt:∀ j,j < 6→[V.int 1,.int 3,.int 2,.int 4,.int 4,.int 4][j]?=some (.int (AZ j)):=Ni rfl rfl rfl rfl rfl rfl
 have h11:=bq g (a + 2) (m:=11) (by decide)
 refine .ent (vc (az (m:=6) rfl hg hgl (by decide) (dF rfl (hcnt _ hsh) (by simp) (az rfl hg hgl c0 (az (m:=11) rfl hg hgl (by decide) (dF rfl (eD (l:=fS) h11) (by simp) fun lc hlc=>?_))))))
 have hne:lc≠aw:=fun e=>by rw [e,AH.a9] at hlc; cases hlc
 have h0:σ lc=none:=by rw [AH.a8 _ _ hne] at hlc; exact hlc
 have sw:∀ {xs:List V} {a:Nat},(σ.upd aw (dz g a)).upd lc (.list xs)=wS σ lc aw g xs a:=AH.aF _ _ _ hne.symm
 rw [sw]
 refine fg (gz (N:=(cz g a form long).cnt) (by omega) (Pz σ aw lc g a form long (cz g a form long)) (Pz.mk (t:=none) (l:=none) (o:=none)) ?_ ?_)
 ·rintro k r τ hk ⟨⟩
  refine A9 hg hgl hlong hne (by rw [List.length_map,List.length_range]; omega) fun l o=>?_
  have:=@Pz.mk σ aw lc g a form long (cz g a form long) (k + 1) (some (.int k)) l o
  rw [List.range_succ,List.map_append] at this; exact this
 ·rintro r τ ⟨⟩
  have e2:atT a (whereOf g a) (cz g a form long).cnt=a + 3 + 7 * (cz g a form long).cnt + 1:=by
   unfold atT
   rw [if_pos hwh]
  rw [e2,← sw]
  exact zZ H (LN.nil.new (σ:=σ.upd aw (dz g (a + 3 + 7 * (cz g a form long).cnt + 1))) ((AH.a8 _ _ hne).trans h0)) q
end
def tokOf (x:Str):T:=if x∈[("b" : Str),"c", "await"] then .name x else if x = "7" then .num else if x∈[("int" : Str),"is", "as"] then .word x else .sign x
abbrev d9 (x:Str):Prop:=x = ">>" ∨ x = ">>="
def PN (x:Str):Str:=if x = ">>" then ">" else ">="
def fu (pl:Nat):Pc→List (T×Int)
 | .m _=>[]
 | .w x=>if d9 x then [(.sign ">", (pl:Int)),(.sign (PN x),(pl:Int) + 1)] else [(tokOf x,(pl:Int))]
def eB (gap:Nat):Pc→Nat
 | .m _=>0
 | .w x=>x.length + gap
def toks (gap:Nat):Nat→List Pc→List (T×Int)
 | _,[]=>[]
 | pl,p :: r=>fu pl p ++ toks gap (pl + eB gap p) r
def span (gap:Nat):List Pc→Nat
 | []=>0
 | p :: r=>eB gap p + span gap r
def bS (gap:Nat):Nat→List Pc→Option Nat
 | _,[]=>none
 | pl,.m k :: r=>if 40 < k then some pl else bS gap pl r
 | pl,.w x :: r=>bS gap (pl + eB gap (.w x)) r
theorem jY {gap pl:Nat} {p:Pc} {r:List Pc}:toks gap pl (p :: r)=fu pl p ++ toks gap (pl + eB gap p) r:=rfl
theorem jO {gap:Nat} {p:Pc} {r:List Pc}:span gap (p :: r)=eB gap p + span gap r:=rfl
theorem Ky {gap pl:Nat}:toks gap pl []=[]:=rfl
theorem Gl {gap:Nat}:span gap []=0:=rfl
theorem wm {gap pl k:Nat} {r:List Pc}:bS gap pl (.m k :: r)=if 40 < k then some pl else bS gap pl r:=rfl
theorem Ed {gap pl:Nat} {x:Str} {r:List Pc}:bS gap pl (.w x :: r)=bS gap (pl + eB gap (.w x)) r:=rfl
theorem dh (gap:Nat) (ps qs:List Pc) (pl:Nat):toks gap pl (ps ++ qs)=toks gap pl ps ++ toks gap (pl + span gap ps) qs:=by
 induction ps generalizing pl with
 | nil=>rfl
 | cons p ps ih=>rw [List.cons_append,jY,jY,ih,jO,List.append_assoc,Nat.add_assoc]
theorem l8 (gap:Nat):∀ (ps qs:List Pc),span gap (ps ++ qs)=span gap ps + span gap qs
 | [],qs=>(Nat.zero_add _).symm
 | p :: ps,qs=>by rw [List.cons_append,jO,jO,l8 gap ps qs]; omega
theorem aV (gap:Nat) (ps qs:List Pc) (pl:Nat):bS gap pl (ps ++ qs)=(match bS gap pl ps with | some b=>some b | none=>bS gap (pl + span gap ps) qs):=by
 induction ps generalizing pl with
 | nil=>rfl
 | cons p ps ih=>
  cases p with
  | m k=>
   rw [List.cons_append,wm,wm]
   by_cases h:40 < k
   ·rw [if_pos h,if_pos h]
   ·rw [if_neg h,if_neg h,ih,jO,eB,Nat.zero_add]
  | w x=>rw [List.cons_append,Ed,Ed,ih,jO,Nat.add_assoc] at ⊢
def zD (o:Option Nat):V:=.int (match o with | some b=>(b:Int) | none=>-1)
theorem Cw {x:Str} (h:d9 x):Txt.slice x (some 1) none=PN x:=by
 rcases h with rfl | rfl <;> decide +kernel
abbrev I7 (ps:List Pc) (gap:Nat) (lt:Addr) (b pl p s:Option V):Fm:=[some (q8 ps),some (.int gap),some (.ref lt),b,pl,p,s]
abbrev GU (gap:Nat) (ps:List Pc) (lt:Addr):List (Addr×List V):=[(lt,(toks gap 0 ps).map bQ)]
section
variable {b:Bs} {n:Nat} {hd:Option Addr} {σ τ β:AH} {Φ:Pv} {Ψ:Addr→AH→Prop} {X:XX} {r:Fm} {v w:V} {Θ:Ph} {xs ys:List V} {i j:Int} {x:Str} {k:Nat} {lt a:Addr} {body rest:TS} {Y:Fm→Addr→AH→Prop} {ps A:List Pc} {gap:Nat} {l l':List (Addr×List V)}
theorem JV (q:Φ (.bool true) σ):TC b n hd (.builtin "isinstance") [.int i,.ty "int"] σ Φ Ψ:=.of (Gg q)
theorem Lx (q:Φ (.bool false) σ):TC b n hd (.builtin "isinstance") [.str x,.ty "int"] σ Φ Ψ:=.of (w4 q)
theorem rz (A:List Pc) (p:Pc):toks gap 0 (A ++ [p])=toks gap 0 A ++ fu (span gap A) p:=by
 rw [dh,Nat.zero_add,jY,Ky,List.append_nil]
theorem rK (A:List Pc) (p:Pc):span gap (A ++ [p])=span gap A + eB gap p:=by rw [l8,jO,Gl,Nat.add_zero]
theorem AX (A:List Pc) (p:Pc):bS gap 0 (A ++ [p])=(match bS gap 0 A with | some b=>some b | none=>bS gap (span gap A) [p]):=by rw [aV,Nat.zero_add]
theorem JH (A:List Pc) (x:Str):bS gap 0 (A ++ [.w x])=bS gap 0 A:=by
 rw [AX]; cases bS gap 0 A <;> rfl
inductive Qn (Θ:Ph) (σ:AH) (ps:List Pc) (gap:Nat) (lt:Addr) (A:List Pc) (p:Pc):Prop
 | mk:(∀ s,LN σ (GU gap (A ++ [p]) lt)→Θ .next (I7 ps gap lt (some (zD (bS gap 0 (A ++ [p])))) (some (.int (span gap (A ++ [p])))) (some p.v) s) (lay σ (GU gap (A ++ [p]) lt)))→Qn Θ σ ps gap lt A p
theorem vM:(tokOf x).sort=3→(tokOf x).val=.tup [.int 7,.str ""]:=by
 unfold tokOf
 split
 ·intro h; cases h
 ·split
  ·intro _; rfl
  ·split <;> (intro h; cases h)
theorem uL:¬ (tokOf x).sort=3→(tokOf x).val=.str x:=by
 unfold tokOf
 split
 ·intro _; rfl
 ·split
  ·intro h; exact absurd rfl h
  ·split <;> (intro _; rfl)
theorem P6 (hx:x.length≤1000) (h2:¬ d9 x) (hl:(toks gap 0 A).length≤99000) (N:LN σ (GU gap A lt)) (h:Qn Θ σ ps gap lt A (.w x)):
  gY ⟨b,n,hd,Y⟩ (I7 ps gap lt (some (zD (bS gap 0 A))) (some (.int (span gap A))) (some (.str x)) (some (.int (tokOf x).sort))) (lay σ (GU gap A lt)) Θ:=by
 refine bz (v:=bQ (tokOf x,(span gap A:Int))) N .head (by rw [List.length_map]; omega) (fun Φ h=>ay (fun hs=>?_) fun hs=>?_) fun N2=>uP (by omega) ?_
 ·have:=vM (eq_of_beq hs)
  unfold bQ at h; rw [this] at h; exact h
 ·have:=uL (ne_of_beq_false hs)
  unfold bQ at h; rw [this] at h; exact h
 have e1:(toks gap 0 A).map bQ ++ [bQ (tokOf x,(span gap A:Int))]=(toks gap 0 (A ++ [.w x])).map bQ:=by
  rw [rz,fu,if_neg h2,List.map_append]; rfl
 have e2:((span gap A:Int) + (x.length:Int) + (gap:Int))=((span gap (A ++ [.w x]):Nat):Int):=by rw [rK,eB]; push_cast; omega
 rw [e1] at N2 ⊢
 cases h with
 | mk h=>rw [JH,← e2] at h; exact h _ N2
theorem z4 {p:Pc} {s:Option V} (hp:∀ x,p=.w x→x.length≤1000) (hl:(toks gap 0 A).length≤99000 - 2) (N:LN σ (GU gap A lt)) (h:Qn Θ σ ps gap lt A p):
  fO ⟨b,n,hd,Y⟩ (I7 ps gap lt (some (zD (bS gap 0 A))) (some (.int (span gap A))) (some p.v) s) (lay σ (GU gap A lt)) Θ:=by
 cases p with
 | m q=>
  cases h with
  | mk h=>
  have e0:toks gap 0 (A ++ [.m q])=toks gap 0 A:=by rw [rz]; exact List.append_nil _
  have e1:GU gap (A ++ [.m q]) lt=GU gap A lt:=congrArg (fun t:List (T×Int)=>[(lt,t.map bQ)]) e0
  have e2:span gap (A ++ [.m q])=span gap A:=rK A (.m q)
  have e3:=AX (gap:=gap) A (.m q)
  rw [e1,e2] at h
  refine JV ?_
  cases hb:bS gap 0 A with
  | some d=>
   rw [hb] at e3
   rw [e3] at h
   exact ay (fun _=>h s N) fun _=>h s N
  | none=>
   rw [hb] at e3
   have e3:bS gap 0 (A ++ [.m q])=if 40 < q then some (span gap A) else none:=e3
   refine ay (fun hi=>?_) fun hi=>?_
   ·rw [e3,if_pos (by have:=of_decide_eq_true hi; omega)] at h
    exact h s N
   ·rw [e3,if_neg (by have:=of_decide_eq_false hi; omega)] at h
    exact h s N
 | w x=>
  have hx:=hp x rfl
  refine Lx (eP (.sst (ks:=[">>", ">>="]) rfl) (ay (fun hi=>?_) fun hi=>?_))
  ·have h2:d9 x:=by
    rcases List.mem_cons.mp (of_decide_eq_true hi) with e | e
    ·exact .inl e
    ·exact .inr (List.mem_singleton.mp e)
   refine bz N .head (by rw [List.length_map]; omega) (fun _ h=>h) fun N2=>bz (v:=.tup [.int 6,.str (PN x),.int ((span gap A:Int) + 1)]) N2 .head (by rw [List.length_append,List.length_map,List.length_singleton]; omega) (fun _ h=>.inr ⟨x,rfl,rfl,by omega,by rw [Cw h2]; exact h⟩) fun N3=>uP (by omega) ?_
   have e1:(toks gap 0 A).map bQ ++ [V.tup [.int 6,.str ">", .int (span gap A)]] ++ [.tup [.int 6,.str (PN x),.int ((span gap A:Int) + 1)]]=(toks gap 0 (A ++ [.w x])).map bQ:=by
    rw [rz,fu,if_pos h2,List.map_append,List.append_assoc]; rfl
   have e2:((span gap A:Int) + (x.length:Int) + (gap:Int))=((span gap (A ++ [.w x]):Nat):Int):=by rw [rK,eB]; push_cast; omega
   rw [e1] at N3 ⊢
   cases h with
   | mk h=>rw [JH,← e2] at h; exact h _ N3
  ·have h2:¬ d9 x:=fun e=>of_decide_eq_false hi (by
    rcases e with e | e
    ·rw [e]; exact .head _
    ·rw [e]; exact .tail _ (.head _))
   have go:=P6 (b:=b) (n:=n) (hd:=hd) (Y:=Y) (Θ:=qT bN ⟨b,n,hd,Y⟩ (qT bN ⟨b,n,hd,Y⟩ Θ)) hx h2 (by omega) N (by cases h with | mk h=>exact .mk h)
   refine eP (.sst (ks:=["b", "c", "await"]) rfl) (ay (fun h3=>?_) fun h3=>ay (fun h4=>?_) fun h4=>eP (.sst (ks:=["int", "is", "as"]) rfl) (ay (fun h5=>?_) fun h5=>?_))
   ·rw [show tokOf x=.name x by rw [tokOf,if_pos (of_decide_eq_true h3)]] at go; exact go
   ·rw [show tokOf x=.num by rw [tokOf,if_neg (of_decide_eq_false h3),if_pos (eq_of_beq h4)]] at go; exact go
   ·rw [show tokOf x=.word x by rw [tokOf,if_neg (of_decide_eq_false h3),if_neg (ne_of_beq_false h4),if_pos (of_decide_eq_true h5)]] at go; exact go
   ·rw [show tokOf x=.sign x by rw [tokOf,if_neg (of_decide_eq_false h3),if_neg (ne_of_beq_false h4),if_neg (of_decide_eq_false h5)]] at go; exact go
theorem Nn {N:Nat} (he:xs.length=N) (I:Nat→Fm→AH→Prop) (h0:I 0 r σ) (ht:∀ j y r σ,xs[j]?=some y→I j r σ→body X (r.set k (some y)) σ (HB rest X Θ (I (j + 1)))) (hend:∀ r σ,I N r σ→rest X r σ Θ):WF k body rest X (.fl xs) r σ Θ:=by
 subst he
 unfold WF
 exact ⟨_,I,fun _ _ _ _=>.list .fl,h0,ht,hend⟩
inductive Qi (σ:AH) (ps:List Pc) (gap:Nat) (lt:Addr) (k:Nat):Fm→AH→Prop
 | mk {q s:Option V}:LN σ (GU gap (ps.take k) lt)→Qi σ ps gap lt k (I7 ps gap lt (some (zD (bS gap 0 (ps.take k)))) (some (.int (span gap (ps.take k)))) q s) (lay σ (GU gap (ps.take k) lt))
theorem tE (hl:(toks gap 0 ps).length≤98000) (hw:∀ x,.w x∈ps→x.length≤1000) (q:Φ (.tup [.fl ((toks gap 0 ps ++ [(T.fin,(span gap ps:Int))]).map bQ),zD (bS gap 0 ps)]) σ):
  TC b (n + 1) none (.ref 1207) [q8 ps,.int gap] σ Φ Ψ:=by
 refine .ent (sU fun lt h1=>Nn (N:=ps.length) (by rw [List.length_map]) (Qi σ ps gap lt) (.mk (LN.nil.new h1)) ?_ ?_)
 ·rintro k y r τ hy ⟨N⟩
  rw [List.getElem?_map] at hy
  obtain ⟨p,hp,rfl⟩:=Option.map_eq_some_iff.mp hy
  obtain ⟨hk,hpe⟩:=List.getElem?_eq_some_iff.mp hp
  have hps:ps.take (k + 1)=ps.take k ++ [p]:=by rw [List.take_succ_eq_append_getElem hk,hpe]
  have hlen:(toks gap 0 (ps.take k)).length≤98000:=by
   have e:toks gap 0 ps=toks gap 0 (ps.take k) ++ toks gap (0 + span gap (ps.take k)) (ps.drop k):=by rw [← dh,List.take_append_drop]
   rw [e,List.length_append] at hl; omega
  refine z4 (fun x e=>hw x (by rw [← e]; exact List.mem_of_getElem? hp)) (by omega) N (.mk fun s N'=>?_)
  have:=@Qi.mk σ ps gap lt (k + 1) (some p.v) s
  rw [hps] at this; exact this N'
 ·rintro r τ ⟨N⟩
  rw [List.take_length] at N ⊢
  refine bz N .head (by rw [List.length_map]; omega) (fun _ h=>h) fun N2=>⟨_,_,N2.fl .head .head,_,_,(N2.del (a:=lt) .head).2.drop.v,?_⟩
  rw [List.map_append] at q; exact q
end
mutual
inductive aq:V→List Rw→Prop
 | none:aq .none [⟨0,.str "", 0⟩]
 | node {k:Int} {a:V} {kids:List V} {at_:V} {rs:List Rw}:((∃ x,a=.str x)∨a=.tup [.int 7,.str ""])→kids.length≤10→cu kids rs→aq (node k a kids at_) (⟨k,a,kids.length⟩ :: rs)
inductive cu:List V→List Rw→Prop
 | nil:cu [] []
 | cons {v:V} {r:List Rw} {vs:List V} {rs:List Rw}:aq v r→cu vs rs→cu (v :: vs) (r ++ rs)
end
def Km (R:List Rw):Prop:=∀ r∈R,(∃ x,r.a=.str x)∨r.a=.tup [.int 7,.str ""]
theorem aq.ok {v:V} {R:List Rw} (h:aq v R):Km R:=by
 refine h.rec (motive_1:=fun _ R _=>Km R) (motive_2:=fun _ R _=>Km R) ?_ ?_ ?_ ?_
 ·intros; intro r hr; rw [List.mem_singleton.mp hr]; exact .inl ⟨_,rfl⟩
 ·intros; rename_i ha _ _ h; intro r hr
  rcases List.mem_cons.mp hr with rfl | hr
  ·exact ha
  ·exact h r hr
 ·intro r hr; exact nomatch hr
 ·intros; rename_i h1 h2; intro r hr
  exact (List.mem_append.mp hr).elim (h1 r) (h2 r)
theorem aq.pos {v:V} {r:List Rw} (h:aq v r):0 < r.length:=by cases h <;> exact Nat.succ_pos _
theorem cu.app {vs ws:List V} {r s:List Rw} (h:cu vs r) (h2:cu ws s):cu (vs ++ ws) (r ++ s):=by
 induction vs generalizing r with
 | nil=>cases h; exact h2
 | cons v vs ih=>
  cases h with
  | cons a b=>rw [List.append_assoc]; exact .cons a (ih b)
theorem cu.len {vs:List V} {r:List Rw} (h:cu vs r):vs.length≤r.length:=by
 induction vs generalizing r with
 | nil=>exact Nat.zero_le _
 | cons v vs ih=>
  cases h with
  | cons a b=>have:=ih b; have:=a.pos; rw [List.length_cons,List.length_append]; omega
section
variable {b:Bs} {n:Nat} {hd:Option Addr} {σ τ β:AH} {Φ:Pv} {Ψ:Addr→AH→Prop} {X:XX} {r:Fm} {v w:V} {Θ:Ph} {xs ys:List V} {i j:Int} {x:Str} {k:Nat} {lr ls a:Addr} {body rest:TS} {Y:Fm→Addr→AH→Prop} {l l':List (Addr×List V)} {st:List V} {done rem:List Rw}
theorem Ff {xs:List V}:jB xs none none (some (-1))=xs.reverse:=by
 unfold jB
 rw [krv_bounds,krv_sliceRange,krv_range,List.filterMap_reverse]
 have h:=rD (xs:=xs) (a:=0) xs.length
 have e:(List.range xs.length).map (0 + ·)=List.range xs.length:=by
  rw [show ((0 + ·):Nat→Nat)=id from funext fun k=>Nat.zero_add k,List.map_id]
 rw [e,List.drop_zero,List.take_length] at h
 rw [h]
theorem J5 {c:Cx} (I:ec σ v xs) (hl:xs.length≤100000) (q:Φ (.fl xs.reverse) σ):J9 v none none (some (-1)) σ (GV c Φ):=
 .inl ⟨xs,I,by simp,hl,fun a ha=>⟨_,_,b7.fl (AH.a9 ..),by rw [AH.dw ha,Ff]; exact q⟩⟩
theorem NF (N:LN σ l) (k:LP a (xs ++ [v]) xs l l') (hl:xs.length≤100000) (q:LN σ l'→Φ v (lay σ l')):JE X r (.ref a) "list.pop" a0 (lay σ l) Φ:=
 tT (N.get k.la) (mT (N.get k.la) hl (by rw [N.up k.lu]; exact q (N.set k.lu)))
abbrev MW (root:V) (lr ls:Addr) (nd:Option V):Fm:=[some root,some (.ref lr),some (.ref ls),nd]
abbrev ML (lr ls:Addr) (st:List V) (done:List Rw):List (Addr×List V):=[(ls,st.reverse),(lr,done.map Rw.v)]
inductive RI (σ:AH) (v:V) (lr ls:Addr) (R:List Rw):Nat→Fm→AH→Prop
 | mk {st:List V} {done rem:List Rw} {nd:Option V}:done ++ rem=R→cu st rem→LN σ (ML lr ls st done)→RI σ v lr ls R rem.length (MW v lr ls nd) (lay σ (ML lr ls st done))
theorem Dc {u:V} {ru rs R:List Rw} {nd:Option V} (hR:done ++ (ru ++ rs)=R) (hl:R.length≤90000) (hu:aq u ru) (hs:cu st rs) (N:LN σ (ML lr ls (u :: st) done)) (h:∀ k r τ,RI σ v lr ls R k r τ→k < (ru ++ rs).length→Θ .next r τ):
  j7 ⟨b,n,hd,Y⟩ (MW v lr ls nd) (lay σ (ML lr ls (u :: st) done)) Θ:=by
 have hlen:done.length + (ru.length + rs.length)=R.length:=by rw [← hR,List.length_append,List.length_append]
 have hsl:=hs.len
 have e0:ML lr ls (u :: st) done=[(ls,st.reverse ++ [u]),(lr,done.map Rw.v)]:=by rw [ML,List.reverse_cons]
 rw [e0] at N ⊢
 refine NF N .head (by rw [List.length_reverse]; omega) fun N2=>?_
 cases hu with
 | none=>
  refine bz N2 (.tail .head) (by rw [List.length_map]; omega) (fun _ h=>h) fun N3=>?_
  have e1:done.map Rw.v ++ [V.tup [.int 0,.str "", .int 0]]=(done ++ [(⟨0,.str "", 0⟩:Rw)]).map Rw.v:=by rw [List.map_append]; rfl
  rw [e1] at N3 ⊢
  exact h _ _ _ (.mk (by rw [← hR,List.append_assoc]) hs N3) (by rw [List.length_append,List.length_singleton]; omega)
 | @node kd a kids at_ rk hda hkl hk=>
  have nb:∀ id,a≠.bi id:=fun id e=>by rcases hda with ⟨x,h⟩ | h <;> (rw [h] at e; cases e)
  rw [List.length_cons] at hlen
  refine bz (v:=.tup [.int kd,a,.int kids.length]) N2 (.tail .head) (by rw [List.length_map]; omega) (fun _ h=>gJ (mj b.hK) .head (fun _ e=>by cases e) (gJ (uz b.hK) (.tail .head) nb (gJ (gy b.hK) (.tail (.tail .head)) (fun _ e=>by cases e) (cD .fl (by omega) h)))) fun N3=>
   gZ (ys:=kids.reverse) N3 .head .fl (by rw [List.length_reverse,List.length_reverse]; omega) (fun _ h=>⟨_,_,b7.refl _ _,gJ (gy b.hK) (.tail (.tail .head)) (fun _ e=>by cases e) (J5 .fl (by omega) h)⟩) fun N4=>?_
  have e1:done.map Rw.v ++ [V.tup [.int kd,a,.int kids.length]]=(done ++ [(⟨kd,a,kids.length⟩:Rw)]).map Rw.v:=by rw [List.map_append]; rfl
  have e2:st.reverse ++ kids.reverse=(kids ++ st).reverse:=by rw [List.reverse_append]
  rw [e1,e2] at N4 ⊢
  exact h _ _ _ (.mk (by rw [← hR,List.append_assoc]; rfl) (hk.app hs) N4) (by rw [List.length_append,List.length_append,List.length_cons]; omega)
theorem xt {R:List Rw} (hv:aq v R) (hl:R.length≤90000) (q:Φ (ax R) σ):TC b (n + 1) none (.ref 1214) [v] σ Φ Ψ:=by
 refine z5 fun lr h1 ls h2=>ww (RI σ v lr ls R) R.length (.mk (st:=[v]) (done:=[]) (nd:=none) rfl (by have:=cu.cons hv .nil; rwa [List.append_nil] at this) ((LN.nil.new h1).new h2)) ?_
 rintro k r τ ⟨hR,hst,N⟩
 rename_i st done rem nd
 have hRl:done.length + rem.length=R.length:=by rw [← hR,List.length_append]
 have hsl:=hst.len
 refine cD (.ref (N.get .head)) (by rw [List.length_reverse]; omega) ?_
 cases hst with
 | nil=>
  rw [List.append_nil] at hR
  subst hR
  exact ⟨_,_,(N.fl (.tail .head) (.tail .head)).trans ((N.del (a:=lr) (.tail .head)).2.drop.v),q⟩
 | cons hu hs=>
  exact eH (decide_eq_true (by rw [List.length_reverse,List.length_cons]; omega)) (Dc hR hl hu hs N fun k r τ hI hk=>⟨_,hk,hI⟩)
end
structure Md (σ:AH) (ap dp:Addr) (pa fi ta st me:V):Prop where
 p:σ ap=some (.inst bY dp)
 d:∃ t a g e f,σ dp=some (.ds b8 [t,a,g,pa,fi,ta,st,me,e,f,.str ""])
theorem HT {r:Rw} (h:(∃ x,r.a=.str x)∨r.a=.tup [.int 7,.str ""]):V.Data 3 r.v:=by
 refine .tup fun x hx=>?_
 simp only [List.mem_cons,List.not_mem_nil,or_false] at hx
 rcases hx with rfl | rfl | rfl
 ·exact .int
 ·rcases h with ⟨x,h⟩ | h
  ·rw [h]; exact .str
  ·rw [h]
   refine .tup fun x hx=>?_
   simp only [List.mem_cons,List.not_mem_nil,or_false] at hx
   rcases hx with rfl | rfl
   ·exact .int
   ·exact .str
 ·exact .int
abbrev S0 (deep:Nat):c8:={ i:=0,deep:=deep,asy:=true,rows:=[] }
abbrev Nw (ap:Addr) (ps:List Pc) (R:List Rw) (deep gap:Nat) (tk b nd f:Option V):Fm:=[some (.ref ap),some (q8 ps),some (ax R),some (.int deep),some (.int gap),tk,b,nd,f]
section
variable {b:Bs} {n:Nat} {hd:Option Addr} {σ τ β:AH} {Φ:Pv} {Ψ:Addr→AH→Prop} {X:XX} {r:Fm} {v w:V} {Θ:Ph} {xs ys:List V} {i j:Int} {x:Str} {k:Nat} {ap dp a:Addr} {body rest:TS} {Y:Fm→Addr→AH→Prop} {P:b9} {S:c8}
theorem I3 {c:Cx} (hK:c.K=K c.w.params):CW c.K cq "code" = true:=by rw [hK]; kernel_rfl
theorem NG {c:Cx} (hK:c.K=K c.w.params):CW c.K cq "at" = true:=by rw [hK]; kernel_rfl
theorem ud (q:∀ dg dd dr,σ dg=none→σ dd=none→σ dr=none→dg≠dd→dr≠dg→dr≠dd→Φ (.ref dg) ((σ.mk dg dd cy ["rows"] [.ref dr]).upd dr (.list []))):TC b (n + 2) hd (.ref cy) [] σ Φ Ψ:=
 rC (FU b.hK) fun dg dd h1 h2 hne=>nY fun dr hdr=>by
  have n1:dr≠dg:=fun e=>by rw [e,AH.mz] at hdr; cases hdr
  have n2:dr≠dd:=fun e=>by rw [e,AH.jC hne] at hdr; cases hdr
  have h3:σ dr=none:=by unfold AH.mk at hdr; rw [AH.a8 _ _ n1,AH.a8 _ _ n2] at hdr; exact hdr
  unfold Py OS
  refine ⟨dg,cy,dd,[],[],["rows"],[.ref dr],rfl,?_,?_,sz b.hK,by simp,.new (by simp),?_⟩
  ·rw [AH.a8 _ _ n1.symm]; exact AH.mz
  ·rw [AH.a8 _ _ n2.symm]; exact AH.jC hne
  ·rw [AH.aF _ _ _ n2,AH.F6 hne]; exact ⟨rfl,q dg dd dr h1 h2 h3 hne n1 n2⟩
theorem uQ {vs vs':List V} {k:AH→Prop} (hp:σ ap=some (.inst bY dp)) (hne:ap≠dp) (sa:bJ b.c.K bY x=true) (kp:KP x v b8 vs vs') (q:k (σ.upd dp (.ds b8 vs'))):OS b (.ref ap) (σ.upd dp (.ds b8 vs)) x v k:=by
 unfold OS; exact ⟨_,_,_,_,_,_,_,rfl,(AH.a8 _ _ hne).trans hp,AH.a9 ..,sa,(show 11≤900 by omega),.old kp,by rw [AH.aU]; exact q⟩
theorem Eh {C dd:Addr} {ks:List Str} {vs:List V} (h1:σ a=some (.exc C dd)) (h2:σ dd=some (.ds ks vs)) (h3:CW b.c.K C x=true) (h4:KV x v ks vs) (nb:∀ id,v≠.bi id) (q:Φ v σ):OG b (.ref a) σ x Φ:=by
 unfold OG; exact ⟨v,.exc h1 h2 h3 h4,nb,q⟩
theorem I8 {ps:List Pc} {R:List Rw} {deep gap:Nat} {f:Option V} (g:PG P σ) (hl:P.ts.length=k + 1) (hR:aq v R) (hRl:R.length≤90000) (q:Φ (.bool true) (P.set σ { S0 deep with i:=k })):
  iw ⟨b,n + 2,none,fun _=>Ψ⟩ (Nw P.ap ps R deep gap (some (.fl (P.ts.map bQ))) (some (zD none)) (some v) f) (P.set σ { S0 deep with i:=k }) (aZ Φ):=by
 have e:(((P.ts.map bQ).length:Nat):Int) - 1=(k:Int):=by rw [List.length_map,hl]; omega
 have h:∀ {i:Int},(i != i)=false:=fun {i}=>by rw [bne_self_eq_false]
 have h0:((k:Int) != (((P.ts.map bQ).length:Nat):Int) - 1)=false:=by rw [e]; exact h
 refine ky (S:={ S0 deep with i:=k }) g (cD .fl g.tl (aL h0 (my (S:={ S0 deep with i:=k }) g (aL h (iZ (S:={ S0 deep with i:=k }) g (jn (S:={ S0 deep with i:=k }) g ⟨.mk (k:=1) (.ref (g.at _).r) .fl (fun z hz=>nomatch hz) (by decide),xt hR hRl ?_⟩))))))
 refine ⟨.mk (k:=3) .fl .fl (fun z hz=>?_) (by decide),q⟩
 obtain ⟨r,hr,rfl⟩:=List.mem_map.mp hz
 exact HT (hR.ok r hr)
theorem J8 {ps:List Pc} {R:List Rw} {deep gap:Nat} {nd f:Option V} {o:Option Nat} (g:PG P σ) (hl:P.ts.length=k + 1) (hRl:R.length≤90000)
  (H:(o=none∧∃ v,cZ b (n + 2) P (S0 deep) 0 k v∧aq v R)∨(∃ d,o=some d∧dt b (n + 2) P (S0 deep) 0 d)) (q:∀ τ,(o=none→τ=P.set σ { S0 deep with i:=k })→Φ (.bool true) τ):
  eJ ⟨b,n + 2,none,fun _=>Ψ⟩ (Nw P.ap ps R deep gap (some (.fl (P.ts.map bQ))) (some (zD o)) nd f) (P.set σ (S0 deep)) (aZ Φ):=by
 rcases H with ⟨rfl,v,hv,hR⟩ | ⟨d,rfl,hbad⟩
 ·exact hv g (I8 g hl hR hRl (q _ fun _=>rfl))
 ·refine hbad g fun a σ4 ⟨dd',S',hP2,hrows,hx1,hx2⟩=>?_
  have hr0:σ4 P.dr=some (.list []):=by have:=hP2.r; rw [hrows] at this; exact this
  have g2:PG P σ4:=.mk hP2
  have e:=hP2.gc
  unfold Qg hA MB
  refine ⟨_,_,_,_,_,hx1,kf b.hK,Eh hx1 hx2 (I3 b.hK) .head (fun _ e=>by cases e) (Eh hx1 hx2 (NG b.hK) (.tail .head) (fun _ e=>by cases e) (eH (beq_self_eq_true _) ?_))⟩
  rw [← e] at hr0 ⊢
  exact iZ g2 (jn g2 ⟨.mk (k:=1) (.ref hr0) .fl (fun z hz=>nomatch hz) (by decide),q _ fun e=>nomatch e⟩)
theorem wc {pa fi ta st me:V} {ps:List Pc} {R:List Rw} {deep gap:Nat} (hr:Md σ ap dp pa fi ta st me) (hl:(toks gap 0 ps).length≤98000) (hw:∀ x,.w x∈ps→x.length≤1000) (hRl:R.length≤90000)
  (H:∀ P:b9,P.parts=pa→P.firsts=fi→P.tails=ta→P.ts=toks gap 0 ps ++ [(T.fin,(span gap ps:Int))]→
   (bS gap 0 ps=none∧∃ v,cZ b (n + 2) P (S0 deep) 0 (toks gap 0 ps).length v∧aq v R)∨(∃ d,bS gap 0 ps=some d∧dt b (n + 2) P (S0 deep) 0 d))
  (q:∀ τ,(bS gap 0 ps=none→Md τ ap dp pa fi ta st me∧∀ b o,b≠dp→σ b=some o→τ b=some o)→Φ (.bool true) τ):
  TC b (n + 3) none (.ref 1221) [.ref ap,q8 ps,ax R,.int deep,.int gap] σ Φ Ψ:=by
 obtain ⟨hp,t0,b0,g0,e0,f0,Jw⟩:=hr
 have hne:ap≠dp:=fun e=>by rw [e,Jw] at hp; cases hp
 refine vi (tE (n:=n + 1) hl hw ?_)
 have e0:=AH.fV Jw
 generalize hts:toks gap 0 ps ++ [(T.fin,(span gap ps:Int))]=ts at H
 rw [← e0]
 refine uQ hp hne (fZ b.hK) .head (uQ hp hne (gw b.hK) (.tail .head) (uQ hp hne (ez b.hK) (.tail (.tail (.tail (.tail (.tail (.tail (.tail (.tail .head)))))))) (uQ hp hne (d5 b.hK) (.tail (.tail (.tail (.tail (.tail (.tail (.tail (.tail (.tail .head)))))))))
  (ud (n:=n) fun dg dd dr g1 g2 g3 n1 n2 n3=>?_))))
 generalize hσ1:σ.upd dp (.ds b8 [.fl (ts.map bQ),.int 0,g0,pa,fi,ta,st,me,.int deep,.bool true,.str ""])=σ1 at g1 g2 g3 ⊢
 have k1:σ1 ap=some (.inst bY dp):=by rw [← hσ1]; exact (AH.a8 _ _ hne).trans hp
 have k2:σ1 dp=some (.ds b8 [.fl (ts.map bQ),.int 0,g0,pa,fi,ta,st,me,.int deep,.bool true,.str ""]):=by rw [← hσ1]; exact AH.a9 ..
 have k3:∀ b o,b≠dp→σ b=some o→σ1 b=some o:=fun b o hb hbo=>by rw [← hσ1]; exact (AH.a8 _ _ hb).trans hbo
 have miss:∀ {b:Addr} {o:AO},σ1 b=some o→b≠dg∧b≠dd∧b≠dr:=fun {b o} hb=>⟨(fun e=>by rw [e,g1] at hb; cases hb),(fun e=>by rw [e,g2] at hb; cases hb),(fun e=>by rw [e,g3] at hb; cases hb)⟩
 have up2:∀ {b:Addr} {o:AO},σ1 b=some o→((σ1.mk dg dd cy ["rows"] [.ref dr]).upd dr (.list [])) b=some o:=fun {b o} hb=>by
  obtain ⟨m1,m2,m3⟩:=miss hb
  unfold AH.mk
  rw [AH.a8 _ _ m3,AH.a8 _ _ m1,AH.a8 _ _ m2]; exact hb
 obtain ⟨m1,m2,m3⟩:=miss k2
 have d1:((σ1.mk dg dd cy ["rows"] [.ref dr]).upd dr (.list [])) dg=some (.inst cy dd):=(AH.a8 _ _ n2.symm).trans AH.mz
 have d2:((σ1.mk dg dd cy ["rows"] [.ref dr]).upd dr (.list [])) dd=some (.ds ["rows"] [.ref dr]):=(AH.a8 _ _ n3.symm).trans (AH.jC n1)
 have d3:((σ1.mk dg dd cy ["rows"] [.ref dr]).upd dr (.list [])) dr=some (.list []):=AH.a9 ..
 have hdr:∀ b o,σ b=some o→b≠dr:=fun b o hbo=>by
  by_cases hb:b=dp
  ·rw [hb]; exact m3
  ·exact (miss (k3 b o hb hbo)).2.2
 have kp:∀ b o,b≠dp→σ b=some o→((σ1.mk dg dd cy ["rows"] [.ref dr]).upd dr (.list [])) b=some o:=fun b o hb hbo=>up2 (k3 b o hb hbo)
 have h1:=up2 k1
 have h2:=up2 k2
 generalize (σ1.mk dg dd cy ["rows"] [.ref dr]).upd dr (.list [])=σ2 at d1 d2 d3 kp h1 h2 ⊢
 have len:ts.length=(toks gap 0 ps).length + 1:=by rw [← hts,List.length_append,List.length_singleton]
 let P:b9:=⟨ap,dp,dg,dd,dr,ts,pa,fi,ta,st,me⟩
 have hP:qp (σ2.upd dp (.ds b8 [.fl (ts.map bQ),.int 0,.ref dg,pa,fi,ta,st,me,.int deep,.bool true,.str ""])) P (S0 deep):=
  ⟨(AH.a8 _ _ hne).trans h1,AH.a9 ..,(AH.a8 _ _ m1.symm).trans d1,(AH.a8 _ _ m2.symm).trans d2,(AH.a8 _ _ m3.symm).trans d3,by show ts.length≤100000; omega⟩
 have kp2:∀ b o,b≠dp→σ b=some o→(σ2.upd dp (.ds b8 [.fl (ts.map bQ),.int 0,.ref dg,pa,fi,ta,st,me,.int deep,.bool true,.str ""])) b=some o:=fun b o hb hbo=>(AH.a8 _ _ hb).trans (kp b o hb hbo)
 unfold Py OS
 refine ⟨_,_,_,_,_,_,_,rfl,h1,h2,i5 b.hK,(show 11≤900 by omega),.old (.tail (.tail .head)),?_⟩
 generalize σ2.upd dp (.ds b8 [.fl (ts.map bQ),.int 0,.ref dg,pa,fi,ta,st,me,.int deep,.bool true,.str ""])=σ3 at hP kp2 ⊢
 have HP:=H P rfl rfl rfl rfl
 have e3:=hP.gc
 change eJ _ _ σ3 _
 rw [← e3]
 refine J8 (P:=P) (.mk hP) len hRl HP fun τ hτ=>q τ fun hb=>?_
 rw [hτ hb]
 have hP2:=hP.set { S0 deep with i:=(toks gap 0 ps).length }
 refine ⟨⟨hP2.p,_,_,_,_,_,hP2.d⟩,fun b o hb hbo=>?_⟩
 unfold b9.set
 rw [AH.a8 _ _ (hdr b o hbo),AH.a8 _ _ hb]; exact kp2 b o hb hbo
end
structure yF where
 ap:Addr
 dp:Addr
 pa:Addr
 fi:Addr
 ta:Addr
 t:V
 g:V
 st:V
 me:V
abbrev yF.vals (A:yF):List V:=[A.t,.int 0,A.g,.ref A.pa,.ref A.fi,.ref A.ta,A.st,A.me,.int 0,.bool false,.str ""]
structure iM (σ0:AH) (A:yF) (pk:List Int) (pv:List V) (fk:List Str) (fv:List V) (tk:List Str) (tv:List V) (σ:AH):Prop where
 p:σ A.ap=some (.inst bY A.dp)
 d:σ A.dp=some (.ds b8 A.vals)
 pa:σ A.pa=some (.di pk pv)
 fi:σ A.fi=some (.ds fk fv)
 ta:σ A.ta=some (.ds tk tv)
 n1:A.fi≠A.dp
 n2:A.ta≠A.dp
 n3:A.fi≠A.ta
 fr:∀ b o,σ0 b=some o→(b≠A.pa∧b≠A.fi∧b≠A.ta)∧σ b=some o
section
variable {σ0 σ τ:AH} {A:yF} {pk:List Int} {pv fv tv:List V} {fk tk:List Str}
theorem iM.PS (I:iM σ0 A pk pv fk fv tk tv σ):A.ap≠A.pa∧A.dp≠A.pa∧A.fi≠A.pa∧A.ta≠A.pa∧A.ap≠A.fi∧A.ap≠A.ta:=by
 exact ⟨AH.sep I.p I.pa rfl,AH.sep I.d I.pa rfl,AH.sep I.fi I.pa rfl,AH.sep I.ta I.pa rfl,AH.sep I.p I.fi rfl,AH.sep I.p I.ta rfl⟩
theorem iM.Q7 (I:iM σ0 A pk pv fk fv tk tv σ) {ks:List Str} {vs:List V}:iM σ0 A pk pv ks vs tk tv (σ.upd A.fi (.ds ks vs)):=by
 obtain ⟨q1,q2,q3,q4,q5,q6⟩:=I.PS
 refine ⟨?_,?_,?_,AH.a9 ..,?_,I.n1,I.n2,I.n3,fun b o hb=>⟨(I.fr b o hb).1,?_⟩⟩
 ·rw [AH.a8 _ _ q5]; exact I.p
 ·rw [AH.a8 _ _ I.n1.symm]; exact I.d
 ·rw [AH.a8 _ _ q3.symm]; exact I.pa
 ·rw [AH.a8 _ _ I.n3.symm]; exact I.ta
 ·rw [AH.a8 _ _ (I.fr b o hb).1.2.1]; exact (I.fr b o hb).2
theorem iM.Ql (I:iM σ0 A pk pv fk fv tk tv σ) {ks:List Str} {vs:List V}:iM σ0 A pk pv fk fv ks vs (σ.upd A.ta (.ds ks vs)):=by
 obtain ⟨q1,q2,q3,q4,q5,q6⟩:=I.PS
 refine ⟨?_,?_,?_,?_,AH.a9 ..,I.n1,I.n2,I.n3,fun b o hb=>⟨(I.fr b o hb).1,?_⟩⟩
 ·rw [AH.a8 _ _ q6]; exact I.p
 ·rw [AH.a8 _ _ I.n2.symm]; exact I.d
 ·rw [AH.a8 _ _ q4.symm]; exact I.pa
 ·rw [AH.a8 _ _ I.n3]; exact I.fi
 ·rw [AH.a8 _ _ (I.fr b o hb).1.2.2]; exact (I.fr b o hb).2
theorem iM.Qk (I:iM σ0 A pk pv fk fv tk tv σ) {ks:List Int} {vs:List V}:iM σ0 A ks vs fk fv tk tv (σ.upd A.pa (.di ks vs)):=by
 obtain ⟨q1,q2,q3,q4,q5,q6⟩:=I.PS
 refine ⟨?_,?_,AH.a9 ..,?_,?_,I.n1,I.n2,I.n3,fun b o hb=>⟨(I.fr b o hb).1,?_⟩⟩
 ·rw [AH.a8 _ _ q1]; exact I.p
 ·rw [AH.a8 _ _ q2]; exact I.d
 ·rw [AH.a8 _ _ q3]; exact I.fi
 ·rw [AH.a8 _ _ q4]; exact I.ta
 ·rw [AH.a8 _ _ (I.fr b o hb).1.1]; exact (I.fr b o hb).2
theorem NI:∀ k,k < 12→aP.getD k "" ∉ au.take (10 + k):=by decide +kernel
theorem M5:∀ k,k < 12→au.take (10 + k) ++ [aP.getD k ""]=au.take (10 + (k + 1)):=by decide +kernel
def FL:List Str:=["delegate", "sizeof", "stackalloc", "float", "double", "decimal"]
theorem Pj:∀ k,k < 6→FL.getD k "" ∉ au.take (27 + k):=by decide +kernel
theorem LH:∀ k,k < 6→au.take (27 + k) ++ [FL.getD k ""]=au.take (27 + (k + 1)):=by decide +kernel
theorem wZ {l:List V} {v:V} {a m k:Nat} (e:(l.drop a).take m=List.replicate m v) (h:k < m) (hl:a + m≤l.length):l.take (a + k) ++ [v]=l.take (a + (k + 1)):=by
 have h1:a + k < l.length:=by omega
 have h2:((l.drop a).take m)[k]?=some v:=by rw [e]; simp [h]
 rw [List.getElem?_take_of_lt h,List.getElem?_drop,List.getElem?_eq_getElem h1] at h2
 rw [← Nat.add_assoc,List.take_succ_eq_append_getElem h1,Option.some.inj h2]
theorem LS {a dd C:Addr} {ks:List Str} {vs:List V} {c:Cx} (h1:σ a=none) (h2:σ dd=none) (h:a≠dd):b7 c (.ref a) (σ.mk a dd C ks vs) (.obj C ks vs) σ:=by
 have:=b7.obj (c:=c) (AH.mz (σ:=σ) (a:=a) (dd:=dd) (C:=C) (ks:=ks) (vs:=vs)) (AH.jC h)
 rwa [AH.Ai h1 h2 h] at this
end
section
variable {b:Bs} {n:Nat} {hd:Option Addr} {σ σ0 τ β:AH} {Φ:Pv} {Ψ:Addr→AH→Prop} {X:XX} {r:Fm} {v w:V} {Θ:Ph} {xs ys:List V} {i j:Int} {x:Str} {k:Nat} {body rest:TS} {Y:Fm→Addr→AH→Prop} {A:yF} {pk:List Int} {pv fv tv:List V} {fk tk:List Str} {K:AH→Prop}
theorem aJ {C:Addr} (hm:aR b.c.K C=true) (q:Φ (.obj C [] []) σ):TC b n hd (.ref C) [] σ Φ Ψ:=.ent (.of (H8 hm fun _ _ h1 h2 h3=>⟨_,_,LS h1 h2 h3,q⟩))
theorem nU {k:V} (q:Φ (.obj eY ["kind"] [k]) σ):TC b (n + 2) hd (.ref eY) [k] σ Φ Ψ:=.ent (rC (vQ b.hK) fun _ _ h1 h2 h3=>iP (cI h3 (lC b.hK) (by decide) (by decide +kernel) ⟨rfl,_,_,LS h1 h2 h3,q⟩))
theorem je {k:V} (q:Φ (.obj jZ ["kind"] [k]) σ):TC b (n + 2) hd (.ref jZ) [k] σ Φ Ψ:=.ent (rC (wW b.hK) fun _ _ h1 h2 h3=>jA (cI h3 (oH b.hK) (by decide) (by decide +kernel) ⟨rfl,_,_,LS h1 h2 h3,q⟩))
theorem dB {k:Str} (I:iM σ0 A pk pv fk fv tk tv σ) (hk:k∉fk) (hl:fk.length≤1000) (q:∀ τ,iM σ0 A pk pv (fk ++ [k]) (fv ++ [v]) tk tv τ→K τ):OG b (.ref A.ap) σ "firsts" (fun x σ=>wF x (.str k) v σ K):=by
 unfold OG; exact ⟨_,.inst (.ref I.p I.d) (fQ b.hK) (.tail (.tail (.tail (.tail .head)))),(fun _ e=>by cases e),EF I.fi (by omega) (.new hk) (q _ I.Q7)⟩
theorem uE {k:Str} (I:iM σ0 A pk pv fk fv tk tv σ) (hk:k∉tk) (hl:tk.length≤1000) (q:∀ τ,iM σ0 A pk pv fk fv (tk ++ [k]) (tv ++ [v]) τ→K τ):OG b (.ref A.ap) σ "tails" (fun x σ=>wF x (.str k) v σ K):=by
 unfold OG; exact ⟨_,.inst (.ref I.p I.d) (i7 b.hK) (.tail (.tail (.tail (.tail (.tail .head))))),(fun _ e=>by cases e),EF I.ta (by omega) (.new hk) (q _ I.Ql)⟩
theorem FP {k:Int} (I:iM σ0 A pk pv fk fv tk tv σ) (hk:k∉pk) (hl:pk.length≤1000) (q:∀ τ,iM σ0 A (pk ++ [k]) (pv ++ [v]) fk fv tk tv τ→K τ):OG b (.ref A.ap) σ "parts" (fun x σ=>wF x (.int k) v σ K):=by
 unfold OG; exact ⟨_,.inst (.ref I.p I.d) (i0 b.hK) (.tail (.tail (.tail .head))),(fun _ e=>by cases e),by unfold wF; exact ⟨_,.di I.pa (by omega) (.new hk),q _ I.Qk⟩⟩
theorem Ei {N k:Nat} (hs:∀ σ,ph σ v xs) (he:xs.length=N) (I:Nat→Fm→AH→Prop) (h0:I 0 r σ) (ht:∀ j y r σ,xs[j]?=some y→I j r σ→body X (r.set k (some y)) σ (HB rest X Θ (I (j + 1)))) (hend:∀ r σ,I N r σ→rest X r σ Θ):WF k body rest X v r σ Θ:=by
 subst he
 unfold WF
 exact ⟨_,I,fun _ _ σ _=>hs σ,h0,ht,hend⟩
theorem xq {l:List Str} {k:Nat} {y:V} (h:(l.map V.str)[k]?=some y):k < l.length∧y=.str (l.getD k ""):=by
 have hk:=(List.getElem?_eq_some_iff.mp h).1
 rw [List.length_map] at hk
 rw [eD hk] at h
 exact ⟨hk,(Option.some.inj h).symm⟩
theorem nO (I:iM σ0 A [] [] fk fv tk tv σ) (q:∀ τ,iM σ0 A [1] [.obj jS [] []] fk fv tk tv τ→Φ .none τ):TC b (n + 1) hd (.ref 434) [.ref A.ap] σ Φ Ψ:=
 pT (aJ (ym b.hK) (FP I (by decide) (by decide) q))
theorem js (I:iM σ0 A pk pv [] [] tk tv σ) (q:∀ τ,iM σ0 A pk pv (au.take 6) (aD.take 6) tk tv τ→Φ .none τ):TC b (n + 3) hd (.ref 1115) [.ref A.ap] σ Φ Ψ:=
 iB (nU (dB I (by decide +kernel) (by decide) fun τ I=>nU (dB I (by decide +kernel) (by decide) fun τ I=>nU (dB I (by decide +kernel) (by decide) fun τ I=>
  je (dB I (by decide +kernel) (by decide) fun τ I=>je (dB I (by decide +kernel) (by decide) fun τ I=>je (dB I (by decide +kernel) (by decide) q)))))))
theorem mS (I:iM σ0 A pk pv (au.take 6) (aD.take 6) tk tv σ) (q:∀ τ,iM σ0 A pk pv (au.take 22) (aD.take 22) tk tv τ→Φ .none τ):TC b (n + 3) none (.ref 1122) [.ref A.ap] σ Φ Ψ:=by
 refine kZ (aJ (xm b.hK) (dB I (by decide +kernel) (by decide) fun τ I=>je (dB I (by decide +kernel) (by decide) fun τ I=>aJ (yl b.hK) (dB I (by decide +kernel) (by decide) fun τ I=>aJ (vo b.hK) (dB I (by decide +kernel) (by decide) fun τ I=>?_)))))
 refine Ei (N:=12) (xs:=aP.map .str) (fun _=>.aH) (by decide +kernel) (fun k r τ=>∃ w,r=[some (.ref A.ap),w]∧iM σ0 A pk pv (au.take (10 + k)) (aD.take (10 + k)) tk tv τ) ⟨none,rfl,I⟩ ?_ ?_
 ·rintro k y r τ hy ⟨w,rfl,I⟩
  obtain ⟨hk,rfl⟩:=xq hy
  have hk:k < 12:=hk
  refine aJ (rU b.hK) (dB I (NI k hk) (by rw [List.length_take]; exact Nat.le_trans (Nat.min_le_right _ _) (by decide)) fun τ I=>⟨_,rfl,?_⟩)
  rw [M5 k hk,wZ (m:=12) rfl hk (by decide +kernel)] at I
  exact I
 ·rintro r τ ⟨w,rfl,I⟩
  exact q _ I
theorem mJ (I:iM σ0 A pk pv (au.take 22) (aD.take 22) tk tv σ) (q:∀ τ,iM σ0 A pk pv (au.take 33) (aD.take 33) tk tv τ→Φ .none τ):TC b (n + 1) none (.ref 1129) [.ref A.ap] σ Φ Ψ:=by
 refine kP (aJ (rR b.hK) (dB I (by decide +kernel) (by decide) fun τ I=>aJ (sJ b.hK) (dB I (by decide +kernel) (by decide) fun τ I=>aJ (jb b.hK) (dB I (by decide +kernel) (by decide) fun τ I=>
  aJ (jb b.hK) (dB I (by decide +kernel) (by decide) fun τ I=>aJ (A5 b.hK) (dB I (by decide +kernel) (by decide) fun τ I=>?_))))))
 refine Ei (N:=6) (xs:=FL.map .str) (fun _=>.tup) rfl (fun k r τ=>∃ w,r=[some (.ref A.ap),w]∧iM σ0 A pk pv (au.take (27 + k)) (aD.take (27 + k)) tk tv τ) ⟨none,rfl,I⟩ ?_ ?_
 ·rintro k y r τ hy ⟨w,rfl,I⟩
  obtain ⟨hk,rfl⟩:=xq hy
  have hk:k < 6:=hk
  refine aJ (AA b.hK) (dB I (Pj k hk) (by rw [List.length_take]; exact Nat.le_trans (Nat.min_le_right _ _) (by decide)) fun τ I=>⟨_,rfl,?_⟩)
  rw [LH k hk,wZ (m:=6) rfl hk (by decide +kernel)] at I
  exact I
 ·rintro r τ ⟨w,rfl,I⟩
  exact q _ I
theorem nu (I:iM σ0 A (cS.take 2) (cU.take 2) fk fv [] [] σ) (q:∀ τ,iM σ0 A cS cU fk fv ao el τ→Φ .none τ):TC b (n + 1) none (.ref 1136) [.ref A.ap] σ Φ Ψ:=
 m9 (aJ (xg b.hK) (FP I (by decide) (by decide) fun τ I=>aJ (tL b.hK) (uE I (by decide +kernel) (by decide) fun τ I=>aJ (yr b.hK) (uE I (by decide +kernel) (by decide) fun τ I=>
  aJ (vW b.hK) (uE I (by decide +kernel) (by decide) fun τ I=>aJ (oQ b.hK) (uE I (by decide +kernel) (by decide) fun τ I=>aJ (oQ b.hK) (uE I (by decide +kernel) (by decide) fun τ I=>
  aJ (zS b.hK) (uE I (by decide +kernel) (by decide) q))))))))
theorem nf (I:iM σ0 A [1] [.obj jS [] []] [] [] [] [] σ) (q:∀ τ,iM σ0 A cS cU au aD ao el τ→Φ .none τ):TC b (n + 4) none (.ref 1143) [.ref A.ap] σ Φ Ψ:=
 p8 (aJ (yx b.hK) (FP I (by decide) (by decide) fun τ I=>js (n:=n) I fun τ I=>mS (n:=n) I fun τ I=>mJ (n:=n + 2) I fun τ I=>nu (n:=n + 2) I fun τ I=>
  aJ (tO b.hK) (dB I (by decide +kernel) (by decide) q)))
end
theorem Bl {σ:AH} {a dd C b:Addr} {ks:List Str} {vs:List V} (hne:a≠dd) (h:(σ.mk a dd C ks vs) b=none):b≠a∧b≠dd∧σ b=none:=by
 unfold AH.mk at h
 have n1:b≠a:=fun e=>by rw [e,AH.a9] at h; cases h
 rw [AH.a8 _ _ n1] at h
 have n2:b≠dd:=fun e=>by rw [e,AH.a9] at h; cases h
 rw [AH.a8 _ _ n2] at h
 exact ⟨n1,n2,h⟩
theorem ES {σ:AH} {a dd C b:Addr} {ks:List Str} {vs:List V} {o:AO} (n1:b≠a) (n2:b≠dd):(σ.mk a dd C ks vs).upd b o=(σ.upd b o).mk a dd C ks vs:=by
 unfold AH.mk
 rw [AH.aF _ _ _ n1.symm,AH.aF _ _ _ n2.symm]
theorem ix {σ:AH} {a dd C b:Addr} {ks:List Str} {vs:List V} (n1:b≠a) (n2:b≠dd):(σ.mk a dd C ks vs) b=σ b:=by
 unfold AH.mk
 rw [AH.a8 _ _ n1,AH.a8 _ _ n2]
theorem cN {σ:AH} {b x:Addr} {o:AO} (h:(σ.upd b o) x=none):x≠b∧σ x=none:=by
 have n1:x≠b:=fun e=>by rw [e,AH.a9] at h; cases h
 exact ⟨n1,by rw [AH.a8 _ _ n1] at h; exact h⟩
section
variable {b:Bs} {n:Nat} {hd:Option Addr} {σ:AH} {Φ:Pv} {Ψ:Addr→AH→Prop} {X:XX} {r:Fm} {K:Pv} {ap dp C:Addr} {ks:List Str} {vs:List V}
theorem Nf {x:Str} {rest:TS} {Θ:Ph} (hne:ap≠dp) (sa:bJ X.b.c.K C x=true) (hl:ks.length≤900) (hx:x∉ks) (q:∀ a,σ a=none→a≠ap→a≠dp→Ld rest X (some (.ref ap) :: r) Θ ((σ.upd a (.di [] [])).mk ap dp C (ks ++ [x]) (vs ++ [.ref a]))):
  Ld (jx (xL 0) x GQ rest) X (some (.ref ap) :: r) Θ (σ.mk ap dp C ks vs):=fun a ha=>.inr (by
 obtain ⟨a1,a2,a3⟩:=Bl hne ha
 rw [ES a1 a2]; exact cI hne sa hl hx (q a a3 a1 a2))
theorem BE {x:Str} {rest:TS} {Θ:Ph} (hne:ap≠dp) (sa:bJ X.b.c.K C x=true) (hl:ks.length≤900) (hx:x∉ks) (q:∀ a,σ a=none→a≠ap→a≠dp→Ld rest X (some (.ref ap) :: r) Θ ((σ.upd a (.ds [] [])).mk ap dp C (ks ++ [x]) (vs ++ [.ref a]))):
  Ld (jx (xL 0) x GQ rest) X (some (.ref ap) :: r) Θ (σ.mk ap dp C ks vs):=fun a ha=>.inl (by
 obtain ⟨a1,a2,a3⟩:=Bl hne ha
 rw [ES a1 a2]; exact cI hne sa hl hx (q a a3 a1 a2))
theorem Al {t g:V} (h:∀ A τ,iM σ A [] [] [] [] [] [] τ→Φ (.ref A.ap) τ):TC b (n + 2) hd (.ref bY) [t,g] σ Φ Ψ:=by
 refine rC (C5 b.hK) fun ap dp h1 h2 hne=>lb (cI hne (fZ b.hK) (by decide) (by decide +kernel) (cI hne (gw b.hK) (by decide) (by decide +kernel) (cI hne (i5 b.hK) (by decide) (by decide +kernel)
  (Nf hne (pX b.hK) (by decide) (by decide +kernel) fun pa p1 p2 p3=>BE hne (oB b.hK) (by decide) (by decide +kernel) fun fi f1 f2 f3=>BE hne (pI b.hK) (by decide) (by decide +kernel) fun ta t1 t2 t3=>
  BE hne (pM b.hK) (by decide) (by decide +kernel) fun st s1 s2 s3=>BE hne (lS b.hK) (by decide) (by decide +kernel) fun me m1 m2 m3=>cI hne (ez b.hK) (by decide) (by decide +kernel) (cI hne (d5 b.hK) (by decide) (by decide +kernel)
  (cI hne (i8 b.hK) (by decide) (by decide +kernel) ⟨rfl,h ⟨ap,dp,pa,fi,ta,t,g,.ref st,.ref me⟩ _ ?_⟩))))))
 obtain ⟨x1,f4⟩:=cN f1
 obtain ⟨x2,t4⟩:=cN t1
 obtain ⟨x3,t5⟩:=cN t4
 obtain ⟨x4,s4⟩:=cN s1
 obtain ⟨x5,s5⟩:=cN s4
 obtain ⟨x6,s6⟩:=cN s5
 obtain ⟨x7,m4⟩:=cN m1
 obtain ⟨x8,m5⟩:=cN m4
 obtain ⟨x9,m6⟩:=cN m5
 obtain ⟨x10,m7⟩:=cN m6
 have nn:∀ {x y:Addr} {o:AO},σ y=some o→σ x=none→y≠x:=fun hy hx e=>by rw [e,hx] at hy; cases hy
 refine ⟨AH.mz,AH.jC hne,?_,?_,?_,f3,t3,x2.symm,fun b o hb=>⟨⟨nn hb p1,nn hb f4,nn hb t5⟩,?_⟩⟩
 ·refine (ix p2 p3).trans ?_
  rw [AH.a8 _ _ x10.symm,AH.a8 _ _ x6.symm,AH.a8 _ _ x3.symm,AH.a8 _ _ x1.symm,AH.a9]
 ·refine (ix f2 f3).trans ?_
  rw [AH.a8 _ _ x9.symm,AH.a8 _ _ x5.symm,AH.a8 _ _ x2.symm,AH.a9]
 ·refine (ix t2 t3).trans ?_
  rw [AH.a8 _ _ x8.symm,AH.a8 _ _ x4.symm,AH.a9]
 ·refine (ix (nn hb h1) (nn hb h2)).trans ?_
  rw [AH.a8 _ _ (nn hb m7),AH.a8 _ _ (nn hb s6),AH.a8 _ _ (nn hb t5),AH.a8 _ _ (nn hb f4),AH.a8 _ _ (nn hb p1)]; exact hb
end
theorem iM.Sf {c:Cx} {σ0 σ:AH} {A:yF} {pk:List Int} {pv fv tv:List V} {fk tk:List Str} (I:iM σ0 A pk pv fk fv tk tv σ):∃ τ,cF c σ τ∧Md τ A.ap A.dp (.e9 pk pv) (.aH fk fv) (.aH tk tv) A.st A.me∧∀ b o,b≠A.dp→σ0 b=some o→τ b=some o:=by
 obtain ⟨q1,q2,q3,q4,q5,q6⟩:=I.PS
 have hd1:(σ.del A.pa) A.dp=some (.ds b8 A.vals):=by rw [AH.cj q2]; exact I.d
 have E1:=cF.vj (c:=c) (b7.e9 I.pa) hd1 (.tail (.tail (.tail .head))) (.tail (.tail (.tail (KP.head (v:=.e9 pk pv)))))
 have f1:((σ.del A.pa).upd A.dp (.ds b8 [A.t,.int 0,A.g,.e9 pk pv,.ref A.fi,.ref A.ta,A.st,A.me,.int 0,.bool false,.str ""])) A.fi=some (.ds fk fv):=by rw [AH.a8 _ _ I.n1,AH.cj q3]; exact I.fi
 have t1:((σ.del A.pa).upd A.dp (.ds b8 [A.t,.int 0,A.g,.e9 pk pv,.ref A.fi,.ref A.ta,A.st,A.me,.int 0,.bool false,.str ""])) A.ta=some (.ds tk tv):=by rw [AH.a8 _ _ I.n2,AH.cj q4]; exact I.ta
 have p1:((σ.del A.pa).upd A.dp (.ds b8 [A.t,.int 0,A.g,.e9 pk pv,.ref A.fi,.ref A.ta,A.st,A.me,.int 0,.bool false,.str ""])) A.ap=some (.inst bY A.dp):=by
  have n0:A.ap≠A.dp:=AH.sep I.p I.d rfl
  rw [AH.a8 _ _ n0,AH.cj q1]; exact I.p
 have r1:∀ b o,b≠A.dp→σ0 b=some o→((σ.del A.pa).upd A.dp (.ds b8 [A.t,.int 0,A.g,.e9 pk pv,.ref A.fi,.ref A.ta,A.st,A.me,.int 0,.bool false,.str ""])) b=some o:=fun b o hb hbo=>by
  rw [AH.a8 _ _ hb,AH.cj (I.fr b o hbo).1.1]; exact (I.fr b o hbo).2
 have d1:((σ.del A.pa).upd A.dp (.ds b8 [A.t,.int 0,A.g,.e9 pk pv,.ref A.fi,.ref A.ta,A.st,A.me,.int 0,.bool false,.str ""])) A.dp=some (.ds b8 [A.t,.int 0,A.g,.e9 pk pv,.ref A.fi,.ref A.ta,A.st,A.me,.int 0,.bool false,.str ""]):=AH.a9 ..
 generalize (σ.del A.pa).upd A.dp (.ds b8 [A.t,.int 0,A.g,.e9 pk pv,.ref A.fi,.ref A.ta,A.st,A.me,.int 0,.bool false,.str ""])=σ1 at E1 f1 t1 p1 r1 d1
 have hd2:(σ1.del A.fi) A.dp=some (.ds b8 [A.t,.int 0,A.g,.e9 pk pv,.ref A.fi,.ref A.ta,A.st,A.me,.int 0,.bool false,.str ""]):=by rw [AH.cj I.n1.symm]; exact d1
 have E2:=cF.vj (c:=c) (b7.aH f1) hd2 (.tail (.tail (.tail (.tail .head)))) (.tail (.tail (.tail (.tail (KP.head (v:=.aH fk fv))))))
 have t2:((σ1.del A.fi).upd A.dp (.ds b8 [A.t,.int 0,A.g,.e9 pk pv,.aH fk fv,.ref A.ta,A.st,A.me,.int 0,.bool false,.str ""])) A.ta=some (.ds tk tv):=by rw [AH.a8 _ _ I.n2,AH.cj I.n3.symm]; exact t1
 have p2:((σ1.del A.fi).upd A.dp (.ds b8 [A.t,.int 0,A.g,.e9 pk pv,.aH fk fv,.ref A.ta,A.st,A.me,.int 0,.bool false,.str ""])) A.ap=some (.inst bY A.dp):=by
  have n0:A.ap≠A.dp:=AH.sep I.p I.d rfl
  rw [AH.a8 _ _ n0,AH.cj q5]; exact p1
 have r2:∀ b o,b≠A.dp→σ0 b=some o→((σ1.del A.fi).upd A.dp (.ds b8 [A.t,.int 0,A.g,.e9 pk pv,.aH fk fv,.ref A.ta,A.st,A.me,.int 0,.bool false,.str ""])) b=some o:=fun b o hb hbo=>by
  rw [AH.a8 _ _ hb,AH.cj (I.fr b o hbo).1.2.1]; exact r1 b o hb hbo
 have d2:((σ1.del A.fi).upd A.dp (.ds b8 [A.t,.int 0,A.g,.e9 pk pv,.aH fk fv,.ref A.ta,A.st,A.me,.int 0,.bool false,.str ""])) A.dp=some (.ds b8 [A.t,.int 0,A.g,.e9 pk pv,.aH fk fv,.ref A.ta,A.st,A.me,.int 0,.bool false,.str ""]):=AH.a9 ..
 generalize (σ1.del A.fi).upd A.dp (.ds b8 [A.t,.int 0,A.g,.e9 pk pv,.aH fk fv,.ref A.ta,A.st,A.me,.int 0,.bool false,.str ""])=σ2 at E2 t2 p2 r2 d2
 have hd3:(σ2.del A.ta) A.dp=some (.ds b8 [A.t,.int 0,A.g,.e9 pk pv,.aH fk fv,.ref A.ta,A.st,A.me,.int 0,.bool false,.str ""]):=by rw [AH.cj I.n2.symm]; exact d2
 have E3:=cF.vj (c:=c) (b7.aH t2) hd3 (.tail (.tail (.tail (.tail (.tail .head))))) (.tail (.tail (.tail (.tail (.tail (KP.head (v:=.aH tk tv)))))))
 refine ⟨_,(E1.trans E2).trans E3,⟨?_,_,_,_,_,_,AH.a9 ..⟩,fun b o hb hbo=>?_⟩
 ·have n0:A.ap≠A.dp:=AH.sep I.p I.d rfl
  rw [AH.a8 _ _ n0,AH.cj q6]; exact p2
 ·rw [AH.a8 _ _ hb,AH.cj (I.fr b o hbo).1.2.2]; exact r2 b o hb hbo
section
variable {c:Cx} {n:Nat} {hd:Option Addr} {σ σ0 τ:AH} {Ψ:Addr→AH→Prop} {Φ:Pv} {fn:Fn} {ρ:Loc} {X:Px}
theorem KO {scope:Scope} {cl:List (Str×Addr)} {e1 e2:Expr} {x:Str} {y:V} {i j:Int} {pos:Pos} (h1:EL c fn n scope cl e1 x σ y (.int i)) (h2:EL c fn n scope cl e2 x σ y (.int j)) (hj:j≠0):EL c fn n scope cl (.BinOp e1 .Mod e2 pos) x σ y (.int (i.fmod j)):=fun d A fz a7 R ρ s C m₂ u E' O L S hn hu r=>
 wpAny_BinOp (h1.then O L S hn hu r fun v tk r1=>h2.then O L (S.toks tk) hn hu r fun v2 tk2 r2=>by
  obtain ⟨_,rfl⟩:=r1.inv; obtain ⟨_,rfl⟩:=r2.inv; exact PyProof.Rows.mod_int hj ⟨.int _ _,_,rfl⟩)
def yK:List Int:=[0,2,0,0,0,0,0,1,0,0,0,0,8,0,0,0,0,1,1,0,1,1,0,0,0,0,0,1,1,0,0,0,1,5,2,0,0,0,0,0,1,0,0]
def Na:V→V
 | .int i=>.int (i.fmod 1000003)
 | _=>.none
def z9:List (List Int):=[[40,39,40,36,38,37],[41,42,41,44,43,40]]
def yA (k j:Nat):Nat:=((z9.getD k []).getD j 0).toNat
theorem Et:∀ k,k < 2→∀ j,j < 6→(z9.getD k []).getD j 0=(yA k j:Int)∧yA k j≤44∧(k=0→yA k j≤40):=by decide +kernel
end
def lH (bs:Bs) (N:Nat) (W:Wh) (gap:Nat):Prop:=(toks gap 0 (W.aO W.cnt)).length≤98000∧(∀ x,.w x∈W.aO W.cnt→x.length≤1000)∧
 ∀ (P:b9) (deep:Nat),deep < 4→P.parts=.e9 cS cU→P.firsts=.aH au aD→P.tails=.aH ao el→P.ts=toks gap 0 (W.aO W.cnt) ++ [(T.fin,(span gap (W.aO W.cnt):Int))]→
   (bS gap 0 (W.aO W.cnt)=none∧∃ v,cZ bs N P (S0 deep) 0 (toks gap 0 (W.aO W.cnt)).length v∧aq v (W.rws W.cnt))∨(∃ b,bS gap 0 (W.aO W.cnt)=some b∧dt bs N P (S0 deep) 0 b)
abbrev sL (sc:Addr) (gv w p gap t f l ps r:Option V):Fm:=[some (.g sc),gv,w,p,gap,t,f,l,ps,r]
abbrev Fe (σ:AH) (ap dp:Addr) (st me:V):Prop:=Md σ ap dp (.e9 cS cU) (.aH au aD) (.aH ao el) st me
section
variable {b:Bs} {n:Nat} {hd:Option Addr} {σ τ β:AH} {Φ:Pv} {Ψ:Addr→AH→Prop} {X:XX} {r:Fm} {v w:V} {Θ:Ph} {xs ys:List V} {i j:Int} {x:Str} {Y:Fm→Addr→AH→Prop} {sc aw ap dp lg:Addr} {g:List Int} {gap a k:Nat} {gv:Option V} {st me:V}
theorem Md.put {pa fi ta:V} (h:Md σ ap dp pa fi ta st me) (hne:aw≠dp) (hna:aw≠ap) {o:AO}:Md (σ.upd aw o) ap dp pa fi ta st me:=by
 obtain ⟨hp,t0,b0,g0,e0,f0,Jw⟩:=h
 exact ⟨(AH.a8 _ _ hna.symm).trans hp,t0,b0,g0,e0,f0,(AH.a8 _ _ hne.symm).trans Jw⟩
theorem Cr:∀ k,k < 2→(z9.map fun l=>V.tup (l.map .int))[k]?=some (.tup ((z9.getD k []).map .int))∧∀ j,j < 6→((z9.getD k []).map V.int)[j]?=some (.int (yA k j:Nat)):=fun k hk=>by
 rcases (by omega:k=0∨k=1) with rfl | rfl
 ·exact ⟨rfl,Ni rfl rfl rfl rfl rfl rfl⟩
 ·exact ⟨rfl,Ni rfl rfl rfl rfl rfl rfl⟩
theorem EU {f l p r:Option V} (hk:k < 2) (hg:0 < g.length) (hgl:g.length≤100) (hne:aw≠dp) (hna:aw≠ap) (hr:Fe σ ap dp st me)
  (H:∀ a form long,form < 4→long≤44→lH b (n + 6) (cz g a form long) gap∧(long≤40→bS gap 0 ((cz g a form long).aO (cz g a form long).cnt)=none))
  (h:∀ f l p r τ,(k=0→∃ a τ',τ=τ'.upd aw (dz g a)∧Fe τ' ap dp st me)→Θ .next (sL sc gv (some (.ref aw)) (some (.ref ap)) (some (.int gap)) (some (.int k)) f l p r) τ):
  yG ⟨b,n + 7,none,Y⟩ (sL sc gv (some (.ref aw)) (some (.ref ap)) (some (.int gap)) (some (.int k)) f l p r) (σ.upd aw (dz g a)) Θ:=by
 have hf:=bq g a (m:=4) (by decide)
 have hj:=bq g (a + 1) (m:=6) (by decide)
 obtain ⟨g1,g2,g3⟩:=Et k hk _ hj
 obtain ⟨q1,q2⟩:=Cr k hk
 refine az (m:=4) rfl hg (by omega) (by decide) (dF rfl q1 (by simp) (az (m:=6) rfl hg (by omega) (by decide) (dF rfl (q2 _ hj) (by rw [List.length_map]; rcases (by omega:k=0∨k=1) with rfl | rfl <;> decide) ?_)))
 generalize yA k (tk g (a + 1) 6)=long at g2 g3 ⊢
 refine vx (n:=n + 3) (a:=a + 1 + 1) (form:=tk g a 4) (long:=long) hg (by omega) g2 ?_
 obtain ⟨⟨r1,r2,r4⟩,r5⟩:=H (a + 1 + 1) (tk g a 4) long hf g2
 have Hok:=vf g (a + 1 + 1) (form:=tk g a 4) g2
 generalize a + 1 + 1 + 3 + 7 * (cz g (a + 1 + 1) (tk g a 4) long).cnt + 1=a2
 generalize cz g (a + 1 + 1) (tk g a 4) long=W at r1 r2 r4 r5 Hok ⊢
 have G:=Jh.of Hok.shape
 have c4:=G.c4
 have l2:=Hok.Bq W.cnt
 have hd:=bq g a2 (m:=4) (by decide)
 refine az (m:=4) rfl hg (by omega) (by decide) (wc (n:=n + 4) (deep:=tk g a2 4) (hr.put hne hna) r1 r2 (by omega) (fun P h1 h2 h3 h4=>r4 P _ hd h1 h2 h3 h4) fun τ hτ=>h _ _ _ _ τ fun k0=>?_)
 obtain ⟨f1,f2⟩:=hτ (r5 (g3 k0))
 exact ⟨a2 + 1,τ,(AH.fV (f2 aw _ hne (AH.a9 ..))).symm,f1⟩
inductive Rt (sc lg aw ap dp:Addr) (g:List Int) (st me:V):Nat→Fm→AH→Prop
 | mk {k:Nat} {t f l p x:Option V} {τ:AH}:(k < 2→∃ a τ',τ=τ'.upd aw (dz g a)∧Fe τ' ap dp st me)→Rt sc lg aw ap dp g st me k (sL sc (some (.ref lg)) (some (.ref aw)) (some (.ref ap)) (some (.int ((1 + tk g 0 3:Nat):Int))) t f l p x) τ
theorem GI {g0 t0 f0 l0 s0 r0:Option V} (hg:0 < g.length) (hgl:g.length≤100) (hne:aw≠dp) (hna:aw≠ap) (hr:Fe τ ap dp st me)
  (H:∀ gap a form long,1≤gap→gap≤3→form < 4→long≤44→lH b (n + 6) (cz g a form long) gap∧(long≤40→bS gap 0 ((cz g a form long).aO (cz g a form long).cnt)=none)):
  B3 ⟨b,n + 7,none,Y⟩ (sL sc (some (.ref lg)) (some (.ref aw)) (some (.ref ap)) g0 t0 f0 l0 s0 r0) (τ.upd aw (dz g 0)) (fun f _ _=>iU f=.bool true):=by
 refine az (m:=3) rfl hg (by omega) (by decide) ?_
 have hg3:1 + tk g 0 3≤3:=by have:=bq g 0 (m:=3) (by decide); omega
 refine fg (gz (N:=2) (by decide) (Rt sc lg aw ap dp g st me) (.mk fun _=>⟨_,_,rfl,hr⟩) ?_ ?_)
 ·intro k r τ hk q
  cases q with
  | mk hq=>
  obtain ⟨a,τ',rfl,q2⟩:=hq hk
  exact EU hk hg hgl hne hna q2 (fun a form long hf hl=>H _ a form long (Nat.le_add_right ..) hg3 hf hl) fun f l p x τ hz=>.mk fun hk1=>hz (by omega)
 ·intro r τ q
  cases q
  exact rfl
inductive Qq (c:Cx) (aw:Addr) (g:List Int) (A:yF) (σ:AH):Prop
 | mk (τ:AH) (e:cF c σ (τ.upd aw (dz g 0))) (r:Fe τ A.ap A.dp A.st A.me) (h1:aw≠A.dp) (h2:aw≠A.ap)
theorem FE {A:yF} (I:iM σ A cS cU au aD ao el τ) (w1:σ aw=some (dz g 0)):Qq b.c aw g A τ:=by
 obtain ⟨τ',E,hr,hfr⟩:=I.Sf (c:=b.c)
 have hne:aw≠A.dp:=fun e=>by
  cases (e ▸ (I.fr aw _ w1).2.symm:_=τ A.dp).trans I.d
 have w2:=hfr aw _ hne w1
 exact ⟨τ',by rw [AH.fV w2]; exact E,hr,hne,fun e=>by
  have:=hr.p
  rw [← e,w2] at this; cases this⟩
theorem Me {dg dd dr:Addr} (w0:σ aw=some (dz g 0)) (g1:σ dg=none) (g2:σ dd=none) (g3:σ dr=none):((σ.mk dg dd cy ["rows"] [.ref dr]).upd dr (.list [])) aw=some (dz g 0):=by
 have m:∀ x,σ x=none→aw≠x:=fun x hx e=>by rw [← e,w0] at hx; cases hx
 exact (AH.a8 _ _ (m _ g3)).trans ((ix (m _ g1) (m _ g2)).trans w0)
theorem wL {w0 p0 g0 t0 f0 l0 s0 r0:Option V} (hg:0 < g.length) (hgl:g.length≤100) (hlg:σ lg=some (.list (g.map .int)))
  (H:∀ gap a form long,1≤gap→gap≤3→form < 4→long≤44→lH b (n + 6) (cz g a form long) gap∧(long≤40→bS gap 0 ((cz g a form long).aO (cz g a form long).cnt)=none)):
  B9 ⟨b,n + 7,none,Y⟩ (sL sc (some (.ref lg)) w0 p0 g0 t0 f0 l0 s0 r0) σ (fun f _ _=>iU f=.bool true):=by
 refine yj (LJ (fun aw haw=>?_) rfl rfl rfl (by simp) (by simp)) fun _=>rfl
 have nl:lg≠aw:=fun e=>by rw [e,haw] at hlg; cases hlg
 refine DZ (SE.ent (fb (.tail .head) ⟨_,_,b7.fl ((AH.a8 _ _ nl).trans hlg),DZ (EK (Nr ⟨?_,by decide +kernel,_,.tail (.tail .head),sL sc (some (.ref lg)) (some (.ref aw)) p0 g0 t0 f0 l0 s0 r0,rfl,rfl,?_⟩))⟩))
 ·rw [AH.cj nl.symm,AH.a9]
 have w0:(((σ.upd aw (.ds [] [])).del lg).upd aw (dz g 0)) aw=some (dz g 0):=AH.a9 ..
 change BK _ _ (((σ.upd aw (.ds [] [])).del lg).upd aw (dz g 0)) _
 generalize ((σ.upd aw (.ds [] [])).del lg).upd aw (dz g 0)=σ1 at w0 ⊢
 refine ud (n:=n + 5) fun dg dd dr g1 g2 g3 n1 n2 n3=>?_
 refine Al (n:=n + 5) fun A τ I=>nO (n:=n + 6) I fun τ I=>.ent (nf (n:=n + 3) I fun τ I=>?_)
 obtain ⟨τ',E,hr,h1,h2⟩:=FE I (Me w0 g1 g2 g3)
 exact ⟨_,_,E.v,GI hg hgl h1 h2 hr H⟩
theorem DA {ns:List Int} {vs:List Value} {q:Nat} (hH:b.c.H0.get? sc=some (gF vs q)) (hv:bK b.c [] (ns.map .int) vs) (hl:ns.length≤63) {X:Px}
  (H:∀ g gap a form long,0 < g.length→g.length≤100→1≤gap→gap≤3→form < 4→long≤44→lH b (n + 6) (cz g a form long) gap∧(long≤40→bS gap 0 ((cz g a form long).aO (cz g a form long).cnt)=none)):
  SB b.c iX (n + 7) none (rQ.zip (sL sc none none none none none none none none none)) σ rS (fun f _ σ'=>iU f=.bool true) X:=by
 have hgv:((ns.map V.int).take 40).map Na=((ns.take 40).map fun i=>i.fmod 1000003).map V.int:=by
  rw [← List.map_take,List.map_map,List.map_map]; rfl
 refine (P9 ⟨b,n + 7,none,fun _ _ _=>False⟩ (sL sc none none none none none none none none none) σ (fun f _ _=>iU f=.bool true) rfl ?_).mono (fun f ρ σ ⟨r,_,_,h⟩=>h) fun ρ a σ ⟨r,_,_,h⟩=>h.elim
 refine Ic (fn:=iX) (cl:=[]) (fun L=>by kernel_rfl) (by decide +kernel) rfl (by decide +kernel) rfl (fun L=>by kernel_rfl) ?_ fun _ _=>rfl
 refine SE.ent (BB (fb .head (AG (Fo (EK ⟨_,rfl,AG (zb (xs:=ns.map .int) (fun o i=>⟨_,rfl⟩) (by decide) (by rw [List.length_map]; omega) (fun fn d fz a7 h m led frs v O Z r=>by cases r; exact ⟨_,vs,q,rfl,Z.fr.keep _ _ hH,bK.mono (fz:=[]) (fun p hp=>by cases hp) hv⟩) fun b hb=>⟨_,_,b7.fl (AH.a9 ..),?_⟩)⟩)))))
 rw [AH.dw hb,show jB _ none (some 40) none=_ from o8 (xs:=ns.map V.int) (f:=40)]
 refine ⟨_,Na,.fl,by rw [List.length_take,List.length_map]; omega,fun y hy=>?_,fun lg hlg=>⟨_,.tail .head,sL sc (some (.ref lg)) none none none none none none none none,rfl,rfl,?_⟩⟩
 ·obtain ⟨i,hi,rfl⟩:=List.mem_map.mp (List.mem_of_mem_take hy)
  exact KO (uV rfl rfl) AN (by decide)
 rw [hgv]
 have h0:(σ.upd lg (.list (((ns.take 40).map fun i=>i.fmod 1000003).map V.int))) lg=some (.list (((ns.take 40).map fun i=>i.fmod 1000003).map V.int)):=AH.a9 ..
 change Bb _ _ (σ.upd lg (.list (((ns.take 40).map fun i=>i.fmod 1000003).map V.int))) _
 have hlen:((ns.take 40).map fun i=>i.fmod 1000003).length≤100:=by rw [List.length_map,List.length_take]; omega
 generalize (ns.take 40).map (fun i=>i.fmod 1000003)=gg at h0 hlen ⊢
 generalize σ.upd lg (.list (gg.map V.int))=σ1 at h0 ⊢
 refine cD (.ref h0) (by rw [List.length_map]; omega) (ay (fun hz=>?_) fun hz=>?_)
 ·exact fun l2 h2=>wL (g:=yK) (by decide +kernel) (by decide +kernel) (AH.a9 ..) fun gap a form long=>H yK gap a form long (by decide +kernel) (by decide +kernel)
 ·have:0 < gg.length:=by
   rw [List.length_map] at hz
   have:=j3 (y:=0) hz; omega
  exact wL this hlen h0 fun gap a form long=>H gg gap a form long this hlen
end
section
variable {P:b9} {gap:Nat} {L:List (T×Int)}
abbrev TL:=List (T×Int)
theorem ai {i:Nat} {t:T×Int} (h:P.ts.drop i=t :: L):P.ts[i]?=some t∧P.ts.drop (i + 1)=L:=by
 have hlt:i < P.ts.length:=by
  refine Nat.not_le.mp fun hle=>?_
  rw [List.drop_eq_nil_of_le hle] at h; cases h
 rw [List.drop_eq_getElem_cons hlt] at h
 injection h with h1 h2
 exact ⟨by rw [List.getElem?_eq_getElem hlt,h1],h2⟩
theorem M8 {i:Nat} {A:TL} (h:P.ts.drop i=A ++ L):P.ts.drop (i + A.length)=L:=by
 rw [← List.drop_drop,h]; simp
theorem S6 {x:Str} {t:T} {pl:Nat} (h1:¬ d9 x) (h2:tokOf x=t):fu pl (.w x)=[(t,(pl:Int))]:=by
 rw [fu,if_neg h1,h2]
def wC:Pc→Nat
 | .m _=>0
 | .w x=>if d9 x then 2 else 1
def dm (ps:List Pc):Nat:=(ps.map wC).sum
theorem j9 (a b:List Pc):dm (a ++ b)=dm a + dm b:=by simp [dm]
theorem d8 (a:Pc) (b:List Pc):dm (a :: b)=wC a + dm b:=by simp [dm]
theorem kF (ps:List Pc) (pl:Nat):(toks gap pl ps).length=dm ps:=by
 induction ps generalizing pl with
 | nil=>rfl
 | cons p r ih=>
  rw [jY,List.length_append,ih,d8]
  cases p with
  | m k=>rfl
  | w x=>
   rw [fu,wC]
   by_cases h:d9 x
   ·rw [if_pos h,if_pos h]; rfl
   ·rw [if_neg h,if_neg h]; rfl
theorem du {i pl:Nat} {a b:List Pc} (h:P.ts.drop i=toks gap pl (a ++ b) ++ L):P.ts.drop i=toks gap pl a ++ (toks gap (pl + span gap a) b ++ L)∧P.ts.drop (i + dm a)=toks gap (pl + span gap a) b ++ L:=by
 rw [dh,List.append_assoc] at h
 exact ⟨h,by have:=M8 h; rwa [kF] at this⟩
theorem qZ {i pl k:Nat} {r:List Pc}:toks gap pl (.m k :: r)=toks gap pl r:=rfl
theorem aS {pl:Nat} {x:Str} {t:T} {r:List Pc} (h1:¬ d9 x) (h2:tokOf x=t):toks gap pl (.w x :: r)=(t,(pl:Int)) :: toks gap (pl + (x.length + gap)) r:=by
 rw [jY,S6 h1 h2]; rfl
inductive T4 (t:T×Int):Prop
 | mk (h1:t.1.sort≠2) (h2:t.1.sort≠1) (h3:t.1.is 6 ">" = false) (h4:t.1.is 6 "," = false)
inductive Th (t:T×Int) (r:TL):Prop
 | mk (x:Str) (t2:T×Int) (r2:TL) (e:t.1=.name x) (e2:r=t2 :: r2) (h1:t2.1.is 6 "<" = false) (h2:t2.1.is 6 "[" = false) (h3:t2.1.is 6 "?" = false) (h4:t2.1.is 6 "," = false) (h5:t2.1.is 6 ">" = false)
inductive KL (r:TL):Prop
 | mk (t1:T×Int) (r1:TL) (e:r=t1 :: r1) (h:T4 t1∨Th t1 r1)
inductive JD (L:TL):Prop
 | mk (t:T×Int) (r:TL) (e:L=t :: r) (h:t.1.is 6 "<" = false∨(t.1=.sign "<" ∧ KL r))
inductive NB (P:b9) (i:Nat) (L:TL) (rws:List Rw):Prop
 | mk (hsp:cA) (len:Nat) (h:sj P i len hsp) (e:P.ts.drop (i + len)=L) (q:∀ w r,aq w r→aq (node hsp.k hsp.av (hsp.kids ++ [w]) hsp.at_) (rws ++ r))
inductive Kc (P:b9) (i n:Nat) (L:TL) (rws:List Rw):Prop
 | mk (hs:List cA) (j:Nat) (h:h9 P i hs j) (e:hs.length=n) (e2:P.ts.drop j=L) (q:∀ w r,aq w r→aq (wrap hs w) (rws ++ r))
inductive O3 (P:b9) (i:Nat) (L:TL) (rws:List Rw):Prop
 | mk (v:V) (j:Nat) (h:fh P i j v) (e:P.ts.drop j=L) (q:aq v rws)
inductive Ow (P:b9) (i:Nat) (v:V) (L:TL) (rws:List Rw):Prop
 | mk (i':Nat) (w:V) (h:gP P i i' v w) (e:P.ts.drop i'=L) (q:aq w rws)
inductive LI (P:b9) (i:Nat) (v:V) (n:Nat) (L:TL) (rws:List Rw):Prop
 | mk (w:V) (j:Nat) (h:mD P i v n j w) (e:P.ts.drop j=L) (q:aq w rws)
theorem Bx {i:Nat} (h:P.ts.drop i=L) (hn:JD L):eQ P i:=by
 obtain ⟨t,r,rfl,hn⟩:=hn
 obtain ⟨g1,g2⟩:=ai h
 rcases hn with hn | ⟨h1,t1,r1,rfl,hn⟩
 ·exact .no g1 hn
 ·obtain ⟨g3,g4⟩:=ai g2
  have g0:P.ts[i]?=some (.sign "<", t.2):=by rw [g1,← h1]
  rcases hn with ⟨a1,a2,a3,a4⟩ | ⟨x,t2,r2,e1,rfl,b1,b2,b3,b4,b5⟩
  ·exact .bad (.sign g0 g3 a1 a2 a3 a4)
  ·exact .bad (.name g0 (g3.trans (by rw [← e1])) (ai g4).1 b1 b2 b3 b4 b5)
def qI (s:Str):Prop:=s∈[("-" : Str),"++", "!", "--", "~", "+"]
theorem fL (mix t:Nat):qI (aK mix t)∨aK mix t = "(int)" ∨ aK mix t = "await" := by
 have:∀ j,j < 8→(jk.getD j "" ∈ [("-" : Str),"++", "!", "--", "~", "+"])∨jk.getD j "" = "(int)" ∨ jk.getD j "" = "await" := by decide +kernel
 exact this _ (Nat.mod_lt _ (by decide))
theorem qz:∀ s∈[("-" : Str),"++", "!", "--", "~", "+"],¬ d9 s:=by decide +kernel
theorem rH:∀ s∈[("-" : Str),"++", "!", "--", "~", "+"],s ≠ "(int)" ∧ s ≠ "await" := by decide +kernel
theorem qj {s:Str} (h:qI s):tokOf s=.sign s:=by
 have h1:∀ s∈[("-" : Str),"++", "!", "--", "~", "+"],s∉[("b" : Str),"c", "await"]∧s ≠ "7" ∧ s∉[("int" : Str),"is", "as"]:=by decide +kernel
 obtain ⟨a,b,c⟩:=h1 s h
 rw [tokOf,if_neg a,if_neg b,if_neg c]
theorem Fj {s:Str} (h:qI s):KV s (.int (if s.length=2 then 18 else 17)) bb bp:=by
 unfold qI at h
 simp only [List.mem_cons,List.not_mem_nil,or_false] at h
 rcases h with rfl | rfl | rfl | rfl | rfl | rfl
 ·exact .tail .head
 ·exact .tail (.tail (.tail (.tail .head)))
 ·exact .tail (.tail .head)
 ·exact .tail (.tail (.tail (.tail (.tail .head))))
 ·exact .tail (.tail (.tail .head))
 ·exact .head
theorem i9:¬ d9 "(" := by decide +kernel
theorem rO:¬ d9 ")" := by decide +kernel
theorem uk:¬ d9 "int" := by decide +kernel
theorem za:¬ d9 "await" := by decide +kernel
theorem gU:¬ d9 "7" := by decide +kernel
theorem B5:¬ d9 "c" := by decide +kernel
theorem JM:¬ d9 "b" := by decide +kernel
theorem JG:¬ d9 "*" := by decide +kernel
theorem JA:¬ d9 "-" := by decide +kernel
theorem EJ:¬ d9 "." := by decide +kernel
theorem Dz:¬ d9 "[" := by decide +kernel
theorem Jp:¬ d9 "]" := by decide +kernel
theorem vl:tokOf "(" = .sign "(" := by kernel_rfl
theorem I6:tokOf ")" = .sign ")" := by kernel_rfl
theorem Hl:tokOf "int" = .word "int" := by kernel_rfl
theorem Ih:tokOf "await" = .name "await" := by kernel_rfl
theorem vX:tokOf "7" = .num:=by kernel_rfl
theorem Kj:tokOf "c" = .name "c" := by kernel_rfl
theorem QH:tokOf "b" = .name "b" := by kernel_rfl
theorem Qo:tokOf "*" = .sign "*" := by kernel_rfl
theorem QB:tokOf "-" = .sign "-" := by kernel_rfl
theorem Og:tokOf "." = .sign "." := by kernel_rfl
theorem NM:tokOf "[" = .sign "[" := by kernel_rfl
theorem Qw:tokOf "]" = .sign "]" := by kernel_rfl
theorem dK {k:Int} {a:V} {w:V} {r:List Rw} {at_:V} (nb:(∃ x,a=.str x)∨a=.tup [.int 7,.str ""]) (h:aq w r):aq (node k a [w] at_) (⟨k,a,1⟩ :: r):=by
 have:=aq.node (k:=k) (at_:=at_) nb (by simp) (.cons h .nil)
 rwa [List.append_nil] at this
theorem cK {k:Int} {a:V} {w w2:V} {r r2:List Rw} {at_:V} (nb:(∃ x,a=.str x)∨a=.tup [.int 7,.str ""]) (h:aq w r) (h2:aq w2 r2):aq (node k a [w,w2] at_) (⟨k,a,2⟩ :: (r ++ r2)):=by
 have:=aq.node (k:=k) (at_:=at_) nb (by simp) (.cons h (.cons h2 .nil))
 rwa [List.append_nil] at this
theorem ey {k:Int} {a:V} {at_:V} (nb:(∃ x,a=.str x)∨a=.tup [.int 7,.str ""]):aq (node k a [] at_) [⟨k,a,0⟩]:=aq.node nb (by simp) .nil
theorem EH {i pl t:Nat} {s:Str} (hs:qI s∨s = "(int)" ∨ s = "await") (h:P.ts.drop i=toks gap pl (ae s t) ++ L):NB P i L (bM s):=by
 rcases hs with hs | rfl | rfl
 ·obtain ⟨n1,n2⟩:=rH s hs
  have e:ae s t=[.w s,.m (t + 1)]:=by rw [ae,if_neg n1]; rfl
  rw [e,aS (qz s hs) (qj hs)] at h
  obtain ⟨g1,g2⟩:=ai h
  refine ⟨⟨if s.length=2 then 18 else 17,.str s,[],.int pl⟩,1,.inl ⟨rfl,s,pl,g1,Fj hs,rfl⟩,g2,fun w r hr=>?_⟩
  rw [bM,if_neg n1,if_neg n2]
  by_cases hl:s.length=2
  ·rw [if_pos hl,if_pos hl]; exact dK (by first | exact .inl ⟨_,rfl⟩ | exact .inr rfl) hr
  ·rw [if_neg hl,if_neg hl]; exact dK (by first | exact .inl ⟨_,rfl⟩ | exact .inr rfl) hr
 ·have e:ae "(int)" t=[.w "(", .w "int", .w ")", .m (t + 1)]:=rfl
  rw [e,aS i9 vl,aS uk Hl,aS rO I6] at h
  obtain ⟨g1,g2⟩:=ai h
  obtain ⟨g3,g4⟩:=ai g2
  obtain ⟨g5,g6⟩:=ai g4
  refine ⟨_,3,.inr (.inl ⟨rfl,_,_,_,g1,g3,g5,rfl⟩),g6,fun w r hr=>?_⟩
  have:bM "(int)" = [⟨24,.str "", 2⟩,⟨40,.str "int", 0⟩]:=rfl
  rw [this]
  exact cK (by first | exact .inl ⟨_,rfl⟩ | exact .inr rfl) (ey (by first | exact .inl ⟨_,rfl⟩ | exact .inr rfl)) hr
 ·have e:ae "await" t=[.w "await", .m (t + 1)]:=rfl
  rw [e,aS za Ih] at h
  obtain ⟨g1,g2⟩:=ai h
  refine ⟨_,1,.inr (.inr ⟨rfl,_,g1,rfl⟩),g2,fun w r hr=>?_⟩
  have:bM "await" = [⟨31,.str "", 1⟩]:=rfl
  rw [this]
  exact dK (by first | exact .inl ⟨_,rfl⟩ | exact .inr rfl) hr
theorem wJ (mix:Nat) (ts:List Nat) {i pl:Nat} (h:P.ts.drop i=toks gap pl (ts.flatMap fun t=>ae (aK mix t) t) ++ L):Kc P i ts.length L (ts.flatMap fun t=>bM (aK mix t)):=by
 induction ts generalizing i pl with
 | nil=>exact ⟨[],i,.nil,rfl,h,fun w r hr=>hr⟩
 | cons t ts ih=>
  rw [List.flatMap_cons] at h
  obtain ⟨h1,h2⟩:=du h
  obtain ⟨hsp,len,g1,g2,g3⟩:=EH (fL mix t) h1
  obtain ⟨hs,j,k1,k2,k3,k4⟩:=ih g2
  refine ⟨hsp :: hs,j,.cons g1 k1,congrArg (· + 1) k2,k3,fun w r hr=>?_⟩
  rw [List.flatMap_cons,List.append_assoc]
  exact g3 _ _ (k4 w r hr)
theorem BD {i pl:Nat} {core:Str} (hc:core = "(" ∨ core = "7" ∨ core = "c") (h:P.ts.drop i=toks gap pl (af core) ++ L) (hn:JD L):O3 P i L (cv core):=by
 rcases hc with rfl | rfl | rfl
 ·have e:af "(" = [.w "(", .w "7", .m 1,.w "*", .w "7", .m 2,.w "-", .w "7", .w ")"]:=rfl
  rw [e,aS i9 vl,aS gU vX,qZ (i:=0),aS JG Qo,aS gU vX,qZ (i:=0),aS JA QB,aS gU vX,aS rO I6] at h
  obtain ⟨g1,h⟩:=ai h
  obtain ⟨g2,h⟩:=ai h
  obtain ⟨g3,h⟩:=ai h
  obtain ⟨g4,h⟩:=ai h
  obtain ⟨g5,h⟩:=ai h
  obtain ⟨g6,h⟩:=ai h
  obtain ⟨g7,h⟩:=ai h
  refine ⟨_,i + 7,.paren g1 g2 g3 g4 g5 g6 g7,h,?_⟩
  have e2:cv "(" = [⟨10,.str "", 1⟩,⟨20,.str "-", 2⟩,⟨20,.str "*", 2⟩,eM,eM,eM]:=rfl
  have s7:∀ p,aq (d7 p) [eM]:=fun p=>ey (by first | exact .inl ⟨_,rfl⟩ | exact .inr rfl)
  rw [e2]
  refine dK (by first | exact .inl ⟨_,rfl⟩ | exact .inr rfl) ?_
  have k1:pw "-" = 10:=by decide +kernel
  have k2:pw "*" = 11:=by decide +kernel
  unfold AD cR
  rw [k1,k2]
  have:=cK (k:=20) (a:=.str "-") (at_:=Ce (node 20 (.str "*") [d7 ((pl + (Str.length "(" + gap):Nat):Int),d7 ((pl + (Str.length "(" + gap) + (Str.length "7" + gap) + (Str.length "*" + gap):Nat):Int)] (Ce (d7 ((pl + (Str.length "(" + gap):Nat):Int))))) (by first | exact .inl ⟨_,rfl⟩ | exact .inr rfl) (cK (k:=20) (a:=.str "*") (at_:=Ce (d7 ((pl + (Str.length "(" + gap):Nat):Int))) (by first | exact .inl ⟨_,rfl⟩ | exact .inr rfl) (s7 ((pl + (Str.length "(" + gap):Nat):Int)) (s7 ((pl + (Str.length "(" + gap) + (Str.length "7" + gap) + (Str.length "*" + gap):Nat):Int))) (s7 ((pl + (Str.length "(" + gap) + (Str.length "7" + gap) + (Str.length "*" + gap) + (Str.length "7" + gap) + (Str.length "-" + gap):Nat):Int))
  exact this
 ·have e:af "7" = [.w "7"]:=rfl
  rw [e,aS gU vX] at h
  obtain ⟨g1,g2⟩:=ai h
  exact ⟨_,i + 1,.num g1,g2,ey (by first | exact .inl ⟨_,rfl⟩ | exact .inr rfl)⟩
 ·have e:af "c" = [.w "c"]:=rfl
  rw [e,aS B5 Kj] at h
  obtain ⟨g1,g2⟩:=ai h
  refine ⟨_,i + 1,.name g1 (Bx g2 hn),g2,?_⟩
  have e2:cv "c" = [⟨7,.str "c", 1⟩,⟨0,.str "", 0⟩]:=rfl
  rw [e2]
  exact dK (by first | exact .inl ⟨_,rfl⟩ | exact .inr rfl) .none
def uD (w:Str):Prop:=w = "++" ∨ w = "--"
theorem fP (mix t:Nat):uD (aM mix t)∨aM mix t = ".b" ∨ aM mix t = "()" ∨ aM mix t = "[7]" := by
 have:∀ j,j < 5→(f9.getD j "" = "++" ∨ f9.getD j "" = "--")∨f9.getD j "" = ".b" ∨ f9.getD j "" = "()" ∨ f9.getD j "" = "[7]" := by decide +kernel
 exact this _ (Nat.mod_lt _ (by decide))
theorem B4 {w:Str} (h:uD w):¬ d9 w:=by rcases h with rfl | rfl <;> decide +kernel
theorem Be {w:Str} (h:uD w):tokOf w=.sign w:=by rcases h with rfl | rfl <;> kernel_rfl
theorem zo {w:Str} (h:uD w):w ≠ ".b" ∧ w ≠ "()" ∧ w ≠ "[7]" := by rcases h with rfl | rfl <;> decide +kernel
theorem Ew {i pl t:Nat} {s:Str} {v:V} {r:List Rw} (hs:uD s∨s = ".b" ∨ s = "()" ∨ s = "[7]") (h:P.ts.drop i=toks gap pl (aj s t) ++ L) (hn:JD L) (hr:aq v r):Ow P i v L (gH s :: (r ++ cf s)):=by
 rcases hs with hs | rfl | rfl | rfl
 ·obtain ⟨n1,n2,n3⟩:=zo hs
  have e:aj s t=[.m (t + 1),.w s]:=by rw [aj,if_neg n1,if_neg n2,if_neg n3]
  rw [e,qZ (i:=0),aS (B4 hs) (Be hs)] at h
  obtain ⟨g1,g2⟩:=ai h
  refine ⟨_,_,.post hs g1,g2,?_⟩
  rw [gH,cf,if_neg n1,if_neg n2,if_neg n3,if_neg n1,if_neg n2,if_neg n3,List.append_nil]
  exact dK (by first | exact .inl ⟨_,rfl⟩ | exact .inr rfl) hr
 ·have e:aj ".b" t=[.m (t + 1),.w ".", .w "b"]:=rfl
  rw [e,qZ (i:=0),aS EJ Og,aS JM QH] at h
  obtain ⟨g1,g2⟩:=ai h
  obtain ⟨g3,g4⟩:=ai g2
  exact ⟨_,_,.mem g1 g3 (Bx g4 hn),g4,cK (by first | exact .inl ⟨_,rfl⟩ | exact .inr rfl) hr .none⟩
 ·have e:aj "()" t=[.m (t + 1),.w "(", .w ")"]:=rfl
  rw [e,qZ (i:=0),aS i9 vl,aS rO I6] at h
  obtain ⟨g1,g2⟩:=ai h
  obtain ⟨g3,g4⟩:=ai g2
  exact ⟨_,_,.call g1 g3,g4,cK (by first | exact .inl ⟨_,rfl⟩ | exact .inr rfl) hr (ey (by first | exact .inl ⟨_,rfl⟩ | exact .inr rfl))⟩
 ·have e:aj "[7]" t=[.m (t + 1),.w "[", .w "7", .w "]"]:=rfl
  rw [e,qZ (i:=0),aS Dz NM,aS gU vX,aS Jp Qw] at h
  obtain ⟨g1,g2⟩:=ai h
  obtain ⟨g3,g4⟩:=ai g2
  obtain ⟨g5,g6⟩:=ai g4
  exact ⟨_,_,.idx g1 g3 g5,g6,cK (by first | exact .inl ⟨_,rfl⟩ | exact .inr rfl) hr (dK (by first | exact .inl ⟨_,rfl⟩ | exact .inr rfl) (dK (by first | exact .inl ⟨_,rfl⟩ | exact .inr rfl) (ey (by first | exact .inl ⟨_,rfl⟩ | exact .inr rfl))))⟩
theorem jK {pl t:Nat} {s:Str} (hs:uD s∨s = ".b" ∨ s = "()" ∨ s = "[7]"):∃ x r,toks gap pl (aj s t)=(.sign x,(pl:Int)) :: r∧x∈ao∧x ≠ "<" := by
 rcases hs with hs | rfl | rfl | rfl
 ·obtain ⟨n1,n2,n3⟩:=zo hs
  have e:aj s t=[.m (t + 1),.w s]:=by rw [aj,if_neg n1,if_neg n2,if_neg n3]
  rw [e,qZ (i:=0),aS (B4 hs) (Be hs)]
  exact ⟨s,_,rfl,by rcases hs with rfl | rfl <;> decide +kernel,by rcases hs with rfl | rfl <;> decide +kernel⟩
 ·have e:aj ".b" t=[.m (t + 1),.w ".", .w "b"]:=rfl
  rw [e,qZ (i:=0),aS EJ Og]
  exact ⟨_,_,rfl,by decide +kernel,by decide +kernel⟩
 ·have e:aj "()" t=[.m (t + 1),.w "(", .w ")"]:=rfl
  rw [e,qZ (i:=0),aS i9 vl]
  exact ⟨_,_,rfl,by decide +kernel,by decide +kernel⟩
 ·have e:aj "[7]" t=[.m (t + 1),.w "[", .w "7", .w "]"]:=rfl
  rw [e,qZ (i:=0),aS Dz NM]
  exact ⟨_,_,rfl,by decide +kernel,by decide +kernel⟩
theorem qK {x:Str} {pl:Int} {r:TL} (h:x ≠ "<"):JD ((.sign x,pl) :: r):=⟨_,_,rfl,.inl (by rw [sgn]; simpa using h)⟩
theorem oJ {mix pl:Nat} (hn:JD L):∀ ts:List Nat,JD (toks gap pl (ts.flatMap fun t=>aj (aM mix t) t) ++ L)
 | []=>hn
 | t :: ts=>by
  rw [List.flatMap_cons,dh]
  obtain ⟨x,r,e,h1,h2⟩:=jK (gap:=gap) (pl:=pl) (t:=t) (fP mix t)
  rw [e]
  exact qK h2
theorem yM (mix:Nat) (ts:List Nat) {i pl:Nat} {v:V} {r:List Rw} (h:P.ts.drop i=toks gap pl (ts.flatMap fun t=>aj (aM mix t) t) ++ L) (hn:JD L) (hr:aq v r):
  LI P i v ts.length L ((ts.map fun t=>gH (aM mix t)).reverse ++ (r ++ ts.flatMap fun t=>cf (aM mix t))):=by
 induction ts generalizing i pl v r with
 | nil=>exact ⟨v,i,.nil,h,by rw [List.flatMap_nil,List.append_nil]; exact hr⟩
 | cons t ts ih=>
  rw [List.flatMap_cons] at h
  obtain ⟨h1,h2⟩:=du h
  obtain ⟨i',w,g1,g2,g3⟩:=Ew (fP mix t) h1 (oJ hn ts) hr
  obtain ⟨w',j,k1,k2,k3⟩:=ih g2 g3
  refine ⟨w',j,.cons g1 k1,k2,?_⟩
  rw [List.map_cons,List.reverse_cons,List.flatMap_cons]
  simpa using k3
end
section
variable {bs:Bs} {n:Nat} {P:b9} {S:c8} {gap:Nat} {L:TL}
theorem z2 (s:Str) (t pl:Nat):bS gap pl (ae s t)=if 40 < t + 1 then some (pl + span gap (ae s t)) else none:=by
 unfold ae
 split
 ·show (if 40 < t + 1 then some (pl + eB gap (.w "(") + eB gap (.w "int") + eB gap (.w ")")) else none)=_
  congr 2
  simp only [List.cons_append,List.nil_append,jO,Gl,eB]; omega
 ·show (if 40 < t + 1 then some (pl + eB gap (.w s)) else none)=_
  congr 2
theorem yS (s:Str) (t pl:Nat):bS gap pl (aj s t)=if 40 < t + 1 then some pl else none:=by
 unfold aj
 rw [wm]
 by_cases h:40 < t + 1
 ·rw [if_pos h,if_pos h]
 ·rw [if_neg h,if_neg h]
  split
  ·rfl
  ·split
   ·rfl
   ·split <;> rfl
theorem rV (core:Str) (pl:Nat):bS gap pl (af core)=none:=by
 unfold af
 split <;> rfl
theorem m8 {f:Nat→List Pc} {ts:List Nat} {pl:Nat} (h:∀ t∈ts,∀ pl,bS gap pl (f t)=none):bS gap pl (ts.flatMap f)=none:=by
 induction ts generalizing pl with
 | nil=>rfl
 | cons t ts ih=>
  rw [List.flatMap_cons,aV,h t (.head _)]
  exact ih fun t ht=>h t (.tail _ ht)
theorem gD {mix m pl:Nat} (h:m≤40):bS gap pl (aI mix m)=none:=m8 fun t ht pl=>by
 have:=List.mem_range.mp ht
 rw [z2,if_neg (by omega)]
theorem kh {mix m pl:Nat} (h:m≤40):bS gap pl (aB mix m)=none:=m8 fun t ht pl=>by
 have:=List.mem_range.mp ht
 rw [yS,if_neg (by omega)]
def MN (t:T):Prop:=t=.num∨(∃ x,t=.name x∧x ≠ "async")∨∃ x,t=.sign x∧x∈[("-" : Str),"++", "!", "--", "~", "+", "("]
inductive PH (X:TL) (pl:Nat):Prop
 | mk (t1:T) (r:TL) (e:X=(t1,(pl:Int)) :: r) (h:MN t1)
inductive Sp (t:T):Prop
 | mk (h0:t.starts=true) (h1:t.sort≠2) (h2:t.sort≠0) (h3:t.is 6 "=>" = false) (h4:t.is 6 "<" = false) (h5:t.is 6 "[" = false) (h6:t.is 6 "?" = false) (h7:t.is 6 "," = false) (h8:t.is 6 ">" = false)
theorem MN.facts {t:T} (h:MN t):Sp t:=by
 rcases h with rfl | ⟨x,rfl,_⟩ | ⟨x,rfl,hx⟩
 ·exact ⟨rfl,by simp [T.sort],by simp [T.sort],rfl,rfl,rfl,rfl,rfl,rfl⟩
 ·exact ⟨rfl,by simp [T.sort],by simp [T.sort],rfl,rfl,rfl,rfl,rfl,rfl⟩
 ·have h1:∀ x∈[("-" : Str),"++", "!", "--", "~", "+", "("],x∈cO∧x ≠ "=>" ∧ x ≠ "<" ∧ x ≠ "[" ∧ x ≠ "?" ∧ x ≠ "," ∧ x ≠ ">" := by decide +kernel
  obtain ⟨a0,a1,a2,a3,a4,a5,a6⟩:=h1 x hx
  have e:∀ y:Str,x≠y→(T.sign x).is 6 y=false:=fun y hy=>by
   have:=sgn x y 0
   rw [show (T.sign x).is 6 y=(x == y) from this]; simpa using hy
  exact ⟨decide_eq_true a0,by simp [T.sort],by simp [T.sort],e _ a1,e _ a2,e _ a3,e _ a4,e _ a5,e _ a6⟩
theorem JL {s:Str} (h:qI s):MN (.sign s):=.inr (.inr ⟨s,rfl,by
 have:∀ s∈[("-" : Str),"++", "!", "--", "~", "+"],s∈[("-" : Str),"++", "!", "--", "~", "+", "("]:=by decide +kernel
 exact this s h⟩)
theorem AK {pl t:Nat} {s:Str} (hs:qI s∨s = "(int)" ∨ s = "await"):∃ t1 r,toks gap pl (ae s t)=(t1,(pl:Int)) :: r∧MN t1∧t1≠.num:=by
 rcases hs with hs | rfl | rfl
 ·obtain ⟨n1,n2⟩:=rH s hs
  have e:ae s t=[.w s,.m (t + 1)]:=by rw [ae,if_neg n1]; rfl
  rw [e,aS (qz s hs) (qj hs)]
  exact ⟨_,_,rfl,JL hs,by intro e; cases e⟩
 ·have e:ae "(int)" t=[.w "(", .w "int", .w ")", .m (t + 1)]:=rfl
  rw [e,aS i9 vl]
  exact ⟨_,_,rfl,.inr (.inr ⟨_,rfl,by decide +kernel⟩),by intro e; cases e⟩
 ·have e:ae "await" t=[.w "await", .m (t + 1)]:=rfl
  rw [e,aS za Ih]
  exact ⟨_,_,rfl,.inr (.inl ⟨_,rfl,by decide +kernel⟩),by intro e; cases e⟩
theorem As {pl:Nat} {core:Str} (hc:core = "(" ∨ core = "7" ∨ core = "c"):PH (toks gap pl (af core)) pl:=by
 rcases hc with rfl | rfl | rfl
 ·have e:af "(" = .w "(" :: [.w "7", .m 1,.w "*", .w "7", .m 2,.w "-", .w "7", .w ")"]:=rfl
  rw [e,aS i9 vl]
  exact ⟨_,_,rfl,.inr (.inr ⟨_,rfl,by decide +kernel⟩)⟩
 ·have e:af "7" = [.w "7"]:=rfl
  rw [e,aS gU vX]
  exact ⟨_,_,rfl,.inl rfl⟩
 ·have e:af "c" = [.w "c"]:=rfl
  rw [e,aS B5 Kj]
  exact ⟨_,_,rfl,.inr (.inl ⟨_,rfl,by decide +kernel⟩)⟩
theorem ji {mix pl:Nat} {core:Str} (hc:core = "(" ∨ core = "7" ∨ core = "c") (ts:List Nat) (X:List Pc):PH (toks gap pl ((ts.flatMap fun t=>ae (aK mix t) t) ++ (af core ++ X))) pl:=by
 match ts with
 | []=>
  obtain ⟨t1,r,e,h⟩:=As (gap:=gap) (pl:=pl) hc
  rw [List.flatMap_nil,List.nil_append,dh,e]
  exact ⟨t1,_,rfl,h⟩
 | t :: ts=>
  obtain ⟨t1,r,e,h,_⟩:=AK (gap:=gap) (pl:=pl) (t:=t) (fL mix t)
  rw [List.flatMap_cons,List.append_assoc,dh,e]
  exact ⟨t1,_,rfl,h⟩
theorem HE {mix pl:Nat} (ts:List Nat) (X:List Pc):KL (toks gap pl ((ts.flatMap fun t=>ae (aK mix t) t) ++ (af "7" ++ X)) ++ L):=by
 match ts with
 | []=>
  have e:af "7" ++ X=.w "7" :: X:=rfl
  rw [List.flatMap_nil,List.nil_append,e,aS gU vX] at ⊢
  exact ⟨_,_,rfl,.inl ⟨by simp [T.sort],by simp [T.sort],rfl,rfl⟩⟩
 | t :: ts=>
  rw [List.flatMap_cons,List.append_assoc,dh]
  rcases fL mix t with hs | hs | hs
  ·obtain ⟨n1,n2⟩:=rH _ hs
   have e:ae (aK mix t) t=[.w (aK mix t),.m (t + 1)]:=by rw [ae,if_neg n1]; rfl
   rw [e,aS (qz _ hs) (qj hs)]
   obtain ⟨f0,f1,f2,f3,f4,f5,f6,f7,f8⟩:=(JL hs).facts
   exact ⟨_,_,rfl,.inl ⟨f1,by show (6:Int)≠1; decide,f8,f7⟩⟩
  ·rw [hs]
   have e:ae "(int)" t=[.w "(", .w "int", .w ")", .m (t + 1)]:=rfl
   rw [e,aS i9 vl]
   exact ⟨_,_,rfl,.inl ⟨by simp [T.sort],by simp [T.sort],by kernel_rfl,by kernel_rfl⟩⟩
  ·rw [hs]
   have e:ae "await" t=[.w "await", .m (t + 1)]:=rfl
   rw [e]
   obtain ⟨t2,r2,e2,h2⟩:=ji (gap:=gap) (pl:=pl + span gap [.w "await", .m (t + 1)]) (mix:=mix) (.inr (.inl rfl)) ts X
   rw [e2,aS za Ih]
   obtain ⟨f0,f1,f2,f3,f4,f5,f6,f7,f8⟩:=h2.facts
   exact ⟨_,_,rfl,.inr ⟨_,(t2,_),_,rfl,rfl,f4,f5,f6,f7,f8⟩⟩
inductive zh (L:TL):Prop
 | mk (t:T×Int) (r:TL) (e:L=t :: r) (h1:t.1.key∉ao) (h2:t.1.sort≠1) (h3:t.1.is 6 "=>" = false) (h4:t.1=.sign "<" → KL r) (h5:t.1=.sign "?" → ∃ t' r',r=t' :: r'∧t'.1.starts=true)
theorem gr {t:T} {x:Str} (h:t.is 6 x=true):t=.sign x:=by
 unfold T.is at h
 rw [Bool.and_eq_true,beq_iff_eq,beq_iff_eq] at h
 obtain ⟨h1,h2⟩:=h
 cases t with
 | sign y=>exact congrArg T.sign h2
 | _=>cases h1
theorem zh.R3 (h:zh L):JD L:=by
 obtain ⟨t,r,e,_,_,_,h1,_⟩:=h
 refine ⟨t,r,e,?_⟩
 cases hq:t.1.is 6 "<" with
 | false=>exact .inl rfl
 | true=>exact .inr ⟨gr hq,h1 (gr hq)⟩
theorem oV {a m:Nat} (h:a≤m):List.range m=List.range a ++ (List.range (m - a)).map (a + ·):=by
 rw [← List.range_add,Nat.add_sub_cancel' h]
inductive QE (bs:Bs) (n:Nat) (P:b9) (S:c8) (i gap pl:Nat) (L:TL) (ps:List Pc) (rws:List Rw):Prop
 | ok (h:bS gap pl ps=none) (v:V) (j:Nat) (u:M4 bs n P S i j v) (e:P.ts.drop j=L) (q:aq v rws)
 | bad (b:Nat) (h:bS gap pl ps=some b) (u:FO bs n P S i (b:Nat))
theorem wM (I:PI P) (C:PC P S) (C2:PC P { S with deep:=S.deep + 1 }) {i pl heads tails mix:Nat} {core:Str} (hc:core = "(" ∨ core = "7" ∨ core = "c") (hP:P.ts.drop i=toks gap pl (bO core heads tails mix) ++ L) (hA:zh L):
  QE bs (n + 23) P S i gap pl L (bO core heads tails mix) (fA core heads tails mix):=by
 by_cases hh:heads≤40
 ·
  have e1:bO core heads tails mix=aI mix heads ++ (af core ++ aB mix tails):=by rw [bO,List.append_assoc]
  rw [e1] at hP ⊢
  obtain ⟨h1,h2⟩:=du hP
  obtain ⟨hs,j1,g1,g2,g3,g4⟩:=wJ mix (List.range heads) h1
  rw [List.length_range] at g2
  obtain ⟨h3,_⟩:=du g3
  by_cases ht:tails≤40
  ·have hb:bS gap pl (aI mix heads ++ (af core ++ aB mix tails))=none:=by rw [aV,gD hh]; show bS gap _ (af core ++ aB mix tails)=none; rw [aV,rV]; exact kh ht
   obtain ⟨v0,j2,k1,k2,k3⟩:=BD hc h3 (oJ hA.R3 (List.range tails))
   obtain ⟨w,j,l1,l2,l3⟩:=yM mix (List.range tails) k2 hA.R3 k3
   rw [List.length_range] at l1
   obtain ⟨t,r,rfl,a1,_⟩:=hA
   obtain ⟨tk,_⟩:=ai l2
   refine .ok hb (wrap hs w) j (Kg I C C2 (.mk g1 k1 l1 (by omega) ht tk) a1) l2 ?_
   have:=g4 w _ l3
   rw [← List.append_assoc] at this
   exact this
  ·have e2:aB mix tails=aB mix 40 ++ (aj (aM mix 40) 40 ++ ((List.range (tails - 41)).map (41 + ·)).flatMap fun t=>aj (aM mix t) t):=by
    unfold aB
    rw [oV (a:=41) (by omega),List.flatMap_append,List.range_succ,List.flatMap_append]; simp
   have hb:bS gap pl (aI mix heads ++ (af core ++ aB mix tails))=some (pl + span gap (aI mix heads) + span gap (af core) + span gap (aB mix 40)):=by
    rw [aV,gD hh]
    show bS gap _ (af core ++ aB mix tails)=_
    rw [aV,rV,e2]
    show bS gap _ (aB mix 40 ++ _)=_
    rw [aV,kh (Nat.le_refl _)]
    show bS gap _ (aj _ _ ++ _)=_
    rw [aV,yS,if_pos (by omega)]
   refine .bad _ hb ?_
   obtain ⟨x,r,f1,f2,f3⟩:=jK (gap:=gap) (pl:=pl + span gap (aI mix heads) + span gap (af core) + span gap (aB mix 40)) (t:=40) (fP mix 40)
   have g3':=g3
   rw [e2,← List.append_assoc] at g3'
   obtain ⟨h4,h5⟩:=du g3'
   rw [l8,← Nat.add_assoc] at h4 h5
   rw [dh gap (aj (aM mix 40) 40),f1] at h4 h5
   obtain ⟨h6,h7⟩:=du h4
   obtain ⟨v0,j2,k1,k2,k3⟩:=BD hc h6 (oJ (qK f3) (List.range 40))
   obtain ⟨w,j,l1,l2,l3⟩:=yM mix (List.range 40) k2 (qK f3) k3
   rw [List.length_range] at l1
   obtain ⟨tk,_⟩:=ai l2
   exact fun {_ _ _} g hD=>vJ I C C2 (.mk g1 k1 l1 (by omega) (by omega) tk) f2 g hD
 ·have e2:aI mix heads=aI mix 41 ++ ((List.range (heads - 41)).map (41 + ·)).flatMap fun t=>ae (aK mix t) t:=by
   unfold aI
   rw [oV (a:=41) (by omega),List.flatMap_append]
  have e1:bO core heads tails mix=aI mix 41 ++ ((((List.range (heads - 41)).map (41 + ·)).flatMap fun t=>ae (aK mix t) t) ++ (af core ++ aB mix tails)):=by rw [bO,e2]; simp
  have e3:aI mix 41=aI mix 40 ++ ae (aK mix 40) 40:=oM mix 40
  have hb:bS gap pl (bO core heads tails mix)=some (pl + span gap (aI mix 41)):=by
   have:bS gap pl (aI mix 41)=some (pl + span gap (aI mix 41)):=by
    rw [e3,aV,gD (Nat.le_refl _)] at ⊢
    show bS gap _ (ae _ _)=_
    rw [z2,if_pos (by omega),l8,Nat.add_assoc] at ⊢
   rw [e1,aV,this]
  refine .bad _ hb ?_
  rw [e1] at hP
  obtain ⟨h1,h2⟩:=du hP
  obtain ⟨t1,r1,f1,f2⟩:=ji (gap:=gap) (pl:=pl + span gap (aI mix 41)) (mix:=mix) hc ((List.range (heads - 41)).map (41 + ·)) (aB mix tails)
  rw [f1] at h1
  obtain ⟨hs,j1,g1,g2,g3,g4⟩:=wJ mix (List.range 41) h1
  rw [List.length_range] at g2
  obtain ⟨tk,_⟩:=ai g3
  exact fun {_ _ _} g hD=>uM C g1 g2 tk g hD
end
theorem Jl {a b:Str} (h:T.sign a=T.sign b):a=b:=by cases h; rfl
section
variable {bs:Bs} {n:Nat} {P:b9} {S:c8} {gap:Nat} {L:TL}
inductive Pn (L:TL) (w:Str) (k:Nat):Prop
 | mk (t t':T×Int) (h0:L[0]?=some t) (h1:t.1=.sign ">" → L[1]?=some t') (h2:cJ t t'=(w,k)) (h3:∀ j,j < k→∃ t,L[j]?=some t∧t.1.sort≠0)
theorem PQ {x:Str}:(T.sign x).sort≠0:=by simp [T.sort]
theorem Sv {x:Str}:(T.sign x).sort≠1:=by simp [T.sort]
theorem La {x y:Str} {p q:Int} {N:TL} (j:Nat) (hj:j < 2):∃ t,((T.sign x,p) :: (T.sign y,q) :: N)[j]?=some t∧t.1.sort≠0:=by
 cases j with
 | zero=>exact ⟨_,rfl,PQ⟩
 | succ j=>cases j with
  | zero=>exact ⟨_,rfl,PQ⟩
  | succ j=>exact absurd hj (by omega)
theorem KA {t:T×Int} {N:TL} (h:t.1.sort≠0) (j:Nat) (hj:j < 1):∃ t',(t :: N)[j]?=some t'∧t'.1.sort≠0:=by
 obtain rfl:=Nat.lt_one_iff.mp hj
 exact ⟨t,rfl,h⟩
theorem iv {i j:Nat} (h:P.ts.drop i=L):P.ts[i + j]?=L[j]?:=by rw [← h,List.getElem?_drop]
theorem Jz {i k:Nat} {w:Str} (h:P.ts.drop i=L) (o:Pn L w k):dO P i w k:=by
 obtain ⟨t,t',h1,h2,h3,h4⟩:=o
 refine .mk (t:=t) (t':=t') ?_ (fun e=>?_) h3 fun j hj=>?_
 ·have:=iv (j:=0) h; rw [Nat.add_zero] at this; rw [this]; exact h1
 ·rw [iv h]; exact h2 e
 ·obtain ⟨t,e,hs⟩:=h4 j hj
  exact ⟨t,by rw [iv h]; exact e,hs⟩
theorem F4 (x y:Str):(T.sign x).is 6 y=(x == y):=sgn x y 0
theorem xk:∀ o∈aa,o∉[("b" : Str),"c", "await"]∧o ≠ "7" ∧ o ≠ "int" ∧ o∉ao∧o ≠ "?" ∧ o ≠ "=>" ∧ (d9 o→o = ">>"):=by decide +kernel
theorem LG:∀ o∈aa,0 < o.length:=by decide +kernel
theorem E5 {o:Str} (h:dA o):tokOf o=.word o:=by
 rcases h with rfl | rfl <;> kernel_rfl
theorem M7 {o:Str} (h:dA o):¬ d9 o:=by rcases h with rfl | rfl <;> decide +kernel
theorem KH {o:Str} (ho:o∈aa) (h:¬ dA o):tokOf o=.sign o:=by
 obtain ⟨a,b,d,_⟩:=xk o ho
 rw [tokOf,if_neg a,if_neg b,if_neg]
 intro hm
 simp only [List.mem_cons,List.not_mem_nil,or_false] at hm
 rcases hm with hm | hm | hm
 ·exact d hm
 ·exact h (.inl hm)
 ·exact h (.inr hm)
theorem zh.sg {x:Str} {p:Int} {N:TL} (h1:x∉ao) (h2:x ≠ "=>") (h3:x = "<" → KL N) (h4:x ≠ "?"):zh ((T.sign x,p) :: N):=⟨_,_,rfl,h1,Sv,by rw [F4]; simpa using h2,fun e=>h3 (Jl e),fun e=>absurd (Jl e) h4⟩
inductive I9 (M N:TL) (o:Str) (pl:Nat):Prop
 | mk (k:Nat) (h1:Pn M o k) (h2:M.drop k=N) (h3:zh M) (t:T×Int) (h4:M[0]?=some t) (h5:t.2=(pl:Int))
theorem HC {pl:Nat} {q:Int} {N:TL} (hq:q=(pl:Int) + 1):I9 ((.sign ">", (pl:Int)) :: (.sign ">", q) :: N) N ">>" pl:=by
 have e:(">" : Str) ++ ">" = ">>" := by decide +kernel
 exact ⟨2,⟨_,_,rfl,fun _=>rfl,by simp [cJ,aC,e,hq],La⟩,rfl,.sg (by decide +kernel) (by decide +kernel) (fun e=>absurd e (by decide +kernel)) (by decide +kernel),_,rfl,rfl⟩
theorem Lb {o:Str} {pl:Nat} {N:TL} (e1:o∉ao):I9 ((.word o,(pl:Int)) :: N) N o pl:=
 ⟨1,⟨_,(.fin,0),rfl,(fun e=>by cases e),rfl,KA (by simp [T.sort])⟩,rfl,⟨_,_,rfl,e1,by simp [T.sort],rfl,(fun e=>by cases e),(fun e=>by cases e)⟩,_,rfl,rfl⟩
theorem Ij {pl:Nat} {q:Int} {t1:T} (hq:q≠(pl:Int) + 1):cJ (.sign ">", (pl:Int)) (t1,q)=((">" : Str),1):=by
 simp only [cJ,aC]
 cases t1
 case sign x=>simp [hq]
 all_goals simp
theorem JO {o:Str} {pl:Nat} {q:Int} {t1:T} {r:TL} (hq:q≠(pl:Int) + 1) (e1:o∉ao) (e2:o ≠ "?") (e3:o ≠ "=>") (hn:o = "<" → KL ((t1,q) :: r)):I9 ((.sign o,(pl:Int)) :: (t1,q) :: r) ((t1,q) :: r) o pl:=by
 refine ⟨1,⟨_,(t1,q),rfl,fun _=>rfl,?_,KA PQ⟩,rfl,.sg e1 e3 hn e2,_,rfl,rfl⟩
 by_cases hgt:o = ">"
 ·subst hgt; exact Ij hq
 ·simp [cJ,aC,hgt]
theorem Bz {o:Str} {pl:Nat} {Q:List Pc} {t1:T} {r:TL} (hg:1≤gap) (ho:o∈aa) (hQ:toks gap (pl + (o.length + gap)) Q ++ L=(t1,((pl + (o.length + gap):Nat):Int)) :: r) (hn:o = "<" → KL (toks gap (pl + (o.length + gap)) Q ++ L)):
  I9 (toks gap pl (.w o :: Q) ++ L) (toks gap (pl + (o.length + gap)) Q ++ L) o pl:=by
 obtain ⟨a,b,d,e1,e2,e3,e4⟩:=xk o ho
 by_cases h2:d9 o
 ·obtain rfl:=e4 h2
  rw [jY,fu,if_pos h2]
  exact HC rfl
 ·by_cases hty:dA o
  ·rw [aS h2 (E5 hty)]
   exact Lb e1
  ·have hl:1≤o.length:=by
    cases hz:o.length with
    | succ n=>exact Nat.succ_pos n
    | zero=>exact absurd (LG o ho) (by rw [hz]; decide)
   rw [aS h2 (KH ho hty),List.cons_append]
   rw [hQ] at hn ⊢
   exact JO (by omega) e1 e2 e3 hn
class inductive fM {α β:Type} (R:α→β→Prop):List α→List β→Prop
 | nil:fM R [] []
 | cons {a:α} {b:β} {l:List α} {m:List β}:R a b→fM R l m→fM R (a :: l) (b :: m)
def RV (v:V) (r:List Rw):Prop:=aq v r∧ie v
inductive Ba:Lk V→Lk (List Rw)→Prop
 | op {w:Str} {v:V} {r:List Rw}:RV v r→Ba (.op w v) (.op w r)
 | ty {k:Int} {v:V} {r:List Rw}:aq v r→Ba (.ty k v) (.ty k r)
theorem RV.join {s:Str} {v v':V} {r r':List Rw} (h:RV v r) (h':RV v' r'):RV (cR s v v') (Jr s r r'):=by
 refine ⟨?_,h.2.join⟩
 unfold cR Jr
 by_cases hp:pw s≤3
 ·rw [if_pos hp,if_pos (by omega)]
  exact cK (by first | exact .inl ⟨_,rfl⟩ | exact .inr rfl) h.1 h'.1
 ·rw [if_neg hp,if_neg (by omega)]
  exact cK (by first | exact .inl ⟨_,rfl⟩ | exact .inr rfl) h.1 h'.1
theorem RV.is {k:Int} {v t:V} {r r':List Rw} (h:RV v r) (h':aq t r'):RV (An k v t) (Ir k r r'):=⟨cK (by first | exact .inl ⟨_,rfl⟩ | exact .inr rfl) h.1 h',h.2.is⟩
theorem w9 {p:Int} {ss:List Str}:∀ {vs:List V} {rs:List (List Rw)},fM RV vs rs→(red cR p ss vs).1=(red Jr p ss rs).1∧fM RV (red cR p ss vs).2 (red Jr p ss rs).2:=by
 induction ss with
 | nil=>intro vs rs h; rw [gp,gp]; exact ⟨rfl,h⟩
 | cons s ss ih=>
  intro vs rs h
  cases h with
  | nil=>exact ⟨rfl,.nil⟩
  | cons a h=>
   cases h with
   | nil=>exact ⟨rfl,.cons a .nil⟩
   | cons b h=>
    cases hb:binds s p with
    | true=>rw [fY hb,fY hb]; exact ih (.cons (b.join a) h)
    | false=>rw [mh hb,mh hb]; exact ⟨rfl,.cons a (.cons b h)⟩
theorem RV.top {k:Int} {t:V} {r':List Rw} {A:List V} {B:List (List Rw)} (h':aq t r') (k':fM RV A B):fM RV (wQ (fun l=>An k l t) A) (wQ (fun l=>Ir k l r') B):=by
 cases k' with
 | nil=>exact .nil
 | cons a b=>exact .cons (a.is h') b
theorem HF {ls:List (Lk V)} {lr:List (Lk (List Rw))} (hl:fM Ba ls lr):∀ {ss:List Str} {vs:List V} {rs:List (List Rw)},fM RV vs rs→fM RV (run cR An ls ss vs) (run Jr Ir lr ss rs):=by
 induction hl with
 | nil=>exact fun h=>(w9 (p:=0) h).2
 | cons hx hl ih=>
  intro ss vs rs h
  cases hx with
  | op hv=>
   obtain ⟨e,k⟩:=w9 (p:=pw _) (ss:=ss) h
   rw [oE,oE,e]
   exact ih (.cons hv k)
  | ty hv=>
   obtain ⟨e,k⟩:=w9 (p:=8) (ss:=ss) h
   rw [rM,rM,e]
   exact ih (RV.top hv k)
theorem Bu {ls:List (Lk V)} {lr:List (Lk (List Rw))} {v0:V} {r0:List Rw} (h:fM Ba ls lr) (h0:RV v0 r0) (wD:∀ x∈lr,x.BS):∃ v,run cR An ls [] [v0]=[v]∧RV v (bH Jr (lr.foldl (bc Jr Ir) [(("" : Str),r0)])):=by
 have:=HF (ss:=[]) h (.cons h0 .nil)
 rw [Hq wD] at this
 generalize run cR An ls [] [v0]=A at this ⊢
 cases this with
 | cons a b=>
  cases b
  exact ⟨_,rfl,a⟩
def Ch.lk (C:Ch) (t:Nat):Lk (List Rw):=dQ (C.op t) (C.item t)
theorem jh (C:Ch) (t:Nat):C.core t = "(" ∨ C.core t = "7" ∨ C.core t = "c" := by
 unfold Ch.core
 split
 ·exact .inr (.inl rfl)
 ·split
  ·exact .inl rfl
  ·exact .inr (.inr rfl)
theorem ng (C:Ch) (t:Nat):C.link (t + 1)=.m (t + 1) :: .w (C.op (t + 1)) :: C.dW (t + 1):=by
 rw [Ch.link,if_neg (by omega)]; rfl
theorem gO {C:Ch} {t:Nat} (h:¬ dA (C.op t)):C.dW t=bO (C.core t) (C.pre t) (C.oS t) ((C.mix + t) % 32):=by rw [Ch.dW,if_neg h]
theorem wy (C:Ch) (t pl:Nat) (X:List Pc):∃ t1 r,toks gap pl (C.dW t ++ X) ++ L=(t1,(pl:Int)) :: r∧(C.op t = "<" → KL (toks gap pl (C.dW t ++ X) ++ L))∧(¬ dA (C.op t)→MN t1):=by
 by_cases h:dA (C.op t)
 ·have e:C.dW t ++ X=.w "int" :: X:=by rw [Ch.dW,if_pos h]; rfl
  rw [e,aS uk Hl]
  refine ⟨_,_,rfl,fun e=>?_,fun h'=>absurd h h'⟩
  rw [e] at h
  rcases h with h | h <;> exact absurd h (by decide +kernel)
 ·rw [gO h,bO]
  have e:aI ((C.mix + t) % 32) (C.pre t) ++ af (C.core t) ++ aB ((C.mix + t) % 32) (C.oS t) ++ X=(((List.range (C.pre t)).flatMap fun q=>ae (aK ((C.mix + t) % 32) q) q)) ++ (af (C.core t) ++ (aB ((C.mix + t) % 32) (C.oS t) ++ X)):=by
   unfold aI; simp
  rw [e]
  obtain ⟨t1,r,e1,h1⟩:=ji (gap:=gap) (pl:=pl) (mix:=(C.mix + t) % 32) (jh C t) (List.range (C.pre t)) (aB ((C.mix + t) % 32) (C.oS t) ++ X)
  refine ⟨t1,r ++ L,by rw [e1]; rfl,fun hlt=>?_,fun _=>h1⟩
  have hc7:C.core t = "7" := by rw [Ch.core,if_pos (.inl hlt)]
  rw [hc7]
  exact HE _ _
theorem mK {C:Ch} (H:C.Ok) (hg:1≤gap) (hA:zh L):∀ (m t pl:Nat),zh (toks gap pl ((List.range' (t + 1) m).flatMap C.link) ++ L)
 | 0,t,pl=>hA
 | m + 1,t,pl=>by
  rw [List.range'_succ,List.flatMap_cons,ng,List.cons_append,qZ (i:=0),List.cons_append]
  obtain ⟨t1,r,e1,h1,h2⟩:=wy (gap:=gap) (L:=L) C (t + 1) (pl + ((C.op (t + 1)).length + gap)) ((List.range' (t + 1 + 1) m).flatMap C.link)
  obtain ⟨k,_,_,h3,_⟩:=Bz (gap:=gap) hg (H.op t) e1 h1
  exact h3
theorem Mu (C:Ch) (t pl:Nat) (X:List Pc):bS gap pl (C.link (t + 1) ++ X)=if 40 < t + 1 then some pl else bS gap (pl + ((C.op (t + 1)).length + gap)) (C.dW (t + 1) ++ X):=by rw [ng]; rfl
theorem Di (C:Ch) (t pl:Nat) (X:List Pc):toks gap pl (C.link (t + 1) ++ X)=toks gap pl (.w (C.op (t + 1)) :: (C.dW (t + 1) ++ X)):=by rw [ng]; rfl
inductive y8 (bs:Bs) (n:Nat) (P:b9) (S:c8) (gap:Nat) (C:Ch) (L:TL) (t i pl:Nat) (X:List Pc):Prop
 | ok {x:Lk V} {i':Nat}:Ba x (C.lk (t + 1))→(∀ {ls:List (Lk V)} {j:Nat},ba bs (n + 23) P S i' ls j→ba bs (n + 23) P S i (x :: ls) j)→bS gap pl (C.dW (t + 1))=none→P.ts.drop i'=toks gap (pl + span gap (C.dW (t + 1))) X ++ L→y8 bs n P S gap C L t i pl X
 | bad {b k:Nat}:bS gap pl (C.dW (t + 1))=some b→dO P i (C.op (t + 1)) k→C.op (t + 1) ≠ "is" → C.op (t + 1) ≠ "as" → FO bs (n + 23) P S (i + k) (b:Nat)→y8 bs n P S gap C L t i pl X
theorem OA {i:Nat} {pl:Int} (g1:P.ts[i]?=some (.word "int", pl)) (g2:P.ts.drop (i + 1)=L) (hA:zh L):xD P i pl:=by
 obtain ⟨ta,ra,ea,a1,a2,a3,a4,a5⟩:=hA
 rw [ea] at g2
 obtain ⟨q1,q2⟩:=ai g2
 refine .mk g1 q1 ?_ a2 fun hq=>?_
 ·cases hb:ta.1.is 6 "[" with
  | false=>rfl
  | true=>
   rw [gr hb] at a1
   exact absurd (show ("[" : Str)∈ao by decide +kernel) a1
 ·obtain ⟨t',r',e',hs'⟩:=a5 (gr hq)
  rw [e'] at q2
  exact ⟨t',(ai q2).1,hs'⟩
theorem Il {C:Ch} {t i pl k:Nat} {X:List Pc} (hty:dA (C.op (t + 1))) (hoa:dO P i (C.op (t + 1)) k) (hw:∃ q:Int,P.ts[i]?=some (.word (C.op (t + 1)),q)) (hnext:P.ts.drop (i + k)=toks gap pl (C.dW (t + 1) ++ X) ++ L) (hA:zh (toks gap (pl + span gap (C.dW (t + 1))) X ++ L)):y8 bs n P S gap C L t i pl X:=by
 have eo:C.dW (t + 1)=[.w "int"]:=by rw [Ch.dW,if_pos hty]
 obtain ⟨q,g0⟩:=hw
 obtain rfl:k=1:=(dO.uniq hoa (.mk (t':=(.fin,0)) (w:=C.op (t + 1)) (k:=1) g0 (fun e=>by cases e) rfl (wx g0 (by simp [T.sort])))).2
 rw [eo,List.cons_append,aS uk Hl] at hnext
 obtain ⟨g1,g2⟩:=ai hnext
 rw [eo] at hA
 have tyAt:=OA g1 g2 hA
 have ty:=ey (k:=40) (a:=.str "int") (at_:=.int (pl:Int)) (.inl ⟨_,rfl⟩)
 have ei:C.item (t + 1)=[⟨40,.str "int", 0⟩]:=by rw [Ch.item,if_pos hty]
 have hl:∀ q:Int,C.lk (t + 1)=.ty q (C.item (t + 1))→Ba (.ty q (br pl)) (C.lk (t + 1)):=fun q e=>by rw [e,ei]; exact .ty ty
 have hb:bS gap pl (C.dW (t + 1))=none:=by rw [eo]; rfl
 have g3:P.ts.drop (i + 1 + 1)=toks gap (pl + span gap (C.dW (t + 1))) X ++ L:=by rw [eo]; exact g2
 rcases hty with e | e
 ·refine .ok (hl 25 (by unfold Ch.lk dQ; rw [if_pos e])) (fun hc=>?_) hb g3
  rw [e] at hoa; exact .is hoa tyAt hc
 ·refine .ok (hl 26 (by unfold Ch.lk dQ; rw [if_neg (by rw [e]; decide +kernel),if_pos e])) (fun hc=>?_) hb g3
  rw [e] at hoa; exact .as hoa tyAt hc
theorem Hk (I:PI P) (Cp:PC P S) (C2:PC P { S with deep:=S.deep + 1 }) {C:Ch} (H:C.Ok) {t i pl k:Nat} {X:List Pc} (hty:¬ dA (C.op (t + 1))) (hoa:dO P i (C.op (t + 1)) k) (hnext:P.ts.drop (i + k)=toks gap pl (C.dW (t + 1) ++ X) ++ L) (hA:zh (toks gap (pl + span gap (C.dW (t + 1))) X ++ L)):y8 bs n P S gap C L t i pl X:=by
 have n1:C.op (t + 1) ≠ "is" := fun e=>hty (.inl e)
 have n2:C.op (t + 1) ≠ "as" := fun e=>hty (.inr e)
 have eo:=gO hty
 have p1:=(du hnext).1
 rw [eo] at p1 hA
 rcases wM (bs:=bs) I Cp C2 (n:=n) (jh C (t + 1)) p1 hA with ⟨u1,v,j1,u2,u3,u4⟩ | ⟨b,u1,u2⟩
 ·rw [← eo] at u1 u3
  refine .ok (x:=.op (C.op (t + 1)) v) ?_ (fun hc=>.op hoa (H.op t) n1 n2 u2 hc) u1 u3
  have e:C.lk (t + 1)=.op (C.op (t + 1)) (C.item (t + 1)):=by unfold Ch.lk dQ; rw [if_neg n1,if_neg n2]
  rw [e,Ch.item,if_neg hty]
  exact .op ⟨u4,u2.ok⟩
 ·rw [← eo] at u1
  exact .bad u1 hoa n1 n2 u2
inductive Links (bs:Bs) (n:Nat) (P:b9) (S:c8) (C:Ch) (L:TL) (o:Option Nat) (t m i:Nat):Prop
 | ok {ls:List (Lk V)} {j:Nat}:o=none→t + m≤40→ba bs (n + 23) P S i ls j→fM Ba ls ((List.range' (t + 1) m).map C.lk)→P.ts.drop j=L→Links bs n P S C L o t m i
 | deep {b q:Nat} {ls:List (Lk V)} {j:Nat} {w:Str} {k:Nat} {tk:T×Int}:o=some b→ba bs (n + 23) P S i ls j→fM Ba ls ((List.range' (t + 1) q).map C.lk)→dO P j w k→w∈aa→t + q=40→P.ts[j]?=some tk→tk.2=(b:Int)→Links bs n P S C L o t m i
 | bad {b q:Nat} {ls:List (Lk V)} {j:Nat} {w:Str} {k:Nat}:o=some b→ba bs (n + 23) P S i ls j→fM Ba ls ((List.range' (t + 1) q).map C.lk)→dO P j w k→w∈aa→t + q < 40→w ≠ "is" → w ≠ "as" → FO bs (n + 23) P S (j + k) (b:Nat)→Links bs n P S C L o t m i
theorem Links.cons {C:Ch} {o:Option Nat} {t m i i':Nat} {x:Lk V} (hx:Ba x (C.lk (t + 1))) (hc:∀ {ls:List (Lk V)} {j:Nat},ba bs (n + 23) P S i' ls j→ba bs (n + 23) P S i (x :: ls) j) (h:Links bs n P S C L o (t + 1) m i'):Links bs n P S C L o t (m + 1) i:=by
 have hl:∀ {ls:List (Lk V)} {q:Nat},fM Ba ls ((List.range' (t + 1 + 1) q).map C.lk)→fM Ba (x :: ls) ((List.range' (t + 1) (q + 1)).map C.lk):=fun a=>by rw [List.range'_succ,List.map_cons]; exact .cons hx a
 cases h with
 | ok a b c d e=>exact .ok a (by omega) (hc c) (hl d) e
 | deep a b c d e f g h=>exact .deep a (hc b) (hl c) d e (by omega) g h
 | bad a b c d e f g h i=>exact .bad a (hc b) (hl c) d e (by omega) g h i
theorem DV (I:PI P) (Cp:PC P S) (C2:PC P { S with deep:=S.deep + 1 }) {C:Ch} (H:C.Ok) (hg:1≤gap) (hA:zh L) (m:Nat):∀ (t:Nat) {i pl:Nat},t≤40→P.ts.drop i=toks gap pl ((List.range' (t + 1) m).flatMap C.link) ++ L→Links bs n P S C L (bS gap pl ((List.range' (t + 1) m).flatMap C.link)) t m i:=by
 induction m with
 | zero=>exact fun t i pl ht h=>.ok rfl ht .nil .nil h
 | succ m ih=>
  intro t i pl ht h
  rw [List.range'_succ,List.flatMap_cons,Di] at h
  rw [List.range'_succ,List.flatMap_cons,Mu]
  have hAft:=mK H hg hA m (t + 1) (pl + ((C.op (t + 1)).length + gap) + span gap (C.dW (t + 1)))
  have next:=fun {i:Nat}=>ih (t + 1) (i:=i) (pl:=pl + ((C.op (t + 1)).length + gap) + span gap (C.dW (t + 1)))
  generalize (List.range' (t + 1 + 1) m).flatMap C.link=X at h hAft next ⊢
  obtain ⟨t1,r,e1,h1,h2⟩:=wy (gap:=gap) (L:=L) C (t + 1) (pl + ((C.op (t + 1)).length + gap)) X
  obtain ⟨k,o1,o2,o3,tk,o4,o5⟩:=Bz (gap:=gap) hg (H.op t) e1 h1
  have hoa:=Jz h o1
  have htk:P.ts[i]?=some tk:=(iv (j:=0) h).trans o4
  by_cases h40:40 < t + 1
  ·rw [if_pos h40]
   exact .deep (q:=0) rfl .nil .nil hoa (H.op t) (by omega) htk o5
  have hn:P.ts.drop (i + k)=toks gap (pl + ((C.op (t + 1)).length + gap)) (C.dW (t + 1) ++ X) ++ L:=by rw [← List.drop_drop,h]; exact o2
  rw [if_neg h40,aV]
  have L1:y8 bs n P S gap C L t i (pl + ((C.op (t + 1)).length + gap)) X:=by
   by_cases hty:dA (C.op (t + 1))
   ·refine Il hty hoa ?_ hn hAft
    rw [aS (M7 hty) (E5 hty)] at h
    exact ⟨_,(ai h).1⟩
   ·exact Hk I Cp C2 H hty hoa hn hAft
  cases L1 with
  | ok hx hc hb hd=>rw [hb]; exact (next (by omega) hd).cons hx hc
  | bad hb ho n1 n2 hU=>rw [hb]; exact .bad (q:=0) rfl .nil .nil ho (H.op t) (by omega) n1 n2 hU
end
section
variable {bs:Bs} {n:Nat} {P:b9} {S:c8} {gap:Nat} {L:TL}
theorem fM.len {α β:Type} {R:α→β→Prop} {l:List α} {m:List β} (h:fM R l m):l.length=m.length:=by
 induction h with
 | nil=>rfl
 | cons _ _ ih=>simp [ih]
structure Li (L:TL):Prop where
 aft:zh L
 op:∃ w k,Pn L w k∧w∉aa
theorem mM (C:Ch) (m:Nat):C.aO (m + 1)=C.dW 0 ++ (List.range' 1 m).flatMap C.link:=by
 unfold Ch.aO
 rw [List.range_eq_range',List.range'_succ,List.flatMap_cons]
 rfl
theorem JX (C:Ch) (m:Nat):(List.range' 1 m).map C.lk=List.zipWith dQ (C.ops m) ((List.range m).map fun j=>C.item (j + 1)):=by
 unfold Ch.ops
 rw [List.zipWith_map_left,List.zipWith_map_right,List.zipWith_self]
 rw [List.range'_eq_map_range,List.map_map]
 refine List.map_congr_left fun j _=>?_
 show C.lk (1 + j)=dQ (C.op (j + 1)) (C.item (j + 1))
 rw [Nat.add_comm]; rfl
theorem H7 {C:Ch} (H:C.Ok) (t:Nat):(C.lk (t + 1)).BS:=by
 unfold Ch.lk dQ
 split
 ·trivial
 ·split
  ·trivial
  ·have:=zz (H.op t)
   show 1≤pw _
   omega
theorem yv {C:Ch} (H:C.Ok) (m:Nat):∀ x∈(List.range' 1 m).map C.lk,x.BS:=by
 intro x hx
 obtain ⟨t,ht,rfl⟩:=List.mem_map.mp hx
 have:=(List.mem_range'_1.mp ht).1
 obtain ⟨s,rfl⟩:=Nat.exists_eq_add_of_le' this
 exact H7 H s
theorem zw (C:Ch):¬ dA (C.op 0):=by
 show ¬ dA ""
 decide +kernel
theorem ka (I:PI P) (Cp:PC P S) (C2:PC P { S with deep:=S.deep + 1 }) {C:Ch} (H:C.Ok) (hg:1≤gap) (hE:Li L) {i pl:Nat} (hP:P.ts.drop i=toks gap pl (C.aO (C.links + 1)) ++ L):
  (bS gap pl (C.aO (C.links + 1))=none∧∃ v j,iH bs (n + 24) P S i j v∧P.ts.drop j=L∧aq v C.rows)∨(∃ b,bS gap pl (C.aO (C.links + 1))=some b∧AJ bs (n + 24) P S i (b:Nat)):=by
 rw [mM] at hP ⊢
 have hty:¬ dA (C.op 0):=zw C
 have eo:=gO hty
 have ei:C.item 0=fA (C.core 0) (C.pre 0) (C.oS 0) ((C.mix + 0) % 32):=by rw [Ch.item,if_neg hty]
 obtain ⟨h1,h2⟩:=du hP
 have hAft:=mK H hg hE.aft C.links 0 (pl + span gap (C.dW 0))
 have h1':=h1
 rw [eo] at h1
 rcases wM (bs:=bs) I Cp C2 (n:=n) (jh C 0) h1 (by rw [← eo]; exact hAft) with ⟨u1,v0,j1,u2,u3,u4⟩ | ⟨b,u1,u2⟩
 ·have hbn:bS gap pl (C.dW 0 ++ (List.range' 1 C.links).flatMap C.link)=bS gap (pl + span gap (C.dW 0)) ((List.range' 1 C.links).flatMap C.link):=by rw [aV,eo,u1]
  rw [hbn]
  rw [← eo] at u3
  have r0:RV v0 (C.item 0):=⟨by rw [ei]; exact u4,u2.ok⟩
  have L:=DV (bs:=bs) (n:=n) I Cp C2 H hg hE.aft C.links 0 (by omega) u3
  have len:∀ {ls:List (Lk V)} {q:Nat},fM Ba ls ((List.range' (0 + 1) q).map C.lk)→ls.length=q:=fun h=>by
   have:=h.len
   rwa [List.length_map,List.length_range'] at this
  have bad:∀ {b q j:Nat} {ls:List (Lk V)} {w:Str} {k:Nat},ba bs (n + 23) P S j1 ls j→fM Ba ls ((List.range' (0 + 1) q).map C.lk)→dO P j w k→w∈aa→ls.length≤40→(∀ {Ψ:Addr→AH→Prop},(∀ a σ',rN P S.rows (b:Int) a σ'→Ψ a σ')→C6 bs (n + 23) P { S with i:=i } Ψ ls.length j)→AJ bs (n + 24) P S i (b:Nat):=fun {_ _ _ _ _ _} b3 b4 b5 b6 hl he {_ _ _} g hD=>by
   obtain ⟨v,e1,e2⟩:=Bu b4 r0 (yv H _)
   exact uu (n:=n + 10) (S:={ S with i:=i }) g Cp.on ⟨u2.ok,fun {_ _ _} g q=>u2.rd g q⟩ (ba.of b3) hl (he hD) e1 fun ⟨w',k',o,hw⟩=>absurd ((dO.uniq b5 o).1 ▸ b6) hw
  cases L with
  | @ok ls j b1 b2 b3 b4 b5=>
   have hlen:=len b4
   obtain ⟨v,e1,e2⟩:=Bu b4 r0 (yv H C.links)
   obtain ⟨w,k,o1,o2⟩:=hE.op
   refine .inl ⟨b1,v,j,iH.of (n:=n + 10) Cp u2 b3 (by omega) (Jz b5 o1) o2 e1 e2.2,b5,?_⟩
   have:C.rows=bH Jr (((List.range' 1 C.links).map C.lk).foldl (bc Jr Ir) [(("" : Str),C.item 0)]):=by
    rw [Ch.rows,if_pos (by omega),JX]
   rw [this]; exact e2.1
  | deep b1 b3 b4 b5 b6 d1 d2 d3=>
   have hlen:=len b4
   exact .inr ⟨_,b1,bad b3 b4 b5 b6 (by omega) fun hD=>.deep (by omega) d2 b5 b6 fun a σ' hx=>hD a σ' (by rw [d3] at hx; exact hx)⟩
  | bad b1 b3 b4 b5 b6 d1 d2 d3 d4=>
   have hlen:=len b4
   exact .inr ⟨_,b1,bad b3 b4 b5 b6 (by omega) fun hD=>.bad (by omega) b5 b6 d2 d3 fun {_ _} g=>d4 g hD⟩
 ·right
  refine ⟨b,by rw [aV,eo,u1],fun {_ _ _} g hD=>A8 (n:=n + 10) (u2 g hD)⟩
inductive Ex where
 | ch (C:Ch)
 | choice (C:Ch) (a b:Ex)
 | asg (C:Ch) (s:Str) (a:Ex)
def Ex.ctorIdx (x:Ex):Nat:=x.casesOn (fun _=>0) (fun _ _ _=>1) (fun _ _ _=>2)
abbrev Ch.all (C:Ch):List Pc:=C.aO (C.links + 1)
def Ex.aO:Ex→List Pc
 | .ch C=>C.all
 | .choice C a b=>C.all ++ (.w "?" :: (a.aO ++ (.w ":" :: b.aO)))
 | .asg C s a=>C.all ++ (.w s :: a.aO)
def Ex.rws:Ex→List Rw
 | .ch C=>C.rows
 | .choice C a b=>⟨22,.str "", 3⟩ :: (C.rows ++ (a.rws ++ b.rws))
 | .asg C s a=>⟨23,.str s,2⟩ :: (C.rows ++ a.rws)
def Ex.Ok:Ex→Prop
 | .ch C=>C.Ok
 | .choice C a b=>C.Ok∧a.Ok∧b.Ok
 | .asg C s a=>C.Ok∧s∈ak∧a.Ok
def Ex.dep:Ex→Nat
 | .ch _=>0
 | .choice _ a b=>max a.dep b.dep + 1
 | .asg _ _ a=>a.dep + 1
def Stop (L:TL):Prop:=∃ t r,L=t :: r∧(t.1=.fin∨t.1=.sign ":")
theorem Stop.end_ (h:Stop L):Li L:=by
 obtain ⟨⟨t,pl⟩,r,rfl,h⟩:=h
 rcases h with h | h
 ·dsimp only at h
  subst h
  refine ⟨⟨_,_,rfl,by show ("#end" : Str)∉ao; decide +kernel,by simp [T.sort],rfl,(fun e=>by cases e),(fun e=>by cases e)⟩,"", 0,⟨_,(.fin,0),rfl,(fun e=>by cases e),rfl,fun j hj=>absurd hj (by omega)⟩,by decide +kernel⟩
 ·dsimp only at h
  subst h
  refine ⟨⟨_,_,rfl,by show (":" : Str)∉ao; decide +kernel,by simp [T.sort],by kernel_rfl,(fun e=>absurd (Jl e) (by decide +kernel)),(fun e=>absurd (Jl e) (by decide +kernel))⟩,":", 1,⟨_,(.fin,0),rfl,(fun e=>absurd (Jl e) (by decide +kernel)),?_,fun j hj=>?_⟩,by decide +kernel⟩
  ·have:¬ (":" : Str) = ">" := by decide +kernel
   simp [cJ,aC,this]
  ·obtain rfl:j=0:=by omega
   exact ⟨_,rfl,by simp [T.sort]⟩
theorem Stop.sign {i:Nat} (h:Stop L) (hP:P.ts.drop i=L):∃ w k,SignAt P i w k∧w∉ak:=by
 obtain ⟨⟨t,pl⟩,r,rfl,h⟩:=h
 obtain ⟨g,_⟩:=ai hP
 rcases h with h | h
 ·dsimp only at h
  subst h
  exact ⟨"", 0,.mk (t':=(.fin,0)) g (fun e=>by cases e) rfl rfl (fun j hj=>absurd hj (by omega)),by decide +kernel⟩
 ·dsimp only at h
  subst h
  exact ⟨":", 1,eR g (by decide +kernel) (by decide +kernel),by decide +kernel⟩
theorem j8 {C:Ch} (pl:Nat) (X:List Pc):PH (toks gap pl (C.all ++ X) ++ L) pl:=by
 have hty:¬ dA (C.op 0):=zw C
 rw [Ch.all,mM,List.append_assoc]
 obtain ⟨t1,r,e,_,h⟩:=wy (gap:=gap) (L:=L) C 0 pl ((List.range' 1 C.links).flatMap C.link ++ X)
 exact ⟨t1,r,e,h hty⟩
theorem Ex.Pe {C:Ch} {a b:Ex}:(Ex.choice C a b).aO=C.all ++ (.w "?" :: (a.aO ++ (.w ":" :: b.aO))):=rfl
theorem Ex.Ng {C:Ch} {s:Str} {a:Ex}:(Ex.asg C s a).aO=C.all ++ (.w s :: a.aO):=rfl
theorem F8 {e:Ex} (pl:Nat) (X:List Pc):PH (toks gap pl (e.aO ++ X) ++ L) pl:=by
 cases e with
 | ch C=>exact j8 pl X
 | choice C a b=>rw [Ex.Pe,List.append_assoc]; exact j8 pl _
 | asg C s a=>rw [Ex.Ng,List.append_assoc]; exact j8 pl _
theorem Ep {t:T×Int} {x:Str} (h:t.1=.sign x) (hx:x ≠ "=>"):t.1.is 6 "=>" = false:=by rw [h,F4]; simpa using hx
theorem iD {C:Ch} (H:C.Ok) (hg:1≤gap) (hA:zh L) {i pl:Nat} (hP:P.ts.drop i=toks gap pl C.all ++ L):bk P i:=by
 have hty:¬ dA (C.op 0):=zw C
 rw [Ch.all,mM] at hP
 obtain ⟨hP,_⟩:=du hP
 have hAft:zh (toks gap (pl + span gap (C.dW 0)) ((List.range' 1 C.links).flatMap C.link) ++ L):=mK (gap:=gap) H hg hA C.links 0 (pl + span gap (C.dW 0))
 generalize toks gap (pl + span gap (C.dW 0)) ((List.range' 1 C.links).flatMap C.link) ++ L=L2 at hP hAft
 rw [gO hty,bO,List.append_assoc] at hP
 have hP2:P.ts.drop i=toks gap pl (aI ((C.mix + 0) % 32) (C.pre 0) ++ (af (C.core 0) ++ aB ((C.mix + 0) % 32) (C.oS 0))) ++ L2:=hP
 generalize (C.mix + 0) % 32=mix at hP2
 generalize C.oS 0=sf at hP2
 have hc:=jh C 0
 generalize C.core 0=core at hP2 hc
 unfold aI at hP2
 cases hr:List.range (C.pre 0) with
 | nil=>
  rw [hr,List.flatMap_nil,List.nil_append] at hP2
  rcases hc with rfl | rfl | rfl
  ·have e:af "(" ++ aB mix sf=.w "(" :: .w "7" :: ([.m 1,.w "*", .w "7", .m 2,.w "-", .w "7", .w ")"] ++ aB mix sf):=rfl
   rw [e,aS i9 vl,aS gU vX] at hP2
   obtain ⟨g1,g2⟩:=ai hP2
   obtain ⟨g3,_⟩:=ai g2
   exact .num g1 g3
  ·have e:af "7" ++ aB mix sf=.w "7" :: aB mix sf:=rfl
   rw [e,aS gU vX] at hP2
   obtain ⟨g1,_⟩:=ai hP2
   exact .other g1 (by simp [T.sort]) rfl
  ·have e:af "c" ++ aB mix sf=.w "c" :: aB mix sf:=rfl
   rw [e,aS B5 Kj] at hP2
   obtain ⟨g1,g2⟩:=ai hP2
   have:∃ t r,P.ts.drop (i + 1)=t :: r∧t.1.is 6 "=>" = false:=by
    have g2':P.ts.drop (i + 1)=toks gap (pl + (Str.length "c" + gap)) (aB mix sf) ++ L2:=g2
    unfold aB at g2'
    cases hq:List.range sf with
    | nil=>
     rw [hq] at g2'
     obtain ⟨t,r,e,_,_,h3,_⟩:=hAft
     exact ⟨t,r,by rw [g2',e]; rfl,h3⟩
    | cons q qs=>
     rw [hq,List.flatMap_cons,dh] at g2'
     obtain ⟨x,r,e1,e2,e3⟩:=jK (gap:=gap) (pl:=pl + (Str.length "c" + gap)) (t:=q) (fP mix q)
     rw [e1] at g2'
     have hx:x ≠ "=>" := fun e=>by rw [e] at e2; exact absurd e2 (by decide +kernel)
     exact ⟨_,_,g2',Ep rfl hx⟩
   obtain ⟨t,r,e1,e2⟩:=this
   obtain ⟨g3,_⟩:=ai e1
   exact .name g1 (by decide +kernel) g3 e2
 | cons q qs=>
  rw [hr,List.flatMap_cons,List.append_assoc] at hP2
  obtain ⟨h1,h2⟩:=du hP2
  obtain ⟨t2,r2,e2,k2⟩:=ji (gap:=gap) (pl:=pl + span gap (ae (aK mix q) q)) (mix:=mix) hc qs (aB mix sf)
  rw [e2] at h1
  obtain ⟨f0,f1,f2,f3,f4,f5,f6,f7,f8⟩:=k2.facts
  rcases fL mix q with hs | hs | hs
  ·obtain ⟨n1,n2⟩:=rH _ hs
   have e:ae (aK mix q) q=[.w (aK mix q),.m (q + 1)]:=by rw [ae,if_neg n1]; rfl
   rw [e,aS (qz _ hs) (qj hs)] at h1
   obtain ⟨g1,_⟩:=ai h1
   refine .other g1 (by simp [T.sort]) ?_
   rw [F4]
   have:∀ s∈[("-" : Str),"++", "!", "--", "~", "+"],s ≠ "(" := by decide +kernel
   simpa using this _ hs
  ·rw [hs] at h1
   have e:ae "(int)" q=[.w "(", .w "int", .w ")", .m (q + 1)]:=rfl
   rw [e,aS i9 vl,aS uk Hl,aS rO I6] at h1
   obtain ⟨g1,h1⟩:=ai h1
   obtain ⟨g2,h1⟩:=ai h1
   obtain ⟨g3,h1⟩:=ai h1
   obtain ⟨g4,_⟩:=ai h1
   exact .cast g1 g2 g3 g4 f3
  ·rw [hs] at h1
   have e:ae "await" q=[.w "await", .m (q + 1)]:=rfl
   rw [e,aS za Ih] at h1
   obtain ⟨g1,h1⟩:=ai h1
   obtain ⟨g2,_⟩:=ai h1
   exact .name g1 (by decide +kernel) g2 f3
end
section
variable {bs:Bs} {P:b9} {gap:Nat}
theorem PC.down {S:c8} {d d':Int} (h:PC P { S with deep:=d }) (hd:d'≤d):PC P { S with deep:=d' }:=⟨h.parts,h.asy,by have:=h.deep; show d' + 1≤40; have h2:d + 1≤40:=this; omega,h.rows⟩
theorem uC:∀ s∈ak,s∉[("b" : Str),"c", "await"]∧s ≠ "7" ∧ s∉[("int" : Str),"is", "as"]∧s∉ao∧s ≠ "?" ∧ s ≠ "=>" ∧ s ≠ "<" ∧ s ≠ ">" ∧ s∉aa∧(d9 s→s = ">>="):=by decide +kernel
inductive Nx (P:b9) (M N:TL) (s:Str):Prop
 | mk (k:Nat) (h1:Pn M s k) (h2:M.drop k=N) (h3:zh M) (h4:∀ i,P.ts.drop i=M→SignAt P i s k)
theorem IU {p q:Int} {N:TL} (hq:q=p + 1):Nx P ((.sign ">", p) :: (.sign ">=", q) :: N) N ">>=" := by
 have e:(">" : Str) ++ ">=" = ">>=" := by decide +kernel
 have sh:aC (.sign ">", p) (.sign ">=", q)=((">>=" : Str),2):=by
  show (if (">" : Str) = ">" then (if q=p + 1 then (if (">=" : Str) = ">" ∨ (">=" : Str) = ">=" then ((">" : Str) ++ ">=", 2) else ((">" : Str),1)) else ((">" : Str),1)) else ((">" : Str),1))=((">>=" : Str),2)
  rw [if_pos rfl,if_pos hq,if_pos (.inr rfl),e]
 refine ⟨2,⟨_,_,rfl,fun _=>rfl,sh,La⟩,rfl,.sg (by decide +kernel) (by decide +kernel) (fun e=>absurd e (by decide +kernel)) (by decide +kernel),fun i h=>?_⟩
 obtain ⟨g1,g2⟩:=ai h
 refine .mk g1 (fun _=>(ai g2).1) (by rw [F4]; decide +kernel) sh fun j hj=>?_
 rw [iv h]
 exact La j hj
theorem Er {s:Str} {pl:Nat} {Q:List Pc} {L:TL} (hs:s∈ak):Nx P (toks gap pl (.w s :: Q) ++ L) (toks gap (pl + (s.length + gap)) Q ++ L) s:=by
 obtain ⟨a,b,d,e1,e2,e3,e4,e5,e6,e7⟩:=uC s hs
 by_cases h2:d9 s
 ·obtain rfl:=e7 h2
  rw [jY,fu,if_pos h2]
  exact IU rfl
 ·have ht:tokOf s=.sign s:=by rw [tokOf,if_neg a,if_neg b,if_neg d]
  rw [aS h2 ht]
  exact ⟨1,⟨_,(.fin,0),rfl,fun e=>absurd (Jl e) e5,by simp [cJ,aC,e5],KA PQ⟩,rfl,.sg e1 e3 (fun e=>absurd e e4) e2,fun i h=>eR (ai h).1 e5 e2⟩
theorem LV:¬ d9 "?" := by decide +kernel
theorem L6:¬ d9 ":" := by decide +kernel
theorem NS:tokOf "?" = .sign "?" := by kernel_rfl
theorem OY:tokOf ":" = .sign ":" := by kernel_rfl
theorem AU {k:Int} {a:V} {w w2 w3:V} {r r2 r3:List Rw} {at_:V} (nb:(∃ x,a=.str x)∨a=.tup [.int 7,.str ""]) (h:aq w r) (h2:aq w2 r2) (h3:aq w3 r3):aq (node k a [w,w2,w3] at_) (⟨k,a,3⟩ :: (r ++ (r2 ++ r3))):=by
 have:=aq.node (k:=k) (at_:=at_) nb (by simp) (.cons h (.cons h2 (.cons h3 .nil)))
 rwa [List.append_nil] at this
inductive iF (bs:Bs) (N:Nat) (P:b9) (S:c8) (L:TL) (R:List Rw) (o:Option Nat) (i:Nat):Prop
 | ok {v:V} {j:Nat}:o=none→cZ bs N P S i j v→P.ts.drop j=L→aq v R→iF bs N P S L R o i
 | bad {b:Nat}:o=some b→dt bs N P S i (b:Nat)→iF bs N P S L R o i
section
variable {n:Nat} {S:c8} {L:TL} {i pl:Nat} {C:Ch} {a b:Ex} {s:Str}
theorem NZ (I:PI P) (hg:1≤gap) (C0:PC P S) (C1:PC P { S with deep:=S.deep + 1 }) (wD:C.Ok) (hL:Stop L) (hP:P.ts.drop i=toks gap pl C.all ++ L):iF bs (n + 25) P S L C.rows (bS gap pl C.all) i:=by
 have hn:=iD (gap:=gap) wD hg hL.end_.aft hP
 rcases ka (bs:=bs) (n:=n) I C0 C1 wD hg hL.end_ hP with ⟨b1,v,j,b2,b3,b4⟩ | ⟨b,b1,b2⟩
 ·obtain ⟨w,k,s1,s2⟩:=hL.sign b3
  exact .ok b1 (fun {_ _ _} g q=>k8 (n:=n + 10) I.firsts hn b2 s1 s2 g q) b3 b4
 ·exact .bad b1 fun {_ _ _} g q=>rj (n:=n + 10) I.firsts hn b2 g q
theorem Mi (I:PI P) (hg:1≤gap) (C0:PC P S) (C1:PC P { S with deep:=S.deep + 1 }) (h1:C.Ok) (h2:s∈ak) (ih:∀ {i pl:Nat},P.ts.drop i=toks gap pl a.aO ++ L→iF bs (n + 21) P { S with deep:=S.deep + 1 } L a.rws (bS gap pl a.aO) i)
  (hP:P.ts.drop i=toks gap pl (C.all ++ .w s :: a.aO) ++ L):iF bs (n + 25) P S L (Ex.asg C s a).rws (bS gap pl (C.all ++ .w s :: a.aO)) i:=by
 obtain ⟨p1,p2⟩:=du hP
 obtain ⟨k,o1,o2,o3,o4⟩:=Er (P:=P) (gap:=gap) (pl:=pl + span gap C.all) (Q:=a.aO) (L:=L) h2
 have hn:=iD (gap:=gap) h1 hg o3 p1
 rw [aV]
 rcases ka (bs:=bs) (n:=n) I C0 C1 h1 hg ⟨o3,s,k,o1,(uC s h2).2.2.2.2.2.2.2.2.1⟩ p1 with ⟨b1,v,j,b2,b3,b4⟩ | ⟨b,b1,b2⟩
 ·rw [b1]
  change iF _ _ _ _ _ _ (bS gap (pl + span gap C.all + (s.length + gap)) a.aO) _
  cases ih (i:=j + k) (pl:=pl + span gap C.all + (s.length + gap)) (by rw [← List.drop_drop,b3]; exact o2) with
  | ok d1 d2 d3 d4=>exact .ok d1 (fun {_ _ _} g q=>yD (n:=n + 10) C0 I.firsts hn b2 (o4 j b3) h2 (cZ.reads d2) g q) d3 (cK (.inl ⟨_,rfl⟩) b4 d4)
  | bad d1 d2=>exact .bad d1 fun {_ _ _} g q=>pO (n:=n + 10) C0 I.firsts hn b2 (o4 j b3) h2 d2 g q
 ·rw [b1]; exact .bad rfl fun {_ _ _} g q=>rj (n:=n + 10) I.firsts hn b2 g q
theorem C3 (I:PI P) (hg:1≤gap) (C0:PC P S) (C1:PC P { S with deep:=S.deep + 1 }) (h1:C.Ok) (iha:∀ {i pl:Nat} {L:TL},Stop L→P.ts.drop i=toks gap pl a.aO ++ L→iF bs (n + 20) P { S with deep:=S.deep + 1 } L a.rws (bS gap pl a.aO) i)
  (ihb:∀ {i pl:Nat},P.ts.drop i=toks gap pl b.aO ++ L→iF bs (n + 20) P { S with deep:=S.deep + 1 } L b.rws (bS gap pl b.aO) i)
  (hP:P.ts.drop i=toks gap pl (C.all ++ .w "?" :: (a.aO ++ .w ":" :: b.aO)) ++ L):iF bs (n + 25) P S L (Ex.choice C a b).rws (bS gap pl (C.all ++ .w "?" :: (a.aO ++ .w ":" :: b.aO))) i:=by
 obtain ⟨p1,p2⟩:=du hP
 rw [aV]
 generalize pl + span gap C.all=p0 at p1 p2 ⊢
 have hq:toks gap p0 (.w "?" :: (a.aO ++ .w ":" :: b.aO)) ++ L=(.sign "?", (p0:Int)) :: (toks gap (p0 + (Str.length "?" + gap)) (a.aO ++ .w ":" :: b.aO) ++ L):=by rw [aS LV NS]; rfl
 have eb:bS gap p0 (.w "?" :: (a.aO ++ .w ":" :: b.aO))=bS gap (p0 + (Str.length "?" + gap)) (a.aO ++ .w ":" :: b.aO):=rfl
 rw [hq] at p1
 rw [eb]
 generalize p0 + (Str.length "?" + gap)=p2 at p1 ⊢
 have hE:Li ((.sign "?", (p0:Int)) :: (toks gap p2 (a.aO ++ .w ":" :: b.aO) ++ L)):=by
  obtain ⟨t1,r1,f1,f2⟩:=F8 (gap:=gap) (L:=L) (e:=a) p2 (.w ":" :: b.aO)
  obtain ⟨f0,_⟩:=f2.facts
  refine ⟨⟨_,_,rfl,?_,by simp [T.sort],?_,fun e=>absurd (Jl e) (by decide +kernel),fun _=>⟨_,_,f1,f0⟩⟩,"?", 1,⟨_,(.fin,0),rfl,fun e=>absurd (Jl e) (by decide +kernel),?_,fun j hj=>?_⟩,by decide +kernel⟩
  ·show ("?" : Str)∉ao; decide +kernel
  ·rw [F4]; decide +kernel
  ·have:¬ ("?" : Str) = ">" := by decide +kernel
   simp [cJ,aC,this]
  ·obtain rfl:j=0:=by omega
   exact ⟨_,rfl,by simp [T.sort]⟩
 have hn:=iD (gap:=gap) h1 hg hE.aft p1
 rcases ka (bs:=bs) (n:=n) I C0 C1 h1 hg hE p1 with ⟨b1,v,j,b2,b3,b4⟩ | ⟨x,b1,b2⟩
 ·rw [b1]
  change iF _ _ _ _ _ _ (bS gap p2 (a.aO ++ .w ":" :: b.aO)) _
  obtain ⟨q1,q2⟩:=ai b3
  obtain ⟨q3,q4⟩:=du q2
  rw [aV]
  generalize p2 + span gap a.aO=p3 at q3 ⊢
  have hco:toks gap p3 (.w ":" :: b.aO) ++ L=(.sign ":", (p3:Int)) :: (toks gap (p3 + (Str.length ":" + gap)) b.aO ++ L):=by rw [aS L6 OY]; rfl
  rw [hco] at q3
  cases iha ⟨_,_,rfl,.inr rfl⟩ q3 with
  | ok d1 d2 d3 d4=>
   rw [d1]
   obtain ⟨g1,g2⟩:=ai d3
   cases ihb g2 with
   | ok e1 e2 e3 e4=>exact .ok e1 (fun {_ _ _} g q=>xA (n:=n + 10) C0 I.firsts hn b2 q1 (cZ.reads d2) g1 (cZ.reads e2) g q) e3 (AU (.inl ⟨_,rfl⟩) b4 d4 e4)
   | bad e1 e2=>exact .bad e1 fun {_ _ _} g q=>i4 (n:=n + 10) C0 I.firsts hn b2 q1 (.inr ⟨_,_,_,cZ.reads d2,g1,e2⟩) g q
  | bad d1 d2=>rw [d1]; exact .bad rfl fun {_ _ _} g q=>i4 (n:=n + 10) C0 I.firsts hn b2 q1 (.inl d2) g q
 ·rw [b1]; exact .bad rfl fun {_ _ _} g q=>rj (n:=n + 10) I.firsts hn b2 g q
theorem Qb {m a:Nat} {s D:Int} (h:s + ((m:Int) + 1) + 1≤D) (ha:a≤m):s + (a:Int) + 1≤D∧s + 1 + (a:Int) + 1≤D:=⟨by omega,by omega⟩
theorem Qu {m a n:Nat} (h:40 + 10 * (m + 1)≤n + 25) (ha:a≤m):40 + 10 * a≤n + 21∧40 + 10 * a≤n + 20:=⟨by omega,by omega⟩
theorem I2 (I:PI P) (hg:1≤gap) (e:Ex):∀ {N:Nat} {S:c8} {D:Int} {i pl:Nat} {L:TL},e.Ok→40 + 10 * e.dep≤N→PC P { S with deep:=D }→S.deep + (e.dep:Int) + 1≤D→Stop L→P.ts.drop i=toks gap pl e.aO ++ L→iF bs N P S L e.rws (bS gap pl e.aO) i:=by
 have sub:∀ {N d:Nat},40 + 10 * d≤N→∃ n,N=n + 25:=fun h=>Nat.exists_eq_add_of_le' (Nat.le_trans (Nat.le_trans (by decide:25≤40) (Nat.le_add_right _ _)) h)
 have dn:∀ {S:c8} {D d:Int} {m:Nat},PC P { S with deep:=D }→S.deep + (m:Int) + 1≤D→d≤S.deep + 1→PC P { S with deep:=d }:=fun h h1 h2=>h.down (by omega)
 induction e with
 | ch C=>
  intro N S D i pl L wD hN hpc hD hL hP
  obtain ⟨n,rfl⟩:=sub hN
  exact NZ I hg (dn (d:=S.deep) hpc hD (Int.le_of_lt (Int.lt_succ _))) (dn hpc hD (Int.le_refl _)) wD hL hP
 | asg C s a ih=>
  intro N S D i pl L wD hN hpc hD hL hP
  obtain ⟨n,rfl⟩:=sub hN
  change 40 + 10 * (a.dep + 1)≤n + 25 at hN
  change S.deep + ((a.dep:Int) + 1) + 1≤D at hD
  obtain ⟨d1,d2⟩:=Qb hD (Nat.le_refl _)
  have d0:=dn (S:=S) (d:=S.deep) hpc d1 (Int.le_of_lt (Int.lt_succ _))
  exact Mi I hg d0 (dn hpc d1 (Int.le_refl _)) wD.1 wD.2.1 (fun {i pl} h=>ih (S:={ S with deep:=S.deep + 1 }) wD.2.2 (Qu hN (Nat.le_refl _)).1 hpc d2 hL h) hP
 | choice C a b iha ihb=>
  intro N S D i pl L wD hN hpc hD hL hP
  obtain ⟨n,rfl⟩:=sub hN
  have m1:a.dep≤max a.dep b.dep:=Nat.le_max_left ..
  have m2:b.dep≤max a.dep b.dep:=Nat.le_max_right ..
  change 40 + 10 * (max a.dep b.dep + 1)≤n + 25 at hN
  change S.deep + (((max a.dep b.dep:Nat):Int) + 1) + 1≤D at hD
  have d1:=Qb hD m1
  have d0:=dn (S:=S) (d:=S.deep) hpc d1.1 (Int.le_of_lt (Int.lt_succ _))
  exact C3 I hg d0 (dn hpc d1.1 (Int.le_refl _)) wD.1 (fun {i pl L} hs h=>iha (S:={ S with deep:=S.deep + 1 }) wD.2.1 (Qu hN m1).2 hpc d1.2 hs h) (fun {i pl} h=>ihb (S:={ S with deep:=S.deep + 1 }) wD.2.2 (Qu hN m2).2 hpc (Qb hD m2).2 hL h) hP
end
def sS (W:Wh):Ex:=match W.shape with
 | 0=>.ch (W.ch 0)
 | 1=>.choice (W.ch 0) (.ch (W.ch 1)) (.ch (W.ch 2))
 | 2=>.asg (W.ch 0) W.sign (.ch (W.ch 1))
 | 3=>.choice (W.ch 0) (.ch (W.ch 1)) (.asg (W.ch 2) W.sign (.ch (W.ch 3)))
 | 4=>.asg (W.ch 0) W.sign (.choice (W.ch 1) (.ch (W.ch 2)) (.ch (W.ch 3)))
 | _=>.choice (W.ch 0) (.asg (W.ch 1) W.sign (.ch (W.ch 2))) (.ch (W.ch 3))
theorem RG {α:Type} (f:Nat→List α):(List.range 1).flatMap f=f 0:=List.append_nil _
theorem RJ {α:Type} (f:Nat→List α):(List.range 2).flatMap f=f 0 ++ f 1:=congrArg (f 0 ++ ·) (List.append_nil _)
theorem R2 {α:Type} (f:Nat→List α):(List.range 3).flatMap f=f 0 ++ (f 1 ++ f 2):=congrArg (fun x=>f 0 ++ (f 1 ++ x)) (List.append_nil _)
theorem MK {α:Type} (f:Nat→List α):(List.range 4).flatMap f=f 0 ++ (f 1 ++ (f 2 ++ f 3)):=congrArg (fun x=>f 0 ++ (f 1 ++ (f 2 ++ x))) (List.append_nil _)
theorem Jd (W:Wh) (h:W.shape < 6):(sS W).aO=W.aO W.cnt∧(sS W).rws=W.rws W.cnt∧(sS W).dep≤2:=by
 exact Ni (p:=fun s=>∀ sg ch,(sS ⟨s,sg,ch⟩).aO=Wh.aO ⟨s,sg,ch⟩ (Wh.cnt ⟨s,sg,ch⟩)∧(sS ⟨s,sg,ch⟩).rws=Wh.rws ⟨s,sg,ch⟩ (Wh.cnt ⟨s,sg,ch⟩)∧(sS ⟨s,sg,ch⟩).dep≤2)
  (fun sg ch=>⟨Eq.symm (by refine (RG _).trans ?_; rfl),Eq.symm (by refine (RG _).trans ?_; rfl),Nat.zero_le _⟩) (fun sg ch=>⟨Eq.symm (by refine (R2 _).trans ?_; rfl),Eq.symm (by refine (R2 _).trans ?_; rfl),Nat.le_succ 1⟩) (fun sg ch=>⟨Eq.symm (by refine (RJ _).trans ?_; rfl),Eq.symm (by refine (RJ _).trans ?_; rfl),Nat.le_succ 1⟩) (fun sg ch=>⟨Eq.symm (by refine (MK _).trans ?_; rfl),Eq.symm (by refine (MK _).trans ?_; rfl),Nat.le_refl 2⟩) (fun sg ch=>⟨Eq.symm (by refine (MK _).trans ?_; rfl),Eq.symm (by refine (MK _).trans ?_; rfl),Nat.le_refl 2⟩)
  (fun sg ch=>⟨Eq.symm ((MK _).trans (congrArg (fun x=>(ch 0).all ++ (.w "?" :: x)) (List.append_assoc (ch 1).all (.w sg :: (ch 2).all) (.w ":" :: (ch 3).all)).symm)),
   Eq.symm ((MK _).trans (congrArg (fun x:List Rw=>(⟨22,.str "", 3⟩:Rw) :: ((ch 0).rows ++ ((⟨23,.str sg,2⟩:Rw) :: x))) (List.append_assoc (ch 1).rows (ch 2).rows (ch 3).rows).symm)),Nat.le_refl 2⟩) _ h W.sign W.ch
theorem Nz:∀ s∈fS,s∈ak∧s.length≤1000:=by decide +kernel
theorem Ja {W:Wh} (H:W.Ok):(sS W).Ok:=by
 have hs:=(Nz _ H.sign).1
 unfold sS
 split
 ·exact H.ch 0
 ·exact ⟨H.ch 0,H.ch 1,H.ch 2⟩
 ·exact ⟨H.ch 0,hs,H.ch 1⟩
 ·exact ⟨H.ch 0,H.ch 1,H.ch 2,hs,H.ch 3⟩
 ·exact ⟨H.ch 0,hs,H.ch 1,H.ch 2,H.ch 3⟩
 ·exact ⟨H.ch 0,⟨H.ch 1,hs,H.ch 2⟩,H.ch 3⟩
end
section
variable {bs:Bs} {P:b9} {gap:Nat}
theorem jf {f:Nat→List Pc} {b:Nat} (h:∀ t,dm (f t)≤b) (ts:List Nat):dm (ts.flatMap f)≤b * ts.length:=by
 induction ts with
 | nil=>exact Nat.le_refl _
 | cons t ts ih=>
  rw [List.flatMap_cons,j9,List.length_cons,Nat.mul_succ,Nat.add_comm]
  exact Nat.add_le_add ih (h t)
theorem v5 (p:Pc):wC p≤2:=by
 cases p with
 | m k=>exact Nat.zero_le _
 | w x=>rw [wC]; split <;> omega
theorem C9 (mix t:Nat):dm (ae (aK mix t) t)≤3:=by
 rcases fL mix t with hs | hs | hs
 ·have e:ae (aK mix t) t=[.w (aK mix t),.m (t + 1)]:=by rw [ae,if_neg (rH _ hs).1]; rfl
  rw [e,d8,d8]
  have:=v5 (.w (aK mix t))
  show wC _ + (0 + 0)≤3; omega
 ·rw [hs]
  have e:ae "(int)" t=[.w "(", .w "int", .w ")", .m (t + 1)]:=rfl
  rw [e]
  simp [dm,wC,i9,uk,rO]
 ·rw [hs]
  have e:ae "await" t=[.w "await", .m (t + 1)]:=rfl
  rw [e]
  simp [dm,wC,za]
theorem Cu (mix t:Nat):dm (aj (aM mix t) t)≤3:=by
 rcases fP mix t with hs | hs | hs | hs
 ·obtain ⟨n1,n2,n3⟩:=zo hs
  have e:aj (aM mix t) t=[.m (t + 1),.w (aM mix t)]:=by rw [aj,if_neg n1,if_neg n2,if_neg n3]
  rw [e,d8,d8]
  have:=v5 (.w (aM mix t))
  show 0 + (wC _ + 0)≤3; omega
 ·rw [hs]
  have e:aj ".b" t=[.m (t + 1),.w ".", .w "b"]:=rfl
  rw [e]; simp [dm,wC,EJ,JM]
 ·rw [hs]
  have e:aj "()" t=[.m (t + 1),.w "(", .w ")"]:=rfl
  rw [e]; simp [dm,wC,i9,rO]
 ·rw [hs]
  have e:aj "[7]" t=[.m (t + 1),.w "[", .w "7", .w "]"]:=rfl
  rw [e]; simp [dm,wC,Dz,gU,Jp]
theorem D2 {core:Str} (hc:core = "(" ∨ core = "7" ∨ core = "c"):dm (af core)≤7:=by
 rcases hc with rfl | rfl | rfl
 ·have e:af "(" = [.w "(", .w "7", .m 1,.w "*", .w "7", .m 2,.w "-", .w "7", .w ")"]:=rfl
  rw [e]; simp [dm,wC,i9,rO,gU,JG,JA]
 ·have e:af "7" = [.w "7"]:=rfl
  rw [e]; simp [dm,wC,gU]
 ·have e:af "c" = [.w "c"]:=rfl
  rw [e]; simp [dm,wC,B5]
theorem Dm {C:Ch} (H:C.Ok) (t:Nat):dm (C.link t)≤280:=by
 have h1:=H.pre t
 have h2:=H.oS t
 have ho:dm (C.dW t)≤271:=by
  by_cases hty:dA (C.op t)
  ·have e:C.dW t=[.w "int"]:=by rw [Ch.dW,if_pos hty]
   rw [e]; simp [dm,wC,uk]
  ·rw [gO hty,bO,j9,j9]
   have a1:=jf (f:=fun q=>ae (aK ((C.mix + t) % 32) q) q) (C9 _) (List.range (C.pre t))
   have a2:=jf (f:=fun q=>aj (aM ((C.mix + t) % 32) q) q) (Cu _) (List.range (C.oS t))
   have a3:=D2 (jh C t)
   rw [List.length_range] at a1 a2
   have e1:aI ((C.mix + t) % 32) (C.pre t)=(List.range (C.pre t)).flatMap fun q=>ae (aK ((C.mix + t) % 32) q) q:=rfl
   have e2:aB ((C.mix + t) % 32) (C.oS t)=(List.range (C.oS t)).flatMap fun q=>aj (aM ((C.mix + t) % 32) q) q:=rfl
   rw [e1,e2]
   exact Nat.le_trans (Nat.add_le_add (Nat.add_le_add (Nat.le_trans a1 (Nat.mul_le_mul_left _ h1)) a3) (Nat.le_trans a2 (Nat.mul_le_mul_left _ h2))) (by decide)
 rw [Ch.link,j9]
 split
 ·show 0 + _≤_; omega
 ·have:=v5 (.w (C.op t))
  rw [d8,d8]
  show (0 + (wC _ + 0)) + _≤_; omega
theorem Ga {W:Wh} (H:W.Ok):dm (W.aO W.cnt)≤60000:=by
 have h:∀ t,dm ((if t=0 then [] else [Pc.w (W.glue.getD (t - 1) "")]) ++ (W.ch t).aO ((W.ch t).links + 1))≤12700:=fun t=>by
  have h1:=jf (f:=(W.ch t).link) (Dm (H.ch t)) (List.range ((W.ch t).links + 1))
  rw [List.length_range] at h1
  have h2:=(H.ch t).links
  rw [j9]
  have h3:dm (if t=0 then [] else [Pc.w (W.glue.getD (t - 1) "")])≤2:=by
   split
   ·exact Nat.zero_le _
   ·have:=v5 (Pc.w (W.glue.getD (t - 1) ""))
    rw [d8]; show wC _ + 0≤2; omega
  have e:(W.ch t).aO ((W.ch t).links + 1)=(List.range ((W.ch t).links + 1)).flatMap (W.ch t).link:=rfl
  rw [e]; omega
 have:=jf h (List.range W.cnt)
 rw [List.length_range] at this
 have:=(Jh.of H.shape).c4
 unfold Wh.aO
 omega
def iQ (ps:List Pc):Prop:=∀ x,Pc.w x∈ps→x.length≤1000
theorem iQ.app {a b:List Pc} (h:iQ a) (k:iQ b):iQ (a ++ b):=fun x hx=>(List.mem_append.mp hx).elim (h x) (k x)
theorem iQ.flat {f:Nat→List Pc} {ts:List Nat} (h:∀ t,iQ (f t)):iQ (ts.flatMap f):=fun x hx=>by
 obtain ⟨t,_,hm⟩:=List.mem_flatMap.mp hx
 exact h t x hm
theorem iQ.one {x:Str} (h:x.length≤1000):iQ [.w x]:=fun y hy=>by
 rw [List.mem_singleton] at hy
 injection hy with e; rw [e]; exact h
theorem iQ.mark {k:Nat} {ps:List Pc} (h:iQ ps):iQ (.m k :: ps):=fun x hx=>by
 rcases List.mem_cons.mp hx with e | hx
 ·cases e
 ·exact h x hx
theorem iQ.nil:iQ []:=fun x hx=>nomatch hx
theorem iQ.cons {x:Str} {ps:List Pc} (h:x.length≤1000) (k:iQ ps):iQ (.w x :: ps):=iQ.app (iQ.one h) k
theorem E9 (mix t:Nat):iQ (ae (aK mix t) t):=by
 unfold ae
 refine iQ.app ?_ (iQ.mark iQ.nil)
 split
 ·exact .cons (by decide +kernel) (.cons (by decide +kernel) (.one (by decide +kernel)))
 ·exact .one (uA mix t)
theorem FJ (mix t:Nat):iQ (aj (aM mix t) t):=by
 have h:∀ j,j < 5→(f9.getD j "").length≤1000:=by decide +kernel
 have hl:(aM mix t).length≤1000:=h _ (Nat.mod_lt _ (by decide))
 unfold aj
 refine iQ.mark ?_
 split
 ·exact .cons (by decide +kernel) (.one (by decide +kernel))
 ·split
  ·exact .cons (by decide +kernel) (.one (by decide +kernel))
  ·split
   ·exact .cons (by decide +kernel) (.cons (by decide +kernel) (.one (by decide +kernel)))
   ·exact .one hl
theorem DP {core:Str} (hc:core = "(" ∨ core = "7" ∨ core = "c"):iQ (af core):=by
 have l7:Str.length "7" ≤ 1000:=by decide +kernel
 rcases hc with rfl | rfl | rfl
 ·have e:af "(" = [.w "(", .w "7", .m 1,.w "*", .w "7", .m 2,.w "-", .w "7", .w ")"]:=rfl
  rw [e]
  exact .cons (by decide +kernel) (.cons l7 (.mark (.cons (by decide +kernel) (.cons l7 (.mark (.cons (by decide +kernel) (.cons l7 (.one (by decide +kernel)))))))))
 ·have e:af "7" = [.w "7"]:=rfl
  rw [e]; exact .one l7
 ·have e:af "c" = [.w "c"]:=rfl
  rw [e]; exact .one (by decide +kernel)
theorem Je:∀ o∈aa,o.length≤1000:=by decide +kernel
theorem DY {C:Ch} (H:C.Ok) (t:Nat):iQ (C.link t):=by
 have ho:iQ (C.dW t):=by
  by_cases hty:dA (C.op t)
  ·have e:C.dW t=[.w "int"]:=by rw [Ch.dW,if_pos hty]
   rw [e]; exact .one (by decide +kernel)
  ·rw [gO hty,bO]
   exact ((iQ.flat fun q=>E9 _ q).app (DP (jh C t))).app (iQ.flat fun q=>FJ _ q)
 rw [Ch.link]
 refine iQ.app ?_ ho
 split
 ·exact .nil
 ·rename_i h
  obtain ⟨s,rfl⟩:=Nat.exists_eq_add_one_of_ne_zero h
  exact .mark (.one (Je _ (H.op s)))
theorem DQ {α:Type} {l:List α} {p:α→Prop} {d:α} (h:∀ x∈l,p x) (hd:p d) (i:Nat):p (l.getD i d):=by
 rw [List.getD_eq_getElem?_getD]
 cases e:l[i]? with
 | none=>exact hd
 | some x=>exact h x (List.mem_of_getElem? e)
theorem MP {α:Type} {p:α→Prop}:∀ x∈([]:List α),p x:=fun x h=>nomatch h
theorem ig {α:Type} {l:List α} {p:α→Prop} {a:α} (h:p a) (k:∀ x∈l,p x):∀ x∈a :: l,p x:=List.forall_mem_cons.mpr ⟨h,k⟩
theorem FD (W:Wh) (j:Nat):W.glue.getD j "" = "?" ∨ W.glue.getD j "" = ":" ∨ W.glue.getD j "" = W.sign∨W.glue.getD j "" = "" := by
 have n:∀ x∈([]:List Str),x = "?" ∨ x = ":" ∨ x=W.sign∨x = "" := MP
 have q:("?" : Str) = "?" ∨ ("?" : Str) = ":" ∨ "?" = W.sign∨("?" : Str) = "" := .inl rfl
 have c:(":" : Str) = "?" ∨ (":" : Str) = ":" ∨ ":" = W.sign∨(":" : Str) = "" := .inr (.inl rfl)
 have s:W.sign = "?" ∨ W.sign = ":" ∨ W.sign=W.sign∨W.sign = "" := .inr (.inr (.inl rfl))
 exact DQ (l:=W.glue) (p:=fun x=>x = "?" ∨ x = ":" ∨ x=W.sign∨x = "") (DQ (p:=fun l:List Str=>∀ x∈l,x = "?" ∨ x = ":" ∨ x=W.sign∨x = "")
  (ig n (ig (ig q (ig c n)) (ig (ig s n) (ig (ig q (ig c (ig s n))) (ig (ig s (ig q (ig c n))) (ig (ig q (ig s (ig c n))) MP)))))) n W.shape) (.inr (.inr (.inr rfl))) j
theorem Ik {W:Wh} (H:W.Ok):iQ (W.aO W.cnt):=by
 refine iQ.flat fun t=>iQ.app ?_ (iQ.flat fun q=>DY (H.ch t) q)
 split
 ·exact .nil
 ·refine .one ?_
  rcases FD W (t - 1) with e | e | e | e
  ·rw [e]; decide +kernel
  ·rw [e]; decide +kernel
  ·rw [e]; exact (Nz _ H.sign).2
  ·rw [e]; decide +kernel
structure Ch.Small (C:Ch):Prop where
 links:C.links≤40
 heads:C.heads≤40
 tails:C.tails≤40
theorem Fb {C:Ch} (H:C.Small) {t pl:Nat} (ht:t≤40):bS gap pl (C.link t)=none:=by
 have h1:C.pre t≤40:=by
  have:=H.heads
  unfold Ch.pre
  refine Nat.max_le.mpr ⟨?_,?_⟩
  ·split
   ·omega
   ·split <;> omega
  ·split <;> omega
 have h2:C.oS t≤40:=by
  have:=H.tails
  unfold Ch.oS
  refine Nat.max_le.mpr ⟨?_,?_⟩
  ·split
   ·omega
   ·split <;> omega
  ·split <;> omega
 have ho:∀ pl,bS gap pl (C.dW t)=none:=fun pl=>by
  by_cases hty:dA (C.op t)
  ·have e:C.dW t=[.w "int"]:=by rw [Ch.dW,if_pos hty]
   rw [e]; rfl
  ·rw [gO hty,bO,aV,aV,gD h1]
   show (match bS gap _ (af _) with | some b=>some b | none=>_)=none
   rw [rV]
   exact kh h2
 rw [Ch.link,aV]
 have:bS gap pl (if t=0 then [] else [Pc.m t,Pc.w (C.op t)])=none:=by
  by_cases h:t=0
  ·rw [if_pos h]; rfl
  ·rw [if_neg h,wm,if_neg (by omega)]; rfl
 rw [this]
 exact ho _
theorem CK {C:Ch} (H:C.Small) (pl:Nat):bS gap pl C.all=none:=m8 fun t ht pl=>Fb H (by have:=List.mem_range.mp ht; have:=H.links; omega)
theorem ve (g:List Int) (a:Nat):(ot g a).Small:=by
 have h:=bq g a (m:=6) (by decide)
 have:∀ j,j < 6→[0,1,2,5,3,12].getD j 0≤40:=by decide
 exact ⟨this _ h,Nat.zero_le _,Nat.zero_le _⟩
theorem uZ (g:List Int) (a:Nat) {form long:Nat} (hl:long≤40):(fB g a form long).Small:=by
 have h:=bq g a (m:=4) (by decide)
 have h1:=bq g a (m:=3) (by decide)
 have h2:=bq g (a + 1) (m:=3) (by decide)
 have:∀ j,j < 4→[0,3,8,22].getD j 0≤40:=by decide
 unfold fB
 split
 ·exact ⟨hl,by show tk g a 3≤40; omega,by show tk g (a + 1) 3≤40; omega⟩
 ·refine ⟨this _ h,?_,?_⟩
  ·show (if form=2 then long else tk g (a + 1) 3)≤40; split <;> omega
  ·show (if form=3 then long else tk g (a + 1) 3)≤40; split <;> omega
theorem HV (g:List Int) (a:Nat) {form long:Nat} (hl:long≤40):bS gap 0 ((cz g a form long).aO (cz g a form long).cnt)=none:=by
 refine m8 fun t _ pl=>?_
 have hs:((cz g a form long).ch t).Small:=by
  show (if t=whereOf g a then fB g (atT a (whereOf g a) t) form long else ot g (atT a (whereOf g a) t)).Small
  split
  ·exact uZ g _ hl
  ·exact ve g _
 rw [aV]
 have:bS gap pl (if t=0 then [] else [Pc.w ((cz g a form long).glue.getD (t - 1) "")])=none:=by split <;> rfl
 rw [this]
 exact CK hs _
theorem E6 {g:List Int} {a form long N:Nat} (hl:long≤44) (hg:1≤gap) (hN:60≤N):lH bs N (cz g a form long) gap:=by
 have H:=vf g a (form:=form) hl
 generalize cz g a form long=W at H
 have h1:=Ga H
 refine ⟨by rw [kF]; omega,Ik H,fun P deep hd q1 q2 q3 q4=>?_⟩
 obtain ⟨e1,e2,e3⟩:=Jd W H.shape
 have hP:P.ts.drop 0=toks gap 0 (sS W).aO ++ [(T.fin,(span gap (W.aO W.cnt):Int))]:=by rw [List.drop_zero,q4,e1]
 have hlen:P.ts.length=dm (W.aO W.cnt) + 1:=by rw [q4,List.length_append,kF]; rfl
 have hpc:PC P { S0 deep with deep:=10 }:=⟨q1,rfl,by show (10:Int) + 1≤40; decide,Nat.zero_le _⟩
 have:=I2 (bs:=bs) ⟨q3,q2⟩ hg (sS W) (N:=N) (S:=S0 deep) (Ja H) (by omega) hpc (by show (deep:Int) + _ + 1≤10; omega) ⟨_,_,rfl,.inl rfl⟩ hP
 rw [e1,e2] at this
 cases this with
 | @ok v j b1 b2 b3 b4=>
  have hj:j=(toks gap 0 (W.aO W.cnt)).length:=by
   have:=congrArg List.length b3
   rw [List.length_drop,kF] at *
   simp at this; omega
  subst hj
  exact .inl ⟨b1,v,b2,b4⟩
 | bad b1 b2=>exact .inr ⟨_,b1,b2⟩
end
section
variable {c:Cx}
def G8 (o:Obj):Bool:=match o.cls,o.data with | .type n,.seq _ _=>n != "list" | _,_=>true
theorem Hw (vs:List Value) (n:Nat):G8 (gF vs n)=false:=by
 show ("list" != "list")=false; decide
theorem lookup_mem {α β:Type} [BEq α] [LawfulBEq α] {a:α} {b:β} {l:List (α×β)} (h:l.lookup a=some b):(a,b)∈l:=by
 induction l with
 | nil=>cases h
 | cons p r ih=>
  rw [List.lookup_cons] at h
  cases e:a == p.1 with
  | true=>rw [e] at h; cases h; rw [eq_of_beq e]; exact .head _
  | false=>rw [e] at h; exact .tail _ (ih h)
theorem Ie (P:Params) (a:Addr) (vs:List Value) (n:Nat):(K P).lookup a≠some (gF vs n):=fun h=>by
 have hall:(K P).all (fun p=>G8 p.2)=true:=by kernel_rfl
 have:=List.all_eq_true.mp hall _ (lookup_mem h)
 rw [Hw] at this; cases this
theorem Lj {n:Nat} {fn':Fn} {params keys:List Str} {body:List Stmt} {xs:List V} {vs:List Value} {ρ₀:Loc} {Φ:V→Prop} {s:Shared} (O:c.Ok) (G:FnAt c fn' params keys body) (hlen:xs.length=params.length)
  (h0:ρ₀.map (·.1)=keys) (h1:∀ x v,At ρ₀ x v→(x,v)∈params.zip xs) (hn:4 * n≤400) (hs:s.heap=c.H0) (r:bK c [] xs vs)
  (hb:SB c fn' n none ρ₀ (fun _=>none) body (fun f _ _=>Φ (iU f)) (fun _ _ _=>False)):
  wpAny (model c.prog c.w) callerA (call (.ref fn'.f) vs) (fun v s'=>(∃ x fz,Φ x∧VR c fz x v)∧(∀ b o,s.heap.get? b=some o→s'.heap.get? b=some o)∧s'.os=s.os∧s'.gens=s.gens) (fun _ _=>False) s:=by
 obtain ⟨name,ps,dV,kV,doc,pm,an,ct,oc,od,osl,hK,hbind⟩:=G.at_
 have hl:=r.len
 have hll:vs.length=params.length:=by rw [← hl]; exact hlen
 have X:∀ b o,c.K.lookup b=some o→s.heap.get? b=some o:=by rw [hs]; exact O.kin
 have key:codeAny (model c.prog c.w) callerA (.call (.ref fn'.f) ⟨vs,[]⟩) (fun r s'=>match r with | .ok (.ret v)=>(∃ x fz,Φ x∧VR c fz x v)∧(∀ b o,s.heap.get? b=some o→s'.heap.get? b=some o)∧s'.os=s.os∧s'.gens=s.gens | _=>False) s:=by
  refine codeAny_call_def (fd:=fnOf name fn'.qual ps body fn'.scope dV kV doc pm an fn'.cdv ct) (body:=body) (binds:=params.zip vs) ?_ (X _ _ hK) rfl (by rw [hs]; exact O.top.nolimit) (codeRec_of X G.code) rfl (hbind s vs hll) G.nocell
   (fun x hx=>dS G.nd (G.keysin _ (G.parin _ (List.of_mem_zip hx).1))) (fun h₁ hns hk₁=>?_) G.plain.1 G.plain.2.1 G.plain.2.2
  ·decide
  ·have up:∀ b o,s.heap.get? b=some o→h₁.get? b=some o:=fun b o e=>hk₁ b o e
   have F₁:Fr c.H0 s.heap.objs.size h₁ (fun x=>(params.zip vs).reverse.lookup x):=⟨hns,fun b o e=>up b o (by rw [hs]; exact e),by rw [hs]; exact Nat.le_refl _⟩
   let d:da:={ A₀:=callerA,outer:=[],frs:=[],L:=s.heap.objs.size,keys:=keys }
   have Z₁:Seen c d ρ₀ (fun _=>none) [] [] h₁ (fun x=>(params.zip vs).reverse.lookup x) [] []:=
    ⟨F₁,fun p hp=>(nomatch hp),List.nodup_nil,fun p hp=>(nomatch hp),fun p hp=>(nomatch hp),fun p hp=>(nomatch hp),trivial,List.nodup_nil,fun p hp=>(nomatch hp),fun p hp=>(nomatch hp),fun a o e=>(by cases e),h0,
     (fun x v hx=>Au G.parnd r hll x v (h1 x v hx)),fun p hp=>(nomatch hp)⟩
   have O':Ok c fn' d:=⟨O,rfl,trivial,G.plain.2.2,G.nd,G.keysnd,G.keysin,G.nodebug⟩
   have ee:callEnv (fnOf name fn'.qual ps body fn'.scope dV kV doc pm an fn'.cdv ct) s.heap.objs.size fn'.f=fn'.env s.heap.objs.size:=by show _=envX _ _ _ _ _ fn'.cl; rw [G.nocl]; rfl
   rw [ee]
   have L':Lv fn' d (callerA.deeper (fn'.env s.heap.objs.size)) n none:=by
    refine ⟨Around.frames_deeper rfl,?_,?_,rfl⟩
    ·show 1 + claimMargin + 1 + 4 * n + 10 < recursionLimit
     have e1:claimMargin=300:=rfl
     have e2:recursionLimit=1000:=rfl
     omega
    ·show 4 + 3 + 16 * n + 100 < cLine
     have e2:cLine=9900:=rfl
     omega
   have St₁:St c d ρ₀ (fun _=>none) [] [] ⟨s.gens,s.drawn,s.os⟩ { s with heap:=h₁,toks:=s.toks + (params.zip vs).length }:=⟨⟨_,_,_,Z₁⟩,rfl,rfl,rfl⟩
   have hb':=hb d _ [] [] _ _ O' L' St₁
   refine wpAny_mono hb' (fun f s' hf=>?_) (fun e s' hx=>?_)
   ·obtain ⟨x,ρ',σ',fz',hΦ,rel,sub,⟨m',led',frs',Z'⟩,hr'⟩:=hf
    refine ⟨⟨iU x,fz',hΦ,?_⟩,fun b o e=>Z'.fr.keep b o (by rw [← hs]; exact e),hr'.2.2,hr'.1⟩
    cases rel with
    | ret r=>exact r
    | _=>exact .none
   ·obtain ⟨ρ',a,σ',fz',rfl,hΨ,_⟩:=hx
    exact hΨ.elim
 refine wpAny_call (codeAny_mono key fun r s' h=>?_)
 cases r with
 | ok f=>cases f with
  | ret v=>exact h
  | _=>exact h.elim
 | error e=>exact h.elim
end
def qv:Program:={ PySem.Challenge.pw_xm0343_01 with main:={ PySem.Challenge.pw_xm0343_01.main with body:=[nth top 172] } }
def looseV:List Str:=(gK.drop 9).dropLast.map (·.1)
def T9:List Addr:=(K { strHash:=fun _=>0,shareClass:=fun _=>0,mergeTok:=id,idOf:=fun _=>0,idOfShared:=fun _ _=>0,followText:=fun _=>true,idOfImm:=fun _=>0 }).map (·.1)
def hookK:Hook:=kHook K T9 (fun _=>by kernel_rfl)
theorem JQ (P:PySem.Params):(K P).lookup 1226=some ⟨.type "function", none,.func (fnOf "law" iX.qual (oA (nth top 172)) rS iX.scope .none .none .none (PySem.Value.str "law_xm0343_01" 2120) none iX.cdv .none),#[]⟩:=by kernel_rfl
theorem Mt {c:Cx} (hK:c.K=K c.w.params):FnAt c iX ["script"] rQ rS where
 at_:=⟨_,_,_,_,_,_,_,_,_,_,_,(by rw [hK]; exact JQ _),fun s vs h=>.of_eq (PL (k:=1) rfl (by kernel_rfl) vs h)⟩
 code:=(by rw [hK]; kernel_rfl)
 nocl:=rfl
 plain:=⟨rfl,rfl,rfl⟩
 nocell:=of_decide_eq_true (by kernel_rfl)
 nd:=of_decide_eq_true (by kernel_rfl)
 keysnd:=of_decide_eq_true (by kernel_rfl)
 keysin:=of_decide_eq_true (by kernel_rfl)
 parin:=of_decide_eq_true (by kernel_rfl)
 parnd:=of_decide_eq_true (by kernel_rfl)
 nodebug:=(by kernel_rfl)
theorem FQ {c:Cx} {vs:List Value} {ns:List Int} (h:IntsAre vs ns):bK c [] (ns.map .int) vs:=by
 induction h with
 | nil=>exact .nil
 | cons n t _ ih=>exact .cons (.int n t) ih
theorem Gv {c:ClaimW} {cl:Str→Option Addr} {mean:ExcName→Option Value} {args:List WData} {s₁ s':Shared} (hr:∀ cls,c.raises args cls=false) (hp:c.post args (.bool true) args=true)
  (hk:∀ b o,s₁.heap.get? b=some o→s'.heap.get? b=some o) (ho:s'.os=s₁.os) (hg:s'.gens=#[]):GoodWG c cl mean args s₁ (.ok (.ret (.bool true))) s':=
 GoodW.toG ⟨.inl ⟨_,_,[],rfl,hr,ReadsW.bool true,hp,fun _=>⟨List.nodup_nil,fun _ hm=>(nomatch hm)⟩⟩,hk,ho,hg⟩
def F0 (w:World) (s₁:Shared) (mg mb:Str→Option Value):Cx:=⟨PySem.Challenge.pw_xm0343_01,w,s₁.heap,K w.params,qv,looseW qv looseV,mg,mb⟩
theorem Qa {w:World} {s₀ s₁:Shared} {mg mb:Str→Option Value} {R:WRecords} (G:Ground qv looseV R (fun _ _=>True) w s₀ mg mb s₁.heap) (Y:hookK.says w s₁.heap):(F0 w s₁ mg mb).Ok where
 kin:=kIn_of Y
 top:=topRead_of G.T
 nolst:=Ie _
 mods:=by
  obtain ⟨mm,⟨o,es,ep,h,_⟩,_⟩:=(G.T.seer (by kernel_rfl)).mods
  show (s₁.heap.get? sysModules).isSome=true
  rw [h]; rfl
 kmods:=by show (K w.params).lookup sysModules=none; kernel_rfl
theorem Fi {w:World} {s₀ s₁:Shared} {mg mb:Str→Option Value} {R:WRecords} (G:Ground qv looseV R (fun _ _=>True) w s₀ mg mb s₁.heap) (Y:hookK.says w s₁.heap) {sc:Addr} {vs:List Value} {ns:List Int} {q:Nat}
  (hH:s₁.heap.get? sc=some (gF vs q)) (hv:IntsAre vs ns) (hl:ns.length≤63):
  wpAny (model PySem.Challenge.pw_xm0343_01 w) callerA (call (.ref 1226) [.ref sc]) (fun v s'=>v=.bool true∧(∀ b o,s₁.heap.get? b=some o→s'.heap.get? b=some o)∧s'.os=s₁.os∧s'.gens=s₁.gens) (fun _ _=>False) s₁:=by
 have hK:(F0 w s₁ mg mb).K=K (F0 w s₁ mg mb).w.params:=rfl
 have H:=Lj (c:=F0 w s₁ mg mb) (n:=54 + 7) (fn':=iX) (s:=s₁) (xs:=[.g sc]) (vs:=[.ref sc]) (Φ:=fun v=>v=.bool true) (Qa G Y) (Mt hK) rfl (ρ₀:=rQ.zip (sL sc none none none none none none none none none)) rfl
  (fun x v h=>iA (ps:=["script"]) ⟨_,rfl⟩ rfl (yR (xs:=[.g sc]) (m:=9) h)) (by decide) rfl (.cons (.g sc) .nil)
  (DA (b:=⟨F0 w s₁ mg mb,hK⟩) (n:=54) hH (FQ hv) hl fun g gap a form long g1 g2 g3 g4 g5 g6=>⟨E6 g6 g3 (by decide),fun h=>HV g a h⟩)
 refine wpAny_mono H (fun v s' h=>?_) fun _ _ h=>h
 obtain ⟨⟨x,fz,rfl,r⟩,k⟩:=h
 obtain rfl:=r.inv
 exact ⟨rfl,k⟩
inductive Iu (h:Heap) (ns:List Int) (vals:List Value):Prop
 | mk (sc:Addr) (vs:List Value) (e2:vals=[.ref sc]) (hG:h.get? sc=some (gF vs 0)) (hI:IntsAre vs ns)
set_option maxHeartbeats 4000000 in
theorem RY (d:DefRec) (kwd:List (Str×Expr)) (hdn:d.name = "law"):WalkO qv looseV (fun _ _=>True) hookK.says PySem.Challenge.rw_xm0343_01.row.toRowW d kwd (fun f vs=>PySem.call f vs):=by
 intro w s₀ s₁ mg mb G Y a o pm cd doc dV kV h1 h2 h3 h4 h5 h6 args vals as hpre hlay hrd hwell hlow
 have KX:(K w.params).In s₁.heap:=kIn_of Y
 have ha:a=1226:=by
  have e:=mg_of (n := "law") (v:=.ref 1226) KX G.T.g (by kernel_rfl)
  rw [hdn,e] at h5
  injection h5 with h5; injection h5 with h5; exact h5.symm
 subst ha
 clear h1 h2 h3 h4 h5
 have k1:∃ ns:List Int,args=[ofPy (.list (ns.map .int))]:=by
  have hsh:=(pre_splitW hpre).1
  clear hpre hrd hwell hlow h6 G Y KX
  wrow_hasAll hsh hlay
  exact ⟨_,rfl⟩
 obtain ⟨ns,rfl⟩:=k1
 have hl:ns.length≤63:=by
  have hcond:=(pre_splitW hpre).2
  clear hpre hlay hrd hwell hlow h6 G Y KX
  w_cond hcond
  omega
 clear hpre hlay
 have key:Iu s₁.heap ns vals:=by
  clear h6 G Y KX
  wrow_readAll hrd hwell hlow
  rename_i sc vs _ hL _ hW _ hI _
  obtain ⟨ob,g1,g2,n,g3⟩:=hL
  cases hW with
  | list g _=>
   rw [g] at g1
   cases g1
   injection g3 with g3 g4
   exact ⟨sc,vs,rfl,by rw [g]; exact congrArg (fun x=>some (listOf x 0)) g3,hI⟩
 clear hrd hwell hlow
 obtain ⟨sc,vs,rfl,hG,hI⟩:=key
 refine wpAny_mono (Fi G Y hG hI hl) (fun v s' h=>?_) fun _ _ h=>h.elim
 obtain ⟨rfl,k1,k2,k3⟩:=h
 exact Gv (fun _=>rfl) (by wrow_post) k1 k2 (by rw [k3]; exact h6)
theorem KN (said:PySem.Challenge.rw_xm0343_01.row.wellSaid=true) (hl:LeftO PySem.Challenge.pw_xm0343_01 qv looseV (fun _=>true) (Hook.obs hookK) (Hook.val hookK) 25332) (hw:PySem.Challenge.rw_xm0343_01.row.promised):PySem.Challenge.rw_xm0343_01.row.Holds:=
 holds_open hl (Hook.of hookK) (Hook.keeps hookK) (XP:=fun _ _=>True) (fun _ _=>trivial) (fun _ _ _ _ _=>trivial) rfl rfl rfl (fun s _=>recFacts_nil rfl) rfl said (by decide +kernel) ⟨rfl,rfl,rfl,rfl,rfl,by decide +kernel⟩ hw (RY _ _ rfl)
@[inline] def nt (i:Nat):Stmt:=PySem.Challenge.pw_xm0343_01.main.body.getD i (.Pass ⟨0,0,0,0⟩)
@[inline] def pv:Program:={ PySem.Challenge.pw_xm0343_01 with main:={ PySem.Challenge.pw_xm0343_01.main with body:=(List.range 173).map nt } }
@[reducible] def rowOf (p:Program):OpenRow:={ PySem.Challenge.rw_xm0343_01.row with prog:=p }
theorem Rq:pv=PySem.Challenge.pw_xm0343_01:=by kernel_rfl
theorem Ny (h:(rowOf pv).Holds):PySem.Challenge.rw_xm0343_01.row.Holds:=by
 rw [Rq] at h
 exact h
theorem P8 (said:PySem.Challenge.rw_xm0343_01.row.wellSaid=true) (hl:LeftO pv qv looseV (fun _=>true) (Hook.obs hookK) (Hook.val hookK) 25332) (hw:PySem.Challenge.rw_xm0343_01.row.promised):(rowOf pv).Holds:=by
 rw [Rq] at hl ⊢
 exact KN said hl hw
set_option compiler.extract_closed false
local macro_rules (kind:=Lean.Parser.Tactic.refine) | x=>do
 let f:=x[1]
 if f[0].getId != `PySem.W.holds_open then Lean.Macro.throwUnsupported
 return x.setArg 1 ((f.setArg 0 (Lean.mkIdent `P8)).setArg 1 (Lean.mkNullNode #[f[1][18],f[1][8],f[1][21]]))
local macro_rules (kind:=Lean.Parser.Command.mutual) | x=>do
 let n ← Lean.Macro.getCurrNamespace
 let d (p:Lean.Name) (w:String):Lean.Syntax:=x[1][0].rewriteBottomUp fun s=>if s.isIdent && s.getId == `hd then Lean.mkIdent (.str (.str .anonymous "hd") ("tw" ++ toString (p.str w).hash)) else s.setInfo .none
 let m:=n.str "hd"
 let f (p:Lean.Name) (s:String):=s.splitOn.map (d p)
 let g := "jAABEAAAAECAADACALCAADACAFAFAFAMAFAECBAAAFAFAIACAKCAAEAGCAAEAGCAAEAHEAAEACALEAADACAFAFAFAFAFAFAFAFAFAFAFAFAFAFAFAFAFAFALBDACAFAFAFAFAFAFAFAFAFAFAEGAAAAFAFAFAFAFAFAFAECCECECEAAFACAKAEEAAAAFAFAFAFAFAFAFAFAFAFAECCEDEAADACALCAADACALCAAEACAJCAAEACAKAFAFAFAFAECAAAAFAFAFAFAFAFAFAFAECAAEACAFAJCAAEACAFAJCAAEACAJCAAEACAKAECAAEACAJCAAEACAJCAAEACAJCAAEACAJCAAEACAJCAAEACAJCAAEACAKAFAFAFAECAABAIACAJCAAEACAJCAAEACAJCAAEACAJCAAEACAJCAAEACAKAFAFAFAECAAAAFAFAFAFAFARAFAECAAAAFADADAFAFAFAFAFAC".toList.foldl (fun (i,b,l) c=>(i + c.toNat - 64,!b,bif b then l ++ (List.range (c.toNat - 64)).map (fun j=>d m ("o_1_" ++ toString (i + j))) else l)) (0,false,[])
 return Lean.mkNullNode (f `PySem.Challenge "pw_xm0343_01 rw_xm0343_01" ++ f n "kAs K K1 K2 K3 K4 K5 K6 K7 K8 K9 K10 K11 K12 K13 K14 K15 K16 K17 cdO clO dcO fnO gsO hookK looseV nth qv tupO gK nt pv rowOf" ++ f m "env_1_40 heap_1_46 heap_1_1592 sts_1_50 sts_1_62 sts_1_88 sts_1_149 sts_1_196 sts_1_214 sts_1_232 sts_1_253 sts_1_282 sts_1_524 sts_1_585 sts_1_593 sts_1_601 sts_1_609 sts_1_644 sts_1_726 sts_1_734 sts_1_743 sts_1_769 sts_1_795 sts_1_820 sts_1_880 sts_1_948 sts_1_980 sts_1_1012 sts_1_1037 sts_1_1069 sts_1_1094 sts_1_1119 sts_1_1144 sts_1_1169 sts_1_1194 sts_1_1219 sts_1_1272 sts_1_1304 sts_1_1329 sts_1_1354 sts_1_1379 sts_1_1404 sts_1_1457 sts_1_1530 tree_1_48 tree_1_60 tree_1_86 tree_1_147 tree_1_194 tree_1_212 tree_1_230 tree_1_249 tree_1_278 tree_1_432 tree_1_518 tree_1_583 tree_1_589 tree_1_597 tree_1_605 tree_1_640 tree_1_724 tree_1_730 tree_1_739 tree_1_767 tree_1_793 tree_1_818 tree_1_878 tree_1_946 tree_1_978 tree_1_1010 tree_1_1035 tree_1_1067 tree_1_1092 tree_1_1117 tree_1_1142 tree_1_1167 tree_1_1192 tree_1_1217 tree_1_1270 tree_1_1302 tree_1_1327 tree_1_1352 tree_1_1377 tree_1_1402 tree_1_1455 tree_1_1528 tree_1_1590" ++ g.2.2).toArray
mutual
theorem hd:True:=⟨⟩
end
set_option maxRecDepth 100000 in
set_option maxHeartbeats 0 in
set_option Elab.async true in
theorem hd:PySem.Challenge.rw_xm0343_01.Holds:=by
 w_on
 o_law
 refine Ny ?_
 o_head hookK
 case hw=>w_witness2
end
end Internal
theorem PySem.Challenge.cw_xm0343_01_holds : PySem.Challenge.rw_xm0343_01.Holds :=
  Internal.hd
