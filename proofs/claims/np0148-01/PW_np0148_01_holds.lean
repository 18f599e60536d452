import PyProof.Rows.All
import Wide.All
import OpenK.AllK
import Wide.FinOn
import Lean
import PySem.Challenge.RW_np0148_01
open PySem PySem.W PySem.Calls PySem.Spec PyProof.Rows PyProof.V Builtin.ObjectAttr
set_option Elab.async false
set_option maxRecDepth 100000
set_option linter.all false
set_option genInjectivity false
set_option genSizeOf false

namespace Mine.Internal
local macro_rules
  | `(tactic| omega) => `(tactic| lia)
set_option genCtorIdx false in
inductive V where
  | non
  | bool (b:Bool)
  | int (i:Int)
  | str (s:List Nat)
  | list (xs:List V)
  | tup (xs:List V)
  | dict (kvs:List (List Nat×V))
  | rng (n:Nat)
  | own (a:Addr)
  | lit (v:Value)
  | cell (a:Addr)
noncomputable def V.ctorIdx (x:V):Nat:=@V.casesOn (fun _=>Nat) x 0 (fun _=>1) (fun _=>2) (fun _=>3) (fun _=>4) (fun _=>5) (fun _=>6) (fun _=>7) (fun _=>8) (fun _=>9) (fun _=>10)
set_option genCtorIdx false in
inductive OO where
  | list (xs:List V)
  | dict (kvs:List (List Nat×V))
  | inst (C:Addr) (ats:List (List Nat×V))
  | exc (fr:Bool) (C:Addr) (ats:List (List Nat×V))
  | cell (v:Option V)
  | raw (o:Obj) (l:List (Addr×Obj))
noncomputable def OO.ctorIdx (x:OO):Nat:=@OO.casesOn (fun _=>Nat) x (fun _=>0) (fun _=>1) (fun _ _=>2) (fun _ _ _=>3) (fun _=>4) (fun _ _=>5)
noncomputable def toStr (s:List Nat):Str:=⟨s.toArray⟩
mutual
inductive VR (H:Params) (P:Addr→Obj→Prop):Value→V→Prop
  | non:VR H P .none .non
  | bool (b:Bool):VR H P (.bool b) (.bool b)
  | int (i:Int) (t:Tok):VR H P (.int i t) (.int i)
  | str (s:List Nat) (t:Tok):VR H P (.str (toStr s) t) (.str s)
  | list {a:Addr} {o:Obj} {vs:List Value} {n:Nat} {xs:List V}:P a o→o.cls=.type "list"→o.data=.seq vs.toArray n→VRs H P vs xs→VR H P (.ref a) (.list xs)
  | tup {a:Addr} {o:Obj} {vs:List Value} {n:Nat} {xs:List V}:P a o→o.cls=.type "tuple"→o.data=.seq vs.toArray n→VRs H P vs xs→VR H P (.ref a) (.tup xs)
  | dict {a:Addr} {es:List DictEntry} {n:Nat} {kvs:List (List Nat×V)}:(a == sysModules)=false→P a (dictOf es n)→ERs H P es kvs→VR H P (.ref a) (.dict kvs)
  | rng {a:Addr} {n:Nat} {t u v:Tok}:P a { cls:=.type "range",data:=.fields #[.int 0 t,.int n u,.int 1 v] }→VR H P (.ref a) (.rng n)
  | own (a:Addr):VR H P (.ref a) (.own a)
  | lit (v:Value):VR H P v (.lit v)
inductive VRs (H:Params) (P:Addr→Obj→Prop):List Value→List V→Prop
  | nil:VRs H P [] []
  | cons {v:Value} {vs:List Value} {x:V} {xs:List V}:VR H P v x→VRs H P vs xs→VRs H P (v::vs) (x::xs)
inductive ERs (H:Params) (P:Addr→Obj→Prop):List DictEntry→List (List Nat×V)→Prop
  | nil:ERs H P [] []
  | cons {e:DictEntry} {es:List DictEntry} {k:List Nat} {x:V} {kvs:List (List Nat×V)} {t:Tok}:e.key=.str (toStr k) t→e.hash=PyData.keyHash H (toStr k)→VR H P e.val x→ERs H P es kvs→ERs H P (e::es) ((k,x)::kvs)
end
structure Cx where
  prog:Program
  w:World
  K:Frag
  g:Heap
  mg:Str→Option Value
  mb:Str→Option Value
  p:Program
  loose:List Str
  s0:Shared
  X:K.In g
  T:TopRead p loose mg mb g
noncomputable abbrev Cx.H (c:Cx):Params:=c.w.params
noncomputable abbrev Cx.M (c:Cx):Model:=model c.prog c.w
noncomputable def At (c:Cx) (fz:List (Addr×Obj)) (a:Addr) (o:Obj):Prop:=c.g.get? a=some o∨(a,o)∈fz
noncomputable abbrev Cx.R (c:Cx) (fz:List (Addr×Obj)):Value→V→Prop:=VR c.H (At c fz)
noncomputable abbrev Cx.Rs (c:Cx) (fz:List (Addr×Obj)):List Value→List V→Prop:=VRs c.H (At c fz)
noncomputable abbrev Own:=List (Addr×OO)
inductive Upd (a:Addr) (x y:OO):Own→Own→Prop
  | here {r:Own}:Upd a x y ((a,x)::r) ((a,y)::r)
  | there {p:Addr×OO} {r r':Own}:Upd a x y r r'→Upd a x y (p::r) (p::r')
inductive Del (a:Addr) (x:OO):Own→Own→Prop
  | here {r:Own}:Del a x ((a,x)::r) r
  | there {p:Addr×OO} {r r':Own}:Del a x r r'→Del a x (p::r) (p::r')
theorem Upd.of_mem {a:Addr} {x:OO} {own:Own} (h:(a,x)∈own):Upd a x x own own:=by
  induction own with
  | nil=>cases h
  | cons p r ih=>exact (List.mem_cons.mp h).elim (fun e=>e▸.here) fun h=>.there (ih h)
theorem Upd.mem {a:Addr} {x y:OO} {own own':Own} (u:Upd a x y own own'):(a,y)∈own':=by
  induction u with
  | here=>exact .head _
  | there _ ih=>exact .tail _ ih
structure St where
  loc:List (Option V)
  own:Own
structure Fm where
  env:Env
  frames:List Env
  A:Around
  kept:List (Addr×Obj)
  vars:List Str
  base:List (Addr×Obj):=[]
structure Fm.Ok (c:Cx) (n:Nat) (F:Fm):Prop where
  kind:F.env.scope.kind=.function
  glob:F.env.globals=mainGlobals
  blt:F.env.builtins=builtinsNs
  frames:F.A.frames=some F.frames
  fr:∀e∈F.frames,e.scope.kind≠.module∧∃L,e.frame=some L∧(L=F.env.locals∨∃o,(L,o)∈F.kept∧∃es ep,o.data=.dict es ep)
  self:∃L,F.env.frame=some L∧∃e r,F.frames=e::r∧e.frame=some L
  vs:F.vars.Nodup
  cells:∀y,F.env.kindOf y=some .cell→∃a,F.env.cells.lookup y=some a
  depth:F.A.depth+4 * n < recursionLimit
  units:F.A.units+16 * n+200 < cLine
noncomputable def FreshVs (vs:Array Value):Prop:=vs[1]?=some .none∧∃t,vs[0]?=some (.ref t)
inductive OR (c:Cx) (fz:List (Addr×Obj)):Addr→OO→List (Addr×Obj)→Prop
  | list {a:Addr} {vs:List Value} {n:Nat} {xs:List V}:c.Rs fz vs xs→OR c fz a (.list xs) [(a,listOf vs.toArray n)]
  | dict {a:Addr} {es:List DictEntry} {n:Nat} {kvs:List (List Nat×V)}:(a == sysModules)=false→ERs c.H (At c fz) es kvs→OR c fz a (.dict kvs) [(a,dictOf es n)]
  | inst {a d:Addr} {es:List DictEntry} {n:Nat} {C:Addr} {ats:List (List Nat×V)} {sl:Array (Option Value)}:ERs c.H (At c fz) es ats→OR c fz a (.inst C ats) [(a,⟨.ref C,some d,.plain,sl⟩),(d,dictOf es n)]
  | exc {a d:Addr} {es:List DictEntry} {n:Nat} {fr:Bool} {C:Addr} {ats:List (List Nat×V)} {sl:Array (Option Value)} {vs:Array Value}:ERs c.H (At c fz) es ats→1 < vs.size→(fr=true→FreshVs vs)→OR c fz a (.exc fr C ats) [(a,⟨.ref C,some d,.fields vs,sl⟩),(d,dictOf es n)]
  | exc0 {a:Addr} {fr:Bool} {C:Addr} {sl:Array (Option Value)} {vs:Array Value}:1 < vs.size→(fr=true→FreshVs vs)→OR c fz a (.exc fr C []) [(a,⟨.ref C,none,.fields vs,sl⟩)]
  | cell {a:Addr} {o:Obj} {v:Value} {x:V}:o.data=.cell (some v)→c.R fz v x→OR c fz a (.cell (some x)) [(a,o)]
  | raw {a:Addr} {o:Obj} {l:List (Addr×Obj)}:OR c fz a (.raw o l) ((a,o)::l)
  | cell0 {a:Addr} {o:Obj}:o.data=.cell none→OR c fz a (.cell none) [(a,o)]
inductive ListOf (c:Cx) (fz:List (Addr×Obj)) (a:Addr) (xs:List V):List (Addr×Obj)→Prop
  | mk {vs:List Value} {n:Nat}:c.Rs fz vs xs→ListOf c fz a xs [(a,listOf vs.toArray n)]
inductive DictOf (c:Cx) (fz:List (Addr×Obj)) (a:Addr) (kvs:List (List Nat×V)):List (Addr×Obj)→Prop
  | mk {es:List DictEntry} {n:Nat}:(a == sysModules)=false→ERs c.H (At c fz) es kvs→DictOf c fz a kvs [(a,dictOf es n)]
inductive InstOf (c:Cx) (fz:List (Addr×Obj)) (a C:Addr) (ats:List (List Nat×V)):List (Addr×Obj)→Prop
  | mk {d:Addr} {es:List DictEntry} {n:Nat} {sl:Array (Option Value)}:ERs c.H (At c fz) es ats→InstOf c fz a C ats [(a,⟨.ref C,some d,.plain,sl⟩),(d,dictOf es n)]
inductive ExcOf (c:Cx) (fz:List (Addr×Obj)) (a:Addr) (fr:Bool) (C:Addr):List (List Nat×V)→List (Addr×Obj)→Prop
  | exc {d:Addr} {es:List DictEntry} {n:Nat} {ats:List (List Nat×V)} {sl:Array (Option Value)} {vs:Array Value}:ERs c.H (At c fz) es ats→1 < vs.size→(fr=true→FreshVs vs)→ExcOf c fz a fr C ats [(a,⟨.ref C,some d,.fields vs,sl⟩),(d,dictOf es n)]
  | exc0 {sl:Array (Option Value)} {vs:Array Value}:1 < vs.size→(fr=true→FreshVs vs)→ExcOf c fz a fr C [] [(a,⟨.ref C,none,.fields vs,sl⟩)]
inductive CellOf (c:Cx) (fz:List (Addr×Obj)) (a:Addr):Option V→List (Addr×Obj)→Prop
  | some {ob:Obj} {v:Value} {x:V}:ob.data=.cell (some v)→c.R fz v x→CellOf c fz a (some x) [(a,ob)]
  | none {ob:Obj}:ob.data=.cell none→CellOf c fz a none [(a,ob)]
noncomputable def OR.Inv (c:Cx) (fz:List (Addr×Obj)) (a:Addr) (y:OO) (l:List (Addr×Obj)):Prop:=match y with
  | .list xs=>ListOf c fz a xs l
  | .dict kvs=>DictOf c fz a kvs l
  | .inst C ats=>InstOf c fz a C ats l
  | .exc fr C ats=>ExcOf c fz a fr C ats l
  | .cell o=>CellOf c fz a o l
  | .raw _ _=>True
theorem OR.inv {c:Cx} {fz:List (Addr×Obj)} {a:Addr} {y:OO} {l:List (Addr×Obj)} (h:OR c fz a y l):OR.Inv c fz a y l:=
  OR.casesOn (motive:=fun y l zz=>OR.Inv c fz a y l) h .mk .mk .mk .exc .exc0 .some trivial .none
theorem OR.list? {c:Cx} {fz:List (Addr×Obj)} {a:Addr} {xs:List V} {l:List (Addr×Obj)} (h:OR c fz a (.list xs) l):ListOf c fz a xs l:=h.inv
theorem OR.dict? {c:Cx} {fz:List (Addr×Obj)} {a:Addr} {xs:List (List Nat×V)} {l:List (Addr×Obj)} (h:OR c fz a (.dict xs) l):DictOf c fz a xs l:=h.inv
theorem OR.inst? {c:Cx} {fz:List (Addr×Obj)} {a C:Addr} {xs:List (List Nat×V)} {l:List (Addr×Obj)} (h:OR c fz a (.inst C xs) l):InstOf c fz a C xs l:=h.inv
theorem OR.exc? {c:Cx} {fz:List (Addr×Obj)} {a C:Addr} {fr:Bool} {xs:List (List Nat×V)} {l:List (Addr×Obj)} (h:OR c fz a (.exc fr C xs) l):ExcOf c fz a fr C xs l:=h.inv
theorem OR.cellOf {c:Cx} {fz:List (Addr×Obj)} {a:Addr} {o:Option V} {l:List (Addr×Obj)} (h:OR c fz a (.cell o) l):CellOf c fz a o l:=h.inv
inductive OwnR (c:Cx) (fz:List (Addr×Obj)):Own→List (Addr×Obj)→Prop
  | nil:OwnR c fz [] []
  | cons {a:Addr} {x:OO} {r:Own} {l l':List (Addr×Obj)}:OR c fz a x l→OwnR c fz r l'→OwnR c fz ((a,x)::r) (l++l')
inductive LocV (c:Cx) (fz:List (Addr×Obj)) (env:Env) (m:Str→Option Value) (x:Str):V→Prop
  | cell {ca:Addr}:(env.kindOf x=some NameKind.cell∨env.kindOf x=some NameKind.free)→env.cells.lookup x=some ca→LocV c fz env m x (.cell ca)
  | val {v:V} {val:Value}:env.kindOf x=some NameKind.local→m x=some val→c.R fz val v→LocV c fz env m x v
noncomputable def LocR (c:Cx) (fz:List (Addr×Obj)) (F:Fm) (m:Str→Option Value) (loc:List (Option V)):Prop:=
  ∀(i:Nat) (v:V),loc[i]?=some (some v)→∃x,F.vars[i]?=some x∧LocV c fz F.env m x v
inductive KeptR:List (Addr×Obj)→List (Addr×Obj)→Prop
  | nil:KeptR [] []
  | cons {a:Addr} {o:Obj} {sl:Array (Option Value)} {r r':List (Addr×Obj)}:((∃es ep,o.data=.dict es ep)∨sl=o.slots)→KeptR r r'→KeptR ((a,o)::r) ((a,{ o with slots:=sl })::r')
structure Sit (c:Cx) (F:Fm) (st:St) (m:Str→Option Value) (oc fz kp:List (Addr×Obj)) (s:Shared):Prop where
  fr:Fr c.g F.env.locals s.heap m
  nw:News c.g F.env.locals s.heap (oc++(fz++kp))
  nd:(oc.map (·.1)).Nodup
  ap:∀p∈oc,∀q∈fz++kp,p.1≠q.1
  ow:OwnR c fz st.own oc
  lc:LocR c fz F m st.loc
  kr:KeptR F.kept kp
  fk:∀p∈fz,∀q∈kp,p.1≠q.1
  re:s={ c.s0 with heap:=s.heap,toks:=s.toks }
  fb:∀p∈F.base,p∈fz
inductive Now (c:Cx) (F:Fm) (st:St) (fz:List (Addr×Obj)) (s:Shared):Prop
  | mk {m:Str→Option Value} {oc kp:List (Addr×Obj)}:Sit c F st m oc fz kp s→Now c F st fz s
noncomputable abbrev Sub (fz fz':List (Addr×Obj)):Prop:=∀p∈fz,p∈fz'
theorem Sub.refl {fz:List (Addr×Obj)}:Sub fz fz:=fun zz h=>h
theorem Sub.trans {a b d:List (Addr×Obj)} (h:Sub a b) (k:Sub b d):Sub a d:=fun p q=>k p (h p q)
theorem Sub.cons {a b:List (Addr×Obj)} {p:Addr×Obj} (h:Sub a b):Sub a (p::b):=fun q hq=>.tail _ (h q hq)
inductive PostV (c:Cx) (F:Fm) (fz:List (Addr×Obj)) (Q:V→St→Prop) (v:Value) (s':Shared):Prop
  | mk {x:V} {st':St} {fz':List (Addr×Obj)}:Now c F st' fz' s'→Sub fz fz'→c.R fz' v x→Q x st'→PostV c F fz Q v s'
inductive PostVs (c:Cx) (F:Fm) (fz:List (Addr×Obj)) (Q:List V→St→Prop) (vs:List Value) (s':Shared):Prop
  | mk {xs:List V} {st':St} {fz':List (Addr×Obj)}:Now c F st' fz' s'→Sub fz fz'→c.Rs fz' vs xs→Q xs st'→PostVs c F fz Q vs s'
inductive PostU (c:Cx) (F:Fm) (fz:List (Addr×Obj)) (Q:St→Prop) (s':Shared):Prop
  | mk {st':St} {fz':List (Addr×Obj)}:Now c F st' fz' s'→Sub fz fz'→Q st'→PostU c F fz Q s'
inductive PostB (c:Cx) (F:Fm) (fz:List (Addr×Obj)) (Q:Bool→St→Prop) (b:Bool) (s':Shared):Prop
  | mk {st':St} {fz':List (Addr×Obj)}:Now c F st' fz' s'→Sub fz fz'→Q b st'→PostB c F fz Q b s'
set_option genCtorIdx false in
inductive Fl where
  | next | brk | cont
  | ret (v:V)
noncomputable def Fl.ctorIdx (x:Fl):Nat:=@Fl.casesOn (fun _=>Nat) x 0 1 2 (fun _=>3)
theorem no_ns {α:Type} {a:α} {P:Prop} (e:none=some a):P:=nomatch e
theorem toNat_lt {i:Int} {n:Nat} (h1:0≤i) (h:i.toNat < n):i < n:=by rw [← Int.toNat_of_nonneg h1];exact Int.ofNat_lt.mpr h
theorem toNat_eq {i:Int} (h:0≤i):i=((i.toNat:Nat):Int):=(Int.toNat_of_nonneg h).symm
theorem step_lt {n i:Nat} (h:i < n):n+1 - (i+1) < n+1 - i:=by rw [Nat.add_sub_add_right,Nat.succ_sub (Nat.le_of_lt h)];exact Nat.lt_succ_self _
theorem min_if (a b:Int):min a b=if b < a then b else a:=by
  by_cases h:b < a
  · rw [if_pos h];exact Int.min_eq_right (Int.le_of_lt h)
  · rw [if_neg h];exact Int.min_eq_left (Int.not_lt.mp h)
theorem max_if (a b:Int):max a b=if b > a then b else a:=by
  by_cases h:b > a
  · rw [if_pos h];exact Int.max_eq_right (Int.le_of_lt h)
  · rw [if_neg h];exact Int.max_eq_left (Int.not_lt.mp h)
theorem abs_if (i:Int):(if i < 0 then -i else i)=((i.natAbs:Nat):Int):=by
  by_cases h:i < 0
  · rw [if_pos h];exact (Int.ofNat_natAbs_of_nonpos (Int.le_of_lt h)).symm
  · rw [if_neg h];exact (Int.natAbs_of_nonneg (Int.not_lt.mp h)).symm
theorem no_ft {P:Prop} (e:false=true):P:=nomatch e
noncomputable abbrev PQ:=V→Own→Prop
noncomputable abbrev PX:=Addr→Own→Prop
noncomputable abbrev QV:=V→St→Prop
noncomputable abbrev XT:=Addr→St→Prop
noncomputable abbrev QF:=Fl→St→Prop
noncomputable abbrev QB:=Bool→St→Prop
noncomputable abbrev QL:=List V→St→Prop
noncomputable abbrev PE:=Value→Shared→Prop
noncomputable abbrev PS:=St→Prop
inductive FlR (c:Cx) (fz:List (Addr×Obj)):Flow→Fl→Prop
  | next:FlR c fz .next .next
  | brk:FlR c fz .brk .brk
  | cont:FlR c fz .cont .cont
  | ret {v:Value} {x:V}:c.R fz v x→FlR c fz (.ret v) (.ret x)
inductive PostF (c:Cx) (F:Fm) (fz:List (Addr×Obj)) (Q:QF) (f:Flow) (s':Shared):Prop
  | mk {x:Fl} {st':St} {fz':List (Addr×Obj)}:Now c F st' fz' s'→Sub fz fz'→FlR c fz' f x→Q x st'→PostF c F fz Q f s'
inductive TbAt (c:Cx) (T:Addr) (fl:Value) (led:List (Addr×Obj)) (h:Heap):Prop
  | mk {oT:Obj} {ts:Array Value}:h.get? T=some oT→oT.data=.fields ts→ts[3]?=some fl→c.g.get? T=none→(∀p∈led,p.1≠T)→TbAt c T fl led h
inductive InFlight (c:Cx) (L:Option Addr) (e:Addr) (led:List (Addr×Obj)) (h:Heap):Prop
  | new {oe:Obj} {vs:Array Value}:h.get? e=some oe→oe.data=.fields vs→vs[1]?=some .none→InFlight c L e led h
  | noted {oe:Obj} {vs:Array Value} {T:Addr} {fl:Value}:h.get? e=some oe→oe.data=.fields vs→vs[1]?=some (.ref T)→TbAt c T fl led h→(fl=.none∨∃l,L=some l∧fl=rawInt l)→InFlight c L e led h
inductive Raised (c:Cx) (F:Fm) (X:XT) (ev:Value) (s':Shared):Prop
  | mk {e C:Addr} {ats:List (List Nat×V)} {st':St} {m':Str→Option Value} {oc' fz' kp':List (Addr×Obj)}:ev=.ref e→Sit c F st' m' oc' fz' kp' s'→(e,.exc false C ats)∈st'.own→InFlight c F.env.frame e (oc'++(fz'++kp')) s'.heap→X e st'→Raised c F X ev s'
noncomputable abbrev ExcTo (c:Cx) (F:Fm) (X:XT) (E:PE):Prop:=∀ev s',Raised c F X ev s'→E ev s'
section
variable {H:Params} {P P':Addr→Obj→Prop} (hp:∀a o,P a o→P' a o)
include hp
theorem VR.mono {v:Value} {x:V} (r:VR H P v x):VR H P' v x:=
  VR.rec (motive_1:=fun v x zz=>VR H P' v x) (motive_2:=fun v x zz=>VRs H P' v x) (motive_3:=fun v x zz=>ERs H P' v x) .non .bool .int .str (fun h1 h2 h3 zz ih=>.list (hp _ _ h1) h2 h3 ih) (fun h1 h2 h3 zz ih=>.tup (hp _ _ h1) h2 h3 ih) (fun h0 h1 zz ih=>.dict h0 (hp _ _ h1) ih) (fun h1=>.rng (hp _ _ h1)) .own .lit .nil (fun zz zz a b=>.cons a b) .nil (fun h1 h2 zz zz a b=>.cons h1 h2 a b) r
theorem VRs.mono {v:List Value} {x:List V} (r:VRs H P v x):VRs H P' v x:=
  VRs.rec (motive_1:=fun v x zz=>True) (motive_2:=fun v x zz=>VRs H P' v x) (motive_3:=fun v x zz=>True) trivial (fun zz=>trivial) (fun zz zz=>trivial) (fun zz zz=>trivial) (fun zz zz zz zz zz=>trivial) (fun zz zz zz zz zz=>trivial) (fun zz zz zz zz=>trivial) (fun zz=>trivial) (fun zz=>trivial) (fun zz=>trivial) .nil (fun a zz zz b=>.cons (a.mono hp) b) trivial (fun zz zz zz zz zz zz=>trivial) r
theorem ERs.mono {v:List DictEntry} {x:List (List Nat×V)} (r:ERs H P v x):ERs H P' v x:=
  ERs.rec (motive_1:=fun v x zz=>True) (motive_2:=fun v x zz=>True) (motive_3:=fun v x zz=>ERs H P' v x) trivial (fun zz=>trivial) (fun zz zz=>trivial) (fun zz zz=>trivial) (fun zz zz zz zz zz=>trivial) (fun zz zz zz zz zz=>trivial) (fun zz zz zz zz=>trivial) (fun zz=>trivial) (fun zz=>trivial) (fun zz=>trivial) trivial (fun zz zz zz zz=>trivial) .nil (fun h1 h2 a zz zz b=>.cons h1 h2 (a.mono hp) b) r
end
section
variable {c:Cx} {fz fz':List (Addr×Obj)} {F:Fm} {st:St} {m:Str→Option Value} {oc kp:List (Addr×Obj)} {s:Shared}
theorem At.mono (h:Sub fz fz'):∀a o,At c fz a o→At c fz' a o:=fun zz zz x=>x.elim .inl fun y=>.inr (h _ y)
theorem VR.up {v:Value} {x:V} (h:Sub fz fz') (r:c.R fz v x):c.R fz' v x:=r.mono (At.mono h)
theorem VRs.up {v:List Value} {x:List V} (h:Sub fz fz') (r:c.Rs fz v x):c.Rs fz' v x:=r.mono (At.mono h)
theorem ERs.up {v:List DictEntry} {x:List (List Nat×V)} (h:Sub fz fz') (r:ERs c.H (At c fz) v x):ERs c.H (At c fz') v x:=r.mono (At.mono h)
theorem OR.up {a:Addr} {x:OO} {l:List (Addr×Obj)} (h:Sub fz fz') (r:OR c fz a x l):OR c fz' a x l:=
  OR.casesOn (motive:=fun x l zz=>OR c fz' a x l) r (fun q=>.list (q.up h)) (fun q0 q=>.dict q0 (q.up h)) (fun q=>.inst (q.up h)) (fun q z y=>.exc (q.up h) z y) (fun z y=>.exc0 z y) (fun e q=>.cell e (q.up h)) .raw (fun e=>.cell0 e)
theorem OwnR.up {r:Own} {l:List (Addr×Obj)} (h:Sub fz fz') (q:OwnR c fz r l):OwnR c fz' r l:=by
  induction q with
  | nil=>exact .nil
  | cons x _ ih=>exact .cons (x.up h) ih
theorem LocV.up {env:Env} {x:Str} (h:Sub fz fz') {v:V} (r:LocV c fz env m x v):LocV c fz' env m x v:=
  LocV.casesOn (motive:=fun v zz=>LocV c fz' env m x v) r .cell fun a b r=>.val a b (r.up h)
theorem LocR.up {loc:List (Option V)} (h:Sub fz fz') (q:LocR c fz F m loc):LocR c fz' F m loc:=
  fun i v hv=>(q i v hv).imp fun zz r=>⟨r.1,r.2.up h⟩
theorem FlR.up {f:Flow} {x:Fl} (h:Sub fz fz') (q:FlR c fz f x):FlR c fz' f x:=
  FlR.casesOn (motive:=fun f x zz=>FlR c fz' f x) q .next .brk .cont fun r=>.ret (r.up h)
theorem PostV.weak {Q:QV} {v:Value} (h:Sub fz fz') (x:PostV c F fz' Q v s):PostV c F fz Q v s:=match x with
  | .mk a b r q=>.mk a (h.trans b) r q
theorem PostB.weak {Q:QB} {v:Bool} (h:Sub fz fz') (x:PostB c F fz' Q v s):PostB c F fz Q v s:=match x with
  | .mk a b q=>.mk a (h.trans b) q
theorem PostVs.weak {Q:QL} {v:List Value} (h:Sub fz fz') (x:PostVs c F fz' Q v s):PostVs c F fz Q v s:=match x with
  | .mk a b r q=>.mk a (h.trans b) r q
theorem PostU.weak {Q:PS} (h:Sub fz fz') (x:PostU c F fz' Q s):PostU c F fz Q s:=match x with
  | .mk a b q=>.mk a (h.trans b) q
theorem PostF.weak {Q:QF} {f:Flow} (h:Sub fz fz') (x:PostF c F fz' Q f s):PostF c F fz Q f s:=match x with
  | .mk a b r q=>.mk a (h.trans b) r q
theorem KeptR.same {k:List (Addr×Obj)}:KeptR k k:=by
  induction k with
  | nil=>exact .nil
  | cons p r ih=>exact .cons (sl:=p.2.slots) (.inr rfl) ih
theorem KeptR.get {k kp:List (Addr×Obj)} (r:KeptR k kp) {a:Addr} {o:Obj} (h:(a,o)∈k):∃sl,(a,{ o with slots:=sl })∈kp:=by
  induction r with
  | nil=>cases h
  | cons _ _ ih=>
    rcases List.mem_cons.mp h with e | h
    · cases e;exact ⟨_,.head _⟩
    · obtain ⟨sl,q⟩:=ih h;exact ⟨sl,.tail _ q⟩
theorem Sit.size (x:Sit c F st m oc fz kp s):∀p∈oc++(fz++kp),p.1 < s.heap.objs.size:=fun p hp=>Heap.lt_size (x.nw p hp).1
theorem Sit.with (x:Sit c F st m oc fz kp s) {st':St} {m':Str→Option Value} {oc' fz' kp':List (Addr×Obj)} {h':Heap} {t:Nat}
    (fr:Fr c.g F.env.locals h' m') (nw:News c.g F.env.locals h' (oc'++(fz'++kp'))) (nd:(oc'.map (·.1)).Nodup) (ap:∀p∈oc',∀q∈fz'++kp',p.1≠q.1)
    (ow:OwnR c fz' st'.own oc') (lc:LocR c fz' F m' st'.loc) (kr:KeptR F.kept kp') (fk:∀p∈fz',∀q∈kp',p.1≠q.1) (fb:Sub fz fz'):Sit c F st' m' oc' fz' kp' { s with heap:=h',toks:=t }:=
  ⟨fr,nw,nd,ap,ow,lc,kr,fk,by have:=x.re;rw [this],fun p hp=>fb p (x.fb p hp)⟩
theorem Sit.toks (x:Sit c F st m oc fz kp s) (t:Nat):Sit c F st m oc fz kp { s with toks:=t }:=
  x.with x.fr x.nw x.nd x.ap x.ow x.lc x.kr x.fk .refl
theorem Sit.at (x:Sit c F st m oc fz kp s) {a:Addr} {o:Obj} (h:At c fz a o):s.heap.get? a=some o:=
  h.elim (x.fr.keep _ _) fun h=>(x.nw _ (List.mem_append_right _ (List.mem_append_left _ h))).1
theorem Sit.own (x:Sit c F st m oc fz kp s) {p:Addr×Obj} (h:p∈oc):s.heap.get? p.1=some p.2:=(x.nw p (List.mem_append_left _ h)).1
theorem Sit.pushK (x:Sit c F st m oc fz kp s) {D:Addr} {o:Obj} {h':Heap} (t:Nat) (F':Fr c.g F.env.locals h' m) (N':News c.g F.env.locals h' ((D,o)::(oc++(fz++kp)))) (hD:∀p∈oc++(fz++kp),p.1 < D):
    Sit c F st m oc ((D,o)::fz) kp { s with heap:=h',toks:=t }:=by
  refine x.with F' (fun p hp=>N' p ?_) x.nd (fun p hp q hq=>?_) (x.ow.up Sub.refl.cons) (x.lc.up Sub.refl.cons) x.kr (fun p hp q hq=>?_) Sub.refl.cons
  · exact (List.perm_middle (l₁:=oc) (l₂:=fz++kp)).subset hp
  · exact (List.mem_cons.mp hq).elim (fun e=>e▸Nat.ne_of_lt (hD p (List.mem_append_left _ hp))) (x.ap p hp q)
  · exact (List.mem_cons.mp hp).elim (fun e=>e▸Nat.ne_of_gt (hD q (List.mem_append_right _ (List.mem_append_right _ hq)))) fun hp=>x.fk p hp q hq
theorem Sit.push (x:Sit c F st m oc fz kp s) (o:Obj) (hf:o.isFreed=false):
    Sit c F st m oc ((s.heap.objs.size,o)::fz) kp { s with heap:=s.heap.push o }:=
  x.pushK s.toks (x.fr.push o) (x.nw.push x.fr o hf) x.size
theorem Sit.junk (x:Sit c F st m oc fz kp s) (o:Obj):Sit c F st m oc fz kp { s with heap:=s.heap.push o }:=
  x.with (x.fr.push o) (fun p hp=>⟨Heap.get?_push_of_some _ (x.nw p hp).1,(x.nw p hp).2⟩) x.nd x.ap x.ow x.lc x.kr x.fk .refl
theorem Sit.keeps (x:Sit c F st m oc fz kp s) {h':Heap} (t:Nat) (hk:∀b o,s.heap.get? b=some o→h'.get? b=some o):Sit c F st m oc fz kp { s with heap:=h',toks:=t }:=
  x.with ⟨x.fr.ns.keeps hk,fun b o e=>hk _ _ (x.fr.keep b o e),x.fr.above⟩ (fun p hp=>⟨hk _ _ (x.nw p hp).1,(x.nw p hp).2⟩) x.nd x.ap x.ow x.lc x.kr x.fk .refl
inductive Found (c:Cx) (fz:List (Addr×Obj)) (a:Addr) (x y:OO) (own':Own) (oc:List (Addr×Obj)):Prop
  | mk {l1 l l2:List (Addr×Obj)}:oc=l1++(l++l2)→OR c fz a x l→(∀l',OR c fz a y l'→OwnR c fz own' (l1++(l'++l2)))→Found c fz a x y own' oc
theorem OwnR.find {own own':Own} {a:Addr} {x y:OO} (u:Upd a x y own own') {oc:List (Addr×Obj)} (h:OwnR c fz own oc):Found c fz a x y own' oc:=by
  induction u generalizing oc with
  | here=>
    cases h with
    | cons h1 h2=>exact .mk (l1:=[]) rfl h1 fun l' h'=>OwnR.cons (l:=l') h' h2
  | there _ ih=>
    cases h with
    | @cons _ _ _ l _ h1 h2=>
      obtain ⟨e,hx,hu⟩:=ih h2
      subst e
      refine .mk (l1:=l++_) (by rw [List.append_assoc]) hx fun l' h'=>?_
      rw [List.append_assoc]
      exact .cons h1 (hu l' h')
theorem OwnR.findDel {own own':Own} {a:Addr} {x:OO} (u:Del a x own own') {oc:List (Addr×Obj)} (h:OwnR c fz own oc):∃l1 l l2,oc=l1++(l++l2)∧OR c fz a x l∧OwnR c fz own' (l1++l2):=by
  induction u generalizing oc with
  | here=>
    cases h with
    | cons h1 h2=>exact ⟨[],_,_,rfl,h1,h2⟩
  | there _ ih=>
    cases h with
    | @cons _ _ _ l _ h1 h2=>
      obtain ⟨l1,lx,l2,e,hx,hu⟩:=ih h2
      subst e
      refine ⟨l++l1,lx,l2,by rw [List.append_assoc],hx,?_⟩
      rw [List.append_assoc]
      exact .cons h1 hu
theorem OwnR.drop {own own':Own} (h:OwnR c fz own oc) (e:own'.Sublist own):∃oc',oc'.Sublist oc∧OwnR c fz own' oc':=by
  induction h generalizing own' with
  | nil=>cases e;exact ⟨[],.slnil,.nil⟩
  | @cons b y r l l' h1 h2 ih=>
    cases e with
    | cons _ e=>
      obtain ⟨oc',a1,a2⟩:=ih e
      exact ⟨oc',List.Sublist.trans a1 (List.sublist_append_right _ _),a2⟩
    | cons_cons _ e=>
      obtain ⟨oc',a1,a2⟩:=ih e
      exact ⟨l++oc',List.Sublist.append (List.Sublist.refl _) a1,.cons h1 a2⟩
theorem Sit.drop (x:Sit c F st m oc fz kp s) {own':Own} (e:own'.Sublist st.own):∃oc',oc'.Sublist oc∧Sit c F ⟨st.loc,own'⟩ m oc' fz kp s:=by
  obtain ⟨oc',h1,h2⟩:=x.ow.drop e
  refine ⟨oc',h1,x.fr,fun p hp=>x.nw p ?_,x.nd.sublist (h1.map _),fun p hp=>x.ap p (h1.subset hp),h2,x.lc,x.kr,x.fk,x.re,x.fb⟩
  exact (List.mem_append.mp hp).elim (fun h=>List.mem_append_left _ (h1.subset h)) (List.mem_append_right _)
theorem Sit.reloc (x:Sit c F st m oc fz kp s) {loc':List (Option V)} (h:LocR c fz F m loc'):Sit c F ⟨loc',st.own⟩ m oc fz kp s:=
  ⟨x.fr,x.nw,x.nd,x.ap,x.ow,h,x.kr,x.fk,x.re,x.fb⟩
theorem Sit.apart {l1 l2:List (Addr×Obj)} {d:Addr} {o:Obj} (x:Sit c F st m (l1++(d,o)::l2) fz kp s):(∀p∈l1,p.1≠d)∧∀p∈l2++(fz++kp),p.1≠d:=by
  have hnd:=x.nd
  rw [List.map_append,List.map_cons,List.nodup_append,List.nodup_cons] at hnd
  refine ⟨fun p hp q=>hnd.2.2 _ (List.mem_map_of_mem hp) _ (.head _) q,fun p hp q=>?_⟩
  rcases List.mem_append.mp hp with hp | hp
  · have:=List.mem_map_of_mem (f:=fun x:Addr×Obj=>x.1) hp
    rw [q] at this
    exact hnd.2.1.1 this
  · exact x.ap (d,o) (List.mem_append_right _ (.head _)) p hp q.symm
theorem mem_part {l1 l2:List (Addr×Obj)} {d:Addr} {o o':Obj} {p:Addr×Obj} (hp:p∈l1++(d,o')::l2):p=(d,o')∨p∈l1++(d,o)::l2:=by
  rcases List.mem_append.mp hp with h | h
  · exact .inr (List.mem_append_left _ h)
  · exact (List.mem_cons.mp h).imp id fun h=>List.mem_append_right _ (.tail _ h)
theorem Sit.updK {l1 l2:List (Addr×Obj)} {d:Addr} {o o':Obj} {own':Own} {h':Heap} (t:Nat) (x:Sit c F st m (l1++(d,o)::l2) fz kp s) (F':Fr c.g F.env.locals h' m) (N':News c.g F.env.locals h' (l1++(d,o')::l2++(fz++kp)))
    (ho:OwnR c fz own' (l1++(d,o')::l2)):Sit c F ⟨st.loc,own'⟩ m (l1++(d,o')::l2) fz kp { s with heap:=h',toks:=t }:=by
  refine x.with F' N' (by have:=x.nd;rw [List.map_append,List.map_cons] at this ⊢;exact this) (fun p hp q hq=>?_) ho x.lc x.kr x.fk .refl
  exact (mem_part (o:=o) hp).elim (fun e=>e▸x.ap (d,o) (List.mem_append_right _ (.head _)) q hq) fun h=>x.ap p h q hq
theorem Sit.upd {l1 l2:List (Addr×Obj)} {d:Addr} {o o':Obj} {f:Obj→Obj} {own':Own} (x:Sit c F st m (l1++(d,o)::l2) fz kp s) (e:f o=o') (hf:o'.isFreed=false)
    (ho:OwnR c fz own' (l1++(d,o')::l2)):Sit c F ⟨st.loc,own'⟩ m (l1++(d,o')::l2) fz kp { s with heap:=s.heap.update d f }:=by
  have N:=x.nw
  rw [List.append_assoc,List.cons_append] at N
  obtain ⟨F',N'⟩:=news_upd (f:=f) x.fr N x.apart.1 x.apart.2 e hf
  exact x.updK s.toks F' (by rw [List.append_assoc,List.cons_append];exact N') ho
theorem Sit.pushOwn (x:Sit c F st m oc fz kp s) (o:Obj) {y:OO} (hy:OR c fz s.heap.objs.size y [(s.heap.objs.size,o)]) (hf:o.isFreed=false):
    Sit c F ⟨st.loc,(s.heap.objs.size,y)::st.own⟩ m ((s.heap.objs.size,o)::oc) fz kp { s with heap:=s.heap.push o }:=by
  refine x.with (x.fr.push o) (x.nw.push x.fr o hf) ?_ (fun p hp q hq=>?_) (.cons hy x.ow) x.lc x.kr x.fk .refl
  · refine List.nodup_cons.mpr ⟨fun h=>?_,x.nd⟩
    obtain ⟨p,hp,e⟩:=List.mem_map.mp h
    exact Nat.lt_irrefl _ (e▸x.size p (List.mem_append_left _ hp))
  · exact (List.mem_cons.mp hp).elim (fun e=>e▸Nat.ne_of_gt (x.size q (List.mem_append_right _ hq))) fun hp=>x.ap p hp q hq
theorem Sit.freeze {l1 l2:List (Addr×Obj)} {d:Addr} {o:Obj} {own':Own} (x:Sit c F st m (l1++(d,o)::l2) fz kp s)
    (ho:OwnR c fz own' (l1++l2)):Sit c F ⟨st.loc,own'⟩ m (l1++l2) ((d,o)::fz) kp s:=by
  have hsub:∀p∈l1++l2,p∈l1++(d,o)::l2:=fun p hp=>(List.perm_middle (l₁:=l1) (l₂:=l2)).symm.subset (.tail _ hp)
  refine ⟨x.fr,fun p hp=>x.nw p ?_,x.nd.sublist (List.Sublist.map _ (List.Sublist.append (List.Sublist.refl _) (List.sublist_cons_self _ _))),fun p hp q hq=>?_,ho.up Sub.refl.cons,x.lc.up Sub.refl.cons,x.kr,fun p hp q hq=>?_,x.re,fun p hp=>.tail _ (x.fb p hp)⟩
  · rcases List.mem_append.mp hp with h | h
    · exact List.mem_append_left _ (hsub p h)
    · rcases List.mem_cons.mp h with e | h
      · exact e▸List.mem_append_left _ (List.mem_append_right _ (.head _))
      · exact List.mem_append_right _ h
  · rcases List.mem_cons.mp hq with e | hq
    · subst e
      rcases List.mem_append.mp hp with h | h
      · exact x.apart.1 p h
      · exact x.apart.2 p (List.mem_append_left _ h)
    · exact x.ap p (hsub p hp) q hq
  · rcases List.mem_cons.mp hp with e | hp
    · exact e▸x.ap (d,o) (List.mem_append_right _ (.head _)) q (List.mem_append_right _ hq)
    · exact x.fk p hp q hq
theorem Sit.perm (x:Sit c F st m oc fz kp s) {own':Own} {oc':List (Addr×Obj)} (p:oc'.Perm oc) (ho:OwnR c fz own' oc'):Sit c F ⟨st.loc,own'⟩ m oc' fz kp s:=
  ⟨x.fr,fun q hq=>x.nw q ((List.mem_append.mp hq).elim (fun h=>List.mem_append_left _ (p.subset h)) (List.mem_append_right _)),(p.map _).nodup_iff.mpr x.nd,fun q hq=>x.ap q (p.subset hq),ho,x.lc,x.kr,x.fk,x.re,x.fb⟩
theorem Sit.notMods (x:Sit c F st m oc fz kp s):(s.heap.objs.size == sysModules)=false:=
  beq_eq_false_iff_ne.mpr (show s.heap.objs.size≠sysModules from Nat.ne_of_gt (Nat.lt_trans (modules_low c.T.nolimit) (Nat.lt_of_le_of_lt x.fr.above x.fr.ns.lt)))
end
set_option genCtorIdx false in
inductive Bi where
  | len | ord | abs | min | max | sum | str | range | isList | isTuple | isCls (C:Addr) | join | find | starts | append | pop | dpop | einit
noncomputable def Bi.ctorIdx (x:Bi):Nat:=@Bi.casesOn (fun _=>Nat) x 0 1 2 3 4 5 6 7 8 9 (fun _=>10) 11 12 13 14 15 16 17
noncomputable def Bi.val:Bi→Value
  | .len=>.builtin "len"
  | .ord=>.builtin "ord"
  | .abs=>.builtin "abs"
  | .min=>.builtin "min"
  | .max=>.builtin "max"
  | .sum=>.builtin "sum"
  | .str=>.type "str"
  | .range=>.type "range"
  | .isList | .isTuple | .isCls _=>.builtin "isinstance"
  | .join=>.builtin "str.join"
  | .find=>.builtin "str.find"
  | .starts=>.builtin "str.startswith"
  | .append=>.builtin "list.append"
  | .pop=>.builtin "list.pop"
  | .dpop=>.builtin "dict.pop"
  | .einit=>.builtin "Exception.__init__"
set_option genCtorIdx false in
inductive Mth where
  | join | find | starts | append | pop | dpop | einit
  | user (n:List Nat)
noncomputable def Mth.ctorIdx (x:Mth):Nat:=@Mth.casesOn (fun _=>Nat) x 0 1 2 3 4 5 6 (fun _=>7)
set_option genCtorIdx false in
inductive ME where
  | loc (i:Nat)
  | glob (v:Value)
  | int (n:Int)
  | str (s:List Nat)
  | bool (b:Bool)
  | non
  | bin (op:Operator) (a b:ME)
  | neg (a:ME)
  | not (a:ME)
  | and (as:List ME)
  | or (as:List ME)
  | cmp (op:CmpOp) (a b:ME)
  | cmp2 (o1 o2:CmpOp) (a b d:ME)
  | ite (t a b:ME)
  | tup (es:List ME)
  | lst (es:List ME)
  | ownl (es:List ME)
  | dct (ks:List (List Nat)) (vs:List ME)
  | ownd
  | idx (a i:ME)
  | slc (a:ME) (lo hi:ME)
  | slcs (a lo st:ME)
  | attr (o:ME) (n:List Nat)
  | call (f:ME) (es:List ME)
  | bcall (b:Bi) (es:List ME)
  | meth (o:ME) (n:Mth) (es:List ME)
  | comp (elt:ME) (conds:List ME) (caps:List Nat) (src:ME)
  | frz (i:Nat)
  | frzc (i:Nat) (e:ME)
noncomputable def ME.ctorIdx (x:ME):Nat:=@ME.casesOn (fun _=>Nat) x (fun _=>0) (fun _=>1) (fun _=>2) (fun _=>3) (fun _=>4) 5 (fun _ _ _=>6) (fun _=>7) (fun _=>8) (fun _=>9) (fun _=>10) (fun _ _ _=>11) (fun _ _ _ _ _=>12) (fun _ _ _=>13) (fun _=>14) (fun _=>15) (fun _=>16) (fun _ _=>17) 18 (fun _ _=>19) (fun _ _ _=>20) (fun _ _ _=>21) (fun _ _=>22) (fun _ _=>23) (fun _ _=>24) (fun _ _ _=>25) (fun _ _ _ _=>26) (fun _=>27) (fun _ _=>28)
set_option genCtorIdx false in
inductive Tg where
  | loc (i:Nat)
  | cell (i:Nat)
noncomputable def Tg.ctorIdx (x:Tg):Nat:=@Tg.casesOn (fun _=>Nat) x (fun _=>0) (fun _=>1)
set_option genCtorIdx false in
inductive MS where
  | expr (e:ME)
  | set (t:Tg) (e:ME)
  | sets (rev:Bool) (ts:List Tg) (e:ME)
  | seta (o:ME) (n:List Nat) (e:ME)
  | seti (o i e:ME)
  | aug (op:Operator) (i:Nat) (e:ME)
  | auga (op:Operator) (o:ME) (n:List Nat) (e:ME)
  | ite (t:ME) (a b:List MS)
  | while (t:ME) (b:List MS)
  | for (i:Nat) (src:ME) (b:List MS)
  | fort (is:List Nat) (src:ME) (b:List MS)
  | ret (e:ME)
  | retn
  | raise (e:ME)
  | try (b:List MS) (D:Addr) (nm:Option Nat) (h:List MS)
noncomputable def MS.ctorIdx (x:MS):Nat:=@MS.casesOn (fun _=>Nat) x (fun _=>0) (fun _ _=>1) (fun _ _ _=>2) (fun _ _ _=>3) (fun _ _ _=>4) (fun _ _ _=>5) (fun _ _ _ _=>6) (fun _ _ _=>7) (fun _ _=>8) (fun _ _ _=>9) (fun _ _ _=>10) (fun _=>11) 12 (fun _=>13) (fun _ _ _ _=>14)
noncomputable abbrev LIM:Nat:=16777216
noncomputable def V.isNon:V→Bool
  | .non=>true
  | .lit v=>v == .none
  | _=>false
noncomputable def V.isStr (s:List Nat):V→Bool
  | .str t=>s == t
  | _=>false
noncomputable def V.isInt (i:Int):V→Bool
  | .int j=>i == j
  | _=>false
noncomputable def V.strs:List V→Bool
  | []=>true
  | .str _::r=>V.strs r
  | _=>false
noncomputable def V.ints:List V→Bool
  | []=>true
  | .int _::r=>V.ints r
  | _=>false
mutual
noncomputable def V.pd:V→Option PyData
  | .non=>some .none
  | .bool b=>some (.bool b)
  | .int i=>some (.int i)
  | .str s=>some (.str (toStr s))
  | .list xs=>(V.pds xs).map .list
  | .tup xs=>(V.pds xs).map .tuple
  | _=>none
noncomputable def V.pds:List V→Option (List PyData)
  | []=>some []
  | x::r=>(V.pd x).bind fun d=>(V.pds r).map (d::·)
end
noncomputable def dget:List (List Nat×V)→List Nat→Option V
  | [],_=>none
  | (k,v)::r,x=>if k=x then some v else dget r x
theorem dget_cons (k x:List Nat) (v:V) (r:List (List Nat×V)):dget ((k,v)::r) x=if k=x then some v else dget r x:=rfl
noncomputable def dput:List (List Nat×V)→List Nat→V→List (List Nat×V)
  | [],x,v=>[(x,v)]
  | (k,w)::r,x,v=>if k=x then (k,v)::r else (k,w)::dput r x v
theorem dput_nil (x:List Nat) (v:V):dput [] x v=[(x,v)]:=rfl
theorem dput_cons (k x:List Nat) (w v:V) (r:List (List Nat×V)):dput ((k,w)::r) x v=if k=x then (k,v)::r else (k,w)::dput r x v:=rfl
noncomputable def int1 (y:V) (G:Int→Prop):Prop:=match y with
  | .int b=>G b
  | _=>False
noncomputable def str1 (y:V) (G:List Nat→Prop):Prop:=match y with
  | .str b=>G b
  | _=>False
noncomputable def list1 (y:V) (G:List V→Prop):Prop:=match y with
  | .list b=>G b
  | _=>False
noncomputable def tup1 (y:V) (G:List V→Prop):Prop:=match y with
  | .tup b=>G b
  | _=>False
noncomputable def own1 (y:V) (G:Addr→Prop):Prop:=match y with
  | .own b=>G b
  | _=>False
noncomputable def lit1 (y:V) (G:Value→Prop):Prop:=match y with
  | .lit b=>G b
  | _=>False
noncomputable def int2 (x y:V) (G:Int→Int→Prop):Prop:=int1 x fun a=>int1 y fun b=>G a b
noncomputable def opAdd (x y:V) (K:V→Prop):Prop:=match x with
  | .int a=>int1 y fun b=>K (.int (a+b))
  | .str a=>str1 y fun b=>a.length+b.length≤LIM∧K (.str (a++b))
  | .list a=>list1 y fun b=>a.length+b.length≤LIM∧K (.list (a++b))
  | .tup a=>tup1 y fun b=>a.length+b.length≤16384∧K (.tup (a++b))
  | _=>False
noncomputable def opMul (x y:V) (K:V→Prop):Prop:=match x with
  | .int a=>int1 y fun b=>a.natAbs < 2 ^ 2000000∧b.natAbs < 2 ^ 2000∧K (.int (a * b))
  | .list a=>int1 y fun n=>0≤n∧n≤16∧a.length≤16∧K (.list (List.replicate n.toNat a).flatten)
  | _=>False
noncomputable def opBin (op:Operator) (x y:V) (K:V→Prop):Prop:=match op with
  | .Add=>opAdd x y K
  | .Sub=>int2 x y fun a b=>K (.int (a - b))
  | .Mult=>opMul x y K
  | .FloorDiv=>int2 x y fun a b=>b≠0∧b.natAbs < 2 ^ 64∧K (.int (a.fdiv b))
  | .Mod=>int2 x y fun a b=>b≠0∧K (.int (a.fmod b))
  | .Pow=>int2 x y fun a b=>(a=2∨a=10)∧0 < b∧b < 1000∧K (.int (a ^ b.toNat))
  | _=>False
inductive eqAsk (x y:V) (K:Bool→Prop):Prop
  | mk (p q:PyData) (h1:V.pd x=some p) (h2:V.pd y=some q) (h3:SeqAt.shaped p=true) (h4:SeqAt.shaped q=true) (h5:K (PyData.eqv p q)):eqAsk x y K
noncomputable def opEq (x y:V) (K:Bool→Prop):Prop:=match x with
  | .int a=>int1 y fun b=>K (decide (a=b))
  | .str a=>str1 y fun b=>K (decide (a=b))
  | .list a=>list1 y fun b=>eqAsk (.list a) (.list b) K
  | .tup a=>tup1 y fun b=>eqAsk (.tup a) (.tup b) K
  | .bool a=>match y with
    | .bool b=>K (a == b)
    | _=>False
  | _=>False
inductive OneS (a:List Nat) (K:Nat→Prop):Prop
  | mk (k:Nat) (e:a=[k]) (h:K k)
inductive DictAt (own:Own) (d:Addr) (K:List (List Nat×V)→Prop):Prop
  | mk (kvs:List (List Nat×V)) (h:(d,.dict kvs)∈own) (k:K kvs)
inductive ListAt (own:Own) (d:Addr) (K:List V→Prop):Prop
  | mk (xs:List V) (h:(d,.list xs)∈own) (k:K xs)
noncomputable def opInS (own:Own) (a:List Nat) (y:V) (K:Bool→Prop):Prop:=match y with
  | .str b=>OneS a fun k=>K (decide (k∈b))
  | .tup xs=>V.strs xs=true∧K (xs.any (V.isStr a))
  | .list xs=>V.strs xs=true∧K (xs.any (V.isStr a))
  | .dict kvs=>K (dget kvs a).isSome
  | .own d=>DictAt own d fun kvs=>K (dget kvs a).isSome
  | _=>False
noncomputable def opIn (own:Own) (x y:V) (K:Bool→Prop):Prop:=match x with
  | .str a=>opInS own a y K
  | .int a=>tup1 y fun xs=>V.ints xs=true∧K (xs.any (V.isInt a))
  | _=>False
noncomputable def V.isN (y:V) (G:Prop):Prop:=match y with
  | .non=>G
  | _=>False
noncomputable def opCmp (own:Own) (op:CmpOp) (x y:V) (K:Bool→Prop):Prop:=match op with
  | .Lt=>int2 x y fun a b=>K (decide (a < b))
  | .LtE=>int2 x y fun a b=>K (decide (a≤b))
  | .Gt=>int2 x y fun a b=>K (decide (b < a))
  | .GtE=>int2 x y fun a b=>K (decide (b≤a))
  | .Eq=>opEq x y K
  | .NotEq=>opEq x y fun r=>K (!r)
  | .Is=>y.isN (K x.isNon)
  | .IsNot=>y.isN (K (!x.isNon))
  | .In=>opIn own x y K
  | .NotIn=>opIn own x y fun r=>K (!r)
noncomputable def opT (x:V) (K:Bool→Prop):Prop:=match x with
  | .bool b=>K b
  | .non=>K false
  | .list xs=>xs.length≤LIM∧K (!xs.isEmpty)
  | .str s=>s.length≤LIM∧K (!s.isEmpty)
  | _=>False
inductive ItemAt {α:Type} (xs:List α) (K:α→Prop) (i:Int):Prop
  | mk (h0:0≤i) (h1:i < 2 ^ 62) (x:α) (h:xs[i.toNat]?=some x) (k:K x)
inductive SomeAt {α:Type} (o:Option α) (K:α→Prop):Prop
  | mk (x:α) (h:o=some x) (k:K x)
noncomputable def item (xs:List V) (y:V) (K:V→Prop):Prop:=int1 y (ItemAt xs K)
noncomputable def ditem (kvs:List (List Nat×V)) (y:V) (K:V→Prop):Prop:=str1 y fun k=>SomeAt (dget kvs k) K
noncomputable def opIdx (own:Own) (x y:V) (K:V→Prop):Prop:=match x with
  | .str s=>int1 y (ItemAt s fun k=>K (.str [k]))
  | .list xs=>item xs y K
  | .tup xs=>item xs y K
  | .dict kvs=>ditem kvs y K
  | .own d=>DictAt own d (fun kvs=>ditem kvs y K)∨ListAt own d fun xs=>item xs y K
  | _=>False
noncomputable def partN:V→Option (Option Nat)
  | .non=>some none
  | .int i=>if 0≤i then some (some i.toNat) else none
  | _=>none
noncomputable def cutL {α:Type} (xs:List α) (lo hi:Option Nat):List α:=(xs.take (hi.getD xs.length)).drop (lo.getD 0)
noncomputable def slcK (x:V) (l h:Option Nat) (K:V→Prop):Prop:=match x with
  | .str s=>s.length≤LIM∧K (.str (cutL s l h))
  | .list xs=>xs.length≤LIM∧K (.list (cutL xs l h))
  | _=>False
inductive opSlc (x lo hi:V) (K:V→Prop):Prop
  | mk (l h:Option Nat) (e1:partN lo=some l) (e2:partN hi=some h) (k:slcK x l h K)
noncomputable def opSlcs (x lo sp:V) (K:V→Prop):Prop:=list1 x fun xs=>int2 lo sp fun l p=>0≤l∧l < 2 ^ 40∧0 < p∧p < 2 ^ 40∧xs.length≤LIM∧∀ys,ys.length≤xs.length→(∀y∈ys,y∈xs)→K (.list ys)
noncomputable def V.isLit:V→Bool
  | .lit _=>true
  | _=>false
structure Tab where
  meth:Addr→List Nat→Option Addr
  attr:Addr→List Nat→Bool
  attx:Addr→List Nat→Bool
  cmeth:Addr→List Nat→Option Addr
  keep:Value→Bool
  fn:Addr→Bool
  isc:Addr→Bool
  exc:Addr→Bool
  rse:Addr→Addr→Bool
inductive Attrs (T:Tab) (own:Own) (a:Addr) (n:List Nat) (ats:List (List Nat×V)):(List (List Nat×V)→OO)→Prop
  | inst {C:Addr}:T.attr C n=true→(a,.inst C ats)∈own→Attrs T own a n ats (.inst C)
  | exc {C:Addr} {fr:Bool}:T.attx C n=true→(a,.exc fr C ats)∈own→Attrs T own a n ats (.exc fr C)
inductive AttrAt (T:Tab) (own:Own) (n:List Nat) (K:V→Prop) (a:Addr):Prop
  | mk (ats:List (List Nat×V)) (w:List (List Nat×V)→OO) (y:V) (h1:Attrs T own a n ats w) (h2:dget ats n=some y) (h3:y.isLit=false) (k:K y)
noncomputable def opAttr (T:Tab) (own:Own) (n:List Nat) (x:V) (K:V→Prop):Prop:=own1 x (AttrAt T own n K)
inductive SetAt (T:Tab) (own:Own) (n:List Nat) (v:V) (K:Own→Prop) (a:Addr):Prop
  | mk (ats:List (List Nat×V)) (w:List (List Nat×V)→OO) (own':Own) (h1:Attrs T own a n ats w) (h2:ats.length≤900) (h3:Upd a (w ats) (w (dput ats n v)) own own') (k:K own')
noncomputable def opSetA (T:Tab) (own:Own) (n:List Nat) (v x:V) (K:Own→Prop):Prop:=own1 x (SetAt T own n v K)
inductive SetK (own:Own) (d:Addr) (k:List Nat) (v:V) (K:Own→Prop):Prop
  | mk (kvs:List (List Nat×V)) (own':Own) (h1:kvs.length≤LIM) (h2:Upd d (.dict kvs) (.dict (dput kvs k v)) own own') (h:K own')
inductive SetX (own:Own) (d:Addr) (i:Int) (v:V) (K:Own→Prop):Prop
  | mk (xs:List V) (own':Own) (h0:0≤i) (h1:i < 2 ^ 62) (h2:i < xs.length) (h3:Upd d (.list xs) (.list (xs.set i.toNat v)) own own') (h:K own')
noncomputable def opSetI (own:Own) (o i v:V) (K:Own→Prop):Prop:=own1 o fun d=>(match i with
  | .str k=>SetK own d k v K
  | .int i=>SetX own d i v K
  | _=>False)
noncomputable def opAug (op:Operator) (x y:V) (K:V→Prop):Prop:=match op with
  | .Add=>int2 x y fun a b=>K (.int (a+b))
  | .Sub=>int2 x y fun a b=>K (.int (a - b))
  | _=>False
noncomputable def iterV:V→Option (List V)
  | .list xs=>some xs
  | .tup xs=>some xs
  | .str s=>some (s.map fun k=>.str [k])
  | .rng n=>some ((List.range n).map fun (k:Nat)=>V.int k)
  | .dict kvs=>if (kvs.map (·.1)).Nodup then some (kvs.map fun p=>.str p.1) else none
  | _=>none
noncomputable def joinS (sep:List Nat):List V→Option (List Nat)
  | []=>some []
  | .str s::r=>match r with
    | []=>some s
    | _=>(joinS sep r).map fun t=>s++(sep++t)
  | _=>none
noncomputable def idxI (k:Nat):List Nat→Int
  | []=>-1
  | x::r=>if x=k then 0 else if idxI k r < 0 then -1 else idxI k r+1
theorem idxI_cons (k x:Nat) (r:List Nat):idxI k (x::r)=if x=k then 0 else if idxI k r < 0 then -1 else idxI k r+1:=rfl
noncomputable def sumV:List V→Option Int
  | []=>some 0
  | .int i::r=>(sumV r).map (i+·)
  | _=>none
theorem sumV_int (i:Int) (r:List V):sumV (.int i::r)=(sumV r).map (i+·):=rfl
inductive Listy (own:Own) (xs:List V):V→Prop
  | frz:Listy own xs (.list xs)
  | own {a:Addr}:(a,.list xs)∈own→Listy own xs (.own a)
inductive LenAt (own:Own) (x:V) (K:V→Prop):Prop
  | mk (xs:List V) (h:Listy own xs x) (h2:xs.length≤LIM) (k:K (.int xs.length))
inductive JoinAt (own:Own) (y:V) (K:PQ) (sep:List Nat):Prop
  | mk (xs:List V) (t:List Nat) (h1:Listy own xs y) (h2:joinS sep xs=some t) (h3:t.length+sep.length≤LIM) (k:K (.str t) own)
inductive AppAt (own:Own) (y:V) (K:PQ) (a:Addr):Prop
  | mk (xs:List V) (own':Own) (h1:xs.length < LIM) (h2:Upd a (.list xs) (.list (xs++[y])) own own') (k:K .non own')
inductive PopAt (own:Own) (K:PQ) (a:Addr):Prop
  | mk (ys:List V) (z:V) (own':Own) (h1:ys.length < LIM) (h2:Upd a (.list (ys++[z])) (.list ys) own own') (k:K z own')
inductive DPopAt (own:Own) (a:Addr) (k:List Nat) (K:PQ):Prop
  | mk (kvs:List (List Nat×V)) (h1:(a,.dict kvs)∈own) (h2:dget kvs k=none) (h3:(kvs.map (·.1)).Nodup) (h:K .non own)
inductive InitAt (T:Tab) (own:Own) (K:PQ) (a:Addr):Prop
  | mk (C:Addr) (ats:List (List Nat×V)) (h1:(a,.exc true C ats)∈own) (h2:T.exc C=true) (k:K .non own)
inductive MethAt (T:Tab) (own:Own) (n:List Nat) (a:Addr) (K:Addr→Prop):Prop
  | mk (C:Addr) (ats:List (List Nat×V)) (f:Addr) (h1:(a,.inst C ats)∈own) (h2:dget ats n=none) (h3:T.meth C n=some f) (k:K f)
inductive CMethAt (T:Tab) (n:List Nat) (v:Value) (K:Addr→Prop):Prop
  | mk (C f:Addr) (h1:v=.ref C) (h2:T.cmeth C n=some f) (k:K f)
inductive SumAt (xs:List V) (K:Int→Prop):Prop
  | mk (h:xs.length≤LIM) (k:Int) (h2:sumV xs=some k) (h3:K k)
inductive FnAsk (T:Tab) (u:Value) (K:Prop):Prop
  | mk (f:Addr) (h:u=.ref f) (h2:T.fn f=true) (k:K)
inductive CallAt (T:Tab) (K:Addr→Prop) (v:Value):Prop
  | mk (f:Addr) (e:v=.ref f) (h:T.keep v=true) (k:K f)
inductive ItAt (x:V) (K:List V→Prop):Prop
  | mk (its:List V) (h:iterV x=some its) (h2:its.length≤LIM) (k:K its)
inductive DctAt (ks:List (List Nat)) (o:Option (List V)) (K:List V→Prop):Prop
  | mk (h1:ks.Nodup) (h2:ks.length≤15) (xs:List V) (h3:o=some xs) (k:K xs)
inductive CellAt (own:Own) (a:Addr) (K:V→Prop):Prop
  | mk (v:V) (h:(a,.cell (some v))∈own) (k:K v)
inductive RaiseAt (T:Tab) (own:Own) (K:Own→Prop) (a:Addr):Prop
  | mk (C:Addr) (ats:List (List Nat×V)) (own':Own) (h1:Upd a (.exc true C ats) (.exc false C ats) own own') (h2:T.rse C C=true) (k:K own')
noncomputable def opLen (own:Own) (x:V) (K:V→Prop):Prop:=match x with
  | .str s=>s.length≤LIM∧K (.int s.length)
  | .tup xs=>xs.length≤16384∧K (.int xs.length)
  | x=>LenAt own x K
noncomputable def arg1 (xs:List V) (G:V→Prop):Prop:=match xs with
  | []=>False
  | x::r=>match r with
    | []=>G x
    | _=>False
noncomputable def arg2 (xs:List V) (G:V→V→Prop):Prop:=match xs with
  | []=>False
  | x::r=>arg1 r (G x)
noncomputable def opBi (T:Tab) (own:Own) (b:Bi) (xs:List V) (K:PQ):Prop:=match b with
  | .len=>arg1 xs fun x=>opLen own x fun z=>K z own
  | .ord=>arg1 xs fun x=>str1 x fun s=>OneS s fun k=>K (.int k) own
  | .abs=>arg1 xs fun x=>int1 x fun i=>K (.int i.natAbs) own
  | .min=>arg2 xs fun x y=>int2 x y fun a b=>K (.int (min a b)) own
  | .max=>arg2 xs fun x y=>int2 x y fun a b=>K (.int (max a b)) own
  | .sum=>arg1 xs fun x=>list1 x fun xs=>SumAt xs fun k=>K (.int k) own
  | .str=>arg1 xs fun x=>int1 x fun i=>i.natAbs < 2 ^ 100∧K (.str (Str.ofString (toString i)).cps.toList) own
  | .range=>arg1 xs fun x=>int1 x fun i=>0≤i∧i < 2 ^ 40∧K (.rng i.toNat) own
  | .isList=>arg2 xs fun x y=>lit1 y fun v=>v=.type "list"∧(match x with
    | .list _=>K (.bool true) own
    | .str _=>K (.bool false) own
    | _=>False)
  | .isTuple=>arg2 xs fun x y=>lit1 y fun v=>v=.type "tuple"∧(match x with
    | .tup _=>K (.bool true) own
    | .lit u=>FnAsk T u (K (.bool false) own)
    | _=>False)
  | .isCls C=>arg2 xs fun x y=>lit1 y fun v=>v=.ref C∧str1 x fun zz=>T.isc C=true∧K (.bool false) own
  | .join=>arg2 xs fun x y=>str1 x (JoinAt own y K)
  | .find=>arg2 xs fun x y=>str1 x fun s=>str1 y fun t=>OneS t fun k=>K (.int (idxI k s)) own
  | .starts=>arg2 xs fun x y=>str1 x fun s=>str1 y fun t=>K (.bool (t.isPrefixOf s)) own
  | .append=>arg2 xs fun x y=>own1 x (AppAt own y K)
  | .pop=>arg1 xs fun x=>own1 x (PopAt own K)
  | .dpop=>match xs with
    | []=>False
    | x::r=>arg2 r fun y z=>own1 x fun a=>str1 y fun k=>z.isN (DPopAt own a k K)
  | .einit=>arg2 xs fun x y=>own1 x (InitAt T own K)
set_option genCtorIdx false in
inductive Fn where
  | usr (f:Addr)
  | bi (b:Bi)
noncomputable def Fn.ctorIdx (x:Fn):Nat:=@Fn.casesOn (fun _=>Nat) x (fun _=>0) (fun _=>1)
noncomputable def Fn.val:Fn→Value
  | .usr f=>.ref f
  | .bi b=>b.val
noncomputable def opMeth (T:Tab) (own:Own) (m:Mth) (x:V) (K:Fn→List V→Prop):Prop:=match m with
  | .join=>str1 x fun zz=>K (.bi .join) [x]
  | .find=>str1 x fun zz=>K (.bi .find) [x]
  | .starts=>str1 x fun zz=>K (.bi .starts) [x]
  | .append=>own1 x fun a=>(∃xs,(a,.list xs)∈own)∧K (.bi .append) [x]
  | .pop=>own1 x fun a=>(∃xs,(a,.list xs)∈own)∧K (.bi .pop) [x]
  | .dpop=>own1 x fun a=>(∃kvs,(a,.dict kvs)∈own)∧K (.bi .dpop) [x]
  | .einit=>lit1 x fun v=>v=.type "Exception"∧K (.bi .einit) []
  | .user n=>match x with
    | .own a=>MethAt T own n a fun f=>K (.usr f) [x]
    | .lit v=>CMethAt T n v fun f=>K (.usr f) []
    | _=>False
structure SemCall (c:Cx) (n:Nat) (f:Value) (xs:List V) (own:Own) (Q:PQ) (X:PX):Prop where
  go:∀(F:Fm) (loc:List (Option V)) fz (vs:List Value) (s:Shared) (E:PE),F.Ok c n→F.A.handled=none→Now c F ⟨loc,own⟩ fz s→c.Rs fz vs xs→
    ExcTo c F (fun e st=>st.loc=loc∧X e st.own) E→
    wpAny c.M F.A (call f vs) (PostV c F fz fun r st=>st.loc=loc∧Q r st.own) E s
noncomputable def negV:Option V→Option V
  | none=>none
  | some x=>match x with
    | .int i=>some (.int (-i))
    | _=>none
mutual
noncomputable def litV:ME→Option V
  | .int i=>some (.int i)
  | .str s=>some (.str s)
  | .bool b=>some (.bool b)
  | .non=>some .non
  | .glob v=>some (.lit v)
  | .neg a=>negV (litV a)
  | .tup es=>(litVs es).bind fun xs=>if xs.length≤LIM then some (.tup xs) else none
  | .lst es=>(litVs es).bind fun xs=>if xs.length≤LIM then some (.list xs) else none
  | _=>none
noncomputable def litVs:List ME→Option (List V)
  | []=>some []
  | a::r=>(litV a).bind fun x=>(litVs r).map (x::·)
end
noncomputable def ifB (b:Bool) (A B:Prop):Prop:=match b with
  | true=>A
  | false=>B
noncomputable def getL (st:St) (i:Nat) (K:V→Prop):Prop:=match st.loc[i]? with
  | some (some (.cell a))=>CellAt st.own a K
  | some (some v)=>K v
  | _=>False
noncomputable def setL:List (Option V)→Nat→V→(List (Option V)→Prop)→Prop
  | [],_,_,_=>False
  | _::l,0,v,K=>K (some v::l)
  | a::l,i+1,v,K=>setL l i v fun l=>K (a::l)
noncomputable def putT (st:St) (t:Tg) (v:V) (K:PS):Prop:=match st with
  | ⟨l,own⟩=>match t with
    | .loc i=>setL l i v fun l=>K ⟨l,own⟩
    | .cell i=>∃a o own',l[i]?=some (some (.cell a))∧Upd a (.cell o) (.cell (some v)) own own'∧K ⟨l,own'⟩
noncomputable def putTs:List Tg→List V→St→PS→Prop
  | [],[],st,K=>K st
  | i::is,x::xs,st,K=>putT st i x fun st=>putTs is xs st K
  | _,_,_,_=>False
noncomputable def compGo (P:V→Own→(Option V→Own→Prop)→Prop):List V→List V→Own→(List V→Own→Prop)→Prop
  | [],acc,own,K=>K acc own
  | x::r,acc,own,K=>P x own fun y own'=>compGo P r (acc++y.toList) own' K
noncomputable def frzL (st:St) (i:Nat) (K:QV):Prop:=match st with
  | ⟨l,own⟩=>getL ⟨l,own⟩ i fun v=>own1 v fun a=>∃xs own',Del a (.list xs) own own'∧K (.list xs) ⟨l,own'⟩
noncomputable def frzcL (st:St) (i:Nat) (K:PS):Prop:=match st with
  | ⟨l,own⟩=>∃ca d kvs own' own'',l[i]?=some (some (.cell ca))∧Del d (.dict kvs) own own'∧Upd ca (.cell (some (.own d))) (.cell (some (.dict kvs))) own' own''∧K ⟨l,own''⟩
noncomputable def capsL (st:St) (caps:List Nat):List (Option V):=caps.map fun i=>(st.loc[i]?).join
noncomputable def NoX (_:Addr) (_:St):Prop:=False
noncomputable def asn (b:Bool) (K:Prop):Prop:=match b with
  | true=>K
  | false=>False
theorem asn_inv {b:Bool} {K:Prop} (h:asn b K):b=true∧K:=by
  cases b
  · exact h.elim
  · exact ⟨rfl,h⟩
theorem asn_i {b:Bool} {K:Prop} (h:b=true) (k:K):asn b K:=by rw [h];exact k
theorem asn_le {a b:Nat} {K:Prop} (h:asn (Nat.ble a b) K):a≤b:=Nat.le_of_ble_eq_true (asn_inv h).1
theorem setL_inv:∀{l:List (Option V)} {i:Nat} {v:V} {K:List (Option V)→Prop},setL l i v K→i < l.length∧K (l.set i (some v))
  | [],_,_,_,h=>h.elim
  | _::l,0,_,_,h=>⟨Nat.zero_lt_succ _,h⟩
  | a::l,i+1,v,K,h=>⟨Nat.succ_lt_succ (setL_inv (l:=l) (K:=fun l=>K (a::l)) h).1,(setL_inv (l:=l) (K:=fun l=>K (a::l)) h).2⟩
theorem setL_i:∀{l:List (Option V)} {i:Nat} {v:V} {K:List (Option V)→Prop},i < l.length→K (l.set i (some v))→setL l i v K
  | [],_,_,_,h,_=>absurd h (Nat.not_lt_zero _)
  | _::_,0,_,_,_,k=>k
  | _::l,_+1,_,_,h,k=>setL_i (l:=l) (Nat.lt_of_succ_lt_succ h) k
noncomputable abbrev atS {α:Type} (Q:α→St→Prop) (st:St) (v:α):Prop:=Q v st
noncomputable abbrev boolK (Q:QV) (st:St) (z:Bool):Prop:=Q (.bool z) st
noncomputable abbrev nboolK (Q:QV) (st:St) (z:Bool):Prop:=Q (.bool (!z)) st
noncomputable abbrev testK (Q:QB) (st:St) (z:V):Prop:=opT z (atS Q st)
noncomputable abbrev testR (Q:QB) (r:V) (st:St):Prop:=opT r (atS Q st)
noncomputable abbrev retO {α:Type} (Q:α→St→Prop) (l:List (Option V)) (r:α) (own:Own):Prop:=Q r ⟨l,own⟩
noncomputable abbrev binK2 (op:Operator) (x:V) (Q:QV) (y:V) (st:St):Prop:=opBin op x y (atS Q st)
noncomputable abbrev binK (op:Operator) (B:St→QV→XT→Prop) (Q:QV) (X:XT) (x:V) (st:St):Prop:=B st (binK2 op x Q) X
noncomputable abbrev negK (Q:QV) (x:V) (st:St):Prop:=int1 x fun i=>Q (.int (-i)) st
noncomputable abbrev notK (Q:QV) (x:V) (st:St):Prop:=opT x (nboolK Q st)
noncomputable abbrev ntK (Q:QB) (b:Bool) (st:St):Prop:=Q (!b) st
noncomputable abbrev cmpK2 (op:CmpOp) (x:V) (Q:QV) (y:V) (st:St):Prop:=match st with
  | ⟨l,own⟩=>opCmp own op x y (boolK Q ⟨l,own⟩)
noncomputable abbrev cmpK (op:CmpOp) (B:St→QV→XT→Prop) (Q:QV) (X:XT) (x:V) (st:St):Prop:=B st (cmpK2 op x Q) X
noncomputable abbrev cmpT2 (op:CmpOp) (x:V) (Q:QB) (y:V) (st:St):Prop:=match st with
  | ⟨l,own⟩=>opCmp own op x y (atS Q ⟨l,own⟩)
noncomputable abbrev cmpT (op:CmpOp) (B:St→QV→XT→Prop) (Q:QB) (X:XT) (x:V) (st:St):Prop:=B st (cmpT2 op x Q) X
noncomputable abbrev cmp2D (D:St→QV→XT→Prop) (o2:CmpOp) (y:V) (Q:QB) (X:XT) (st:St) (z:Bool):Prop:=ifB z (D st (cmpT2 o2 y Q) X) (Q false st)
noncomputable abbrev cmp2C (o1 o2:CmpOp) (D:St→QV→XT→Prop) (Q:QB) (X:XT) (x y:V) (st:St):Prop:=match st with
  | ⟨l,own⟩=>opCmp own o1 x y (cmp2D D o2 y Q X ⟨l,own⟩)
noncomputable abbrev cmp2B (o1 o2:CmpOp) (B D:St→QV→XT→Prop) (Q:QB) (X:XT) (x:V) (st:St):Prop:=B st (cmp2C o1 o2 D Q X x) X
noncomputable abbrev iteK {β:Type} (A B:St→(β→St→Prop)→XT→Prop) (Q:β→St→Prop) (X:XT) (r:Bool) (st:St):Prop:=ifB r (A st Q X) (B st Q X)
noncomputable abbrev tupK (Q:QV) (xs:List V) (st:St):Prop:=asn (Nat.ble xs.length LIM) (Q (.tup xs) st)
noncomputable abbrev lstK (Q:QV) (xs:List V) (st:St):Prop:=asn (Nat.ble xs.length LIM) (Q (.list xs) st)
noncomputable abbrev ownlK (Q:QV) (xs:List V) (st:St):Prop:=match st with
  | ⟨l,own⟩=>asn (Nat.ble xs.length LIM) (∀a,Q (.own a) ⟨l,(a,.list xs)::own⟩)
noncomputable abbrev ownd (Q:QV) (st:St):Prop:=match st with
  | ⟨l,own⟩=>∀a,Q (.own a) ⟨l,(a,.dict [])::own⟩
noncomputable abbrev dctK (ks:List (List Nat)) (Q:QV) (st:St) (xs:List V):Prop:=Q (.dict (ks.zip xs)) st
noncomputable abbrev idxK2 (x:V) (Q:QV) (y:V) (st:St):Prop:=match st with
  | ⟨l,own⟩=>opIdx own x y (atS Q ⟨l,own⟩)
noncomputable abbrev idxK (I:St→QV→XT→Prop) (Q:QV) (X:XT) (x:V) (st:St):Prop:=I st (idxK2 x Q) X
noncomputable abbrev idxT2 (x:V) (Q:QB) (y:V) (st:St):Prop:=match st with
  | ⟨l,own⟩=>opIdx own x y (testK Q ⟨l,own⟩)
noncomputable abbrev idxT (I:St→QV→XT→Prop) (Q:QB) (X:XT) (x:V) (st:St):Prop:=I st (idxT2 x Q) X
noncomputable abbrev slcK3 (Q:QV) (x l h:V) (st:St):Prop:=opSlc x l h (atS Q st)
noncomputable abbrev slcK2 (H:St→QV→XT→Prop) (Q:QV) (X:XT) (x l:V) (st:St):Prop:=H st (slcK3 Q x l) X
noncomputable abbrev slcK1 (L H:St→QV→XT→Prop) (Q:QV) (X:XT) (x:V) (st:St):Prop:=L st (slcK2 H Q X x) X
noncomputable abbrev slsK3 (Q:QV) (x l h:V) (st:St):Prop:=opSlcs x l h (atS Q st)
noncomputable abbrev slsK2 (H:St→QV→XT→Prop) (Q:QV) (X:XT) (x l:V) (st:St):Prop:=H st (slsK3 Q x l) X
noncomputable abbrev slsK1 (L H:St→QV→XT→Prop) (Q:QV) (X:XT) (x:V) (st:St):Prop:=L st (slsK2 H Q X x) X
noncomputable def iterW (P:PS→St→Prop):Nat→St→Prop
  | 0,_=>False
  | k+1,st=>P (iterW P k) st
noncomputable abbrev flipK (G:St→PS→Prop) (K:PS) (st:St):Prop:=G st K
noncomputable def forGo (P:V→St→PS→Prop):List V→St→PS→Prop
  | [],st,K=>K st
  | x::r,st,K=>P x st (flipK (forGo P r) K)
noncomputable def loopK (R:PS) (Q:QF) (f:Fl) (st:St):Prop:=match f with
  | .next=>R st
  | .cont=>R st
  | .brk=>Q .next st
  | .ret v=>Q (.ret v) st
noncomputable def seqK (R:PS) (Q:QF) (f:Fl) (st:St):Prop:=match f with
  | .next=>R st
  | f=>Q f st
noncomputable abbrev seqR (P:St→QF→XT→Prop) (Q:QF) (X:XT):QF:=seqK (fun st=>P st Q X) Q
noncomputable def seqC (r:List MS) (S P:St→QF→XT→Prop) (st:St) (Q:QF) (X:XT):Prop:=match r with
  | []=>S st Q X
  | _::_=>S st (seqR P Q X) X
noncomputable def unsetT (st:St):Option Nat→St
  | none=>st
  | some _=>⟨[],st.own⟩
noncomputable abbrev nextK {α:Type} (Q:QF) (_:α) (st:St):Prop:=Q .next st
noncomputable abbrev retK (Q:QF) (v:V) (st:St):Prop:=Q (.ret v) st
noncomputable abbrev setK (t:Tg) (Q:QF) (v:V) (st:St):Prop:=putT st t v (Q .next)
noncomputable abbrev setsK (rev:Bool) (is:List Tg) (Q:QF) (v:V) (st:St):Prop:=tup1 v fun xs=>xs.length=is.length∧ifB rev (putTs is.reverse xs.reverse st (Q .next)) (putTs is xs st (Q .next))
noncomputable abbrev augP (op:Operator) (i:Nat) (old:V) (Q:QF) (v:V) (st:St):Prop:=opAug op old v fun z=>putT st (.loc i) z (Q .next)
noncomputable abbrev augK (op:Operator) (i:Nat) (E:St→QV→XT→Prop) (Q:QF) (X:XT) (st:St) (old:V):Prop:=E st (augP op i old Q) X
noncomputable abbrev whileP (B:St→QF→XT→Prop) (R:PS) (Q:QF) (X:XT) (r:Bool) (st:St):Prop:=ifB r (B st (loopK R Q) X) (Q .next st)
noncomputable abbrev whileK (W:St→QB→XT→Prop) (B:St→QF→XT→Prop) (Q:QF) (X:XT) (R:PS) (st:St):Prop:=W st (whileP B R Q X) X
noncomputable abbrev forB (B:St→QF→XT→Prop) (Q:QF) (X:XT) (K:PS) (st:St):Prop:=B st (loopK K Q) X
noncomputable abbrev forP (i:Nat) (B:St→QF→XT→Prop) (Q:QF) (X:XT) (it:V) (st:St) (K:PS):Prop:=putT st (.loc i) it (forB B Q X K)
noncomputable abbrev forG (P:V→St→PS→Prop) (Q:QF) (st:St) (its:List V):Prop:=forGo P its st (Q .next)
noncomputable abbrev forK (P:V→St→PS→Prop) (Q:QF) (y:V) (st:St):Prop:=ItAt y (forG P Q st)
noncomputable abbrev fortP (is:List Nat) (B:St→QF→XT→Prop) (Q:QF) (X:XT) (it:V) (st:St) (K:PS):Prop:=tup1 it fun xs=>xs.length=is.length∧putTs (is.map .loc) xs st (forB B Q X K)
noncomputable abbrev exitK (Q:QF) (nm:Option Nat) (f:Fl) (st:St):Prop:=Q f (unsetT st nm)
noncomputable abbrev andK (R:St→QB→XT→Prop) (Q:QB) (X:XT) (b:Bool) (st:St):Prop:=ifB b (R st Q X) (Q false st)
noncomputable abbrev orK (R:St→QB→XT→Prop) (Q:QB) (X:XT) (b:Bool) (st:St):Prop:=ifB b (Q true st) (R st Q X)
noncomputable abbrev andV2 (R:St→QV→XT→Prop) (Q:QV) (X:XT) (x:V) (st:St) (t:Bool):Prop:=ifB t (R st Q X) (Q x st)
noncomputable abbrev andV (R:St→QV→XT→Prop) (Q:QV) (X:XT) (x:V) (st:St):Prop:=opT x (andV2 R Q X x st)
noncomputable abbrev orV2 (R:St→QV→XT→Prop) (Q:QV) (X:XT) (x:V) (st:St) (t:Bool):Prop:=ifB t (Q x st) (R st Q X)
noncomputable abbrev orV (R:St→QV→XT→Prop) (Q:QV) (X:XT) (x:V) (st:St):Prop:=opT x (orV2 R Q X x st)
noncomputable abbrev consK2 (Q:QL) (x:V) (xs:List V) (st:St):Prop:=Q (x::xs) st
noncomputable abbrev consK (R:St→QL→XT→Prop) (Q:QL) (X:XT) (x:V) (st:St):Prop:=R st (consK2 Q x) X
noncomputable abbrev compI (W:St→QB→XT→Prop) (E:St→QV→XT→Prop) (cs:List (Option V)) (it:V) (own:Own) (K:Option V→Own→Prop):Prop:=
  W ⟨some it::cs,own⟩ (fun b st2=>ifB b (E st2 (fun y st3=>K (some y) st3.own) NoX) (K none st2.own)) NoX
noncomputable abbrev compK (W:St→QB→XT→Prop) (E:St→QV→XT→Prop) (caps:List Nat) (Q:QV) (x:V) (st:St):Prop:=match st with
  | ⟨l,own⟩=>ItAt x fun its=>compGo (compI W E (capsL ⟨l,own⟩ caps)) its [] own (fun ys own=>Q (.list ys) ⟨l,own⟩)
section
variable (c:Cx) (n:Nat) (T:Tab)
noncomputable abbrev callV (f:Fn) (xs:List V) (st:St) (Q:QV) (X:XT):Prop:=match st with
  | ⟨l,own⟩=>match f with
    | .usr f=>SemCall c n (.ref f) xs own (retO Q l) (retO X l)
    | .bi b=>opBi T own b xs (retO Q l)
noncomputable abbrev callK2 (f:Fn) (Q:QV) (X:XT) (xs:List V) (st:St):Prop:=callV c n T f xs st Q X
noncomputable abbrev callF (E:St→QL→XT→Prop) (Q:QV) (X:XT) (st:St) (f:Addr):Prop:=E st (callK2 c n T (.usr f) Q X) X
noncomputable abbrev callK (E:St→QL→XT→Prop) (Q:QV) (X:XT) (g:V) (st:St):Prop:=lit1 g (CallAt T (callF c n T E Q X st))
noncomputable abbrev methK3 (f:Fn) (first:List V) (Q:QV) (X:XT) (xs:List V) (st:St):Prop:=callV c n T f (first++xs) st Q X
noncomputable abbrev methK2 (E:St→QL→XT→Prop) (Q:QV) (X:XT) (st:St) (f:Fn) (first:List V):Prop:=E st (methK3 c n T f first Q X) X
noncomputable abbrev methK (nm:Mth) (E:St→QL→XT→Prop) (Q:QV) (X:XT) (x:V) (st:St):Prop:=match st with
  | ⟨l,own⟩=>opMeth T own nm x (methK2 c n T E Q X ⟨l,own⟩)
noncomputable abbrev attrK (nm:List Nat) (Q:QV) (x:V) (st:St):Prop:=match st with
  | ⟨l,own⟩=>opAttr T own nm x (atS Q ⟨l,own⟩)
mutual
noncomputable def wpE:ME→St→QV→XT→Prop
  | .loc i,st,Q,_=>getL st i (atS Q st)
  | .glob v,st,Q,_=>Q (.lit v) st
  | .int i,st,Q,_=>Q (.int i) st
  | .str s,st,Q,_=>Q (.str s) st
  | .bool b,st,Q,_=>Q (.bool b) st
  | .non,st,Q,_=>Q .non st
  | .bin op a b,st,Q,X=>wpE a st (binK op (wpE b) Q X) X
  | .neg a,st,Q,X=>wpE a st (negK Q) X
  | .not a,st,Q,X=>wpE a st (notK Q) X
  | .and as,st,Q,X=>wpAndV as st Q X
  | .or as,st,Q,X=>wpOrV as st Q X
  | .cmp op a b,st,Q,X=>wpE a st (cmpK op (wpE b) Q X) X
  | .cmp2 _ _ _ _ _,_,_,_=>False
  | .ite t a b,st,Q,X=>wpT t st (iteK (wpE a) (wpE b) Q X) X
  | .tup es,st,Q,X=>wpEs es st (tupK Q) X
  | .lst es,st,Q,X=>wpEs es st (lstK Q) X
  | .ownl es,st,Q,X=>wpEs es st (ownlK Q) X
  | .ownd,st,Q,_=>ownd Q st
  | .dct ks vs,st,Q,_=>DctAt ks (litVs vs) (dctK ks Q st)
  | .idx a i,st,Q,X=>wpE a st (idxK (wpE i) Q X) X
  | .slc a lo hi,st,Q,X=>wpE a st (slcK1 (wpE lo) (wpE hi) Q X) X
  | .slcs a lo sp,st,Q,X=>wpE a st (slsK1 (wpE lo) (wpE sp) Q X) X
  | .attr o n,st,Q,X=>wpE o st (attrK T n Q) X
  | .call f es,st,Q,X=>wpE f st (callK c n T (wpEs es) Q X) X
  | .bcall b es,st,Q,X=>wpEs es st (callK2 c n T (.bi b) Q X) X
  | .meth o nm es,st,Q,X=>wpE o st (methK c n T nm (wpEs es) Q X) X
  | .frz i,st,Q,_=>frzL st i Q
  | .frzc i e,st,Q,X=>frzcL st i fun st=>wpE e st Q X
  | .comp elt conds caps src,st,Q,X=>wpE src st (compK (wpAnd conds) (wpE elt) caps Q) X
noncomputable def wpT:ME→St→QB→XT→Prop
  | .not a,st,Q,X=>wpT a st (ntK Q) X
  | .and as,st,Q,X=>wpAnd as st Q X
  | .or as,st,Q,X=>wpOr as st Q X
  | .cmp op a b,st,Q,X=>wpE a st (cmpT op (wpE b) Q X) X
  | .cmp2 o1 o2 a b d,st,Q,X=>wpE a st (cmp2B o1 o2 (wpE b) (wpE d) Q X) X
  | .loc i,st,Q,_=>getL st i (testK Q st)
  | .idx a i,st,Q,X=>wpE a st (idxT (wpE i) Q X) X
  | .call f es,st,Q,X=>wpE f st (callK c n T (wpEs es) (testR Q) X) X
  | .bcall b es,st,Q,X=>wpEs es st (callK2 c n T (.bi b) (testR Q) X) X
  | .meth o nm es,st,Q,X=>wpE o st (methK c n T nm (wpEs es) (testR Q) X) X
  | _,_,_,_=>False
noncomputable def wpAnd:List ME→St→QB→XT→Prop
  | [],st,Q,_=>Q true st
  | a::r,st,Q,X=>wpT a st (andK (wpAnd r) Q X) X
noncomputable def wpOr:List ME→St→QB→XT→Prop
  | [],st,Q,_=>Q false st
  | a::r,st,Q,X=>wpT a st (orK (wpOr r) Q X) X
noncomputable def wpAndV:List ME→St→QV→XT→Prop
  | [],_,_,_=>False
  | a::r,st,Q,X=>wpE a st (andV (wpLast r) Q X) X
noncomputable def wpOrV:List ME→St→QV→XT→Prop
  | [],_,_,_=>False
  | a::r,st,Q,X=>wpE a st (orV (wpLast r) Q X) X
noncomputable def wpLast:List ME→St→QV→XT→Prop
  | [],_,_,_=>False
  | a::_,st,Q,X=>wpE a st Q X
noncomputable def wpEs:List ME→St→QL→XT→Prop
  | [],st,Q,_=>Q [] st
  | a::r,st,Q,X=>wpE a st (consK (wpEs r) Q X) X
end
noncomputable def catchT (st:St) (a D:Addr) (nm:Option Nat) (K:PS):Prop:=(∃C ats,(a,.exc false C ats)∈st.own∧T.rse C D=true)∧match nm with
  | none=>K st
  | some i=>putT st (.loc i) (.own a) K
noncomputable abbrev setaK2 (nm:List Nat) (v:V) (Q:QF) (ov:V) (st:St):Prop:=match st with
  | ⟨l,own⟩=>opSetA T own nm v ov (retO Q l .next)
noncomputable abbrev setaK (E:St→QV→XT→Prop) (nm:List Nat) (Q:QF) (X:XT) (v:V) (st:St):Prop:=E st (setaK2 T nm v Q) X
noncomputable abbrev setiK3 (v ov:V) (Q:QF) (iv:V) (st:St):Prop:=match st with
  | ⟨l,own⟩=>opSetI own ov iv v (retO Q l .next)
noncomputable abbrev setiK2 (I:St→QV→XT→Prop) (v:V) (Q:QF) (X:XT) (ov:V) (st:St):Prop:=I st (setiK3 v ov Q) X
noncomputable abbrev setiK (E I:St→QV→XT→Prop) (Q:QF) (X:XT) (v:V) (st:St):Prop:=E st (setiK2 I v Q X) X
noncomputable abbrev augaK3 (op:Operator) (nm:List Nat) (ov old:V) (Q:QF) (v:V) (st:St):Prop:=opAug op old v fun z=>setaK2 T nm z Q ov st
noncomputable abbrev augaK2 (op:Operator) (nm:List Nat) (E:St→QV→XT→Prop) (Q:QF) (X:XT) (ov:V) (st:St) (old:V):Prop:=E st (augaK3 T op nm ov old Q) X
noncomputable abbrev augaK (op:Operator) (nm:List Nat) (E:St→QV→XT→Prop) (Q:QF) (X:XT) (ov:V) (st:St):Prop:=match st with
  | ⟨l,own⟩=>opAttr T own nm ov (augaK2 T op nm E Q X ov ⟨l,own⟩)
noncomputable abbrev raiseK (X:XT) (v:V) (st:St):Prop:=match st with
  | ⟨l,own⟩=>own1 v fun a=>RaiseAt T own (fun own'=>X a ⟨l,own'⟩) a
noncomputable abbrev catchK (H:St→QF→XT→Prop) (D:Addr) (nm:Option Nat) (Q:QF) (a:Addr) (st:St):Prop:=catchT T st a D nm fun st=>H st (exitK Q nm) NoX
mutual
noncomputable def wpS:MS→St→QF→XT→Prop
  | .expr e,st,Q,X=>wpE c n T e st (nextK Q) X
  | .set t e,st,Q,X=>wpE c n T e st (setK t Q) X
  | .sets rev is e,st,Q,X=>wpE c n T e st (setsK rev is Q) X
  | .seta o nm e,st,Q,X=>wpE c n T e st (setaK T (wpE c n T o) nm Q X) X
  | .seti o i e,st,Q,X=>wpE c n T e st (setiK (wpE c n T o) (wpE c n T i) Q X) X
  | .aug op i e,st,Q,X=>getL st i (augK op i (wpE c n T e) Q X st)
  | .auga op o nm e,st,Q,X=>wpE c n T o st (augaK T op nm (wpE c n T e) Q X) X
  | .ite t a b,st,Q,X=>wpT c n T t st (iteK (wpSs a) (wpSs b) Q X) X
  | .while t b,st,Q,X=>∃k,iterW (whileK (wpT c n T t) (wpSs b) Q X) k st
  | .for i src b,st,Q,X=>wpE c n T src st (forK (forP i (wpSs b) Q X) Q) X
  | .fort is src b,st,Q,X=>wpE c n T src st (forK (fortP is (wpSs b) Q X) Q) X
  | .ret e,st,Q,X=>wpE c n T e st (retK Q) X
  | .retn,st,Q,_=>Q (.ret .non) st
  | .raise e,st,Q,X=>wpE c n T e st (raiseK T X) X
  | .try b D nm h,st,Q,_=>wpSs b st Q (catchK T (wpSs h) D nm Q)
noncomputable def wpSs:List MS→St→QF→XT→Prop
  | [],st,Q,_=>Q .next st
  | a::r,st,Q,X=>seqC r (wpS a) (wpSs r) st Q X
end
end
theorem sizeLine_is:sizeLine=LIM:=sizeLine_eq
theorem toStr_append (a b:List Nat):toStr a++toStr b=toStr (a++b):=congrArg Str.mk (by simp [toStr])
theorem toStr_length (a:List Nat):(toStr a).length=a.length:=List.size_toArray ..
theorem toStr_cps (a:List Nat):(toStr a).cps.toList=a:=rfl
theorem toStr_inj {a b:List Nat}:toStr a=toStr b ↔ a=b:=⟨fun q=>congrArg (fun w:Str=>w.cps.toList) q,fun q=>congrArg _ q⟩
theorem isStrOf_toStr (k:List Nat) (t:Tok):Value.isStrOf (toStr k) (.str (toStr k) t)=true:=beq_self_eq_true (toStr k)
theorem isStrOf_ne {k k':List Nat} (h:k'≠k) (t:Tok):Value.isStrOf (toStr k) (.str (toStr k') t)=false:=beq_eq_false_iff_ne.mpr fun q=>h (toStr_inj.mp q)
section
variable {H:Params} {P:Addr→Obj→Prop} {vs ws:List Value} {xs ys:List V} {v:Value} {y:V}
theorem VRs.length (h:VRs H P vs xs):vs.length=xs.length:=
  VRs.rec (motive_1:=fun zz zz zz=>True) (motive_2:=fun v x zz=>v.length=x.length) (motive_3:=fun zz zz zz=>True) trivial (fun zz=>trivial) (fun zz zz=>trivial) (fun zz zz=>trivial) (fun zz zz zz zz zz=>trivial) (fun zz zz zz zz zz=>trivial) (fun zz zz zz zz=>trivial) (fun zz=>trivial) (fun zz=>trivial) (fun zz=>trivial) rfl (fun zz zz zz b=>congrArg (·+1) b) trivial (fun zz zz zz zz zz zz=>trivial) h
theorem VRs.cons? (h:VRs H P vs (y::xs)):∃v ws,vs=v::ws∧VR H P v y∧VRs H P ws xs:=by cases h with | cons a b=>exact ⟨_,_,rfl,a,b⟩
theorem VRs.nil? (h:VRs H P vs []):vs=[]:=by cases h;rfl
theorem VRs.append (h:VRs H P vs xs) (k:VRs H P ws ys):VRs H P (vs++ws) (xs++ys):=by
  induction xs generalizing vs with
  | nil=>rw [h.nil?];exact k
  | cons v vs ih=>obtain ⟨v,vs,rfl,a,b⟩:=h.cons?;exact .cons a (ih b)
theorem VRs.get (h:VRs H P vs xs) {i:Nat} {x:V} (e:xs[i]?=some x):∃v,vs[i]?=some v∧VR H P v x:=by
  induction xs generalizing vs i with
  | nil=>cases e
  | cons z xs ih=>
    obtain ⟨v,vs,rfl,a,b⟩:=h.cons?
    induction i using Nat.casesOn with
    | zero=>cases e;exact ⟨v,rfl,a⟩
    | succ i=>exact ih b e
theorem VRs.take (h:VRs H P vs xs) (k:Nat):VRs H P (vs.take k) (xs.take k):=by
  induction k generalizing vs xs with
  | zero=>exact .nil
  | succ k ih=>induction xs using List.casesOn with
    | nil=>rw [h.nil?];exact .nil
    | cons a r=>obtain ⟨v,vs,rfl,a,b⟩:=h.cons?;exact .cons a (ih b)
theorem VRs.drop (h:VRs H P vs xs) (k:Nat):VRs H P (vs.drop k) (xs.drop k):=by
  induction k generalizing vs xs with
  | zero=>exact h
  | succ k ih=>induction xs using List.casesOn with
    | nil=>rw [h.nil?];exact .nil
    | cons a r=>obtain ⟨v,vs,rfl,a,b⟩:=h.cons?;exact ih b
theorem VRs.rep (h:VRs H P vs xs) (k:Nat):VRs H P (List.replicate k vs).flatten (List.replicate k xs).flatten:=by
  induction k with
  | zero=>exact .nil
  | succ k ih=>exact h.append ih
theorem VRs.reverse (h:VRs H P vs xs):VRs H P vs.reverse xs.reverse:=by
  induction xs generalizing vs with
  | nil=>rw [h.nil?];exact .nil
  | cons a r ih=>obtain ⟨v,vs,rfl,a,b⟩:=h.cons?;rw [List.reverse_cons,List.reverse_cons];exact (ih b).append (.cons a .nil)
theorem VRs.set (r0:VR H P v y) (h:VRs H P vs xs) (i:Nat):VRs H P (vs.set i v) (xs.set i y):=by
  induction i generalizing vs xs with
  | zero=>induction xs using List.casesOn with
    | nil=>rw [h.nil?];exact .nil
    | cons a r=>obtain ⟨v,vs,rfl,a,b⟩:=h.cons?;exact .cons r0 b
  | succ i ih=>induction xs using List.casesOn with
    | nil=>rw [h.nil?];exact .nil
    | cons a r=>obtain ⟨v,vs,rfl,a,b⟩:=h.cons?;exact .cons a (ih b)
noncomputable def VR.Inv (H:Params) (P:Addr→Obj→Prop) (v:Value) (y:V):Prop:=match y with
  | .non=>v=.none
  | .bool b=>v=.bool b
  | .int i=>∃t,v=.int i t
  | .str s=>∃t,v=.str (toStr s) t
  | .list xs=>∃a o vs n,v=.ref a∧P a o∧o.cls=.type "list"∧o.data=.seq vs.toArray n∧VRs H P vs xs
  | .tup xs=>∃a o vs n,v=.ref a∧P a o∧o.cls=.type "tuple"∧o.data=.seq vs.toArray n∧VRs H P vs xs
  | .dict kvs=>∃a es n,v=.ref a∧(a == sysModules)=false∧P a (dictOf es n)∧ERs H P es kvs
  | .rng n=>∃a t u w,v=.ref a∧P a { cls:=.type "range",data:=.fields #[.int 0 t,.int n u,.int 1 w] }
  | .own a=>v=.ref a
  | .lit a=>v=a
  | .cell _=>False
theorem VR.inv (r:VR H P v y):VR.Inv H P v y:=
  VR.casesOn (motive_1:=fun v y zz=>VR.Inv H P v y) r rfl (fun zz=>rfl) (fun zz t=>⟨t,rfl⟩) (fun zz t=>⟨t,rfl⟩) (fun p q d r=>⟨_,_,_,_,rfl,p,q,d,r⟩) (fun p q d r=>⟨_,_,_,_,rfl,p,q,d,r⟩) (fun p q r=>⟨_,_,_,rfl,p,q,r⟩) (fun p=>⟨_,_,_,_,rfl,p⟩) (fun zz=>rfl) (fun zz=>rfl)
theorem VR.int? {i:Int} (r:VR H P v (.int i)):∃t,v=.int i t:=r.inv
theorem VR.str? {i:List Nat} (r:VR H P v (.str i)):∃t,v=.str (toStr i) t:=r.inv
theorem VR.bool? {i:Bool} (r:VR H P v (.bool i)):v=.bool i:=r.inv
theorem VR.non? (r:VR H P v .non):v=.none:=r.inv
theorem VR.own? {a:Addr} (r:VR H P v (.own a)):v=.ref a:=r.inv
theorem VR.lit? {a:Value} (r:VR H P v (.lit a)):v=a:=r.inv
theorem VR.noCell (r:VR H P v y):∀a,y≠.cell a:=fun a e=>by rw [e] at r;exact r.inv
theorem VR.list? (r:VR H P v (.list xs)):∃a o vs n,v=.ref a∧P a o∧o.cls=.type "list"∧o.data=.seq vs.toArray n∧VRs H P vs xs:=r.inv
theorem VR.tup? (r:VR H P v (.tup xs)):∃a o vs n,v=.ref a∧P a o∧o.cls=.type "tuple"∧o.data=.seq vs.toArray n∧VRs H P vs xs:=r.inv
theorem VR.dict? {kvs:List (List Nat×V)} (r:VR H P v (.dict kvs)):∃a es n,v=.ref a∧(a == sysModules)=false∧P a (dictOf es n)∧ERs H P es kvs:=r.inv
theorem VR.rng? {n:Nat} (r:VR H P v (.rng n)):∃a t u w,v=.ref a∧P a { cls:=.type "range",data:=.fields #[.int 0 t,.int n u,.int 1 w] }:=r.inv
theorem int1_y {G:Int→Prop} (h:int1 y G):∃i,y=.int i∧G i:=
  V.casesOn (motive_1:=fun y=>int1 y G→∃i,y=.int i∧G i) y (fun h=>h.elim) (fun zz h=>h.elim) (fun i h=>⟨i,rfl,h⟩) (fun zz h=>h.elim) (fun zz h=>h.elim) (fun zz h=>h.elim) (fun zz h=>h.elim) (fun zz h=>h.elim) (fun zz h=>h.elim) (fun zz h=>h.elim) (fun zz h=>h.elim) h
theorem str1_y {G:List Nat→Prop} (h:str1 y G):∃i,y=.str i∧G i:=
  V.casesOn (motive_1:=fun y=>str1 y G→∃i,y=.str i∧G i) y (fun h=>h.elim) (fun zz h=>h.elim) (fun zz h=>h.elim) (fun i h=>⟨i,rfl,h⟩) (fun zz h=>h.elim) (fun zz h=>h.elim) (fun zz h=>h.elim) (fun zz h=>h.elim) (fun zz h=>h.elim) (fun zz h=>h.elim) (fun zz h=>h.elim) h
theorem own1_y {G:Addr→Prop} (h:own1 y G):∃i,y=.own i∧G i:=
  V.casesOn (motive_1:=fun y=>own1 y G→∃i,y=.own i∧G i) y (fun h=>h.elim) (fun zz h=>h.elim) (fun zz h=>h.elim) (fun zz h=>h.elim) (fun zz h=>h.elim) (fun zz h=>h.elim) (fun zz h=>h.elim) (fun zz h=>h.elim) (fun i h=>⟨i,rfl,h⟩) (fun zz h=>h.elim) (fun zz h=>h.elim) h
theorem lit1_y {G:Value→Prop} (h:lit1 y G):∃i,y=.lit i∧G i:=
  V.casesOn (motive_1:=fun y=>lit1 y G→∃i,y=.lit i∧G i) y (fun h=>h.elim) (fun zz h=>h.elim) (fun zz h=>h.elim) (fun zz h=>h.elim) (fun zz h=>h.elim) (fun zz h=>h.elim) (fun zz h=>h.elim) (fun zz h=>h.elim) (fun zz h=>h.elim) (fun i h=>⟨i,rfl,h⟩) (fun zz h=>h.elim) h
theorem list1_inv {G:List V→Prop} (h:list1 y G):∃xs,y=.list xs∧G xs:=
  V.casesOn (motive_1:=fun y=>list1 y G→∃xs,y=.list xs∧G xs) y (fun h=>h.elim) (fun zz h=>h.elim) (fun zz h=>h.elim) (fun zz h=>h.elim) (fun i h=>⟨i,rfl,h⟩) (fun zz h=>h.elim) (fun zz h=>h.elim) (fun zz h=>h.elim) (fun zz h=>h.elim) (fun zz h=>h.elim) (fun zz h=>h.elim) h
theorem tup1_inv {G:List V→Prop} (h:tup1 y G):∃xs,y=.tup xs∧G xs:=
  V.casesOn (motive_1:=fun y=>tup1 y G→∃xs,y=.tup xs∧G xs) y (fun h=>h.elim) (fun zz h=>h.elim) (fun zz h=>h.elim) (fun zz h=>h.elim) (fun zz h=>h.elim) (fun i h=>⟨i,rfl,h⟩) (fun zz h=>h.elim) (fun zz h=>h.elim) (fun zz h=>h.elim) (fun zz h=>h.elim) (fun zz h=>h.elim) h
theorem isN_y {G:Prop} (h:y.isN G):y=.non∧G:=
  V.casesOn (motive_1:=fun y=>y.isN G→y=.non∧G) y (fun h=>⟨rfl,h⟩) (fun zz h=>h.elim) (fun zz h=>h.elim) (fun zz h=>h.elim) (fun zz h=>h.elim) (fun zz h=>h.elim) (fun zz h=>h.elim) (fun zz h=>h.elim) (fun zz h=>h.elim) (fun zz h=>h.elim) (fun zz h=>h.elim) h
theorem int1_inv (r:VR H P v y) {G:Int→Prop} (h:int1 y G):∃i t,v=.int i t∧G i:=by
  obtain ⟨i,rfl,h⟩:=int1_y h
  obtain ⟨t,e⟩:=r.int?
  exact ⟨_,t,e,h⟩
theorem str1_inv (r:VR H P v y) {G:List Nat→Prop} (h:str1 y G):∃i t,v=.str (toStr i) t∧y=.str i∧G i:=by
  obtain ⟨i,rfl,h⟩:=str1_y h
  obtain ⟨t,e⟩:=r.str?
  exact ⟨_,t,e,rfl,h⟩
theorem own1_inv (r:VR H P v y) {G:Addr→Prop} (h:own1 y G):∃a,v=.ref a∧y=.own a∧G a:=by
  obtain ⟨i,rfl,h⟩:=own1_y h
  exact ⟨_,r.own?,rfl,h⟩
@[elab_as_elim] theorem int1_el {W:Value→Prop} (r:VR H P v y) {G:Int→Prop} (h:int1 y G) (k:∀i t,G i→W (.int i t)):W v:=by
  obtain ⟨i,t,rfl,h⟩:=int1_inv r h
  exact k _ _ h
@[elab_as_elim] theorem str1_el {W:Value→Prop} (r:VR H P v y) {G:List Nat→Prop} (h:str1 y G) (k:∀i t,G i→W (.str (toStr i) t)):W v:=by
  obtain ⟨i,t,rfl,zz,h⟩:=str1_inv r h
  exact k _ _ h
@[elab_as_elim] theorem own1_el {W:Value→Prop} (r:VR H P v y) {G:Addr→Prop} (h:own1 y G) (k:∀a,G a→W (.ref a)):W v:=by
  obtain ⟨i,rfl,zz,h⟩:=own1_inv r h
  exact k _ h
@[elab_as_elim] theorem int2_el {W:Value→Value→Prop} {v2:Value} {z:V} (r:VR H P v y) (r2:VR H P v2 z) {G:Int→Int→Prop} (h:int2 y z G) (k:∀i t j u,G i j→W (.int i t) (.int j u)):W v v2:=
  int1_el (W:=fun v=>W v v2) r h fun i t h=>int1_el (W:=W (.int i t)) r2 h fun j u h=>k i t j u h
@[elab_as_elim] theorem VR.int_el {W:Value→Prop} {i:Int} (r:VR H P v (.int i)) (k:∀t,W (.int i t)):W v:=by obtain ⟨t,e⟩:=r.int?;rw [e];exact k t
@[elab_as_elim] theorem VR.str_el {W:Value→Prop} {i:List Nat} (r:VR H P v (.str i)) (k:∀t,W (.str (toStr i) t)):W v:=by obtain ⟨t,e⟩:=r.str?;rw [e];exact k t
theorem lit1_inv (r:VR H P v y) {G:Value→Prop} (h:lit1 y G):y=.lit v∧G v:=by
  obtain ⟨i,rfl,h⟩:=lit1_y h
  obtain rfl:=r.lit?
  exact ⟨rfl,h⟩
theorem isN_inv (r:VR H P v y) {G:Prop} (h:y.isN G):v=.none∧y=.non∧G:=by
  obtain ⟨rfl,h⟩:=isN_y h
  exact ⟨r.non?,rfl,h⟩
theorem int2_inv {v2:Value} {z:V} (r:VR H P v y) (r2:VR H P v2 z) {G:Int→Int→Prop} (h:int2 y z G):∃i t j u,v=.int i t∧v2=.int j u∧G i j:=by
  obtain ⟨i,t,e,h⟩:=int1_inv r h
  obtain ⟨j,u,e2,h⟩:=int1_inv r2 h
  exact ⟨i,t,j,u,e,e2,h⟩
end
section
variable {c:Cx} {n:Nat} {T:Tab} {fz fz0:List (Addr×Obj)} {F:Fm} {st:St} {m:Str→Option Value} {oc kp:List (Addr×Obj)} {s:Shared} {E:PE} {v:Value} {y:V} {xs:List V}
theorem Now.toks (x:Now c F st fz s) (t:Nat):Now c F st fz { s with toks:=t }:=match x with | .mk x=>.mk (x.toks t)
theorem Now.keeps (x:Now c F st fz s) {h':Heap} (t:Nat) (hk:∀b o,s.heap.get? b=some o→h'.get? b=some o):Now c F st fz { s with heap:=h',toks:=t }:=match x with | .mk x=>.mk (x.keeps t hk)
theorem Now.at (x:Now c F st fz s) {a:Addr} {o:Obj} (h:At c fz a o):s.heap.get? a=some o:=match x with | .mk x=>x.at h
theorem Now.KIn (x:Now c F st fz s):c.K.In s.heap:=match x with | .mk x=>c.X.keeps x.fr.keep
theorem Now.isList (x:Now c F st fz s) {a:Addr} {o:Obj} {vs:List Value} {k:Nat} (p:At c fz a o) (e1:o.cls=.type "list") (e2:o.data=.seq vs.toArray k):s.heap.IsList a vs.toArray:=⟨o,x.at p,e1,k,e2⟩
theorem Now.isTup (x:Now c F st fz s) {a:Addr} {o:Obj} {vs:List Value} {k:Nat} (p:At c fz a o) (e1:o.cls=.type "tuple") (e2:o.data=.seq vs.toArray k):IsTup s.heap a vs.toArray:=⟨o,x.at p,e1,k,e2⟩
theorem Now.list? (x:Now c F st fz s) (r:c.R fz v (.list xs)):∃a vs,v=.ref a∧s.heap.IsList a vs.toArray∧c.Rs fz vs xs:=by
  obtain ⟨a,o,vs,n,e,p1,p2,p3,p4⟩:=r.list?
  exact ⟨a,vs,e,x.isList p1 p2 p3,p4⟩
theorem Now.tup? (x:Now c F st fz s) (r:c.R fz v (.tup xs)):∃a vs,v=.ref a∧IsTup s.heap a vs.toArray∧c.Rs fz vs xs:=by
  obtain ⟨a,o,vs,n,e,p1,p2,p3,p4⟩:=r.tup?
  exact ⟨a,vs,e,x.isTup p1 p2 p3,p4⟩
@[elab_as_elim] theorem Now.list_el {W:Value→Prop} (x:Now c F st fz s) (r:c.R fz v (.list xs)) (k:∀a vs,s.heap.IsList a vs.toArray→c.Rs fz vs xs→W (.ref a)):W v:=by
  obtain ⟨a,vs,e,h1,h2⟩:=x.list? r
  rw [e];exact k a vs h1 h2
@[elab_as_elim] theorem Now.tup_el {W:Value→Prop} (x:Now c F st fz s) (r:c.R fz v (.tup xs)) (k:∀a vs,IsTup s.heap a vs.toArray→c.Rs fz vs xs→W (.ref a)):W v:=by
  obtain ⟨a,vs,e,h1,h2⟩:=x.tup? r
  rw [e];exact k a vs h1 h2
theorem Now.ownList (x:Now c F st fz s) {d:Addr} (hg:(d,.list xs)∈st.own):∃vs,s.heap.IsList d vs.toArray∧c.Rs fz vs xs:=by
  obtain ⟨x⟩:=x
  obtain ⟨rfl,hx,_⟩:=x.ow.find (.of_mem hg)
  cases hx.list? with
  | mk p2=>exact ⟨_,⟨_,x.own (List.mem_append_right _ (.head _)),rfl,_,rfl⟩,p2⟩
theorem Now.listy (x:Now c F st fz s) (l:Listy st.own xs y) (r:c.R fz v y):∃a vs,v=.ref a∧s.heap.IsList a vs.toArray∧c.Rs fz vs xs:=by
  cases l with
  | frz=>exact x.list? r
  | own h=>
    obtain ⟨vs,h1,h2⟩:=x.ownList h
    exact ⟨_,vs,r.own?,h1,h2⟩
theorem Now.here (x:Now c F st fz s) (sub:Sub fz0 fz) {Q:QV} {t:Nat} (r:c.R fz v y) (h:Q y st):PostV c F fz0 Q v { s with toks:=t }:=.mk (x.toks t) sub r h
theorem Now.here' (x:Now c F st fz s) (sub:Sub fz0 fz) {Q:QV} (r:c.R fz v y) (h:Q y st):PostV c F fz0 Q v s:=.mk x sub r h
theorem Sit.pushed (x:Sit c F st m oc fz kp s) (sub:Sub fz0 fz) {Q:QV} {D:Addr} {o:Obj} {h':Heap} {t:Nat} (F':Fr c.g F.env.locals h' m) (N':News c.g F.env.locals h' ((D,o)::(oc++(fz++kp)))) (hD:∀p∈oc++(fz++kp),p.1 < D)
    (r:c.R ((D,o)::fz) (.ref D) y) (h:Q y st):PostV c F fz0 Q (.ref D) { s with heap:=h',toks:=t }:=
  .mk (.mk (x.pushK t F' N' hD)) sub.cons r h
theorem bits_lt {a:Int} {k:Nat} (h:a.natAbs < 2 ^ k):Builtin.Int.intBits a≤k:=by
  unfold Builtin.Int.intBits
  by_cases h0:a=0
  · subst h0;exact Nat.zero_le _
  · rw [if_neg (by simpa using h0)]
    exact (Nat.log2_lt (by lia)).mpr h
theorem mulOk {a b:Int} (h1:a.natAbs < 2 ^ 2000000) (h2:b.natAbs < 2 ^ 2000):IntMulOk a b:=by
  have e1:=bits_lt h1
  have e2:=bits_lt h2
  intro h
  have:=of_decide_eq_true (Bool.and_eq_true_iff.mp h).2
  have e3:bitsLine=134217728:=by decide
  rw [e3] at this;lia
theorem powOk {a b:Int} (h1:a=2∨a=10) (h2:0 < b) (h3:b < 1000):¬ Builtin.Int.intTooBig (((Builtin.Int.intBits a:Nat):Int) * b)=true:=by
  have e3:bitsLine=134217728:=by decide
  have e4:Builtin.Int.intBits a≤4:=by rcases h1 with rfl | rfl<;>decide
  intro h
  have h:=of_decide_eq_true h
  rw [e3] at h
  have:((Builtin.Int.intBits a:Nat):Int) * b≤4 * 1000:=Int.mul_le_mul (by lia) (by lia) (by lia) (by lia)
  lia
theorem divOk {a b:Int} (h:b.natAbs < 2 ^ 64) (h0:b≠0):Builtin.divisionGoesByPylong a b=false:=by
  have:=bits_lt h
  unfold Builtin.Int.intBits at this
  unfold Builtin.divisionGoesByPylong
  rw [if_neg (by simpa using h0)] at this
  have hb:(if (b == 0)=true then 0 else b.natAbs.log2 / 30+1)≤64:=by split<;>lia
  exact Bool.and_eq_false_iff.mpr (.inl (decide_eq_false (Nat.not_lt.mpr (Nat.le_trans hb (by decide)))))
theorem opAdd_snd (x:Now c F st fz s) (sub:Sub fz0 fz) {va vb:Value} {a b:V} {Q:QV} (ra:c.R fz va a) (rb:c.R fz vb b)
    (h:opAdd a b fun z=>Q z st):wpAny c.M F.A (binaryOp .Add va vb) (PostV c F fz0 Q) E s:=by
  revert ra h
  refine V.casesOn a (fun zz h=>h.elim) (fun zz zz h=>h.elim) (fun zi ra h=>?_) (fun zi ra h=>?_) (fun zi ra h=>?_) (fun zi ra h=>?_) (fun zz zz h=>h.elim) (fun zz zz h=>h.elim) (fun zz zz h=>h.elim) (fun zz zz h=>h.elim) (fun zz zz h=>h.elim)
  · obtain ⟨t,rfl⟩:=ra.int?
    obtain ⟨j,u,rfl,h⟩:=int1_inv rb h
    exact P.add_int (x.here sub (.int _ _) h)
  · obtain ⟨t,rfl⟩:=ra.str?
    obtain ⟨j,u,rfl,_,h⟩:=str1_inv rb h
    refine SB.add (fun t' k=>?_) (by rw [toStr_length,toStr_length,sizeLine_is];exact h.1)
    rw [toStr_append]
    exact x.here sub (.str _ _) h.2
  · obtain ⟨ys,rfl,h⟩:=list1_inv h
    obtain ⟨a1,v1,rfl,l1,r1⟩:=x.list? ra
    obtain ⟨a2,v2,rfl,l2,r2⟩:=x.list? rb
    obtain ⟨x⟩:=x
    exact add_lists x.fr x.nw l1 l2 (fun h' F' N'=>x.pushed sub F' N' x.size (.list (.inr (.head _)) rfl rfl ((r1.append r2).up Sub.refl.cons)) h.2) (by rw [r1.length,r2.length,sizeLine_is];exact h.1)
  · obtain ⟨ys,rfl,h⟩:=tup1_inv h
    have ra0:=ra
    have rb0:=rb
    obtain ⟨a1,v1,rfl,l1,r1⟩:=x.tup? ra
    obtain ⟨a2,v2,rfl,l2,r2⟩:=x.tup? rb
    have hz:v1.toArray.size+v2.toArray.size≤16384:=by rw [List.size_toArray,List.size_toArray,r1.length,r2.length];exact h.1
    obtain ⟨x⟩:=x
    induction v1 using List.casesOn with
    | nil=>cases r1;exact kde_addT0 x.fr x.nw l1 l2 rfl hz ((Now.mk x).here' sub rb0 h.2)
    | cons w1 v1=>
      induction v2 using List.casesOn with
      | nil=>
        cases r2
        exact kde_addT1 x.fr x.nw l1 l2 (by simp) rfl hz ((Now.mk x).here' sub ra0 (by have:=h.2;rwa [List.append_nil] at this))
      | cons w2 v2=>
        refine kde_addT x.fr x.nw l1 l2 (by simp) (by simp) hz rfl fun D h' F' N' hD=>?_
        exact x.pushed sub F' N' hD (.tup (.inr (.head _)) rfl rfl (by simpa using (r1.append r2).up Sub.refl.cons)) h.2
theorem opMul_snd (x:Now c F st fz s) (sub:Sub fz0 fz) {va vb:Value} {a b:V} {Q:QV} (ra:c.R fz va a) (rb:c.R fz vb b)
    (h:opMul a b fun z=>Q z st):wpAny c.M F.A (binaryOp .Mult va vb) (PostV c F fz0 Q) E s:=by
  revert ra h
  refine V.casesOn a (fun zz h=>h.elim) (fun zz zz h=>h.elim) (fun zi ra h=>?_) (fun zz zz h=>h.elim) (fun zi ra h=>?_) (fun zz zz h=>h.elim) (fun zz zz h=>h.elim) (fun zz zz h=>h.elim) (fun zz zz h=>h.elim) (fun zz zz h=>h.elim) (fun zz zz h=>h.elim)
  · obtain ⟨t,rfl⟩:=ra.int?
    obtain ⟨j,u,rfl,h⟩:=int1_inv rb h
    exact P.mul_int (x.here sub (.int _ _) h.2.2) (mulOk h.1 h.2.1)
  · obtain ⟨j,u,rfl,h1,h2,h3,h4⟩:=int1_inv rb h
    obtain ⟨a1,v1,rfl,l1,r1⟩:=x.list? ra
    obtain ⟨x⟩:=x
    refine KMa.mul x.fr x.nw l1 (by lia) (by lia) ?_ rfl fun D h' F' N' hD=>x.pushed sub F' N' hD (.list (.inr (.head _)) rfl rfl ((r1.rep _).up Sub.refl.cons)) h4
    rw [r1.length]
    exact Nat.mul_le_mul h3 (Int.toNat_le.mpr h2)
theorem opBin_snd (x:Now c F st fz s) (sub:Sub fz0 fz) {op:Operator} {va vb:Value} {a b:V} {Q:QV} (ra:c.R fz va a) (rb:c.R fz vb b)
    (h:opBin op a b fun z=>Q z st):wpAny c.M F.A (binaryOp op va vb) (PostV c F fz0 Q) E s:=by
  cases op with
  | Add=>exact opAdd_snd x sub ra rb h
  | Mult=>exact opMul_snd x sub ra rb h
  | Sub=>obtain ⟨i,t,j,u,rfl,rfl,h⟩:=int2_inv ra rb h;exact P.sub_int (x.here sub (.int _ _) h)
  | FloorDiv=>obtain ⟨i,t,j,u,rfl,rfl,h⟩:=int2_inv ra rb h;exact PyProof.Rows.floordiv_int h.1 (x.here sub (.int _ _) h.2.2) (.inl (divOk h.2.1 h.1))
  | Mod=>obtain ⟨i,t,j,u,rfl,rfl,h⟩:=int2_inv ra rb h;exact PyProof.Rows.mod_int' h.1 (x.here sub (.int _ _) h.2)
  | Pow=>obtain ⟨i,t,j,u,rfl,rfl,h1,h2,h3,h⟩:=int2_inv ra rb h;exact AutoIntOps.pow_4 (by lia) (by simp;lia) (by rcases h1 with rfl | rfl<;>decide) (by rcases h1 with rfl | rfl<;>decide) (powOk h1 h2 h3) (x.here sub (.int _ _) h)
  | _=>exact h.elim
theorem opAug_snd (x:Now c F st fz s) (sub:Sub fz0 fz) {op:Operator} {va vb:Value} {a b:V} {Q:QV} (ra:c.R fz va a) (rb:c.R fz vb b)
    (h:opAug op a b fun z=>Q z st):wpAny c.M F.A (inplaceOp op va vb) (PostV c F fz0 Q) E s:=by
  cases op with
  | Add=>obtain ⟨i,t,j,u,rfl,rfl,h⟩:=int2_inv ra rb h;exact PySem.P.iadd_int (x.here sub (.int _ _) h)
  | Sub=>obtain ⟨i,t,j,u,rfl,rfl,h⟩:=int2_inv ra rb h;exact PySem.P.isub_int (x.here sub (.int _ _) h)
  | _=>exact h.elim
theorem bind_some {α β:Type} {x:Option α} {f:α→Option β} {b:β} (h:x.bind f=some b):∃a,x=some a∧f a=some b:=Option.bind_eq_some_iff.mp h
theorem map_some {α β:Type} {x:Option α} {f:α→β} {b:β} (h:x.map f=some b):∃a,x=some a∧f a=b:=Option.map_eq_some_iff.mp h
theorem got {α:Type} {P:α→Prop} {a d:α} (e:some a=some d) (h:P a):P d:=Option.some.inj e▸h
theorem reads_one (x:Now c F st fz s) {v:Value} {y:V} (r:c.R fz v y):∀d,V.pd y=some d→∃as,Reads s.heap v d as:=
  VR.rec (motive_1:=fun v y zz=>∀d,V.pd y=some d→∃as,Reads s.heap v d as) (motive_2:=fun v y zz=>∀d,V.pds y=some d→∃as,ReadsAll s.heap v d as) (motive_3:=fun zz zz zz=>True)
    (fun d e=>got (P:=fun d=>∃as,Reads s.heap _ d as) e ⟨_,.none⟩) (fun b zz e=>got (P:=fun d=>∃as,Reads s.heap _ d as) e ⟨_,.bool b⟩) (fun i t zz e=>got (P:=fun d=>∃as,Reads s.heap _ d as) e ⟨_,.int i t⟩) (fun y t zz e=>got (P:=fun d=>∃as,Reads s.heap _ d as) e ⟨_,.str _ t⟩)
    (fun p1 p2 p3 zz ih zz e=>by obtain ⟨ds,q,rfl⟩:=map_some e;obtain ⟨as,r⟩:=ih _ q;exact ⟨_,reads_list_at (x.at p1) p2 p3 r⟩)
    (fun p1 p2 p3 zz ih zz e=>by obtain ⟨ds,q,rfl⟩:=map_some e;obtain ⟨as,r⟩:=ih _ q;exact ⟨_,reads_tuple_at (x.at p1) p2 p3 r⟩)
    (fun zz zz zz zz zz e=>nomatch e) (fun zz zz e=>nomatch e) (fun zz zz e=>nomatch e) (fun zz zz e=>nomatch e)
    (fun d e=>got (P:=fun d=>∃as,ReadsAll s.heap _ d as) e ⟨_,.nil⟩)
    (fun zz zz i1 i2 zz e=>by obtain ⟨d,q,e⟩:=bind_some e;obtain ⟨ds,q2,rfl⟩:=map_some e;obtain ⟨as,a1⟩:=i1 _ q;obtain ⟨bs,a2⟩:=i2 _ q2;exact ⟨_,.cons a1 a2⟩)
    trivial (fun zz zz zz zz zz zz=>trivial) r
theorem eqAsk_snd (x:Now c F st fz s) (sub:Sub fz0 fz) (ok:F.Ok c n) {va vb:Value} {a b:V} {Q:QV} (ra:c.R fz va a) (rb:c.R fz vb b) (neg:Bool)
    (h:eqAsk a b fun z=>Q (.bool (if neg then !z else z)) st):wpAny c.M F.A (compareOp (if neg then .NotEq else .Eq) va vb) (PostV c F fz0 Q) E s:=by
  obtain ⟨p,q,e1,e2,h1,h2,h3⟩:=h
  obtain ⟨as,r1⟩:=reads_one x ra _ e1
  obtain ⟨bs,r2⟩:=reads_one x rb _ e2
  have hu:F.A.units+200 < cLine:=by have:=ok.units;lia
  cases neg
  · exact eq_dataH r1 r2 h1 h2 (by lia) (x.here' sub (.bool _) h3)
  · exact ne_dataH r1 r2 h1 h2 (by lia) (x.here' sub (.bool _) h3)
theorem bneD {α:Type} [DecidableEq α] [BEq α] [LawfulBEq α] (a b:α):(a != b)=!decide (a=b):=by rw [Bool.eq_iff_iff];simp
theorem beqD {α:Type} [DecidableEq α] [BEq α] [LawfulBEq α] (a b:α):(a == b)=decide (a=b):=by rw [Bool.eq_iff_iff];simp
theorem opEq_snd (x:Now c F st fz s) (sub:Sub fz0 fz) (ok:F.Ok c n) {va vb:Value} {a b:V} {Q:QV} (ra:c.R fz va a) (rb:c.R fz vb b)
    (h:opEq a b fun z=>Q (.bool z) st):wpAny c.M F.A (compareOp .Eq va vb) (PostV c F fz0 Q) E s:=by
  revert ra h
  refine V.casesOn a (fun zz h=>h.elim) (fun zi ra h=>?_) (fun zi ra h=>?_) (fun zi ra h=>?_) (fun zi ra h=>?_) (fun zi ra h=>?_) (fun zz zz h=>h.elim) (fun zz zz h=>h.elim) (fun zz zz h=>h.elim) (fun zz zz h=>h.elim) (fun zz zz h=>h.elim)
  · revert rb h
    refine V.casesOn b (fun zz h=>h.elim) (fun zi rb h=>?_) (fun zz zz h=>h.elim) (fun zz zz h=>h.elim) (fun zz zz h=>h.elim) (fun zz zz h=>h.elim) (fun zz zz h=>h.elim) (fun zz zz h=>h.elim) (fun zz zz h=>h.elim) (fun zz zz h=>h.elim) (fun zz zz h=>h.elim)
    rw [ra.bool?,rb.bool?];exact eq_bool (x.here' sub (.bool _) h)
  · obtain ⟨t,rfl⟩:=ra.int?
    obtain ⟨j,u,rfl,h⟩:=int1_inv rb h
    exact P.eq_int (x.here' sub (.bool _) (by rw [beqD];exact h))
  · obtain ⟨t,rfl⟩:=ra.str?
    obtain ⟨j,u,rfl,_,h⟩:=str1_inv rb h
    exact P.eq_str (x.here' sub (.bool _) (by rw [toStr_cps,toStr_cps,beqD];exact h))
  · obtain ⟨ys,rfl,h⟩:=list1_inv h
    exact eqAsk_snd x sub ok ra rb false h
  · obtain ⟨ys,rfl,h⟩:=tup1_inv h
    exact eqAsk_snd x sub ok ra rb false h
theorem opNe_snd (x:Now c F st fz s) (sub:Sub fz0 fz) (ok:F.Ok c n) {va vb:Value} {a b:V} {Q:QV} (ra:c.R fz va a) (rb:c.R fz vb b)
    (h:opEq a b fun z=>Q (.bool (!z)) st):wpAny c.M F.A (compareOp .NotEq va vb) (PostV c F fz0 Q) E s:=by
  revert ra h
  refine V.casesOn a (fun zz h=>h.elim) (fun zi ra h=>?_) (fun zi ra h=>?_) (fun zi ra h=>?_) (fun zi ra h=>?_) (fun zi ra h=>?_) (fun zz zz h=>h.elim) (fun zz zz h=>h.elim) (fun zz zz h=>h.elim) (fun zz zz h=>h.elim) (fun zz zz h=>h.elim)
  · revert rb h
    refine V.casesOn b (fun zz h=>h.elim) (fun zi rb h=>?_) (fun zz zz h=>h.elim) (fun zz zz h=>h.elim) (fun zz zz h=>h.elim) (fun zz zz h=>h.elim) (fun zz zz h=>h.elim) (fun zz zz h=>h.elim) (fun zz zz h=>h.elim) (fun zz zz h=>h.elim) (fun zz zz h=>h.elim)
    rw [ra.bool?,rb.bool?];exact ne_bool (x.here' sub (.bool _) h)
  · obtain ⟨t,rfl⟩:=ra.int?
    obtain ⟨j,u,rfl,h⟩:=int1_inv rb h
    exact P.ne_int (x.here' sub (.bool _) (by rw [bneD];exact h))
  · obtain ⟨t,rfl⟩:=ra.str?
    obtain ⟨j,u,rfl,_,h⟩:=str1_inv rb h
    exact P.ne_str (x.here' sub (.bool _) (by rw [toStr_cps,toStr_cps,bneD];exact h))
  · obtain ⟨ys,rfl,h⟩:=list1_inv h
    exact eqAsk_snd x sub ok ra rb true h
  · obtain ⟨ys,rfl,h⟩:=tup1_inv h
    exact eqAsk_snd x sub ok ra rb true h
end
noncomputable def etag:Expr→Nat
  | .BoolOp ..=>0
  | .NamedExpr ..=>1
  | .BinOp ..=>2
  | .UnaryOp ..=>3
  | .Lambda ..=>4
  | .IfExp ..=>5
  | .Dict ..=>6
  | .Set ..=>7
  | .ListComp ..=>8
  | .SetComp ..=>9
  | .DictComp ..=>10
  | .GeneratorExp ..=>11
  | .Await ..=>12
  | .Yield ..=>13
  | .YieldFrom ..=>14
  | .Compare ..=>15
  | .Call _ as _ _=>match as with
    | []=>16
    | _=>27
  | .FormattedValue ..=>17
  | .JoinedStr ..=>18
  | .Constant ..=>19
  | .Attribute ..=>20
  | .Subscript ..=>21
  | .Starred ..=>22
  | .Name ..=>23
  | .List ..=>24
  | .Tuple ..=>25
  | .Slice ..=>26
section
variable {H:Params} {P:Addr→Obj→Prop} {vs:List Value} {xs:List V} {es:List DictEntry} {kvs:List (List Nat×V)}
theorem ERs.nil? (h:ERs H P es []):es=[]:=by cases h;rfl
theorem ERs.cons? {k:List Nat} {y:V} (h:ERs H P es ((k,y)::kvs)):∃e r t,es=e::r∧e.key=.str (toStr k) t∧e.hash=PyData.keyHash H (toStr k)∧VR H P e.val y∧ERs H P r kvs:=by
  cases h with
  | cons a b d r=>exact ⟨_,_,_,rfl,a,b,d,r⟩
theorem ERs.length (h:ERs H P es kvs):es.length=kvs.length:=by
  induction kvs generalizing es with
  | nil=>rw [h.nil?];rfl
  | cons p r ih=>obtain ⟨e,es,t,rfl,_,_,_,h⟩:=h.cons?;exact congrArg (·+1) (ih h)
theorem ERs.noRef (h:ERs H P es kvs):es.any (·.refKey)=false:=by
  induction kvs generalizing es with
  | nil=>rw [h.nil?];rfl
  | cons p r ih=>obtain ⟨e,es,t,rfl,h1,_,_,h⟩:=h.cons?;rw [List.any_cons,ih h,Bool.or_false];unfold DictEntry.refKey;rw [h1]
theorem findBy_cons {e:DictEntry} {k:Str}:findBy Value.isStrOf (e::es).toArray k=if Value.isStrOf k e.key then some e.val else findBy Value.isStrOf es.toArray k:=by
  unfold findBy
  rw [List.find?_toArray,List.find?_toArray,List.find?_cons]
  split<;>rename_i q<;>rw [q]<;>rfl
inductive DFind (H:Params) (P:Addr→Obj→Prop) (es:List DictEntry) (k:List Nat):Option V→Prop
  | some {v:Value} {x:V}:findBy Value.isStrOf es.toArray (toStr k)=some v→VR H P v x→DFind H P es k (.some x)
  | none:findBy Value.isStrOf es.toArray (toStr k)=.none→DFind H P es k .none
theorem ERs.find (h:ERs H P es kvs) (k:List Nat):DFind H P es k (dget kvs k):=by
  induction kvs generalizing es with
  | nil=>rw [h.nil?];exact .none rfl
  | cons p r ih=>
    obtain ⟨k',x⟩:=p
    obtain ⟨e,es,t,rfl,h1,_,h3,h⟩:=h.cons?
    have fb:=findBy_cons (es:=es) (e:=e) (k:=toStr k)
    rw [h1] at fb
    rw [dget_cons]
    by_cases hk:k'=k
    · subst hk
      rw [isStrOf_toStr,if_pos rfl] at fb
      rw [if_pos rfl]
      exact .some fb h3
    · rw [isStrOf_ne hk,if_neg Bool.false_ne_true] at fb
      rw [if_neg hk]
      exact DFind.rec (motive:=fun o zz=>DFind H P (e::es) k o) (fun a b=>.some (fb.trans a) b) (fun a=>.none (fb.trans a)) (ih h)
theorem ERs.get (h:ERs H P es kvs) {a:List Nat} {y:V} (hy:dget kvs a=some y):∃v,findBy Value.isStrOf es.toArray (toStr a)=some v∧VR H P v y:=by
  have:=h.find a
  rw [hy] at this
  cases this with | some a b=>exact ⟨_,a,b⟩
theorem ERs.isSome (h:ERs H P es kvs) (a:List Nat):(findBy Value.isStrOf es.toArray (toStr a)).isSome=(dget kvs a).isSome:=
  DFind.rec (motive:=fun o zz=>(findBy Value.isStrOf es.toArray (toStr a)).isSome=o.isSome) (fun a zz=>by rw [a];rfl) (fun a=>by rw [a];rfl) (h.find a)
theorem ERs.keysOf {prog:Program} {w:World} (hw:H=w.params) (h:ERs H P es kvs):KeysOf (PySem.strKind prog w) es.toArray:=by
  induction kvs generalizing es with
  | nil=>rw [h.nil?];intro e he;simp at he
  | cons p r ih=>
    obtain ⟨e,es,t,rfl,h1,h2,_,h⟩:=h.cons?
    intro e' he
    rcases List.mem_cons.mp (List.mem_toArray.mp he) with rfl | he
    · exact ⟨toStr p.1,by rw [h1];exact isStrOf_toStr _ t,by rw [h2,hw];rfl⟩
    · exact ih h e' (List.mem_toArray.mpr he)
theorem ERs.mapOf {prog:Program} {w:World} (hw:H=w.params) (h:ERs H P es kvs) {hp:Heap} {d:Addr} {k:Nat}
    (ho:hp.get? d=some (dictOf es k)):hp.MapOf (PySem.strKind prog w) d (findBy Value.isStrOf es.toArray):=
  ⟨_,_,_,ho,⟨rfl,rfl,rfl⟩,rfl,h.keysOf hw,fun zz=>rfl⟩
noncomputable def isStrV (a:List Nat):Value→Bool
  | .str y _=>y == toStr a
  | _=>false
noncomputable def isIntV (a:Int):Value→Bool
  | .int y _=>y == a
  | _=>false
theorem strs_any {A:Around} {s:Shared} (h:VRs H P vs xs) (e:V.strs xs=true) (a:List Nat):vs.any (isStrV a)=xs.any (V.isStr a)∧∀y∈vs,∀t,SeqAt.EqAt A s y (.str (toStr a) t) (isStrV a y):=by
  induction xs generalizing vs with
  | nil=>rw [h.nil?];exact ⟨rfl,fun zz h=>nomatch h⟩
  | cons z xs ih=>
    obtain ⟨v,vs,rfl,r,h2⟩:=h.cons?
    induction z using V.casesOn<;>try exact no_ft e
    refine r.str_el fun u=>?_
    obtain ⟨i1,i2⟩:=ih h2 e
    refine ⟨?_,fun y hy t=>(List.mem_cons.mp hy).elim (fun e=>e▸SeqAt.EqAt.str_str _ _ _ _) fun h=>i2 y h t⟩
    rw [List.any_cons,List.any_cons,i1]
    congr 1
    show (toStr _ == toStr a)=(a == _)
    rw [Bool.eq_iff_iff,beq_iff_eq,beq_iff_eq,toStr_inj]
    exact eq_comm
theorem ints_any {A:Around} {s:Shared} (h:VRs H P vs xs) (e:V.ints xs=true) (a:Int):vs.any (isIntV a)=xs.any (V.isInt a)∧∀y∈vs,∀t,SeqAt.EqAt A s y (.int a t) (isIntV a y):=by
  induction xs generalizing vs with
  | nil=>rw [h.nil?];exact ⟨rfl,fun zz h=>nomatch h⟩
  | cons z xs ih=>
    obtain ⟨v,vs,rfl,r,h2⟩:=h.cons?
    induction z using V.casesOn<;>try exact no_ft e
    refine r.int_el fun u=>?_
    obtain ⟨i1,i2⟩:=ih h2 e
    refine ⟨?_,fun y hy t=>(List.mem_cons.mp hy).elim (fun e=>e▸SeqAt.EqAt.int_int _ _ _ _) fun h=>i2 y h t⟩
    rw [List.any_cons,List.any_cons,i1]
    congr 1
    show (_ == a)=(a == _)
    rw [Bool.eq_iff_iff,beq_iff_eq,beq_iff_eq]
    exact eq_comm
end
section
variable {c:Cx} {n:Nat} {T:Tab} {fz fz0:List (Addr×Obj)} {F:Fm} {st:St} {m:Str→Option Value} {oc kp:List (Addr×Obj)} {s:Shared} {E:PE} {v:Value} {y:V} {xs:List V}
theorem Now.ownDict (x:Now c F st fz s) {d:Addr} {kvs:List (List Nat×V)} (hg:(d,.dict kvs)∈st.own):
    ∃es k,(d == sysModules)=false∧s.heap.get? d=some (dictOf es k)∧ERs c.H (At c fz) es kvs:=by
  obtain ⟨x⟩:=x
  obtain ⟨rfl,hx,_⟩:=x.ow.find (.of_mem hg)
  cases hx.dict? with
  | mk p0 p2=>exact ⟨_,_,p0,x.own (List.mem_append_right _ (.head _)),p2⟩
noncomputable abbrev inOp (neg:Bool):CmpOp:=if neg then .NotIn else .In
noncomputable abbrev negB (neg z:Bool):Bool:=if neg then !z else z
theorem in_str_str (x:Now c F st fz s) (sub:Sub fz0 fz) {k:Nat} {b:List Nat} {t u:Tok} {Q:QV} (neg:Bool) (h:Q (.bool (negB neg (decide (k∈b)))) st):
    wpAny c.M F.A (compareOp (inOp neg) (.str (toStr [k]) t) (.str (toStr b) u)) (PostV c F fz0 Q) E s:=by
  have e:=StrLaws.found_one (toStr b) k
  rw [toStr_cps] at e
  rw [← e] at h
  cases neg
  · exact P.in_str (x.here' sub (.bool _) h)
  · exact P.notIn_str (x.here' sub (.bool _) h)
theorem in_tup (x:Now c F st fz s) (sub:Sub fz0 fz) {a:Value} {ys:List V} {vb:Value} {p:Value→Bool} {b:Bool} {Q:QV} (neg:Bool) (rb:c.R fz vb (.tup ys))
    (hp:∀vs,c.Rs fz vs ys→vs.any p=b∧∀y∈vs,SeqAt.EqAt F.A.in1 s y a (p y)) (h:Q (.bool (negB neg b)) st):wpAny c.M F.A (compareOp (inOp neg) a vb) (PostV c F fz0 Q) E s:=by
  refine x.tup_el rb fun d vs l r=>?_
  obtain ⟨e1,e2⟩:=hp _ r
  have he:∀y,y∈vs.toArray→SeqAt.EqAt F.A.in1 s y a (p y):=fun y hy=>e2 y (List.mem_toArray.mp hy)
  have hb:vs.toArray.any p=b:=by rw [List.any_toArray,e1]
  rw [← hb] at h
  cases neg
  · exact SeqAt.in_tupleAt p l he (x.here' sub (.bool _) h)
  · exact SeqAt.notIn_tupleAt p l he (x.here' sub (.bool _) h)
theorem in_list (x:Now c F st fz s) (sub:Sub fz0 fz) {a:Value} {ys:List V} {vb:Value} {p:Value→Bool} {b:Bool} {Q:QV} (neg:Bool) (rb:c.R fz vb (.list ys))
    (hp:∀vs,c.Rs fz vs ys→vs.any p=b∧∀y∈vs,SeqAt.EqAt F.A.in1 s y a (p y)) (h:Q (.bool (negB neg b)) st):wpAny c.M F.A (compareOp (inOp neg) a vb) (PostV c F fz0 Q) E s:=by
  refine x.list_el rb fun d vs l r=>?_
  obtain ⟨e1,e2⟩:=hp _ r
  have he:∀y,y∈vs.toArray→SeqAt.EqAt F.A.in1 s y a (p y):=fun y hy=>e2 y (List.mem_toArray.mp hy)
  have hb:vs.toArray.any p=b:=by rw [List.any_toArray,e1]
  rw [← hb] at h
  cases neg
  · exact SeqAt.in_listAt p l he (x.here' sub (.bool _) h)
  · exact SeqAt.notIn_listAt p l he (x.here' sub (.bool _) h)
theorem in_entries (x:Now c F st fz s) (sub:Sub fz0 fz) {a:List Nat} {t:Tok} {d:Addr} {es:List DictEntry} {k:Nat} {kvs:List (List Nat×V)} {Q:QV} (neg:Bool) (p0:(d == sysModules)=false) (p1:s.heap.get? d=some (dictOf es k)) (p2:ERs c.H (At c fz) es kvs)
    (h:Q (.bool (negB neg (dget kvs a).isSome)) st):wpAny c.M F.A (compareOp (inOp neg) (.str (toStr a) t) (.ref d)) (PostV c F fz0 Q) E s:=by
  have M:=p2.mapOf (prog:=c.prog) (w:=c.w) rfl p1
  rw [← p2.isSome] at h
  cases neg
  · exact wpAny_in_of (knd:=PySem.strKind c.prog c.w) (isStrOf_toStr a t) p0 M (x.here sub (.bool _) h)
  · exact wpAny_notIn_of (knd:=PySem.strKind c.prog c.w) (isStrOf_toStr a t) p0 M (x.here sub (.bool _) h)
theorem opInS_snd (x:Now c F st fz s) (sub:Sub fz0 fz) {vb:Value} {a:List Nat} {t:Tok} {b:V} {Q:QV} (neg:Bool) (rb:c.R fz vb b)
    (h:opInS st.own a b fun z=>Q (.bool (negB neg z)) st):wpAny c.M F.A (compareOp (inOp neg) (.str (toStr a) t) vb) (PostV c F fz0 Q) E s:=by
  revert rb h
  refine V.casesOn b (fun zz h=>h.elim) (fun zz zz h=>h.elim) (fun zz zz h=>h.elim) (fun zi rb h=>?_) (fun zi rb h=>?_) (fun zi rb h=>?_) (fun zi rb h=>?_) (fun zz zz h=>h.elim) (fun zi rb h=>?_) (fun zz zz h=>h.elim) (fun zz zz h=>h.elim)
  · refine rb.str_el fun u=>?_
    obtain ⟨k,rfl,h⟩:=h
    exact in_str_str x sub neg h
  · exact in_list x sub neg rb (fun vs r=>(strs_any r h.1 a).imp id fun h y hy=>h y hy t) h.2
  · exact in_tup x sub neg rb (fun vs r=>(strs_any r h.1 a).imp id fun h y hy=>h y hy t) h.2
  · obtain ⟨d,es,k,rfl,p0,p1,p2⟩:=rb.dict?
    exact in_entries x sub neg p0 (x.at p1) p2 h
  · obtain ⟨kvs,hg,h⟩:=h
    obtain ⟨es,k,p0,p1,p2⟩:=x.ownDict hg
    rw [rb.own?]
    exact in_entries x sub neg p0 p1 p2 h
theorem opIn_snd (x:Now c F st fz s) (sub:Sub fz0 fz) {va vb:Value} {a b:V} {Q:QV} (neg:Bool) (ra:c.R fz va a) (rb:c.R fz vb b)
    (h:opIn st.own a b fun z=>Q (.bool (negB neg z)) st):wpAny c.M F.A (compareOp (inOp neg) va vb) (PostV c F fz0 Q) E s:=by
  revert ra h
  refine V.casesOn a (fun zz h=>h.elim) (fun zz zz h=>h.elim) (fun zi ra h=>?_) (fun zi ra h=>?_) (fun zz zz h=>h.elim) (fun zz zz h=>h.elim) (fun zz zz h=>h.elim) (fun zz zz h=>h.elim) (fun zz zz h=>h.elim) (fun zz zz h=>h.elim) (fun zz zz h=>h.elim)
  · refine ra.int_el fun t=>?_
    obtain ⟨ys,rfl,h⟩:=tup1_inv h
    exact in_tup x sub neg rb (fun vs r=>(ints_any r h.1 _).imp id fun h y hy=>h y hy t) h.2
  · refine ra.str_el fun t=>?_
    exact opInS_snd x sub neg rb h
theorem isNone_of {x:V} {v:Value} (r:c.R fz v x):(v == Value.none)=x.isNon:=
  VR.casesOn (motive_1:=fun v x zz=>(v == Value.none)=x.isNon) r rfl (fun zz=>rfl) (fun zz zz=>rfl) (fun zz zz=>rfl) (fun zz zz zz zz=>rfl) (fun zz zz zz zz=>rfl) (fun zz zz zz=>rfl) (fun zz=>rfl) (fun zz=>rfl) (fun zz=>rfl)
theorem opCmp_snd (x:Now c F st fz s) (sub:Sub fz0 fz) (ok:F.Ok c n) {op:CmpOp} {va vb:Value} {a b:V} {Q:QV} (ra:c.R fz va a) (rb:c.R fz vb b)
    (h:opCmp st.own op a b fun z=>Q (.bool z) st):wpAny c.M F.A (compareOp op va vb) (PostV c F fz0 Q) E s:=by
  cases op with
  | Lt=>refine int2_el ra rb h fun i t j u h=>?_;exact P.lt_int (x.here' sub (.bool _) h)
  | LtE=>refine int2_el ra rb h fun i t j u h=>?_;exact P.le_int (x.here' sub (.bool _) h)
  | Gt=>refine int2_el ra rb h fun i t j u h=>?_;exact P.gt_int (x.here' sub (.bool _) h)
  | GtE=>refine int2_el ra rb h fun i t j u h=>?_;exact P.ge_int (x.here' sub (.bool _) h)
  | Eq=>exact opEq_snd x sub ok ra rb h
  | NotEq=>exact opNe_snd x sub ok ra rb h
  | Is=>
    obtain ⟨rfl,_,h⟩:=isN_inv rb h
    rw [← isNone_of ra] at h
    exact is_none (x.here' sub (.bool _) h)
  | IsNot=>
    obtain ⟨rfl,_,h⟩:=isN_inv rb h
    rw [← isNone_of ra] at h
    exact isNot_none (x.here' sub (.bool _) h)
  | In=>exact opIn_snd x sub false ra rb h
  | NotIn=>exact opIn_snd x sub true ra rb h
theorem opT_snd (x:Now c F st fz s) (sub:Sub fz0 fz) {va:Value} {a:V} {Q:QB} (ra:c.R fz va a)
    (h:opT a fun z=>Q z st):wpAny c.M F.A (truthy va) (PostB c F fz0 Q) E s:=by
  revert ra h
  refine V.casesOn a (fun ra h=>?_) (fun zi ra h=>?_) (fun zz zz h=>h.elim) (fun y ra h=>?_) (fun zi ra h=>?_) (fun zz zz h=>h.elim) (fun zz zz h=>h.elim) (fun zz zz h=>h.elim) (fun zz zz h=>h.elim) (fun zz zz h=>h.elim) (fun zz zz h=>h.elim)
  · rw [ra.non?];exact truthy_none (.mk x sub h)
  · rw [ra.bool?];exact wpAny_truthy_bool (.mk x sub h)
  · refine ra.str_el fun t=>?_
    refine KXt.truthy (b:=!y.isEmpty) ?_ (by rw [toStr_length];exact h.1) fun k=>.mk (x.toks _) sub h.2
    rw [toStr_length]
    induction y using List.casesOn with
    | nil=>rfl
    | cons a r=>simp;lia
  · refine x.list_el ra fun d vs l r=>?_
    refine wpAny_truthy_list l ?_ (.mk (x.toks _) sub ?_)
    · have:=r.length;have:=h.1;unfold LIM at this;rw [List.size_toArray];lia
    · have h:=h.2
      cases r<;>exact h
noncomputable def plainIdx (e:Expr):Bool:=!(etag e).beq 26
theorem subscripted_plain {e:Expr} (h:plainIdx e=true) (o i:Value):subscripted e false o i=operate [o,i] (getItem o i):=by
  revert h
  apply Expr.casesOn (motive_1:=fun e=>plainIdx e=true→subscripted e false o i=operate [o,i] (getItem o i)) e<;>intros<;>first | rfl | exact no_ft ‹_=true›
variable {value slice:Expr} {vb:Value} {b:V} {Q:QV}
theorem listItem (x:Now c F st fz s) (sub:Sub fz0 fz) (hp:plainIdx slice=true) {l:Addr} {vs:List Value} (hl:s.heap.IsList l vs.toArray) (r:c.Rs fz vs xs) (rb:c.R fz vb b)
    (h:item xs b fun y=>Q y st):wpAny c.M F.A (subscriptTail value slice (.ref l) vb) (PostV c F fz0 Q) E s:=by
  refine int1_el rb h fun i t hh=>?_;obtain ⟨h1,h2,y,h3,h4⟩:=hh
  obtain ⟨v,e,rv⟩:=r.get h3
  exact tail_any hl.typeIs list_getitem_lookup (getItem_listL hl h1 (by lia) e (x.here' sub rv h4)) (subscripted_plain hp _ _)
theorem dictItem (x:Now c F st fz s) (sub:Sub fz0 fz) (hp:plainIdx slice=true) {d:Addr} {es:List DictEntry} {k:Nat} {kvs:List (List Nat×V)} (p1:s.heap.get? d=some (dictOf es k)) (p2:ERs c.H (At c fz) es kvs) (rb:c.R fz vb b)
    (h:ditem kvs b fun y=>Q y st):wpAny c.M F.A (subscriptTail value slice (.ref d) vb) (PostV c F fz0 Q) E s:=by
  refine str1_el rb h fun a t hh=>?_;obtain ⟨y,h1,h2⟩:=hh
  obtain ⟨v,e,rv⟩:=p2.get h1
  have M:=p2.mapOf (prog:=c.prog) (w:=c.w) rfl p1
  exact tail_any M.typeIs slot_dict_getitem.lookup (wpAny_getItem_of (knd:=PySem.strKind c.prog c.w) (isStrOf_toStr a t) M e (x.here sub rv h2)) (subscripted_plain hp _ _)
theorem strItem (x:Now c F st fz s) (sub:Sub fz0 fz) (hp:plainIdx slice=true) {y:List Nat} {i:Int} {t u:Tok} (h1:0≤i) (h2:i < 2 ^ 62) {k:Nat} (h3:y[i.toNat]?=some k) (h4:Q (.str [k]) st):
    wpAny c.M F.A (subscriptTail value slice (.str (toStr y) t) (.int i u)) (PostV c F fz0 Q) E s:=by
  have hc:Txt.charAt (toStr y) i=some k:=by
    unfold Txt.charAt
    rw [seqIndex_of (n:=(toStr y).length) h1 (by rw [toStr_length];exact toNat_lt h1 (List.getElem?_eq_some_iff.mp h3).1)]
    show (toStr y).cps[i.toNat]?=some k
    rw [← Array.getElem?_toList,toStr_cps];exact h3
  refine tail_any (typeIs_str s _ _) PySem.F.slot_str_getitem.lookup (SB.getItem ?_ (by rw [hc];rfl) (x.here sub ?_ h4)) (subscripted_plain hp _ _)
  · unfold fitsSsize;rw [decide_eq_false (Int.not_lt.mpr (Int.le_trans (by decide) h1)),decide_eq_false (Int.not_le.mpr (Int.lt_trans h2 (by decide)))];rfl
  · unfold Txt.item;rw [hc];exact .str [k] _
theorem opIdx_snd (x:Now c F st fz s) (sub:Sub fz0 fz) (hp:plainIdx slice=true) {va:Value} {a:V} (ra:c.R fz va a) (rb:c.R fz vb b)
    (h:opIdx st.own a b fun z=>Q z st):wpAny c.M F.A (subscriptTail value slice va vb) (PostV c F fz0 Q) E s:=by
  revert ra h
  refine V.casesOn a (fun zz h=>h.elim) (fun zz zz h=>h.elim) (fun zz zz h=>h.elim) (fun zi ra h=>?_) (fun zi ra h=>?_) (fun zi ra h=>?_) (fun zi ra h=>?_) (fun zz zz h=>h.elim) (fun zi ra h=>?_) (fun zz zz h=>h.elim) (fun zz zz h=>h.elim)
  · refine ra.str_el fun t=>?_
    refine int1_el rb h fun i u hh=>?_;obtain ⟨h1,h2,k,h3,h4⟩:=hh
    exact strItem x sub hp h1 h2 h3 h4
  · refine x.list_el ra fun d vs l r=>?_
    exact listItem x sub hp l r rb h
  · refine x.tup_el ra fun d vs l r=>?_
    refine int1_el rb h fun i t hh=>?_;obtain ⟨h1,h2,y,h3,h4⟩:=hh
    obtain ⟨v,e,rv⟩:=r.get h3
    refine tail_any l.typeIs PySem.F.slot_tuple_getitem.lookup (PyProof.Rows.getItem_tuple l (by lia) (by lia) (seqIndex_of h1 ?_) (by simpa using e) (x.here' sub rv h4)) (subscripted_plain hp _ _)
    have:=(List.getElem?_eq_some_iff.mp e).1
    rw [List.size_toArray];lia
  · obtain ⟨d,es,k,rfl,p0,p1,p2⟩:=ra.dict?
    exact dictItem x sub hp (x.at p1) p2 rb h
  · rw [ra.own?]
    rcases h with ⟨kvs,hg,h⟩ | ⟨xs,hg,h⟩
    · obtain ⟨es,k,p0,p1,p2⟩:=x.ownDict hg
      exact dictItem x sub hp p1 p2 rb h
    · obtain ⟨vs,l,r⟩:=x.ownList hg
      exact listItem x sub hp l r rb h
end
noncomputable abbrev toI (k:Option Nat):Option Int:=k.map fun (j:Nat)=>(j:Int)
theorem clip_eq {α:Type} (l:List α) (a b:Nat):(l.drop (min a l.length)).take (min b l.length - min a l.length)=(l.take b).drop a:=by
  rw [List.drop_take]
  rcases Nat.le_total a l.length with h | h
  · rw [Nat.min_eq_left h]
    rcases Nat.le_total b l.length with h2 | h2
    · rw [Nat.min_eq_left h2]
    · rw [Nat.min_eq_right h2,List.take_of_length_le (by rw [List.length_drop];exact Nat.le_refl _),List.take_of_length_le (by rw [List.length_drop];exact Nat.sub_le_sub_right h2 a)]
  · rw [Nat.min_eq_right h,List.drop_eq_nil_of_le h,List.drop_eq_nil_of_le (Nat.le_refl _),List.take_nil,List.take_nil]
theorem clipI (a n:Nat):max (0:Int) (min (if (a:Int) < 0 then (a:Int)+n else a) (n:Int))=((min a n:Nat):Int):=by
  rw [if_neg (Int.not_lt.mpr (Int.natCast_nonneg a))]
  rcases Nat.le_total a n with h | h
  · rw [Nat.min_eq_left h,Int.min_eq_left (Int.ofNat_le.mpr h)];exact Int.max_eq_right (Int.natCast_nonneg _)
  · rw [Nat.min_eq_right h,Int.min_eq_right (Int.ofNat_le.mpr h)];exact Int.max_eq_right (Int.natCast_nonneg _)
theorem sub_len {y k u:Nat} (hy:0 < y) (h:min u y - min k y=y):k=0∧y≤u:=by
  rcases Nat.le_total k y with hk | hk
  · rw [Nat.min_eq_left hk] at h
    have h1:min u y≤y:=Nat.min_le_right _ _
    have h2:k=0:=Nat.eq_zero_of_not_pos fun hp=>by
      have:=Nat.lt_of_lt_of_le (Nat.sub_lt (Nat.pos_of_ne_zero fun z=>by rw [z,Nat.zero_sub] at h;exact absurd h (Nat.ne_of_lt hy)) hp) h1
      rw [h] at this
      exact Nat.lt_irrefl _ this
    subst h2
    exact ⟨rfl,h▸Nat.min_le_left _ _⟩
  · rw [Nat.min_eq_right hk] at h
    exact absurd (h.symm.trans (Nat.sub_eq_zero_of_le (Nat.min_le_right _ _))) (Nat.ne_of_gt hy)
open Builtin.Str in
theorem str_idx (n:Nat) (lo hi:Option Nat):strSliceIndices (toI lo) (toI hi) 1 n=(List.range (min (hi.getD n) n - min (lo.getD 0) n)).map fun k=>min (lo.getD 0) n+k:=by
  have e:strSliceIndices (toI lo) (toI hi) 1 n=sliceRange ((min (lo.getD 0) n:Nat):Int) ((min (hi.getD n) n:Nat):Int) 1:=by
    unfold strSliceIndices
    simp only [show ((1:Int) > 0)=True from by simp,if_true]
    cases lo<;>cases hi<;>simp only [toI,Option.map_none,Option.map_some,Option.getD_none,Option.getD_some]<;>congr 1<;>first | exact clipI _ _ | exact congrArg _ (Nat.min_self n).symm
  rw [e,sliceRange_one]
open Builtin.Str in
theorem str_pick (l:List Nat) (lo hi:Option Nat):(strSliceIndices (toI lo) (toI hi) 1 l.length).filterMap (l[·]?)=cutL l lo hi:=by
  rw [str_idx]
  have:=pick_run l.toArray (min (lo.getD 0) l.length) (min (hi.getD l.length) l.length - min (lo.getD 0) l.length)
  simp only [List.getElem?_toArray] at this
  rw [this]
  exact clip_eq ..
section
variable {c:Cx} {n:Nat} {T:Tab} {fz fz0:List (Addr×Obj)} {F:Fm} {st:St} {m:Str→Option Value} {oc kp:List (Addr×Obj)} {s:Shared} {E:PE} {v:Value} {y:V} {xs:List V} {Q:QV} {value:Expr}
inductive PartR (v:Value) (k:Option Nat):Prop
  | mk {p:Option (Int×Tok)}:v=partValue p→p.map (·.1)=toI k→IsPart v (toI k)→PartR v k
theorem partN_of {k:Option Nat} (r:c.R fz v y) (h:partN y=some k):PartR v k:=by
  cases y<;>try exact no_ns h
  · cases h;rw [r.non?];exact .mk (p:=none) rfl rfl .none
  · rename_i i
    refine r.int_el fun t=>?_
    have h:(if 0≤i then some (some i.toNat) else none)=some k:=h
    by_cases h0:0≤i
    · rw [if_pos h0] at h
      cases h
      have e:toI (some i.toNat)=some i:=congrArg some (Int.toNat_of_nonneg h0)
      exact .mk (p:=some (i,t)) rfl e.symm (e▸.int i t)
    · rw [if_neg h0] at h;cases h
noncomputable def sliceO (vl vu vs:Value):Obj:={ cls:=.type "slice",data:=.fields #[vl,vu,vs] }
theorem strSlice (x:Now c F st fz s) (sub:Sub fz0 fz) {y:List Nat} {t:Tok} {l u:Option Expr} {p:Pos} {vl vu:Value} {kl ku:Option Nat} (pl:PartR vl kl) (pu:PartR vu ku) (hlen:y.length≤LIM) (h:Q (.str (cutL y kl ku)) st):
    wpAny c.M F.A (subscriptTail value (.Slice l u none p) (.str (toStr y) t) (.ref s.heap.objs.size)) (PostV c F fz0 Q) E { s with heap:=s.heap.push (sliceO vl vu .none) }:=by
  obtain ⟨x⟩:=x
  have x':Now c F st fz _:=.mk (x.junk (sliceO vl vu .none))
  cases pl with | @mk pl e1 hl _=>
  cases pu with | @mk pu e2 hu _=>
  subst e1 e2
  refine tail_any (typeIs_str _ _ _) PySem.F.slot_str_getitem.lookup (wpAny_getItem_str_slice (l:=pl) (u:=pu) (st:=none) ⟨_,Heap.get?_push_size _ rfl,rfl,rfl⟩ rfl ?_) rfl
  have e:slicePicked (toStr y) pl pu none=Builtin.Str.strSliceIndices (toI kl) (toI ku) 1 y.length:=by
    unfold slicePicked;rw [hl,hu,toStr_length];rfl
  have e2:(Builtin.Str.strSliceIndices (toI kl) (toI ku) 1 y.length).filterMap ((toStr y).cps[·]?)=cutL y kl ku:=by
    rw [← str_pick]
    congr 1
    funext i
    rw [← Array.getElem?_toList,toStr_cps]
  unfold sliceMade
  rw [e]
  split
  · rename_i hc
    refine x'.here' sub ?_ h
    have hlen2:=beq_iff_eq.mp (Bool.and_eq_true_iff.mp hc).2
    have hfull:cutL y kl ku=y:=by
      rw [toStr_length,str_idx,List.length_map,List.length_range] at hlen2
      unfold cutL
      by_cases hy:y=[]
      · subst hy;rw [List.take_nil,List.drop_nil]
      · have h3:0 < y.length:=List.length_pos_iff.mpr hy
        obtain ⟨h4,h5⟩:=sub_len h3 hlen2
        rw [h4,List.drop_zero,List.take_of_length_le h5]
    rw [hfull];exact .str y t
  · rw [e2]
    refine ⟨?_,x'.here sub (.str _ _) h⟩
    show (toStr _).length≤_
    rw [toStr_length,sizeLine_is]
    unfold cutL
    rw [List.length_drop,List.length_take]
    lia
theorem listSlice (x:Now c F st fz s) (sub:Sub fz0 fz) {D:Addr} {vs:List Value} {l u:Option Expr} {p:Pos} {vl vu:Value} {kl ku:Option Nat}
    (hD:s.heap.IsList D vs.toArray) (r:c.Rs fz vs xs) (pl:PartR vl kl) (pu:PartR vu ku) (hlen:xs.length≤LIM) (h:Q (.list (cutL xs kl ku)) st):
    wpAny c.M F.A (subscriptTail value (.Slice l u none p) (.ref D) (.ref s.heap.objs.size)) (PostV c F fz0 Q) E { s with heap:=s.heap.push (sliceO vl vu .none) }:=by
  obtain ⟨x⟩:=x
  have x':=x.junk (sliceO vl vu .none)
  obtain ⟨_,_,hl⟩:=pl
  obtain ⟨_,_,hu⟩:=pu
  have hp:slicePick vs.toArray (toI kl) (toI ku) none=(cutL vs kl ku).toArray:=by
    unfold cutL
    rw [slicePick_plain,← clip_eq]
    simp only [List.size_toArray]
    congr 1
    cases kl<;>cases ku<;>simp [clipAt_nat]
  refine tail_any (Heap.IsList.typeIs (s:={ s with heap:=s.heap.push _ }) (hD.push _)) list_getitem_lookup (wpAny_getItem_list_slice (hD.push _) (Heap.IsSliceOf.new ..) hl hu .none (by simp) ?_ ?_) rfl
  · rw [hp]
    refine .mk (.mk (x'.push _ rfl)) sub.cons (.list (vs:=cutL vs kl ku) (.inr (.head _)) rfl rfl (VRs.up Sub.refl.cons ?_)) h
    unfold cutL
    rw [r.length]
    exact (r.take _).drop _
  · rw [List.size_toArray,r.length,sizeLine_is];exact hlen
theorem opSlc_snd (x:Now c F st fz s) (sub:Sub fz0 fz) {l u:Option Expr} {p:Pos} {vl vu:Value} {yl yu:V}
    (r:c.R fz v y) (rl:c.R fz vl yl) (ru:c.R fz vu yu) (h:opSlc y yl yu fun z=>Q z st):
    wpAny c.M F.A (subscriptTail value (.Slice l u none p) v (.ref s.heap.objs.size)) (PostV c F fz0 Q) E { s with heap:=s.heap.push (sliceO vl vu .none) }:=by
  obtain ⟨kl,ku,e1,e2,h⟩:=h
  revert r h
  refine V.casesOn y (fun zz h=>h.elim) (fun zz zz h=>h.elim) (fun zz zz h=>h.elim) (fun zi r h=>?_) (fun zi r h=>?_) (fun zz zz h=>h.elim) (fun zz zz h=>h.elim) (fun zz zz h=>h.elim) (fun zz zz h=>h.elim) (fun zz zz h=>h.elim) (fun zz zz h=>h.elim)
  · refine r.str_el fun t=>?_
    exact strSlice x sub (partN_of rl e1) (partN_of ru e2) h.1 h.2
  · refine x.list_el r fun d vs hl r=>?_
    exact listSlice x sub hl r (partN_of rl e1) (partN_of ru e2) h.1 h.2
theorem pick_mem {vs:List Value} {lo hi sp:Option Int} {v:Value} (h:v∈(slicePick vs.toArray lo hi sp).toList):∃i:Nat,vs[i]?=some v:=by
  unfold slicePick at h
  obtain ⟨i,_,hi⟩:=List.mem_filterMap.mp h
  exact ⟨i,by simpa using hi⟩
theorem VRs.pick {H:Params} {P:Addr→Obj→Prop} {vs ws:List Value} {xs:List V} (r:VRs H P vs xs) (h:∀v∈ws,∃i:Nat,vs[i]?=some v):∃ys,VRs H P ws ys∧∀y∈ys,y∈xs:=by
  induction ws with
  | nil=>exact ⟨[],.nil,fun zz h=>nomatch h⟩
  | cons w ws ih=>
    obtain ⟨ys,r1,r2⟩:=ih fun v hv=>h v (.tail _ hv)
    obtain ⟨i,hi⟩:=h w (.head _)
    have hlt:i < xs.length:=by rw [← r.length];exact (List.getElem?_eq_some_iff.mp hi).1
    obtain ⟨v',e1,e2⟩:=r.get (i:=i) (List.getElem?_eq_getElem hlt)
    cases hi.symm.trans e1
    exact ⟨xs[i]::ys,.cons e2 r1,fun y hy=>(List.mem_cons.mp hy).elim (fun e=>e▸List.getElem_mem hlt) (r2 y)⟩
theorem pick_len {vs:Array Value} {li pi:Int} (h1:0≤li) (h2:0 < pi):(slicePick vs (some li) none (some pi)).toList.length≤vs.size:=by
  unfold slicePick
  refine Nat.le_trans (List.length_filterMap_le _ _) (sliceRange_length_le _ _ _ _ (fun zz=>?_) fun hn=>?_)
  · unfold sliceBounds
    simp only [Option.getD_some,gt_iff_lt,h2,if_true]
    exact ⟨by split<;>exact Int.le_max_left _ _,Int.ofNat_le.mpr (Nat.le_refl _)⟩
  · exfalso
    apply hn
    unfold sliceBounds
    simpa using h2
theorem opSlcs_snd (x:Now c F st fz s) (sub:Sub fz0 fz) {l u:Expr} {p:Pos} {vl vp:Value} {yl yp:V} (r:c.R fz v y) (rl:c.R fz vl yl) (rp:c.R fz vp yp) (h:opSlcs y yl yp fun z=>Q z st):
    wpAny c.M F.A (subscriptTail value (.Slice (some l) none (some u) p) v (.ref s.heap.objs.size)) (PostV c F fz0 Q) E { s with heap:=s.heap.push (sliceO vl .none vp) }:=by
  obtain ⟨xs,rfl,h⟩:=list1_inv h
  refine int2_el rl rp h fun li t pi u hh=>?_;obtain ⟨h4,h5,h6,h7,h8,h9⟩:=hh
  refine x.list_el r fun D vs hD r=>?_
  obtain ⟨x⟩:=x
  have x4:=x.junk (sliceO (.int li t) .none (.int pi u))
  refine tail_any (Heap.IsList.typeIs (s:={ s with heap:=s.heap.push _ }) (hD.push _)) list_getitem_lookup (wpAny_getItem_list_slice (hD.push _) (Heap.IsSliceOf.new ..) (.int _ _) .none (.int _ _) (by simp;lia) ?_ (by rw [List.size_toArray,r.length,sizeLine_is];exact h8)) rfl
  obtain ⟨ys,q1,q2⟩:=r.pick (ws:=(slicePick vs.toArray (some li) none (some pi)).toList) fun v hv=>pick_mem hv
  refine .mk (.mk (x4.push _ rfl)) sub.cons (.list (vs:=(slicePick vs.toArray (some li) none (some pi)).toList) (n:=0) (.inr (.head _)) rfl rfl (q1.up Sub.refl.cons)) (h9 ys ?_ q2)
  rw [← q1.length,← r.length,← List.size_toArray]
  exact pick_len h4 h6
inductive DL (H:Params) (P:Addr→Obj→Prop) (es:List DictEntry) (k:List Nat):Option V→Prop
  | some {v:Value} {x:V}:W.getL (toStr k) es=some (some v)→VR H P v x→DL H P es k (.some x)
  | none:W.getL (toStr k) es=some .none→DL H P es k .none
theorem isStr_eq (v:Value) (y:Str):v.isStr y=Value.isStrOf y v:=by cases v<;>rfl
theorem ERs.getL {H:Params} {P:Addr→Obj→Prop} {es:List DictEntry} {kvs:List (List Nat×V)} (h:ERs H P es kvs) (k:List Nat):DL H P es k (dget kvs k):=by
  have hno:=h.noRef
  have k2:(es.find? (·.key.isStr (toStr k))).map (·.val)=findBy Value.isStrOf es.toArray (toStr k):=by
    unfold findBy
    rw [List.find?_toArray]
    simp only [isStr_eq]
  have g:∀o,(es.find? (·.key.isStr (toStr k))).map (·.val)=o→W.getL (toStr k) es=some o:=by
    intro o e
    unfold W.getL
    cases q:es.find? (·.key.isStr (toStr k)) with
    | some d=>rw [q] at e;exact congrArg some e
    | none=>rw [q] at e;subst e;rw [hno];rfl
  exact DFind.rec (motive:=fun o zz=>DL H P es k o) (fun a b=>.some (g _ (k2.trans a)) b) (fun a=>.none (g _ (k2.trans a))) (h.find k)
theorem VR.handed (r:c.R fz v y) (h:y.isLit=false):handedIn v=true:=by
  exact VR.casesOn (motive_1:=fun v y zz=>y.isLit=false→handedIn v=true) r (fun h=>rfl) (fun zz h=>rfl) (fun zz zz h=>rfl) (fun zz zz h=>rfl) (fun zz zz zz zz h=>rfl) (fun zz zz zz zz h=>rfl) (fun zz zz zz h=>rfl) (fun zz h=>rfl) (fun zz h=>rfl) (fun zz h=>no_ft h.symm) h
noncomputable def attrOk (K:Frag) (C:Addr) (n:Str):Bool:=plainGet K C n && hasDictIn K C && (match findIn K (.ref C) n with
  | some a=>noGet K a
  | none=>false)
noncomputable def excMro (C:Addr):List Value:=[.ref C,.type "Exception",.type "BaseException",.type "object"]
noncomputable def attxOk (K:Frag) (C:Addr) (n:Str):Bool:=findIn K (.ref C) "__getattribute__" == some (some (.builtin "BaseException.__getattribute__")) && findIn K (.ref C) "__getattr__" == some none && findIn K (.ref C) n == some none && hasDictIn K C &&
  findIn K (.ref C) "__setattr__" == some (some (.builtin "object.__setattr__")) && (match clsIn K C with | some cd=>cd.mro == excMro C | none=>false)
noncomputable def satrOk (K:Frag) (C:Addr) (n:Str):Bool:=findIn K (.ref C) "__setattr__" == some (some (.builtin "object.__setattr__")) && plainOver K C && takerIn K C n == some none && hasDictIn K C
structure Tab.Ok (c:Cx) (T:Tab):Prop where
  attr:∀C n,T.attr C n=true→attrOk c.K C (toStr n)=true∧satrOk c.K C (toStr n)=true
  attx:∀C n,T.attx C n=true→attxOk c.K C (toStr n)=true∧subIn c.K (.ref C) (.type "BaseException")=some true
  meth:∀C n f,T.meth C n=some f→plainGet c.K C (toStr n)=true∧findIn c.K (.ref C) (toStr n)=some (some (.ref f))∧isFn c.K (.ref f)=true∧keepIn c.K (.ref f)=true
  keep:∀v,T.keep v=true→keepIn c.K v=true
  cmeth:∀C n f,T.cmeth C n=some f→specialIn c.K (.ref C) "__getattribute__"=some (some (.builtin "type.__getattribute__"))∧typeIn c.K (.ref C)=some (.type "type")∧readsIn c.K C (.type "type")=true∧findCls c.K (.ref C) (.type "type") (toStr n)=some (.val (.ref f))∧keepIn c.K (.ref f)=true
  fn:∀f,T.fn f=true→∃o,c.K.lookup f=some o∧o.cls=.type "function"
  isc:∀C,T.isc C=true→isNotIn c.K "str" C=true
  rse:∀C D,T.rse C D=true→exmOne c.K (.ref C) (.ref D)=some true∧typeIn c.K (.ref C)=some (.type "type")∧subIn c.K (.ref C) (.type "BaseException")=some true
  exc:∀C,T.exc C=true→hasDictIn c.K C=true∧subIn c.K (.ref C) (.type "Exception")=some true
theorem and2 {a b:Bool} (h:(a && b)=true):a=true∧b=true:=Bool.and_eq_true_iff.mp h
theorem opAttr_inst (hT:T.Ok c) (x:Now c F st fz s) (sub:Sub fz0 fz) {a C:Addr} {ats:List (List Nat×V)} {nm:List Nat} (h0:T.attr C nm=true) (hg:(a,.inst C ats)∈st.own) (h1:dget ats nm=some y) (h2:y.isLit=false) (h3:Q y st):
    wpAny c.M F.A (getAttr (.ref a) (toStr nm) true) (PostV c F fz0 Q) E s:=by
  obtain ⟨x⟩:=x
  obtain ⟨ok,_⟩:=hT.attr _ _ h0
  unfold attrOk at ok
  obtain ⟨ok,o3⟩:=and2 ok
  obtain ⟨o1,o2⟩:=and2 ok
  obtain ⟨rfl,hx,_⟩:=x.ow.find (.of_mem hg)
  cases hx.inst? with
  | @mk d es k sl p2=>
    have e:=p2.getL nm
    rw [h1] at e
    cases e with
    | some e rv=>
      have I:W.InstAt s.heap a ⟨.ref C,some d,.plain,sl⟩ C (some (dictOf es k)):=.of_news x.nw (List.mem_append_left _ (List.mem_append_right _ (.head _))) (List.mem_append_left _ (List.mem_append_right _ (.tail _ (.head _))))
      cases q:findIn c.K (.ref C) (toStr nm) with
      | none=>rw [q] at o3;cases o3
      | some attr=>
        rw [q] at o3
        exact get_own x.fr c.X I o1 o2 q o3 e (rv.handed h2) ((Now.mk x).here sub rv h3)
end
section
variable {prog:Program} {w:World} {A:Around} {E:PE} {s:Shared} {K:Frag} {x C:Addr} {ox:Obj} {od:Option Obj} {name:Str} {tk:Tok}
theorem bexc_kind:builtinKind "BaseException.__getattribute__"=some .slot:=by decide +kernel
theorem bexc_split:splitId "BaseException.__getattribute__"=some ("BaseException","__getattribute__"):=by decide +kernel
theorem slotArgs2 (a b:Value):slotArgs "__getattribute__" 1 ⟨[a,b],[]⟩=pure (a,[b]):=by kernel_rfl
theorem exc_get_body {v:Value} {t:Nat} {R:Fin→Shared→Prop} {E:PE} {A:Around} {hp:Heap} {g:Array GenState} {d:Drawn} {os:OsState} (X:K.In hp) (I:InstAt hp x ox C od)
    (hf:findObj K C od name=some (.value v)) (h:R (.done (.ret v)) ⟨hp,g,d,t,os⟩):
    wpAny (model prog w) A (Builtin.«object.__getattribute__» ⟨[.ref x,.str name tk],[]⟩) R E ⟨hp,g,d,t,os⟩:=by
  unfold Builtin.«object.__getattribute__»
  refine wpAny_bind ?_
  rw [slotArgs2]
  exact wpAny_pure (wpAny_bind (wpAny_pure (wpAny_bind ((I.type (M:=model prog w)).at (wpAny_bind ((looks_find (M:=model prog w) X I hf).at (wpAny_pure h)))))))
theorem exc_get {expr:Bool} {v:Value} {Q:PE} (X:K.In s.heap) (I:InstAt s.heap x ox C od) (hga:findIn K (.ref C) "__getattribute__"=some (some (.builtin "BaseException.__getattribute__")))
    (hgt:findIn K (.ref C) "__getattr__"=some none) (hb:subIn K (.ref C) (.type "BaseException")=some true)
    (hf:findObj K C od name=some (.value v)) (hh:handedIn v=true) (h:Q v { s with toks:=s.toks+1 }):wpAny (model prog w) A (getAttr (.ref x) name expr) Q E s:=by
  obtain ⟨hp,g,d,t,os⟩:=s
  have sub:Looks (model prog w) hp (isInstance (.ref x) (.type "BaseException")) true:=I.type.andThen (looks_subIn X hb)
  have hx2:(Value.builtin "BaseException.__getattribute__" == Value.builtin "object.__getattribute__")=false:=by decide +kernel
  unfold getAttr getAttrBy
  refine wpAny_bind (wpAny_mkText (wpAny_holding (wpAny_bind ((I.type (M:=model prog w)).at (wpAny_bind ((looks_findIn (M:=model prog w) X hga).at ?_))))))
  dsimp only
  rw [hx2,Bool.and_false,if_neg Bool.false_ne_true]
  unfold getAttrByItsOwn
  refine wpAny_bind ?_
  show wpAny _ _ (typeLookup (.ref C) "__getattr__") _ _ _
  refine (looks_findIn (M:=model prog w) X hgt).at ?_
  refine wpAny_bind (wpAny_attempt (wpAny_holding ?_))
  unfold callGetattribute
  rw [show (expr && onTheHeap (.builtin "BaseException.__getattribute__"))=false by cases expr<;>rfl,if_neg Bool.false_ne_true]
  unfold boundAndCalled
  rw [PySem.F.attr_Exception.ga.bind]
  refine wpAny_bind (wpAny_pure ?_)
  show wpAny _ _ (call (.builtin "BaseException.__getattribute__") [.ref x,.str name t]) _ _ _
  refine wpAny_call (codeAny_call_builtin PySem.F.attr_Exception.ga.plain PySem.F.entry_bexc_ga ?_)
  refine @check_slot (model prog w) _ _ ⟨hp,g,d,t+1,os⟩ "BaseException.__getattribute__" "BaseException" "__getattribute__" (.ref x) [.str name t] [] _ bexc_kind bexc_split sub (PySem.F.args_bexc_ga (.ref x) (.str name t)) ?_
  refine exc_get_body X I hf ?_
  show wpAny _ _ (handedOut v) _ _ _
  rw [handedOut_of hh]
  exact wpAny_pure h
theorem putL_len (k:Str) (hh:Int) (t:Tok) (v:Value) (es:List DictEntry):(W.putL k hh (.str k t) v es).length≤es.length+1:=by
  induction es with
  | nil=>exact Nat.le_refl _
  | cons e r ih=>unfold W.putL;split<;>simp;exact ih
theorem storeIn_E {dx:Addr} {es:List DictEntry} {k:Nat} {v:Value} {Q:Fin→Shared→Prop} (D:s.heap.get? dx=some (dictOf es k)) (hr:es.any (·.refKey)=false) (hz:es.length≤1000)
    (h:Q (.done (.ret .none)) { s with heap:=s.heap.update dx (Obj.putName name (PyData.keyHash w.params name) (.str name s.toks) v),toks:=s.toks+1 }):
    wpAny (model prog w) A (storeInDict dx (.str name tk) name v) Q E s:=by
  unfold storeInDict newKeyGuard
  refine wpAny_bind (wpAny_pure (wpAny_bind ?_))
  unfold nsSet
  refine wpAny_bind (wpAny_bind (wpAny_askSetting (wpAny_pure (wpAny_bind (wpAny_mkText (wpAny_bind (wpAny_loadPart D ?_)))))))
  dsimp only
  have cc:(!es.toArray.any (·.key.isStr name) && es.toArray.any (·.refKey))=false:=by
    rw [← Array.any_toList,← Array.any_toList]
    simp only [hr,Bool.and_false]
  rw [aRefKeyMayBeTheName_at,cc]
  refine wpAny_updatePart D ?_
  have D':(s.heap.update dx (Obj.putName name (PyData.keyHash w.params name) (.str name s.toks) v)).get? dx=some (dictOf (W.putL name (PyData.keyHash w.params name) (.str name s.toks) v es) (putN name es k)):=by
    rw [Heap.get?_update_self _ D (by rw [putName_dict];rfl),putName_dict]
  exact wpAny_bind (wpAny_lookBehind D' (pastItsLine_dict (by rw [List.size_toArray,sizeLine_eq];have:=putL_len name (PyData.keyHash w.params name) s.toks v es;lia)) (wpAny_pure h))
structure AttX (K:Frag) (C:Addr) (name:Str):Prop where
  ga:findIn K (.ref C) "__getattribute__"=some (some (.builtin "BaseException.__getattribute__"))
  gt:findIn K (.ref C) "__getattr__"=some none
  own:findIn K (.ref C) name=some none
  dict:hasDictIn K C=true
  sa:findIn K (.ref C) "__setattr__"=some (some (.builtin "object.__setattr__"))
  mro:∃cd,clsIn K C=some cd∧cd.mro=excMro C
theorem AttX.of (h:attxOk K C name=true):AttX K C name:=by
  unfold attxOk at h
  obtain ⟨h,h6⟩:=and2 h
  obtain ⟨h,h5⟩:=and2 h
  obtain ⟨h,h4⟩:=and2 h
  obtain ⟨h,h3⟩:=and2 h
  obtain ⟨h1,h2⟩:=and2 h
  refine ⟨beq_iff_eq.mp h1,beq_iff_eq.mp h2,beq_iff_eq.mp h3,h4,beq_iff_eq.mp h5,?_⟩
  split at h6
  · exact ⟨_,by assumption,beq_iff_eq.mp h6⟩
  · cases h6
theorem exc_set_open {v:Value} {Q:Unit→Shared→Prop} (X:K.In s.heap) (I:InstAt s.heap x ox C od) (hk:AttX K C name)
    (h:∀A E (Q':Fin→Shared→Prop),(∀s',Q () s'→Q' (.done (.ret .none)) s')→wpAny (model prog w) A (ownDictForStores (.ref x) >>= fun r=>match r with | some d=>storeInDict d (.str name s.toks) name v | none=>noDictFor (.ref x) (.ref C) name false) Q' E { s with toks:=s.toks+1 }):
    wpAny (model prog w) A (setAttr (.ref x) name v) Q E s:=by
  obtain ⟨hp,g,d,t,os⟩:=s
  obtain ⟨cd,hc,hm⟩:=hk.mro
  have SF:=PySem.F.store_object
  have ne:cd.mro.isEmpty=false:=by rw [hm];rfl
  have sub:Looks (model prog w) hp (isInstance (.ref x) (.type "object")) true:=I.type.andThen (looks_mroIn X (by unfold mroIn;rw [hc,Option.bind_some,if_neg (by rw [ne];decide),hm];simp [excMro]))
  have hmro:Looks (model prog w) hp (mroOf (.ref C)) cd.mro:=(looks_clsIn X hc).andThen .now
  refine set_plain X I hk.sa (codeAny_call_builtin SF.slot.plain SF.entry ?_)
  refine @check_slot (model prog w) _ _ ⟨hp,g,d,t+1,os⟩ "object.__setattr__" "object" "__setattr__" (.ref x) [.str name t,v] [] _ SF.kind SF.split sub (SF.args (.ref x) (.str name t) v) ?_
  rw [osa_eq,refuse_eq]
  refine wpAny_bind (wpAny_bind (I.type.at ?_))
  refine wpAny_bind (hmro.at ?_)
  rw [hm]
  unfold excMro
  rw [refuseLoop_ref,PySem.F.store_Exception.passes]
  exact wpAny_pure (wpAny_bind (I.type.at (wpAny_bind ((looks_findIn X hk.own).at (wpAny_bind (wpAny_pure (h _ _ _ fun s' q=>q)))))))
end
theorem ERs.putL {H:Params} {P:Addr→Obj→Prop} {es:List DictEntry} {kvs:List (List Nat×V)} (h:ERs H P es kvs) (k:List Nat) {v:Value} {y:V} (r:VR H P v y) (t:Tok):
    ERs H P (W.putL (toStr k) (PyData.keyHash H (toStr k)) (.str (toStr k) t) v es) (dput kvs k y):=by
  induction kvs generalizing es with
  | nil=>rw [h.nil?];exact .cons rfl rfl r .nil
  | cons p q ih=>
    obtain ⟨k',x⟩:=p
    obtain ⟨e,es,t',rfl,h1,h2,h3,h4⟩:=h.cons?
    unfold W.putL;rw [dput_cons]
    by_cases hk:k'=k
    · subst hk
      rw [if_pos (show e.key.isStr (toStr k')=true by rw [isStr_eq,h1];exact isStrOf_toStr k' t'),if_pos rfl]
      exact .cons (e:=⟨e.hash,e.key,v⟩) h1 h2 r h4
    · rw [if_neg (show ¬ e.key.isStr (toStr k)=true by rw [isStr_eq,h1,isStrOf_ne hk];exact Bool.false_ne_true),if_neg hk]
      exact .cons h1 h2 h3 (ih h4)
inductive DPut (H:Params) (P:Addr→Obj→Prop) (es:List DictEntry) (k:List Nat) (v:Value) (t:Tok) (kvs':List (List Nat×V)):Option Nat→Prop
  | some {i:Nat}:ERs H P (es.modify i fun e=>{ e with val:=v }) kvs'→DPut H P es k v t kvs' (.some i)
  | none:ERs H P (es++[⟨PyData.keyHash H (toStr k),.str (toStr k) t,v⟩]) kvs'→DPut H P es k v t kvs' .none
theorem mapDict_of {f:Array DictEntry→Array DictEntry} {es es':List DictEntry} {k:Nat} (h:f es.toArray=es'.toArray):Obj.mapDict f (dictOf es k)=dictOf es' k:=congrArg (fun z=>({ cls:=.type "dict",dict:=none,data:=.dict z k }:Obj)) h
theorem mapDictKeys_of {f:Array DictEntry→Array DictEntry} {es es':List DictEntry} {k:Nat} (h:f es.toArray=es'.toArray):Obj.mapDictKeys f (dictOf es k)=dictOf es' (k+1):=congrArg (fun z=>({ cls:=.type "dict",dict:=none,data:=.dict z (k+1) }:Obj)) h
theorem ERs.put {H:Params} {P:Addr→Obj→Prop} {es:List DictEntry} {kvs:List (List Nat×V)} (h:ERs H P es kvs) (k:List Nat) {v:Value} {y:V} (r:VR H P v y) (t:Tok):
    DPut H P es k v t (dput kvs k y) (es.findIdx? fun e=>Value.isStrOf (toStr k) e.key):=by
  induction kvs generalizing es with
  | nil=>rw [h.nil?];exact .none (.cons rfl rfl r .nil)
  | cons p q ih=>
    obtain ⟨k',x⟩:=p
    obtain ⟨e,es,t',rfl,h1,h2,h3,h4⟩:=h.cons?
    rw [List.findIdx?_cons]
    rw [dput_cons]
    by_cases hk:k'=k
    · subst hk
      rw [if_pos (show Value.isStrOf (toStr k') e.key=true by rw [h1];exact isStrOf_toStr k' t'),if_pos rfl]
      exact .some (.cons (e:={ e with val:=v }) h1 h2 r h4)
    · rw [if_neg (show ¬ Value.isStrOf (toStr k) e.key=true by rw [h1,isStrOf_ne hk];exact Bool.false_ne_true),if_neg hk]
      exact DPut.rec (motive:=fun o zz=>DPut H P (e::es) k v t ((k',x)::dput q k y) (o.map fun i=>i+1)) (fun a=>.some (.cons h1 h2 h3 a)) (fun a=>.none (.cons h1 h2 h3 a)) (ih h4)
section
variable {c:Cx} {n:Nat} {T:Tab} {fz fz0:List (Addr×Obj)} {F:Fm} {st:St} {m:Str→Option Value} {oc kp:List (Addr×Obj)} {s:Shared} {E:PE} {v:Value} {y:V} {xs:List V} {Q:QV} {A:Around}
theorem dictSet_E {P:Addr→Obj→Prop} {d:Addr} {es:List DictEntry} {k0:Nat} {kvs:List (List Nat×V)} {k:List Nat} {t:Tok} {Q:Unit→Shared→Prop} (ho:s.heap.get? d=some (dictOf es k0)) (h:ERs c.H P es kvs) (r:VR c.H P v y) (hlen:kvs.length≤LIM)
    (hQ:∀(f:Obj→Obj) es' k1,f (dictOf es k0)=dictOf es' k1→ERs c.H P es' (dput kvs k y)→Q () { s with heap:=s.heap.update d f,toks:=s.toks+1 }):
    wpAny c.M A (dictSet d (.str (toStr k) t) v) Q E s:=by
  have hk:=h.keysOf (prog:=c.prog) (w:=c.w) rfl
  have hkey:(PySem.strKind c.prog c.w).is (toStr k) (.str (toStr k) t)=true:=isStrOf_toStr k t
  have hes:es.toArray.size≤sizeLine:=by rw [List.size_toArray,h.length,sizeLine_is];exact hlen
  have hp:=h.put k r t
  unfold dictSet
  refine wpAny_holding (wpAny_bind ((PySem.strKind c.prog c.w).pyHash hkey ?_))
  unfold dictSetHashed
  refine wpAny_holding (wpAny_bind (wpAny_dictFind_of (s:={ s with toks:=s.toks+1 }) hkey ho rfl hk ?_))
  have hidx:(es.toArray.findIdx? fun e=>(PySem.strKind c.prog c.w).is (toStr k) e.key)=es.findIdx? fun e=>Value.isStrOf (toStr k) e.key:=by simp;rfl
  rw [hidx]
  generalize es.findIdx? (fun e=>Value.isStrOf (toStr k) e.key)=o at hp ⊢
  cases hp with
  | @some i hp=>
    refine wpAny_bind (wpAny_rule (wpAny_bind (wpAny_updateDict (s:={ s with toks:=s.toks+1 }) ho rfl (wpAny_point (hQ _ (es.modify i fun e=>{ e with val:=v }) k0 ?_ hp)))))
    exact mapDict_of (by simp)
  | none hp=>
    refine wpAny_bind (wpAny_rule (wpAny_updateDictKeys (hz:=hes) (s:={ s with toks:=s.toks+1 }) ho rfl (hQ _ (es++[⟨PyData.keyHash c.H (toStr k),.str (toStr k) t,v⟩]) (k0+1) ?_ hp)))
    exact mapDictKeys_of (by simp;rfl)
theorem setItem_E {P:Addr→Obj→Prop} {d:Addr} {es:List DictEntry} {k0:Nat} {kvs:List (List Nat×V)} {k:List Nat} {t:Tok} {Q:Unit→Shared→Prop} (ho:s.heap.get? d=some (dictOf es k0)) (h:ERs c.H P es kvs) (r:VR c.H P v y) (hlen:kvs.length≤LIM)
    (hQ:∀(f:Obj→Obj) es' k1,f (dictOf es k0)=dictOf es' k1→ERs c.H P es' (dput kvs k y)→Q () { s with heap:=s.heap.update d f,toks:=s.toks+1 }):
    wpAny c.M A (setItem (.ref d) (.str (toStr k) t) v) Q E s:=by
  have hm:=h.mapOf (prog:=c.prog) (w:=c.w) rfl ho
  unfold setItem
  refine wpAny_holding (wpAny_bind (wpAny_sequenceKey hm.typeIs (by decide) ?_))
  refine wpAny_bind (wpAny_callSpecial?_slot (name:=Str.ofString "__setitem__") hm.typeIs slot_dict_setitem
    (wpAny_call_entry slot_dict_setitem hm.typeIs entry_dict_setitem ?_ (args_dict_setitem _ _ _)))
  show wpAny _ _ (Builtin.Dict.notOrdered "__setitem__" ⟨[.ref d,.str (toStr k) t,v],[]⟩ >>= _) _ _ s
  refine wpAny_bind (wpAny_notOrdered_dict hm.typeIs ?_)
  show wpAny _ _ (dictSet d (.str (toStr k) t) v >>= _) _ _ s
  exact wpAny_bind (dictSet_E ho h r hlen fun f es' k1 e1 e2=>wpAny_pure ⟨.none,rfl,wpAny_pure (hQ f es' k1 e1 e2)⟩)
theorem UpdMk {l1 l2 r:List (Addr×Obj)} {d:Addr} {o o':Obj} (h1:∀p∈l1,p.1≠d) (h2:∀p∈l2++r,p.1≠d):W.Upd d o o' (l1++(d,o)::l2++r) (l1++(d,o')::l2++r):=by
  induction l1 with
  | nil=>exact .head h2
  | cons p l1 ih=>exact .tail (h1 p (.head _)) (ih fun q hq=>h1 q (.tail _ hq))
theorem two_parts {l1 l2:List (Addr×Obj)} {p q:Addr×Obj}:l1++([p,q]++l2)=(l1++[p])++q::l2:=by rw [List.append_assoc];rfl
theorem satr_inst (hT:T.Ok c) (x:Now c F st fz s) (sub:Sub fz0 fz) {a C:Addr} {ats:List (List Nat×V)} {nm:List Nat} {Q:PS} {own':Own} (r:c.R fz v y) (u:Upd a (.inst C ats) (.inst C (dput ats nm y)) st.own own') (h0:T.attr C nm=true) (hl:ats.length≤900)
    (h:Q ⟨st.loc,own'⟩):wpAny c.M F.A (setAttr (.ref a) (toStr nm) v) (fun zz s'=>PostU c F fz0 Q s') E s:=by
  cases x with | @mk m oc kp x=>
  obtain ⟨_,ok⟩:=hT.attr _ _ h0
  unfold satrOk at ok
  obtain ⟨ok,h4⟩:=and2 ok
  obtain ⟨ok,h3⟩:=and2 ok
  obtain ⟨h1,h2⟩:=and2 ok
  obtain ⟨rfl,hx,hu⟩:=x.ow.find u
  cases hx.inst? with
  | @mk d es k sl p2=>
    have I:W.InstAt s.heap a ⟨.ref C,some d,.plain,sl⟩ C (some (dictOf es k)):=.of_news x.nw (List.mem_append_left _ (List.mem_append_right _ (.head _))) (List.mem_append_left _ (List.mem_append_right _ (.tail _ (.head _))))
    have x':=x
    rw [two_parts] at x'
    have U:=UpdMk (r:=fz++kp) (o:=dictOf es k) (o':=dictOf (W.putL (toStr nm) (PyData.keyHash c.H (toStr nm)) (.str (toStr nm) (s.toks+1)) v es) (putN (toStr nm) es k)) x'.apart.1 x'.apart.2
    have hsome:(W.getL (toStr nm) es).isSome=true:=DL.rec (motive:=fun zz zz=>(W.getL (toStr nm) es).isSome=true) (fun e zz=>by rw [e];rfl) (fun e=>by rw [e];rfl) (p2.getL nm)
    refine set_dict x'.fr c.X x'.nw I rfl (beq_iff_eq.mp h1) h2 (beq_iff_eq.mp h3) h4 hsome rfl U (by exact Nat.le_trans (putL_len (toStr nm) (PyData.keyHash c.H (toStr nm)) (s.toks+1) v es) (by have:=p2.length;lia)) fun h' F' N'=>?_
    have hown:=hu _ (.inst (d:=d) (n:=putN (toStr nm) es k) (sl:=sl) (p2.putL nm r (s.toks+1)))
    rw [two_parts] at hown
    exact .mk (.mk (x'.updK (s.toks+2) F' N' hown)) sub h
theorem hasCls {K:Frag} {C:Addr} (hh:hasDictIn K C=true):∃cd,clsIn K C=some cd∧cd.hasDict=true:=any_some hh
theorem satr_exc (hT:T.Ok c) (x:Now c F st fz s) (sub:Sub fz0 fz) {a C:Addr} {ats:List (List Nat×V)} {nm:List Nat} {Q:PS} {fr:Bool} {own':Own} (r:c.R fz v y) (u:Upd a (.exc fr C ats) (.exc fr C (dput ats nm y)) st.own own') (h0:T.attx C nm=true) (hl:ats.length≤900)
    (h:Q ⟨st.loc,own'⟩):wpAny c.M F.A (setAttr (.ref a) (toStr nm) v) (fun zz s'=>PostU c F fz0 Q s') E s:=by
  obtain ⟨x⟩:=x
  have ok:=AttX.of (hT.attx _ _ h0).1
  obtain ⟨cd,hc,hd⟩:=hasCls ok.dict
  have X:=c.X.keeps x.fr.keep
  obtain ⟨rfl,hx,hu⟩:=x.ow.find u
  rename_i l1 l l2
  cases hx.exc? with
  | @exc d es k _ sl vs p2 hv hfr=>
    have x':=x
    rw [two_parts] at x'
    have hx:=x.own (List.mem_append_right _ (.head _))
    have hdx:=x.own (List.mem_append_right _ (.tail _ (.head _)))
    refine exc_set_open (od:=some (dictOf es k)) X ⟨hx,rfl,rfl,hdx⟩ ok fun A E Q' hq=>?_
    refine wpAny_bind (wpAny_bind (wpAny_loadPart hx (wpAny_bind ((looks_clsIn X hc).at ?_))))
    rw [hd]
    refine wpAny_pure (a:=some d) (storeIn_E (s:={ s with toks:=s.toks+1 }) hdx p2.noRef (by have:=p2.length;lia) (hq _ ?_))
    have hown:=hu _ (.exc (d:=d) (n:=putN (toStr nm) es k) (sl:=sl) (p2.putL nm r (s.toks+1)) hv hfr)
    rw [two_parts] at hown
    exact .mk (.mk ((x'.upd (f:=Obj.putName (toStr nm) (PyData.keyHash c.H (toStr nm)) (.str (toStr nm) (s.toks+1)) v) (putName_dict _ _ _ _ _ _) rfl hown).toks (s.toks+1+1))) sub h
  | @exc0 sl vs hv hfr=>
    have hx:=x.own (List.mem_append_right _ (.head _))
    refine exc_set_open (od:=none) X ⟨hx,rfl,rfl,trivial⟩ ok fun A E Q' hq=>?_
    refine wpAny_bind (wpAny_bind (wpAny_loadPart hx (wpAny_bind ((looks_clsIn X hc).at ?_))))
    rw [hd]
    have x1:=x.pushOwn (dictOf [] 0) (y:=.dict []) (.dict x.notMods .nil) rfl
    have hx1:=x1.own (.tail _ (List.mem_append_right _ (.head _)))
    have raw:∀o:Obj,OwnR c fz [(s.heap.objs.size,.raw o (l1++(a,⟨.ref C,some s.heap.objs.size,.fields vs,sl⟩)::l2))] ((s.heap.objs.size,o)::(l1++(a,⟨.ref C,some s.heap.objs.size,.fields vs,sl⟩)::l2)):=fun o=>by
      have:=OwnR.cons (c:=c) (fz:=fz) (a:=s.heap.objs.size) (.raw (o:=o) (l:=l1++(a,⟨.ref C,some s.heap.objs.size,.fields vs,sl⟩)::l2)) .nil
      rwa [List.append_nil] at this
    have x2:=x1.upd (l1:=(s.heap.objs.size,dictOf [] 0)::l1) (l2:=l2) (d:=a) (o:=⟨.ref C,none,.fields vs,sl⟩) (o':=⟨.ref C,some s.heap.objs.size,.fields vs,sl⟩) (f:=fun o=>{ o with dict:=some s.heap.objs.size }) rfl rfl (raw _)
    have e2:=ERs.putL (H:=c.H) (P:=At c fz) .nil nm r (s.toks+1)
    have hown:=hu _ (.exc (d:=s.heap.objs.size) (n:=putN (toStr nm) [] 0) (sl:=sl) e2 hv hfr)
    have x3:=x2.upd (l1:=[]) (l2:=l1++(a,⟨.ref C,some s.heap.objs.size,.fields vs,sl⟩)::l2) (d:=s.heap.objs.size) (o:=dictOf [] 0) (f:=Obj.putName (toStr nm) (PyData.keyHash c.H (toStr nm)) (.str (toStr nm) (s.toks+1)) v) (putName_dict _ _ _ _ _ _) rfl (raw _)
    have x4:=x3.perm (((List.perm_append_comm_assoc l1 [_,_] l2).trans (List.Perm.swap _ _ _)).trans (List.Perm.cons _ (List.perm_middle (l₁:=l1) (l₂:=l2)).symm)) hown
    refine wpAny_bind (wpAny_alloc (wpAny_bind (wpAny_update hx1 (wpAny_pure ?_))))
    refine storeIn_E (s:={ s with heap:=(s.heap.push (dictOf [] 0)).update a (fun o=>{ o with dict:=some s.heap.objs.size }),toks:=s.toks+1 }) (k:=0) (es:=[]) (x2.own (.head _)) rfl (by decide) (hq _ ?_)
    exact .mk (.mk (x4.toks (s.toks+1+1))) sub h
theorem opSetA_snd (hT:T.Ok c) (x:Now c F st fz s) (sub:Sub fz0 fz) {w:Value} {z:V} {nm:List Nat} {Q:PS} (r:c.R fz v y) (r2:c.R fz w z)
    (h:opSetA T st.own nm y z fun own=>Q ⟨st.loc,own⟩):wpAny c.M F.A (setAttr w (toStr nm) v) (fun zz s'=>PostU c F fz0 Q s') E s:=by
  obtain ⟨a,rfl,_,ats,w,own',ha,hl,hu,h⟩:=own1_inv r2 h
  cases ha with
  | inst h0 _=>exact satr_inst hT x sub r hu h0 hl h
  | exc h0 _=>exact satr_exc hT x sub r hu h0 hl h
theorem opAttr_snd (hT:T.Ok c) (x:Now c F st fz s) (sub:Sub fz0 fz) {nm:List Nat} (r:c.R fz v y) (h:opAttr T st.own nm y (fun z=>Q z st)):
    wpAny c.M F.A (getAttr v (toStr nm) true) (PostV c F fz0 Q) E s:=by
  obtain ⟨a,rfl,_,ats,w,z,ha,h1,h2,h3⟩:=own1_inv r h
  cases ha with
  | inst h0 hg=>exact opAttr_inst hT x sub h0 hg h1 h2 h3
  | exc h0 hg=>
    obtain ⟨x⟩:=x
    obtain ⟨ok,sb⟩:=hT.attx _ _ h0
    have ok:=AttX.of ok
    obtain ⟨rfl,hx,_⟩:=x.ow.find (.of_mem hg)
    cases hx.exc? with
    | exc0=>cases h1
    | @exc d es k _ sl vs p2 hv hfr=>
      have e:=p2.getL nm
      rw [h1] at e
      cases e with
      | some e rv=>exact exc_get (od:=some (dictOf es k)) (c.X.keeps x.fr.keep) ⟨x.own (List.mem_append_right _ (.head _)),rfl,rfl,x.own (List.mem_append_right _ (.tail _ (.head _)))⟩ ok.ga ok.gt sb (findObj_own ok.dict ok.own (by rfl) e) (rv.handed h2) ((Now.mk x).here sub rv h3)
theorem opSetI_snd (x:Now c F st fz s) (sub:Sub fz0 fz) {w i:Value} {z k:V} {Q:PS} (r:c.R fz v y) (r2:c.R fz w z) (r3:c.R fz i k)
    (h:opSetI st.own z k y fun own=>Q ⟨st.loc,own⟩):wpAny c.M F.A (setItem w i v) (fun zz s'=>PostU c F fz0 Q s') E s:=by
  cases x with | @mk m oc kp x=>
  have h:=own1_inv r2 h
  cases k with
  | int i=>
    obtain ⟨d,rfl,_,h⟩:=h
    obtain ⟨t,rfl⟩:=r3.int?
    obtain ⟨xs,own',h1,h2,h3,u,h⟩:=h
    obtain ⟨rfl,hx,hu⟩:=x.ow.find u
    cases hx.list? with
    | @mk vs kk p2=>
      refine ki_setAt (x.own (List.mem_append_right _ (.head _))) h1 (by lia) (by rw [List.size_toArray,p2.length];exact h3) ?_
      have hlist:Obj.mapSeq (·.setIfInBounds i.toNat v) (W.listOf vs.toArray kk)=W.listOf (vs.set i.toNat v).toArray kk:=by
        simp [Obj.mapSeq,W.listOf]
      exact .mk (.mk (x.upd hlist rfl (hu _ (.list (VRs.set r p2 i.toNat))))) sub h
  | str k=>
    obtain ⟨d,rfl,_,h⟩:=h
    obtain ⟨t,rfl⟩:=r3.str?
    obtain ⟨kvs,own',h1,u,h⟩:=h
    obtain ⟨rfl,hx,hu⟩:=x.ow.find u
    cases hx.dict? with
    | mk p0 p2=>exact setItem_E (x.own (List.mem_append_right _ (.head _))) p2 r h1 fun f es' k1 e1 e2=>.mk (.mk ((x.upd e1 rfl (hu _ (.dict p0 e2))).toks (s.toks+1))) sub h
  | _=>exact h.elim fun zz h=>h.2.2.elim
end
open Sem (wp)
theorem fn_ga_slot:Slot "function" "__getattribute__" "object.__getattribute__":=
  .of (owner:="object") (n:="__getattribute__") (by rw [typeLookup_type,builtinLookup_eq_fast];kernel_rfl) (by decide +kernel) (by decide +kernel) (by decide +kernel)
    (by first | exact .inl (by decide +kernel) | exact .inr (by decide +kernel)) (by rw [isSubtype_type];kernel_rfl)
theorem lk_fn_class:typeLookup (.type "function") "__class__"=pure (some (.builtin "object.__class__")):=by rw [typeLookup_type,builtinLookup_eq_fast];kernel_rfl
theorem sub_fn_class_owner:isSubtype (.type "function") (.type (".".intercalate ("object.__class__".cutAt '.').dropLast))=pure true:=by
  rw [F.owner_object_class,isSubtype_type];kernel_rfl
section
variable {prog:Program} {w:World} {A:Around} {E:PE} {h:Heap} {g:Array GenState} {d:Drawn} {t:Nat} {os:OsState} {a:Addr} {o:Obj}
theorem class_get_fn {R:Result→Shared→Prop} (hx:h.get? a=some o) (hc:o.cls=.type "function") (hq:R (.ok (.ret (.type "function"))) ⟨h,g,d,t,os⟩):
    codeAny (model prog w) A (.call (.builtin "getset_descriptor.__get__") ⟨[.builtin "object.__class__",.ref a,.type "function"],[]⟩) R ⟨h,g,d,t,os⟩:=by
  have hT:(⟨h,g,d,t,os⟩:Shared).TypeIs (.ref a) "function":=⟨_,hx,hc⟩
  have hT5:(⟨h,g,d,t,os⟩:Shared).TypeIs (.builtin "object.__class__") "getset_descriptor":=F.typeOf_object_class
  have f8:=sub_fn_class_owner
  refine codeAny_call_builtin F.slot_gs_get.plain F.entry_gs_get (F.slot_gs_get.check _ _ _ _ _ _ _ _ hT5 (F.args_gs_get _ _ _) ?_)
  repeat (any_goals (first | assumption | wp_step))
  refine ⟨Code.quiet_builtin _ (by decide +kernel),codeAny_builtin F.entry_object_class ?_⟩
  repeat (any_goals (first | assumption | wp_step))
theorem class_entry_fn {tk:Tok} {Q:Fin→Shared→Prop} (hx:h.get? a=some o) (hc:o.cls=.type "function") (hq:Q (.done (.ret (.type "function"))) ⟨h,g,d,t,os⟩):
    wpAny (model prog w) A (Builtin.«object.__getattribute__» ⟨[.ref a,.str "__class__" tk],[]⟩) Q E ⟨h,g,d,t,os⟩:=by
  have hT:(⟨h,g,d,t,os⟩:Shared).TypeIs (.ref a) "function":=⟨_,hx,hc⟩
  have hT5:(⟨h,g,d,t,os⟩:Shared).TypeIs (.builtin "object.__class__") "getset_descriptor":=F.typeOf_object_class
  have f4:=lk_fn_class
  have f5:=F.typeOf_object_class
  have f6:=F.slot_gs_get.lookup
  have f7:=F.slot_gs_set.lookup
  repeat (any_goals (first | assumption | wp_step))
  refine class_get_fn hx hc ?_
  repeat (any_goals (first | assumption | wp_step))
theorem class_call_fn {tk:Tok} {R:Result→Shared→Prop} (hx:h.get? a=some o) (hc:o.cls=.type "function") (hq:R (.ok (.ret (.type "function"))) ⟨h,g,d,t,os⟩):
    codeAny (model prog w) A (.call (.builtin "object.__getattribute__") ⟨[.ref a,.str "__class__" tk],[]⟩) R ⟨h,g,d,t,os⟩:=
  codeAny_call_builtin fn_ga_slot.plain F.entry_object_getattribute (fn_ga_slot.check _ _ _ _ _ _ _ _ (show (⟨h,g,d,t,os⟩:Shared).TypeIs (.ref a) "function" from ⟨_,hx,hc⟩) (F.args_object_getattribute_2 _ _) (class_entry_fn hx hc hq))
theorem class_by_fn {tk:Tok} {Q:PE} (hx:h.get? a=some o) (hc:o.cls=.type "function") (hq:Q (.type "function") ⟨h,g,d,t,os⟩):wpAny (model prog w) A (getAttrBy (.ref a) (.str "__class__" tk) false) Q E ⟨h,g,d,t,os⟩:=by
  have hT:(⟨h,g,d,t,os⟩:Shared).TypeIs (.ref a) "function":=⟨_,hx,hc⟩
  have f2:=fn_ga_slot.lookup
  have f3:=fn_ga_slot.bind (.ref a)
  repeat (any_goals (first | assumption | wp_step))
  refine class_call_fn hx hc ?_
  repeat (any_goals (first | assumption | wp_step))
theorem class_attr_fn {Q:Option Value→Shared→Prop} (hx:h.get? a=some o) (hc:o.cls=.type "function") (hq:Q (some (.type "function")) ⟨h,g,d,t+1,os⟩):wpAny (model prog w) A (getAttr? (.ref a) "__class__") Q E ⟨h,g,d,t,os⟩:=by
  unfold getAttr? getAttrBy?
  repeat (any_goals (first | assumption | with_reducible apply class_by_fn hx hc | wp_step))
theorem isinstance_nested_false_fn {T:String} {dep:Int} {tk:Tok} {Q:Fin→Shared→Prop} (hx:h.get? a=some o) (hc:o.cls=.type "function") (hne:(Value.type "function" == Value.type T)=false) (hty:typeOf (.type T)=pure (.type "type"))
    (hsub:isSubtype (.type "function") (.type T)=pure false) (hq:Q (.done (.ret (.bool false))) ⟨h,g,d,t+1,os⟩):
    wpAny (model prog w) A (Builtin.«isinstance.nested» ⟨[.ref a,.type T,.int dep tk],[]⟩) Q E ⟨h,g,d,t,os⟩:=by
  have hT:(⟨h,g,d,t,os⟩:Shared).TypeIs (.ref a) "function":=⟨_,hx,hc⟩
  repeat (any_goals (first | assumption | with_reducible apply class_attr_fn hx hc | wp_step))
end
section
variable {prog:Program} {w:World} {A:Around} {E:PE} {s:Shared}
theorem sub_fn_tuple:isSubtype (.type "function") (.type "tuple")=pure false:=by rw [isSubtype_type];kernel_rfl
theorem isi_fn_tuple {a:Addr} {o:Obj} {Q:PE} (hx:s.heap.get? a=some o) (hc:o.cls=.type "function") (h:Q (.bool false) { s with toks:=s.toks+1 }):wpAny (model prog w) A (call (.builtin "isinstance") [.ref a,.type "tuple"]) Q E s:=
  call_isinstance (S:=fun zz R s=>(∃o,s.heap.get? a=some o∧o.cls=.type "function")∧R (.ok (.ret (.bool false))) { s with toks:=s.toks+1 })
    (fun zz zz zz zz zz hs=>isinstance_outer (by obtain ⟨⟨o,h1,h2⟩,h3⟩:=hs;exact isinstance_nested_false_fn h1 h2 (by decide) F.isi_meta_tuple sub_fn_tuple h3) (by intro e;cases e)) ⟨⟨o,hx,hc⟩,h⟩
theorem check_init_own {M:Model} {K:Frag} {C e:Addr} {ob:Obj} {rest:List Value} {Q:Unit→Shared→Prop} (X:K.In s.heap) (he:s.heap.get? e=some ob) (hc:ob.cls=.ref C) (hd:hasDictIn K C=true) (hs:subIn K (.ref C) (.type "Exception")=some true) (hQ:Q () s):
    wpAny M A (checkBuiltinCall "Exception.__init__" ⟨.ref e::rest,[]⟩) Q E s:=by
  have hcl:=excClass_Exception
  have hty:Looks M s.heap (typeOf (.ref e)) (.ref C):=by rw [← hc];exact (Looks.ld he).andThen .now
  have hsub:Looks M s.heap (isInstance (.ref e) (.type "Exception")) true:=hty.andThen (looks_subIn X hs)
  obtain ⟨nm,hnm⟩:=mc_name X hd (M:=M)
  obtain ⟨hp,g,d,t,os⟩:=s
  simp only [checkBuiltinCall,hcl.initKind,hcl.initSplit,hcl.initSig]
  refine wpAny_bind (hsub.at ?_)
  simp only [Bool.not_true,Bool.false_eq_true,if_false]
  unfold Bind.checkArgs
  dsimp only
  refine wpAny_bind (m:=Bind.printed "*" true _ _) ?_
  · unfold Bind.printed Bind.receiverType
    rw [if_neg (by decide)]
    refine wpAny_bind (m:=(if (Manifest.Receiver.self == Manifest.Receiver.cls)=true then pure _ else typeOf _)) ?_
    rw [if_neg (by decide)]
    refine hty.at ?_
    refine wpAny_bind (hnm.at ?_)
    refine wpAny_pure ?_
    refine wpAny_bind (m:=Bind.printed "Exception" false ⟨.positional,"*","Exception",.self,[]⟩ none) (printed_name hcl.notStar ?_)
    show wpAny M A (Sem.onRaise (Bind.check _ _ "Exception" _ []) _) Q E _
    rw [check_varPos]
    exact wpAny_pure hQ
theorem init_own {K:Frag} {C e:Addr} {ob:Obj} {vs:Array Value} {t0:Addr} {v:Value} {Q:PE} (X:K.In s.heap) (he:s.heap.get? e=some ob) (hc:ob.cls=.ref C) (hdd:hasDictIn K C=true) (hs:subIn K (.ref C) (.type "Exception")=some true)
    (hd:ob.data=.fields vs) (h0:vs[0]?=some (.ref t0))
    (h:Q .none { s with heap:=(s.heap.push { cls:=.type "tuple",data:=.seq #[v] }).update e (Obj.mapFields (·.setIfInBounds 0 (.ref s.heap.objs.size))) }):
    wpAny (model prog w) A (call (.builtin "Exception.__init__") [.ref e,v]) Q E s:=by
  have hcl:=excClass_Exception
  refine wpAny_call (codeAny_call_builtin hcl.init.plain hcl.initEntry (check_init_own X he hc hdd hs ?_))
  unfold Builtin.«BaseException.__init__»
  dsimp only
  rw [if_neg (by simp)]
  unfold newTuple Builtin.BaseException.bexcPut
  have hsz:0 < vs.size:=(Array.getElem?_eq_some_iff.mp h0).1
  have he₁:=Heap.get?_push_of_some (h:=s.heap) { cls:=.type "tuple",data:=.seq #[v] } he
  refine wpAny_bind (wpAny_newObj_type (wpAny_bind (wpAny_bind (wpAny_field he₁ hd h0 (wpAny_bind (wpAny_setField he₁ hd hsz ?_))))) (by size_fits))
  exact wpAny_letGo (wpAny_pure h)
end
theorem joinS_of {H:Params} {P:Addr→Obj→Prop} (sep:List Nat) {vs:List Value} {xs:List V} {t:List Nat} (r:VRs H P vs xs) (e:joinS sep xs=some t):∃l:List (Str×Tok),vs=strValues l∧Str.join (toStr sep) (l.map (·.1))=toStr t∧((l.map (·.1)).map fun z:Str=>z.length+sep.length).sum≤t.length+sep.length:=by
  induction xs generalizing vs t with
  | nil=>rw [r.nil?];cases e;exact ⟨[],rfl,rfl,Nat.zero_le _⟩
  | cons x xs ih=>
    obtain ⟨v,ws,rfl,r1,r2⟩:=r.cons?
    induction x using V.casesOn<;>try exact no_ns e
    rename_i s
    refine r1.str_el fun u=>?_
    have hs:(toStr s).length=s.length:=toStr_length s
    induction xs using List.casesOn with
    | nil=>
      obtain rfl:s=t:=Option.some.inj e
      rw [r2.nil?]
      refine ⟨[(toStr s,u)],rfl,rfl,?_⟩
      simp only [List.map_cons,List.map_nil,List.sum_cons,List.sum_nil];omega
    | cons y q=>
      obtain ⟨t',e1,rfl⟩:=map_some e
      obtain ⟨l,e1,e2,e3⟩:=ih r2 e1
      obtain ⟨w,ws,rfl,_,_⟩:=r2.cons?
      refine ⟨(toStr s,u)::l,congrArg _ e1,?_,?_⟩
      · induction l using List.casesOn with
        | nil=>cases e1
        | cons p l'=>
          show toStr s++toStr sep++Str.join (toStr sep) ((p::l').map (·.1))=_
          rw [e2,toStr_append,toStr_append,List.append_assoc]
      · simp only [List.map_cons,List.sum_cons,List.length_append,hs] at e3 ⊢
        omega
theorem joinOk {sep:List Nat} {texts:List Str} {k:Nat} (h:(texts.map fun z:Str=>z.length+sep.length).sum≤k) (hk:k≤LIM):JoinOk (toStr sep) texts=true:=by
  have e:∀(l:List Str) (a:Nat),l.foldl (fun (x:Nat) (y:Str)=>x+y.length+(toStr sep).length) a=a+(l.map fun z:Str=>z.length+sep.length).sum:=by
    intro l
    induction l with
    | nil=>intro a;rfl
    | cons y l ih=>intro a;rw [List.foldl_cons,ih,List.map_cons,List.sum_cons,toStr_length];omega
  unfold JoinOk Builtin.Str.tooLong
  rw [List.foldl_toArray,e,sizeLine_is,Bool.not_eq_true']
  exact decide_eq_false (by omega)
theorem starts_eq (a b:List Nat):Txt.startswith (toStr a) (toStr b)=b.isPrefixOf a:=by
  unfold Txt.startswith
  rw [StrLaws.subAt_eq,toStr_length,toStr_length,toStr_cps,toStr_cps,List.drop_zero,Bool.eq_iff_iff,Bool.and_eq_true,decide_eq_true_eq,beq_iff_eq,List.isPrefixOf_iff_prefix]
  exact ⟨fun h=>h.2▸List.take_prefix _ _,fun h=>⟨by have:=h.length_le;omega,(List.prefix_iff_eq_take.mp h).symm⟩⟩
theorem idxI_spec (k:Nat):∀l:List Nat,(idxI k l=-1∧∀i:Nat,l[i]?≠some k)∨∃i:Nat,idxI k l=(i:Int)∧l[i]?=some k∧∀j,j < i→l[j]?≠some k
  | []=>.inl ⟨rfl,fun i=>by simp⟩
  | x::r=>by
    rw [idxI_cons]
    by_cases hx:x=k
    · subst hx;rw [if_pos rfl];exact .inr ⟨0,rfl,by simp,fun j hj=>absurd hj (Nat.not_lt_zero _)⟩
    · rw [if_neg hx]
      rcases idxI_spec k r with ⟨h1,h2⟩ | ⟨i,h1,h2,h3⟩
      · rw [h1,if_pos (by decide)]
        refine .inl ⟨rfl,fun i=>?_⟩
        induction i using Nat.casesOn with
        | zero=>simpa using hx
        | succ i=>simpa using h2 i
      · rw [h1,if_neg (by omega)]
        refine .inr ⟨i+1,by omega,by simpa using h2,fun j hj=>?_⟩
        induction j using Nat.casesOn with
        | zero=>simpa using hx
        | succ j=>simpa using h3 j (by omega)
theorem find_eq (a:List Nat) (k:Nat):Txt.find (toStr a) (toStr [k])=idxI k a:=by
  have hat:∀i,StrLaws.At (toStr a) (toStr [k]) (toStr a).length i ↔ a[i]?=some k:=fun i=>StrLaws.subAt_one (toStr a) k i
  rcases find_whole (toStr a) (toStr [k]) with ⟨h1,h2⟩ | ⟨i,h1,h2,h3⟩<;>rcases idxI_spec k a with ⟨g1,g2⟩ | ⟨j,g1,g2,g3⟩
  · rw [h1,g1]
  · exact absurd ((hat j).mpr g2) (h2 j)
  · exact absurd ((hat i).mp h2) (g2 i)
  · rw [h1,g1]
    rcases Nat.lt_trichotomy i j with h | h | h
    · exact absurd ((hat i).mp h2) (g3 i h)
    · rw [h]
    · exact absurd ((hat j).mpr g2) (h3 j h)
theorem sumV_of {H:Params} {P:Addr→Obj→Prop} {vs:List Value} {xs:List V} {k:Int} (r:VRs H P vs xs) (e:sumV xs=some k):∃ns,IntsAre vs ns∧ns.sum=k:=by
  induction xs generalizing vs k with
  | nil=>rw [r.nil?];cases e;exact ⟨[],.nil,rfl⟩
  | cons x xs ih=>
    obtain ⟨v,ws,rfl,r1,r2⟩:=r.cons?
    induction x using V.casesOn<;>try exact no_ns e
    refine r1.int_el fun t=>?_
    obtain ⟨k',e1,rfl⟩:=map_some e
    obtain ⟨ns,h1,rfl⟩:=ih r2 e1
    exact ⟨_::ns,.cons _ t h1,rfl⟩
theorem kl_last_snoc (p:List Value) (v:Value):kl_last (p++[v])=some (p,v):=by
  induction p with
  | nil=>rfl
  | cons q p ih=>rw [List.cons_append];unfold kl_last;rw [ih]
theorem VRs.snoc? {H:Params} {P:Addr→Obj→Prop} {vs:List Value} {xs:List V} {y:V} (r:VRs H P vs (xs++[y])):∃ws v,vs=ws++[v]∧VRs H P ws xs∧VR H P v y:=by
  induction xs generalizing vs with
  | nil=>obtain ⟨v,ws,rfl,r1,r2⟩:=r.cons?;exact ⟨[],v,by rw [r2.nil?];rfl,.nil,r1⟩
  | cons x xs ih=>
    obtain ⟨v,ws,rfl,r1,r2⟩:=r.cons?
    obtain ⟨ws,w,rfl,r3,r4⟩:=ih r2
    exact ⟨v::ws,w,rfl,.cons r1 r3,r4⟩
theorem str_of_small {a:Int} (h:a.natAbs < 2 ^ 100):a.natAbs.log2 < 1920:=by
  by_cases h0:a.natAbs=0
  · rw [h0];decide
  · have:=(Nat.log2_lt h0).mpr h;omega
theorem ERs.pairs {H:Params} {P:Addr→Obj→Prop} {prog:Program} {w:World} {es:List DictEntry} {kvs:List (List Nat×V)} (h:ERs H P es kvs):∃ps:List (Str×Value),Pairs (PySem.strKind prog w) es ps∧ps.map (·.1)=kvs.map fun p=>toStr p.1:=by
  induction kvs generalizing es with
  | nil=>rw [h.nil?];exact ⟨[],.nil,rfl⟩
  | cons p r ih=>
    obtain ⟨e,es,t,rfl,h1,h2,h3,h4⟩:=h.cons?
    obtain ⟨ps,p1,p2⟩:=ih h4
    exact ⟨(toStr p.1,e.val)::ps,.cons (by show Value.isStrOf _ e.key=true;rw [h1];exact isStrOf_toStr _ t) rfl p1,congrArg _ p2⟩
theorem ERs.dictAt {H:Params} {P:Addr→Obj→Prop} {prog:Program} {w:World} (hw:H=w.params) {es:List DictEntry} {kvs:List (List Nat×V)} (h:ERs H P es kvs) (hn:(kvs.map (·.1)).Nodup) {hp:Heap} {d:Addr} {k:Nat} (ho:hp.get? d=some (dictOf es k)):
    ∃ps:List (Str×Value),hp.DictAt (PySem.strKind prog w) d ps k∧Pairs (PySem.strKind prog w) es ps∧ps.map (·.1)=kvs.map fun p=>toStr p.1:=by
  obtain ⟨ps,p1,p2⟩:=h.pairs (prog:=prog) (w:=w)
  refine ⟨ps,⟨_,_,ho,⟨rfl,rfl,rfl⟩,rfl,h.keysOf hw,by simpa using p1,?_⟩,p1,p2⟩
  rw [p2]
  have e:(kvs.map fun p=>toStr p.1)=(kvs.map (·.1)).map toStr:=by simp
  rw [e]
  exact List.Pairwise.map toStr (fun a b hab q=>hab (toStr_inj.mp q)) hn
section
variable {c:Cx} {n:Nat} {T:Tab} {fz fz0:List (Addr×Obj)} {F:Fm} {st:St} {m:Str→Option Value} {oc kp:List (Addr×Obj)} {s:Shared} {E:PE} {v:Value} {y:V} {xs:List V} {Q:QV} {A:Around}
theorem dictPop_none (x:Now c F st fz s) (sub:Sub fz0 fz) {a:List Nat} {t:Tok} {d:Addr} {es:List DictEntry} {k:Nat} {kvs:List (List Nat×V)} (p0:(d == sysModules)=false) (p1:s.heap.get? d=some (dictOf es k)) (p2:ERs c.H (At c fz) es kvs)
    (h1:dget kvs a=none) (hn:(kvs.map (·.1)).Nodup) (h:Q .non st):wpAny c.M F.A (call (.builtin "dict.pop") [.ref d,.str (toStr a) t,.none]) (PostV c F fz0 Q) E s:=by
  have e:findBy Value.isStrOf es.toArray (toStr a)=none:=by
    have:=p2.isSome a
    rw [h1] at this
    exact Option.not_isSome_iff_eq_none.mp (by rw [this];exact Bool.false_ne_true)
  obtain ⟨ps,D,p3,p4⟩:=p2.dictAt (prog:=c.prog) (w:=c.w) rfl hn p1
  refine call_meetsIn PySem.F.slot_dict_pop D.dictOf.typeIs PySem.F.entry_dict_pop (PySem.F.args_dict_pop_3 _ _ _) (meets_dict_pop_default (PySem.strKind c.prog c.w) (k:=toStr a) (key:=.str (toStr a) t) d (isStrOf_toStr a t) p0 rfl .none) ⟨ps,D.dictOf,?_,x.here sub .non h⟩
  rw [← p3.find,← e]
  unfold findBy;rw [List.find?_toArray];rfl
theorem excInit_snd (hT:T.Ok c) (x:Now c F st fz s) (sub:Sub fz0 fz) {a C:Addr} {ats:List (List Nat×V)} (hg:(a,.exc true C ats)∈st.own) (h1:T.exc C=true) (h:Q .non st):
    wpAny c.M F.A (call (.builtin "Exception.__init__") [.ref a,v]) (PostV c F fz0 Q) E s:=by
  obtain ⟨x⟩:=x
  obtain ⟨e1,e2⟩:=hT.exc C h1
  have X:=c.X.keeps x.fr.keep
  obtain ⟨rfl,hx,hu⟩:=x.ow.find (.of_mem hg)
  have x':=x.junk { cls:=.type "tuple",data:=.seq #[v] }
  have fr:∀{vs:Array Value},1 < vs.size→FreshVs vs→FreshVs (vs.setIfInBounds 0 (.ref s.heap.objs.size)):=fun hv f=>
    ⟨by rw [Array.getElem?_setIfInBounds_ne (by decide)];exact f.1,_,Array.getElem?_setIfInBounds_self_of_lt (by omega)⟩
  cases hx.exc? with
  | @exc d es k _ sl vs p2 hv hfr=>
    obtain ⟨f1,t0,f2⟩:=hfr rfl
    refine init_own X (x.own (List.mem_append_right _ (.head _))) rfl e1 e2 rfl f2 ?_
    exact .mk (.mk (x'.upd (d:=a) (o:=⟨.ref C,some d,.fields vs,sl⟩) (f:=Obj.mapFields (·.setIfInBounds 0 (.ref s.heap.objs.size))) rfl rfl (hu _ (.exc (d:=d) (es:=es) (n:=k) (sl:=sl) (fr:=true) p2 (by simpa using hv) fun zz=>fr hv (hfr rfl))))) sub .non h
  | @exc0 sl vs hv hfr=>
    obtain ⟨f1,t0,f2⟩:=hfr rfl
    refine init_own X (x.own (List.mem_append_right _ (.head _))) rfl e1 e2 rfl f2 ?_
    exact .mk (.mk (x'.upd (d:=a) (o:=⟨.ref C,none,.fields vs,sl⟩) (f:=Obj.mapFields (·.setIfInBounds 0 (.ref s.heap.objs.size))) rfl rfl (hu _ (.exc0 (sl:=sl) (fr:=true) (by simpa using hv) fun zz=>fr hv (hfr rfl))))) sub .non h
theorem append_snd (x:Now c F st fz s) (sub:Sub fz0 fz) {a:Addr} {own':Own} (u:Upd a (.list xs) (.list (xs++[y])) st.own own') (r:c.R fz v y) (h1:xs.length < LIM) (h:Q .non ⟨st.loc,own'⟩):
    wpAny c.M F.A (call (.builtin "list.append") [.ref a,v]) (PostV c F fz0 Q) E s:=by
  obtain ⟨x⟩:=x
  obtain ⟨rfl,hx,hu⟩:=x.ow.find u
  cases hx.list? with
  | @mk vs k p2=>
    refine append_K x.fr x.nw (UpdMk (o:=W.listOf vs.toArray k) x.apart.1 x.apart.2) (fun h' F' N'=>?_) (by rw [List.size_toArray,p2.length,sizeLine_is];omega)
    exact .mk (.mk (x.updK s.toks F' N' (by have:=hu _ (.list (vs:=vs++[v]) (n:=k+1) (p2.append (.cons r .nil)));rw [List.push_toArray];exact this))) sub .non h
theorem pop_snd (x:Now c F st fz s) (sub:Sub fz0 fz) {a:Addr} {ys:List V} {own':Own} (u:Upd a (.list (ys++[y])) (.list ys) st.own own') (hlim:ys.length < LIM) (h:Q y ⟨st.loc,own'⟩):
    wpAny c.M F.A (call (.builtin "list.pop") [.ref a]) (PostV c F fz0 Q) E s:=by
  obtain ⟨x⟩:=x
  obtain ⟨rfl,hx,hu⟩:=x.ow.find u
  cases hx.list? with
  | @mk vs k p2=>
    obtain ⟨ws,w,rfl,r1,r2⟩:=p2.snoc?
    refine kl_pop (p:=ws) (y:=w) (its:=(ws++[w]).toArray) x.fr x.nw (kl_last_snoc ws w) (UpdMk (o:=W.listOf (ws++[w]).toArray k) x.apart.1 x.apart.2) (by show (ws++[w]).length≤sizeLine;rw [List.length_append,r1.length,sizeLine_is];exact hlim) fun h' F' N'=>?_
    exact .mk (.mk (x.updK s.toks F' N' (hu _ (.list r1)))) sub r2 h
theorem arg1_inv {G:V→Prop} {vs:List Value} (r:c.Rs fz vs xs) (h:arg1 xs G):∃v y,vs=[v]∧c.R fz v y∧G y:=by
  induction xs using List.casesOn with
  | nil=>exact h.elim
  | cons x xs=>
    induction xs using List.casesOn with
    | nil=>obtain ⟨v,ws,rfl,r1,r2⟩:=r.cons?;exact ⟨v,x,by rw [r2.nil?],r1,h⟩
    | cons _ _=>exact h.elim
theorem arg2_inv {G:V→V→Prop} {vs:List Value} (r:c.Rs fz vs xs) (h:arg2 xs G):∃v w y z,vs=[v,w]∧c.R fz v y∧c.R fz w z∧G y z:=by
  induction xs using List.casesOn with
  | nil=>exact h.elim
  | cons x xs=>
    obtain ⟨v,ws,rfl,r1,r2⟩:=r.cons?
    obtain ⟨w,z,rfl,r2,h⟩:=arg1_inv r2 h
    exact ⟨v,w,x,z,rfl,r1,r2,h⟩
@[elab_as_elim] theorem arg1_el {W:List Value→Prop} {G:V→Prop} {vs:List Value} (r:c.Rs fz vs xs) (h:arg1 xs G) (k:∀v y,c.R fz v y→G y→W [v]):W vs:=by
  obtain ⟨v,y,e,r,h⟩:=arg1_inv r h
  rw [e];exact k v y r h
@[elab_as_elim] theorem arg2_el {W:List Value→Prop} {G:V→V→Prop} {vs:List Value} (r:c.Rs fz vs xs) (h:arg2 xs G) (k:∀v w y z,c.R fz v y→c.R fz w z→G y z→W [v,w]):W vs:=by
  obtain ⟨v,w,y,z,e,r,r2,h⟩:=arg2_inv r h
  rw [e];exact k v w y z r r2 h
theorem len_at (x:Now c F st fz s) (sub:Sub fz0 fz) {D:Addr} {vs:List Value} (hl:s.heap.IsList D vs.toArray) (r:c.Rs fz vs xs) (h1:xs.length≤LIM) (h:Q (.int xs.length) st):
    wpAny c.M F.A (call (.builtin "len") [.ref D]) (PostV c F fz0 Q) E s:=by
  refine call_len_list hl (by rw [List.size_toArray,r.length];unfold LIM at h1;omega) (x.here sub ?_ h)
  rw [List.size_toArray,r.length];exact .int _ _
theorem len_listy (x:Now c F st fz s) (sub:Sub fz0 fz) (r:c.R fz v y) (h:LenAt st.own y fun z=>Q z st):wpAny c.M F.A (call (.builtin "len") [v]) (PostV c F fz0 Q) E s:=by
  obtain ⟨xs,l,h1,h2⟩:=h
  obtain ⟨D,vs,rfl,hl,rs⟩:=x.listy l r
  exact len_at x sub hl rs h1 h2
theorem opLen_snd (x:Now c F st fz s) (sub:Sub fz0 fz) (r:c.R fz v y) (h:opLen st.own y fun z=>Q z st):wpAny c.M F.A (call (.builtin "len") [v]) (PostV c F fz0 Q) E s:=by
  cases y with
  | str y=>
    refine r.str_el fun t=>?_
    exact SBL.len (by rw [toStr_length];have:=h.1;unfold LIM at this;omega) (x.here sub (by rw [toStr_length];exact .int _ _) h.2)
  | tup ys=>
    refine x.tup_el r fun D vs hl rs=>?_
    refine kun_lenT hl rfl ?_ (x.here sub ?_ h.2)
    · rw [List.size_toArray,rs.length];have:=h.1;omega
    · rw [List.size_toArray,rs.length];exact .int _ _
  | _=>exact len_listy x sub r h
theorem opBi_snd (hT:T.Ok c) (hh:F.A.handled=none) (x:Now c F st fz s) (sub:Sub fz0 fz) {b:Bi} {vs:List Value} (rs0:c.Rs fz vs xs)
    (h:opBi T st.own b xs fun z own=>Q z ⟨st.loc,own⟩):wpAny c.M F.A (call b.val vs) (PostV c F fz0 Q) E s:=by
  cases b with
  | len=>refine arg1_el rs0 h fun v y r h=>?_;exact opLen_snd x sub r h
  | ord=>
    refine arg1_el rs0 h fun v y r h=>?_
    refine str1_el r h fun zz t hh=>?_;obtain ⟨k,rfl,h⟩:=hh
    exact P.ord_of_char (x.here sub (.int _ _) h)
  | abs=>
    refine arg1_el rs0 h fun v y r h=>?_
    refine int1_el r h fun i t h=>?_
    refine call_abs_int fun u tk=>x.here sub ?_ h
    rw [abs_if];exact .int _ _
  | min=>
    refine arg2_el rs0 h fun v w y z r r2 h=>?_
    refine int2_el r r2 h fun a t b u h=>?_
    refine min_two_ints hh fun h' tk hk=>.mk (x.keeps tk hk) sub ?_ h
    rw [min_if];split<;>exact .int _ _
  | max=>
    refine arg2_el rs0 h fun v w y z r r2 h=>?_
    refine int2_el r r2 h fun a t b u h=>?_
    refine max_two_ints hh fun h' tk hk=>.mk (x.keeps tk hk) sub ?_ h
    rw [max_if];split<;>exact .int _ _
  | sum=>
    refine arg1_el rs0 h fun v y r h=>?_
    obtain ⟨xs,rfl,h1,k,h2,h3⟩:=list1_inv h
    refine x.list_el r fun D vs hl rs=>?_
    obtain ⟨ns,i1,rfl⟩:=sumV_of rs h2
    obtain ⟨x⟩:=x
    exact LSm.sum_ints x.fr x.nw hh hl i1 fun h' tk t' F' N'=>.mk (.mk (x.with F' N' x.nd x.ap x.ow x.lc x.kr x.fk .refl)) sub (.int _ _) h3
  | str=>
    refine arg1_el rs0 h fun v y r h=>?_
    refine int1_el r h fun i t h=>?_
    exact P.str_of_int (str_of_small h.1) (x.here sub (VR.str _ _) h.2)
  | range=>
    refine arg1_el rs0 h fun v y r h=>?_
    refine int1_el r h fun i t hh=>?_;obtain ⟨h1,h2,h3⟩:=hh
    obtain ⟨x⟩:=x
    refine call_range_1 (.mk (.mk ((x.push _ rfl).toks _)) sub.cons ?_ h3)
    rw [toNat_eq h1]
    exact .rng (.inr (.head _))
  | isList=>
    refine arg2_el rs0 h fun v w y z r r2 h=>?_
    obtain ⟨_,rfl,h⟩:=lit1_inv r2 h
    revert r h
    refine V.casesOn y (fun zz h=>h.elim) (fun zz zz h=>h.elim) (fun zz zz h=>h.elim) (fun zi r h=>?_) (fun zi r h=>?_) (fun zz zz h=>h.elim) (fun zz zz h=>h.elim) (fun zz zz h=>h.elim) (fun zz zz h=>h.elim) (fun zz zz h=>h.elim) (fun zz zz h=>h.elim)
    · refine r.str_el fun t=>?_;exact IsiPair.str_list (x.here sub (.bool _) h)
    · obtain ⟨a,o,vs,n,rfl,p1,p2,p3,p4⟩:=r.list?;exact IsiPair.list_list (x.at p1) p2 (x.here' sub (.bool _) h)
  | isTuple=>
    refine arg2_el rs0 h fun v w y z r r2 h=>?_
    obtain ⟨_,rfl,h⟩:=lit1_inv r2 h
    induction y using V.casesOn<;>try exact h.elim
    · obtain ⟨a,o,vs,n,rfl,p1,p2,p3,p4⟩:=r.tup?;exact IsiPair.tuple_tuple (x.at p1) p2 (x.here' sub (.bool _) h)
    · obtain ⟨f,rfl,h1,h2⟩:=h
      obtain ⟨o,ho,hc⟩:=hT.fn _ h1
      rw [r.lit?]
      exact isi_fn_tuple (x.KIn _ _ ho) hc (x.here sub (.bool _) h2)
  | isCls C=>
    refine arg2_el rs0 h fun v w y z r r2 h=>?_
    obtain ⟨_,rfl,h⟩:=lit1_inv r2 h
    refine str1_el r h fun zz t hh=>?_;obtain ⟨h1,h⟩:=hh
    exact isn_call (P:=fun zz=>True) x.KIn (fun M=>Looks.of_pure rfl) (hT.isc _ h1) (by intro e;cases e) trivial str_cls (x.here sub (.bool _) h)
  | join=>
    refine arg2_el rs0 h fun v w y z r r2 h=>?_
    refine str1_el r h fun sep u hh=>?_;obtain ⟨xs,t,l,h1,h2,h3⟩:=hh
    obtain ⟨D,vs,rfl,hl,rs⟩:=x.listy l r2
    obtain ⟨l,rfl,e2,e3⟩:=joinS_of sep rs h1
    refine SC.join hl rfl (joinOk e3 h2) fun t' k=>x.here sub ?_ h3
    show VR _ _ (Value.str (Builtin.Str.glued _ _) t') _
    rw [StrLaws.glued_eq_join,e2];exact .str t t'
  | find=>
    refine arg2_el rs0 h fun v w y z r r2 h=>?_
    refine str1_el r h fun a u h=>?_
    refine str1_el r2 h fun zz t hh=>?_;obtain ⟨k,rfl,h⟩:=hh
    exact SC.find (x.here sub (by rw [find_eq];exact .int _ _) h)
  | starts=>
    refine arg2_el rs0 h fun v w y z r r2 h=>?_
    refine str1_el r h fun a u h=>?_
    refine str1_el r2 h fun b t h=>?_
    exact SC.startswith (x.here' sub (by rw [starts_eq];exact .bool _) h)
  | append=>
    refine arg2_el rs0 h fun v w y z r r2 h=>?_
    refine own1_el r h fun a hh=>?_;obtain ⟨xs,own',h1,u,h⟩:=hh
    exact append_snd x sub u r2 h1 h
  | pop=>
    refine arg1_el rs0 h fun v y r h=>?_
    refine own1_el r h fun a hh=>?_;obtain ⟨ys,z,own',h1,u,h⟩:=hh
    exact pop_snd x sub u h1 h
  | dpop=>
    induction xs using List.casesOn with
    | nil=>exact h.elim
    | cons x0 xs=>
      obtain ⟨v0,ws,rfl,r0,rs1⟩:=rs0.cons?
      refine arg2_el rs1 h fun v w y z r r2 h=>?_
      refine own1_el r0 h fun a h=>?_
      refine str1_el r h fun k t h=>?_
      obtain ⟨rfl,_,kvs,hg,h1,h2,h3⟩:=isN_inv r2 h
      obtain ⟨es,k,p0,p1,p2⟩:=x.ownDict hg
      exact dictPop_none x sub p0 p1 p2 h1 h2 h3
  | einit=>
    refine arg2_el rs0 h fun v w y z r r2 h=>?_
    refine own1_el r h fun a hh=>?_;obtain ⟨C,ats,hg,h1,h⟩:=hh
    exact excInit_snd hT x sub hg h1 h
theorem excInit_find {K:Frag}:findCls K (.type "Exception") (.type "type") (toStr [95,95,105,110,105,116,95,95])=some (.val (.builtin "Exception.__init__")):=by kernel_rfl
theorem exc_typeOf:typeOf (.type "Exception")=pure (.type "type"):=by kernel_rfl
theorem exc_stub:Manifest.isStub "Exception"=false:=by decide +kernel
theorem excMeth {prog:Program} {w:World} {A:Around} {E:PE} {s:Shared} {K:Frag} {L:Addr} {h₀:Heap} {m:Str→Option Value} {pl:Sem Bool} {Q:Value×List Value→Shared→Prop} (Fr':Fr h₀ L s.heap m) (X:K.In h₀)
    (h:Q (.builtin "Exception.__init__",[]) { s with toks:=s.toks+1 }):wpAny (model prog w) A (getMethod (.type "Exception") (toStr [95,95,105,110,105,116,95,95]) pl) Q E s:=
  method_type Fr' X exc_typeOf exc_stub excInit_find rfl h
noncomputable def Mth.name:Mth→List Nat
  | .join=>[106,111,105,110]
  | .find=>[102,105,110,100]
  | .starts=>[115,116,97,114,116,115,119,105,116,104]
  | .append=>[97,112,112,101,110,100]
  | .pop | .dpop=>[112,111,112]
  | .einit=>[95,95,105,110,105,116,95,95]
  | .user n=>n
noncomputable def KeepFn (c:Cx) (f:Fn):Prop:=match f with
  | .usr f=>keepIn c.K (.ref f)=true
  | .bi _=>True
theorem opMeth_snd (hT:T.Ok c) (x:Now c F st fz s) {mt:Mth} {pl:Sem Bool} {K:Fn→List V→Prop} {Q:Value×List Value→Shared→Prop} (r:c.R fz v y) (h:opMeth T st.own mt y K)
    (k:∀(f:Fn) vs xs t,(match f with | .bi b=>∃id,b.val=.builtin id | _=>True)→c.Rs fz vs xs→K f xs→KeepFn c f→Q (f.val,vs) { s with toks:=t }):wpAny c.M F.A (getMethod v (toStr mt.name) pl) Q E s:=by
  have kb:∀{b:Bi} {vs xs},(∃id,b.val=.builtin id)→c.Rs fz vs xs→K (.bi b) xs→Q (b.val,vs) s:=fun {b vs xs} hb r h=>k (.bi b) vs xs s.toks hb r h trivial
  cases mt with
  | join=>
    obtain ⟨a,t,rfl,rfl,h⟩:=str1_inv r h
    exact GM.join (kb ⟨_,rfl⟩ (.cons r .nil) h)
  | find=>
    obtain ⟨a,t,rfl,rfl,h⟩:=str1_inv r h
    exact GM.find (kb ⟨_,rfl⟩ (.cons r .nil) h)
  | starts=>
    obtain ⟨a,t,rfl,rfl,h⟩:=str1_inv r h
    exact GM.startswith (kb ⟨_,rfl⟩ (.cons r .nil) h)
  | append=>
    obtain ⟨a,rfl,rfl,⟨xs,hg⟩,h⟩:=own1_inv r h
    obtain ⟨x⟩:=x
    obtain ⟨e,hx,_⟩:=x.ow.find (.of_mem hg)
    cases hx.list? with
    | mk p2=>exact getMethod_list_append (x.own (p:=(a,_)) (e▸List.mem_append_right _ (.head _))) rfl rfl (kb ⟨_,rfl⟩ (.cons r .nil) h)
  | pop=>
    obtain ⟨a,rfl,rfl,⟨xs,hg⟩,h⟩:=own1_inv r h
    obtain ⟨x⟩:=x
    obtain ⟨e,hx,_⟩:=x.ow.find (.of_mem hg)
    cases hx.list? with
    | mk p2=>exact Copied.getMethod_pop_at (x.own (p:=(a,_)) (e▸List.mem_append_right _ (.head _))) rfl rfl (kb ⟨_,rfl⟩ (.cons r .nil) h)
  | dpop=>
    obtain ⟨a,rfl,rfl,⟨xs,hg⟩,h⟩:=own1_inv r h
    obtain ⟨es,kk,p0,p1,p2⟩:=x.ownDict hg
    have M:=p2.mapOf (prog:=c.prog) (w:=c.w) rfl p1
    exact getMethod_builtin M.typeIs PySem.F.plainAttrs_dict PySem.F.slot_dict_pop PySem.F.type_dict_pop M.noDict (kb ⟨_,rfl⟩ (.cons r .nil) h)
  | einit=>
    obtain ⟨_,rfl,h2⟩:=lit1_inv r h
    obtain ⟨x⟩:=x
    exact excMeth x.fr c.X (k (.bi .einit) [] [] _ ⟨_,rfl⟩ .nil h2 trivial)
  | user nm=>
    obtain ⟨x⟩:=x
    induction y using V.casesOn<;>try exact h.elim
    · rename_i a
      obtain ⟨C,ats,f,hg,h1,hf,h2⟩:=h
      obtain ⟨t1,t2,t3,t4⟩:=hT.meth _ _ _ hf
      obtain ⟨rfl,hx,_⟩:=x.ow.find (.of_mem hg)
      cases hx.inst? with
      | @mk d es kk sl p2=>
        have e:=p2.getL nm
        rw [h1] at e
        have I:W.InstAt s.heap a ⟨.ref C,some d,.plain,sl⟩ C (some (dictOf es kk)):=.of_news x.nw (List.mem_append_left _ (List.mem_append_right _ (.head _))) (List.mem_append_left _ (List.mem_append_right _ (.tail _ (.head _))))
        cases e with
        | none e=>
          rw [r.own?]
          exact method_inst x.fr c.X I t1 t2 t3 e (k (.usr f) [_] [_] s.toks trivial (.cons (.own a) .nil) h2 t4)
    · obtain ⟨C,f,rfl,hf,h2⟩:=h
      obtain ⟨t1,t2,t3,t4,t5⟩:=hT.cmeth _ _ _ hf
      rw [r.lit?]
      exact method_of_cls x.fr c.X t1 (cls_val x.fr c.X t2 t3 t4 rfl (k (.usr f) [] [] _ trivial .nil h2 t5))
theorem callV_snd (hT:T.Ok c) (ok:F.Ok c n) (hh:F.A.handled=none) (x:Now c F st fz s) (sub:Sub fz0 fz) {f:Fn} {vs:List Value} {X:XT} (r:c.Rs fz vs xs) (hE:ExcTo c F X E)
    (h:callV c n T f xs st Q X):wpAny c.M F.A (call f.val vs) (PostV c F fz0 Q) E s:=by
  cases f with
  | bi b=>exact opBi_snd hT hh x sub r h
  | usr f=>
    refine wpAny_mono (h.go F st.loc fz vs s E ok hh x r fun ev s' q=>?_) (fun v s' q=>?_) fun zz zz e=>e
    · obtain ⟨h1,h2,h3,h4,h5,h6⟩:=q
      exact hE ev s' ⟨h1,h2,h3,h4,by rw [← h5] at h6;exact h6⟩
    · obtain ⟨h1,h2,h3,h4,h5⟩:=q
      exact .mk h1 (sub.trans h2) h3 (by rw [← h4] at h5;exact h5)
end
structure Scp where
  vars:List Str
  nm:List (Str×NameKind)
  gl:List (Str×Value)
  bi:List (Str×Bi)
  marks:List (Nat×Nat)
  calls:Bool:=true
noncomputable def GlobAt (c:Cx) (x:Str) (v:Value):Prop:=nsIn c.K mainGlobals x=some (some v)∨(nsIn c.K mainGlobals x=some none∧bootBuiltins x=some v∧x≠"__name__")
structure Scp.Ok (c:Cx) (F:Fm) (S:Scp):Prop where
  vars:S.vars=F.vars
  nm:S.nm=F.env.scope.names
  gl:∀x v,S.gl.lookup x=some v→GlobAt c x v
  bi:∀x b,S.bi.lookup x=some b→GlobAt c x b.val
structure Base (c:Cx) (n:Nat) (T:Tab) (F:Fm) (S:Scp):Prop where
  ok:F.Ok c n
  hS:S.Ok c F
  hT:T.Ok c
  hh:S.calls=true→F.A.handled=none
section
variable (c:Cx) (n:Nat) (T:Tab) (F:Fm)
noncomputable def GE (me:ME) (e:Expr):Prop:=∀{st:St} {Q:QV} {X:XT} {fz s E},wpE c n T me st Q X→Now c F st fz s→ExcTo c F X E→wpAny c.M F.A (eval e F.env) (PostV c F fz Q) E s
noncomputable def GT (me:ME) (e:Expr):Prop:=∀{st:St} {Q:QB} {X:XT} {fz s E},wpT c n T me st Q X→Now c F st fz s→ExcTo c F X E→wpAny c.M F.A (isTrue e F.env (eval e F.env)) (PostB c F fz Q) E s
inductive GL:List ME→List Expr→Prop
  | nil:GL [] []
  | cons {a:ME} {e:Expr} {as:List ME} {es:List Expr}:GE c n T F a e→(∀x p,e≠.Starred x p)→GL as es→GL (a::as) (e::es)
inductive GA:List ME→List Expr→Prop
  | nil:GA [] []
  | cons {a:ME} {e:Expr} {as:List ME} {es:List Expr}:GT c n T F a e→GA as es→GA (a::as) (e::es)
end
section
variable {c:Cx} {n:Nat} {T:Tab} {F:Fm} {S:Scp} {fz fz0:List (Addr×Obj)} {st:St} {s:Shared} {E:PE} {A:Around} {X:XT}
theorem seqV {t:Sem Value} {R:QV} {G:PE} (h:wpAny c.M A t (PostV c F fz R) E s) (k:∀{v y st' fz' s'},Now c F st' fz' s'→Sub fz fz'→c.R fz' v y→R y st'→G v s'):wpAny c.M A t G E s:=
  wpAny_mono h (fun zz zz q=>PostV.rec (fun a b r q=>k a b r q) q) fun zz zz e=>e
theorem seqB {t:Sem Bool} {R:QB} {G:Bool→Shared→Prop} (h:wpAny c.M A t (PostB c F fz R) E s) (k:∀{b st' fz' s'},Now c F st' fz' s'→Sub fz fz'→R b st'→G b s'):wpAny c.M A t G E s:=
  wpAny_mono h (fun zz zz q=>PostB.rec (fun a b q=>k a b q) q) fun zz zz e=>e
theorem seqU {t:Sem Unit} {R:PS} {G:Shared→Prop} (h:wpAny c.M A t (fun zz s'=>PostU c F fz R s') E s) (k:∀{st' fz' s'},Now c F st' fz' s'→Sub fz fz'→R st'→G s'):wpAny c.M A t (fun zz s'=>G s') E s:=
  wpAny_mono h (fun zz zz q=>PostU.rec (fun a b q=>k a b q) q) fun zz zz e=>e
theorem seqVs {t:Sem (List Value)} {R:QL} {G:List Value→Shared→Prop} (h:wpAny c.M A t (PostVs c F fz R) E s) (k:∀{vs ys st' fz' s'},Now c F st' fz' s'→Sub fz fz'→c.Rs fz' vs ys→R ys st'→G vs s'):wpAny c.M A t G E s:=
  wpAny_mono h (fun zz zz q=>PostVs.rec (fun a b r q=>k a b r q) q) fun zz zz e=>e
theorem seqF {t:Sem Flow} {R:QF} {G:Flow→Shared→Prop} (h:wpAny c.M A t (PostF c F fz R) E s) (k:∀{f y st' fz' s'},Now c F st' fz' s'→Sub fz fz'→FlR c fz' f y→R y st'→G f s'):wpAny c.M A t G E s:=
  wpAny_mono h (fun zz zz q=>PostF.rec (fun a b r q=>k a b r q) q) fun zz zz e=>e
inductive Loc (st:St) (i:Nat) (K:V→Prop):Prop
  | cell {a:Addr} {v:V}:st.loc[i]?=some (some (.cell a))→(a,.cell (some v))∈st.own→K v→Loc st i K
  | val {v:V}:st.loc[i]?=some (some v)→(∀a,v≠.cell a)→K v→Loc st i K
theorem getL_inv {i:Nat} {K:V→Prop} (h:getL st i K):Loc st i K:=by
  unfold getL at h
  generalize hl:st.loc[i]?=o at h
  induction o using Option.casesOn with
  | none=>exact h.elim
  | some o=>
    induction o using Option.casesOn with
    | none=>exact h.elim
    | some v=>
      cases v with
      | cell a=>obtain ⟨v,h1,h2⟩:=h;exact .cell hl h1 h2
      | _=>exact .val hl (fun zz e=>nomatch e) h
theorem load_snd (B:Base c n T F S) (x:Now c F st fz s) (sub:Sub fz0 fz) {i:Nat} {nm:Str} (hv:S.vars[i]?=some nm) (hcd:(nm == ("__classdict__":Str))=false) {Q:QV} (h:getL st i fun v=>Q v st):
    wpAny c.M F.A (loadName F.env nm) (PostV c F fz0 Q) E s:=by
  obtain ⟨x⟩:=x
  have hv':F.vars[i]?=some nm:=B.hS.vars▸hv
  cases getL_inv h with
  | @cell a v hl hg h=>
    obtain ⟨y,hy,hr⟩:=x.lc _ _ hl
    cases hv'.symm.trans hy
    obtain ⟨rfl,hx,_⟩:=x.ow.find (.of_mem hg)
    cases hx.cellOf with
    | some ed r=>
      have ho:=x.own (List.mem_append_right _ (.head _))
      cases hr with
      | val _ _ r2=>exact absurd rfl (r2.noCell _)
      | cell hk hcl=>
        rcases hk with hk | hk
        · exact wpAny_loadName_cell B.ok.kind hk hcl ⟨_,ho,ed⟩ ((Now.mk x).here' sub r h)
        · exact wpAny_loadName_free B.ok.kind hk hcl ⟨_,ho,ed⟩ ((Now.mk x).here' sub r h) hcd
  | val hl hne h=>
    obtain ⟨y,hy,hr⟩:=x.lc _ _ hl
    cases hv'.symm.trans hy
    cases hr with
    | cell=>exact absurd rfl (hne _)
    | val hk hm r=>exact wpAny_loadName_local B.ok.kind hk x.fr.ns hm ((Now.mk x).here' sub r h)
theorem snd_loc (B:Base c n T F S) {i:Nat} {nm:Str} {pos:Pos} (hv:S.vars[i]?=some nm) (hd:(nm == ("__debug__":Str))=false) (hcd:(nm == ("__classdict__":Str))=false):GE c n T F (.loc i) (.Name nm pos):=
  fun h x hE=>wpAny_Name (load_snd B x .refl hv hcd h) hd
theorem glob_get (ok:F.Ok c n) {x:Str} {v:Value} (g:GlobAt c x v) {pos:Pos} {fz:List (Addr×Obj)} {s:Shared} {A:Around} {E:PE} (xs:Now c F st fz s) (hk:F.env.kindOf x=some .globalImplicit) (hd:(x == ("__debug__":Str))=false) {Q:PE} (h:Q v s):
    wpAny c.M A (eval (.Name x pos) F.env) Q E s:=by
  obtain ⟨xs⟩:=xs
  refine Name_function_global ok.kind hk ?_ hd
  have hG:s.heap.Ns F.env.globals c.mg:=by rw [ok.glob];exact c.T.g.keeps xs.fr.keep
  have hB:s.heap.Ns F.env.builtins c.mb:=by rw [ok.blt];exact c.T.b.keeps xs.fr.keep
  rcases g with e | ⟨e1,e2,e3⟩
  · exact loadGlobal_global hG (mg_of c.X c.T.g e) h
  · exact loadGlobal_builtin hG (mg_none_of c.X c.T.g e1) hB ((c.T.builtins _ e3).trans e2) h
theorem snd_glob (ok:F.Ok c n) {x:Str} {v:Value} (g:GlobAt c x v) (hk:F.env.kindOf x=some .globalImplicit) (hd:(x == ("__debug__":Str))=false) {pos:Pos}:GE c n T F (.glob v) (.Name x pos):=
  fun h xs hE=>glob_get ok g xs hk hd (xs.here' .refl (.lit v) h)
variable {a b d:ME} {x y z:Expr} {p:Pos}
theorem snd_bin {op:Operator} (ha:GE c n T F a x) (hb:GE c n T F b y):GE c n T F (.bin op a b) (.BinOp x op y p):=
  fun h x hE=>wpAny_BinOp (seqV (ha h x hE) fun x' sub r h'=>seqV (hb h' x' hE) fun x2 sub2 r2 h2=>opBin_snd x2 (sub.trans sub2) (r.up sub2) r2 h2)
theorem snd_cmp {op:CmpOp} (ok:F.Ok c n) (ha:GE c n T F a x) (hb:GE c n T F b y) (hm:behindInMarks op y=false):GE c n T F (.cmp op a b) (.Compare x [op] [y] p):=
  fun h x hE=>wpAny_Compare1 (seqV (ha h x hE) fun x' sub r h'=>seqV (hb h' x' hE) fun x2 sub2 r2 h2=>opCmp_snd x2 (sub.trans sub2) ok (r.up sub2) r2 h2) hm
theorem eqAsk_mono {a b:V} {K K':Bool→Prop} (h:eqAsk a b K) (hk:∀z,K z→K' z):eqAsk a b K':=by
  obtain ⟨p,q,h1,h2,h3,h4,h5⟩:=h
  exact ⟨p,q,h1,h2,h3,h4,hk _ h5⟩
theorem int1_mono {y:V} {G G':Int→Prop} (h:int1 y G) (hk:∀z,G z→G' z):int1 y G':=by
  revert h
  refine V.casesOn y (fun h=>h.elim) (fun zz h=>h.elim) (fun zi h=>?_) (fun zz h=>h.elim) (fun zz h=>h.elim) (fun zz h=>h.elim) (fun zz h=>h.elim) (fun zz h=>h.elim) (fun zz h=>h.elim) (fun zz h=>h.elim) (fun zz h=>h.elim)
  exact hk _ h
theorem str1_mono {y:V} {G G':List Nat→Prop} (h:str1 y G) (hk:∀z,G z→G' z):str1 y G':=by
  revert h
  refine V.casesOn y (fun h=>h.elim) (fun zz h=>h.elim) (fun zz h=>h.elim) (fun zi h=>?_) (fun zz h=>h.elim) (fun zz h=>h.elim) (fun zz h=>h.elim) (fun zz h=>h.elim) (fun zz h=>h.elim) (fun zz h=>h.elim) (fun zz h=>h.elim)
  exact hk _ h
theorem list1_mono {y:V} {G G':List V→Prop} (h:list1 y G) (hk:∀z,G z→G' z):list1 y G':=by
  revert h
  refine V.casesOn y (fun h=>h.elim) (fun zz h=>h.elim) (fun zz h=>h.elim) (fun zz h=>h.elim) (fun zi h=>?_) (fun zz h=>h.elim) (fun zz h=>h.elim) (fun zz h=>h.elim) (fun zz h=>h.elim) (fun zz h=>h.elim) (fun zz h=>h.elim)
  exact hk _ h
theorem tup1_mono {y:V} {G G':List V→Prop} (h:tup1 y G) (hk:∀z,G z→G' z):tup1 y G':=by
  revert h
  refine V.casesOn y (fun h=>h.elim) (fun zz h=>h.elim) (fun zz h=>h.elim) (fun zz h=>h.elim) (fun zz h=>h.elim) (fun zi h=>?_) (fun zz h=>h.elim) (fun zz h=>h.elim) (fun zz h=>h.elim) (fun zz h=>h.elim) (fun zz h=>h.elim)
  exact hk _ h
theorem isN_mono {y:V} {G G':Prop} (h:y.isN G) (hk:G→G'):y.isN G':=by
  revert h
  refine V.casesOn y (fun h=>?_) (fun zz h=>h.elim) (fun zz h=>h.elim) (fun zz h=>h.elim) (fun zz h=>h.elim) (fun zz h=>h.elim) (fun zz h=>h.elim) (fun zz h=>h.elim) (fun zz h=>h.elim) (fun zz h=>h.elim) (fun zz h=>h.elim)
  exact hk h
theorem opEq_mono {a b:V} {K K':Bool→Prop} (h:opEq a b K) (hk:∀z,K z→K' z):opEq a b K':=by
  revert h
  refine V.casesOn a (fun h=>h.elim) (fun zi h=>?_) (fun zi h=>?_) (fun zi h=>?_) (fun zi h=>?_) (fun zi h=>?_) (fun zz h=>h.elim) (fun zz h=>h.elim) (fun zz h=>h.elim) (fun zz h=>h.elim) (fun zz h=>h.elim)
  · revert h
    refine V.casesOn b (fun h=>h.elim) (fun zi h=>?_) (fun zz h=>h.elim) (fun zz h=>h.elim) (fun zz h=>h.elim) (fun zz h=>h.elim) (fun zz h=>h.elim) (fun zz h=>h.elim) (fun zz h=>h.elim) (fun zz h=>h.elim) (fun zz h=>h.elim)
    exact hk _ h
  · exact int1_mono h fun zz=>hk _
  · exact str1_mono h fun zz=>hk _
  · exact list1_mono h fun zz h=>eqAsk_mono h hk
  · exact tup1_mono h fun zz h=>eqAsk_mono h hk
theorem opInS_mono {own:Own} {a:List Nat} {b:V} {K K':Bool→Prop} (h:opInS own a b K) (hk:∀z,K z→K' z):opInS own a b K':=by
  revert h
  refine V.casesOn b (fun h=>h.elim) (fun zz h=>h.elim) (fun zz h=>h.elim) (fun zi h=>?_) (fun zi h=>?_) (fun zi h=>?_) (fun zi h=>?_) (fun zz h=>h.elim) (fun zi h=>?_) (fun zz h=>h.elim) (fun zz h=>h.elim)
  · obtain ⟨k,e,h⟩:=h;exact ⟨k,e,hk _ h⟩
  · exact h.imp id (hk _)
  · exact h.imp id (hk _)
  · exact hk _ h
  · obtain ⟨k,e,h⟩:=h;exact ⟨k,e,hk _ h⟩
theorem opIn_mono {own:Own} {a b:V} {K K':Bool→Prop} (h:opIn own a b K) (hk:∀z,K z→K' z):opIn own a b K':=by
  revert h
  refine V.casesOn a (fun h=>h.elim) (fun zz h=>h.elim) (fun zi h=>?_) (fun zi h=>?_) (fun zz h=>h.elim) (fun zz h=>h.elim) (fun zz h=>h.elim) (fun zz h=>h.elim) (fun zz h=>h.elim) (fun zz h=>h.elim) (fun zz h=>h.elim)
  · exact tup1_mono h fun zz h=>h.imp id (hk _)
  · exact opInS_mono h hk
theorem opCmp_mono {own:Own} {op:CmpOp} {a b:V} {K K':Bool→Prop} (h:opCmp own op a b K) (hk:∀z,K z→K' z):opCmp own op a b K':=by
  cases op with
  | Lt | LtE | Gt | GtE=>exact int1_mono h fun zz h=>int1_mono h fun zz=>hk _
  | Eq=>exact opEq_mono h hk
  | NotEq=>exact opEq_mono (K:=fun r=>K (!r)) (K':=fun r=>K' (!r)) h fun zz=>hk _
  | Is | IsNot=>exact isN_mono h (hk _)
  | In=>exact opIn_mono h hk
  | NotIn=>exact opIn_mono (K:=fun r=>K (!r)) (K':=fun r=>K' (!r)) h fun zz=>hk _
inductive IsB (Q:QB):QV
  | mk {b:Bool} {st:St}:Q b st→IsB Q (.bool b) st
theorem cmpT_snd (x:Now c F st fz s) (sub:Sub fz0 fz) (ok:F.Ok c n) {op:CmpOp} {va vb:Value} {a b:V} {Q:QB} (ra:c.R fz va a) (rb:c.R fz vb b) (h:opCmp st.own op a b fun z=>Q z st) {G:Bool→Shared→Prop}
    (k:∀{b st' fz' s'},Now c F st' fz' s'→Sub fz0 fz'→Sub fz fz'→Q b st'→G b s'):wpAny c.M F.A (compareOp op va vb) (fun v s₃=>wpAny c.M F.A (truthy v) G E s₃) E s:=
  seqV (opCmp_snd (Q:=IsB Q) x .refl ok ra rb (opCmp_mono h fun z hz=>.mk hz)) fun x' sub' r q=>by
    cases q with
    | mk q=>rw [r.bool?];exact wpAny_truthy_bool (k x' (sub.trans sub') sub' q)
theorem sndT_cmp {op:CmpOp} (ok:F.Ok c n) (ha:GE c n T F a x) (hb:GE c n T F b y) (hm:behindInMarks op y=false):GT c n T F (.cmp op a b) (.Compare x [op] [y] p):=
  fun h x hE=>wpAny_isTrue_Compare1 (seqV (ha h x hE) fun x' sub r h'=>seqV (hb h' x' hE) fun x2 sub2 r2 h2=>cmpT_snd x2 (sub.trans sub2) ok (r.up sub2) r2 h2 fun x3 s3 zz q=>.mk x3 s3 q) hm
theorem snd_neg (ha:GE c n T F a x):GE c n T F (.neg a) (.UnaryOp .USub x p):=
  fun h x hE=>wpAny_UnaryOp (seqV (ha h x hE) fun x' sub r h'=>by
    refine int1_el r h' fun i t h'=>?_
    exact P.neg_int (x'.here sub (.int _ _) h'))
theorem snd_not (ha:GE c n T F a x):GE c n T F (.not a) (.UnaryOp .Not x p):=
  fun {st Q X fz s E} h x hE=>wpAny_UnaryOp (seqV (ha h x hE) fun {v y st' fz' s'} x' sub r h'=>not_of (seqB (opT_snd (Q:=fun b st=>Q (.bool (!b)) st) x' sub r h') fun x2 sub2 h2=>x2.here' sub2 (.bool _) h2))
theorem snd_and (ha:GE c n T F a x) (hb:GE c n T F b y):GE c n T F (.and [a,b]) (.BoolOp .And [x,y] p):=
  fun {st Q X fz s E} h x hE=>wpAny_And2 (seqV (ha h x hE) fun {v y st' fz' s'} x' sub r h'=>seqB (opT_snd (Q:=fun t st=>ifB t (wpE c n T b st Q X) (Q y st)) x' .refl r h') fun {t _ _ _} x2 sub2 h2=>by
    cases t
    · exact x2.here' (sub.trans sub2) (r.up sub2) h2
    · exact wpAny_mono (hb h2 x2 hE) (fun zz zz p=>p.weak (sub.trans sub2)) fun zz zz e=>e)
theorem snd_or (ha:GE c n T F a x) (hb:GE c n T F b y):GE c n T F (.or [a,b]) (.BoolOp .Or [x,y] p):=
  fun {st Q X fz s E} h x hE=>wpAny_Or2 (seqV (ha h x hE) fun {v y st' fz' s'} x' sub r h'=>seqB (opT_snd (Q:=fun t st=>ifB t (Q y st) (wpE c n T b st Q X)) x' .refl r h') fun {t _ _ _} x2 sub2 h2=>by
    cases t
    · exact wpAny_mono (hb h2 x2 hE) (fun zz zz p=>p.weak (sub.trans sub2)) fun zz zz e=>e
    · exact x2.here' (sub.trans sub2) (r.up sub2) h2)
theorem snd_ite (ht:GT c n T F d z) (ha:GE c n T F a x) (hb:GE c n T F b y):GE c n T F (.ite d a b) (.IfExp z x y p):=
  fun h x hE=>wpAny_IfExp (seqB (ht h x hE) fun {r _ _ _} x2 sub2 h2=>by
    cases r
    · exact wpAny_mono (hb h2 x2 hE) (fun zz zz p=>p.weak sub2) fun zz zz e=>e
    · exact wpAny_mono (ha h2 x2 hE) (fun zz zz p=>p.weak sub2) fun zz zz e=>e)
theorem GL.len {as:List ME} {es:List Expr} (h:GL c n T F as es):es.length=as.length:=GL.rec (motive:=fun as es zz=>es.length=as.length) rfl (fun zz zz zz ih=>congrArg (·+1) ih) h
theorem GL.star {as:List ME} {es:List Expr} (h:GL c n T F as es) (env:Env):starEach es env=es.map fun e=>(false,eval e env):=by
  induction h with
  | nil=>rfl
  | @cons a e as es _ hn _ ih=>
    rw [List.map_cons,← ih]
    induction e using Expr.casesOn<;>first | rfl | exact absurd rfl (hn _ _)
theorem GL.items {as:List ME} {es:List Expr} (hl:GL c n T F as es) {pos:Pos} {st:St} {fz s} {Q:QL} (h:wpEs c n T as st Q X) (x:Now c F st fz s) (hE:ExcTo c F X E):wpAny c.M F.A (spliced (backTo pos (starEach es F.env))) (PostVs c F fz Q) E s:=by
  induction hl generalizing st fz s Q with
  | nil=>exact wpAny_items_nil (.mk x .refl .nil h)
  | cons ha hn hr ih=>
    refine wpAny_items_cons (seqV (ha h x hE) fun x' sub r h'=>seqVs (ih h' x') fun x2 sub2 r2 h2=>.mk x2 (sub.trans sub2) (.cons (r.up sub2) r2) h2) ?_
    rw [(GL.cons ha hn hr).star,hr.star];rfl
variable {as:List ME} {es:List Expr}
theorem snd_tup (hl:GL c n T F as es) {k:Nat}:GE c n T F (.tup as) (.Tuple es k p):=
  fun h x hE=>wpAny_Tuple (seqVs (hl.items h x hE) fun x' sub r h'=>⟨by rw [r.length,sizeLine_is];exact asn_le h',match x' with | .mk x'=>.mk (.mk (x'.push _ rfl)) sub.cons (.tup (.inr (.head _)) rfl rfl (r.up Sub.refl.cons)) (asn_inv h').2⟩)
theorem snd_lst (hl:GL c n T F as es):GE c n T F (.lst as) (.List es p):=
  fun h x hE=>wpAny_List (seqVs (hl.items h x hE) fun x' sub r h'=>⟨by rw [r.length,sizeLine_is];exact asn_le h',match x' with | .mk x'=>.mk (.mk (x'.push _ rfl)) sub.cons (.list (.inr (.head _)) rfl rfl (r.up Sub.refl.cons)) (asn_inv h').2⟩)
theorem snd_ownl (hl:GL c n T F as es):GE c n T F (.ownl as) (.List es p):=
  fun h x hE=>wpAny_List (seqVs (hl.items h x hE) fun {vs _ _ _ _} x' sub r h'=>⟨by rw [r.length,sizeLine_is];exact asn_le h',match x' with | .mk x'=>.mk (.mk (x'.pushOwn (W.listOf vs.toArray 0) (.list r) rfl)) sub (.own _) ((asn_inv h').2 _)⟩)
theorem snd_ownd:GE c n T F .ownd (.Dict [] [] p):=by
  intro st Q X fz s E h x hE
  obtain ⟨x⟩:=x
  rw [eval_Dict_empty]
  refine wpAny_bind (wpAny_standAt ?_)
  unfold newDict
  exact wpAny_newObj_type (.mk (.mk (x.pushOwn (dictOf [] 0) (.dict x.notMods .nil) rfl)) .refl (.own _) (h _)) (by show (#[]:Array DictEntry).size≤sizeLine+1;simp)
theorem snd_idx (ha:GE c n T F a x) (hb:GE c n T F b y) (hp:plainIdx y=true):GE c n T F (.idx a b) (.Subscript x y p):=
  fun h x hE=>Subscript_ (seqV (ha h x hE) fun x' sub r h'=>seqV (hb h' x' hE) fun x2 sub2 r2 h2=>opIdx_snd x2 (sub.trans sub2) hp (r.up sub2) r2 h2)
inductive GP (c:Cx) (n:Nat) (T:Tab) (F:Fm):ME→Option Expr→Prop
  | none:GP c n T F .non none
  | some {a:ME} {x:Expr}:GE c n T F a x→GP c n T F a (some x)
theorem GP.go {l:Option Expr} (hp:GP c n T F a l) {st:St} {Q:QV} {fz s} (h:wpE c n T a st Q X) (x:Now c F st fz s) (hE:ExcTo c F X E):wpAny c.M F.A (evalPart l F.env) (PostV c F fz Q) E s:=by
  cases hp with
  | none=>rw [evalPart_none];exact wpAny_pure (x.here' .refl .non h)
  | some hl=>rw [evalPart_some];exact hl h x hE
theorem snd_slc {l u:Option Expr} {q:Pos} (ha:GE c n T F a x) (hl:GP c n T F b l) (hu:GP c n T F d u):GE c n T F (.slc a b d) (.Subscript x (.Slice l u none q) p):=
  fun h x hE=>Subscript_ (seqV (ha h x hE) fun x1 s1 r1 h1=>wpAny_Slice (seqV (hl.go h1 x1 hE) fun x2 s2 r2 h2=>seqV (hu.go h2 x2 hE) fun x3 s3 r3 h3=>by
    rw [evalPart_none]
    exact wpAny_pure (opSlc_snd x3 (s1.trans (s2.trans s3)) ((r1.up s2).up s3) (r2.up s3) r3 h3)))
theorem snd_slcs {q:Pos} (ha:GE c n T F a x) (hl:GE c n T F b y) (hu:GE c n T F d z):GE c n T F (.slcs a b d) (.Subscript x (.Slice (some y) none (some z) q) p):=
  fun h x hE=>Subscript_ (seqV (ha h x hE) fun x1 s1 r1 h1=>wpAny_Slice (by
    rw [evalPart_some]
    refine seqV (hl h1 x1 hE) fun x2 s2 r2 h2=>?_
    rw [evalPart_none]
    refine wpAny_pure ?_
    rw [evalPart_some]
    exact seqV (hu h2 x2 hE) fun x3 s3 r3 h3=>opSlcs_snd x3 (s1.trans (s2.trans s3)) ((r1.up s2).up s3) (r2.up s3) r3 h3))
noncomputable def plainBase (e:Expr):Bool:=!(etag e).beq 16
theorem attributeBase_of {x:Expr} {nm:Str} {env:Env} {whole:Sem Value} (h:plainBase x=true):attributeBase x nm env whole=whole:=by
  induction x using Expr.casesOn<;>first | rfl | skip
  rename_i f as ks p
  induction as using List.casesOn with
  | nil=>cases h
  | cons=>induction f using Expr.casesOn<;>first | rfl | (cases ks<;>rfl)
theorem snd_attr (hT:T.Ok c) {nm:List Nat} (ho:GE c n T F a x) (hb:plainBase x=true):GE c n T F (.attr a nm) (.Attribute x (toStr nm) p):=
  fun h xs hE=>Attribute_any_ (seqV (ho h xs hE) fun x1 s1 r1 h1=>opAttr_snd hT x1 s1 r1 h1) (by
    show (do let o ← attributeBase x (toStr nm) F.env (eval x F.env);standAt p.atName;let r ← holding [o] (getAttr o (toStr nm) true);letTemporaryGo x o r;pure r)=_
    rw [attributeBase_of hb])
noncomputable def FnKeep (c:Cx) (f:Value):Prop:=keepIn c.K f=true∨(∃id,f=.builtin id)∨∃T,f=.type T
theorem callWith_snd (B:Base c n T F S) (hc:S.calls=true) (hl:GL c n T F as es) (x:Now c F st fz s) (sub:Sub fz0 fz) {pos:Pos} {f:Fn} {first:List Value} {ys:List V} {Q:QV}
    (hf:FnKeep c f.val) (rf:c.Rs fz first ys) (h:wpEs c n T as st (fun xs st=>callV c n T f (ys++xs) st Q X) X) (hE:ExcTo c F X E):
    wpAny c.M F.A (callWith pos f.val first (backTo pos (starEach es F.env)) []) (PostV c F fz0 Q) E s:=by
  have key:wpAny c.M F.A (spliced (backTo pos (starEach es F.env))) (fun vs s₁=>c.K.In s₁.heap∧wpAny c.M F.A (call f.val (first++vs)) (PostV c F fz0 Q) E s₁) E s:=
    seqVs (hl.items h x hE) fun x1 s1 r1 h1=>⟨x1.KIn,callV_snd B.hT B.ok (B.hh hc) x1 (sub.trans s1) ((rf.up s1).append r1) hE h1⟩
  have hst:=hl.star F.env
  have hplain:(backTo pos (starEach es F.env)).any (·.1)=false:=by rw [hst];unfold backTo;simp
  have hargs:wpAny c.M F.A (evalArgs f.val true (backTo pos (starEach es F.env)) []) (fun a s₁=>c.K.In s₁.heap∧wpAny c.M F.A (call f.val (first++a.pos) a.kw) (PostV c F fz0 Q) E s₁) E s:=by
    cases hl with
    | nil=>exact fun Γ p hΓ=>key Γ p hΓ
    | @cons a e as es _ _ hl=>
      have he:backTo pos (starEach (e::es) F.env)=(false,eval e F.env)::backTo pos (starEach es F.env):=by rw [hst,hl.star];rfl
      rw [he] at key ⊢
      exact evalArgs_plain key
  rcases hf with hf | ⟨id,hf⟩ | ⟨ty,hf⟩
  · exact callWith_of (by rw [hplain];rfl) (keeps_K hf) hargs
  · rw [hf] at hargs ⊢;exact callWith_builtin hplain (wpAny_mono hargs (fun zz zz q=>q.2) fun zz zz e=>e)
  · rw [hf] at hargs ⊢;exact PySem.callWith_type hplain (wpAny_mono hargs (fun zz zz q=>q.2) fun zz zz e=>e)
theorem snd_call (B:Base c n T F S) (hc:S.calls=true) {nm:Str} {q:Pos} (hF:GE c n T F a (.Name nm q)) (hl:GL c n T F as es):GE c n T F (.call a as) (.Call (.Name nm q) es [] p):=
  fun h x hE=>wpAny_Call_ofName (seqV (hF h x hE) fun x1 s1 r1 h1=>by
    obtain ⟨_,f,rfl,hk,h1⟩:=lit1_inv r1 h1
    exact callWith_snd B hc (f:=.usr f) (ys:=[]) hl x1 s1 (.inl (B.hT.keep _ hk)) .nil h1 hE)
theorem Bi.keeps (b:Bi):FnKeep c b.val:=.inr (by induction b using Bi.casesOn<;>first | exact .inl ⟨_,rfl⟩ | exact .inr ⟨_,rfl⟩)
theorem snd_bcall (B:Base c n T F S) (hc:S.calls=true) {nm:Str} {q:Pos} {bi:Bi} (g:GlobAt c nm bi.val) (hk:F.env.kindOf nm=some .globalImplicit) (hd:(nm == ("__debug__":Str))=false) (hl:GL c n T F as es):GE c n T F (.bcall bi as) (.Call (.Name nm q) es [] p):=
  fun h x hE=>wpAny_Call_ofName (glob_get B.ok g x hk hd (callWith_snd B hc (f:=.bi bi) (ys:=[]) hl x .refl bi.keeps .nil h hE))
theorem meth_eval {attr:Str} {q:Pos} {env:Env} (hl:GL c n T F as es) (hb:plainBase x=true) (hp:(p.endLine == q.line)=true) (hn:Nat.blt as.length 20=true):
    eval (.Call (.Attribute x attr p) es [] q) env=(do
      let ov ← eval x env
      standAt p.atName
      let (f,first) ← holding [ov] (getMethod ov attr (do return (← importBound x env).getD true))
      callWith q f first (backTo q (starEach es env)) []):=by
  show (do
    let ov ← attributeBase x attr env (eval x env)
    standAt p.atName
    methodCall x attr p q env ov (es.length+([]:List Keyword).length) (backTo q (starEach es env)) (backToKw q (keywordEach [] env)))=_
  rw [attributeBase_of hb]
  have hform:methodCallForm (es.length+([]:List Keyword).length) (backTo q (starEach es env)) (backToKw q (keywordEach [] env))=true:=by
    unfold methodCallForm
    have h1:(backTo q (starEach es env)).all (fun x=>!x.1)=true:=by rw [hl.star env];unfold backTo;simp
    have h2:es.length < 20:=by rw [hl.len];exact Nat.le_of_ble_eq_true hn
    have h3:backToKw q (keywordEach [] env)=[]:=rfl
    rw [h1,h3]
    simp only [List.all_nil,List.length_nil,Nat.add_zero,List.isEmpty_nil,if_true,Bool.true_and,decide_eq_true_eq]
    omega
  unfold methodCall
  rw [hform]
  have hc:∀ov,calleeOf true x env ov attr=getMethod ov attr (do return (← importBound x env).getD true):=fun zz=>rfl
  have hpos:methodCallPos true x env p q=pure q:=by
    unfold methodCallPos
    rw [hp];rfl
  simp only [hc,hpos]
  rfl
theorem snd_meth (B:Base c n T F S) (hc:S.calls=true) {mt:Mth} {q:Pos} (ho:GE c n T F a x) (hl:GL c n T F as es) (hb:plainBase x=true) (hp:(p.endLine == q.line)=true) (hn:Nat.blt as.length 20=true):
    GE c n T F (.meth a mt as) (.Call (.Attribute x (toStr mt.name) p) es [] q):=
  fun h xs hE=>MethodCall_ (seqV (ho h xs hE) fun x1 s1 r1 h1=>opMeth_snd B.hT x1 r1 h1 fun f vs ys t hb rv hk hkeep=>
    callWith_snd B hc hl (x1.toks t) s1 (match f,hb,hkeep with | .usr _,_,hk=>.inl hk | .bi _,hb,_=>.inr (.inl hb)) rv hk hE) (meth_eval hl hb hp hn)
theorem snd_frz (B:Base c n T F S) {i:Nat} {nm:Str} (hv:S.vars[i]?=some nm) (hd:(nm == ("__debug__":Str))=false) (hcd:(nm == ("__classdict__":Str))=false):GE c n T F (.frz i) (.Name nm p):=
  fun {st Q X fz s E} h x hE=>seqV (snd_loc B (pos:=p) hv hd hcd (Q:=fun v st=>own1 v fun a=>∃xs own',Del a (.list xs) st.own own'∧Q (.list xs) ⟨st.loc,own'⟩) h x hE) fun x1 s1 r1 h1=>by
    refine own1_el r1 h1 fun a hh=>?_;obtain ⟨xs,own',hd,h1⟩:=hh
    obtain ⟨x1⟩:=x1
    obtain ⟨l1,l,l2,rfl,hx,hu⟩:=x1.ow.findDel hd
    cases hx.list? with
    | @mk vs kk p2=>exact .mk (.mk (x1.freeze (o:=W.listOf vs.toArray kk) hu)) s1.cons (.list (.inr (.head _)) rfl rfl (p2.up Sub.refl.cons)) h1
theorem frzc_snd (x:Now c F st fz s) {i:Nat} {K:PS} (h:frzcL st i K):∃st' fz',Now c F st' fz' s∧Sub fz fz'∧K st':=by
  obtain ⟨ca,d,kvs,own',own'',hl,hd,hu,hk⟩:=h
  obtain ⟨x⟩:=x
  obtain ⟨l1,l,l2,rfl,hx,hu1⟩:=x.ow.findDel hd
  cases hx.dict? with
  | @mk es k p0 p2=>
    have x1:=x.freeze (o:=dictOf es k) hu1
    obtain ⟨e,hx2,hu2⟩:=x1.ow.find hu
    cases hx2.cellOf with | @some ov v _ hed hv=>
    rw [hv.own?] at hed
    have hu3:=hu2 _ (.cell (o:=ov) (v:=.ref d) (x:=.dict kvs) hed (.dict p0 (.inr (.head _)) (p2.up Sub.refl.cons)))
    exact ⟨⟨st.loc,own''⟩,_,.mk ⟨x1.fr,x1.nw,x1.nd,x1.ap,by rw [e];exact hu3,x1.lc,x1.kr,x1.fk,x1.re,x1.fb⟩,Sub.refl.cons,hk⟩
theorem snd_frzc {i:Nat} (ha:GE c n T F a x):GE c n T F (.frzc i a) x:=fun h xs hE=>by
  obtain ⟨st',fz',x',sub,h'⟩:=frzc_snd xs h
  exact wpAny_mono (ha h' x' hE) (fun zz zz p=>p.weak sub) fun zz zz e=>e
theorem sndT_val {e:Expr} (he:∀whole,isTrue e F.env whole=(do let v ← whole;standAt e.pos;holding [v] (truthy v))) {Q:QB}
    (h:wpAny c.M F.A (eval e F.env) (PostV c F fz fun v st=>opT v fun b=>Q b st) E s):wpAny c.M F.A (isTrue e F.env (eval e F.env)) (PostB c F fz Q) E s:=
  isTrue_plain (seqV h fun x1 s1 r1 h1=>opT_snd x1 s1 r1 h1) (he _)
theorem sndT_not (ha:GT c n T F a x):GT c n T F (.not a) (.UnaryOp .Not x p):=fun h xs hE=>wpAny_isTrue_Not (seqB (ha h xs hE) fun x1 s1 h1=>.mk x1 s1 h1)
theorem GA.goAnd (ha:GA c n T F as es) {st:St} {fz s} {Q:QB} (h:wpAnd c n T as st Q X) (x:Now c F st fz s) (hE:ExcTo c F X E):wpAny c.M F.A (allTrue .And es F.env) (PostB c F fz Q) E s:=by
  induction ha generalizing st fz s with
  | nil=>exact wpAny_allTrue_And_nil (.mk x .refl h)
  | cons ha _ ih=>exact wpAny_allTrue_And_cons (seqB (ha h x hE) fun {b _ _ _} x1 s1 h1=>by
      cases b
      · exact .mk x1 s1 h1
      · exact wpAny_mono (ih h1 x1) (fun zz zz p=>p.weak s1) fun zz zz e=>e)
theorem GA.goOr (ha:GA c n T F as es) {st:St} {fz s} {Q:QB} (h:wpOr c n T as st Q X) (x:Now c F st fz s) (hE:ExcTo c F X E):wpAny c.M F.A (allTrue .Or es F.env) (PostB c F fz Q) E s:=by
  induction ha generalizing st fz s with
  | nil=>exact wpAny_allTrue_Or_nil (.mk x .refl h)
  | cons ha _ ih=>exact wpAny_allTrue_Or_cons (seqB (ha h x hE) fun {b _ _ _} x1 s1 h1=>by
      cases b
      · exact wpAny_mono (ih h1 x1) (fun zz zz p=>p.weak s1) fun zz zz e=>e
      · exact .mk x1 s1 h1)
theorem sndT_and (ha:GA c n T F as es):GT c n T F (.and as) (.BoolOp .And es p):=fun h xs hE=>wpAny_isTrue_BoolOp (ha.goAnd h xs hE)
theorem sndT_or (ha:GA c n T F as es):GT c n T F (.or as) (.BoolOp .Or es p):=fun h xs hE=>wpAny_isTrue_BoolOp (ha.goOr h xs hE)
theorem isTrue_chain2 {A:Around} {s:Shared} {env:Env} {M:Model} {l r u:Expr} {o1 o2:CmpOp} {pos:Pos} {whole:Sem Value} {Q:Bool→Shared→Prop} {E:PE} (k2:behindInMarks o2 u=false)
    (h:wpAny M A (eval l env) (fun a s₁=>wpAny M A (eval r env) (fun b s₂=>wpAny M A (compareOp o1 a b) (fun v s₃=>wpAny M A (truthy v) (fun t s₄=>if t then wpAny M A (eval u env) (fun d s₅=>wpAny M A (compareOp o2 b d) (fun v2 s₆=>wpAny M A (truthy v2) Q E s₆) E s₅) E s₄ else Q false s₄) E s₃) E s₂) E s₁) E s):
    wpAny M A (isTrue (.Compare l [o1,o2] [r,u] pos) env whole) Q E s:=by
  refine isTrue_chain (wpAny_mono h (fun a s₁ h₁=>test_link (wpAny_mono h₁ (fun b s₂ h₂=>wpAny_mono h₂ (fun v s₃ h₃=>wpAny_mono h₃ (fun t s₄ h₄=>?_) fun zz zz e=>e) fun zz zz e=>e) fun zz zz e=>e)) fun zz zz e=>e) (by simpa [lastMarks] using k2)
  cases t
  · exact h₄
  · exact test_last h₄
theorem sndT_cmp2 {o1 o2:CmpOp} {u:Expr} {e:ME} (ok:F.Ok c n) (ha:GE c n T F a x) (hb:GE c n T F b y) (hd:GE c n T F e u) (hm:behindInMarks o2 u=false):GT c n T F (.cmp2 o1 o2 a b e) (.Compare x [o1,o2] [y,u] p):=
  fun {st Q X fz s E} h x hE=>isTrue_chain2 hm (seqV (ha h x hE) fun x1 s1 r1 h1=>seqV (hb h1 x1 hE) fun {_ y2 _ _ _} x2 s2 r2 h2=>
    cmpT_snd (Q:=fun z st=>ifB z (wpE c n T e st (fun u st=>opCmp st.own o2 y2 u fun z=>Q z st) X) (Q false st)) x2 (s1.trans s2) ok (r1.up s2) r2 h2 fun {t _ _ _} x3 s3 s23 h3=>by
      cases t
      · exact .mk x3 s3 h3
      · exact seqV (hd h3 x3 hE) fun x4 s4 r4 h4=>cmpT_snd (Q:=Q) x4 (s3.trans s4) ok ((r2.up s23).up s4) r4 h4 fun x5 s5 zz h5=>.mk x5 s5 h5)
end
section
variable {c:Cx} {n:Nat} {T:Tab} {F:Fm} {S:Scp} {fz fz0:List (Addr×Obj)} {st:St} {m:Str→Option Value} {oc kp:List (Addr×Obj)} {s:Shared} {E:PE} {A:Around} {X:XT}
theorem dput_new {kvs:List (List Nat×V)} {k:List Nat} {y:V} (h:k ∉ kvs.map (·.1)):dput kvs k y=kvs++[(k,y)]:=by
  induction kvs with
  | nil=>rfl
  | cons p r ih=>
    rw [List.map_cons,List.mem_cons,not_or] at h
    rw [dput_cons]
    rw [if_neg (fun e=>h.1 e.symm),ih h.2];rfl
noncomputable def LitOk (c:Cx) (n:Nat) (T:Tab) (me:ME):Prop:=∀{x:V} {st:St} {Q:QV} {X:XT},litV me=some x→Q x st→wpE c n T me st Q X
noncomputable def LitsOk (c:Cx) (n:Nat) (T:Tab) (me:List ME):Prop:=∀{x:List V} {st:St} {Q:QL} {X:XT},litVs me=some x→Q x st→wpEs c n T me st Q X
theorem lit_some {x y:V} {st:St} {Q:QV} (h:some x=some y) (q:Q y st):Q x st:=Option.some.inj h▸q
theorem lit_lim {es:List ME} (ih:LitsOk c n T es) {w:List V→V} {x:V} {st:St} {Q:QV} (h:((litVs es).bind fun xs=>if xs.length≤LIM then some (w xs) else none)=some x) (q:Q x st):wpEs c n T es st (fun xs st=>asn (Nat.ble xs.length LIM) (Q (w xs) st)) X:=by
  obtain ⟨xs,e,h⟩:=bind_some h
  by_cases hl:xs.length≤LIM
  · rw [if_pos hl] at h;exact ih e (asn_i (Nat.ble_eq_true_of_le hl) (lit_some h q))
  · rw [if_neg hl] at h;cases h
theorem negV_inv {o:Option V} {x:V} (h:negV o=some x):∃i,o=some (.int i)∧x=.int (-i):=by
  induction o using Option.casesOn with
  | none=>cases h
  | some y=>induction y using V.casesOn<;>first | exact no_ns h | exact ⟨_,rfl,(Option.some.inj h).symm⟩
theorem litV_wp (me:ME):LitOk c n T me:=ME.rec (motive_1:=fun me=>LitOk c n T me) (motive_2:=fun es=>LitsOk c n T es)
  (fun zz zz zz zz zz h zz=>nomatch h) (fun zz zz zz zz zz h q=>lit_some h q) (fun zz zz zz zz zz h q=>lit_some h q) (fun zz zz zz zz zz h q=>lit_some h q) (fun zz zz zz zz zz h q=>lit_some h q) (fun h q=>lit_some h q)
  (fun zz zz zz zz zz zz zz zz zz h zz=>nomatch h) (fun a ih x st Q X h q=>by obtain ⟨i,e,rfl⟩:=negV_inv h;exact ih e q) (fun zz zz zz zz zz zz h zz=>nomatch h) (fun zz zz zz zz zz zz h zz=>nomatch h) (fun zz zz zz zz zz zz h zz=>nomatch h) (fun zz zz zz zz zz zz zz zz zz h zz=>nomatch h) (fun zz zz zz zz zz zz zz zz zz zz zz zz h zz=>nomatch h) (fun zz zz zz zz zz zz zz zz zz zz h zz=>nomatch h)
  (fun es ih zz zz zz zz h q=>lit_lim ih h q) (fun es ih zz zz zz zz h q=>lit_lim ih h q) (fun zz zz zz zz zz zz h zz=>nomatch h) (fun zz zz zz zz zz zz zz h zz=>nomatch h) (fun h zz=>nomatch h) (fun zz zz zz zz zz zz zz zz h zz=>nomatch h) (fun zz zz zz zz zz zz zz zz zz zz h zz=>nomatch h) (fun zz zz zz zz zz zz zz zz zz zz h zz=>nomatch h) (fun zz zz zz zz zz zz zz h zz=>nomatch h) (fun zz zz zz zz zz zz zz zz h zz=>nomatch h) (fun zz zz zz zz zz zz zz h zz=>nomatch h) (fun zz zz zz zz zz zz zz zz zz h zz=>nomatch h) (fun zz zz zz zz zz zz zz zz zz zz zz h zz=>nomatch h) (fun zz zz zz zz zz h zz=>nomatch h) (fun zz zz zz zz zz zz zz h zz=>nomatch h)
  (fun {x st Q X} h q=>by obtain rfl:=Option.some.inj h;exact q) (fun a r i1 i2 {x st Q X} h q=>by obtain ⟨y,e1,h⟩:=bind_some h;obtain ⟨ys,e2,rfl⟩:=map_some h;exact i1 e1 (i2 e2 q)) me
inductive KsR:List (List Nat)→List (Option Expr)→Prop
  | nil:KsR [] []
  | cons {k:List Nat} {ks:List (List Nat)} {kx:List (Option Expr)} {q:Nat} {p:Pos}:KsR ks kx→KsR (k::ks) (some (.Constant (.str (toStr k)) q p)::kx)
inductive PairsR (c:Cx) (fz:List (Addr×Obj)):List (Value×Value)→List (List Nat)→List V→Prop
  | nil:PairsR c fz [] [] []
  | cons {k:List Nat} {t:Tok} {v:Value} {y:V} {ps:List (Value×Value)} {ks:List (List Nat)} {xs:List V}:c.R fz v y→PairsR c fz ps ks xs→PairsR c fz ((.str (toStr k) t,v)::ps) (k::ks) (y::xs)
theorem exNone {E:PE} {F:Fm}:ExcTo c F (fun zz zz=>False) E:=fun ev s' ⟨_,_,_,_,f⟩=>f.elim
theorem pairs_snd {ks:List (List Nat)} {kx:List (Option Expr)} {vs:List ME} {vx:List Expr} {xs:List V} {pos:Pos} (hk:KsR ks kx) (hg:GL c n T F vs vx) (hx:litVs vs=some xs) (hl:ks.length=vs.length) {fz s} {Q:List (Value×Value)→Shared→Prop} (x:Now c F st fz s)
    (hQ:∀{ps fz' s'},Now c F st fz' s'→Sub fz fz'→PairsR c fz' ps ks xs→Q ps s'):wpAny c.M F.A (evalPairs (pairTrees kx vx F.env pos)) Q E s:=by
  induction hk generalizing vs vx xs fz s Q with
  | nil=>
    cases hg with
    | nil=>cases hx;exact evalPairs_nil (hQ x .refl .nil)
    | cons=>cases hl
  | cons hk ih=>
    cases hg with
    | nil=>cases hl
    | @cons a e as es ha hn hg=>
      obtain ⟨y,e1,hx⟩:=bind_some hx
      obtain ⟨ys,e2,rfl⟩:=map_some hx
      refine evalPairs_cons (Constant_str ?_)
      refine wpAny_bind (seqV (ha (Q:=fun z st'=>y=z∧st=st') (X:=fun zz zz=>False) (litV_wp a e1 ⟨rfl,rfl⟩) (x.toks (s.toks+1)) exNone) fun x1 s1 r1 h1=>?_)
      obtain ⟨rfl,rfl⟩:=h1
      exact wpAny_bind (wpAny_standAt (wpAny_pure (ih hg e2 (Nat.succ.inj hl) x1 fun x2 s2 r2=>hQ x2 (s1.trans s2) (.cons (r1.up s2) r2))))
theorem storeAll_snd {d:Addr} {ps:List (Value×Value)} {ks:List (List Nat)} {xs:List V} (hp:PairsR c fz ps ks xs) {kvs:List (List Nat×V)} {own:Own} {s} {Q:PUnit→Shared→Prop} (x:Now c F ⟨st.loc,(d,.dict kvs)::own⟩ fz s)
    (hn:(kvs.map (·.1)++ks).Nodup) (hl:kvs.length+ks.length≤15) (hQ:∀{s'},Now c F ⟨st.loc,(d,.dict (kvs++ks.zip xs))::own⟩ fz s'→Q PUnit.unit s'):wpAny c.M F.A (storeAll d ps) Q E s:=by
  induction hp generalizing kvs s with
  | nil=>
    unfold storeAll
    rw [List.forIn_nil]
    exact wpAny_pure (hQ (by rw [List.zip_nil_left,List.append_nil];exact x))
  | @cons k t v y ps ks xs r hp ih=>
    unfold storeAll
    rw [List.forIn_cons]
    have hk:k ∉ kvs.map (·.1):=fun q=>(List.nodup_append.mp hn).2.2 k q k (.head _) rfl
    cases x with | @mk m oc kp x=>
    obtain ⟨rfl,hx,hu⟩:=x.ow.find (own':=(d,.dict (dput kvs k y))::own) .here
    cases hx.dict? with
    | @mk es k0 hd p2=>
      refine wpAny_bind (wpAny_bind (dictSet_E (x.own (List.mem_append_right _ (.head _))) p2 r (Nat.le_trans (by omega:kvs.length≤15) (by decide)) fun f es' k1 e1 e2=>wpAny_pure ?_))
      have x':=(x.upd e1 rfl (hu _ (.dict hd e2))).toks (s.toks+1)
      rw [dput_new hk] at x'
      refine ih (.mk x') (by rw [List.map_append,List.append_assoc];exact hn) (by rw [List.length_append];simp only [List.length_cons,List.length_nil] at hl ⊢;omega) fun xx=>hQ ?_
      rw [List.append_assoc] at xx;exact xx
theorem KsR.facts {ks:List (List Nat)} {kx:List (Option Expr)} (h:KsR ks kx):kx.length=ks.length∧kx.all (·.isSome)=true:=by
  induction h with
  | nil=>exact ⟨rfl,rfl⟩
  | cons _ ih=>exact ⟨congrArg (·+1) ih.1,ih.2⟩
theorem snd_dct {ks:List (List Nat)} {vs:List ME} {kx:List (Option Expr)} {vx:List Expr} {p:Pos} (hk:KsR ks kx) (hg:GL c n T F vs vx) (h3:ks.length=vs.length) (h4:ks≠[]):GE c n T F (.dct ks vs) (.Dict kx vx p):=by
  intro st Q X fz s E h x hE
  obtain ⟨hn,hl,xs,hx,hq⟩:=h
  obtain ⟨k1,k2⟩:=hk.facts
  cases x with | @mk m oc kp x=>
  have x0:Now c F _ fz _:=.mk (x.pushOwn (dictOf [] 0) (.dict x.notMods .nil) rfl)
  refine wpAny_Dict_any k2 (by have:=hg.len;omega) (by intro e;subst e;exact h4 (List.length_eq_zero_iff.mp k1.symm)) (by omega) ?_
  refine pairs_snd hk hg hx h3 x0 fun x1 s1 hps=>?_
  refine storeAll_snd (st:=st) (kvs:=[]) hps x1 hn (by simpa using hl) fun x2=>?_
  obtain ⟨x2⟩:=x2
  obtain ⟨l1,l,l2,rfl,hx,hu⟩:=x2.ow.findDel .here
  cases hx.dict? with
  | @mk es k0 hd p2=>exact .mk (.mk (x2.freeze (o:=dictOf es k0) hu)) s1.cons (.dict hd (.inr (.head _)) (p2.up Sub.refl.cons)) hq
noncomputable def Fm.keep (F:Fm) (k:List (Addr×Obj)):Fm:={ F with kept:=k }
theorem KeptR.trans {a b d:List (Addr×Obj)} (x:KeptR a b) (y:KeptR b d):KeptR a d:=by
  induction x generalizing d with
  | nil=>exact y
  | @cons a o sl r r' h1 h2 ih=>
    cases y with
    | @cons _ _ sl2 _ _ h3 h4=>exact KeptR.cons (o:=o) (sl:=sl2) (h1.elim .inl fun h1=>h3.imp id fun h3=>h3.trans h1) (ih h4)
theorem KeptR.addr {a b:List (Addr×Obj)} (x:KeptR a b):b.map (·.1)=a.map (·.1):=by
  induction x with
  | nil=>rfl
  | cons _ _ ih=>rw [List.map_cons,List.map_cons,ih]
theorem apart_of {a b:List (Addr×Obj)} (x:b.map (·.1)=a.map (·.1)) {I:Addr} (h:∀p∈a,p.1≠I):∀p∈b,p.1≠I:=by
  intro p hp e
  have:p.1∈b.map (·.1):=List.mem_map_of_mem hp
  rw [x] at this
  obtain ⟨q,hq,e2⟩:=List.mem_map.mp this
  exact h q hq (e2.trans e)
theorem KeptR.apart {a b:List (Addr×Obj)} (x:KeptR a b) {I:Addr} (h:∀p∈a,p.1≠I):∀p∈b,p.1≠I:=apart_of x.addr h
theorem KeptR.apart' {a b:List (Addr×Obj)} (x:KeptR a b) {I:Addr} (h:∀p∈b,p.1≠I):∀p∈a,p.1≠I:=apart_of x.addr.symm h
theorem Sit.rebase (x:Sit c F st m oc fz kp s):Sit c (F.keep kp) st m oc fz kp s:=
  ⟨x.fr,x.nw,x.nd,x.ap,x.ow,x.lc,KeptR.same,x.fk,x.re,x.fb⟩
theorem Fm.Ok.keepMore (ok:F.Ok c n) (k:List (Addr×Obj)):(F.keep (k++F.kept)).Ok c n:=
  ⟨ok.kind,ok.glob,ok.blt,ok.frames,fun e he=>(ok.fr e he).imp id fun h=>h.imp fun L h=>h.imp id fun h=>h.imp id fun h=>h.imp fun o h=>h.imp (List.mem_append_right _) id,ok.self,ok.vs,ok.cells,ok.depth,ok.units⟩
theorem Scp.Ok.keep (h:S.Ok c F) (k:List (Addr×Obj)):S.Ok c (F.keep k):=⟨h.vars,h.nm,h.gl,h.bi⟩
structure Free (c:Cx) (L:Addr) (oc fz:List (Addr×Obj)) (a:Addr):Prop where
  loc:a≠L
  g:c.g.get? a=none
  oc:∀p∈oc,p.1≠a
  fz:∀p∈fz,p.1≠a
theorem Sit.addK (x:Sit c F st m oc fz kp s) {a:Addr} {o:Obj} (h:s.heap.get? a=some o) (f:Free c F.env.locals oc fz a):Sit c (F.keep ((a,o)::F.kept)) st m oc fz ((a,o)::kp) s:=by
  refine ⟨x.fr,fun p hp=>?_,x.nd,fun p hp q hq=>?_,x.ow,x.lc,KeptR.cons (o:=o) (sl:=o.slots) (.inr rfl) x.kr,fun p hp q hq=>(List.mem_cons.mp hq).elim (fun e=>e▸f.fz p hp) (x.fk p hp q),x.re,x.fb⟩
  · rcases List.mem_append.mp hp with hp | hp
    · exact x.nw p (List.mem_append_left _ hp)
    · rcases List.mem_append.mp hp with hp | hp
      · exact x.nw p (List.mem_append_right _ (List.mem_append_left _ hp))
      · rcases List.mem_cons.mp hp with rfl | hp
        · exact ⟨h,f.loc,f.g⟩
        · exact x.nw p (List.mem_append_right _ (List.mem_append_right _ hp))
  · rcases List.mem_append.mp hq with hq | hq
    · exact x.ap p hp q (List.mem_append_left _ hq)
    · exact (List.mem_cons.mp hq).elim (fun e=>e▸f.oc p hp) fun hq=>x.ap p hp q (List.mem_append_right _ hq)
inductive Dropped (c:Cx) (F:Fm) (a:Addr) (o:Obj) (k:List (Addr×Obj)) (st:St) (m:Str→Option Value) (oc fz kp:List (Addr×Obj)) (s:Shared):Prop
  | mk {sl:Array (Option Value)} {kp2:List (Addr×Obj)}:kp=(a,{ o with slots:=sl })::kp2→((∃es ep,o.data=.dict es ep)∨sl=o.slots)→Sit c (F.keep k) st m oc fz kp2 s→s.heap.get? a=some { o with slots:=sl }→Free c F.env.locals oc fz a→Dropped c F a o k st m oc fz kp s
theorem Sit.dropK {a:Addr} {o:Obj} {k:List (Addr×Obj)} (x:Sit c (F.keep ((a,o)::k)) st m oc fz kp s):Dropped c F a o k st m oc fz kp s:=by
  have hk:KeptR ((a,o)::k) kp:=x.kr
  cases hk with
  | @cons _ _ sl _ kp2 h1 h2=>
    have hn:=x.nw (a,{ o with slots:=sl }) (List.mem_append_right _ (List.mem_append_right _ (.head _)))
    have hs:∀p∈fz++kp2,p∈fz++(a,{ o with slots:=sl })::kp2:=fun p hp=>(List.mem_append.mp hp).elim (List.mem_append_left _) fun h=>List.mem_append_right _ (.tail _ h)
    exact .mk rfl h1 ⟨x.fr,fun p hp=>x.nw p ((List.mem_append.mp hp).elim (List.mem_append_left _) fun h=>List.mem_append_right _ (hs p h)),x.nd,fun p hp q hq=>x.ap p hp q (hs q hq),x.ow,x.lc,h2,fun p hp q hq=>x.fk p hp q (.tail _ hq),x.re,x.fb⟩ hn.1
      ⟨hn.2.1,hn.2.2,fun p hp=>x.ap p hp (a,{ o with slots:=sl }) (List.mem_append_right _ (.head _)),fun p hp=>x.fk p hp (a,{ o with slots:=sl }) (.head _)⟩
inductive DroppedF (c:Cx) (F:Fm) (a:Addr) (o:Obj) (k:List (Addr×Obj)) (st:St) (m:Str→Option Value) (oc fz kp:List (Addr×Obj)) (s:Shared):Prop
  | mk {kp2:List (Addr×Obj)}:kp=(a,o)::kp2→Sit c (F.keep k) st m oc fz kp2 s→s.heap.get? a=some o→Free c F.env.locals oc fz a→DroppedF c F a o k st m oc fz kp s
theorem Sit.dropF {a:Addr} {o:Obj} {k:List (Addr×Obj)} (x:Sit c (F.keep ((a,o)::k)) st m oc fz kp s) (h:∀es ep,o.data≠.dict es ep):DroppedF c F a o k st m oc fz kp s:=by
  obtain ⟨e,hs,x1,e1,f⟩:=x.dropK
  rcases hs with ⟨_,_,h'⟩ | rfl
  · exact absurd h' (h _ _)
  · exact .mk e x1 e1 f
theorem Sit.step (x:Sit c F st m oc fz kp s) {I:Addr} {h':Heap} (t:Nat) (hk:∀b o,b≠I→s.heap.get? b=some o→h'.get? b=some o) (f:Free c F.env.locals oc fz I) (h3:∀p∈kp,p.1≠I):Sit c F st m oc fz kp { s with heap:=h',toks:=t }:=by
  refine x.with ⟨x.fr.ns.at' fun o e=>hk _ _ (Ne.symm f.loc) e,fun b o e=>hk b o (fun q=>by rw [q,f.g] at e;cases e) (x.fr.keep b o e),x.fr.above⟩ (fun p hp=>⟨hk _ _ ?_ (x.nw p hp).1,(x.nw p hp).2⟩) x.nd x.ap x.ow x.lc x.kr x.fk .refl
  exact (List.mem_append.mp hp).elim (f.oc p) fun hp=>(List.mem_append.mp hp).elim (f.fz p) (h3 p)
noncomputable def ownsTup (n:String):Bool:=["enumerate","zip","dict_itemiterator","dict_reverseitemiterator","odict_iterator","itertools.zip_longest","itertools.pairwise"].contains n
inductive Iter (c:Cx) (A:Around) (fz:List (Addr×Obj)) (I:Addr) (its:List V) (St:Nat→Heap→Prop):Prop
  | mk {fp:List Addr} {P:Nat→Value→Prop}:Walks c.prog c.w A I fp [I] its.length P St→(∀b∈fp,b=I∨∃o,At c fz b o)→(∀i v,i < its.length→P i v→∃x,its[i]?=some x∧c.R fz v x)→(∀i h,St i h→∃o vs,h.get? I=some o∧o.data=.fields vs∧∃nm,o.cls=.type nm∧ownsTup nm=false)→Iter c A fz I its St
theorem Now.ne (x:Now c F st fz s) {a:Addr} {o:Obj} (h:At c fz a o):a≠s.heap.objs.size:=Nat.ne_of_lt (Heap.lt_size (x.at h))
theorem fpOne {I:Addr}:∀b∈[I],b=I∨∃o,At c fz b o:=fun b hb=>.inl (List.mem_singleton.mp hb)
theorem fpTwo {I a:Addr} {o:Obj} (h:At c fz a o):∀b∈[I,a],b=I∨∃o,At c fz b o:=fun b hb=>(List.mem_cons.mp hb).imp id fun hb=>by rw [List.mem_singleton.mp hb];exact ⟨o,h⟩
theorem get_of {xs:List V} {vs:List Value} (r:c.Rs fz vs xs) {i:Nat} {v:Value} (hi:i < xs.length) (h:vs[i]?=some v):∃x,xs[i]?=some x∧c.R fz v x:=by
  obtain ⟨v',e1,e2⟩:=r.get (i:=i) (List.getElem?_eq_getElem hi)
  cases h.symm.trans e1
  exact ⟨_,List.getElem?_eq_getElem hi,e2⟩
theorem pyIter_snd (hh:F.A.handled=none) (x:Now c F st fz s) {v:Value} {y:V} {its:List V} (r:c.R fz v y) (e:iterV y=some its) (hl:its.length≤LIM) {Q:PE}
    (hQ:∀o St,Iter c F.A fz s.heap.objs.size its St→St 0 (s.heap.push o)→(∃vs,o.data=.fields vs)→Q (.ref s.heap.objs.size) { s with heap:=s.heap.push o }):wpAny c.M F.A (pyIter v) Q E s:=by
  cases y with
  | str y=>
    refine r.str_el fun t=>?_
    obtain rfl:=Option.some.inj e
    have hlen:(toStr y).cps.size=(y.map fun k=>V.str [k]).length:=by simp [toStr]
    have go:∀(ty:String) (o:Obj),ownsTup ty=false→Walks c.prog c.w F.A s.heap.objs.size [s.heap.objs.size] [s.heap.objs.size] (toStr y).cps.size (SignAt (toStr y)) (fun i h=>h.IsStrIter s.heap.objs.size ty (toStr y) t i)→(s.heap.push o).IsStrIter s.heap.objs.size ty (toStr y) t 0→(∃vs,o.data=.fields vs)→Q (.ref s.heap.objs.size) { s with heap:=s.heap.push o }:=by
      intro ty o hty W h0 hf
      rw [hlen] at W
      refine hQ o _ (.mk W fpOne (fun i v hi hP=>?_) fun i h hs=>?_) h0 hf
      · obtain ⟨k,u,e1,rfl⟩:=hP
        refine ⟨.str [k],?_,VR.str [k] u⟩
        have:y[i]?=some k:=by simpa [toStr] using e1
        rw [List.getElem?_map,this];rfl
      · obtain ⟨o,h1,h2,h3⟩:=hs
        exact ⟨o,_,h1,h3,_,h2,hty⟩
    cases ha:(toStr y).cps.all (· < 128)
    · exact wpAny_pyIter_wide ha (go _ _ (by decide +kernel) (Walks.strWide hh _ _ t) ⟨_,Heap.get?_push_size _ rfl,rfl,rfl⟩ ⟨_,rfl⟩)
    · exact wpAny_pyIter_ascii ha (go _ _ (by decide +kernel) (Walks.strAscii hh _ _ t) ⟨_,Heap.get?_push_size _ rfl,rfl,rfl⟩ ⟨_,rfl⟩)
  | list xs=>
    obtain ⟨a,o,vs,k,rfl,p1,p2,p3,p4⟩:=r.list?
    obtain rfl:=Option.some.inj e
    have hl':=x.isList p1 p2 p3
    have hz:vs.toArray.size=xs.length:=by rw [List.size_toArray,p4.length]
    exact wpAny_pyIter_list hl' (hQ _ (fun i h=>h.IsListIter s.heap.objs.size a i∧h.IsList a vs.toArray) (.mk (hz▸Walks.list (prog:=c.prog) (w:=c.w) hh s.heap.objs.size a (x.ne p1) vs.toArray) (fpTwo p1) (fun i v hi hP=>get_of p4 hi (by simpa using hP)) fun i h ⟨⟨o,h1,h2,h3⟩,_⟩=>⟨o,_,h1,h3,_,h2,by decide +kernel⟩) ⟨⟨_,Heap.get?_push_size _ rfl,rfl,rfl⟩,hl'.push _⟩ ⟨_,rfl⟩)
  | tup xs=>
    obtain ⟨a,o,vs,k,rfl,p1,p2,p3,p4⟩:=r.tup?
    obtain rfl:=Option.some.inj e
    have hl':=x.isTup p1 p2 p3
    have hz:vs.toArray.size=xs.length:=by rw [List.size_toArray,p4.length]
    refine wpAny_pyIter_tuple hl' (hQ _ (fun i h=>h.IsTupleIter s.heap.objs.size a i∧h.IsTuple a vs.toArray) (.mk (hz▸Walks.tuple (prog:=c.prog) (w:=c.w) hh s.heap.objs.size a (x.ne p1) vs.toArray) (fpTwo p1) (fun i v hi hP=>get_of p4 hi (by simpa using hP)) fun i h ⟨⟨o,h1,h2,h3⟩,_⟩=>⟨o,_,h1,h3,_,h2,by decide +kernel⟩) ⟨⟨_,Heap.get?_push_size _ rfl,rfl,rfl⟩,?_⟩ ⟨_,rfl⟩)
    obtain ⟨o',h1,h2⟩:=hl'
    exact ⟨o',Heap.get?_push_of_some _ h1,h2⟩
  | dict kvs=>
    obtain ⟨a,es,k,rfl,p0,p1,p2⟩:=r.dict?
    have e:(if (kvs.map (·.1)).Nodup then some (kvs.map fun p=>V.str p.1) else none)=some its:=e
    by_cases hn:(kvs.map (·.1)).Nodup
    · rw [if_pos hn] at e
      obtain rfl:=Option.some.inj e
      obtain ⟨ps,D,p3,p4⟩:=p2.dictAt (prog:=c.prog) (w:=c.w) rfl hn (x.at p1)
      have hlen:ps.length=(kvs.map fun p=>V.str p.1).length:=by have:=congrArg List.length p4;simpa using this
      refine wpAny_pyIter_dict p0 D (hQ _ (fun i h=>h.IsKeyIter s.heap.objs.size a i ps.length k∧h.DictAt (PySem.strKind c.prog c.w) a ps k) (.mk (by have:=Walks.dictKeys (prog:=c.prog) (w:=c.w) (knd:=PySem.strKind c.prog c.w) hh s.heap.objs.size a (x.ne p1) ps k;rw [hlen] at this;rw [hlen];exact this) (fpTwo p1) (fun i v hi hP=>?_) fun i h ⟨⟨o,h1,h2,h3⟩,_⟩=>⟨o,_,h1,h3,_,h2,by decide +kernel⟩) ⟨⟨_,Heap.get?_push_size _ rfl,rfl,rfl⟩,D.push _⟩ ⟨_,rfl⟩)
      obtain ⟨q,z,e1,e2⟩:=hP
      have e3:(ps.map (·.1))[i]?=some q:=by rw [List.getElem?_map,e1];rfl
      rw [p4,List.getElem?_map] at e3
      obtain ⟨pr,e4,rfl⟩:=map_some e3
      have e2':Value.isStrOf (toStr pr.1) v=true:=e2
      induction v using Value.casesOn<;>try exact no_ft e2'
      obtain rfl:=beq_iff_eq.mp (show (_ == toStr pr.1)=true from e2')
      exact ⟨.str pr.1,by rw [List.getElem?_map,e4];rfl,VR.str _ _⟩
    · rw [if_neg hn] at e;cases e
  | rng k=>
    obtain ⟨a,t,u,w,rfl,p1⟩:=r.rng?
    obtain rfl:=Option.some.inj e
    have hk:k≤LIM:=by simpa using hl
    have hsize:Builtin.Range.rangeSize 0 (k:Int) 1=(k:Int):=by
      unfold Builtin.Range.rangeSize
      simp
      omega
    have hsm:Builtin.Range.small 0 (k:Int) 1=true:=by
      unfold Builtin.Range.small
      rw [hsize]
      unfold Builtin.Range.rangeFitsLong
      unfold LIM at hk
      simp
      omega
    have hlen:((List.range k).map fun (k:Nat)=>V.int k).length=k:=by simp
    refine wpAny_pyIter_range (x.at p1) hsm (hQ _ (fun i h=>IsRangeIter h s.heap.objs.size (0+(i:Nat) * 1) ((k:Int) - (i:Nat)) 1) (.mk (by have:=Walks.range (prog:=c.prog) (w:=c.w) hh s.heap.objs.size 0 1 k;rw [hlen];exact this) fpOne (fun i v hi hP=>?_) fun i h hs=>⟨_,_,hs,rfl,_,rfl,by decide +kernel⟩) ?_ ⟨_,rfl⟩)
    · obtain ⟨t,rfl⟩:=hP
      rw [hlen] at hi
      refine ⟨.int i,by simp [hi],?_⟩
      rw [show (0+(i:Int) * 1)=i by omega];exact .int _ _
    · rw [hsize]
      show IsRangeIter _ _ _ _ _
      simpa using Heap.get?_push_size s.heap rfl
  | _=>exact no_ns e
theorem iter_next {I:Addr} {its:List V} {St:Nat→Heap→Prop} {oI:Obj} {kept:List (Addr×Obj)} {fz0:List (Addr×Obj)} (W:Iter c A fz0 I its St) (hI:∀p∈kept,p.1≠I) {i:Nat} (x:Sit c (F.keep ((I,oI)::kept)) st m oc fz kp s) (hsub:Sub fz0 fz) (hs:St i s.heap) (hi:i≤its.length) {Q:Option Value→Shared→Prop}
    (hdone:i=its.length→∀s' kp',Sit c (F.keep kept) st m oc fz kp' s'→Q none s')
    (hitem:∀y v oI' s' kp',its[i]?=some y→c.R fz v y→St (i+1) s'.heap→(∀es ep,oI'.data≠.dict es ep)→(∃nm,oI'.cls=.type nm∧ownsTup nm=false)→Sit c (F.keep ((I,oI')::kept)) st m oc fz kp' s'→Q (some v) s'):wpAny c.M A (pyNext (.ref I)) Q E s:=by
  obtain ⟨W,hfp,hP,hSt⟩:=W
  obtain ⟨rfl,hsl,x1,e1,f⟩:=x.dropK
  have hk2:=x1.kr.apart hI
  by_cases hlt:i < its.length
  · refine W.item i _ _ _ hlt hs fun v h' tk hPv hst hk=>?_
    obtain ⟨y,hy,r⟩:=hP i v hlt hPv
    have x2:=x1.step tk (h':=h') (fun b o hb e=>hk b o (by simpa using hb) e) f hk2
    obtain ⟨oI',vs,q1,q2,q3⟩:=hSt _ _ hst
    exact hitem y v oI' _ _ hy (r.up hsub) hst (fun zz zz e=>by rw [q2] at e;cases e) q3 (x2.addK (a:=I) (o:=oI') q1 f)
  · have hi':i=its.length:=by omega
    subst hi'
    exact W.done _ _ _ hs fun h' tk hk=>hdone rfl _ _ (x1.step tk (h':=h') (fun b o hb e=>hk b o (by simpa using hb) e) f hk2)
theorem iter_live {I:Addr} {its:List V} {St:Nat→Heap→Prop} {oI:Obj} {fz0:List (Addr×Obj)} (W:Iter c A fz0 I its St) {h0 h':Heap} {i:Nat} (hs:St i h0) (e0:h0.get? I=some oI) (e1:h'.get? I=some oI) (hk0:∀a o,At c fz0 a o→h0.get? a=some o) (hk:∀a o,At c fz0 a o→h'.get? a=some o):St i h':=by
  obtain ⟨W,hfp,hP,hSt⟩:=W
  refine W.frame _ _ _ hs fun b hb o e=>?_
  rcases hfp b hb with rfl | ⟨o',h⟩
  · exact (e0.symm.trans e)▸e1
  · exact ((hk0 _ _ h).symm.trans e)▸hk _ _ h
end
section
variable {c:Cx} {n:Nat} {T:Tab} {F:Fm} {S:Scp} {fz fz0:List (Addr×Obj)} {st:St} {m:Str→Option Value} {oc kp:List (Addr×Obj)} {s:Shared} {E:PE} {A:Around} {M:Model}
inductive ExcAt (c:Cx) (F:Fm) (e C:Addr) (st:St) (m:Str→Option Value) (oc fz kp:List (Addr×Obj)) (s:Shared):Prop
  | mk {oe:Obj} {vs:Array Value} {p:Addr×Obj}:s.heap.get? e=some oe→oe.data=.fields vs→1 < vs.size→oe.cls=.ref C→p∈oc→p.1=e→
      (∀g:Array Value→Array Value,(∀vs,(g vs).size=vs.size)→∃oc',oc'.map (·.1)=oc.map (·.1)∧Sit c F st m oc' fz kp { s with heap:=s.heap.update e (Obj.mapFields g) })→ExcAt c F e C st m oc fz kp s
theorem map_part {l1 l2:List (Addr×Obj)} {d:Addr} {o o':Obj}:(l1++(d,o')::l2).map (·.1)=(l1++(d,o)::l2).map (·.1):=by rw [List.map_append,List.map_append];rfl
theorem Sit.excAt (x:Sit c F st m oc fz kp s) {e C:Addr} {ats:List (List Nat×V)} (hg:(e,.exc false C ats)∈st.own):ExcAt c F e C st m oc fz kp s:=by
  obtain ⟨rfl,hx,hu⟩:=x.ow.find (.of_mem hg)
  have h1:=fun p (h:p∈_)=>x.own (p:=p) h
  cases hx.exc? with
  | @exc d es k _ sl vs p2 hv hfr=>
    exact .mk (h1 _ (List.mem_append_right _ (.head _))) rfl hv rfl (List.mem_append_right _ (.head _)) rfl fun g hg'=>⟨_,map_part,x.upd (d:=e) (o:=⟨.ref C,some d,.fields vs,sl⟩) (f:=Obj.mapFields g) rfl rfl (hu _ (.exc (d:=d) (es:=es) (n:=k) (sl:=sl) (fr:=false) (vs:=g vs) p2 (by rw [hg'];exact hv) (by intro h;cases h)))⟩
  | @exc0 sl vs hv hfr=>
    exact .mk (h1 _ (List.mem_append_right _ (.head _))) rfl hv rfl (List.mem_append_right _ (.head _)) rfl fun g hg'=>⟨_,map_part,x.upd (d:=e) (o:=⟨.ref C,none,.fields vs,sl⟩) (f:=Obj.mapFields g) rfl rfl (hu _ (.exc0 (sl:=sl) (fr:=false) (vs:=g vs) (by rw [hg'];exact hv) (by intro h;cases h)))⟩
theorem slots_kept {l:List Addr} {h h':Heap} (hs:Heap.SlotsOnly l h h'):∀k:List (Addr×Obj),(∀p∈k,h.get? p.1=some p.2)→(∀p∈k,p.1∈l→∃es ep,p.2.data=.dict es ep)→∃k',KeptR k k'∧∀p∈k',h'.get? p.1=some p.2
  | [],_,_=>⟨[],.nil,fun zz h=>nomatch h⟩
  | (a,o)::k,hk,hd=>by
    obtain ⟨k',h1,h2⟩:=slots_kept hs k (fun q hq=>hk q (.tail _ hq)) fun q hq=>hd q (.tail _ hq)
    have ha:=hk (a,o) (.head _)
    obtain ⟨sl,hsl⟩:=hs.2.2 _ _ ha
    refine ⟨(a,{ o with slots:=sl })::k',.cons ?_ h1,fun q hq=>(List.mem_cons.mp hq).elim (fun e=>e▸hsl) (h2 q)⟩
    by_cases hm:a∈l
    · exact .inl (hd (a,o) (.head _) hm)
    · have:=hs.2.1 a hm
      rw [hsl,ha] at this
      exact .inr (congrArg Obj.slots (Option.some.inj this))
theorem Sit.slots (x:Sit c F st m oc fz kp s) (ok:F.Ok c n) {h':Heap} (hs:Heap.SlotsOnly (F.frames.filterMap (·.frame)) s.heap h'):∃kp',kp'.map (·.1)=kp.map (·.1)∧Sit c F st m oc fz kp' { s with heap:=h' }:=by
  have hfr:∀b∈F.frames.filterMap (·.frame),b=F.env.locals∨∃o,(b,o)∈kp∧∃es ep,o.data=.dict es ep:=by
    intro b hb
    obtain ⟨e,he,hf⟩:=List.mem_filterMap.mp hb
    obtain ⟨_,L,h2,h3⟩:=ok.fr e he
    cases hf.symm.trans h2
    refine h3.imp id fun ⟨o,ho,es,ep,hd⟩=>?_
    obtain ⟨sl,hsl⟩:=x.kr.get ho
    exact ⟨_,hsl,es,ep,hd⟩
  have hother:∀b,b≠F.env.locals→(∀p∈kp,p.1≠b)→h'.get? b=s.heap.get? b:=fun b h1 h2=>hs.2.1 b fun hb=>(hfr b hb).elim h1 fun ⟨o,ho,_⟩=>h2 _ ho rfl
  obtain ⟨oL,es,ep,hL,hd,hr⟩:=x.fr.ns
  obtain ⟨slL,hL'⟩:=hs.2.2 _ _ hL
  have hkn:∀p∈kp,s.heap.get? p.1=some p.2:=fun p hp=>(x.nw p (List.mem_append_right _ (List.mem_append_right _ hp))).1
  obtain ⟨kp',k1,k2⟩:=slots_kept hs kp hkn fun p hp hm=>by
    rcases hfr _ hm with e | ⟨o',ho',hd'⟩
    · exact absurd e (x.nw p (List.mem_append_right _ (List.mem_append_right _ hp))).2.1
    · have:=Option.some.inj ((hkn p hp).symm.trans (hkn (p.1,o') ho'))
      rw [this];exact hd'
  have ap:∀{a:Addr},(∀q∈kp,a≠q.1)→∀q∈kp',a≠q.1:=fun h q hq=>Ne.symm (k1.apart (fun p hp=>Ne.symm (h p hp)) q hq)
  refine ⟨kp',k1.addr,x.with (t:=s.toks) ⟨⟨_,es,ep,hL',hd,hr⟩,fun b o e=>?_,x.fr.above⟩ (fun p hp=>?_) x.nd (fun p hp q hq=>?_) x.ow x.lc (x.kr.trans k1) (fun p hp q hq=>ap (x.fk p hp) q hq) .refl⟩
  · rw [hother b (fun q=>?_) fun p hp q=>?_];exact x.fr.keep b o e
    · rw [q] at e;exact Nat.lt_irrefl _ (Nat.lt_of_lt_of_le (Heap.lt_size e) x.fr.above)
    · have:=(x.nw p (List.mem_append_right _ (List.mem_append_right _ hp))).2.2;rw [q,e] at this;cases this
  · rcases List.mem_append.mp hp with hp | hp
    · have z:=x.nw p (List.mem_append_left _ hp)
      exact ⟨(hother p.1 z.2.1 fun q hq=>Ne.symm (x.ap p hp q (List.mem_append_right _ hq))).trans z.1,z.2⟩
    · rcases List.mem_append.mp hp with hp | hp
      · have z:=x.nw p (List.mem_append_right _ (List.mem_append_left _ hp))
        exact ⟨(hother p.1 z.2.1 fun q hq=>Ne.symm (x.fk p hp q hq)).trans z.1,z.2⟩
      · have:p.1∈kp'.map (·.1):=List.mem_map_of_mem hp
        rw [k1.addr] at this
        obtain ⟨q,hq,e⟩:=List.mem_map.mp this
        have z:=x.nw q (List.mem_append_right _ (List.mem_append_right _ hq))
        rw [e] at z
        exact ⟨k2 p hp,z.2⟩
  · rcases List.mem_append.mp hq with hq | hq
    · exact x.ap p hp q (List.mem_append_left _ hq)
    · exact ap (fun q hq=>x.ap p hp q (List.mem_append_right _ hq)) q hq
inductive HeldIn (c:Cx) (e:Addr) (fl:Value) (led:List (Addr×Obj)) (h:Heap):Prop
  | mk {oe:Obj} {vs:Array Value} {T:Addr}:h.get? e=some oe→oe.data=.fields vs→vs[1]?=some (.ref T)→TbAt c T fl led h→HeldIn c e fl led h
theorem HeldIn.flight {e l:Addr} {led:List (Addr×Obj)} {h:Heap} (x:HeldIn c e (rawInt l) led h):InFlight c (some l) e led h:=match x with | .mk h1 h2 h3 h4=>.noted h1 h2 h3 h4 (.inr ⟨l,rfl,rfl⟩)
theorem HeldIn.free {e:Addr} {L:Option Addr} {led:List (Addr×Obj)} {h:Heap} (x:HeldIn c e .none led h):InFlight c L e led h:=match x with | .mk h1 h2 h3 h4=>.noted h1 h2 h3 h4 (.inl rfl)
theorem TbAt.sub {T:Addr} {fl:Value} {led led':List (Addr×Obj)} {h:Heap} (x:TbAt c T fl led h) (k:∀p∈led',p∈led):TbAt c T fl led' h:=match x with | .mk h1 h2 h3 h4 h5=>.mk h1 h2 h3 h4 fun p hp=>h5 p (k p hp)
theorem InFlight.sub {L:Option Addr} {e:Addr} {led led':List (Addr×Obj)} {h:Heap} (x:InFlight c L e led h) (k:∀p∈led',p∈led):InFlight c L e led' h:=match x with
  | .new h1 h2 h3=>.new h1 h2 h3
  | .noted h1 h2 h3 h4 h5=>.noted h1 h2 h3 (h4.sub k) h5
theorem funFrames (x:Sit c F st m oc fz kp s) (ok:F.Ok c n):∀l:List Env,(∀e∈l,e∈F.frames)→s.heap.FunFrames c.g l
  | [],_=>trivial
  | e::l,hl=>by
    obtain ⟨h1,L,h2,h3⟩:=ok.fr e (hl e (.head _))
    refine ⟨h1,⟨L,?_⟩,funFrames x ok l fun q hq=>hl q (.tail _ hq)⟩
    rcases h3 with rfl | ⟨o,ho,es,ep,hd⟩
    · obtain ⟨o,es,ep,a1,a2,_⟩:=x.fr.ns
      exact ⟨o,h2,Heap.get?_none_of_le x.fr.above,a1,fun vs q=>by rw [a2] at q;cases q⟩
    · obtain ⟨sl,hsl⟩:=x.kr.get ho
      have z:=x.nw (L,_) (List.mem_append_right _ (List.mem_append_right _ hsl))
      exact ⟨_,h2,z.2.2,z.1,fun vs q=>by have:o.data=.fields vs:=q;rw [hd] at this;cases this⟩
theorem entry_snd (x:Sit c F st m oc fz kp s) (ok:F.Ok c n) (hA:A.frames=some F.frames) {env:Env} {r:List Env} (hr:F.frames=env::r) {L:Addr} (hL:env.frame=some L) {e C:Addr} {ats:List (List Nat×V)} (hg:(e,.exc false C ats)∈st.own) {head:Value} {hadNext:Bool} {Q:Unit→Shared→Prop}
    (h:∀oc' kp' s',Sit c F st m oc' fz kp' s'→HeldIn c e (rawInt L) (oc'++(fz++kp')) s'.heap→Q () s'):
    wpAny M A (do let a ← frameOf env;let pl ← entryPlaceOf L hadNext;let b ← EntryCells.newEntry head a .none (rawInt L) .none pl;setField (.ref e) 1 b) Q E s:=by
  have hf:=funFrames x ok F.frames fun zz h=>h
  rw [hr] at hf hA
  refine wpAny_bind (wpAny_frameOf_fun hA hf hL fun h₁ hs₁=>?_)
  rw [← hr] at hs₁
  obtain ⟨kp1,ka,x1⟩:=x.slots ok hs₁
  refine wpAny_bind (wpAny_entryPlaceOf fun pl hpl=>?_)
  unfold EntryCells.newEntry newFields
  refine wpAny_bind (wpAny_newObj_type ?_ (hpl.sizeOk5 _ _ _ _ _))
  have x2:=x1.junk { cls:=.type "traceback",dict:=none,data:=.fields ([head,.ref L,.none,rawInt L,.none]++(if pl.isEmpty then List.replicate 6 Value.none else pl)).toArray }
  obtain ⟨h1,h2,h3,h4,hpe,epe,h5⟩:=x2.excAt hg
  refine wpAny_setField h1 h2 h3 ?_
  obtain ⟨oc',hoc,x3⟩:=h5 (·.setIfInBounds 1 (Value.ref h₁.objs.size)) (by intro vs;simp)
  refine h oc' kp1 _ x3 ?_
  have hd₃:=Obj.data_mapFields h2 (·.setIfInBounds 1 (Value.ref h₁.objs.size))
  have hlt:∀p∈oc++(fz++kp1),p.1≠h₁.objs.size:=fun p hp=>Nat.ne_of_lt (x1.size p hp)
  have hTe:e≠h₁.objs.size:=epe▸hlt _ (List.mem_append_left _ hpe)
  refine .mk (T:=h₁.objs.size) (Heap.get?_update_self (Obj.mapFields (·.setIfInBounds 1 (Value.ref h₁.objs.size))) h1 (Obj.isFreed_of_fields hd₃)) hd₃ (by simp [h3]) (.mk ((Heap.get?_update_other _ _ hTe).trans (Heap.get?_push_size h₁ rfl)) rfl ?_ ?_ (apart_of (by rw [List.map_append,hoc,← List.map_append]) hlt))
  · rcases hpl with rfl | ⟨_,_,_,_,_,_,_,rfl⟩<;>simp
  · exact Heap.get?_none_of_le (Nat.le_trans x1.fr.above (Nat.le_of_lt x1.fr.ns.lt))
theorem TbAt.set {Tb:Addr} {fl:Value} (x:Sit c F st m oc fz kp s) (t:TbAt c Tb fl (oc++(fz++kp)) s.heap) (g:Array Value→Array Value):Sit c F st m oc fz kp { s with heap:=s.heap.update Tb (Obj.mapFields g) }:=by
  obtain ⟨h1,h2,_,h4,h5⟩:=t
  refine x.step s.toks (I:=Tb) (fun b o hb e=>(Heap.get?_update_other _ _ (Ne.symm hb)).trans e) ⟨fun q=>?_,h4,fun p hp=>h5 p (List.mem_append_left _ hp),fun p hp=>h5 p (List.mem_append_right _ (List.mem_append_left _ hp))⟩ fun p hp=>h5 p (List.mem_append_right _ (List.mem_append_right _ hp))
  obtain ⟨o,es,ep,a1,a2,_⟩:=x.fr.ns
  rw [← q,h1] at a1;cases a1
  rw [h2] at a2;cases a2
theorem note_snd (x:Sit c F st m oc fz kp s) (ok:F.Ok c n) (hA:A.frames=some F.frames) {r:List Env} (hr:F.frames=F.env::r) {e C:Addr} {ats:List (List Nat×V)} (hg:(e,.exc false C ats)∈st.own) (hi:InFlight c F.env.frame e (oc++(fz++kp)) s.heap) {Q:Unit→Shared→Prop}
    (h:∀oc' kp' s' L,F.env.frame=some L→Sit c F st m oc' fz kp' s'→HeldIn c e (rawInt L) (oc'++(fz++kp')) s'.heap→Q () s'):wpAny M A (noteFrame (.ref e) F.env) Q E s:=by
  obtain ⟨L,hL,e',r',hr',he'⟩:=ok.self
  unfold noteFrame
  simp only [hL]
  cases hi with
  | new h1 h2 h3=>
    refine wpAny_bind (wpAny_field h1 h2 h3 ?_)
    rw [if_neg (by decide)]
    exact entry_snd x ok hA hr hL hg fun oc' kp' s' x' hh=>h oc' kp' s' L hL x' hh
  | @noted oe vs Tb fl h1 h2 h3 h4 h6=>
    have h4':=h4
    obtain ⟨t1,t2,t3,t4,t5⟩:=h4
    refine wpAny_bind (wpAny_field h1 h2 h3 ?_)
    rw [if_pos (show (Value.ref Tb != Value.none)=true from by simp)]
    refine wpAny_bind (wpAny_field t1 t2 t3 ?_)
    rcases h6 with rfl | ⟨l,hl,rfl⟩
    · rw [if_neg (show ¬ ((Value.none == rawInt L)=true) from by simp [rawInt])]
      exact wpAny_bind (wpAny_setField t1 t2 (Array.getElem?_eq_some_iff.mp t3).1 (entry_snd (h4'.set x _) ok hA hr hL hg fun oc' kp' s' x' hh=>h oc' kp' s' L hL x' hh))
    · cases hL.symm.trans hl
      rw [if_pos (show (rawInt L == rawInt L)=true from by simp)]
      exact wpAny_pure (h oc kp s L hL x (.mk h1 h2 h3 h4'))
theorem flight_snd (x:Sit c F st m oc fz kp s) {e C:Addr} {fl:Value} {ats:List (List Nat×V)} (hg:(e,.exc false C ats)∈st.own) (hi:HeldIn c e fl (oc++(fz++kp)) s.heap) (to:Option Addr) {Q:Unit→Shared→Prop}
    (h:∀s',Sit c F st m oc fz kp s'→HeldIn c e (to.elim .none fun f=>rawInt f) (oc++(fz++kp)) s'.heap→Q () s'):wpAny M A (setFlight (.ref e) to) Q E s:=by
  obtain ⟨_,_,_,_,hpe,epe,_⟩:=x.excAt hg
  cases hi with | @mk oe vs Tb h1 h2 h3 h4=>
  have h4':=h4
  obtain ⟨t1,t2,t3,t4,t5⟩:=h4
  have hsz3:=(Array.getElem?_eq_some_iff.mp t3).1
  unfold setFlight
  refine wpAny_bind (wpAny_field h1 h2 h3 ?_)
  rw [if_pos (show (Value.ref Tb != Value.none)=true from by simp)]
  refine wpAny_setField t1 t2 hsz3 (h _ (h4'.set x _) ?_)
  have hTe:Tb≠e:=epe▸Ne.symm (t5 _ (List.mem_append_left _ hpe))
  exact .mk ((Heap.get?_update_other _ _ hTe).trans h1) h2 h3 (.mk (Heap.get?_update_self _ t1 (Obj.isFreed_of_fields (Obj.data_mapFields t2 _))) (Obj.data_mapFields t2 _) (by simp [hsz3]) t4 t5)
theorem passes (ok:F.Ok c n) {A':Around} (hA:A.frames=some F.frames) {r:List Env} (hr:F.frames=F.env::r) {X:XT} (hE:ExcTo c F X E) {ev:Value} {s':Shared} (h:Raised c F X ev s'):
    notedBy c.M A F.env (cameBackBy c.M A' F.env E) ev s':=by
  obtain ⟨rfl,x,hg,hi,hX⟩:=h
  refine note_snd x ok hA hr hg hi fun oc2 kp2 s2 L hL x2 hh=>?_
  have hh2:=hh
  obtain ⟨h1,h2,h3,_⟩:=hh2
  unfold cameBackBy
  refine wpAny_bind (wpAny_field h1 h2 h3 ?_)
  rw [if_neg (by simp)]
  refine flight_snd x2 hg hh F.env.frame fun s3 x3 hh3=>hE _ _ (.mk rfl x3 hg ?_ hX)
  rw [hL] at hh3 ⊢
  exact hh3.flight
inductive Left (c:Cx) (F:Fm) (X:XT) (ev:Value) (s':Shared):Prop
  | mk {e C:Addr} {ats:List (List Nat×V)} {st':St} {m':Str→Option Value} {oc' fz' kp':List (Addr×Obj)}:ev=.ref e→Sit c F st' m' oc' fz' kp' s'→(e,.exc false C ats)∈st'.own→HeldIn c e .none (oc'++(fz'++kp')) s'.heap→X e st'→Left c F X ev s'
theorem leaving_snd (ok:F.Ok c n) (hA:A.frames=some F.frames) {r:List Env} (hr:F.frames=F.env::r) {X:XT} {ev:Value} {s':Shared} (h:Raised c F X ev s') {Q:Unit→Shared→Prop}
    (k:∀s'',Left c F X ev s''→Q () s''):wpAny c.M A (leaving F.env ev) Q E s':=by
  obtain ⟨rfl,x,hg,hi,hX⟩:=h
  unfold leaving
  exact wpAny_bind (note_snd x ok hA hr hg hi fun oc2 kp2 s2 L hL x2 hh=>flight_snd x2 hg hh none fun s3 x3 hh3=>k s3 (.mk rfl x3 hg hh3 hX))
end
noncomputable def Scp.inner (S:Scp) (x:Str) (caps:List Nat) (sc:Scope):Scp:=
  { S with vars:=x::caps.filterMap (fun i=>S.vars[i]?),nm:=sc.names.map fun p=>(p.1,if p.2 == .free && S.nm.lookup p.1 == some .cell then .cell else p.2) }
noncomputable def compScopeOk (S:Scp) (x:Str) (caps:List Nat) (sc:Scope):Bool:=sc.kind == .function && sc.names.lookup x == some .local && sc.names.lookup (".0":Str) == some .local && decide caps.Nodup &&
  caps.all (fun i=>match S.vars[i]? with | some y=>sc.names.lookup y == some .free && S.nm.lookup y == some .cell && !(y == x) | none=>false) &&
  sc.names.all fun p=>p.2 == .globalImplicit || (p.2 == .free && S.nm.lookup p.1 == some .cell) || (p.2 == .local && (p.1 == x || p.1 == (".0":Str)))
noncomputable def Fm.comp (F:Fm) (C:Addr) (cl:List (Str×Addr)) (sc:Scope) (kept:List (Addr×Obj)) (vars:List Str):Fm:={ env:=compEnvC sc cl C F.env,frames:=F.frames,A:=F.A,kept:=kept,vars:=vars,base:=F.base }
section
variable {c:Cx} {n:Nat} {T:Tab} {F:Fm} {S:Scp} {fz fz0:List (Addr×Obj)} {st:St} {m:Str→Option Value} {oc kp:List (Addr×Obj)} {s:Shared} {E:PE} {A:Around}
structure Clos (env:Env) (names:List (Str×NameKind)) (acc cl:List (Str×Addr)):Prop where
  eq:(forIn names acc fun (p:Str×NameKind) cs=>(if p.2 == .free then do let a ← cellOf env p.1;pure (.yield ((p.1,a)::cs)) else pure (.yield cs):Sem (ForInStep (List (Str×Addr)))))=pure cl
  sub:∀y a,cl.lookup y=some a→env.cells.lookup y=some a
  old:∀y,(acc.lookup y).isSome→(cl.lookup y).isSome
  ex:∀p∈names,p.2=.free→(cl.lookup p.1).isSome
theorem closure_of {env:Env} {names:List (Str×NameKind)}:(∀p∈names,p.2=.free→∃a,env.cells.lookup p.1=some a)→∀acc:List (Str×Addr),(∀y a,acc.lookup y=some a→env.cells.lookup y=some a)→∃cl,Clos env names acc cl:=by
  induction names with
  | nil=>
    intro _ acc hacc
    exact ⟨acc,by rw [List.forIn_nil],hacc,fun zz h=>h,fun zz h=>nomatch h⟩
  | cons pp r ih=>
    obtain ⟨y,k⟩:=pp
    intro h acc hacc
    by_cases hk:k=.free
    · subst hk
      obtain ⟨a,ha⟩:=h (y,.free) (.head _) rfl
      obtain ⟨cl,e1,e2,e3,e4⟩:=ih (fun p hp=>h p (.tail _ hp)) ((y,a)::acc) (fun z b hz=>by
        rw [List.lookup_cons] at hz
        by_cases hzy:z == y
        · rw [hzy] at hz;cases hz;rw [eq_of_beq hzy];exact ha
        · simp only [hzy] at hz;exact hacc z b hz)
      refine ⟨cl,?_,e2,fun z hz=>e3 z ?_,fun p hp hf=>(List.mem_cons.mp hp).elim (fun e=>e▸e3 _ (by rw [List.lookup_cons,beq_self_eq_true];rfl)) fun hp=>e4 p hp hf⟩
      · rw [List.forIn_cons,← e1]
        simp only [beq_self_eq_true,if_true]
        unfold cellOf
        rw [ha]
        rfl
      · rw [List.lookup_cons];split<;>first | rfl | exact hz
    · obtain ⟨cl,e1,e2,e3,e4⟩:=ih (fun p hp=>h p (.tail _ hp)) acc hacc
      refine ⟨cl,?_,e2,e3,fun p hp hf=>(List.mem_cons.mp hp).elim (fun e=>absurd (by rw [e] at hf;exact hf) hk) fun hp=>e4 p hp hf⟩
      rw [List.forIn_cons,← e1]
      have:(k == NameKind.free)=false:=by simpa using hk
      simp only [this,Bool.false_eq_true,if_false]
      rfl
theorem closureFor_of {env:Env} {sc:Scope} (h:∀p∈sc.names,p.2=.free→∃a,env.cells.lookup p.1=some a):∃cl,closureFor sc env=pure cl∧Clos env sc.names [] cl:=by
  obtain ⟨cl,k⟩:=closure_of h [] (fun y a h=>by cases h)
  refine ⟨cl,?_,k⟩
  unfold closureFor
  show (forIn sc.names ([]:List (Str×Addr)) _ >>= fun cs=>pure cs)=_
  rw [bind_pure]
  refine Eq.trans ?_ k.eq
  congr 1
noncomputable def notSetE (e:Expr):Bool:=!(etag e).beq 7
theorem folded_of {e:Expr} (h:notSetE e=true) (env:Env) (v:Value):foldedSetIterable e env v=pure v:=by
  revert h
  apply Expr.casesOn (motive_1:=fun e=>notSetE e=true→foldedSetIterable e env v=pure v) e<;>intros<;>first | rfl | exact no_ft ‹_=true›
structure CompOk (S:Scp) (F:Fm) (x:Str) (caps:List Nat) (sc:Scope) (cl:List (Str×Addr)):Prop where
  kind:sc.kind=.function
  lx:sc.names.lookup x=some .local
  l0:sc.names.lookup (".0":Str)=some .local
  nd:caps.Nodup
  caps:∀i∈caps,∃y,S.vars[i]?=some y∧sc.names.lookup y=some .free∧S.nm.lookup y=some .cell∧y≠x
  all:∀p∈sc.names,p.2=.globalImplicit∨(p.2=.free∧S.nm.lookup p.1=some .cell)∨(p.2=.local∧(p.1=x∨p.1=(".0":Str)))
  clos:closureFor sc F.env=pure cl
  cl:Clos F.env sc.names [] cl
theorem CompOk.of {x:Str} {caps:List Nat} {sc:Scope} (ok:F.Ok c n) (hS:S.Ok c F) (h:compScopeOk S x caps sc=true):∃cl,CompOk S F x caps sc cl:=by
  unfold compScopeOk at h
  simp only [Bool.and_eq_true,beq_iff_eq,decide_eq_true_eq,List.all_eq_true,Bool.or_eq_true] at h
  obtain ⟨⟨⟨⟨⟨h1,h4⟩,h5⟩,h7⟩,h8⟩,h9⟩:=h
  have hall:∀p∈sc.names,p.2=.globalImplicit∨(p.2=.free∧S.nm.lookup p.1=some .cell)∨(p.2=.local∧(p.1=x∨p.1=(".0":Str))):=fun p hp=>or_assoc.mp (h9 p hp)
  obtain ⟨cl,e1,e2⟩:=closureFor_of (env:=F.env) (sc:=sc) (fun p hp hf=>by
    rcases hall p hp with h | h | h
    · rw [hf] at h;cases h
    · exact ok.cells p.1 (by show F.env.scope.names.lookup _=_;rw [← hS.nm];exact h.2)
    · rw [hf] at h;cases h.1)
  refine ⟨cl,h1,h4,h5,h7,fun i hi=>?_,hall,e1,e2⟩
  have:=h8 i hi
  split at this
  · rename_i y hy
    obtain ⟨this,h3⟩:=and2 this
    obtain ⟨h1,h2⟩:=and2 this
    exact ⟨y,hy,beq_iff_eq.mp h1,beq_iff_eq.mp h2,by simpa using h3⟩
  · cases this
theorem relabel_names {sc:Scope} {env:Env} (hk:env.scope.kind=.function) (hn:S.nm=env.scope.names):(relabel sc env).names=sc.names.map fun p=>(p.1,if p.2 == .free && S.nm.lookup p.1 == some .cell then .cell else p.2):=by
  unfold relabel
  simp only
  apply List.map_congr_left
  rintro ⟨y,k⟩ _
  simp only [hk,beq_self_eq_true,Bool.and_true]
  show _=(y,if (k == .free && S.nm.lookup y == some .cell)=true then NameKind.cell else k)
  rw [hn]
  show (if (k == .free && env.scope.names.lookup y == some .cell)=true then (y,NameKind.cell) else (y,k))=_
  split<;>rfl
theorem map_lookup {f:Str×NameKind→NameKind} (x:Str) (l:List (Str×NameKind)):(l.map fun (p:Str×NameKind)=>(p.1,f p)).lookup x=(l.lookup x).map fun k=>f (x,k):=by
  induction l with
  | nil=>
    exact rfl
  | cons pp r ih=>
    obtain ⟨y,k⟩:=pp
    rw [List.map_cons,List.lookup_cons,List.lookup_cons]
    by_cases h:x == y
    · rw [h];simp only [Option.map_some];rw [eq_of_beq h]
    · simp only [h];exact ih
theorem Base.compKind (B:Base c n T F S) {sc:Scope} {cl:List (Str×Addr)} {C:Addr} (y:Str):(compEnvC sc cl C F.env).kindOf y=(sc.names.lookup y).map fun k=>if k == .free && S.nm.lookup y == some .cell then .cell else k:=by
  show (relabel sc F.env).names.lookup y=_
  rw [relabel_names B.ok.kind B.hS.nm]
  exact map_lookup y sc.names
theorem caps_vars {x:Str} {caps:List Nat} {sc:Scope} {cl:List (Str×Addr)} (K:CompOk S F x caps sc cl) (l:List Nat):(∀i∈l,i∈caps)→l.map (fun i=>S.vars[i]?)=(l.filterMap fun i=>S.vars[i]?).map some:=by
  induction l with
  | nil=>
    intro _
    exact rfl
  | cons i r ih=>
    intro hs
    obtain ⟨y,hy,_⟩:=K.caps i (hs i (.head _))
    rw [List.map_cons,List.filterMap_cons,hy,ih fun j hj=>hs j (.tail _ hj)]
    rfl
theorem nodup_at {α:Type} {l:List α} (h:l.Nodup) {i j:Nat} {y:α} (hi:l[i]?=some y) (hj:l[j]?=some y):i=j:=by
  obtain ⟨b1,b2⟩:=List.getElem?_eq_some_iff.mp hi
  obtain ⟨b3,b4⟩:=List.getElem?_eq_some_iff.mp hj
  have hp:=List.pairwise_iff_getElem.mp h
  rcases Nat.lt_trichotomy i j with h | h | h
  · exact absurd (b2.trans b4.symm) (hp i j b1 b3 h)
  · exact h
  · exact absurd (b4.trans b2.symm) (hp j i b3 b1 h)
theorem caps_nodup {x:Str} {caps:List Nat} {sc:Scope} {cl:List (Str×Addr)} (K:CompOk S F x caps sc cl) (hv:S.vars.Nodup):(x::caps.filterMap fun i=>S.vars[i]?).Nodup:=by
  refine List.nodup_cons.mpr ⟨fun hm=>?_,?_⟩
  · obtain ⟨i,hi,e⟩:=List.mem_filterMap.mp hm
    obtain ⟨y,hy,_,_,hne⟩:=K.caps i hi
    exact hne (Option.some.inj (hy.symm.trans e))
  · have hm:(caps.map fun i=>S.vars[i]?).Nodup:=List.pairwise_map.mpr (K.nd.imp_of_mem fun {i j} hi hj hne e=>by
      obtain ⟨y,hy,_⟩:=K.caps i hi
      exact hne (nodup_at hv hy (e.symm.trans hy)))
    rw [caps_vars K caps fun zz h=>h] at hm
    exact (List.pairwise_map.mp hm).imp fun h e=>h (congrArg some e)
theorem Base.comp (B:Base c n T F S) {x:Str} {caps:List Nat} {sc:Scope} {cl:List (Str×Addr)} (K:CompOk S F x caps sc cl) {C:Addr} {kept:List (Addr×Obj)} (hL:∃o,(F.env.locals,o)∈kept∧∃es ep,o.data=.dict es ep) (hk:∀p∈F.kept,(∃es ep,p.2.data=.dict es ep)→∃o,(p.1,o)∈kept∧∃es ep,o.data=.dict es ep):
    Base c n T (F.comp C cl sc kept (S.inner x caps sc).vars) (S.inner x caps sc):=by
  refine ⟨⟨K.kind,B.ok.glob,B.ok.blt,B.ok.frames,fun e he=>?_,B.ok.self,caps_nodup K (by rw [B.hS.vars];exact B.ok.vs),fun y hy=>?_,B.ok.depth,B.ok.units⟩,⟨rfl,(relabel_names B.ok.kind B.hS.nm).symm,B.hS.gl,B.hS.bi⟩,B.hT,B.hh⟩
  · obtain ⟨h1,L,h2,h3⟩:=B.ok.fr e he
    refine ⟨h1,L,h2,.inr ?_⟩
    rcases h3 with rfl | ⟨o,ho,hd⟩
    · exact hL
    · exact hk _ ho hd
  · have hy':(compEnvC sc cl C F.env).kindOf y=some .cell:=hy
    rw [B.compKind] at hy'
    obtain ⟨k,hk1,hk2⟩:=map_some hy'
    have hmem:=PySem.mem_of_lookup hk1
    split at hk2
    · rename_i hc
      exact Option.isSome_iff_exists.mp (K.cl.ex _ hmem (beq_iff_eq.mp (and2 hc).1))
    · subst hk2
      rcases K.all _ hmem with h | h | h
      · cases h
      · cases h.1
      · cases h.1
theorem caps_loc (B:Base c n T F S) {x:Str} {caps:List Nat} {sc:Scope} {cl:List (Str×Addr)} (K:CompOk S F x caps sc cl) (xs:Sit c F st m oc fz kp s) {C:Addr} {G:Fm} (hE:G.env=compEnvC sc cl C F.env) (hV:G.vars=(S.inner x caps sc).vars) {fz':List (Addr×Obj)} {m':Str→Option Value} {v:Value} {y:V} (hv:m' x=some v) (r:c.R fz' v y):
    LocR c fz' G m' (some y::capsL st caps):=by
  intro i w hw
  rw [hV,hE]
  induction i using Nat.casesOn with
  | zero=>cases hw;exact ⟨x,rfl,.val (by rw [B.compKind,K.lx];rfl) hv r⟩
  | succ i=>
    have hw:(capsL st caps)[i]?=some (some w):=hw
    unfold capsL at hw
    rw [List.getElem?_map] at hw
    obtain ⟨j,hj,hw⟩:=map_some hw
    obtain ⟨z,hz,hz1,hz2,hz3⟩:=K.caps j (List.mem_of_getElem? hj)
    have hvars:(caps.filterMap fun i=>S.vars[i]?)[i]?=some z:=by
      have:=congrArg (fun l=>l[i]?) (caps_vars K caps fun zz h=>h)
      simp only [List.getElem?_map,hj,Option.map_some,hz] at this
      obtain ⟨z',e1,e2⟩:=map_some this.symm
      cases e2;exact e1
    refine ⟨z,hvars,?_⟩
    have hl:st.loc[j]?=some (some w):=by
      cases q:st.loc[j]? with
      | none=>rw [q] at hw;cases hw
      | some o=>rw [q] at hw;exact congrArg some hw
    obtain ⟨z',hz',hlv⟩:=xs.lc _ _ hl
    rw [← B.hS.vars] at hz'
    cases hz.symm.trans hz'
    have hcell:F.env.kindOf z=some .cell:=by show F.env.scope.names.lookup _=_;rw [← B.hS.nm];exact hz2
    cases hlv with
    | val hkl=>cases hcell.symm.trans hkl
    | @cell ca _ hca=>
      refine .cell (.inl (by rw [B.compKind,hz1,hz2];rfl)) ?_
      obtain ⟨a,ha⟩:=Option.isSome_iff_exists.mp (K.cl.ex _ (PySem.mem_of_lookup hz1) rfl)
      cases hca.symm.trans (K.cl.sub _ _ ha)
      exact ha
theorem Sit.enter (x:Sit c F st m oc fz kp s) {G:Fm} {m':Str→Option Value} {C:Addr} (hC:G.env.locals=C) (hns:s.heap.Ns C m') (hab:c.g.objs.size≤C) (hne:∀p∈oc++(fz++kp),p.1≠C) (hCL:C≠F.env.locals) {oL:Obj} (hoL:s.heap.get? F.env.locals=some oL)
    (hk:G.kept=(F.env.locals,oL)::kp) (hGb:∀p∈G.base,p∈fz) {loc':List (Option V)} (hloc:LocR c fz G m' loc'):Sit c G ⟨loc',st.own⟩ m' oc fz ((F.env.locals,oL)::kp) s:=by
  subst hC
  have old:∀p∈oc++(fz++kp),s.heap.get? p.1=some p.2∧p.1≠G.env.locals∧c.g.get? p.1=none:=fun p h=>⟨(x.nw p h).1,hne p h,(x.nw p h).2.2⟩
  refine ⟨⟨hns,x.fr.keep,hab⟩,fun p hp=>?_,x.nd,fun p hp q hq=>?_,x.ow,hloc,by rw [hk];exact KeptR.same,fun p hp q hq=>?_,x.re,hGb⟩
  · rcases List.mem_append.mp hp with hp | hp
    · exact old p (List.mem_append_left _ hp)
    · rcases List.mem_append.mp hp with hp | hp
      · exact old p (List.mem_append_right _ (List.mem_append_left _ hp))
      · rcases List.mem_cons.mp hp with rfl | hp
        · exact ⟨hoL,Ne.symm hCL,Heap.get?_none_of_le x.fr.above⟩
        · exact old p (List.mem_append_right _ (List.mem_append_right _ hp))
  · rcases List.mem_append.mp hq with hq | hq
    · exact x.ap p hp q (List.mem_append_left _ hq)
    · exact (List.mem_cons.mp hq).elim (fun e=>e▸(x.nw p (List.mem_append_left _ hp)).2.1) fun hq=>x.ap p hp q (List.mem_append_right _ hq)
  · exact (List.mem_cons.mp hq).elim (fun e=>e▸(x.nw p (List.mem_append_right _ (List.mem_append_left _ hp))).2.1) (x.fk p hp q)
theorem Sit.leave {G:Fm} {L:Addr} {oL:Obj} {kp0:List (Addr×Obj)} {m':Str→Option Value} (hk:G.kept=(L,oL)::kp0) (hL:F.env.locals=L) (hab:c.g.objs.size≤L) (hm:LCg.NsObj oL m) (hk0:KeptR F.kept kp0) (hne:∀p∈kp0,p.1≠L) (x:Sit c G st m' oc fz kp s) (hFb:∀p∈F.base,p∈fz) {loc:List (Option V)} (hl:LocR c fz F m loc):
    ∃kp2,kp.map (·.1)=L::kp2.map (·.1)∧(∀p∈kp2,p∈kp)∧Sit c F ⟨loc,st.own⟩ m oc fz kp2 s:=by
  subst hL
  have hG:G=G.keep ((F.env.locals,oL)::kp0):=by rw [← hk];rfl
  rw [hG] at x
  obtain ⟨rfl,hsl,x1,e1,f⟩:=x.dropK
  rename_i sl kp2
  refine ⟨kp2,rfl,fun p hp=>.tail _ hp,⟨?_,x1.fr.keep,hab⟩,fun p hp=>⟨(x1.nw p hp).1,?_,(x1.nw p hp).2.2⟩,x1.nd,x1.ap,x1.ow,hl,hk0.trans x1.kr,x1.fk,x1.re,hFb⟩
  · obtain ⟨es,ep,hd,r⟩:=hm
    exact ⟨_,es,ep,e1,hd,r⟩
  · have h2:KeptR kp0 kp2:=x1.kr
    exact (List.mem_append.mp hp).elim (f.oc p) fun hp=>(List.mem_append.mp hp).elim (f.fz p) (h2.apart hne p)
theorem forFalse {env:Env} (ifs:List Expr):(forIn ifs false fun c r=>(if r=true then do let ok ← isTrue c env (eval c env);pure (ForInStep.yield ok) else pure (ForInStep.yield r):Sem (ForInStep Bool)))=pure false:=by
  induction ifs with
  | nil=>
    rw [List.forIn_nil]
  | cons e r ih=>
    rw [List.forIn_cons];simp only [Bool.false_eq_true,if_false,pure_bind];exact ih
theorem GA.tests {conds:List ME} {ifs:List Expr} (hc:GA c n T F conds ifs) {st:St} {Q:QB} {X:XT} {fz s} (h:wpAnd c n T conds st Q X) (x:Now c F st fz s) (hE:ExcTo c F X E):
    wpAny c.M F.A (forIn ifs true fun c r=>if r=true then do let ok ← isTrue c F.env (eval c F.env);pure (ForInStep.yield ok) else pure (ForInStep.yield r)) (PostB c F fz Q) E s:=by
  induction hc generalizing st fz s with
  | nil=>rw [List.forIn_nil];exact wpAny_pure (.mk x .refl h)
  | @cons a e as es ha _ ih=>
    rw [List.forIn_cons]
    simp only [if_true]
    refine wpAny_bind (wpAny_bind (seqB (ha h x hE) fun {b _ _ _} x2 s2 h2=>wpAny_pure ?_))
    cases b
    · show wpAny _ _ (forIn es false _) _ _ _
      rw [forFalse]
      exact wpAny_pure (.mk x2 s2 h2)
    · exact wpAny_mono (ih h2 x2) (fun zz zz p=>p.weak s2) fun zz zz e=>e
noncomputable abbrev lstO (ys:List Value):Obj:=W.listOf ys.toArray ys.length
theorem lst_dict {ys:List Value}:∀es ep,(lstO ys).data≠.dict es ep:=fun zz zz h=>nomatch h
theorem lst_append {G:Fm} {I D:Addr} {oI:Obj} {vs:List Value} (x:Sit c (G.keep ((I,oI)::(D,lstO vs)::G.kept)) st m oc fz kp s) (hI:∀es ep,oI.data≠.dict es ep) (hID:I≠D) (hk:∀p∈G.kept,p.1≠D) {w:Value} (hl:vs.length < LIM) {Q:PE}
    (h:∀s' kp',Sit c (G.keep ((I,oI)::(D,lstO (vs++[w]))::G.kept)) st m oc fz kp' s'→Q .none s'):wpAny c.M A (call (.builtin "list.append") [.ref D,w]) Q E s:=by
  obtain ⟨rfl,y1,e1,f1⟩:=x.dropF hI
  obtain ⟨rfl,y2,e2,f2⟩:=y1.dropF lst_dict
  have y2':Sit c G _ _ _ _ _ _:=y2
  refine append_at (its:=vs.toArray) (n:=vs.length) (D:=D) (x:=w) e2 (fun h6 hs6 hD6=>?_) (by rw [List.size_toArray,sizeLine_is];omega)
  have y3:=y2'.step s.toks (h':=h6) (I:=D) (fun b o hb e=>(hs6.2 b hb).trans e) f2 (y2'.kr.apart hk)
  have hD6':h6.get? D=some (lstO (vs++[w])):=by rw [hD6];simp [PySem.W.listOf]
  exact h _ _ ((y3.addK (o:=lstO (vs++[w])) hD6' f2).addK (a:=I) (o:=oI) ((hs6.2 _ hID).trans e1) f1)
theorem live2 {G:Fm} {I:Addr} {oI:Obj} {k2 k9:List (Addr×Obj)} {its:List V} {St:Nat→Heap→Prop} {i:Nat} {fz2 fz9:List (Addr×Obj)} {st2 st9:Mine.Internal.St} {m2 m9:Str→Option Value} {oc2 oc9 kp2 kp9:List (Addr×Obj)} {s2 s9:Shared} (W:Iter c A fz0 I its St) (hI:∀es ep,oI.data≠.dict es ep)
    (x2:Sit c (G.keep ((I,oI)::k2)) st2 m2 oc2 fz2 kp2 s2) (x9:Sit c (G.keep ((I,oI)::k9)) st9 m9 oc9 fz9 kp9 s9) (h2:Sub fz0 fz2) (h9:Sub fz0 fz9) (hs:St i s2.heap):St i s9.heap:=by
  obtain ⟨_,_,e2,_⟩:=x2.dropF hI
  obtain ⟨_,_,e9,_⟩:=x9.dropF hI
  exact iter_live W hs e2 e9 (fun a o h=>x2.at (At.mono h2 _ _ h)) (fun a o h=>x9.at (At.mono h9 _ _ h))
end
section
variable {c:Cx} {n:Nat} {T:Tab} {F:Fm} {S:Scp} {fz fz0:List (Addr×Obj)} {st:St} {m:Str→Option Value} {oc kp:List (Addr×Obj)} {s:Shared} {E:PE} {A:Around} {X:XT}
noncomputable abbrev elP (c:Cx) (n:Nat) (T:Tab) (elt:ME) (conds:List ME) (caps:List (Option V)):V→Own→(Option V→Own→Prop)→Prop:=fun it own K=>
  wpAnd c n T conds ⟨some it::caps,own⟩ (fun b st2=>ifB b (wpE c n T elt st2 (fun y st3=>K (some y) st3.own) NoX) (K none st2.own)) NoX
inductive CompOut (c:Cx) (F:Fm) (st':St) (fz0:List (Addr×Obj)) (C:Addr) (D:Value) (y:V) (s':Shared):Prop
  | mk {m':Str→Option Value} {oc' fz' kp':List (Addr×Obj)} {mC:Str→Option Value}:s'.heap.Ns C mC→Free c F.env.locals oc' fz' C→(∀p∈kp',p.1≠C)→Sit c F st' m' oc' fz' kp' s'→Sub fz0 fz'→c.R fz' D y→CompOut c F st' fz0 C D y s'
inductive CompInv (c:Cx) (G:Fm) (I D:Addr) (fz0:List (Addr×Obj)) (its:List V) (St:Nat→Heap→Prop) (P:V→Own→(Option V→Own→Prop)→Prop) (KK:List V→Own→Prop) (k:Nat) (s':Shared):Prop
  | mk {i:Nat} {vs:List Value} {ys:List V} {own':Own} {m':Str→Option Value} {oc' fz' kp':List (Addr×Obj)} {oI:Obj}:i≤its.length→k=its.length+1 - i→vs.length≤i→Sub fz0 fz'→St i s'.heap→(∀es ep,oI.data≠.dict es ep)→Sit c (G.keep ((I,oI)::(D,lstO vs)::G.kept)) ⟨[],own'⟩ m' oc' fz' kp' s'→c.Rs fz' vs ys→compGo P (its.drop i) ys own' KK→CompInv c G I D fz0 its St P KK k s'
structure CompFr (c:Cx) (F:Fm) (st:St) (m:Str→Option Value) (fz kp:List (Addr×Obj)) (G:Fm) (I D C:Addr) (oL:Obj):Prop where
  kept:G.kept=(F.env.locals,oL)::kp
  loc:G.env.locals=C
  base:G.base=F.base
  ID:I≠D
  CD:C≠D
  CL:C≠F.env.locals
  DL:D≠F.env.locals
  gC:c.g.get? C=none
  kI:∀p∈G.kept,p.1≠I
  kD:∀p∈G.kept,p.1≠D
  kC:∀p∈kp,p.1≠C
  kL:∀p∈kp,p.1≠F.env.locals
  kr:KeptR F.kept kp
  ab:c.g.objs.size≤F.env.locals
  ns:LCg.NsObj oL m
  lc:LocR c fz F m st.loc
theorem comp_end {G:Fm} {I D C:Addr} {oL:Obj} (Z:CompFr c F st m fz kp G I D C oL) {vs:List Value} {ys:List V} {own':Own} {m':Str→Option Value} {oc' fz' kp2:List (Addr×Obj)} {s2:Shared} (x2:Sit c (G.keep ((D,lstO vs)::G.kept)) ⟨[],own'⟩ m' oc' fz' kp2 s2) (hsub:Sub fz fz') (rvs:c.Rs fz' vs ys):
    CompOut c F ⟨st.loc,own'⟩ fz C (.ref D) (.list ys) s2:=by
  obtain ⟨rfl,x3,e1,fD⟩:=x2.dropF lst_dict
  have x3:Sit c G ⟨[],own'⟩ m' oc' fz' _ s2:=x3
  have hkr:KeptR G.kept _:=x3.kr
  have hCns:=x3.fr.ns
  rw [Z.loc] at hCns
  obtain ⟨kp4,hk4,hk4',x4⟩:=Sit.leave (F:=F) (m:=m) (loc:=st.loc) Z.kept rfl Z.ab Z.ns Z.kr Z.kL x3 (fun p hp=>x3.fb p (by rw [Z.base];exact hp)) (Z.lc.up hsub)
  have hk4D:=fun p hp=>hkr.apart Z.kD p (hk4' p hp)
  have fD':Free c F.env.locals oc' fz' D:=⟨Z.DL,fD.g,fD.oc,fD.fz⟩
  have x5:=x4.addK e1 fD'
  have x6:Sit c F ⟨st.loc,own'⟩ m oc' ((D,lstO vs)::fz') kp4 s2:=by
    refine ⟨x4.fr,fun p hp=>?_,x4.nd,fun p hp q hq=>?_,x4.ow.up Sub.refl.cons,x4.lc.up Sub.refl.cons,x4.kr,fun p hp q hq=>?_,x4.re,fun p hp=>.tail _ (x4.fb p hp)⟩
    · rcases List.mem_append.mp hp with hp | hp
      · exact x4.nw p (List.mem_append_left _ hp)
      · rcases List.mem_cons.mp hp with rfl | hp
        · exact ⟨e1,Z.DL,fD.g⟩
        · exact x4.nw p (List.mem_append_right _ hp)
    · exact (List.mem_cons.mp hq).elim (fun e=>e▸fD.oc p hp) (x4.ap p hp q)
    · exact (List.mem_cons.mp hp).elim (fun e=>e▸Ne.symm (hk4D q hq)) fun hp=>x4.fk p hp q hq
  have hne:∀p∈oc'++(fz'++_),p.1≠C:=fun p hp=>by have:=(x3.nw p hp).2.1;rw [Z.loc] at this;exact this
  refine .mk hCns ⟨Z.CL,Z.gC,fun p hp=>hne p (List.mem_append_left _ hp),fun p hp=>?_⟩ (fun p hp=>hne p (List.mem_append_right _ (List.mem_append_right _ (hk4' p hp)))) x6 hsub.cons (.list (.inr (.head _)) rfl rfl (rvs.up Sub.refl.cons))
  exact (List.mem_cons.mp hp).elim (fun e=>e▸Ne.symm Z.CD) fun hp=>hne p (List.mem_append_right _ (List.mem_append_left _ hp))
theorem comp_turn (B:Base c n T F S) {x:Str} {caps:List Nat} {sc:Scope} {cl:List (Str×Addr)} (K:CompOk S F x caps sc cl) {elt:ME} {conds:List ME} {e:Expr} {ifs:List Expr} {G:Fm} {I D C:Addr} {oL:Obj} (Z:CompFr c F st m fz kp G I D C oL) (xs:Sit c F st m oc fz kp s)
    (hGA:G.A=F.A) (hGe:G.env=compEnvC sc cl C F.env) (hGv:G.vars=(S.inner x caps sc).vars) (he:∀k,GE c n T (G.keep (k++G.kept)) elt e) (hc:∀k,GA c n T (G.keep (k++G.kept)) conds ifs)
    {its:List V} {St:Nat→Heap→Prop} (W:Iter c A fz I its St) (hlen:its.length≤LIM) {KK:List V→Own→Prop} {i:Nat} {vs:List Value} {ys:List V} {own':Own} {y:V} {v:Value} {oI:Obj} {m':Str→Option Value} {oc' fz' kp':List (Addr×Obj)} {s2:Shared} {E':PE} {px:Pos}
    (hvl:vs.length≤i) (hsub:Sub fz fz') (hy:its[i]?=some y) (rv:c.R fz' v y) (hst:St (i+1) s2.heap) (hI:∀es ep,oI.data≠.dict es ep) (x2:Sit c (G.keep ((I,oI)::(D,lstO vs)::G.kept)) ⟨[],own'⟩ m' oc' fz' kp' s2) (rvs:c.Rs fz' vs ys) (hgo:compGo (elP c n T elt conds (capsL st caps)) (its.drop i) ys own' KK):
    wpAny c.M F.A (assign (.Name x px) (compEnvC sc cl C F.env) v) (fun zz s₂=>
          wpAny c.M F.A (forIn ifs true fun c r=>if r=true then do let ok ← isTrue c (compEnvC sc cl C F.env) (eval c (compEnvC sc cl C F.env));pure (ForInStep.yield ok) else pure (ForInStep.yield r)) (fun ok s₃=>
            if ok=true then wpAny c.M F.A (eval e (compEnvC sc cl C F.env)) (fun x s₄=>
              wpAny c.M F.A (call (.builtin "list.append") [.ref D,x]) (fun zz s₅=>∃m,m < its.length+1 - i∧CompInv c G I D fz its St (elP c n T elt conds (capsL st caps)) KK m s₅) E' s₄) E' s₃
            else ∃m,m < its.length+1 - i∧CompInv c G I D fz its St (elP c n T elt conds (capsL st caps)) KK m s₃) E' s₂) E' s2:=by
  have hlt:i < its.length:=(List.getElem?_eq_some_iff.mp hy).1
  have hdrop:its.drop i=y::its.drop (i+1):=by
    rw [List.drop_eq_getElem_cons hlt]
    congr 1
    exact (List.getElem?_eq_some_iff.mp hy).2
  rw [hdrop] at hgo
  generalize hk:[(I,oI),(D,lstO vs)]=kk
  have hG:G.keep ((I,oI)::(D,lstO vs)::G.kept)=G.keep (kk++G.kept):=by rw [← hk];rfl
  have hx:(compEnvC sc cl C F.env).kindOf x=some .local:=lookup_relabel_local K.lx
  have hns2:s2.heap.Ns (compEnvC sc cl C F.env).locals m':=by have:=x2.fr.ns;rw [show (G.keep ((I,oI)::(D,lstO vs)::G.kept)).env.locals=C from Z.loc] at this;exact this
  refine wpAny_assign_Name (wpAny_storeName_local hx hns2 (fun h₃ hn₃ hs₃=>?_) (by show ((relabel sc F.env).kind == .class || ((relabel sc F.env).kind == .module && _))=false;rw [show (relabel sc F.env).kind=sc.kind from rfl,K.kind];rfl))
  have hGl2:(G.keep ((I,oI)::(D,lstO vs)::G.kept)).env.locals=C:=Z.loc
  have x3:Sit c (G.keep ((I,oI)::(D,lstO vs)::G.kept)) ⟨some y::capsL st caps,own'⟩ (fun z=>if z=x then some v else m' z) oc' fz' kp' { s2 with heap:=h₃,toks:=s2.toks+1 }:=by
    refine x2.with ⟨by rw [hGl2];exact hn₃,fun b o eb=>(hs₃.2 b fun q=>?_).trans (x2.fr.keep b o eb),x2.fr.above⟩ (fun p hp=>⟨(hs₃.2 p.1 (by have:=(x2.nw p hp).2.1;rw [hGl2] at this;exact this)).trans (x2.nw p hp).1,(x2.nw p hp).2⟩) x2.nd x2.ap x2.ow (caps_loc B K xs hGe hGv (by simp) rv) x2.kr x2.fk .refl
    have h9:=x2.fr.above
    rw [hGl2] at h9
    have hb:=Heap.lt_size eb
    rw [q] at hb
    exact Nat.lt_irrefl _ (Nat.lt_of_lt_of_le hb h9)
  have hst3:St (i+1) h₃:=by
    obtain ⟨_,_,eI,fI⟩:=x2.dropF hI
    refine iter_live W hst eI ?_ (fun a o h=>x2.at (At.mono hsub _ _ h)) (fun a o h=>x3.at (At.mono hsub _ _ h))
    rw [hs₃.2 _ (fun q=>fI.loc (q.trans Z.loc.symm))];exact eI
  have next:∀{ys2:List V} {vs2:List Value} {st3:Mine.Internal.St} {m3:Str→Option Value} {oc3 fz3 kp3:List (Addr×Obj)} {s3:Shared},vs2.length≤i+1→Sit c (G.keep ((I,oI)::(D,lstO vs2)::G.kept)) st3 m3 oc3 fz3 kp3 s3→Sub fz' fz3→c.Rs fz3 vs2 ys2→compGo (elP c n T elt conds (capsL st caps)) (its.drop (i+1)) ys2 st3.own KK→
      ∃k',k' < its.length+1 - i∧CompInv c G I D fz its St (elP c n T elt conds (capsL st caps)) KK k' s3:=fun hl3 x9 hsub3 r3 hgo3=>
    ⟨its.length+1 - (i+1),step_lt hlt,.mk (i:=i+1) hlt rfl hl3 (hsub.trans hsub3) (live2 W hI x3 x9 hsub (hsub.trans hsub3) hst3) hI (x9.reloc (fun i v h=>by simp at h)) r3 hgo3⟩
  have exF:ExcTo c (G.keep (kk++G.kept)) NoX E':=fun ev s' ⟨_,_,_,_,f⟩=>f.elim
  have x3n:Now c (G.keep (kk++G.kept)) _ fz' _:=hG▸Now.mk x3
  have T1:=(hc kk).tests (Q:=fun b st2=>ifB b (wpE c n T elt st2 (fun z st3=>compGo (elP c n T elt conds (capsL st caps)) (its.drop (i+1)) (ys++[z]) st3.own KK) NoX) (compGo (elP c n T elt conds (capsL st caps)) (its.drop (i+1)) (ys++[]) st2.own KK)) hgo x3n exF
  have hAA:(G.keep (kk++G.kept)).A=F.A:=hGA
  have hEE:(G.keep (kk++G.kept)).env=compEnvC sc cl C F.env:=hGe
  rw [hAA,hEE] at T1
  refine seqB T1 fun {ok st4 fz4 s4} x4 sub4 h4=>?_
  induction ok using Bool.casesOn with
  | false=>
    rw [← hG] at x4
    cases x4 with | @mk m4 oc4 kp4 x4=>
    exact next (Nat.le_succ_of_le hvl) x4 sub4 (rvs.up sub4) (by have h4:compGo _ _ (ys++[]) _ _:=h4;rwa [List.append_nil] at h4)
  | true=>
    have T2:=he kk h4 x4 exF
    rw [hAA,hEE] at T2
    refine seqV T2 fun {w z st5 fz5 s5} x5 sub5 r5 h5=>?_
    rw [← hG] at x5
    cases x5 with | @mk m5 oc5 kp5 x5=>
    exact lst_append x5 hI Z.ID Z.kD (by omega) fun s6 kp6 x6=>next (by rw [List.length_append];exact Nat.succ_le_succ hvl) x6 (sub4.trans sub5) (((rvs.up sub4).up sub5).append (.cons r5 .nil)) h5
set_option maxHeartbeats 1000000 in
theorem comp_core (B:Base c n T F S) (hh:F.A.handled=none) {x:Str} {caps:List Nat} {sc:Scope} {cl:List (Str×Addr)} (K:CompOk S F x caps sc cl) {elt:ME} {conds:List ME} {e:Expr} {ifs:List Expr} (he:∀{G},Base c n T G (S.inner x caps sc)→GE c n T G elt e) (hc:∀{G},Base c n T G (S.inner x caps sc)→GA c n T G conds ifs)
    (xs:Sit c F st m oc fz kp s) {its:List V} {St:Nat→Heap→Prop} {oI:Obj} (W:Iter c F.A fz s.heap.objs.size its St) (h0:St 0 (s.heap.push oI)) (hIv:∃vs,oI.data=.fields vs) (hlen:its.length≤LIM) {px pos:Pos} {iter:Expr} {KK:List V→Own→Prop}
    (hgo:compGo (elP c n T elt conds (capsL st caps)) its [] st.own KK) {RR:Value→Addr→Result→Shared→Prop} (hRR:∀D C s' own' ys,CompOut c F ⟨st.loc,own'⟩ fz C (.ref D) (.list ys) s'→KK ys own'→RR (.ref D) C (.ok .next) s'):
    wpAny c.M F.A (newList []) (fun acc s₃=>wpAny c.M F.A (newFunctionEnv sc F.env.globals cl [] F.env.qual none .none (some F.env)) (fun cenv s₄=>
      codeAny c.M F.A (.compStart (.ListComp e [⟨.Name x px,iter,ifs,0⟩] sc pos) 0 (.ref s.heap.objs.size) acc { cenv with scope:=relabel sc F.env }) (RR acc cenv.locals) s₄) E s₃) E { s with heap:=s.heap.push oI }:=by
  have hcell:∀y∈sc.names,y.2≠.cell:=by
    intro p hp q
    rcases K.all p hp with h | h | h
    · rw [q] at h;cases h
    · rw [q] at h;cases h.1
    · rw [q] at h;cases h.1
  obtain ⟨oIvs,hIv⟩:=hIv
  have hId:∀es ep,oI.data≠.dict es ep:=fun zz zz e=>by rw [hIv] at e;cases e
  refine wpAny_newObj_type (wpAny_newFunctionEnv hcell (by intro y hy;simp at hy) (fun h₁ hns₁ hsb₁=>?_) K.kind)
  dsimp only at hns₁ hsb₁ ⊢
  generalize hH2:(s.heap.push oI).push { cls:=.type "list",dict:=none,data:=.seq ([]:List Value).toArray }=H2 at hns₁ hsb₁ ⊢
  have hI1:(s.heap.push oI).objs.size=s.heap.objs.size+1:=Heap.size_push ..
  have hC:H2.objs.size=s.heap.objs.size+2:=by rw [← hH2,Heap.size_push,hI1]
  rw [hI1]
  have x1:=((xs.junk oI).junk { cls:=.type "list",dict:=none,data:=.seq ([]:List Value).toArray }).junk { cls:=.type (if (some F.env).isSome then "dict" else "frame"),data:=.dict #[] }
  simp only [hH2] at x1
  have lt:∀p∈oc++(fz++kp),∀a:Addr,s.heap.objs.size≤a→p.1≠a:=fun p hp a ha=>Nat.ne_of_lt (Nat.lt_of_lt_of_le (xs.size p hp) ha)
  have hLlt:∀a:Addr,s.heap.objs.size≤a→a≠F.env.locals:=fun a ha=>Nat.ne_of_gt (Nat.lt_of_lt_of_le xs.fr.ns.lt ha)
  have hbig:∀a:Addr,s.heap.objs.size≤a→c.g.objs.size≤a:=fun a ha=>Nat.le_trans (Nat.le_trans xs.fr.above (Nat.le_of_lt xs.fr.ns.lt)) ha
  have gnone:∀a:Addr,s.heap.objs.size≤a→c.g.get? a=none:=fun a ha=>Heap.get?_none_of_le (hbig a ha)
  have free:∀a:Addr,s.heap.objs.size≤a→Free c F.env.locals oc fz a:=fun a ha=>⟨hLlt a ha,gnone a ha,fun p hp=>lt p (List.mem_append_left _ hp) a ha,fun p hp=>lt p (List.mem_append_right _ (List.mem_append_left _ hp)) a ha⟩
  have leC:s.heap.objs.size≤H2.objs.size:=by rw [hC];exact Nat.le_add_right _ 2
  have leD:s.heap.objs.size≤s.heap.objs.size+1:=Nat.le_add_right _ 1
  have neIC:s.heap.objs.size≠H2.objs.size:=by rw [hC];exact Nat.ne_of_lt (Nat.lt_add_of_pos_right (by decide))
  have neDC:s.heap.objs.size+1≠H2.objs.size:=by rw [hC];exact Nat.ne_of_lt (Nat.lt_succ_self _)
  have neID:s.heap.objs.size≠s.heap.objs.size+1:=Nat.ne_of_lt (Nat.lt_succ_self _)
  have kn:∀a:Addr,s.heap.objs.size≤a→∀p∈kp,p.1≠a:=fun a ha p hp=>lt p (List.mem_append_right _ (List.mem_append_right _ hp)) a ha
  have x2:Sit c F st m oc fz kp { s with heap:=h₁,toks:=s.toks+([]:List (Str×Value)).length }:=
    x1.step _ (I:=H2.objs.size) (fun b o hb e=>(hsb₁.2 b hb).trans e) (free _ leC) (kn _ leC)
  obtain ⟨oL,es,ep,hL1,hL2,hL3⟩:=x2.fr.ns
  have up:∀b o,b≠H2.objs.size→H2.get? b=some o→h₁.get? b=some o:=fun b o hb e=>(hsb₁.2 b hb).trans (Heap.get?_push_of_some _ e)
  have hD:h₁.get? (s.heap.objs.size+1)=some (lstO []):=by
    refine up _ _ neDC ?_
    rw [← hH2,← hI1]
    exact Heap.get?_push_size _ rfl
  have hIo:h₁.get? s.heap.objs.size=some oI:=by
    refine up _ _ neIC ?_
    rw [← hH2]
    exact Heap.get?_push_of_some _ (Heap.get?_push_size _ (Obj.isFreed_of_fields hIv))
  generalize hG:F.comp H2.objs.size cl sc ((F.env.locals,oL)::kp) (S.inner x caps sc).vars=G
  have hGl:G.env.locals=H2.objs.size:=by rw [← hG];rfl
  have hGk:G.kept=(F.env.locals,oL)::kp:=by rw [← hG];rfl
  have hGe:G.env=compEnvC sc cl H2.objs.size F.env:=by rw [← hG];rfl
  have hGkn:∀a:Addr,s.heap.objs.size≤a→∀p∈G.kept,p.1≠a:=fun a ha p hp=>by
    rw [hGk] at hp
    exact (List.mem_cons.mp hp).elim (fun e=>e▸Ne.symm (hLlt a ha)) (kn a ha p)
  have Z:CompFr c F st m fz kp G s.heap.objs.size (s.heap.objs.size+1) H2.objs.size oL:=
    ⟨hGk,hGl,by rw [← hG];rfl,neID,Ne.symm neDC,hLlt _ leC,hLlt _ leD,gnone _ leC,hGkn _ (Nat.le_refl _),hGkn _ leD,kn _ leC,fun p hp=>(xs.nw p (List.mem_append_right _ (List.mem_append_right _ hp))).2.1,xs.kr,xs.fr.above,⟨es,ep,hL2,hL3⟩,xs.lc⟩
  have x3:Sit c G ⟨[],st.own⟩ (fun x=>([]:List (Str×Value)).reverse.lookup x) oc fz ((F.env.locals,oL)::kp) { s with heap:=h₁,toks:=s.toks+([]:List (Str×Value)).length }:=
    x2.enter hGl hns₁ (hbig _ leC) (fun p hp=>lt p hp _ leC) (hLlt _ leC) hL1 hGk (by rw [← hG];exact xs.fb) (fun i v h=>by simp at h)
  have freeG:∀a:Addr,s.heap.objs.size≤a→a≠H2.objs.size→Free c G.env.locals oc fz a:=fun a ha hc=>⟨by rw [hGl];exact hc,(free a ha).g,(free a ha).oc,(free a ha).fz⟩
  have x5:=(x3.addK hD (freeG _ leD neDC)).addK (a:=s.heap.objs.size) (o:=oI) hIo (freeG _ (Nat.le_refl _) neIC)
  have hst₁:St 0 h₁:=iter_live W (h0:=s.heap.push oI) (oI:=oI) h0 (Heap.get?_push_size _ (Obj.isFreed_of_fields hIv)) hIo (fun a o h=>Heap.get?_push_of_some _ (xs.at h)) (fun a o h=>x2.at h)
  have hbase:∀k:List (Addr×Obj),Base c n T (G.keep (k++G.kept)) (S.inner x caps sc):=by
    intro k
    have:=B.comp K (C:=H2.objs.size) (kept:=k++((F.env.locals,oL)::kp)) ⟨oL,List.mem_append_right _ (.head _),es,ep,hL2⟩ (fun p hp ⟨es,ep,hd⟩=>by
      obtain ⟨sl,hs⟩:=xs.kr.get (a:=p.1) (o:=p.2) hp
      exact ⟨_,List.mem_append_right _ (.tail _ hs),es,ep,hd⟩)
    rw [hGk,← hG]
    exact this
  have loop:codeAny c.M F.A (.compLoop (.ListComp e [⟨.Name x px,iter,ifs,0⟩] sc pos) 0 (.ref s.heap.objs.size) (.ref (s.heap.objs.size+1)) (compEnvC sc cl H2.objs.size F.env)) (RR (.ref (s.heap.objs.size+1)) H2.objs.size) { s with heap:=h₁,toks:=s.toks+([]:List (Str×Value)).length }:=by
    refine codeAny_compLoop_tests (CompInv c G s.heap.objs.size (s.heap.objs.size+1) fz its St (elP c n T elt conds (capsL st caps)) KK) ?_ (its.length+1) (.mk (i:=0) (Nat.zero_le _) rfl (Nat.le_refl _) .refl hst₁ hId x5 .nil (by simpa using hgo))
    rintro k s' ⟨hi,rfl,hvl,hsub,hst',hI'f,x',rvs,hgo'⟩
    refine iter_next W (fun p hp=>(List.mem_cons.mp hp).elim (fun e=>e▸Ne.symm neID) (Z.kI p)) x' hsub hst' hi (fun hend s2 kp2 x2=>?_) fun y v oI2 s2 kp2 hy rv hst2 hIf zz x2=>?_
    · subst hend
      rw [List.drop_length] at hgo'
      exact hRR _ _ _ _ _ (comp_end Z x2 hsub rvs) hgo'
    · exact comp_turn B K Z xs (by rw [← hG];rfl) hGe (by rw [← hG];rfl) (fun k=>he (hbase k)) (fun k=>hc (hbase k)) W hlen hvl hsub hy rv hst2 hIf x2 rvs hgo'
  refine codeAny_compStart_list loop ?_
  obtain ⟨W',hfp,hP,hSt⟩:=W
  exact W'.self 0 _ _ _ hst₁ loop
theorem comp_any (B:Base c n T F S) (hcalls:S.calls=true) {elt:ME} {conds:List ME} {caps:List Nat} {src:ME} {e it:Expr} {ifs:List Expr} {x:Str} {px pos:Pos} {sc:Scope} (hsrc:GE c n T F src it) (hset:notSetE it=true) (hsc:compScopeOk S x caps sc=true) (he:∀{G},Base c n T G (S.inner x caps sc)→GE c n T G elt e) (hc:∀{G},Base c n T G (S.inner x caps sc)→GA c n T G conds ifs)
    {use:Option (Value→Sem Unit)} {Q:QV} (h:wpE c n T (.comp elt conds caps src) st Q X) (xs:Now c F st fz s) (hE:ExcTo c F X E) {R:PE}
    (k:∀D C s' st' y,CompOut c F st' fz C (.ref D) y s'→Q y st'→compPost c.M F.A E use R (.ref D) C (.ok .next) s'):
    wpAny c.M F.A (comprehension (.ListComp e [⟨.Name x px,it,ifs,0⟩] sc pos) sc F.env (firstIterPos [⟨.Name x px,it,ifs,0⟩] pos) (newList []) false (eval it F.env) use) R E s:=by
  have hh:=B.hh hcalls
  obtain ⟨cl,K⟩:=CompOk.of B.ok B.hS hsc
  have hnames:∀y∈sc.names,y.2=.local→sc.names.lookup y.1=some .local:=by
    intro p hp hl
    rcases K.all p hp with h | h | h
    · rw [hl] at h;cases h
    · rw [hl] at h;cases h.1
    · rcases h.2 with h | h
      · rw [h];exact K.lx
      · rw [h];exact K.l0
  refine wpAny_comprehension_free (use:=use) rfl (fun v=>folded_of hset F.env v) K.clos K.kind hnames (seqV (hsrc h xs hE) fun x1 sub1 r1 h1=>?_)
  obtain ⟨its,hit,hlen,hgo⟩:=h1
  refine pyIter_snd hh x1 r1 hit hlen fun oI St W h0 hf=>?_
  cases x1 with | @mk m1 oc1 kp1 x1=>
  refine comp_core B hh K he hc x1 W h0 hf hlen hgo fun D C s' own' ys ho hk=>k D C s' _ _ ?_ hk
  obtain ⟨a1,a2,a3,a4,a5,a6⟩:=ho
  exact .mk a1 a2 a3 a4 (sub1.trans a5) a6
theorem letGoC (x:Sit c F st m oc fz kp s) {C:Addr} (f:Free c F.env.locals oc fz C) (a4:∀p∈kp,p.1≠C) {h':Heap} (hs:Heap.SameBut C s.heap h'):Sit c F st m oc fz kp { s with heap:=h' }:=
  x.step s.toks (fun b o hb e=>(hs.2 b hb).trans e) f a4
theorem snd_comp (B:Base c n T F S) (hcalls:S.calls=true) {elt:ME} {conds:List ME} {caps:List Nat} {src:ME} {e it:Expr} {ifs:List Expr} {x:Str} {px pos:Pos} {sc:Scope} (hsrc:GE c n T F src it) (hset:notSetE it=true) (hsc:compScopeOk S x caps sc=true) (he:∀{G},Base c n T G (S.inner x caps sc)→GE c n T G elt e) (hc:∀{G},Base c n T G (S.inner x caps sc)→GA c n T G conds ifs):
    GE c n T F (.comp elt conds caps src) (.ListComp e [⟨.Name x px,it,ifs,0⟩] sc pos):=by
  intro st Q X fz s E h xs hE
  rw [eval_ListComp]
  refine comp_any B hcalls hsrc hset hsc he hc (use:=none) h xs hE fun D C s' st' z ho hq=>?_
  obtain ⟨a1,a2,a3,x2,sub2,r2⟩:=ho
  exact ⟨_,a1,fun h' hs=>.mk (.mk (letGoC x2 a2 a3 hs)) sub2 r2 hq⟩
end
section
variable (c:Cx) (n:Nat) (T:Tab) (F:Fm)
noncomputable def GS (b:MS) (ss:Stmt):Prop:=∀{st:St} {Q:QF} {X:XT} {fz s E},wpS c n T b st Q X→Now c F st fz s→ExcTo c F X E→wpAny c.M F.A (exec ss F.env) (PostF c F fz Q) E s
noncomputable def GSs (b:List MS) (ss:List Stmt):Prop:=∀{st:St} {Q:QF} {X:XT} {fz s E},wpSs c n T b st Q X→Now c F st fz s→ExcTo c F X E→wpAny c.M F.A (execs ss F.env) (PostF c F fz Q) E s
end
inductive TgR (S:Scp):Tg→Str→Prop
  | loc {i:Nat} {y:Str}:S.vars[i]?=some y→S.nm.lookup y=some .local→TgR S (.loc i) y
  | cell {i:Nat} {y:Str}:S.vars[i]?=some y→S.nm.lookup y=some .cell→TgR S (.cell i) y
inductive TgsR (S:Scp):List Tg→List Str→Prop
  | nil:TgsR S [] []
  | cons {t:Tg} {y:Str} {ts:List Tg} {ys:List Str}:TgR S t y→TgsR S ts ys→TgsR S (t::ts) (y::ys)
structure BaseS (c:Cx) (n:Nat) (T:Tab) (F:Fm) (S:Scp):Prop extends Base c n T F S where
  top:∃r,F.frames=F.env::r
section
variable {c:Cx} {n:Nat} {T:Tab} {F:Fm} {S:Scp} {fz fz0:List (Addr×Obj)} {st:St} {m:Str→Option Value} {oc kp:List (Addr×Obj)} {s:Shared} {E:PE} {A:Around} {X:XT} {a b d:ME} {x y z:Expr} {p:Pos}
theorem Base.keepMore (B:Base c n T F S) (k:List (Addr×Obj)):Base c n T (F.keep (k++F.kept)) S:=⟨B.ok.keepMore k,B.hS.keep _,B.hT,B.hh⟩
theorem BaseS.keepMore (B:BaseS c n T F S) (k:List (Addr×Obj)):BaseS c n T (F.keep (k++F.kept)) S:=⟨B.toBase.keepMore k,B.top⟩
theorem PostF.ofU {Q:PS} {QQ:QF} {s':Shared} (h:PostU c F fz Q s') (k:∀st,Q st→QQ .next st):PostF c F fz QQ .next s':=match h with
  | .mk a b q=>.mk a b .next (k _ q)
theorem endU {t:Sem Unit} {Q:QF} (h:wpAny c.M A t (fun zz s'=>PostU c F fz (Q .next) s') E s):wpAny c.M A t (fun zz s'=>PostF c F fz Q .next s') E s:=wpAny_mono h (fun zz zz q=>PostF.ofU q fun zz h=>h) fun zz zz e=>e
theorem storeLocal (ok:F.Ok c n) (x:Now c F st fz s) (sub:Sub fz0 fz) {i:Nat} {y:Str} (hv:F.vars[i]?=some y) (hk:F.env.kindOf y=some .local) {v:Value} {z:V} (r:c.R fz v z) (hi:i < st.loc.length) {K:PS} (h:K ⟨st.loc.set i (some z),st.own⟩):
    wpAny c.M F.A (storeName F.env y v) (fun zz s'=>PostU c F fz0 K s') E s:=by
  cases x with | @mk m oc kp x=>
  refine wpAny_storeName_local hk x.fr.ns (fun h' hn hs=>.mk (.mk (m:=fun w=>if w=y then some v else m w) (oc:=oc) (kp:=kp) ?_) sub h) (by rw [ok.kind];rfl)
  refine x.with (t:=s.toks+1) ⟨hn,fun b o e=>(hs.2 b fun q=>?_).trans (x.fr.keep b o e),x.fr.above⟩ (fun p hp=>⟨(hs.2 p.1 (x.nw p hp).2.1).trans (x.nw p hp).1,(x.nw p hp).2⟩) x.nd x.ap x.ow (fun j w hw=>?_) x.kr x.fk .refl
  · have:=Heap.lt_size e
    rw [q] at this
    exact Nat.lt_irrefl _ (Nat.lt_of_lt_of_le this x.fr.above)
  · by_cases hij:i=j
    · subst hij
      rw [List.getElem?_set_self hi] at hw
      cases hw
      exact ⟨y,hv,.val hk (if_pos rfl) r⟩
    · rw [List.getElem?_set_ne hij] at hw
      obtain ⟨y',hy',hl⟩:=x.lc _ _ hw
      refine ⟨y',hy',?_⟩
      cases hl with
      | cell a b=>exact .cell a b
      | val a1 a2 a3=>exact .val a1 ((if_neg (show ¬ y'=y from fun e=>hij (nodup_at ok.vs hv (e▸hy')))).trans a2) a3
theorem store_cell {env:Env} {y:Str} {v:Value} (hk:env.kindOf y=some .cell) (hf:env.scope.kind=.function):storeName env y v=(do cellSet (← cellOf env y) (some v)):=by
  unfold storeName
  rw [hk]
  show (if (env.scope.kind == .class && true)=true then _ else _)=_
  rw [hf]
  rfl
theorem putT_snd (B:Base c n T F S) (x:Now c F st fz s) (sub:Sub fz0 fz) {t:Tg} {y:Str} (ht:TgR S t y) {v:Value} {z:V} (r:c.R fz v z) {K:PS} (h:putT st t z K):wpAny c.M F.A (storeName F.env y v) (fun zz s'=>PostU c F fz0 K s') E s:=by
  cases ht with
  | loc hv hk=>exact storeLocal B.ok x sub (B.hS.vars▸hv) (by show F.env.scope.names.lookup _=_;rw [← B.hS.nm];exact hk) r (setL_inv h).1 (setL_inv (K:=fun l=>K ⟨l,st.own⟩) h).2
  | cell hv hk=>
    have hv:F.vars[_]?=some y:=B.hS.vars▸hv
    have hk:F.env.kindOf y=some .cell:=by show F.env.scope.names.lookup _=_;rw [← B.hS.nm];exact hk
    obtain ⟨a,o,own',hl,u,h⟩:=h
    obtain ⟨x⟩:=x
    obtain ⟨y',hy',hlv⟩:=x.lc _ _ hl
    cases hv.symm.trans hy'
    cases x.ow.find u with | @mk l1 l l2 e hx hu=>
    subst e
    cases hlv with
    | val _ _ r2=>exact absurd rfl (r2.noCell _)
    | cell hkc hca=>
      have hcell:∃ob v0,l=[(a,ob)]∧ob.data=.cell v0:=by
        cases hx.cellOf with
        | some h _=>exact ⟨_,_,rfl,h⟩
        | none h=>exact ⟨_,_,rfl,h⟩
      obtain ⟨ob,v0,rfl,hd⟩:=hcell
      have ho:=x.own (List.mem_append_right _ (.head _))
      rw [store_cell hk B.ok.kind]
      refine wpAny_bind (wpAny_cellOf hca ?_)
      unfold cellSet
      refine wpAny_bind (wpAny_load ho ?_)
      rw [hd]
      exact wpAny_update ho (.mk (.mk (x.upd (d:=a) (o:=ob) (o':={ ob with data:=.cell (some v) }) (f:=fun o=>{ o with data:=.cell (some v) }) rfl rfl (hu _ (.cell rfl r)))) sub h)
theorem TgsR.append {ts us:List Tg} {ys zs:List Str} (h:TgsR S ts ys) (k:TgsR S us zs):TgsR S (ts++us) (ys++zs):=by
  induction h with
  | nil=>exact k
  | cons a _ ih=>exact .cons a ih
theorem TgsR.reverse {ts:List Tg} {ys:List Str} (h:TgsR S ts ys):TgsR S ts.reverse ys.reverse:=by
  induction h with
  | nil=>exact .nil
  | cons a _ ih=>rw [List.reverse_cons,List.reverse_cons];exact ih.append (.cons a .nil)
theorem TgsR.len {ts:List Tg} {ys:List Str} (h:TgsR S ts ys):ts.length=ys.length:=by
  induction h with
  | nil=>rfl
  | cons _ _ ih=>exact congrArg (·+1) ih
noncomputable def Stores (c:Cx) (F:Fm) (t:Value→Sem Unit) (y:Str):Prop:=∀v (Q:Unit→Shared→Prop) E s,wpAny c.M F.A (storeName F.env y v) Q E s→wpAny c.M F.A (t v) Q E s
inductive StoresR (c:Cx) (F:Fm):List (Value→Sem Unit)→List Str→Prop
  | nil:StoresR c F [] []
  | cons {t:Value→Sem Unit} {y:Str} {ts:List (Value→Sem Unit)} {ys:List Str}:Stores c F t y→StoresR c F ts ys→StoresR c F (t::ts) (y::ys)
theorem putTs_snd (B:Base c n T F S) {is:List Tg} {ns:List Str} (ht:TgsR S is ns) {ts:List (Value→Sem Unit)} (hs:StoresR c F ts ns) {vs:List Value} {xs:List V} {st:St} {K:PS} {fz s} (x:Now c F st fz s) (sub:Sub fz0 fz) (r:c.Rs fz vs xs) (h:putTs is xs st K):
    wpAny c.M F.A (assignInOrder ts vs) (fun zz s'=>PostU c F fz0 K s') E s:=by
  induction ht generalizing ts vs xs st fz s with
  | nil=>
    cases hs with | nil=>
    induction xs using List.casesOn with
    | cons=>exact h.elim
    | nil=>rw [r.nil?];exact wpAny_pure (.mk x sub h)
  | cons ht _ ih=>
    cases hs with | @cons t y ts ys hs hss=>
    induction xs using List.casesOn with
    | nil=>exact h.elim
    | cons z xs=>
      obtain ⟨v,vs,rfl,r1,r2⟩:=r.cons?
      show wpAny _ _ (holding vs (t v) >>= fun zz=>assignInOrder ts vs) _ _ _
      exact wpAny_bind (wpAny_holding (hs _ _ _ _ (seqU (putT_snd B x .refl ht r1 h) fun x1 s1 h1=>ih hss x1 (sub.trans s1) (r2.up s1) h1)))
inductive NamesR:List Expr→List Str→Prop
  | nil:NamesR [] []
  | cons {y:Str} {p:Pos} {ts:List Expr} {ys:List Str}:NamesR ts ys→NamesR (.Name y p::ts) (y::ys)
structure Each (c:Cx) (F:Fm) (ts:List Expr) (ns:List Str):Prop where
  map:(assignEach ts F.env).map (·.2)=ts.map fun t=>assign t F.env
  idx:(assignEach ts F.env).findIdx? (·.1)=none
  len:(assignEach ts F.env).length=ns.length
  st:StoresR c F (ts.map fun t=>assign t F.env) ns
theorem NamesR.each {ts:List Expr} {ns:List Str} (h:NamesR ts ns):Each c F ts ns:=by
  induction h with
  | nil=>exact ⟨rfl,rfl,rfl,.nil⟩
  | @cons y p ts ys _ ih=>
    have e:assignEach (.Name y p::ts) F.env=(false,assign (.Name y p) F.env)::assignEach ts F.env:=rfl
    refine ⟨?_,?_,?_,.cons (fun v Q E s hq=>wpAny_assign_Name hq) ih.st⟩
    · rw [e];exact congrArg _ ih.map
    · rw [e,List.findIdx?_cons,if_neg Bool.false_ne_true,ih.idx];rfl
    · rw [e];exact congrArg (·+1) ih.len
noncomputable def isComp (e:Expr):Bool:=Nat.ble 8 (etag e) && Nat.ble (etag e) 11
theorem swaps_of {e:Expr} (h:isComp e=false) (t:Option Expr) (l:Nat) (env:Env):swapsWith e t l env=pure false:=by
  revert h
  apply Expr.casesOn (motive_1:=fun e=>isComp e=false→swapsWith e t l env=pure false) e<;>intros<;>first | rfl | exact no_ft (Eq.symm ‹_=false›)
theorem notInter (B:Base c n T F S):interactive F.env=false:=by unfold interactive;rw [B.ok.kind];rfl
theorem st_expr (B:Base c n T F S) (he:GE c n T F a x) (hc:isComp x=false):GS c n T F (.expr a) (.Expr x p):=
  fun h xs hE=>wpAny_Expr_any (seqV (he h xs hE) fun x1 s1 r1 h1=>.mk x1 s1 .next h1) (notInter B) (swaps_of hc _ _ _)
theorem st_set_plain (B:Base c n T F S) {t:Tg} {nm:Str} {px:Pos} (he:GE c n T F a x) (ht:TgR S t nm) {st:St} {Q:QF} (h:wpS c n T (.set t a) st Q X) (xs:Now c F st fz s) (hE:ExcTo c F X E) (hs:swapsWith x (some (.Name nm px)) p.line F.env=pure false):
    wpAny c.M F.A (exec (.Assign [.Name nm px] x p) F.env) (PostF c F fz Q) E s:=
  wpAny_Assign_Name (seqV (he h xs hE) fun x1 s1 r1 h1=>endU (putT_snd B x1 s1 ht r1 h1)) hs
theorem st_set (B:Base c n T F S) {t:Tg} {nm:Str} {px:Pos} (he:GE c n T F a x) (ht:TgR S t nm) (hc:isComp x=false):GS c n T F (.set t a) (.Assign [.Name nm px] x p):=
  fun h xs hE=>st_set_plain B he ht h xs hE (swaps_of hc _ _ _)
theorem st_setc (B:Base c n T F S) (hcalls:S.calls=true) {t:Tg} {nm:Str} {px:Pos} (ht:TgR S t nm) {elt:ME} {conds:List ME} {caps:List Nat} {src:ME} {e it:Expr} {ifs:List Expr} {x:Str} {pz cpos:Pos} {sc:Scope} (hsrc:GE c n T F src it) (hset:notSetE it=true) (hsc:compScopeOk S x caps sc=true) (he:∀{G},Base c n T G (S.inner x caps sc)→GE c n T G elt e) (hc:∀{G},Base c n T G (S.inner x caps sc)→GA c n T G conds ifs):
    GS c n T F (.set t (.comp elt conds caps src)) (.Assign [.Name nm px] (.ListComp e [⟨.Name x pz,it,ifs,0⟩] sc cpos) p):=by
  intro st Q X fz s E h xs hE
  have es:swapsWith (.ListComp e [⟨.Name x pz,it,ifs,0⟩] sc cpos) (some (.Name nm px)) p.line F.env=pure (F.env.blockKind == .function && F.env.kindOf nm == some .local && px.line == cpos.line && !(sc.names.any fun (n,k)=>n == nm && (k == .local || k == .cell))):=rfl
  cases hb:(F.env.blockKind == .function && F.env.kindOf nm == some .local && px.line == cpos.line && !(sc.names.any fun (n,k)=>n == nm && (k == .local || k == .cell))) with
  | false=>rw [hb] at es;exact st_set_plain B (snd_comp B hcalls hsrc hset hsc he hc) ht h xs hE es
  | true=>
    rw [hb] at es
    rw [exec_Assign_Name_used _ _ _ _ es]
    refine wpAny_bind (wpAny_standAt (wpAny_bind ?_))
    show wpAny _ _ (do let _ ← comprehension (.ListComp e [⟨.Name x pz,it,ifs,0⟩] sc cpos) sc F.env (firstIterPos [⟨.Name x pz,it,ifs,0⟩] cpos) (newList []) false (eval it F.env) (some (assign (.Name nm px) F.env))) _ _ s
    refine wpAny_bind (wpAny_mono (comp_any B hcalls hsrc hset hsc he hc (use:=some (assign (.Name nm px) F.env)) (R:=fun zz s'=>PostF c F fz Q .next s') (Q:=fun v st=>putT st t v (Q .next)) h xs hE fun D C s' st' w ho hq=>?_) (fun zz s' p=>wpAny_pure (wpAny_pure p)) fun zz zz e=>e)
    show wpAny _ _ (assign (.Name nm px) F.env (.ref D)) _ _ _
    obtain ⟨⟨oC,es,ep,q1,q2,q3⟩,f,a4,x2,sub2,r2⟩:=ho
    rename_i m' oc' fz' kp' mC
    have x3:=x2.addK q1 f
    have B':=B.keepMore [(C,oC)]
    refine wpAny_assign_Name (wpAny_mono (putT_snd (F:=F.keep ([(C,oC)]++F.kept)) B' (.mk x3) .refl ht r2 hq) (fun zz s3 p=>?_) fun zz zz e=>e)
    obtain ⟨x4,sub4,h4⟩:=p
    cases x4 with | mk x4=>
    obtain ⟨rfl,_,x5,e1,f5⟩:=Sit.dropK (F:=F) x4
    have hkr:KeptR F.kept _:=x5.kr
    have hkr2:KeptR F.kept kp':=x2.kr
    exact ⟨mC,⟨_,es,ep,e1,q2,q3⟩,fun h' hs'=>.mk (.mk (letGoC (F:=F) x5 f5 (hkr.apart (hkr2.apart' a4)) hs')) (sub2.trans sub4) .next h4⟩
theorem st_sets (B:Base c n T F S) (hcalls:S.calls=true) {is:List Tg} {ts:List Expr} {ns:List Str} {k:Nat} {q:Pos} (he:GE c n T F a x) (ht:TgsR S is ns) (hn:NamesR ts ns) (hc:isComp x=false) {rev:Bool}
    (hq:(rev=false∧swappedStores [.Tuple ts k q] x F.env=pure none)∨(rev=true∧swappedStores [.Tuple ts k q] x F.env=pure (some ns))):GS c n T F (.sets rev is a) (.Assign [.Tuple ts k q] x p):=by
  intro st Q X fz s E h xs hE
  have hh:=B.hh hcalls
  have hsw:swapsWithSole [.Tuple ts k q] x p.line F.env=pure false:=swaps_of hc (some (.Tuple ts k q)) p.line F.env
  have hE:=hn.each (c:=c) (F:=F)
  rcases hq with ⟨rfl,hq⟩ | ⟨rfl,hq⟩
  · refine Assign_Tuple (seqV (he h xs ‹_›) fun {v y st1 fz1 s1} x1 sub1 r1 h1=>?_) hsw hq
    obtain ⟨ys,rfl,hl,h1⟩:=tup1_inv h1
    refine x1.tup_el r1 fun D vs hl' rs=>?_
    refine assign_Tuple_tuple hh hl' (by rw [hE.len,List.size_toArray,rs.length,hl,ht.len]) hE.idx fun h'' he=>?_
    have x2:=x1.keeps s1.toks (h':=h'') fun b o e=>he b o (Nat.ne_of_lt (Heap.lt_size e)) e
    rw [hE.map]
    exact endU (putTs_snd B ht hE.st x2 sub1 rs h1)
  · refine Assign_Tuple_swapped (seqV (he h xs ‹_›) fun {v y st1 fz1 s1} x1 sub1 r1 h1=>?_) hsw hq
    obtain ⟨ys,rfl,hl,h1⟩:=tup1_inv h1
    refine x1.tup_el r1 fun D vs hl' rs=>?_
    have hnl:ns.length=vs.toArray.size:=by rw [List.size_toArray,rs.length,hl,ht.len]
    rw [hnl]
    refine unpackItems_tuple hh hl' fun h'' he=>?_
    have x2:=x1.keeps s1.toks (h':=h'') fun b o e=>he b o (Nat.ne_of_lt (Heap.lt_size e)) e
    have hst:∀l:List Str,StoresR c F (l.map fun y=>bindName F.env y) l:=fun l=>by
      induction l with
      | nil=>exact .nil
      | cons y r ih=>exact .cons (fun v Q E s hq=>bindName_ hq) ih
    exact endU (putTs_snd B ht.reverse (hst _) x2 sub1 rs.reverse h1)
theorem st_seta (B:Base c n T F S) {nm:List Nat} {q:Pos} (ho:GE c n T F b y) (he:GE c n T F a x) (hc:isComp x=false):GS c n T F (.seta b nm a) (.Assign [.Attribute y (toStr nm) q] x p):=
  fun {st Q X fz s E} h xs hE=>plainObj_wpAny_Assign_Attribute (seqV (he h xs hE) fun x1 s1 r1 h1=>seqV (ho h1 x1 hE) fun x2 s2 r2 h2=>endU (opSetA_snd B.hT x2 (s1.trans s2) (Q:=Q .next) (r1.up s2) r2 h2)) (swaps_of hc _ _ _)
theorem st_seti (B:Base c n T F S) {q:Pos} (ho:GE c n T F b y) (hi:GE c n T F d z) (he:GE c n T F a x) (hc:isComp x=false):GS c n T F (.seti b d a) (.Assign [.Subscript y z q] x p):=
  fun {st Q X fz s E} h xs hE=>wpAny_Assign_Subscript (seqV (he h xs hE) fun x1 s1 r1 h1=>seqV (ho h1 x1 hE) fun x2 s2 r2 h2=>seqV (hi h2 x2 hE) fun x3 s3 r3 h3=>endU (opSetI_snd x3 (s1.trans (s2.trans s3)) (Q:=Q .next) ((r1.up s2).up s3) (r2.up s3) r3 h3)) (swaps_of hc _ _ _)
theorem st_aug (B:Base c n T F S) {op:Operator} {i:Nat} {nm:Str} {q:Pos} (he:GE c n T F a x) (ht:TgR S (.loc i) nm) (hcd:(nm == ("__classdict__":Str))=false):GS c n T F (.aug op i a) (.AugAssign (.Name nm q) op x p):=
  fun {st Q X fz s E} h xs hE=>wpAny_AugAssign_Name (seqV (load_snd B xs .refl (by cases ht;assumption) hcd (Q:=fun old st=>wpE c n T a st (fun v st=>opAug op old v fun z=>putT st (.loc i) z (Q .next)) X) h) fun x1 s1 r1 h1=>seqV (he h1 x1 hE) fun x2 s2 r2 h2=>
    seqV (opAug_snd x2 .refl (Q:=fun z st=>putT st (.loc i) z (Q .next)) (r1.up s2) r2 h2) fun x3 s3 r3 h3=>endU (putT_snd B x3 (s1.trans (s2.trans s3)) ht r3 h3))
theorem st_auga (B:Base c n T F S) {op:Operator} {nm:List Nat} {q:Pos} (ho:GE c n T F b y) (he:GE c n T F a x):GS c n T F (.auga op b nm a) (.AugAssign (.Attribute y (toStr nm) q) op x p):=
  fun {st Q X fz s E} h xs hE=>wpAny_AugAssign_AttributeAny (seqV (ho h xs hE) fun {_ z _ _ _} x1 s1 r1 h1=>seqV (opAttr_snd B.hT x1 .refl (Q:=fun old st=>wpE c n T a st (fun v st=>opAug op old v fun w=>opSetA T st.own nm w z fun own=>Q .next ⟨st.loc,own⟩) X) r1 h1) fun x2 s2 r2 h2=>
    seqV (he h2 x2 hE) fun x3 s3 r3 h3=>seqV (opAug_snd x3 .refl (Q:=fun w st=>opSetA T st.own nm w z fun own=>Q .next ⟨st.loc,own⟩) (r2.up s3) r3 h3) fun x4 s4 r4 h4=>
      endU (opSetA_snd B.hT x4 (s1.trans (s2.trans (s3.trans s4))) (Q:=Q .next) r4 (((r1.up s2).up s3).up s4) h4))
variable {as bs:List MS} {xs ys:List Stmt}
theorem st_ite (ht:GT c n T F d z) (ha:GSs c n T F as xs) (hb:GSs c n T F bs ys):GS c n T F (.ite d as bs) (.If z xs ys p):=
  fun h x hE=>wpAny_If (seqB (ht h x hE) fun {r _ _ _} x1 s1 h1=>by
    cases r
    · exact wpAny_mono (hb h1 x1 hE) (fun zz zz p=>p.weak s1) fun zz zz e=>e
    · exact wpAny_mono (ha h1 x1 hE) (fun zz zz p=>p.weak s1) fun zz zz e=>e)
theorem st_ret (he:GE c n T F a x):GS c n T F (.ret a) (.Return (some x) p):=fun h xs hE=>wpAny_Return_some (seqV (he h xs hE) fun x1 s1 r1 h1=>.mk x1 s1 (.ret r1) h1)
theorem st_retn:GS c n T F .retn (.Return none p):=fun h xs hE=>wpAny_Return_none (.mk xs .refl (.ret .non) h)
theorem sts_nil:GSs c n T F [] []:=fun h xs hE=>wpAny_execs_nil (.mk xs .refl .next h)
theorem sts_inv {a:MS} {st:St} {Q:QF} (h:wpSs c n T (a::as) st Q X):∃Q',wpS c n T a st Q' X∧(∀st,Q' .next st→wpSs c n T as st Q X)∧∀f st,(f=.next→False)→Q' f st→Q f st:=by
  induction as using List.casesOn with
  | nil=>exact ⟨Q,h,fun zz h=>h,fun zz zz zz h=>h⟩
  | cons=>exact ⟨_,h,fun zz h=>h,fun f st hf h=>by cases f<;>first | exact (hf rfl).elim | exact h⟩
theorem sts_cons {a:MS} {t:Stmt} (ha:GS c n T F a t) (hr:GSs c n T F as xs):GSs c n T F (a::as) (t::xs):=by
  intro st Q X fz s E h x hE
  rw [execs_cons]
  obtain ⟨Q',h,k1,k2⟩:=sts_inv h
  refine wpAny_bind (seqF (ha h x hE) fun x1 s1 r1 h1=>?_)
  cases r1 with
  | next=>exact wpAny_mono (hr (k1 _ h1) x1 hE) (fun zz zz p=>p.weak s1) fun zz zz e=>e
  | brk=>exact wpAny_pure (.mk x1 s1 .brk (k2 _ _ nofun h1))
  | cont=>exact wpAny_pure (.mk x1 s1 .cont (k2 _ _ nofun h1))
  | ret r=>exact wpAny_pure (.mk x1 s1 (.ret r) (k2 _ _ nofun h1))
theorem BaseS.pass (B:BaseS c n T F S) (hE:ExcTo c F X E) {A':Around}:ExcTo c F X (notedBy c.M F.A F.env (cameBackBy c.M A' F.env E)):=by
  obtain ⟨r,hr⟩:=B.top
  exact fun ev s' h=>passes B.ok B.ok.frames hr hE h
inductive WInv (c:Cx) (F:Fm) (fz:List (Addr×Obj)) (P:Nat→St→Prop) (k:Nat) (s':Shared):Prop
  | mk {st':St} {fz':List (Addr×Obj)}:Now c F st' fz' s'→Sub fz fz'→P k st'→WInv c F fz P k s'
theorem st_while (B:BaseS c n T F S) (ht:GT c n T F d z) (hb:GSs c n T F bs ys):GS c n T F (.while d bs) (.While z ys [] p):=by
  intro st Q X fz s E h x hE
  obtain ⟨k,h⟩:=h
  have hP:=B.pass hE (A':=F.A)
  refine wpAny_While (codeAny_whileLoop (WInv c F fz (iterW (fun R st=>wpT c n T d st (fun r st=>ifB r (wpSs c n T bs st (loopK R Q) X) (Q .next st)) X))) ?_ k (.mk x .refl h))
  rintro k s' ⟨x',sub,h'⟩
  induction k using Nat.casesOn with
  | zero=>exact h'.elim
  | succ k=>
    refine seqB (ht h' x' hP) fun {r _ _ _} x2 s2 h3=>?_
    induction r using Bool.casesOn with
    | false=>exact wpAny_execs_nil (.mk x2 (sub.trans s2) .next h3)
    | true=>
      refine seqF (hb h3 x2 hP) fun x3 s3 r3 h4=>?_
      cases r3 with
      | next=>exact ⟨k,Nat.lt_succ_self _,.mk x3 (sub.trans (s2.trans s3)) h4⟩
      | cont=>exact ⟨k,Nat.lt_succ_self _,.mk x3 (sub.trans (s2.trans s3)) h4⟩
      | brk=>exact .mk x3 (sub.trans (s2.trans s3)) .next h4
      | ret r=>exact .mk x3 (sub.trans (s2.trans s3)) (.ret r) h4
theorem Raised.unkeep {I:Addr} {oI:Obj} {ev:Value} {s':Shared} (h:Raised c (F.keep ((I,oI)::F.kept)) X ev s'):Raised c F X ev s':=by
  obtain ⟨e1,x,hg,hi,hX⟩:=h
  obtain ⟨rfl,_,x2,_,_⟩:=x.dropK
  exact .mk e1 x2 hg (hi.sub fun p hp=>(List.mem_append.mp hp).elim (List.mem_append_left _) fun hp=>List.mem_append_right _ ((List.mem_append.mp hp).elim (List.mem_append_left _) fun hp=>List.mem_append_right _ (.tail _ hp))) hX
theorem letOwn_snd {M:Model} {tg:Expr} {I:Addr} {oI:Obj} {v:Value} {Q:Unit→Shared→Prop} (hI:s.heap.get? I=some oI) (hc:∃nm,oI.cls=.type nm∧ownsTup nm=false) (h:Q () s):wpAny M A (letOwnedTupleGo tg (.ref I) v) Q E s:=by
  obtain ⟨nm,h1,h2⟩:=hc
  have key:∀a:Addr,wpAny M A (do
      let o ← load I
      match o.cls,o.data with
        | Value.type n,Data.fields vs=>
          if (["enumerate","zip","dict_itemiterator","dict_reverseitemiterator","odict_iterator","itertools.zip_longest","itertools.pairwise"].contains n && vs[0]? == some (rawInt a))=true then do
            rule "for.unpacks-the-owned-tuple"
            updateField I 0 Value.none
          else pure ()
        | x,x_1=>pure ()) Q E s:=by
    intro a
    refine wpAny_bind (wpAny_load hI ?_)
    rw [h1]
    unfold ownsTup at h2
    cases oI.data<;>first | exact wpAny_pure h | (simp only [h2,Bool.false_and,Bool.false_eq_true,if_false];exact wpAny_pure h)
  induction tg using Expr.casesOn<;>first
    | exact wpAny_pure h
    | (induction v using Value.casesOn<;>first | exact wpAny_pure h | exact key _)
inductive TurnEnd (c:Cx) (F:Fm) (fz:List (Addr×Obj)) (Q:QF) (K:PS) (f:Flow) (s':Shared):Prop
  | mk {y:Fl} {st':St} {fz':List (Addr×Obj)}:Now c F st' fz' s'→Sub fz fz'→FlR c fz' f y→loopK K Q y st'→TurnEnd c F fz Q K f s'
inductive ForInv (c:Cx) (F:Fm) (I:Addr) (fz0:List (Addr×Obj)) (its:List V) (St:Nat→Heap→Prop) (P:V→Mine.Internal.St→(Mine.Internal.St→Prop)→Prop) (KK:Mine.Internal.St→Prop) (k:Nat) (s':Shared):Prop
  | mk {i:Nat} {st':Mine.Internal.St} {m':Str→Option Value} {oc' fz' kp':List (Addr×Obj)} {oI:Obj}:i≤its.length→k=its.length+1 - i→Sub fz0 fz'→St i s'.heap→(∀es ep,oI.data≠.dict es ep)→Sit c (F.keep ((I,oI)::F.kept)) st' m' oc' fz' kp' s'→forGo P (its.drop i) st' KK→ForInv c F I fz0 its St P KK k s'
theorem for_core (B:BaseS c n T F S) (hc:S.calls=true) {src:ME} {P:V→St→PS→Prop} {tg it:Expr} {b':List Stmt} (hsrc:GE c n T F src it) (hset:notSetE it=true) {st:St} {Q:QF}
    (h:wpE c n T src st (fun y st=>ItAt y fun its=>forGo P its st (Q .next)) X) (x:Now c F st fz s) (hE:ExcTo c F X E)
    (turn:∀{F':Fm},BaseS c n T F' S→F'.A=F.A→F'.env=F.env→∀{v:Value} {y:V} {st:St} {fz:List (Addr×Obj)} {s:Shared} {E':PE} {K:PS},Now c F' st fz s→c.R fz v y→P y st K→ExcTo c F' X E'→
      wpAny c.M F.A (assign tg F.env v) (fun zz s₂=>wpAny c.M F.A (execs b' F.env) (TurnEnd c F' fz Q K) E' s₂) E' s):wpAny c.M F.A (exec (.For tg it b' [] p) F.env) (PostF c F fz Q) E s:=by
  have hh:=B.hh hc
  refine wpAny_For (seqV (hsrc h x hE) fun {v y st1 fz1 s₁} x1 sub1 r1 h1=>?_) (fun v=>folded_of hset F.env v)
  obtain ⟨its,hit,hlen,hgo⟩:=h1
  refine pyIter_snd hh x1 r1 hit hlen fun oI St W h0 hf=>?_
  cases x1 with | @mk m1 oc1 kp1 x1=>
  obtain ⟨oIvs,hIv⟩:=hf
  have hId:∀es ep,oI.data≠.dict es ep:=fun zz zz e=>by rw [hIv] at e;cases e
  have lt:∀p∈oc1++(fz1++kp1),p.1≠s₁.heap.objs.size:=fun p hp=>Nat.ne_of_lt (x1.size p hp)
  have x2:=(x1.junk oI).addK (a:=s₁.heap.objs.size) (o:=oI) (Heap.get?_push_size _ (Obj.isFreed_of_fields hIv)) ⟨Nat.ne_of_gt x1.fr.ns.lt,Heap.get?_none_of_le (Nat.le_trans x1.fr.above (Nat.le_of_lt x1.fr.ns.lt)),fun p hp=>lt p (List.mem_append_left _ hp),fun p hp=>lt p (List.mem_append_right _ (List.mem_append_left _ hp))⟩
  have hkI:∀p∈F.kept,p.1≠s₁.heap.objs.size:=x1.kr.apart' fun p hp=>lt p (List.mem_append_right _ (List.mem_append_right _ hp))
  refine codeAny_forLoop_any (ForInv c F s₁.heap.objs.size fz1 its St P (Q .next)) ?_ (its.length+1) (.mk (i:=0) (Nat.zero_le _) rfl .refl h0 hId x2 (by simpa using hgo))
  rintro k s' ⟨hi,rfl,hsub,hst',hI'f,x',hgo'⟩
  refine iter_next W hkI x' hsub hst' hi (fun hend s2 kp2 x2=>?_) (fun z v oI2 s2 kp2 hz rv hst2 hIf hIc x2=>?_)
  · subst hend
    rw [List.drop_length] at hgo'
    exact wpAny_execs_nil (.mk (.mk (F:=F) x2) (sub1.trans hsub) .next hgo')
  · rename_i i _ _ _ _ _ _
    have hlt:i < its.length:=(List.getElem?_eq_some_iff.mp hz).1
    have hdrop:its.drop i=z::its.drop (i+1):=by
      rw [List.drop_eq_getElem_cons hlt]
      congr 1
      exact (List.getElem?_eq_some_iff.mp hz).2
    rw [hdrop] at hgo'
    have B':BaseS c n T (F.keep ((s₁.heap.objs.size,oI2)::F.kept)) S:=B.keepMore [(s₁.heap.objs.size,oI2)]
    have hE':ExcTo c (F.keep ((s₁.heap.objs.size,oI2)::F.kept)) X (notedBy c.M F.A F.env (cameBackBy c.M F.A F.env E)):=fun ev s' hr=>B.pass hE ev s' hr.unkeep
    obtain ⟨_,_,hIg,_⟩:=x2.dropF hIf
    refine letOwn_snd hIg hIc (wpAny_mono (turn B' rfl rfl (.mk x2) rv hgo' hE') (fun zz s3 q=>wpAny_mono q (fun f s4 q=>?_) fun zz zz e=>e) fun zz zz e=>e)
    obtain ⟨x4,sub4,r4,h4⟩:=q
    cases x4 with | @mk m4 oc4 kp4 x4=>
    have again:∀{st4:Mine.Internal.St},Sit c (F.keep ((s₁.heap.objs.size,oI2)::F.kept)) st4 m4 oc4 _ kp4 s4→forGo P (its.drop (i+1)) st4 (Q .next)→∃k',k' < its.length+1 - i∧ForInv c F s₁.heap.objs.size fz1 its St P (Q .next) k' s4:=fun x4 hg=>
      ⟨its.length+1 - (i+1),step_lt hlt,.mk (i:=i+1) hlt rfl (hsub.trans sub4) (live2 (G:=F) W hIf x2 x4 hsub (hsub.trans sub4) hst2) hIf x4 hg⟩
    obtain ⟨_,x5,_⟩:=Sit.dropF (F:=F) x4 hIf
    cases r4 with
    | next=>exact again x4 h4
    | cont=>exact again x4 h4
    | brk=>exact .mk (.mk (F:=F) x5) (sub1.trans (hsub.trans sub4)) .next h4
    | ret r=>exact .mk (.mk (F:=F) x5) (sub1.trans (hsub.trans sub4)) (.ret r) h4
theorem st_for (B:BaseS c n T F S) (hc:S.calls=true) {i:Nat} {src:ME} {nm:Str} {it:Expr} {q:Pos} (ht:TgR S (.loc i) nm) (hsrc:GE c n T F src it) (hset:notSetE it=true) (hb:∀{F},BaseS c n T F S→GSs c n T F bs ys):GS c n T F (.for i src bs) (.For (.Name nm q) it ys [] p):=
  fun h x hE=>for_core B hc hsrc hset h x hE fun {F'} B' hA hEn {v y st fz s E' K} x' r hP hE'=>by
    rw [← hA,← hEn]
    exact wpAny_assign_Name (seqU (putT_snd B'.toBase x' .refl ht r hP) fun x2 s2 h2=>seqF (hb B' h2 x2 hE') fun x3 s3 r3 h3=>.mk x3 (s2.trans s3) r3 h3)
theorem st_fort (B:BaseS c n T F S) (hc:S.calls=true) {is:List Nat} {src:ME} {ts:List Expr} {ns:List Str} {it:Expr} {k:Nat} {q:Pos} (ht:TgsR S (is.map .loc) ns) (hn:NamesR ts ns) (hsrc:GE c n T F src it) (hset:notSetE it=true) (hb:∀{F},BaseS c n T F S→GSs c n T F bs ys):GS c n T F (.fort is src bs) (.For (.Tuple ts k q) it ys [] p):=by
  intro st Q X fz s E h x hE
  have hh:=B.hh hc
  refine for_core B hc hsrc hset h x hE fun {F'} B' hA hEn {v y st fz s E' K} x' r hP hE'=>?_
  have hEa:=hn.each (c:=c) (F:=F')
  obtain ⟨ys,rfl,hl,hP⟩:=tup1_inv hP
  obtain ⟨D,vs,rfl,hl',rs⟩:=x'.tup? r
  have hlen:=ht.len
  rw [List.length_map] at hlen
  rw [← hA,← hEn]
  refine assign_Tuple_tuple (by rw [hA];exact hh) hl' (by rw [hEa.len,List.size_toArray,rs.length,hl,hlen]) hEa.idx fun h'' he=>?_
  have x2:=x'.keeps s.toks (h':=h'') fun b o e=>he b o (Nat.ne_of_lt (Heap.lt_size e)) e
  rw [hEa.map]
  exact seqU (putTs_snd B'.toBase ht hEa.st x2 .refl rs hP) fun x3 s3 h3=>seqF (hb B' h3 x3 hE') fun x4 s4 r4 h4=>.mk x4 (s3.trans s4) r4 h4
theorem isType_fields {M:Model} {h:Heap} {a:Addr} {o:Obj} {vs:Array Value} (ho:h.get? a=some o) (hd:o.data=.fields vs):Looks M h (isType (.ref a)) false:=by
  intro A Q E s k q
  unfold isType loadHead
  refine wpAny_bind (wpAny_loadPart (k _ _ ho) ?_)
  rw [hd]
  exact wpAny_pure q
inductive Unfresh (c:Cx) (F:Fm) (e C:Addr) (st:St) (own':Own) (m:Str→Option Value) (oc fz kp:List (Addr×Obj)) (s:Shared):Prop
  | mk {oe:Obj} {vs:Array Value}:s.heap.get? e=some oe→oe.data=.fields vs→vs[1]?=some .none→oe.cls=.ref C→Sit c F ⟨st.loc,own'⟩ m oc fz kp s→Unfresh c F e C st own' m oc fz kp s
theorem Sit.unfresh (x:Sit c F st m oc fz kp s) {e C:Addr} {ats:List (List Nat×V)} {own':Own} (u:Upd e (.exc true C ats) (.exc false C ats) st.own own'):Unfresh c F e C st own' m oc fz kp s:=by
  obtain ⟨rfl,hx,hu⟩:=x.ow.find u
  cases hx.exc? with
  | exc p2 hv hfr=>exact .mk (x.own (List.mem_append_right _ (.head _))) rfl (hfr rfl).1 rfl ⟨x.fr,x.nw,x.nd,x.ap,hu _ (.exc p2 hv (by intro h;cases h)),x.lc,x.kr,x.fk,x.re,x.fb⟩
  | exc0 hv hfr=>exact .mk (x.own (List.mem_append_right _ (.head _))) rfl (hfr rfl).1 rfl ⟨x.fr,x.nw,x.nd,x.ap,hu _ (.exc0 hv (by intro h;cases h)),x.lc,x.kr,x.fk,x.re,x.fb⟩
theorem st_raise (B:BaseS c n T F S) (hc:S.calls=true) (he:GE c n T F a x):GS c n T F (.raise a) (.Raise (some x) none p):=by
  intro st Q X fz s E h xs hE
  have hh:=B.hh hc
  rw [arm_exec_Raise]
  refine wpAny_bind (wpAny_standAt ?_)
  show wpAny _ _ (raiseStmt F.env (some (do let w ← eval x F.env;standAt p;pure w)) none) _ _ _
  unfold raiseStmt
  refine wpAny_bind (wpAny_bind (seqV (he h xs hE) fun {v y st' fz' s'} x' sub r h'=>wpAny_bind (wpAny_standAt (wpAny_pure ?_))))
  refine own1_el r h' fun e hh=>?_;obtain ⟨C,ats,own',u,h1,h2⟩:=hh
  obtain ⟨t1,t2,t3⟩:=B.hT.rse _ _ h1
  obtain ⟨x'⟩:=x'
  obtain ⟨o1,o2,o3,o4,x2⟩:=x'.unfresh u
  have X:=c.X.keeps x'.fr.keep
  have hty:Looks c.M s'.heap (typeOf (.ref e)) (.ref C):=by rw [← o4];exact (Looks.ld o1).andThen .now
  have hit:=isType_fields (M:=c.M) o1 o2
  have hinst:Looks c.M s'.heap (isInstance (.ref e) (.type "BaseException")) true:=hty.andThen (looks_subIn X t3)
  have htt:Looks c.M s'.heap (typeOf (.ref C)) (.type "type"):=looks_typeIn X t2
  dsimp only
  refine wpAny_bind (wpAny_pure (wpAny_bind (wpAny_holding ?_)))
  unfold excFromValue isExcClass
  obtain ⟨hp,g,d,tk,os⟩:=s'
  refine wpAny_bind (wpAny_bind (hit.at ?_))
  rw [if_neg (by decide)]
  refine wpAny_pure ?_
  rw [if_neg (by decide)]
  refine wpAny_bind (hinst.at ?_)
  rw [if_pos rfl]
  refine wpAny_pure ?_
  dsimp only
  refine wpAny_bind (hit.at ?_)
  rw [if_neg (by decide)]
  unfold raisedInstance
  refine wpAny_bind (wpAny_bind (hty.at (wpAny_bind (htt.at ?_))))
  rw [if_pos (by decide)]
  refine wpAny_pure ?_
  unfold setFlight
  refine wpAny_bind (wpAny_bind (wpAny_field o1 o2 o3 ?_))
  rw [if_neg (by decide)]
  exact wpAny_pure (wpAny_raiseNew_none hh (hE _ _ (.mk rfl x2 u.mem (.new o1 o2 o3) h2)))
end
section
variable {c:Cx} {n:Nat} {T:Tab} {F:Fm} {S:Scp} {fz fz0:List (Addr×Obj)} {st:St} {m:Str→Option Value} {oc kp:List (Addr×Obj)} {s:Shared} {E:PE} {A:Around} {X:XT}
noncomputable def Fm.mark (F:Fm) (e:Addr):Fm:={ F with A:=F.A.mark (some (.ref e)) }
noncomputable def Scp.still (S:Scp):Scp:={ S with calls:=false }
theorem BaseS.mark (B:BaseS c n T F S) (e:Addr):BaseS c n T (F.mark e) S.still:=
  ⟨⟨⟨B.ok.kind,B.ok.glob,B.ok.blt,B.ok.frames,B.ok.fr,B.ok.self,B.ok.vs,B.ok.cells,B.ok.depth,B.ok.units⟩,⟨B.hS.vars,B.hS.nm,B.hS.gl,B.hS.bi⟩,B.hT,fun h=>by cases h⟩,B.top⟩
theorem Sit.mark (x:Sit c F st m oc fz kp s) (e:Addr):Sit c (F.mark e) st m oc fz kp s:=⟨x.fr,x.nw,x.nd,x.ap,x.ow,x.lc,x.kr,x.fk,x.re,x.fb⟩
theorem Sit.unmark {e:Addr} (x:Sit c (F.mark e) st m oc fz kp s):Sit c F st m oc fz kp s:=⟨x.fr,x.nw,x.nd,x.ap,x.ow,x.lc,x.kr,x.fk,x.re,x.fb⟩
theorem Now.mark (x:Now c F st fz s) (e:Addr):Now c (F.mark e) st fz s:=match x with | .mk x=>.mk (x.mark e)
theorem Now.unmark {e:Addr} (x:Now c (F.mark e) st fz s):Now c F st fz s:=match x with | .mk x=>.mk x.unmark
theorem exNo {E':PE}:ExcTo c F NoX E':=fun ev s' ⟨_,_,_,_,f⟩=>f.elim
noncomputable def Fm.on (F:Fm) (b:List (Addr×Obj)):Fm:={ F with base:=b }
theorem BaseS.on (B:BaseS c n T F S) (b:List (Addr×Obj)):BaseS c n T (F.on b) S:=
  ⟨⟨⟨B.ok.kind,B.ok.glob,B.ok.blt,B.ok.frames,B.ok.fr,B.ok.self,B.ok.vs,B.ok.cells,B.ok.depth,B.ok.units⟩,⟨B.hS.vars,B.hS.nm,B.hS.gl,B.hS.bi⟩,B.hT,B.hh⟩,B.top⟩
theorem Now.on (x:Now c F st fz s):Now c (F.on fz) st fz s:=match x with | .mk x=>.mk ⟨x.fr,x.nw,x.nd,x.ap,x.ow,x.lc,x.kr,x.fk,x.re,fun zz h=>h⟩
theorem Sit.off {b:List (Addr×Obj)} (x:Sit c (F.on b) st m oc fz kp s) (h:Sub F.base b):Sit c F st m oc fz kp s:=⟨x.fr,x.nw,x.nd,x.ap,x.ow,x.lc,x.kr,x.fk,x.re,fun p hp=>x.fb p (h p hp)⟩
theorem Now.base (x:Now c F st fz s):Sub F.base fz:=match x with | .mk x=>x.fb
theorem Now.off {b:List (Addr×Obj)} (x:Now c (F.on b) st fz s) (h:Sub F.base b):Now c F st fz s:=match x with | .mk x=>.mk (x.off h)
theorem name_goes (ok:F.Ok c n) {y:Str} {hpos:Pos} (hk:F.env.kindOf y=some .local) (x:Now c F st fz s) {Q:Unit→Shared→Prop} (h:∀s',Now c F ⟨[],st.own⟩ fz s'→Q () s'):
    wpAny c.M F.A (do bindName F.env y .none;unbindBehindTheSuite F.env y hpos) Q E s:=by
  cases x with | @mk m7 oc7 kp7 x7=>
  refine wpAny_nameGoes hk x7.fr.ns (by rw [ok.kind];rfl) fun h' m' hn hs=>h _ (.mk (m:=m') (oc:=oc7) (kp:=kp7) ?_)
  refine x7.with (t:=s.toks+1) ⟨hn,fun b o e=>(hs.2 b fun q=>?_).trans (x7.fr.keep b o e),x7.fr.above⟩ (fun p hp=>⟨(hs.2 p.1 (x7.nw p hp).2.1).trans (x7.nw p hp).1,(x7.nw p hp).2⟩) x7.nd x7.ap x7.ow (fun j w hw=>by simp at hw) x7.kr x7.fk .refl
  have:=Heap.lt_size e
  rw [q] at this
  exact Nat.lt_irrefl _ (Nat.lt_of_lt_of_le this x7.fr.above)
theorem PostF.conv {f:Flow} {Q:QF} {fz fz':List (Addr×Obj)} (hb:Sub F.base fz) (hs:Sub fz fz') (q:PostF c (F.on fz) fz' Q f s):PostF c F fz Q f s:=match q with
  | .mk a b r q=>.mk (a.off hb) (hs.trans b) r q
inductive AsR (S:Scp):Option Nat→Option Str→Prop
  | none:AsR S none none
  | some {i:Nat} {y:Str}:TgR S (.loc i) y→AsR S (some i) (some y)
theorem st_try (B:BaseS c n T F S) {b h:List MS} {b' h':List Stmt} {s₀:Stmt} {D:Addr} {nm:Option Nat} {y:Option Str} {tn:Str} {tp p:Pos} {hpos:Pos} (hb:∀{F},BaseS c n T F S→GSs c n T F b b') (g:GlobAt c tn (.ref D)) (hk:S.nm.lookup tn=some .globalImplicit) (hd:(tn == ("__debug__":Str))=false) (hy:AsR S nm y) (hh':∀{F},BaseS c n T F S.still→GSs c n T F h (s₀::h')):
    GS c n T F (.try b D nm h) (.Try b' [.ExceptHandler (some (.Name tn tp)) y (s₀::h') hpos] [] [] p):=by
  intro st Q X fz s E hw x hE
  obtain ⟨r,hr⟩:=B.top
  have hbs:=x.base
  have Bo:=B.on fz
  refine wpAny_Try_except (wpAny_mono (hb Bo (E:=fun ev s'=>Raised c (F.on fz) (fun a st=>catchT T st a D nm fun st=>wpSs c n T h st (fun f st=>Q f (unsetT st nm)) NoX) ev s') hw x.on (fun ev s' hr=>hr)) (fun f s' q=>?_) fun ev s' q=>?_)
  · obtain ⟨x',sub,r,h'⟩:=q.conv hbs .refl
    cases r with
    | next=>exact wpAny_execs_nil (.mk x' sub .next h')
    | brk=>exact .mk x' sub .brk h'
    | cont=>exact .mk x' sub .cont h'
    | ret r=>exact .mk x' sub (.ret r) h'
  · cases q with | @mk e C ats st' m' oc' fz' kp' hev x' hg hi hX=>
    subst hev
    refine note_snd x' Bo.ok Bo.ok.frames hr hg hi fun oc2 kp2 s2 L hL x2 hheld=>?_
    refine flight_snd x2 hg hheld none fun s3 x3 hheld3=>?_
    obtain ⟨⟨C2,ats2,hg2,hrse⟩,hX⟩:=hX
    have BM:=Bo.mark e
    have X3:=c.X.keeps x3.fr.keep
    obtain ⟨p1,p2,_,p3,_,_⟩:=x3.excAt hg2
    have hty:Looks c.M s3.heap (typeOf (.ref e)) (.ref C2):=by rw [← p3];exact (Looks.ld p1).andThen .now
    have hm:=exm_one (M:=c.M) X3 hty (B.hT.rse _ _ hrse).1
    refine wpAny_handleBy_cons (codeAny_handlers_test (glob_get (F:=F.on fz) Bo.ok g (.mk x3) (by show F.env.scope.names.lookup _=_;rw [← B.hS.nm];exact hk) hd (hm _ _ _ _ (fun zz zz h=>h) ?_))) (by intro q;cases q)
    have fin:∀{st5:St} {fz5 s5} {K:Result→Shared→Prop},Now c (F.on fz) st5 fz5 s5→Sub fz fz5→wpSs c n T h st5 (fun f st=>Q f (unsetT st nm)) NoX→
        (∀f s6,PostF c (F.on fz) fz (fun f st=>Q f (unsetT st nm)) f s6→K (.ok f) s6)→∀E',wpAny c.M (F.A.mark (some (.ref e))) (execs (s₀::h') F.env) (fun f s6=>K (.ok f) s6) E' s5:=by
      intro st5 fz5 s5 K x5 s05 hw5 hK E'
      refine wpAny_mono (hh' BM hw5 (x5.mark e) exNo) (fun f s6 q=>hK f s6 ?_) fun zz zz e=>e
      obtain ⟨a,b,r,q⟩:=q
      exact .mk a.unmark (s05.trans b) r q
    cases hy with
    | none=>
      refine codeAny_handlers_suite (flight_snd x3 hg hheld3 none fun s5 x5 zz=>?_)
      exact fin (K:=fun r s₂=>match r with | .ok f=>PostF c F fz Q f s₂ | .error x=>cameBackBy c.M F.A F.env E x s₂) (.mk x5) x5.fb hX (fun f s6 q=>q.conv hbs .refl) _
    | @some i y ht=>
      have hky:F.env.kindOf y=some .local:=by cases ht with | loc _ hk=>show F.env.scope.names.lookup _=_;rw [← B.hS.nm];exact hk
      refine codeAny_handlers_suite_as (flight_snd x3 hg hheld3 none fun s5 x5 zz=>?_)
      refine seqU (F:=(F.on fz).mark e) (putT_snd BM.toBase (.mk (x5.mark e)) .refl (show TgR S.still (.loc i) y from match ht with | .loc a b=>.loc a b) (.own e) hX) fun {st6 fz6 s6} x6 sub6 h6=>?_
      refine fin (K:=fun r s₂=>match r with
          | .ok f=>wpAny c.M F.A (do bindName F.env y .none;unbindBehindTheSuite F.env y hpos) (fun zz s₃=>PostF c F fz Q f s₃) E s₂
          | .error x=>cameBackBy c.M F.A F.env E x s₂) x6.unmark (Sub.trans x5.fb sub6) h6 (fun f s7 q=>?_) _
      obtain ⟨x7,sub7,r7,h7⟩:=q.conv hbs .refl
      exact name_goes B.ok hky x7 fun s8 x8=>.mk x8 sub7 r7 h7
end
noncomputable def obd {α β:Type} (o:Option α) (f:α→Option β):Option β:=match o with
  | some a=>f a
  | none=>none
noncomputable def grd {α:Type} (b:Bool) (o:Option α):Option α:=match b with
  | true=>o
  | false=>none
noncomputable def Ok {α:Type} (o:Option α) (P:α→Prop):Prop:=match o with
  | none=>True
  | some a=>P a
noncomputable def lone {α β:Type} (l:List α) (f:α→Option β):Option β:=match l with
  | []=>none
  | a::r=>match r with
    | []=>f a
    | _=>none
noncomputable def two {α β:Type} (l:List α) (f:α→α→Option β):Option β:=match l with
  | []=>none
  | a::r=>lone r (f a)
section
variable {α β:Type} {o:Option α} {f:α→Option β} {P:α→Prop} {Q:β→Prop}
theorem ok_none:Ok (none:Option α) P:=trivial
theorem ok_some {a:α} (h:P a):Ok (some a) P:=h
theorem ok_obd (h:Ok o P) (k:∀a,P a→Ok (f a) Q):Ok (obd o f) Q:=by
  cases o with
  | none=>trivial
  | some a=>exact k a h
theorem ok_eq (k:∀a,o=some a→Ok (f a) Q):Ok (obd o f) Q:=by
  cases o with
  | none=>trivial
  | some a=>exact k a rfl
theorem ok_grd {b:Bool} (h:b=true→Ok o P):Ok (grd b o) P:=by
  cases b with
  | false=>trivial
  | true=>exact h rfl
theorem ok_lone {l:List α} {Q:List α→β→Prop} (k:∀a,Ok (f a) (Q [a])):Ok (lone l f) (Q l):=by
  rcases l with _ | ⟨a,_ | ⟨_,_⟩⟩
  · trivial
  · exact k a
  · trivial
theorem ok_two {f:α→α→Option β} {l:List α} {Q:List α→β→Prop} (k:∀a b,Ok (f a b) (Q [a,b])):Ok (two l f) (Q l):=by
  cases l with
  | nil=>trivial
  | cons a r=>exact ok_lone (Q:=fun r=>Q (a::r)) (k a)
theorem Ok.get (h:Ok o P) {a:α} (e:o=some a):P a:=by subst e;exact h
end
noncomputable def Scp.idx (S:Scp) (y:Str):Option Nat:=S.vars.findIdx? (· == y)
noncomputable def Scp.mk? (S:Scp) (p:Pos):Option Nat:=S.marks.lookup (p.line * 1000+p.col)
noncomputable def nameOk (y:Str):Bool:=!(y == ("__debug__":Str)) && !(y == ("__classdict__":Str))
noncomputable def Scp.isGl (S:Scp) (y:Str):Bool:=nameOk y && S.nm.lookup y == some .globalImplicit
noncomputable def toName (S:Scp) (y:Str) (p:Pos):Option ME:=match S.idx y with
  | some i=>grd (nameOk y && S.vars[i]? == some y) (some (match S.mk? p with
    | some _=>.frz i
    | none=>.loc i))
  | none=>obd (S.gl.lookup y) fun v=>grd (S.isGl y) (some (.glob v))
noncomputable def toConst:Const→Option ME
  | .int i=>some (.int i)
  | .str s=>some (.str s.cps.toList)
  | .bool b=>some (.bool b)
  | .none=>some .non
  | _=>none
noncomputable def notStar (e:Expr):Bool:=!(etag e).beq 22
noncomputable def toXs (f:Expr→Option ME):List Expr→Option (List ME)
  | []=>some []
  | e::r=>grd (notStar e) (obd (f e) fun a=>obd (toXs f r) fun as=>some (a::as))
noncomputable def toKs:List (Option Expr)→Option (List (List Nat))
  | []=>some []
  | k::r=>match k with
    | some e=>match e with
      | .Constant v _ _=>match v with
        | .str s=>obd (toKs r) fun ks=>some (s.cps.toList::ks)
        | _=>none
      | _=>none
    | none=>none
noncomputable def capsOf (S:Scp) (sc:Scope):List Nat:=(List.range S.vars.length).filter fun i=>match S.vars[i]? with
  | some y=>sc.names.lookup y == some .free
  | none=>false
noncomputable def ME.asGlob:ME→Option Value
  | .glob v=>some v
  | _=>none
noncomputable def clsBi:Value→Bi
  | .ref C=>.isCls C
  | .type t=>if t == "tuple" then .isTuple else .isList
  | _=>.isList
noncomputable def fixL (es:List ME):Bi:=match es with
  | []=>.isList
  | _::r=>match r with
    | []=>.isList
    | b::_=>match b.asGlob with
      | some v=>clsBi v
      | none=>.isList
noncomputable def Bi.fix (b:Bi) (es:List ME):Bi:=match b with
  | .isList=>fixL es
  | b=>b
theorem clsBi_val (v:Value):(clsBi v).val=Bi.isList.val:=by
  induction v using Value.casesOn<;>first | rfl | skip
  rename_i t
  show (if t == "tuple" then Bi.isTuple else .isList).val=_
  cases t == "tuple"<;>rfl
theorem Bi.fix_val (b:Bi) (es:List ME):(b.fix es).val=b.val:=by
  induction b using Bi.casesOn<;>first | rfl | skip
  rcases es with _ | ⟨_,_ | ⟨b,_⟩⟩
  · rfl
  · rfl
  · show (match b.asGlob with
      | some v=>clsBi v
      | none=>Bi.isList).val=_
    cases b.asGlob with
    | none=>rfl
    | some v=>exact clsBi_val v
noncomputable def toMth (isE:Bool) (k:Nat) (a:Str):Mth:=match isE with
  | true=>.einit
  | false=>if a == toStr Mth.join.name then .join else if a == toStr Mth.find.name then .find else if a == toStr Mth.starts.name then .starts else if a == toStr Mth.append.name then .append else if a == toStr Mth.pop.name then (if k == 0 then .pop else .dpop) else .user a.cps.toList
noncomputable def toOpt (f:Expr→Option ME):Option Expr→Option ME
  | none=>some .non
  | some e=>f e
noncomputable def toComp (f:Bool→Scp→Expr→Option ME) (S:Scp) (e:Expr) (gs:List Comprehension) (sc:Scope):Option ME:=lone gs fun g=>match g with
  | ⟨tg,it,ifs,as⟩=>match tg with
    | .Name x _=>grd (S.calls && as == 0 && compScopeOk S x (capsOf S sc) sc && notSetE it) (obd (f false (S.inner x (capsOf S sc) sc) e) fun elt=>obd (toXs (f true (S.inner x (capsOf S sc) sc)) ifs) fun conds=>obd (f false S it) fun src=>some (.comp elt conds (capsOf S sc) src))
    | _=>none
noncomputable def toX:Nat→Bool→Scp→Expr→Option ME
  | 0,_,_,_=>none
  | k+1,t,S,e=>match e with
    | .Name y p=>toName S y p
    | .Constant v _ _=>toConst v
    | .BinOp l op r _=>obd (toX k false S l) fun a=>obd (toX k false S r) fun b=>some (.bin op a b)
    | .UnaryOp op x _=>match op with
      | .USub=>obd (toX k false S x) fun a=>some (.neg a)
      | .Not=>obd (toX k t S x) fun a=>some (.not a)
      | _=>none
    | .BoolOp op vs _=>match t with
      | true=>obd (toXs (toX k true S) vs) fun as=>some (match op with
        | .And=>.and as
        | .Or=>.or as)
      | false=>two vs fun x y=>obd (toX k false S x) fun a=>obd (toX k false S y) fun b=>some (match op with
        | .And=>.and [a,b]
        | .Or=>.or [a,b])
    | .IfExp c x y _=>obd (toX k true S c) fun d=>obd (toX k false S x) fun a=>obd (toX k false S y) fun b=>some (.ite d a b)
    | .Dict ks vs _=>match ks with
      | []=>match vs with
        | []=>some .ownd
        | _=>none
      | k0::kr=>obd (toKs (k0::kr)) fun kk=>obd (toXs (toX k false S) vs) fun as=>grd (kk.length == as.length) (some (.dct kk as))
    | .ListComp e gs sc p=>obd (toComp (toX k) S e gs sc) fun m=>some (match S.mk? p with
      | some i=>.frzc i m
      | none=>m)
    | .Compare l ops rs _=>match t with
      | true=>match ops with
        | []=>none
        | o1::os=>match os with
          | []=>lone rs fun r=>grd (!behindInMarks o1 r) (obd (toX k false S l) fun a=>obd (toX k false S r) fun b=>some (.cmp o1 a b))
          | _=>lone os fun o2=>two rs fun r u=>grd (!behindInMarks o2 u) (obd (toX k false S l) fun a=>obd (toX k false S r) fun b=>obd (toX k false S u) fun d=>some (.cmp2 o1 o2 a b d))
      | false=>lone ops fun op=>lone rs fun r=>grd (!behindInMarks op r) (obd (toX k false S l) fun a=>obd (toX k false S r) fun b=>some (.cmp op a b))
    | .Call f as ks q=>match ks with
      | []=>match f with
        | .Name y p=>grd S.calls (match S.bi.lookup y with
          | some b=>grd (S.isGl y) (obd (toXs (toX k false S) as) fun es=>some (.bcall (b.fix es) es))
          | none=>obd (toName S y p) fun g=>obd (toXs (toX k false S) as) fun es=>some (.call g es))
        | .Attribute x a p=>grd (S.calls && plainBase x && p.endLine == q.line && Nat.blt as.length 20 && a == toStr (toMth (S.mk? p).isSome as.length a).name)
          (obd (toX k false S x) fun o=>obd (toXs (toX k false S) as) fun es=>some (.meth o (toMth (S.mk? p).isSome as.length a) es))
        | _=>none
      | _=>none
    | .Attribute x a _=>grd (plainBase x && a == toStr a.cps.toList) (obd (toX k false S x) fun o=>some (.attr o a.cps.toList))
    | .Subscript x y _=>obd (toX k false S x) fun a=>match y with
      | .Slice l u s _=>match s with
        | none=>obd (toOpt (toX k false S) l) fun b=>obd (toOpt (toX k false S) u) fun d=>some (.slc a b d)
        | some z=>match u with
          | none=>match l with
            | some y=>obd (toX k false S y) fun b=>obd (toX k false S z) fun d=>some (.slcs a b d)
            | none=>none
          | _=>none
      | y=>obd (toX k false S y) fun b=>grd (plainIdx y) (some (.idx a b))
    | .List es p=>obd (toXs (toX k false S) es) fun as=>some (match S.mk? p with
      | some _=>.ownl as
      | none=>.lst as)
    | .Tuple es _ _=>obd (toXs (toX k false S) es) fun as=>some (.tup as)
    | _=>none
section
variable {c:Cx} {n:Nat} {T:Tab} {F:Fm} {S:Scp} {k:Nat}
theorem toStr_self (s:Str):toStr s.cps.toList=s:=by cases s;simp [toStr]
theorem lookup_kind (hS:S.Ok c F) {y:Str} {kd:NameKind} (h:(S.nm.lookup y == some kd)=true):F.env.kindOf y=some kd:=by
  show F.env.scope.names.lookup _=_;rw [← hS.nm];exact beq_iff_eq.mp h
theorem nameOk_inv {y:Str} (h:nameOk y=true):(y == ("__debug__":Str))=false∧(y == ("__classdict__":Str))=false:=by
  obtain ⟨h1,h2⟩:=and2 h
  exact ⟨by simpa using h1,by simpa using h2⟩
noncomputable def PR (c:Cx) (n:Nat) (T:Tab) (t:Bool) (S:Scp) (e:Expr) (me:ME):Prop:=match t with
  | false=>∀F,Base c n T F S→GE c n T F me e
  | true=>∀F,Base c n T F S→GT c n T F me e
theorem both {t:Bool} {e:Expr} {me:ME} (hg:∀F,Base c n T F S→GE c n T F me e) (he:∀(F:Fm) whole,isTrue e F.env whole=(do let v ← whole;standAt e.pos;holding [v] (truthy v))) (hw:∀(st:St) (Q:QB) (X:XT),wpT c n T me st Q X→wpE c n T me st (fun v st=>opT v fun b=>Q b st) X):PR c n T t S e me:=by
  induction t using Bool.casesOn with
  | false=>exact hg
  | true=>exact fun F B {st Q X fz s E} w x hE=>sndT_val (he F) (hg F B (hw _ _ _ w) x hE)
theorem notT {t:Bool} {e:Expr} {me:ME} (hg:∀F,Base c n T F S→GE c n T F me e) (hw:∀(st:St) (Q:QB) (X:XT),¬ wpT c n T me st Q X):PR c n T t S e me:=by
  induction t using Bool.casesOn with
  | false=>exact hg
  | true=>exact fun F B {st Q X fz s E} w x hE=>(hw _ _ _ w).elim
theorem ok_name {t:Bool} {y:Str} {p:Pos}:Ok (toName S y p) (PR c n T t S (.Name y p)):=by
  unfold toName
  split
  · refine ok_grd fun g=>?_
    obtain ⟨g1,g2⟩:=and2 g
    obtain ⟨d1,d2⟩:=nameOk_inv g1
    cases S.mk? p with
    | some i=>exact ok_some (notT (fun F B=>snd_frz B (beq_iff_eq.mp g2) d1 d2) fun zz zz zz w=>w)
    | none=>exact ok_some (both (fun F B=>snd_loc B (beq_iff_eq.mp g2) d1 d2) (fun zz zz=>rfl) fun zz zz zz w=>w)
  · refine ok_eq fun v e=>ok_grd fun g=>ok_some (notT (fun F B=>?_) fun zz zz zz w=>w)
    obtain ⟨g1,g2⟩:=and2 g
    exact snd_glob B.ok (B.hS.gl _ _ e) (lookup_kind B.hS g2) (nameOk_inv g1).1
theorem ok_const {t:Bool} {v:Const} {q:Nat} {p:Pos}:Ok (toConst v) (PR c n T t S (.Constant v q p)):=by
  induction v using Const.casesOn<;>first | exact ok_none | refine ok_some (notT (fun F B {st Q X fz s E} w x hE=>?_) fun zz zz zz w=>w)
  · exact wpAny_Constant_none (x.here' .refl .non w)
  · exact wpAny_Constant_bool (x.here' .refl (.bool _) w)
  · exact wpAny_Constant_int (x.here .refl (.int _ _) w)
  · rename_i s'
    rw [← toStr_self s']
    have w:Q (.str s'.cps.toList) st:=w
    exact Constant_str (x.here .refl (VR.str _ _) (by simpa [toStr] using w))
noncomputable def Rd (c:Cx) (n:Nat) (T:Tab) (f:Bool→Scp→Expr→Option ME):Prop:=∀t S e,Ok (f t S e) (PR c n T t S e)
theorem star_ne {e:Expr} (h:notStar e=true):∀x p,e≠.Starred x p:=fun x p q=>by rw [q] at h;cases h
section
variable {f:Bool→Scp→Expr→Option ME} (R:Rd c n T f)
include R
theorem ok_xsE:∀es:List Expr,Ok (toXs (f false S) es) fun as=>∀F,Base c n T F S→GL c n T F as es
  | []=>ok_some fun F B=>.nil
  | e::r=>ok_grd fun g=>ok_obd (R false S e) fun a ha=>ok_obd (ok_xsE r) fun as h=>ok_some fun F B=>.cons (ha F B) (star_ne g) (h F B)
theorem ok_xsT:∀es:List Expr,Ok (toXs (f true S) es) fun as=>∀F,Base c n T F S→GA c n T F as es
  | []=>ok_some fun F B=>.nil
  | e::r=>ok_grd fun g=>ok_obd (R true S e) fun a ha=>ok_obd (ok_xsT r) fun as h=>ok_some fun F B=>.cons (ha F B) (h F B)
inductive CompR (c:Cx) (n:Nat) (T:Tab) (S:Scp) (e:Expr) (sc:Scope):List Comprehension→ME→Prop
  | mk {elt:ME} {conds:List ME} {src:ME} {it:Expr} {ifs:List Expr} {x:Str} {pz:Pos}:S.calls=true→compScopeOk S x (capsOf S sc) sc=true→notSetE it=true→(∀{G},Base c n T G (S.inner x (capsOf S sc) sc)→GE c n T G elt e)→(∀{G},Base c n T G (S.inner x (capsOf S sc) sc)→GA c n T G conds ifs)→(∀{G},Base c n T G S→GE c n T G src it)→
      CompR c n T S e sc [⟨.Name x pz,it,ifs,0⟩] (.comp elt conds (capsOf S sc) src)
theorem ok_comp {e:Expr} {gs:List Comprehension} {sc:Scope}:Ok (toComp f S e gs sc) (CompR c n T S e sc gs):=by
  refine ok_lone fun g=>?_
  obtain ⟨tg,it,ifs,as⟩:=g
  induction tg using Expr.casesOn<;>first | exact ok_none | skip
  refine ok_grd fun g=>ok_obd (R false _ e) fun elt h1=>ok_obd (ok_xsT R ifs) fun conds h2=>ok_obd (R false S it) fun src h3=>ok_some ?_
  obtain ⟨g,g4⟩:=and2 g
  obtain ⟨g,g3⟩:=and2 g
  obtain ⟨g1,g2⟩:=and2 g
  obtain rfl:=beq_iff_eq.mp g2
  exact .mk g1 g3 g4 (fun B=>h1 _ B) (fun B=>h2 _ B) fun B=>h3 _ B
theorem ok_opt (l:Option Expr):Ok (toOpt (f false S) l) fun me=>∀F,Base c n T F S→GP c n T F me l:=by
  induction l using Option.casesOn with
  | none=>exact ok_some fun F B=>.none
  | some e=>exact (show Ok (f false S e) _ from by
      cases h:f false S e with
      | none=>trivial
      | some a=>have:=(R false S e).get h;exact fun F B=>.some (this F B))
end
theorem ok_ks:∀kx:List (Option Expr),Ok (toKs kx) fun ks=>KsR ks kx
  | []=>ok_some .nil
  | none::r=>ok_none
  | some e::r=>by
    induction e using Expr.casesOn<;>first | exact ok_none | skip
    rename_i v _ _
    induction v using Const.casesOn<;>first | exact ok_none | skip
    rename_i s
    refine ok_obd (ok_ks r) fun ks h=>ok_some ?_
    have:=KsR.cons (k:=s.cps.toList) h (q:=‹_›) (p:=‹_›)
    rwa [toStr_self] at this
theorem CompR.snd {e:Expr} {gs:List Comprehension} {sc:Scope} {p:Pos} {me:ME} (h:CompR c n T S e sc gs me) (B:Base c n T F S):GE c n T F me (.ListComp e gs sc p):=match h with
  | .mk h1 h2 h3 h4 h5 h6=>snd_comp B h1 (h6 B) h3 h2 h4 h5
theorem CompR.noT {e:Expr} {gs:List Comprehension} {sc:Scope} {me:ME} (h:CompR c n T S e sc gs me) {st:St} {Q:QB} {X:XT}:¬ wpT c n T me st Q X:=by cases h;exact fun w=>w
section
variable (R:Rd c n T (toX k)) {t:Bool}
include R
theorem ok_cmp1 {l r:Expr} {op:CmpOp} {p:Pos}:Ok (grd (!behindInMarks op r) (obd (toX k false S l) fun a=>obd (toX k false S r) fun b=>some (ME.cmp op a b))) (PR c n T t S (.Compare l [op] [r] p)):=
  ok_grd fun g=>ok_obd (R false S l) fun a ha=>ok_obd (R false S r) fun b hb=>ok_some (by
    have g:behindInMarks op r=false:=by simpa using g
    cases t
    · exact fun F B=>snd_cmp B.ok (ha F B) (hb F B) g
    · exact fun F B=>sndT_cmp B.ok (ha F B) (hb F B) g)
theorem ok_call {f:Expr} {as:List Expr} {ks:List Keyword} {q:Pos}:Ok (toX (k+1) t S (.Call f as ks q)) (PR c n T t S (.Call f as ks q)):=by
  induction ks using List.casesOn with
  | cons=>exact ok_none
  | nil=>
    induction f using Expr.casesOn<;>first | exact ok_none | skip
    · rename_i x a p
      refine ok_grd fun g=>ok_obd (R false S x) fun o h1=>ok_obd (ok_xsE R as) fun es h2=>ok_some (both (fun F B=>?_) (fun zz zz=>rfl) fun zz zz zz w=>w)
      obtain ⟨g,g5⟩:=and2 g
      obtain ⟨g,g4⟩:=and2 g
      obtain ⟨g,g3⟩:=and2 g
      obtain ⟨g1,g2⟩:=and2 g
      have hl:=h2 F B
      have hm:GE c n T F (.meth o (toMth (S.mk? p).isSome as.length a) es) (.Call (.Attribute x (toStr (toMth (S.mk? p).isSome as.length a).name) p) as [] q):=snd_meth B g1 (h1 F B) hl g2 g3 (by rw [← hl.len];exact g4)
      rw [← beq_iff_eq.mp g5] at hm
      exact @hm
    · rename_i y p
      refine ok_grd fun g=>?_
      cases hb:S.bi.lookup y with
      | some b=>
        refine ok_grd fun g1=>ok_obd (ok_xsE R as) fun es h2=>ok_some (both (fun F B=>?_) (fun zz zz=>rfl) fun zz zz zz w=>w)
        obtain ⟨d,g2⟩:=and2 g1
        exact snd_bcall B g (by rw [Bi.fix_val];exact B.hS.bi _ _ hb) (lookup_kind B.hS g2) (nameOk_inv d).1 (h2 F B)
      | none=>exact ok_obd (ok_name (t:=false) (p:=p)) fun o h1=>ok_obd (ok_xsE R as) fun es h2=>ok_some (both (fun F B=>snd_call B g (h1 F B) (h2 F B)) (fun zz zz=>rfl) fun zz zz zz w=>w)
theorem ok_sub {x y:Expr} {q:Pos}:Ok (toX (k+1) t S (.Subscript x y q)) (PR c n T t S (.Subscript x y q)):=by
  refine ok_obd (R false S x) fun a h1=>?_
  have plain:Ok (obd (toX k false S y) fun b=>grd (plainIdx y) (some (ME.idx a b))) (PR c n T t S (.Subscript x y q)):=
    ok_obd (R false S y) fun b h2=>ok_grd fun g=>ok_some (both (fun F B=>snd_idx (p:=q) (h1 F B) (h2 F B) g) (fun zz zz=>rfl) fun zz zz zz w=>w)
  induction y using Expr.casesOn<;>try exact plain
  rename_i l u s _
  induction s using Option.casesOn with
  | none=>exact ok_obd (ok_opt R l) fun b h2=>ok_obd (ok_opt R u) fun d h3=>ok_some (notT (fun F B=>snd_slc (h1 F B) (h2 F B) (h3 F B)) fun zz zz zz w=>w)
  | some z=>
    induction u using Option.casesOn with
    | some=>exact ok_none
    | none=>
      induction l using Option.casesOn with
      | none=>exact ok_none
      | some y=>exact ok_obd (R false S y) fun b h2=>ok_obd (R false S z) fun d h3=>ok_some (notT (fun F B=>snd_slcs (h1 F B) (h2 F B) (h3 F B)) fun zz zz zz w=>w)
theorem ok_bool {op:BoolOp} {vs:List Expr} {p:Pos}:Ok (toX (k+1) t S (.BoolOp op vs p)) (PR c n T t S (.BoolOp op vs p)):=by
  cases t<;>cases op
  · exact ok_two (Q:=fun vs=>PR c n T false S (.BoolOp .And vs p)) fun x y=>ok_obd (R false S x) fun a ha=>ok_obd (R false S y) fun b hb=>fun F B=>snd_and (ha F B) (hb F B)
  · exact ok_two (Q:=fun vs=>PR c n T false S (.BoolOp .Or vs p)) fun x y=>ok_obd (R false S x) fun a ha=>ok_obd (R false S y) fun b hb=>fun F B=>snd_or (ha F B) (hb F B)
  · exact ok_obd (ok_xsT R vs) fun as h=>fun F B=>sndT_and (h F B)
  · exact ok_obd (ok_xsT R vs) fun as h=>fun F B=>sndT_or (h F B)
theorem ok_dict {ks:List (Option Expr)} {vs:List Expr} {p:Pos}:Ok (toX (k+1) t S (.Dict ks vs p)) (PR c n T t S (.Dict ks vs p)):=by
  induction ks using List.casesOn with
  | nil=>
    induction vs using List.casesOn with
    | nil=>exact ok_some (notT (fun F B=>snd_ownd) fun zz zz zz w=>w)
    | cons=>exact ok_none
  | cons k0 kr=>exact ok_obd (ok_ks (k0::kr)) fun kk h1=>ok_obd (ok_xsE R vs) fun as h2=>ok_grd fun g=>ok_some (notT (fun F B=>snd_dct h1 (h2 F B) (beq_iff_eq.mp g) (by cases h1;simp)) fun zz zz zz w=>w)
theorem ok_lcomp {e:Expr} {gs:List Comprehension} {sc:Scope} {p:Pos}:Ok (toX (k+1) t S (.ListComp e gs sc p)) (PR c n T t S (.ListComp e gs sc p)):=
  ok_obd (ok_comp R) fun m hc=>by
    show Ok (some (match S.mk? p with
      | some i=>ME.frzc i m
      | none=>m)) _
    cases S.mk? p
    · exact ok_some (notT (fun F B=>hc.snd B) fun zz zz zz w=>hc.noT w)
    · exact ok_some (notT (fun F B=>snd_frzc (hc.snd B)) fun zz zz zz w=>w)
theorem rd_step:Rd c n T (toX (k+1)):=fun t S e=>by
  induction e using Expr.casesOn<;>first | exact ok_none | skip
  · exact ok_bool R
  · exact ok_obd (R false S _) fun a ha=>ok_obd (R false S _) fun b hb=>ok_some (notT (fun F B=>snd_bin (ha F B) (hb F B)) fun zz zz zz w=>w)
  · rename_i op x _
    cases op<;>first | exact ok_none | skip
    · exact ok_obd (R t S x) fun a ha=>by
        cases t
        · exact fun F B=>snd_not (ha F B)
        · exact fun F B=>sndT_not (ha F B)
    · exact ok_obd (R false S x) fun a ha=>ok_some (notT (fun F B=>snd_neg (ha F B)) fun zz zz zz w=>w)
  · exact ok_obd (R true S _) fun d hd=>ok_obd (R false S _) fun a ha=>ok_obd (R false S _) fun b hb=>ok_some (notT (fun F B=>snd_ite (hd F B) (ha F B) (hb F B)) fun zz zz zz w=>w)
  · exact ok_dict R
  · exact ok_lcomp R
  · rename_i l ops rs p
    induction t using Bool.casesOn with
    | false=>exact ok_lone (Q:=fun ops=>PR c n T false S (.Compare l ops rs p)) fun op=>ok_lone (Q:=fun rs=>PR c n T false S (.Compare l [op] rs p)) fun r=>ok_cmp1 R
    | true=>
      induction ops using List.casesOn with
      | nil=>exact ok_none
      | cons o1 os=>
        induction os using List.casesOn with
        | nil=>exact ok_lone (Q:=fun rs=>PR c n T true S (.Compare l [o1] rs p)) fun r=>ok_cmp1 R
        | cons o2 os=>
          induction os using List.casesOn with
          | cons=>exact ok_none
          | nil=>exact ok_two (Q:=fun rs=>PR c n T true S (.Compare l [o1,o2] rs p)) fun r u=>ok_grd fun g=>ok_obd (R false S _) fun a ha=>ok_obd (R false S _) fun b hb=>ok_obd (R false S _) fun d hd=>fun F B=>sndT_cmp2 B.ok (ha F B) (hb F B) (hd F B) (by simpa using g)
  · exact ok_call R
  · exact ok_const
  · rename_i x a p
    refine ok_grd fun g=>ok_obd (R false S x) fun o h1=>ok_some (notT (fun F B=>?_) fun zz zz zz w=>w)
    have hm:GE c n T F (.attr o a.cps.toList) (.Attribute x (toStr a.cps.toList) p):=snd_attr B.hT (h1 F B) (and2 g).1
    rw [toStr_self] at hm
    exact @hm
  · exact ok_sub R
  · exact ok_name
  · rename_i es p
    refine ok_obd (ok_xsE R es) fun as h1=>?_
    show Ok (some (match S.mk? p with
      | some _=>ME.ownl as
      | none=>.lst as)) _
    cases S.mk? p
    · exact ok_some (notT (fun F B=>snd_lst (h1 F B)) fun zz zz zz w=>w)
    · exact ok_some (notT (fun F B=>snd_ownl (h1 F B)) fun zz zz zz w=>w)
  · exact ok_obd (ok_xsE R _) fun as h1=>ok_some (notT (fun F B=>snd_tup (h1 F B)) fun zz zz zz w=>w)
end
theorem rd_all:∀k,Rd c n T (toX k)
  | 0=>fun zz zz zz=>ok_none
  | k+1=>rd_step (rd_all k)
end
noncomputable def toTg (S:Scp) (y:Str):Option Tg:=obd (S.idx y) fun i=>grd (S.vars[i]? == some y) (match S.nm.lookup y with
  | some kd=>match kd with
    | .local=>some (.loc i)
    | .cell=>some (.cell i)
    | _=>none
  | none=>none)
noncomputable def toLoc (S:Scp) (y:Str):Option Nat:=obd (S.idx y) fun i=>grd (S.vars[i]? == some y && S.nm.lookup y == some .local) (some i)
noncomputable def toNs:List Expr→Option (List Str)
  | []=>some []
  | e::r=>match e with
    | .Name y _=>obd (toNs r) fun ys=>some (y::ys)
    | _=>none
noncomputable def toTgs (S:Scp):List Str→Option (List Tg)
  | []=>some []
  | y::r=>obd (toTg S y) fun t=>obd (toTgs S r) fun ts=>some (t::ts)
noncomputable def toLocs (S:Scp):List Str→Option (List Nat)
  | []=>some []
  | y::r=>obd (toLoc S y) fun t=>obd (toLocs S r) fun ts=>some (t::ts)
noncomputable def Scp.env (S:Scp):Env:={ scope:={ kind:=.function,names:=S.nm,isGenerator:=false,isCoroutine:=false },locals:=0,globals:=0,cells:=[] }
noncomputable def toRev (S:Scp) (ts:List Expr) (ns:List Str) (x:Expr):Option Bool:=match pureOf (swappedStores [.Tuple ts 0 ⟨0,0,0,0⟩] x S.env) with
  | some o=>match o with
    | none=>some false
    | some ms=>grd (ms == ns) (some true)
  | none=>none
noncomputable def toSs (f:Stmt→Option MS):List Stmt→Option (List MS)
  | []=>some []
  | e::r=>obd (f e) fun a=>obd (toSs f r) fun as=>some (a::as)
noncomputable def toAs (S:Scp):Option Str→Option (Option Nat)
  | none=>some none
  | some y=>obd (toLoc S y) fun i=>some (some i)
noncomputable def toS:Nat→Scp→Stmt→Option MS
  | 0,_,_=>none
  | k+1,S,e=>match e with
    | .Expr x _=>obd (toX k false S x) fun a=>grd (!isComp x) (some (.expr a))
    | .Assign ts x _=>lone ts fun t=>match t with
      | .Name y _=>obd (toTg S y) fun tg=>match x with
        | .ListComp e gs sc _=>obd (toComp (toX k) S e gs sc) fun m=>some (.set tg m)
        | x=>grd (!isComp x) (obd (toX k false S x) fun a=>some (.set tg a))
      | .Tuple ts _ _=>obd (toNs ts) fun ns=>obd (toTgs S ns) fun is=>grd (S.calls && !isComp x) (obd (toX k false S x) fun a=>obd (toRev S ts ns x) fun rev=>some (.sets rev is a))
      | .Attribute y a _=>grd (!isComp x) (obd (toX k false S y) fun b=>obd (toX k false S x) fun v=>some (.seta b a.cps.toList v))
      | .Subscript y z _=>grd (!isComp x) (obd (toX k false S y) fun b=>obd (toX k false S z) fun d=>obd (toX k false S x) fun v=>some (.seti b d v))
      | _=>none
    | .AugAssign t op x _=>match t with
      | .Name y _=>obd (toLoc S y) fun i=>grd (nameOk y) (obd (toX k false S x) fun a=>some (.aug op i a))
      | .Attribute y a _=>obd (toX k false S y) fun b=>obd (toX k false S x) fun v=>some (.auga op b a.cps.toList v)
      | _=>none
    | .If t a b _=>obd (toX k true S t) fun d=>obd (toSs (toS k S) a) fun as=>obd (toSs (toS k S) b) fun bs=>some (.ite d as bs)
    | .While t b els _=>match els with
      | []=>obd (toX k true S t) fun d=>obd (toSs (toS k S) b) fun bs=>some (.while d bs)
      | _=>none
    | .For t it b els _=>match els with
      | []=>grd (S.calls && notSetE it) (match t with
        | .Name y _=>obd (toLoc S y) fun i=>obd (toX k false S it) fun src=>obd (toSs (toS k S) b) fun bs=>some (.for i src bs)
        | .Tuple ts _ _=>obd (toNs ts) fun ns=>obd (toLocs S ns) fun is=>obd (toX k false S it) fun src=>obd (toSs (toS k S) b) fun bs=>some (.fort is src bs)
        | _=>none)
      | _=>none
    | .Return v _=>match v with
      | none=>some .retn
      | some x=>obd (toX k false S x) fun a=>some (.ret a)
    | .Raise v w _=>match w with
      | none=>match v with
        | some x=>grd S.calls (obd (toX k false S x) fun a=>some (.raise a))
        | none=>none
      | some _=>none
    | .Try b hs els fin _=>match els with
      | []=>match fin with
        | []=>lone hs fun h=>match h with
          | .ExceptHandler t y hb _=>match t with
            | some e=>match e with
              | .Name tn _=>obd (toSs (toS k S) b) fun bs=>obd (S.gl.lookup tn) fun v=>match v with
                | .ref D=>grd (S.isGl tn) (obd (toAs S y) fun nm=>match hb with
                  | []=>none
                  | s0::h'=>obd (toSs (toS k S.still) (s0::h')) fun hm=>some (.try bs D nm hm))
                | _=>none
              | _=>none
            | none=>none
        | _=>none
      | _=>none
    | _=>none
section
variable {c:Cx} {n:Nat} {T:Tab} {F:Fm} {S:Scp} {k:Nat}
theorem ok_tg {y:Str}:Ok (toTg S y) fun t=>TgR S t y:=ok_eq fun i zz=>ok_grd fun g=>by
  have g:=beq_iff_eq.mp g
  cases hk:S.nm.lookup y with
  | none=>exact ok_none
  | some kd=>cases kd<;>first | exact ok_none | exact ok_some (.loc g hk) | exact ok_some (.cell g hk)
theorem ok_loc {y:Str}:Ok (toLoc S y) fun i=>TgR S (.loc i) y:=ok_eq fun i zz=>ok_grd fun g=>.loc (beq_iff_eq.mp (and2 g).1) (beq_iff_eq.mp (and2 g).2)
theorem ok_ns:∀es:List Expr,Ok (toNs es) fun ns=>NamesR es ns
  | []=>ok_some .nil
  | e::r=>by
    induction e using Expr.casesOn<;>first | exact ok_none | exact ok_obd (ok_ns r) fun ys h=>ok_some (.cons h)
theorem ok_tgs:∀ns:List Str,Ok (toTgs S ns) fun ts=>TgsR S ts ns
  | []=>ok_some .nil
  | e::r=>ok_obd ok_tg fun t h1=>ok_obd (ok_tgs r) fun ts h2=>ok_some (.cons h1 h2)
theorem ok_locs:∀ns:List Str,Ok (toLocs S ns) fun ts=>TgsR S (ts.map .loc) ns
  | []=>ok_some .nil
  | e::r=>ok_obd ok_loc fun t h1=>ok_obd (ok_locs r) fun ts h2=>ok_some (.cons h1 h2)
theorem toRev_env (B:Base c n T F S) {ts:List Expr} {x:Expr} {k:Nat} {p:Pos}:swappedStores [.Tuple ts k p] x F.env=swappedStores [.Tuple ts 0 ⟨0,0,0,0⟩] x S.env:=by
  have h1:=B.ok.kind
  have h2:=B.hS.nm
  generalize F.env=E at h1 h2 ⊢
  obtain ⟨sc⟩:=E
  obtain ⟨kd,nm⟩:=sc
  cases h1
  have h2:S.nm=nm:=h2
  subst h2
  induction x using Expr.casesOn<;>rfl
theorem ok_rev {ts:List Expr} {ns:List Str} {x:Expr}:Ok (toRev S ts ns x) fun rev=>∀F,Base c n T F S→∀k p,(rev=false∧swappedStores [.Tuple ts k p] x F.env=pure none)∨(rev=true∧swappedStores [.Tuple ts k p] x F.env=pure (some ns)):=by
  unfold toRev
  cases hp:pureOf (swappedStores [.Tuple ts 0 ⟨0,0,0,0⟩] x S.env) with
  | none=>exact ok_none
  | some o=>
    have hp:=of_pureOf hp
    induction o using Option.casesOn with
    | none=>exact ok_some fun F B k p=>.inl ⟨rfl,(toRev_env B).trans hp⟩
    | some ms=>exact ok_grd fun g=>ok_some fun F B k p=>.inr ⟨rfl,by rw [← beq_iff_eq.mp g];exact (toRev_env B).trans hp⟩
theorem ok_as (y:Option Str):Ok (toAs S y) fun i=>AsR S i y:=by
  induction y using Option.casesOn with
  | none=>exact ok_some .none
  | some y=>exact ok_obd ok_loc fun i h=>ok_some (.some h)
noncomputable def RdS (c:Cx) (n:Nat) (T:Tab) (f:Scp→Stmt→Option MS):Prop:=∀S e,Ok (f S e) fun m=>∀F,BaseS c n T F S→GS c n T F m e
theorem ok_ss {f:Scp→Stmt→Option MS} (R:RdS c n T f):∀es:List Stmt,Ok (toSs (f S) es) fun ms=>∀F,BaseS c n T F S→GSs c n T F ms es
  | []=>ok_some fun F B=>sts_nil
  | e::r=>ok_obd (R S e) fun a h1=>ok_obd (ok_ss R r) fun as h2=>ok_some fun F B=>sts_cons (h1 F B) (h2 F B)
theorem notC {x:Expr} (h:(!isComp x)=true):isComp x=false:=by simpa using h
theorem CompR.set {e:Expr} {gs:List Comprehension} {sc:Scope} {p pn cpos:Pos} {me:ME} {t:Tg} {nm:Str} (h:CompR c n T S e sc gs me) (ht:TgR S t nm) (B:Base c n T F S):GS c n T F (.set t me) (.Assign [.Name nm pn] (.ListComp e gs sc cpos) p):=match h with
  | .mk h1 h2 h3 h4 h5 h6=>st_setc B h1 ht (h6 B) h3 h2 h4 h5
theorem ok_assign (X:Rd c n T (toX k)) {ts:List Expr} {x:Expr} {p:Pos}:Ok (toS (k+1) S (.Assign ts x p)) fun m=>∀F,BaseS c n T F S→GS c n T F m (.Assign ts x p):=by
  refine ok_lone (Q:=fun ts m=>∀F,BaseS c n T F S→GS c n T F m (.Assign ts x p)) fun t=>?_
  induction t using Expr.casesOn<;>first | exact ok_none | skip
  · rename_i y a q
    refine ok_grd fun g=>ok_obd (X false S y) fun b h1=>ok_obd (X false S x) fun v h2=>ok_some fun F B=>?_
    have hm:GS c n T F (.seta b a.cps.toList v) (.Assign [.Attribute y (toStr a.cps.toList) q] x p):=st_seta B.toBase (h1 F B.toBase) (h2 F B.toBase) (notC g)
    rw [toStr_self] at hm
    exact @hm
  · exact ok_grd fun g=>ok_obd (X false S _) fun b h1=>ok_obd (X false S _) fun d h2=>ok_obd (X false S _) fun v h3=>ok_some fun F B=>st_seti B.toBase (h1 F B.toBase) (h2 F B.toBase) (h3 F B.toBase) (notC g)
  · rename_i y q
    refine ok_obd ok_tg fun tg ht=>?_
    have plain:Ok (grd (!isComp x) (obd (toX k false S x) fun a=>some (MS.set tg a))) fun m=>∀F,BaseS c n T F S→GS c n T F m (.Assign [.Name y q] x p):=
      ok_grd fun g=>ok_obd (X false S x) fun a h2=>ok_some fun F B=>st_set B.toBase (h2 F B.toBase) ht (notC g)
    induction x using Expr.casesOn<;>try exact plain
    exact ok_obd (ok_comp X) fun a h=>ok_some fun F B=>h.set ht B.toBase
  · exact ok_obd (ok_ns _) fun ns h1=>ok_obd (ok_tgs ns) fun is h2=>ok_grd fun g=>ok_obd (X false S x) fun a h3=>ok_obd (ok_rev (c:=c) (n:=n) (T:=T)) fun rev h4=>ok_some fun F B=>st_sets B.toBase (and2 g).1 (h3 F B.toBase) h2 h1 (notC (and2 g).2) (h4 F B.toBase _ _)
theorem rdS_step (X:Rd c n T (toX k)) (R:RdS c n T (toS k)):RdS c n T (toS (k+1)):=fun S e=>by
  apply Stmt.casesOn (motive_2:=fun e=>Ok (toS (k+1) S e) fun m=>∀F,BaseS c n T F S→GS c n T F m e) e<;>intros<;>first | exact ok_none | skip
  · rename_i v _
    induction v using Option.casesOn with
    | none=>exact ok_some fun F B=>st_retn
    | some x=>exact ok_obd (X false S x) fun a h=>ok_some fun F B=>st_ret (h F B.toBase)
  · exact ok_assign X
  · rename_i t op x pp
    apply Expr.casesOn (motive_1:=fun t=>Ok (toS (k+1) S (.AugAssign t op x pp)) fun m=>∀F,BaseS c n T F S→GS c n T F m (.AugAssign t op x pp)) t<;>intros<;>first | exact ok_none | skip
    · rename_i y a q
      refine ok_obd (X false S y) fun b h1=>ok_obd (X false S x) fun v h2=>ok_some fun F B=>?_
      have hm:GS c n T F (.auga op b a.cps.toList v) (.AugAssign (.Attribute y (toStr a.cps.toList) q) op x pp):=st_auga B.toBase (h1 F B.toBase) (h2 F B.toBase)
      rw [toStr_self] at hm
      exact @hm
    · exact ok_obd ok_loc fun i h1=>ok_grd fun g=>ok_obd (X false S x) fun a h2=>ok_some fun F B=>st_aug B.toBase (h2 F B.toBase) h1 (nameOk_inv g).2
  · rename_i t it b els _
    induction els using List.casesOn with
    | cons=>exact ok_none
    | nil=>
      refine ok_grd fun g=>?_
      induction t using Expr.casesOn<;>first | exact ok_none | skip
      · exact ok_obd ok_loc fun i h1=>ok_obd (X false S it) fun src h2=>ok_obd (ok_ss R b) fun bs h3=>ok_some fun F B=>st_for B (and2 g).1 h1 (h2 F B.toBase) (and2 g).2 fun B=>h3 _ B
      · exact ok_obd (ok_ns _) fun ns h1=>ok_obd (ok_locs ns) fun is h2=>ok_obd (X false S it) fun src h3=>ok_obd (ok_ss R b) fun bs h4=>ok_some fun F B=>st_fort B (and2 g).1 h2 h1 (h3 F B.toBase) (and2 g).2 fun B=>h4 _ B
  · rename_i t b els _
    induction els using List.casesOn with
    | cons=>exact ok_none
    | nil=>exact ok_obd (X true S t) fun d h1=>ok_obd (ok_ss R b) fun bs h2=>ok_some fun F B=>st_while B (h1 F B.toBase) (h2 F B)
  · exact ok_obd (X true S _) fun d h1=>ok_obd (ok_ss R _) fun as h2=>ok_obd (ok_ss R _) fun bs h3=>ok_some fun F B=>st_ite (h1 F B.toBase) (h2 F B) (h3 F B)
  · rename_i v w _
    induction w using Option.casesOn with
    | some=>exact ok_none
    | none=>
      induction v using Option.casesOn with
      | none=>exact ok_none
      | some x=>exact ok_grd fun g=>ok_obd (X false S x) fun a h=>ok_some fun F B=>st_raise B g (h F B.toBase)
  · rename_i b hs els fin p
    induction els using List.casesOn with
    | cons=>exact ok_none
    | nil=>
      induction fin using List.casesOn with
      | cons=>exact ok_none
      | nil=>
        refine ok_lone (Q:=fun hs m=>∀F,BaseS c n T F S→GS c n T F m (.Try b hs [] [] p)) fun hd=>?_
        obtain ⟨t,y,hb,hp⟩:=hd
        induction t using Option.casesOn with
        | none=>exact ok_none
        | some e=>
          induction e using Expr.casesOn<;>first | exact ok_none | skip
          refine ok_obd (ok_ss R b) fun bs h1=>ok_eq fun v h2=>?_
          induction v using Value.casesOn<;>first | exact ok_none | skip
          refine ok_grd fun g=>ok_obd (ok_as y) fun nm h3=>?_
          induction hb using List.casesOn with
          | nil=>exact ok_none
          | cons s0 h'=>exact ok_obd (ok_ss R (s0::h')) fun hm h4=>ok_some fun F B=>st_try B (fun B=>h1 _ B) (B.hS.gl _ _ h2) (beq_iff_eq.mp (and2 g).2) (nameOk_inv (and2 g).1).1 h3 fun B=>h4 _ B
  · exact ok_obd (X false S _) fun a h=>ok_grd fun g=>ok_some fun F B=>st_expr B.toBase (h F B.toBase) (notC g)
theorem rdS_all:∀k,RdS c n T (toS k)
  | 0=>fun zz zz=>ok_none
  | k+1=>rdS_step (rd_all k) (rdS_all k)
noncomputable def toBody (S:Scp) (b:List Stmt):Option (List MS):=toSs (toS 40 S) b
theorem toBody_snd {b:List Stmt} {ms:List MS} (h:toBody S b=some ms) (B:BaseS c n T F S):GSs c n T F ms b:=(ok_ss (rdS_all 40) b).get h F B
end
set_option genCtorIdx false in
inductive LS where
  | par (j:Nat)
  | non
  | cell (k:Nat)
noncomputable def LS.ctorIdx (x:LS):Nat:=@LS.casesOn (fun _=>Nat) x (fun _=>0) 1 (fun _=>2)
noncomputable def LS.loc (xs:List V) (as:List Addr):LS→Option V
  | .par j=>xs[j]?
  | .non=>none
  | .cell k=>(as[k]?).map V.cell
noncomputable def mkCells (xs:List V):List (Option Nat)→List Addr→Own
  | o::cs,a::as=>(a,.cell (o.bind fun j=>xs[j]?))::mkCells xs cs as
  | _,_=>[]
noncomputable def cellNs (names:List (Str×NameKind)):List Str:=names.filterMap fun p=>if p.2 == .cell then some p.1 else none
noncomputable def lsOk (names:List (Str×NameKind)) (ps vars:List Str) (cn:List Str):List LS→List Str→Bool
  | [],[]=>true
  | l::ls,y::ys=>(match l with
      | .par j=>ps[j]? == some y && names.lookup y == some .local
      | .non=>!ps.contains y && names.lookup y == some .local
      | .cell k=>cn[k]? == some y && names.lookup y == some .cell) && lsOk names ps vars cn ls ys
  | _,_=>false
noncomputable def csOk (ps:List Str):List (Option Nat)→List Str→Bool
  | [],[]=>true
  | o::cs,y::ys=>(match o with
      | none=>!ps.contains y
      | some j=>ps[j]? == some y) && csOk ps cs ys
  | _,_=>false
noncomputable def frameOk (names:List (Str×NameKind)) (ps vars:List Str) (ls:List LS) (cs:List (Option Nat)):Bool:=
  lsOk names ps vars (cellNs names) ls vars && csOk ps cs (cellNs names) && decide (names.map (·.1)).Nodup && decide ps.Nodup && decide vars.Nodup && ps.all fun y=>names.lookup y == some .local || names.lookup y == some .cell
theorem cellsFrom_eq:∀(names:List (Str×NameKind)) (k:Nat) (acc:List (Str×Addr)),cellsFrom k names acc=((cellNs names).zip (List.range' k (cellNs names).length)).reverse++acc
  | [],k,acc=>rfl
  | (y,kd)::r,k,acc=>by
    unfold cellsFrom cellNs
    by_cases h:kd == .cell
    · simp only [h,if_true,List.filterMap_cons]
      rw [cellsFrom_eq r]
      simp only [List.length_cons,List.range'_succ,List.zip_cons_cons,List.reverse_cons,List.append_assoc,List.singleton_append]
      rfl
    · simp only [h,Bool.false_eq_true,if_false,List.filterMap_cons]
      rw [cellsFrom_eq r]
      rfl
theorem mem_cellNs {names:List (Str×NameKind)} {y:Str} (h:y∈cellNs names):(y,NameKind.cell)∈names:=by
  unfold cellNs at h
  obtain ⟨p,hp,e⟩:=List.mem_filterMap.mp h
  split at e
  · rename_i hk;cases e;rw [← beq_iff_eq.mp hk];exact hp
  · cases e
theorem cellNs_nodup {names:List (Str×NameKind)} (h:(names.map (·.1)).Nodup):(cellNs names).Nodup:=by
  induction names with
  | nil=>exact List.nodup_nil
  | cons p r ih=>
    rw [List.map_cons,List.nodup_cons] at h
    unfold cellNs
    rw [List.filterMap_cons]
    split
    · exact ih h.2
    · rename_i y e
      split at e
      · cases e
        rw [List.nodup_cons]
        refine ⟨fun hm=>h.1 ?_,ih h.2⟩
        exact List.mem_map.mpr ⟨_,mem_cellNs hm,rfl⟩
      · cases e
theorem lookup_nodup {names:List (Str×NameKind)} (h:(names.map (·.1)).Nodup) {y:Str} {k:NameKind} (hm:(y,k)∈names):names.lookup y=some k:=by
  induction names with
  | nil=>cases hm
  | cons p r ih=>
    obtain ⟨z,kz⟩:=p
    rw [List.map_cons,List.nodup_cons] at h
    rw [List.lookup_cons]
    rcases List.mem_cons.mp hm with e | hm
    · cases e;rw [beq_self_eq_true]
    · have:(y == z)=false:=beq_eq_false_iff_ne.mpr fun e=>h.1 (by rw [← e];exact List.mem_map.mpr ⟨_,hm,rfl⟩)
      rw [this];exact ih h.2 hm
theorem zip_lookup {α:Type}:∀{ys:List Str} {as:List α} {k:Nat} {y:Str} {a:α},ys.Nodup→ys[k]?=some y→as[k]?=some a→(ys.zip as).reverse.lookup y=some a:=by
  intro ys as k y a hn hy ha
  have hmem:(y,a)∈(ys.zip as).reverse:=by
    rw [List.mem_reverse]
    refine List.mem_of_getElem? (i:=k) ?_
    rw [List.getElem?_zip_eq_some]
    exact ⟨hy,ha⟩
  have hnd:((ys.zip as).reverse.map (·.1)).Nodup:=by
    rw [List.map_reverse]
    refine (List.reverse_perm _).nodup_iff.mpr ?_
    have:∀(ys:List Str) (as:List α),ys.Nodup→((ys.zip as).map (·.1)).Nodup:=by
      intro ys
      induction ys with
      | nil=>intro as _;exact List.nodup_nil
      | cons y r ih=>
        intro as h
        induction as using List.casesOn with
        | nil=>exact List.nodup_nil
        | cons a as=>
          rw [List.nodup_cons] at h
          rw [List.zip_cons_cons,List.map_cons,List.nodup_cons]
          refine ⟨fun hm=>h.1 ?_,ih as h.2⟩
          obtain ⟨p,hp,e⟩:=List.mem_map.mp hm
          have e':p.1=y:=e
          rw [← e']
          exact (List.of_mem_zip hp).1
    exact this ys as hn
  have gen:∀l:List (Str×α),(l.map (·.1)).Nodup→(y,a)∈l→l.lookup y=some a:=by
    intro l
    induction l with
    | nil=>intro _ h;cases h
    | cons p r ih=>
      intro h hm
      rw [List.map_cons,List.nodup_cons] at h
      rw [List.lookup_cons]
      rcases List.mem_cons.mp hm with e | hm
      · rw [← e,beq_self_eq_true]
      · have:(y == p.1)=false:=beq_eq_false_iff_ne.mpr fun e=>h.1 (by rw [← e];exact List.mem_map.mpr ⟨_,hm,rfl⟩)
        rw [this];exact ih h.2 hm
  exact gen _ hnd hmem
theorem bindL_not {ko:Str→Option NameKind} {y:Str}:∀(ps:List Str) (vs:List Value) (m:Str→Option Value),y ∉ ps→bindL ko (ps.zip vs) m y=m y:=by
  intro ps
  induction ps with
  | nil=>intro vs m _;rfl
  | cons q ps ih=>
    intro vs m h
    induction vs using List.casesOn with
    | nil=>rfl
    | cons u vs=>
      have h:=not_or.mp (fun e=>h (List.mem_cons.mpr e))
      show bindL ko (ps.zip vs) (if ko q=some .local then fun z=>if z=q then some u else m z else m) y=m y
      rw [ih vs _ h.2]
      split
      · exact if_neg h.1
      · rfl
theorem bindL_get {ko:Str→Option NameKind} {ps:List Str} {vs:List Value} {m:Str→Option Value} {j:Nat} {y:Str} {v:Value} (hn:ps.Nodup) (h1:ps[j]?=some y) (h2:vs[j]?=some v) (hk:ko y=some .local):bindL ko (ps.zip vs) m y=some v:=by
  induction ps generalizing vs m j with
  | nil=>cases h1
  | cons p ps ih=>
    have hn:=List.nodup_cons.mp hn
    induction vs using List.casesOn with
    | nil=>cases h2
    | cons w vs=>
      induction j using Nat.casesOn with
      | zero=>
        cases h1;cases h2
        show bindL ko (ps.zip vs) (if ko y=some .local then fun z=>if z=y then some v else m z else m) y=some v
        rw [if_pos hk,bindL_not _ _ _ hn.1,if_pos rfl]
      | succ j=>exact ih hn.2 h1 h2
theorem bindC_not {ko:Str→Option NameKind} {y:Str}:∀(ps:List Str) (vs:List Value) (m:Str→Option Value),y ∉ ps→bindC ko (ps.zip vs) m y=m y:=by
  intro ps
  induction ps with
  | nil=>intro vs m _;rfl
  | cons q ps ih=>
    intro vs m h
    induction vs using List.casesOn with
    | nil=>rfl
    | cons u vs=>
      simp only [List.mem_cons,not_or] at h
      show bindC ko (ps.zip vs) (if ko q=some .local then m else fun z=>if z=q then some u else m z) y=m y
      rw [ih vs _ h.2]
      split
      · rfl
      · exact if_neg h.1
theorem bindC_get {ko:Str→Option NameKind} {ps:List Str} {vs:List Value} {m:Str→Option Value} {j:Nat} {y:Str} {v:Value} (hn:ps.Nodup) (h1:ps[j]?=some y) (h2:vs[j]?=some v) (hk:ko y≠some .local):bindC ko (ps.zip vs) m y=some v:=by
  induction ps generalizing vs m j with
  | nil=>cases h1
  | cons p ps ih=>
    have hn:=List.nodup_cons.mp hn
    induction vs using List.casesOn with
    | nil=>cases h2
    | cons w vs=>
      induction j using Nat.casesOn with
      | zero=>
        cases h1;cases h2
        show bindC ko (ps.zip vs) (if ko y=some .local then m else fun z=>if z=y then some v else m z) y=some v
        rw [if_neg hk,bindC_not _ _ _ hn.1,if_pos rfl]
      | succ j=>exact ih hn.2 h1 h2
section
variable {c:Cx} {n:Nat} {T:Tab} {F:Fm} {S:Scp} {fz:List (Addr×Obj)} {st:St} {m:Str→Option Value} {oc kp:List (Addr×Obj)} {s:Shared} {E:PE} {A:Around}
inductive CellsR (c:Cx) (fz:List (Addr×Obj)) (h:Heap) (own:Own) (as:List Addr):Prop
  | mk {l:List (Addr×Obj)}:OwnR c fz own l→l.map (·.1)=as→(∀p∈l,h.get? p.1=some p.2)→CellsR c fz h own as
theorem cells_own {h:Heap} {ko:Str→Option NameKind} {ps:List Str} {vs:List Value} {ys:List V} (hn:ps.Nodup) (r:c.Rs fz vs ys) (hlen:vs.length=ps.length):∀{cs:List (Option Nat)} {cn:List Str} {as:List Addr},csOk ps cs cn=true→(∀y∈cn,ko y=some .cell)→as.length=cn.length→
    (∀(k:Nat) y a,cn[k]?=some y→as[k]?=some a→h.IsCell a (bindC ko (ps.zip vs) (fun zz=>none) y))→CellsR c fz h (mkCells ys cs as) as
  | [],[],as,h1,h2,h3,h4=>by
    induction as using List.casesOn with
    | nil=>exact .mk .nil rfl fun zz h=>nomatch h
    | cons=>cases h3
  | o::cs,y::cn,as,h1,h2,h3,h4=>by
    induction as using List.casesOn with
    | nil=>cases h3
    | cons a as=>
      obtain ⟨h1,h1'⟩:=and2 h1
      obtain ⟨e1,e2,e3⟩:=cells_own hn r hlen h1' (fun y hy=>h2 y (.tail _ hy)) (Nat.succ.inj h3) (fun k y' a' q1 q2=>h4 (k+1) y' a' q1 q2)
      obtain ⟨oc,hoc,hd⟩:=h4 0 y a rfl rfl
      have hk:=h2 y (.head _)
      have hor:OR c fz a (.cell (o.bind fun j=>ys[j]?)) [(a,oc)]:=by
        induction o using Option.casesOn with
        | none=>
          have hny:y ∉ ps:=by simpa using h1
          rw [bindC_not _ _ _ hny] at hd
          exact .cell0 hd
        | some j=>
          have hpj:ps[j]?=some y:=beq_iff_eq.mp h1
          have hj:j < vs.length:=by rw [hlen];exact (List.getElem?_eq_some_iff.mp hpj).1
          have hjy:j < ys.length:=by rw [← r.length];exact hj
          obtain ⟨v,q1,q2⟩:=r.get (i:=j) (x:=ys[j]) (List.getElem?_eq_getElem hjy)
          rw [bindC_get hn hpj q1 (by rw [hk];decide)] at hd
          show OR c fz a (.cell (ys[j]?)) _
          rw [List.getElem?_eq_getElem hjy]
          exact .cell hd q2
      refine .mk (.cons hor e1) (congrArg (a::·) e2) fun p hp=>(List.mem_cons.mp hp).elim (fun e=>e▸hoc) (e3 p)
  | [],_::_,_,h1,_,_,_=>by cases h1
  | _::_,[],_,h1,_,_,_=>by cases h1
theorem locs_ok {env:Env} {names:List (Str×NameKind)} {ps:List Str} {vs:List Value} {ys:List V} {m':Str→Option Value} {cn:List Str} {as:List Addr} (hko:∀y,env.kindOf y=names.lookup y) (r:c.Rs fz vs ys) (hlen:vs.length=ps.length) (hm:∀(j:Nat) y v,ps[j]?=some y→vs[j]?=some v→names.lookup y=some .local→m' y=some v)
    (hc:∀(k:Nat) y a,cn[k]?=some y→as[k]?=some a→env.cells.lookup y=some a):∀{ls:List LS} {vars:List Str} (all:List Str),lsOk names ps all cn ls vars=true→∀(i:Nat) (v:V),(ls.map (LS.loc ys as))[i]?=some (some v)→∃y,vars[i]?=some y∧LocV c fz env m' y v
  | [],[],_,_,i,v,h=>by cases h
  | l::ls,y::vars,all,h1,i,v,h=>by
    obtain ⟨h1,h1'⟩:=and2 h1
    induction i using Nat.casesOn with
    | succ i=>exact locs_ok hko r hlen hm hc all h1' i v h
    | zero=>
      refine ⟨y,rfl,?_⟩
      have h:=Option.some.inj h
      cases l with
      | non=>cases h
      | par j=>
        obtain ⟨h2,h3⟩:=and2 h1
        have h2:=beq_iff_eq.mp h2
        have h3:=beq_iff_eq.mp h3
        have h:ys[j]?=some v:=h
        obtain ⟨w,q1,q2⟩:=r.get h
        exact .val (by rw [hko];exact h3) (hm j y w h2 q1 h3) q2
      | cell k=>
        obtain ⟨h2,h3⟩:=and2 h1
        have h:(as[k]?).map V.cell=some v:=h
        cases q:as[k]? with
        | none=>rw [q] at h;cases h
        | some a=>
          rw [q] at h
          cases h
          exact .cell (.inl (by rw [hko];exact beq_iff_eq.mp h3)) (hc k y a (beq_iff_eq.mp h2) q)
  | [],_::_,_,h1,_,_,_=>by cases h1
  | _::_,[],_,h1,_,_,_=>by cases h1
structure Glb (c:Cx) (gl:List (Str×Value)) (bi:List (Str×Bi)):Prop where
  gl:∀x v,gl.lookup x=some v→GlobAt c x v
  bi:∀x b,bi.lookup x=some b→GlobAt c x b.val
structure FnAt (c:Cx) (f:Addr) (fd:FuncData) (body:List Stmt) (S:Scp) (ps:List Str) (ls:List LS) (cs:List (Option Nat)) (bs:List MS):Prop where
  o:∃o,c.K.lookup f=some o∧o.data=.func fd
  hbody:fd.body=.stmts body
  code:codeIn c.K fd.code fd.qualname=true
  co:fd.scope.isCoroutine=false
  gen:fd.scope.isGenerator=false
  kind:fd.scope.kind=.function
  clo:fd.closure=[]
  glob:fd.globals=mainGlobals
  blt:fd.builtins=builtinsNs
  nm:fd.scope.names=S.nm
  fr:frameOk S.nm ps S.vars ls cs=true
  hgl:Glb c S.gl S.bi
  ok:toBody S body=some bs
inductive CodeP (c:Cx) (F:Fm) (loc:List (Option V)) (fz:List (Addr×Obj)) (Q:PQ) (E:PE):Result→Shared→Prop
  | ret {v:Value} {s':Shared}:PostV c F fz (fun r st=>st.loc=loc∧Q r st.own) v s'→CodeP c F loc fz Q E (.ok (.ret v)) s'
  | exc {e:Value} {s':Shared}:E e s'→CodeP c F loc fz Q E (.error e) s'
noncomputable def SemCode (c:Cx) (n:Nat) (f:Value) (xs:List V) (own:Own) (Q:PQ) (X:PX):Prop:=
  ∀(F:Fm) (loc:List (Option V)) fz (vs:List Value) (s:Shared) (E:PE),F.Ok c n→F.A.handled=none→Now c F ⟨loc,own⟩ fz s→c.Rs fz vs xs→
    ExcTo c F (fun e st=>st.loc=loc∧X e st.own) E→
    codeAny c.M F.A (.call f ⟨vs,[]⟩) (CodeP c F loc fz Q E) s
theorem SemCode.call {f:Value} {xs:List V} {own:Own} {Q:PQ} {X:PX} (h:SemCode c n f xs own Q X):SemCall c n f xs own Q X where
  go:=fun F loc fz vs s E ok hh x r hE=>wpAny_call (codeAny_mono (h F loc fz vs s E ok hh x r hE) fun r s' q=>by
    cases q with
    | ret q=>exact q
    | exc q=>exact q)
noncomputable def retV (f:Fl):V:=match f with
  | .ret v=>v
  | _=>.non
inductive EndQ (Q:PQ) (f:Fl) (st:St):Prop
  | mk {own':Own}:own'.Sublist st.own→Q (retV f) own'→EndQ Q f st
  | perm {l own':Own}:l.Perm st.own→own'.Sublist l→Q (retV f) own'→EndQ Q f st
inductive EndX (X:PX) (e:Addr) (st:St):Prop
  | mk {own':Own} {C:Addr} {ats:List (List Nat×V)}:own'.Sublist st.own→(e,.exc false C ats)∈own'→X e own'→EndX X e st
theorem csOk_len {ps:List Str}:∀{cs:List (Option Nat)} {cn:List Str},csOk ps cs cn=true→cs.length=cn.length
  | [],[],_=>rfl
  | [],_::_,h=>by cases h
  | _::_,[],h=>by cases h
  | _::_,_::_,h=>congrArg (·+1) (csOk_len (and2 h).2)
theorem OwnR.append {a b:Own} {l l':List (Addr×Obj)} (h:OwnR c fz a l) (k:OwnR c fz b l'):OwnR c fz (a++b) (l++l'):=by
  induction h with
  | nil=>exact k
  | cons q _ ih=>rw [List.append_assoc];exact .cons q ih
theorem OwnR.perm {a b:Own} (p:b.Perm a):∀{l:List (Addr×Obj)},OwnR c fz a l→∃l',l'.Perm l∧OwnR c fz b l':=by
  induction p with
  | nil=>exact fun h=>⟨_,.refl _,h⟩
  | cons x _ ih=>
    intro l h
    cases h with
    | cons h1 h2=>obtain ⟨l',p,h3⟩:=ih h2;exact ⟨_,p.append_left _,.cons h1 h3⟩
  | swap x y r=>
    intro l h
    cases h with
    | cons h1 h2=>
      cases h2 with
      | cons h2 h3=>exact ⟨_,by rw [← List.append_assoc,← List.append_assoc];exact List.Perm.append_right _ List.perm_append_comm,.cons h2 (.cons h1 h3)⟩
  | trans _ _ i1 i2=>
    intro l h
    obtain ⟨l1,p1,h1⟩:=i2 h
    obtain ⟨l2,p2,h2⟩:=i1 h1
    exact ⟨l2,p2.trans p1,h2⟩
theorem Now.perm {st:St} {own':Own} (x:Now c F st fz s) (p:own'.Perm st.own):Now c F ⟨st.loc,own'⟩ fz s:=by
  obtain ⟨x⟩:=x
  obtain ⟨l,q,h⟩:=x.ow.perm p
  exact .mk (x.perm q h)
theorem EndQ.go {G:Fm} {Q:PQ} {f:Fl} {st:St} (h:EndQ Q f st) (x:Now c G st fz s):∃l own',Now c G ⟨st.loc,l⟩ fz s∧own'.Sublist l∧Q (retV f) own':=by
  cases h with
  | mk h1 h2=>exact ⟨_,_,x,h1,h2⟩
  | perm h1 h2 h3=>exact ⟨_,_,x.perm h1,h2,h3⟩
theorem InFlight.mono {L:Option Addr} {e:Addr} {led led':List (Addr×Obj)} {h:Heap} (x:InFlight c L e led h) (k:∀p∈led',p∈led):InFlight c L e led' h:=x.sub k
structure Callee (c:Cx) (F G:Fm) (fd:FuncData) (L:Addr) (vars:List Str) (oL:Obj) (kp fz:List (Addr×Obj)):Prop where
  A:G.A=F.A.deeper G.env
  frames:G.frames=G.env::F.frames
  kept:G.kept=(F.env.locals,oL)::kp
  vars:G.vars=vars
  base:G.base=fz
  loc:G.env.locals=L
  scope:G.env.scope=fd.scope
  frame:G.env.frame=some L
  cells:G.env.cells=cellsFrom (L+1) fd.scope.names []
  glob:G.env.globals=mainGlobals
  blt:G.env.builtins=builtinsNs
theorem callee_ok (ok:F.Ok c (n+1)) {G:Fm} {fd:FuncData} {L:Addr} {vars:List Str} {oL:Obj} (C:Callee c F G fd L vars oL kp fz) (hk:fd.scope.kind=.function) (hv:vars.Nodup) (hL:∃es ep,oL.data=.dict es ep) (kr:KeptR F.kept kp) (hc:∀y,fd.scope.names.lookup y=some .cell→∃a,(cellsFrom (L+1) fd.scope.names []).lookup y=some a):G.Ok c n:=by
  refine ⟨by rw [C.scope];exact hk,C.glob,C.blt,?_,fun e he=>?_,⟨_,C.frame,G.env,F.frames,C.frames,C.frame⟩,by rw [C.vars];exact hv,fun y hy=>?_,?_,?_⟩
  · rw [C.A,C.frames]
    show (F.A.frames).map _=_
    rw [ok.frames];rfl
  · rw [C.frames] at he
    rw [C.kept]
    rcases List.mem_cons.mp he with rfl | he
    · exact ⟨by rw [C.scope,hk];decide,_,C.frame,.inl C.loc.symm⟩
    · obtain ⟨h1,L',h2,h3⟩:=ok.fr e he
      refine ⟨h1,L',h2,.inr ?_⟩
      rcases h3 with rfl | ⟨o',ho',es',ep',hd'⟩
      · exact ⟨oL,.head _,hL⟩
      · obtain ⟨sl,hsl⟩:=kr.get ho'
        exact ⟨_,.tail _ hsl,es',ep',hd'⟩
  · have:G.env.scope.names.lookup y=some .cell:=hy
    rw [C.scope] at this
    rw [C.cells];exact hc y this
  · rw [C.A]
    have:=ok.depth
    show F.A.depth+1+4 * n < recursionLimit
    omega
  · rw [C.A]
    have:=ok.units
    show F.A.units+3+16 * n+200 < cLine
    omega
theorem callee_back {G:Fm} {fd:FuncData} {L:Addr} {vars:List Str} {oL:Obj} (C:Callee c F G fd L vars oL kp fz) {loc:List (Option V)} (hab:c.g.objs.size≤F.env.locals) (hNs:LCg.NsObj oL m) (kr:KeptR F.kept kp) (hne:∀p∈kp,p.1≠F.env.locals) (hFb:Sub F.base fz) (lc:LocR c fz F m loc)
    {st':St} {m':Str→Option Value} {oc' fz' kp':List (Addr×Obj)} {s':Shared} (x':Sit c G st' m' oc' fz' kp' s') {own':Own} (hs:own'.Sublist st'.own):∃oc6 kp2,(∀p∈oc6++(fz'++kp2),p∈oc'++(fz'++kp'))∧Sub fz fz'∧Sit c F ⟨loc,own'⟩ m oc6 fz' kp2 s':=by
  have hsub:Sub fz fz':=by have:=x'.fb;rw [C.base] at this;exact this
  obtain ⟨kp2,_,h2,x5⟩:=Sit.leave (F:=F) (m:=m) (loc:=loc) C.kept rfl hab hNs kr hne x' (hFb.trans hsub) (lc.up hsub)
  obtain ⟨oc6,h6,x6⟩:=x5.drop hs
  exact ⟨oc6,kp2,fun p hp=>(List.mem_append.mp hp).elim (fun h=>List.mem_append_left _ (h6.subset h)) fun hp=>List.mem_append_right _ ((List.mem_append.mp hp).elim (List.mem_append_left _) fun h=>List.mem_append_right _ (h2 p h)),hsub,x6⟩
structure FrameFacts (fd:FuncData) (S:Scp) (ps:List Str) (ls:List LS) (cs:List (Option Nat)):Prop where
  ls:lsOk S.nm ps S.vars (cellNs S.nm) ls S.vars=true
  cs:csOk ps cs (cellNs S.nm)=true
  nd:(S.nm.map (·.1)).Nodup
  psn:ps.Nodup
  vars:S.vars.Nodup
  kinds:∀y∈ps,S.nm.lookup y=some .local∨S.nm.lookup y=some .cell
theorem FnAt.facts {f:Addr} {fd:FuncData} {body:List Stmt} {ps:List Str} {ls:List LS} {cs:List (Option Nat)} {bs:List MS} (D:FnAt c f fd body S ps ls cs bs):FrameFacts fd S ps ls cs:=by
  have h:=D.fr
  unfold frameOk at h
  simp only [Bool.and_eq_true,decide_eq_true_eq] at h
  obtain ⟨⟨⟨⟨⟨f1,f2⟩,f3⟩,f4⟩,f5⟩,f6⟩:=h
  exact ⟨f1,f2,f3,f4,f5,fun y hy=>by simpa using List.all_eq_true.mp f6 _ hy⟩
theorem cell_lookup {names:List (Str×NameKind)} (hn:(names.map (·.1)).Nodup) {L k:Nat} {y:Str} {a:Addr} (h1:(cellNs names)[k]?=some y) (h2:(List.range' (L+1) (cellNs names).length)[k]?=some a):(cellsFrom (L+1) names []).lookup y=some a:=by
  rw [cellsFrom_eq,List.append_nil]
  exact zip_lookup (cellNs_nodup hn) h1 h2
theorem cell_ex {names:List (Str×NameKind)} (hn:(names.map (·.1)).Nodup) {y:Str} (L:Nat) (hy:names.lookup y=some .cell):∃a,(cellsFrom (L+1) names []).lookup y=some a:=by
  have hm:y∈cellNs names:=by
    unfold cellNs
    exact List.mem_filterMap.mpr ⟨(y,.cell),PySem.mem_of_lookup hy,by simp⟩
  obtain ⟨k,hk,e⟩:=List.getElem_of_mem hm
  exact ⟨L+1+k,cell_lookup hn (k:=k) (by rw [List.getElem?_eq_getElem hk,e]) (by simp [hk])⟩
structure EnvF (fd:FuncData) (L:Addr) (e:Env):Prop where
  cells:e.cells=cellsFrom (L+1) fd.scope.names []
  loc:e.locals=L
  scope:e.scope=fd.scope
  frame:e.frame=some L
  glob:e.globals=fd.globals
  blt:e.builtins=fd.builtins
theorem env_f {fd:FuncData} {L:Addr} {q:Str} {f:Option Addr} {e:Env} (h:e=newEnv fd.scope L fd.globals (cellsFrom (L+1) fd.scope.names []) q f fd.code none fd.builtins):EnvF fd L e:=by
  subst h
  exact ⟨rfl,rfl,rfl,rfl,rfl,rfl⟩
variable {f:Addr} {fd:FuncData} {body:List Stmt} {ps:List Str} {ls:List LS} {cs:List (Option Nat)} {bs:List MS} {ys:List V} {own:Own} {ws:List Value}
theorem FnAt.binds (D:FnAt c f fd body S ps ls cs bs) (ws:List Value) (L:Addr):∀x∈ps.zip ws,fd.scope.names.lookup x.1=some .local∨(fd.scope.names.lookup x.1=some .cell∧((cellsFrom (L+1) fd.scope.names []).lookup x.1).isSome=true):=fun p hp=>by
  rw [D.nm]
  exact (D.facts.kinds _ (List.of_mem_zip hp).1).imp id fun hc=>⟨hc,by obtain ⟨a,e⟩:=cell_ex D.facts.nd L hc;rw [e];rfl⟩
theorem Sit.called {s1:Shared} {L:Addr} {m' cm:Str→Option Value} {k:List (Str×Addr)} (x:Sit c F st m oc fz kp s) (xc:InCallC s L m' k cm s1):Sit c F st m oc fz kp s1:=by
  obtain ⟨h,tk,rfl,_⟩:=xc.done
  exact x.keeps tk xc.toInCall.keep
theorem body_in (hT:T.Ok c) (D:FnAt c f fd body S ps ls cs bs) {G:Fm} {L:Addr} {s1:Shared} {Q:PQ} {X:PX} (ef:EnvF fd L G.env) (hv:G.vars=S.vars) (hL:s.heap.objs.size=L)
    (xc:InCallC s G.env.locals (bindL G.env.kindOf (ps.zip ws) fun _=>none) G.env.cells (bindC G.env.kindOf (ps.zip ws) fun _=>none) s1) (rw':c.Rs fz ws ys) (hwl:ws.length=ps.length)
    (x2:Sit c G ⟨[],own⟩ (bindL G.env.kindOf (ps.zip ws) fun _=>none) oc fz kp s1) (lt:∀p∈oc++(fz++kp),@LT.lt Nat _ p.1 L) (hgs:@LE.le Nat _ c.g.objs.size L)
    (okG:G.Ok c n) (hh:G.A.handled=none) (tp:∃r,G.frames=G.env::r)
    (h:∀as:List Addr,as.length=cs.length→wpSs c n T bs ⟨ls.map (LS.loc ys as),mkCells ys cs as++own⟩ (EndQ Q) (EndX X)):
    wpAny c.M G.A (execs body G.env) (PostF c G fz (EndQ Q)) (Raised c G (EndX X)) s1:=by
  obtain ⟨f1,f2,f3,f4,f5,f6⟩:=D.facts
  have ko:∀y,G.env.kindOf y=S.nm.lookup y:=fun y=>by show G.env.scope.names.lookup y=_;rw [ef.scope,D.nm]
  generalize has:List.range' (L+1) (cellNs S.nm).length=as
  have hasl:as.length=(cellNs S.nm).length:=by rw [← has,List.length_range']
  have hasn:as.Nodup:=by rw [← has];exact List.nodup_range'
  have hasg:∀a∈as,@LT.lt Nat _ L a:=fun a ha=>by
    rw [← has] at ha
    exact (List.mem_range'_1.mp ha).1
  have hlook:∀(k:Nat) y a,(cellNs S.nm)[k]?=some y→as[k]?=some a→G.env.cells.lookup y=some a:=fun k y a e1 e2=>by rw [ef.cells,D.nm];exact cell_lookup f3 e1 (by rw [has];exact e2)
  clear has
  generalize hm:(bindL G.env.kindOf (ps.zip ws) fun _=>none)=m' at xc x2
  generalize hko:G.env.kindOf=kof at xc ko hm
  obtain ⟨oc1,oc2,oc3⟩:=cells_own (c:=c) (h:=s1.heap) (ko:=kof) f4 rw' hwl (cs:=cs) (cn:=cellNs S.nm) (as:=as) f2 (fun y hy=>by rw [ko];exact lookup_nodup f3 (mem_cellNs hy)) hasl (fun k y a h1 h2=>xc.cell y a (hlook k y a h1 h2))
  rename_i lc
  have hlc:∀p∈lc,@LT.lt Nat _ L p.1:=fun p hp=>hasg p.1 (by rw [← oc2];exact List.mem_map_of_mem hp)
  have hap:∀p∈lc,∀q∈oc++(fz++kp),p.1≠q.1:=fun p hp q hq=>Nat.ne_of_gt (Nat.lt_trans (lt q hq) (hlc p hp))
  have x3:Sit c G ⟨ls.map (LS.loc ys as),mkCells ys cs as++own⟩ m' (lc++oc) fz kp s1:=by
    refine ⟨x2.fr,fun p hp=>?_,?_,fun p hp q hq=>?_,oc1.append x2.ow,?_,x2.kr,x2.fk,x2.re,x2.fb⟩
    · rw [List.append_assoc] at hp
      rcases List.mem_append.mp hp with hp | hp
      · exact ⟨oc3 p hp,by rw [ef.loc];exact Nat.ne_of_gt (hlc p hp),Heap.get?_none_of_le (Nat.le_trans hgs (Nat.le_of_lt (hlc p hp)))⟩
      · exact x2.nw p hp
    · rw [List.map_append,oc2,List.nodup_append]
      refine ⟨hasn,x2.nd,fun a ha b hb=>?_⟩
      obtain ⟨p,hp,rfl⟩:=List.mem_map.mp hb
      rw [← oc2] at ha
      obtain ⟨q,hq,rfl⟩:=List.mem_map.mp ha
      exact hap q hq p (List.mem_append_left _ hp)
    · exact (List.mem_append.mp hp).elim (fun hp=>hap p hp q (List.mem_append_right _ hq)) fun hp=>x2.ap p hp q hq
    · intro i v hv'
      rw [hv]
      exact locs_ok (c:=c) (fz:=fz) (env:=G.env) (names:=S.nm) (ps:=ps) (vs:=ws) (ys:=ys) (m':=m') (cn:=cellNs S.nm) (as:=as) (fun y=>hko▸ko y) rw' hwl (fun j y v e1 e2 e3=>by rw [← hm];exact bindL_get f4 e1 e2 (by rw [ko];exact e3)) hlook S.vars f1 i v hv'
  exact toBody_snd D.ok (⟨⟨okG,⟨hv.symm,by rw [ef.scope,D.nm],D.hgl.gl,D.hgl.bi⟩,hT,fun _=>hh⟩,tp⟩:BaseS c n T G S) (h as (hasl.trans (csOk_len f2).symm)) (.mk x3) (E:=Raised c G (EndX X)) (fun ev s' hr=>hr)
theorem call_in (hT:T.Ok c) (D:FnAt c f fd body S ps ls cs bs) {loc:List (Option V)} {s1:Shared} {env':Env} {Q:PQ} {X:PX} (ok:F.Ok c (n+1)) (hh:F.A.handled=none) (x:Sit c F ⟨loc,own⟩ m oc fz kp s) (hE:ExcTo c F (fun e st=>st.loc=loc∧X e st.own) E)
    (hwl:ws.length=ps.length) (rw':c.Rs fz ws ys) (ef:EnvF fd s.heap.objs.size env')
    (xc:InCallC s env'.locals (bindL env'.kindOf (ps.zip ws) fun _=>none) env'.cells (bindC env'.kindOf (ps.zip ws) fun _=>none) s1)
    (h:∀as:List Addr,as.length=cs.length→wpSs c n T bs ⟨ls.map (LS.loc ys as),mkCells ys cs as++own⟩ (EndQ Q) (EndX X)):codeAny c.M F.A (.func body env') (CodeP c F loc fz Q E) s1:=by
  have lt:∀p∈oc++(fz++kp),@LT.lt Nat _ p.1 s.heap.objs.size:=x.size
  have hLlt:@LT.lt Nat _ F.env.locals s.heap.objs.size:=x.fr.ns.lt
  have hab:=x.fr.above
  have x1:=x.called xc
  have hfb:=x.fb
  have hns:=xc.toInCall.ns
  have hne:=fun p hp=>(x.nw p (List.mem_append_right _ (List.mem_append_right _ hp))).2.1
  have hkr:=x.kr
  have hlc:=x.lc
  clear x
  obtain ⟨L,hsz⟩:∃L,s.heap.objs.size=L:=⟨_,rfl⟩
  rw [hsz] at lt hLlt ef
  obtain ⟨oL,es,ep,hL1,hL2,hL3⟩:=x1.fr.ns
  have hNs:LCg.NsObj oL m:=⟨es,ep,hL2,hL3⟩
  obtain ⟨G,gE,C⟩:∃G:Fm,G.env=env'∧Callee c F G fd L S.vars oL kp fz:=⟨{ env:=env',frames:=env'::F.frames,A:=F.A.deeper env',kept:=(F.env.locals,oL)::kp,vars:=S.vars,base:=fz },rfl,⟨rfl,rfl,rfl,rfl,rfl,ef.loc,ef.scope,ef.frame,ef.cells,ef.glob.trans D.glob,ef.blt.trans D.blt⟩⟩
  subst gE
  have x2:=x1.enter (G:=G) C.loc (ef.loc▸hns) (Nat.le_trans hab (Nat.le_of_lt hLlt)) (fun p hp=>Nat.ne_of_lt (lt p hp)) (Nat.ne_of_gt hLlt) hL1 C.kept (by rw [C.base];exact fun _ h=>h) (loc':=[]) (fun i v h=>by simp at h)
  have okG:G.Ok c n:=callee_ok ok C D.kind D.facts.vars ⟨es,ep,hL2⟩ hkr fun y hy=>by rw [D.nm] at hy ⊢;exact cell_ex D.facts.nd _ hy
  have key:=body_in hT D ef C.vars hsz xc rw' hwl x2 (fun p hp=>by
    rcases List.mem_append.mp hp with hp | hp
    · exact lt p (List.mem_append_left _ hp)
    · rcases List.mem_append.mp hp with hp | hp
      · exact lt p (List.mem_append_right _ (List.mem_append_left _ hp))
      · rcases List.mem_cons.mp hp with rfl | hp
        · exact hLlt
        · exact lt p (List.mem_append_right _ (List.mem_append_right _ hp))) (Nat.le_trans hab (Nat.le_of_lt hLlt)) okG (by rw [C.A];exact hh) ⟨F.frames,C.frames⟩ h
  rw [C.A] at key
  refine codeAny_func (wpAny_mono key (fun fl s' q=>?_) fun ev s' q=>?_)
  · obtain ⟨x',sub,rf,hq⟩:=q
    obtain ⟨l,own',x',hsl,hq⟩:=hq.go x'
    obtain ⟨x'⟩:=x'
    obtain ⟨oc6,kp2,_,_,x6⟩:=callee_back C (loc:=loc) hab hNs hkr hne hfb hlc x' hsl
    cases rf with
    | ret r=>exact .ret (.mk (.mk x6) sub r ⟨rfl,hq⟩)
    | _=>exact .ret (.mk (.mk x6) sub .non ⟨rfl,hq⟩)
  · refine leaving_snd okG (A:=F.A.deeper G.env) (by rw [← C.A];exact okG.frames) (r:=F.frames) C.frames q fun s'' hl=>?_
    cases hl with | @mk e C2 ats st' m' oc' fz' kp' hev x' hg hheld hX=>
    obtain ⟨hsl,hg',hX'⟩:=hX
    obtain ⟨oc6,kp2,hin,_,x6⟩:=callee_back C (loc:=loc) hab hNs hkr hne hfb hlc x' hsl
    exact .exc (hE _ _ (.mk hev x6 hg' ((hheld.free (L:=F.env.frame)).sub hin) ⟨rfl,hX'⟩))
theorem call_snd (hT:T.Ok c) (D:FnAt c f fd body S ps ls cs bs) (hcalls:S.calls=true) {xs:List V} {Q:PQ} {X:PX}
    (hbind:∀(s:Shared) fz vs,c.K.In s.heap→c.Rs fz vs xs→∃ws,BindsTo s fd ⟨vs,[]⟩ (ps.zip ws)∧ws.length=ps.length∧c.Rs fz ws ys)
    (h:∀as:List Addr,as.length=cs.length→wpSs c n T bs ⟨ls.map (LS.loc ys as),mkCells ys cs as++own⟩ (EndQ Q) (EndX X)):SemCode c (n+1) (.ref f) xs own Q X:=by
  intro F loc fz vs s E ok hh x r hE
  obtain ⟨x⟩:=x
  obtain ⟨o,ho,hd⟩:=D.o
  have hK:=c.X.keeps x.fr.keep
  obtain ⟨ws,hb,hwl,rw'⟩:=hbind s fz vs hK r
  refine codeAny_call_function (by have:=ok.depth;omega) (hK _ _ ho) hd D.co D.gen D.hbody (codeRec_of hK D.code) (hb _ _ _ _ ?_)
  rw [D.clo]
  exact wpAny_newFunctionEnv_cells D.kind (D.binds ws _) fun env' he s' xc=>⟨(c.T.nolimit.keeps x.fr.keep).keeps xc.toInCall.keep,call_in hT D ok hh x hE hwl rw' (env_f he) xc h⟩
end
section
variable {c:Cx} {n:Nat} {T:Tab} {F:Fm} {S:Scp} {fz:List (Addr×Obj)} {st:St} {m:Str→Option Value} {oc kp:List (Addr×Obj)} {s:Shared} {E:PE} {A:Around}
theorem Fm.Ok.under {C:Addr} {vs:List Value} (ok:F.Ok c (n+1)):Fm.Ok c n { F with A:=F.A.under (.builtin "type.__call__" ⟨.ref C::vs,[]⟩) }:=by
  obtain ⟨a1,a2,a3,a4,a5,a6,a7,a8,a9,a10⟩:=ok
  refine ⟨a1,a2,a3,?_,a5,a6,a7,a8,?_,?_⟩
  · show pushEnvs (Code.builtin "type.__call__" ⟨.ref C::vs,[]⟩).envs F.A.frames=some F.frames
    rw [a4];rfl
  · show F.A.depth+1+4 * n < recursionLimit
    omega
  · show F.A.units+1+16 * n+200 < cLine
    omega
theorem Sit.under {A':Around} (x:Sit c F st m oc fz kp s):Sit c { F with A:=A' } st m oc fz kp s:=
  ⟨x.fr,x.nw,x.nd,x.ap,x.ow,x.lc,x.kr,x.fk,x.re,x.fb⟩
theorem Sit.over {A':Around} (x:Sit c { F with A:=A' } st m oc fz kp s):Sit c F st m oc fz kp s:=
  ⟨x.fr,x.nw,x.nd,x.ap,x.ow,x.lc,x.kr,x.fk,x.re,x.fb⟩
theorem Now.over {A':Around} (x:Now c { F with A:=A' } st fz s):Now c F st fz s:=match x with | .mk x=>.mk x.over
theorem Raised.over {A':Around} {X:XT} {ev:Value} {s':Shared} (h:Raised c { F with A:=A' } X ev s'):Raised c F X ev s':=match h with | .mk h1 x h2 h3 h4=>.mk h1 x.over h2 h3 h4
theorem PostV.over {A':Around} {Q:QV} {v:Value} {s':Shared} (h:PostV c { F with A:=A' } fz Q v s'):PostV c F fz Q v s':=match h with | .mk x h1 h2 h3=>.mk x.over h1 h2 h3
inductive Made (x:Addr) (Q:PQ):PQ
  | mk {own':Own}:Q (.own x) own'→Made x Q .non own'
theorem PostV.made {a:Addr} {v:Value} {s':Shared} {loc:List (Option V)} {Q:PQ} (h:PostV c F fz (fun r st=>st.loc=loc∧Made a Q r st.own) v s'):v=.none∧PostV c F fz (fun r st=>st.loc=loc∧Q r st.own) (.ref a) s':=by
  obtain ⟨x,sub,r,e,q⟩:=h
  rename_i y st' fz'
  obtain ⟨l,w⟩:=st'
  cases q with
  | mk q=>exact ⟨by cases r;rfl,.mk x sub (.own a) ⟨e,q⟩⟩
theorem Sit.newOwn (x:Sit c F st m oc fz kp s) {h':Heap} {a:Addr} {y:OO} {l:List (Addr×Obj)} (hk:∀b o,s.heap.get? b=some o→h'.get? b=some o) (hn:∀p∈l,s.heap.get? p.1=none∧h'.get? p.1=some p.2) (hl:(l.map (·.1)).Nodup) (hy:OR c fz a y l):
    Sit c F ⟨st.loc,(a,y)::st.own⟩ m (l++oc) fz kp { s with heap:=h' }:=by
  have x1:=x.keeps s.toks hk
  have old:∀p∈oc++(fz++kp),∀q∈l,q.1≠p.1:=fun p hp q hq e=>by
    have:=(x.nw p hp).1
    rw [← e,(hn q hq).1] at this;cases this
  refine ⟨x1.fr,fun p hp=>?_,?_,fun p hp q hq=>?_,.cons hy x1.ow,x1.lc,x1.kr,x1.fk,x1.re,x1.fb⟩
  · rw [List.append_assoc] at hp
    rcases List.mem_append.mp hp with hp | hp
    · obtain ⟨q1,q2⟩:=hn p hp
      refine ⟨q2,fun e=>?_,?_⟩
      · obtain ⟨o,es,ep,ho,_⟩:=x.fr.ns
        rw [← e,q1] at ho;cases ho
      · cases q:c.g.get? p.1 with
        | none=>rfl
        | some o=>have:=x.fr.keep _ _ q;rw [q1] at this;cases this
    · exact x1.nw p hp
  · rw [List.map_append,List.nodup_append]
    refine ⟨hl,x.nd,fun a ha b hb e=>?_⟩
    obtain ⟨p,hp,rfl⟩:=List.mem_map.mp ha
    obtain ⟨q,hq,rfl⟩:=List.mem_map.mp hb
    exact old q (List.mem_append_left _ hq) p hp e
  · rcases List.mem_append.mp hp with hp | hp
    · exact old q (List.mem_append_right _ hq) p hp
    · exact x1.ap p hp q hq
theorem make_snd {C fI:Addr} (hm:makesIn c.K C=true) (hi:findIn c.K (.ref C) "__init__"=some (some (.ref fI))) (hf:typeIn c.K (.ref fI)=some (.type "function")) {xs:List V} {own:Own} {Q:PQ} {X:PX}
    (h:∀x,SemCode c n (.ref fI) (.own x::xs) ((x,.inst C [])::own) (Made x Q) X):SemCode c (n+1) (.ref C) xs own Q X:=by
  intro F loc fz vs s E ok hh x r hE
  cases x with | @mk m oc kp x=>
  have hK:=c.X.keeps x.fr.keep
  refine make_K x.fr x.nw hK hm hi hf fun a dx h' F' N' hlt hax=>?_
  have dn:∀p∈oc++(fz++kp),p.1≠a∧p.1≠dx:=fun p hp=>⟨Nat.ne_of_lt (Nat.lt_trans (hlt p hp) hax),Nat.ne_of_lt (hlt p hp)⟩
  have hd:OR c fz a (.inst C []) [(a,instObj C dx),(dx,emptyDict)]:=.inst (es:=[]) (n:=0) .nil
  have x':Sit c F ⟨loc,(a,.inst C [])::own⟩ m ((a,instObj C dx)::(dx,emptyDict)::oc) fz kp { s with heap:=h' }:=by
    refine x.with (st':=⟨loc,(a,.inst C [])::own⟩) (t:=s.toks) F' N' ?_ (fun p hp q hq=>?_) (OwnR.cons hd x.ow) x.lc x.kr x.fk .refl
    · rw [List.map_cons,List.map_cons,List.nodup_cons,List.nodup_cons]
      refine ⟨fun e=>?_,fun e=>?_,x.nd⟩
      · rcases List.mem_cons.mp e with e | e
        · exact Nat.ne_of_gt hax e
        · obtain ⟨p,hp,e⟩:=List.mem_map.mp e
          exact (dn p (List.mem_append_left _ hp)).1 e
      · obtain ⟨p,hp,e⟩:=List.mem_map.mp e
        exact (dn p (List.mem_append_left _ hp)).2 e
    · rcases List.mem_cons.mp hp with rfl | hp
      · exact Ne.symm (dn q (List.mem_append_right _ hq)).1
      · rcases List.mem_cons.mp hp with rfl | hp
        · exact Ne.symm (dn q (List.mem_append_right _ hq)).2
        · exact x.ap p hp q hq
  refine codeAny_mono (h a _ loc fz (.ref a::vs) _ E (ok.under (C:=C) (vs:=vs)) hh (.mk x'.under) (.cons (.own a) r) fun ev s' hr=>hE ev s' hr.over) fun rr s' z=>?_
  cases z with
  | exc z=>exact .exc z
  | ret z=>
    obtain ⟨e,z⟩:=z.over.made
    exact ⟨e,.ret z⟩
theorem makeExc_snd {nm q:Str} {C N:Addr} {bs:List Value} {hdct:Bool} {sn:List Str} {sub:List Value} {ab:Bool} {col:Option Bool} {dd:Option Addr} {k0 k1 k2 k3 k5:Option Value}
    (hC:c.K.lookup C=some (excClassObj nm q C N bs [.type "Exception",.type "BaseException",.type "object"] hdct sn sub ab col dd k0 k1 k2 k3 k5 "Exception.__new__")) {fI:Addr} {oI:Obj} (hN:∀h,c.K.In h→∃mN,h.Ns N mN∧mN "__init__"=some (.ref fI)) (hfI:c.K.lookup fI=some oI) (hfc:oI.cls=.type "function")
    {xs:List V} {own:Own} {Q:PQ} {X:PX} (hl:xs.length≤1000)
    (h:∀x,SemCall c n (.ref fI) (.own x::xs) ((x,.exc true C [])::own) (Made x Q) X):SemCall c (n+1) (.ref C) xs own Q X:=by
  refine ⟨?_⟩
  intro F loc fz vs s E ok hh x r hE
  cases x with | @mk m oc kp x=>
  have hK:=c.X.keeps x.fr.keep
  obtain ⟨mN,hNs,hmi⟩:=hN _ hK
  have hvl:vs.length≤sizeLine:=by rw [r.length];unfold sizeLine;omega
  obtain ⟨hp,g,d,t,os⟩:=s
  refine wpAny_call_exc_init PySem.F.excBase_Exception (hK _ _ hC) hNs hmi (hK _ _ hfI) hfc (fun h' a hM=>?_) hvl
  obtain ⟨hk,hnew,tt,ht,htn,_⟩:=hM
  have x':=x.newOwn (h':=h') (a:=a) (y:=.exc true C []) hk (l:=[(a,_)]) (fun p hp=>by rw [List.mem_singleton.mp hp];exact ⟨hnew,ht⟩) (by simp) (.exc0 (sl:=#[]) (by simp) fun zz=>⟨rfl,tt,rfl⟩)
  exact wpAny_mono ((h a).go _ loc fz (.ref a::vs) _ E (ok.under (C:=C) (vs:=vs)) hh (.mk x'.under) (.cons (.own a) r) fun ev s' hr=>hE ev s' hr.over) (fun v s' z=>z.over.made) fun zz zz z=>z
end
section
variable {c:Cx} {n:Nat} {T:Tab} {S:Scp} {s:Shared}
inductive TopQ (c:Cx) (Q:V→Prop) (s:Shared):Result→Shared→Prop
  | mk {v:Value} {y:V} {fz:List (Addr×Obj)} {s':Shared}:c.R fz v y→Q y→(∀b o,s.heap.get? b=some o→s'.heap.get? b=some o)→s'={ s with heap:=s'.heap,toks:=s'.toks }→TopQ c Q s (.ok (.ret v)) s'
theorem top_snd (hT:T.Ok c) {f:Addr} {fd:FuncData} {body:List Stmt} {ps:List Str} {ls:List LS} {cs:List (Option Nat)} {bs:List MS} (D:FnAt c f fd body S ps ls cs bs) (hcalls:S.calls=true) (hn:n≤150) (hs0:c.s0=s) (hg:c.g=s.heap) {vs:List Value} {ys:List V} {Q:V→Prop}
    (hb:BindsTo s fd ⟨vs,[]⟩ (ps.zip vs)) (hwl:vs.length=ps.length) (rw':c.Rs [] vs ys)
    (h:∀as:List Addr,as.length=cs.length→wpSs c n T bs ⟨ls.map (LS.loc ys as),mkCells ys cs as++[]⟩ (EndQ fun y zz=>Q y) (EndX fun zz zz=>False)):codeAny c.M callerA (.call (.ref f) ⟨vs,[]⟩) (TopQ c Q s) s:=by
  obtain ⟨o,ho,hd⟩:=D.o
  have hK:c.K.In s.heap:=hg▸c.X
  refine codeAny_call_function (by decide) (hK _ _ ho) hd D.co D.gen D.hbody (codeRec_of hK D.code) (hb _ _ _ _ ?_)
  rw [D.clo]
  refine wpAny_newFunctionEnv_cells D.kind (D.binds vs _) fun env' he s' xc=>⟨Heap.NoLimit.keeps (hg▸c.T.nolimit) xc.toInCall.keep,?_⟩
  have ef:=env_f he
  clear he
  have hk₁:=xc.toInCall.keep
  have hre:s'={ c.s0 with heap:=s'.heap,toks:=s'.toks }:=by
    obtain ⟨h₁,tk,rfl,_⟩:=xc.done
    rw [hs0]
  have hns:=xc.toInCall.ns
  have hgs:c.g.objs.size=s.heap.objs.size:=by rw [hg]
  obtain ⟨G,gE,gA,gF,gK,gV,gB⟩:∃G:Fm,G.env=env'∧G.A=callerA.deeper env'∧G.frames=[env']∧G.kept=[]∧G.vars=S.vars∧G.base=[]:=⟨{ env:=env',frames:=[env'],A:=callerA.deeper env',kept:=[],vars:=S.vars,base:=[] },rfl,rfl,rfl,rfl,rfl,rfl⟩
  subst gE
  have x2:Sit c G ⟨[],[]⟩ (bindL G.env.kindOf (ps.zip vs) fun _=>none) [] [] [] s':=
    ⟨⟨hns,fun b o e=>hk₁ b o (hg▸e),by rw [ef.loc,hgs];exact Nat.le_refl _⟩,(fun p hp=>nomatch hp),.nil,(fun p hp=>nomatch hp),.nil,(fun i v h=>by simp at h),by rw [gK];exact .nil,(fun p hp=>nomatch hp),hre,by rw [gB];exact fun p hp=>nomatch hp⟩
  have okG:G.Ok c n:=by
    refine ⟨by rw [ef.scope];exact D.kind,ef.glob.trans D.glob,ef.blt.trans D.blt,by rw [gA,gF];rfl,fun e he=>?_,⟨_,ef.frame,G.env,[],gF,ef.frame⟩,by rw [gV];exact D.facts.vars,fun y hy=>?_,?_,?_⟩
    · rw [gF] at he
      rw [List.mem_singleton.mp he]
      exact ⟨by rw [ef.scope,D.kind];decide,_,ef.frame,.inl ef.loc.symm⟩
    · have:G.env.scope.names.lookup y=some .cell:=hy
      rw [ef.scope,D.nm] at this
      rw [ef.cells,D.nm];exact cell_ex D.facts.nd _ this
    · rw [gA]
      show 1+claimMargin+1+4 * n < recursionLimit
      unfold claimMargin recursionLimit;omega
    · rw [gA]
      show 4+3+16 * n+200 < cLine
      unfold cLine;omega
  have key:=body_in hT D ef gV rfl xc rw' hwl x2 (fun p hp=>nomatch hp) (Nat.le_of_eq hgs) okG (by rw [gA];rfl) ⟨[],gF⟩ h
  rw [gA] at key
  refine codeAny_func (wpAny_mono key (fun fl s' q=>?_) fun ev s' q=>?_)
  · obtain ⟨x',sub,rf,hq⟩:=q
    obtain ⟨l,own',x',hsl,hq⟩:=hq.go x'
    obtain ⟨x'⟩:=x'
    have hre:=x'.re
    rw [hs0] at hre
    have hkp:∀b o,s.heap.get? b=some o→s'.heap.get? b=some o:=fun b o e=>x'.fr.keep b o (hg▸e)
    cases rf with
    | ret r=>exact .mk r hq hkp hre
    | _=>exact .mk (fz:=[]) .non hq hkp hre
  · cases q with | @mk e C2 ats st' m' oc' fz' kp' hev x' hg hheld hX=>
    cases hX with
    | mk _ _ h=>exact h.elim
end
noncomputable def Raised_ini_ms:List MS:=[.expr (.meth (.glob (.type "Exception")) .einit [(.loc 0),(.loc 2)]),.seta (.loc 0) [99,111,100,101] (.loc 1),.seta (.loc 0) [118,97,108,117,101] (.loc 2),.seta (.loc 0) [101,114,114,111,114,99,111,100,101] (.loc 3),.seta (.loc 0) [108,101,118,101,108] (.loc 4),.seta (.loc 0) [114,101,116] (.loc 5),.seta (.loc 0) [105,110,102,111] (.str []),.seta (.loc 0) [105,115,95,110,111,116,101,100] (.bool false),.seta (.loc 0) [108,105,110,101] (.int 0),.seta (.loc 0) [101,120,116,114,97] (.lst [])]
noncomputable def error_ms:List MS:=[.ret (.call (.glob (.ref 84)) [(.int 1),(.loc 0),(.loc 1)])]
noncomputable def wrong_args_ms:List MS:=[.ret (.call (.glob (.ref 139)) [(.bin .Add (.bin .Add (.str [119,114,111,110,103,32,35,32,97,114,103,115,58,32,115,104,111,117,108,100,32,98,101,32,34]) (.loc 0)) (.str [34])),(.tup [(.str [84,67,76]),(.str [87,82,79,78,71,65,82,71,83])])])]
noncomputable def is_blank_ms:List MS:=[.ret (.cmp .In (.loc 0) (.tup [(.str [32]),(.str [9]),(.str [10]),(.str [11]),(.str [12]),(.str [13])]))]
noncomputable def digit_ms:List MS:=[.ite (.cmp .NotEq (.bcall .len [(.loc 0)]) (.int 1)) [.ret (.neg (.int 1))] [],.set (.loc 1) (.bcall .ord [(.loc 0)]),.ite (.cmp2 .LtE .LtE (.int 48) (.loc 1) (.int 57)) [.ret (.bin .Sub (.loc 1) (.int 48))] [],.ite (.cmp2 .LtE .LtE (.int 97) (.loc 1) (.int 122)) [.ret (.bin .Sub (.loc 1) (.int 87))] [],.ite (.cmp2 .LtE .LtE (.int 65) (.loc 1) (.int 90)) [.ret (.bin .Sub (.loc 1) (.int 55))] [],.ret (.neg (.int 1))]
noncomputable def digits_value_b0:List MS:=[.set (.loc 4) (.call (.glob (.ref 188)) [(.loc 3)]),.ite (.or [(.cmp .Lt (.loc 4) (.int 0)),(.cmp .GtE (.loc 4) (.loc 1))]) [.ret .non] [],.set (.loc 2) (.bin .Add (.bin .Mult (.loc 2) (.loc 1)) (.loc 4))]
noncomputable def digits_value_ms:List MS:=[.ite (.cmp .Eq (.loc 0) (.str [])) [.ret .non] [],.set (.loc 2) (.int 0),.for 3 (.loc 0) digits_value_b0,.ret (.loc 2)]
noncomputable def base_of_ms:List MS:=[.ite (.cmp .In (.loc 0) (.tup [(.str [120]),(.str [88])])) [.ret (.int 16)] [],.ite (.cmp .In (.loc 0) (.tup [(.str [111]),(.str [79])])) [.ret (.int 8)] [],.ite (.cmp .In (.loc 0) (.tup [(.str [98]),(.str [66])])) [.ret (.int 2)] [],.ite (.cmp .In (.loc 0) (.tup [(.str [100]),(.str [68])])) [.ret (.int 10)] [],.ret (.int 0)]
noncomputable def whole_of_b0:List MS:=[.aug .Add 1 (.int 1)]
noncomputable def whole_of_b1:List MS:=[.aug .Sub 2 (.int 1)]
noncomputable def whole_of_ms:List MS:=[.sets true [(.loc 1),(.loc 2)] (.tup [(.int 0),(.bcall .len [(.loc 0)])]),.while (.and [(.cmp .Lt (.loc 1) (.loc 2)),(.call (.glob (.ref 181)) [(.idx (.loc 0) (.loc 1))])]) whole_of_b0,.while (.and [(.cmp .Lt (.loc 1) (.loc 2)),(.call (.glob (.ref 181)) [(.idx (.loc 0) (.bin .Sub (.loc 2) (.int 1)))])]) whole_of_b1,.set (.loc 3) (.bool false),.ite (.and [(.cmp .Lt (.loc 1) (.loc 2)),(.cmp .In (.idx (.loc 0) (.loc 1)) (.tup [(.str [43]),(.str [45])]))]) [.set (.loc 3) (.cmp .Eq (.idx (.loc 0) (.loc 1)) (.str [45])),.aug .Add 1 (.int 1)] [],.set (.loc 4) (.int 0),.ite (.and [(.cmp .Gt (.bin .Sub (.loc 2) (.loc 1)) (.int 2)),(.cmp .Eq (.idx (.loc 0) (.loc 1)) (.str [48]))]) [.set (.loc 4) (.call (.glob (.ref 202)) [(.idx (.loc 0) (.bin .Add (.loc 1) (.int 1)))])] [],.ite (.cmp .Gt (.loc 4) (.int 0)) [.set (.loc 5) (.call (.glob (.ref 195)) [(.slc (.loc 0) (.bin .Add (.loc 1) (.int 2)) (.loc 2)),(.loc 4)])] [.set (.loc 5) (.call (.glob (.ref 195)) [(.slc (.loc 0) (.loc 1) (.loc 2)),(.int 10)])],.ite (.cmp .Is (.loc 5) .non) [.ret .non] [],.ret (.ite (.loc 3) (.neg (.loc 5)) (.loc 5))]
noncomputable def moved_ms:List MS:=[.set (.loc 2) (.call (.glob (.ref 195)) [(.slc (.loc 1) (.int 1) .non),(.int 10)]),.ite (.cmp .Is (.loc 2) .non) [.ret .non] [],.ite (.cmp .Eq (.idx (.loc 1) (.int 0)) (.str [43])) [.ret (.bin .Add (.loc 0) (.loc 2))] [],.ite (.cmp .Eq (.idx (.loc 1) (.int 0)) (.str [45])) [.ret (.bin .Sub (.loc 0) (.loc 2))] [],.ret .non]
noncomputable def index_of_b0:List MS:=[.aug .Add 3 (.int 1)]
noncomputable def index_of_ms:List MS:=[.set (.loc 2) (.call (.glob (.ref 209)) [(.loc 0)]),.ite (.cmp .IsNot (.loc 2) .non) [.ret (.loc 2)] [],.ite (.meth (.loc 0) .starts [(.str [101,110,100])]) [.set (.loc 2) (.ite (.cmp .Eq (.loc 0) (.str [101,110,100])) (.loc 1) (.call (.glob (.ref 216)) [(.loc 1),(.slc (.loc 0) (.int 3) .non)]))] [.set (.loc 3) (.int 1),.while (.and [(.cmp .Lt (.loc 3) (.bcall .len [(.loc 0)])),(.or [(.cmp .NotIn (.idx (.loc 0) (.loc 3)) (.tup [(.str [43]),(.str [45])])),(.call (.glob (.ref 181)) [(.idx (.loc 0) (.bin .Sub (.loc 3) (.int 1)))])])]) index_of_b0,.set (.loc 4) (.call (.glob (.ref 209)) [(.slc (.loc 0) .non (.loc 3))]),.ite (.cmp .IsNot (.loc 4) .non) [.set (.loc 2) (.call (.glob (.ref 216)) [(.loc 4),(.slc (.loc 0) (.loc 3) .non)])] []],.ite (.cmp .Is (.loc 2) .non) [.raise (.call (.glob (.ref 139)) [(.bin .Add (.bin .Add (.str [98,97,100,32,105,110,100,101,120,32,34]) (.loc 0)) (.str [34,58,32,109,117,115,116,32,98,101,32,105,110,116,101,103,101,114,63,91,43,45,93,105,110,116,101,103,101,114,63,32,111,114,32,101,110,100,63,91,43,45,93,105,110,116,101,103,101,114,63])),(.tup [(.str [84,67,76]),(.str [86,65,76,85,69]),(.str [73,78,68,69,88])])])] [],.ret (.loc 2)]
noncomputable def backslash_b0:List MS:=[.aug .Add 4 (.int 1)]
noncomputable def backslash_ms:List MS:=[.set (.loc 2) (.slc (.loc 0) (.bin .Add (.loc 1) (.int 1)) (.bin .Add (.loc 1) (.int 2))),.ite (.cmp .Eq (.loc 2) (.str [])) [.ret (.tup [(.str [92]),(.bin .Add (.loc 1) (.int 1))])] [],.set (.loc 3) (.meth (.str [97,98,102,110,114,116,118]) .find [(.loc 2)]),.ite (.cmp .GtE (.loc 3) (.int 0)) [.ret (.tup [(.idx (.str [7,8,12,10,13,9,11]) (.loc 3)),(.bin .Add (.loc 1) (.int 2))])] [],.ite (.cmp .Eq (.loc 2) (.str [10])) [.set (.loc 4) (.bin .Add (.loc 1) (.int 2)),.while (.cmp .In (.slc (.loc 0) (.loc 4) (.bin .Add (.loc 4) (.int 1))) (.tup [(.str [32]),(.str [9])])) backslash_b0,.ret (.tup [(.str [32]),(.loc 4)])] [],.ite (.cmp .In (.loc 2) (.tup [(.str [120]),(.str [117]),(.str [85])])) [.ret (.call (.glob (.ref 230)) [(.loc 0),(.bin .Add (.loc 1) (.int 1))])] [],.ite (.cmp .In (.loc 2) (.tup [(.str [48]),(.str [49]),(.str [50]),(.str [51]),(.str [52]),(.str [53]),(.str [54]),(.str [55])])) [.ret (.call (.glob (.ref 237)) [(.loc 0),(.bin .Add (.loc 1) (.int 1))])] [],.ret (.tup [(.loc 2),(.bin .Add (.loc 1) (.int 2))])]
noncomputable def check_behind_b0:List MS:=[.aug .Add 3 (.int 1)]
noncomputable def check_behind_ms:List MS:=[.ite (.or [(.cmp .GtE (.loc 1) (.bcall .len [(.loc 0)])),(.call (.glob (.ref 181)) [(.idx (.loc 0) (.loc 1))])]) [.retn] [],.set (.loc 3) (.loc 1),.while (.and [(.cmp .Lt (.loc 3) (.bcall .len [(.loc 0)])),(.cmp .Lt (.loc 3) (.bin .Add (.loc 1) (.int 20))),(.not (.call (.glob (.ref 181)) [(.idx (.loc 0) (.loc 3))]))]) check_behind_b0,.raise (.call (.glob (.ref 139)) [(.bin .Add (.bin .Add (.bin .Add (.bin .Add (.str [108,105,115,116,32,101,108,101,109,101,110,116,32,105,110,32]) (.loc 2)) (.str [32,102,111,108,108,111,119,101,100,32,98,121,32,34])) (.slc (.loc 0) (.loc 1) (.loc 3))) (.str [34,32,105,110,115,116,101,97,100,32,111,102,32,115,112,97,99,101])),(.tup [(.str [84,67,76]),(.str [86,65,76,85,69]),(.str [76,73,83,84]),(.str [74,85,78,75])])])]
noncomputable def braced_element_b0:List MS:=[.set (.loc 4) (.idx (.loc 0) (.loc 3)),.ite (.cmp .Eq (.loc 4) (.str [92])) [.aug .Add 3 (.int 1)] [.ite (.cmp .Eq (.loc 4) (.str [123])) [.aug .Add 2 (.int 1)] [.ite (.cmp .Eq (.loc 4) (.str [125])) [.aug .Sub 2 (.int 1),.ite (.cmp .Eq (.loc 2) (.int 0)) [.expr (.call (.glob (.ref 251)) [(.loc 0),(.bin .Add (.loc 3) (.int 1)),(.str [98,114,97,99,101,115])]),.ret (.tup [(.slc (.loc 0) (.loc 1) (.loc 3)),(.bin .Add (.loc 3) (.int 1))])] []] []]],.aug .Add 3 (.int 1)]
noncomputable def braced_element_ms:List MS:=[.sets true [(.loc 2),(.loc 3)] (.tup [(.int 1),(.loc 1)]),.while (.cmp .Lt (.loc 3) (.bcall .len [(.loc 0)])) braced_element_b0,.raise (.call (.glob (.ref 139)) [(.str [117,110,109,97,116,99,104,101,100,32,111,112,101,110,32,98,114,97,99,101,32,105,110,32,108,105,115,116]),(.tup [(.str [84,67,76]),(.str [86,65,76,85,69]),(.str [76,73,83,84]),(.str [66,82,65,67,69])])])]
noncomputable def quoted_element_b0:List MS:=[.set (.loc 3) (.idx (.loc 0) (.loc 1)),.ite (.cmp .Eq (.loc 3) (.str [92])) [.sets false [(.loc 3),(.loc 1)] (.call (.glob (.ref 244)) [(.loc 0),(.loc 1)])] [.ite (.cmp .Eq (.loc 3) (.str [34])) [.expr (.call (.glob (.ref 251)) [(.loc 0),(.bin .Add (.loc 1) (.int 1)),(.str [113,117,111,116,101,115])]),.ret (.tup [(.meth (.str []) .join [(.loc 2)]),(.bin .Add (.loc 1) (.int 1))])] [.aug .Add 1 (.int 1)]],.expr (.meth (.loc 2) .append [(.loc 3)])]
noncomputable def quoted_element_ms:List MS:=[.set (.loc 2) (.ownl []),.while (.cmp .Lt (.loc 1) (.bcall .len [(.loc 0)])) quoted_element_b0,.raise (.call (.glob (.ref 139)) [(.str [117,110,109,97,116,99,104,101,100,32,111,112,101,110,32,113,117,111,116,101,32,105,110,32,108,105,115,116]),(.tup [(.str [84,67,76]),(.str [86,65,76,85,69]),(.str [76,73,83,84]),(.str [81,85,79,84,69])])])]
noncomputable def bare_element_b0:List MS:=[.set (.loc 3) (.idx (.loc 0) (.loc 1)),.ite (.cmp .Eq (.loc 3) (.str [92])) [.sets false [(.loc 3),(.loc 1)] (.call (.glob (.ref 244)) [(.loc 0),(.loc 1)])] [.aug .Add 1 (.int 1)],.expr (.meth (.loc 2) .append [(.loc 3)])]
noncomputable def bare_element_ms:List MS:=[.set (.loc 2) (.ownl []),.while (.and [(.cmp .Lt (.loc 1) (.bcall .len [(.loc 0)])),(.not (.call (.glob (.ref 181)) [(.idx (.loc 0) (.loc 1))]))]) bare_element_b0,.ret (.tup [(.meth (.str []) .join [(.loc 2)]),(.loc 1)])]
noncomputable def find_element_b0:List MS:=[.aug .Add 1 (.int 1)]
noncomputable def find_element_ms:List MS:=[.while (.and [(.cmp .Lt (.loc 1) (.bcall .len [(.loc 0)])),(.call (.glob (.ref 181)) [(.idx (.loc 0) (.loc 1))])]) find_element_b0,.ite (.cmp .GtE (.loc 1) (.bcall .len [(.loc 0)])) [.ret .non] [],.ite (.cmp .Eq (.idx (.loc 0) (.loc 1)) (.str [123])) [.ret (.call (.glob (.ref 258)) [(.loc 0),(.bin .Add (.loc 1) (.int 1))])] [],.ite (.cmp .Eq (.idx (.loc 0) (.loc 1)) (.str [34])) [.ret (.call (.glob (.ref 265)) [(.loc 0),(.bin .Add (.loc 1) (.int 1))])] [],.ret (.call (.glob (.ref 272)) [(.loc 0),(.loc 1)])]
noncomputable def split_list_b0:List MS:=[.expr (.meth (.loc 1) .append [(.idx (.loc 2) (.int 0))]),.set (.loc 2) (.call (.glob (.ref 279)) [(.loc 0),(.idx (.loc 2) (.int 1))])]
noncomputable def split_list_ms:List MS:=[.set (.loc 1) (.ownl []),.set (.loc 2) (.call (.glob (.ref 279)) [(.loc 0),(.int 0)]),.while (.cmp .IsNot (.loc 2) .non) split_list_b0,.ret (.frz 1)]
noncomputable def mode_of_b0:List MS:=[.set (.loc 9) (.idx (.loc 0) (.loc 8)),.aug .Add 8 (.int 1),.ite (.cmp .Eq (.loc 9) (.str [123])) [.aug .Add 7 (.int 1)] [.ite (.cmp .Eq (.loc 9) (.str [125])) [.aug .Sub 7 (.int 1),.ite (.cmp .Lt (.loc 7) (.int 0)) [.ret (.str [101,115,99,97,112,101])] []] [.ite (.cmp .In (.loc 9) (.tup [(.str [93]),(.str [34])])) [.set (.loc 3) (.bool true),.set (.loc 6) (.bool true)] [.ite (.or [(.cmp .In (.loc 9) (.tup [(.str [91]),(.str [36]),(.str [59]),(.str [92])])),(.call (.glob (.ref 181)) [(.loc 9)])]) [.set (.loc 3) (.bool true),.set (.loc 5) (.bool true),.ite (.cmp .Eq (.loc 9) (.str [92])) [.ite (.or [(.cmp .Eq (.loc 8) (.bcall .len [(.loc 0)])),(.cmp .Eq (.idx (.loc 0) (.loc 8)) (.str [10]))]) [.ret (.str [101,115,99,97,112,101])] [],.ite (.cmp .In (.idx (.loc 0) (.loc 8)) (.tup [(.str [123]),(.str [125]),(.str [92])])) [.aug .Add 8 (.int 1)] []] []] []]]]]
noncomputable def mode_of_ms:List MS:=[.ite (.cmp .Eq (.loc 0) (.str [])) [.ret (.str [98,114,97,99,101])] [],.set (.loc 2) (.idx (.loc 0) (.int 0)),.set (.loc 3) (.cmp .In (.loc 2) (.tup [(.str [123]),(.str [34])])),.set (.loc 4) (.and [(.loc 1),(.cmp .Eq (.loc 2) (.str [35]))]),.set (.loc 5) (.or [(.loc 3),(.loc 4)]),.set (.loc 6) (.bool false),.sets false [(.loc 7),(.loc 8)] (.tup [(.int 0),(.int 0)]),.while (.cmp .Lt (.loc 8) (.bcall .len [(.loc 0)])) mode_of_b0,.ite (.cmp .Gt (.loc 7) (.int 0)) [.ret (.str [101,115,99,97,112,101])] [],.ite (.loc 3) [.ret (.ite (.and [(.loc 6),(.not (.loc 5))]) (.str [109,97,115,107]) (.str [98,114,97,99,101]))] [],.ret (.ite (.loc 4) (.str [98,114,97,99,101]) (.str [110,111,110,101]))]
noncomputable def escaped_ms:List MS:=[.set (.loc 2) (.meth (.str [12,10,13,9,11]) .find [(.loc 0)]),.ite (.cmp .GtE (.loc 2) (.int 0)) [.ret (.bin .Add (.str [92]) (.idx (.str [102,110,114,116,118]) (.loc 2)))] [],.ite (.or [(.cmp .In (.loc 0) (.tup [(.str [93]),(.str [91]),(.str [36]),(.str [59]),(.str [32]),(.str [92]),(.str [34])])),(.and [(.loc 1),(.cmp .In (.loc 0) (.tup [(.str [123]),(.str [125])]))])]) [.ret (.bin .Add (.str [92]) (.loc 0))] [],.ret (.loc 0)]
noncomputable def quote_b0:List MS:=[.expr (.meth (.loc 3) .append [(.call (.glob (.ref 300)) [(.loc 4),(.cmp .Eq (.loc 2) (.str [101,115,99,97,112,101]))])])]
noncomputable def quote_ms:List MS:=[.set (.loc 2) (.call (.glob (.ref 293)) [(.loc 0),(.loc 1)]),.ite (.cmp .Eq (.loc 2) (.str [110,111,110,101])) [.ret (.loc 0)] [],.ite (.cmp .Eq (.loc 2) (.str [98,114,97,99,101])) [.ret (.bin .Add (.bin .Add (.str [123]) (.loc 0)) (.str [125]))] [],.set (.loc 3) (.ownl []),.ite (.and [(.loc 1),(.cmp .Eq (.idx (.loc 0) (.int 0)) (.str [35]))]) [.expr (.meth (.loc 3) .append [(.str [92])])] [],.for 4 (.loc 0) quote_b0,.ret (.meth (.str []) .join [(.loc 3)])]
noncomputable def join_list_b0:List MS:=[.expr (.meth (.loc 1) .append [(.call (.glob (.ref 308)) [(.loc 2),(.cmp .Eq (.bcall .len [(.loc 1)]) (.int 0))])])]
noncomputable def join_list_ms:List MS:=[.set (.loc 1) (.ownl []),.for 2 (.loc 0) join_list_b0,.ret (.meth (.str [32]) .join [(.loc 1)])]
noncomputable def indices_of_ms:List MS:=[.ite (.cmp .NotEq (.bcall .len [(.loc 0)]) (.int 1)) [.ret (.loc 0)] [],.try [.ret (.call (.glob (.ref 286)) [(.idx (.loc 0) (.int 0))])] 84 none [.ret (.loc 0)]]
noncomputable def at_path_b0:List MS:=[.expr (.call (.glob (.ref 223)) [(.loc 5),(.neg (.int 1))])]
noncomputable def at_path_b1:List MS:=[.set (.loc 3) (.call (.glob (.ref 286)) [(.loc 0)]),.set (.loc 4) (.call (.glob (.ref 223)) [(.idx (.loc 1) (.loc 2)),(.bin .Sub (.bcall .len [(.loc 3)]) (.int 1))]),.ite (.or [(.cmp .Lt (.loc 4) (.int 0)),(.cmp .GtE (.loc 4) (.bcall .len [(.loc 3)]))]) [.for 5 (.slc (.loc 1) (.bin .Add (.loc 2) (.int 1)) .non) at_path_b0,.ret (.str [])] [],.set (.loc 0) (.idx (.loc 3) (.loc 4))]
noncomputable def at_path_ms:List MS:=[.for 2 (.bcall .range [(.bcall .len [(.loc 1)])]) at_path_b1,.ret (.loc 0)]
noncomputable def replaced_ms:List MS:=[.set (.loc 4) (.bcall .max [(.int 0),(.bcall .min [(.loc 1),(.bcall .len [(.loc 0)])])]),.set (.loc 5) (.bcall .max [(.loc 4),(.bcall .min [(.bin .Add (.loc 2) (.int 1)),(.bcall .len [(.loc 0)])])]),.ret (.bin .Add (.bin .Add (.slc (.loc 0) .non (.loc 4)) (.loc 3)) (.slc (.loc 0) (.loc 5) .non))]
noncomputable def inserted_ms:List MS:=[.ret (.call (.glob (.ref 336)) [(.loc 0),(.loc 1),(.bin .Sub (.loc 1) (.int 1)),(.loc 2)])]
noncomputable def levels_of_b0:List MS:=[.set (.loc 5) (.call (.glob (.ref 286)) [(.loc 0)]),.set (.loc 6) (.call (.glob (.ref 223)) [(.loc 4),(.bin .Sub (.bcall .len [(.loc 5)]) (.int 1))]),.ite (.or [(.cmp .Lt (.loc 6) (.int 0)),(.cmp .Gt (.loc 6) (.bcall .len [(.loc 5)])),(.and [(.cmp .Eq (.loc 6) (.bcall .len [(.loc 5)])),(.not (.loc 2))])]) [.raise (.call (.glob (.ref 139)) [(.bin .Add (.bin .Add (.str [105,110,100,101,120,32,34]) (.loc 4)) (.str [34,32,111,117,116,32,111,102,32,114,97,110,103,101])),(.tup [(.str [84,67,76]),(.str [86,65,76,85,69]),(.str [73,78,68,69,88]),(.str [79,85,84,79,70,82,65,78,71,69])])])] [],.expr (.meth (.loc 3) .append [(.tup [(.loc 5),(.loc 6)])]),.set (.loc 0) (.ite (.cmp .Lt (.loc 6) (.bcall .len [(.loc 5)])) (.idx (.loc 5) (.loc 6)) (.str []))]
noncomputable def levels_of_ms:List MS:=[.set (.loc 3) (.ownl []),.for 4 (.loc 1) levels_of_b0,.ret (.loc 3)]
noncomputable def set_at_b0:List MS:=[.sets false [(.loc 5),(.loc 6)] (.meth (.loc 3) .pop []),.set (.loc 7) (.ite (.cmp .Is (.loc 4) .non) (.lst []) (.lst [(.loc 4)])),.set (.loc 4) (.call (.glob (.ref 315)) [(.call (.glob (.ref 336)) [(.loc 5),(.loc 6),(.loc 6),(.loc 7)])])]
noncomputable def set_at_ms:List MS:=[.set (.loc 3) (.call (.glob (.ref 350)) [(.loc 0),(.loc 1),(.cmp .IsNot (.loc 2) .non)]),.set (.loc 4) (.loc 2),.while (.cmp .Gt (.bcall .len [(.loc 3)]) (.int 0)) set_at_b0,.ret (.loc 4)]
noncomputable def do_linsert_ms:List MS:=[.ite (.cmp .Lt (.bcall .len [(.loc 1)]) (.int 3)) [.raise (.call (.glob (.ref 146)) [(.bin .Add (.idx (.loc 1) (.int 0)) (.str [32,108,105,115,116,32,105,110,100,101,120,32,63,101,108,101,109,101,110,116,32,46,46,46,63]))])] [],.set (.loc 2) (.call (.glob (.ref 286)) [(.idx (.loc 1) (.int 1))]),.set (.loc 3) (.call (.glob (.ref 223)) [(.idx (.loc 1) (.int 2)),(.bcall .len [(.loc 2)])]),.ret (.call (.glob (.ref 315)) [(.call (.glob (.ref 343)) [(.loc 2),(.loc 3),(.slc (.loc 1) (.int 3) .non)])])]
noncomputable def edited_ms:List MS:=[.set (.loc 2) (.call (.glob (.ref 286)) [(.loc 0)]),.set (.loc 3) (.call (.glob (.ref 223)) [(.idx (.loc 1) (.int 2)),(.bin .Sub (.bcall .len [(.loc 2)]) (.int 1))]),.set (.loc 4) (.call (.glob (.ref 223)) [(.idx (.loc 1) (.int 3)),(.bin .Sub (.bcall .len [(.loc 2)]) (.int 1))]),.ret (.call (.glob (.ref 315)) [(.call (.glob (.ref 336)) [(.loc 2),(.loc 3),(.loc 4),(.slc (.loc 1) (.int 4) .non)])])]
noncomputable def do_lreplace_ms:List MS:=[.ite (.cmp .Lt (.bcall .len [(.loc 1)]) (.int 4)) [.raise (.call (.glob (.ref 146)) [(.bin .Add (.idx (.loc 1) (.int 0)) (.str [32,108,105,115,116,32,102,105,114,115,116,32,108,97,115,116,32,63,101,108,101,109,101,110,116,32,46,46,46,63]))])] [],.ret (.call (.glob (.ref 371)) [(.idx (.loc 1) (.int 1)),(.loc 1)])]
noncomputable def do_ledit_ms:List MS:=[.ite (.cmp .Lt (.bcall .len [(.loc 1)]) (.int 4)) [.raise (.call (.glob (.ref 146)) [(.bin .Add (.idx (.loc 1) (.int 0)) (.str [32,108,105,115,116,86,97,114,32,102,105,114,115,116,32,108,97,115,116,32,63,101,108,101,109,101,110,116,32,46,46,46,63]))])] [],.ret (.meth (.loc 0) (.user [119,114,105,116,101]) [(.idx (.loc 1) (.int 1)),(.call (.glob (.ref 371)) [(.meth (.loc 0) (.user [114,101,97,100]) [(.idx (.loc 1) (.int 1))]),(.loc 1)])])]
noncomputable def do_lset_ms:List MS:=[.ite (.cmp .Lt (.bcall .len [(.loc 1)]) (.int 3)) [.raise (.call (.glob (.ref 146)) [(.bin .Add (.idx (.loc 1) (.int 0)) (.str [32,108,105,115,116,86,97,114,32,63,105,110,100,101,120,63,32,63,105,110,100,101,120,32,46,46,46,63,32,118,97,108,117,101]))])] [],.set (.loc 2) (.meth (.loc 0) (.user [114,101,97,100]) [(.idx (.loc 1) (.int 1))]),.set (.loc 3) (.bin .Sub (.bcall .len [(.loc 1)]) (.int 1)),.ret (.meth (.loc 0) (.user [119,114,105,116,101]) [(.idx (.loc 1) (.int 1)),(.call (.glob (.ref 357)) [(.loc 2),(.call (.glob (.ref 322)) [(.slc (.loc 1) (.int 2) (.loc 3))]),(.idx (.loc 1) (.loc 3))])])]
noncomputable def do_lpop_ms:List MS:=[.ite (.cmp .Lt (.bcall .len [(.loc 1)]) (.int 2)) [.raise (.call (.glob (.ref 146)) [(.bin .Add (.idx (.loc 1) (.int 0)) (.str [32,108,105,115,116,118,97,114,32,63,105,110,100,101,120,63]))])] [],.set (.loc 2) (.meth (.loc 0) (.user [114,101,97,100]) [(.idx (.loc 1) (.int 1))]),.set (.loc 3) (.ite (.cmp .Gt (.bcall .len [(.loc 1)]) (.int 2)) (.slc (.loc 1) (.int 2) .non) (.lst [(.str [101,110,100])])),.set (.loc 4) (.call (.glob (.ref 329)) [(.loc 2),(.loc 3)]),.expr (.meth (.loc 0) (.user [119,114,105,116,101]) [(.idx (.loc 1) (.int 1)),(.call (.glob (.ref 357)) [(.loc 2),(.loc 3),.non])]),.ret (.loc 4)]
noncomputable def edit_commands_ms:List MS:=[.ret (.dct [[108,105,110,115,101,114,116],[108,114,101,112,108,97,99,101],[108,115,101,116],[108,112,111,112],[108,101,100,105,116]] [(.glob (.ref 364)),(.glob (.ref 378)),(.glob (.ref 392)),(.glob (.ref 399)),(.glob (.ref 385))])]
noncomputable def Var_ini_ms:List MS:=[.seta (.loc 0) [107,105,110,100] (.str [110,111,110,101]),.seta (.loc 0) [118,97,108,117,101] (.str []),.seta (.loc 0) [116,114,97,99,101,115] (.lst []),.seta (.loc 0) [105,115,95,98,117,115,121] (.bool false),.seta (.loc 0) [105,115,95,101,108,101,109,101,110,116] (.bool false),.seta (.loc 0) [119,114,105,116,101,115] (.int 0)]
noncomputable def Host_ini_ms:List MS:=[.seta (.loc 0) [116,111,111,108,115] .ownd,.seta (.loc 0) [105,110,108,105,110,101] .ownd,.seta (.loc 0) [108,105,109,105,116] (.loc 1),.seta (.loc 0) [102,117,101,108] (.loc 2),.seta (.loc 0) [100,101,112,116,104] (.int 0),.seta (.loc 0) [115,112,101,110,116] (.int 0),.seta (.loc 0) [101,112,111,99,104] (.int 0),.seta (.loc 0) [102,114,97,109,101] .non,.seta (.loc 0) [99,111,114,111,117,116,105,110,101] .non]
noncomputable def Host_spend_ms:List MS:=[.auga .Add (.loc 0) [115,112,101,110,116] (.int 1),.ite (.and [(.cmp .IsNot (.attr (.loc 0) [102,117,101,108]) .non),(.cmp .Gt (.attr (.loc 0) [115,112,101,110,116]) (.attr (.loc 0) [102,117,101,108]))]) [.raise (.call (.glob (.ref 63)) [(.str [116,104,101,32,115,99,114,105,112,116,32,115,112,101,110,116,32,97,108,108,32,105,116,115,32,102,117,101,108])])] []]
noncomputable def Host_call_ms:List MS:=[.ite (.not (.loc 1)) [.ret (.str [])] [],.set (.loc 2) (.meth (.loc 0) (.user [98,101,103,105,110]) [(.loc 1)]),.ite (.bcall (.isCls 105) [(.loc 2),(.glob (.ref 105))]) [.ret (.meth (.loc 0) (.user [102,105,110,105,115,104]) [(.loc 2)])] [],.ite (.bcall (.isCls 126) [(.loc 2),(.glob (.ref 126))]) [.raise (.call (.glob (.ref 139)) [(.str [99,97,110,110,111,116,32,121,105,101,108,100,58,32,67,32,115,116,97,99,107,32,98,117,115,121]),(.tup [(.str [84,67,76]),(.str [67,79,82,79,85,84,73,78,69]),(.str [67,65,78,84,95,89,73,69,76,68])])])] [],.ret (.loc 2)]
noncomputable def no_variable_ms:List MS:=[.set (.loc 2) (.bin .Add (.bin .Add (.bin .Add (.bin .Add (.str [99,97,110,39,116,32]) (.loc 0)) (.str [32,34])) (.loc 1)) (.str [34,58,32,110,111,32,115,117,99,104,32,118,97,114,105,97,98,108,101])),.ret (.call (.glob (.ref 139)) [(.loc 2),(.tup [(.str [84,67,76]),(.str [76,79,79,75,85,80]),(.str [86,65,82,78,65,77,69]),(.loc 1)])])]
noncomputable def var_in_ms:List MS:=[.ite (.cmp .NotIn (.loc 1) (.loc 0)) [.seti (.loc 0) (.loc 1) (.call (.glob (.ref 423)) [])] [],.ret (.idx (.loc 0) (.loc 1))]
noncomputable def put_value_ms:List MS:=[.seta (.loc 0) [107,105,110,100] (.loc 1),.seta (.loc 0) [118,97,108,117,101] (.loc 2),.auga .Add (.loc 0) [119,114,105,116,101,115] (.int 1),.ret (.loc 2)]
noncomputable def pair_of_ms:List MS:=[.ite (.bcall .isTuple [(.loc 0),(.glob (.type "tuple"))]) [.ret (.loc 0)] [],.ret (.tup [(.loc 0),.non])]
noncomputable def act_ms:List MS:=[.ite (.cmp .Is (.loc 3) .non) [.ret (.call (.loc 2) [(.loc 0),(.loc 1)])] [],.ret (.call (.loc 2) [(.loc 0),(.loc 1),(.loc 3)])]
noncomputable def SmallHost_ini_ms:List MS:=[.expr (.meth (.glob (.ref 508)) (.user [95,95,105,110,105,116,95,95]) [(.loc 0),(.loc 1),(.loc 2)]),.seta (.loc 0) [118,97,114,115] .ownd,.seta (.loc 0) [99,111,109,109,97,110,100,115] .ownd,.seta (.loc 0) [102,105,114,115,116,115] .ownd]
noncomputable def SmallHost_has_ms:List MS:=[.ret (.and [(.cmp .In (.loc 1) (.attr (.loc 0) [118,97,114,115])),(.cmp .NotEq (.attr (.idx (.attr (.loc 0) [118,97,114,115]) (.loc 1)) [107,105,110,100]) (.str [110,111,110,101]))])]
noncomputable def SmallHost_place_ms:List MS:=[.ret (.call (.glob (.ref 526)) [(.attr (.loc 0) [118,97,114,115]),(.loc 1)])]
noncomputable def SmallHost_read_var_ms:List MS:=[.ite (.cmp .Eq (.attr (.loc 1) [107,105,110,100]) (.str [110,111,110,101])) [.raise (.call (.glob (.ref 519)) [(.str [114,101,97,100]),(.loc 2)])] [],.ret (.attr (.loc 1) [118,97,108,117,101])]
noncomputable def SmallHost_write_var_ms:List MS:=[.ret (.call (.glob (.ref 533)) [(.loc 1),(.str [115,99,97,108,97,114]),(.loc 3)])]
noncomputable def SmallHost_read_ms:List MS:=[.ret (.meth (.loc 0) (.user [114,101,97,100,95,118,97,114]) [(.meth (.loc 0) (.user [112,108,97,99,101]) [(.loc 1)]),(.loc 1)])]
noncomputable def SmallHost_write_ms:List MS:=[.ret (.meth (.loc 0) (.user [119,114,105,116,101,95,118,97,114]) [(.meth (.loc 0) (.user [112,108,97,99,101]) [(.loc 1)]),(.loc 1),(.loc 2)])]
noncomputable def SmallHost_stamp_ms:List MS:=[.ret (.attr (.meth (.loc 0) (.user [112,108,97,99,101]) [(.loc 1)]) [119,114,105,116,101,115])]
noncomputable def SmallHost_put_ms:List MS:=[.expr (.meth (.loc 0) (.user [114,101,109,111,118,101]) [(.loc 1)]),.seti (.attr (.loc 0) [99,111,109,109,97,110,100,115]) (.loc 1) (.tup [(.loc 2),(.loc 3)])]
noncomputable def SmallHost_remove_ms:List MS:=[.expr (.meth (.attr (.loc 0) [99,111,109,109,97,110,100,115]) .dpop [(.loc 1),.non]),.expr (.meth (.attr (.loc 0) [102,105,114,115,116,115]) .dpop [(.loc 1),.non]),.ite (.cmp .In (.loc 1) (.attr (.loc 0) [105,110,108,105,110,101])) [.auga .Add (.loc 0) [101,112,111,99,104] (.int 1)] []]
noncomputable def SmallHost_add_b0:List MS:=[.sets false [(.loc 3),(.loc 4)] (.call (.glob (.ref 547)) [(.idx (.loc 1) (.loc 2))]),.expr (.meth (.loc 0) (.user [112,117,116]) [(.loc 2),(.loc 3),(.loc 4)]),.seti (.attr (.loc 0) [102,105,114,115,116,115]) (.loc 2) (.bool true)]
noncomputable def SmallHost_add_ms:List MS:=[.for 2 (.loc 1) SmallHost_add_b0]
noncomputable def SmallHost_begin_ms:List MS:=[.ite (.cmp .NotIn (.idx (.loc 1) (.int 0)) (.attr (.loc 0) [99,111,109,109,97,110,100,115])) [.raise (.call (.glob (.ref 139)) [(.bin .Add (.bin .Add (.str [105,110,118,97,108,105,100,32,99,111,109,109,97,110,100,32,110,97,109,101,32,34]) (.idx (.loc 1) (.int 0))) (.str [34])),(.tup [(.str [84,67,76]),(.str [76,79,79,75,85,80]),(.str [67,79,77,77,65,78,68]),(.idx (.loc 1) (.int 0))])])] [],.expr (.meth (.loc 0) (.user [115,112,101,110,100]) []),.sets false [(.loc 2),(.loc 3)] (.idx (.attr (.loc 0) [99,111,109,109,97,110,100,115]) (.idx (.loc 1) (.int 0))),.ret (.call (.glob (.ref 554)) [(.loc 0),(.loc 1),(.loc 2),(.loc 3)])]
noncomputable def law_pool_ms:List MS:=[.ret (.lst [(.str [97]),(.str []),(.str [98,32,99]),(.str [32,98,32,32,99]),(.str [35]),(.str [120,93]),(.str [123]),(.str [123,97,125,98]),(.str [92]),(.str [34,113]),(.str [123,98,32,99,125,32,97]),(.lst [(.str [97]),(.lst [(.str [98]),(.str [35])])]),(.lst [(.lst [(.str [120,93]),(.str [])]),(.str [123])]),(.lst [(.str [98])]),(.lst [(.lst []),(.str [97])]),(.lst [(.lst [(.str [35])]),(.str [92])])])]
noncomputable def law_told_ms:List MS:=[.ret (.lst [(.tup [(.str [108,115,101,116]),(.int 0),(.lst [(.int 0),(.int 11)]),(.lst [(.tup [(.int 0),(.int 1),(.int 0)]),(.tup [(.int 2),(.int 0),(.int 1)])]),(.lst [(.int 5)]),(.int 0)]),(.tup [(.str [108,115,101,116]),(.int 3),(.lst [(.int 0),(.int 11)]),(.lst [(.tup [(.int 0),(.int 1),(.int 0)]),(.tup [(.int 0),(.int 1),(.int 0)]),(.tup [(.int 0),(.int 0),(.int 0)])]),(.lst [(.int 2)]),(.int 1)]),(.tup [(.str [108,115,101,116]),(.int 0),(.lst [(.int 0),(.int 2)]),(.lst [(.tup [(.int 2),(.int 0),(.int 2)])]),(.lst [(.int 0)]),(.int 0)]),(.tup [(.str [108,115,101,116]),(.int 0),(.lst [(.int 0)]),(.lst [(.tup [(.int 0),(.neg (.int 1)),(.int 0)])]),(.lst [(.int 0)]),(.int 0)]),(.tup [(.str [108,115,101,116]),(.int 0),(.lst [(.int 0)]),(.lst [(.tup [(.int 0),(.int 1),(.int 0)]),(.tup [(.int 6),(.int 0),(.int 0)])]),(.lst [(.int 7)]),(.int 0)]),(.tup [(.str [108,115,101,116]),(.int 4),(.lst [(.int 3),(.int 3)]),(.lst [(.tup [(.int 0),(.int 0),(.int 0)]),(.tup [(.int 1),(.int 0),(.int 0)])]),(.lst [(.int 4)]),(.int 0)]),(.tup [(.str [108,115,101,116]),(.int 0),(.lst [(.int 0),(.int 6)]),(.lst [(.tup [(.int 0),(.int 1),(.int 0)]),(.tup [(.int 0),(.int 0),(.int 0)])]),(.lst [(.int 0)]),(.int 0)]),(.tup [(.str [108,115,101,116]),(.int 0),(.lst [(.int 9)]),(.lst []),(.lst [(.int 8)]),(.int 0)]),(.tup [(.str [108,112,111,112]),(.int 3),(.lst [(.int 0),(.int 5)]),(.lst []),(.lst []),(.int 0)]),(.tup [(.str [108,112,111,112]),(.int 0),(.lst [(.int 13),(.int 0)]),(.lst [(.tup [(.int 0),(.int 0),(.int 0)]),(.tup [(.int 0),(.int 0),(.int 0)])]),(.lst []),(.int 0)]),(.tup [(.str [108,112,111,112]),(.int 0),(.lst [(.int 0)]),(.lst [(.tup [(.int 0),(.int 1),(.int 0)])]),(.lst []),(.int 0)]),(.tup [(.str [108,112,111,112]),(.int 0),(.lst [(.int 0),(.int 2)]),(.lst [(.tup [(.int 0),(.int 5),(.int 0)]),(.tup [(.int 8),(.int 0),(.int 0)])]),(.lst []),(.int 0)]),(.tup [(.str [108,112,111,112]),(.int 0),(.lst []),(.lst []),(.lst []),(.int 0)]),(.tup [(.str [108,112,111,112]),(.int 0),(.lst [(.int 10),(.int 7)]),(.lst [(.tup [(.int 3),(.int 0),(.int 1)]),(.tup [(.int 1),(.int 0),(.int 0)])]),(.lst []),(.int 0)]),(.tup [(.str [108,105,110,115,101,114,116]),(.int 0),(.lst [(.int 0),(.int 2)]),(.lst [(.tup [(.int 1),(.int 0),(.int 0)])]),(.lst [(.int 1),(.int 4)]),(.int 0)]),(.tup [(.str [108,105,110,115,101,114,116]),(.int 5),(.lst [(.int 0),(.int 2),(.int 5)]),(.lst [(.tup [(.int 3),(.int 0),(.int 1)])]),(.lst [(.int 12)]),(.int 0)]),(.tup [(.str [108,105,110,115,101,114,116]),(.int 0),(.lst [(.int 4),(.int 0)]),(.lst [(.tup [(.int 5),(.int 0),(.int 2)])]),(.lst [(.int 8)]),(.int 0)]),(.tup [(.str [108,114,101,112,108,97,99,101]),(.int 0),(.lst [(.int 0),(.int 2),(.int 5),(.int 1)]),(.lst [(.tup [(.int 4),(.int 0),(.int 1)]),(.tup [(.int 3),(.int 0),(.int 1)])]),(.lst [(.int 6),(.int 9)]),(.int 0)]),(.tup [(.str [108,114,101,112,108,97,99,101]),(.int 0),(.lst [(.int 0),(.int 2),(.int 5)]),(.lst [(.tup [(.int 7),(.int 2),(.int 0)]),(.tup [(.int 0),(.int 0),(.int 0)])]),(.lst [(.int 3)]),(.int 0)]),(.tup [(.str [108,114,101,112,108,97,99,101]),(.int 6),(.lst [(.int 9)]),(.lst [(.tup [(.int 0),(.int 0),(.int 0)]),(.tup [(.int 0),(.int 0),(.int 0)])]),(.lst []),(.int 0)]),(.tup [(.str [108,114,101,112,108,97,99,101]),(.int 0),(.lst [(.int 0)]),(.lst [(.tup [(.int 9),(.int 0),(.int 0)]),(.tup [(.int 9),(.int 0),(.int 3)])]),(.lst [(.int 14)]),(.int 0)]),(.tup [(.str [108,101,100,105,116]),(.int 3),(.lst [(.int 0),(.int 4),(.int 8)]),(.lst [(.tup [(.int 0),(.neg (.int 2)),(.int 0)]),(.tup [(.int 0),(.int 0),(.int 0)])]),(.lst []),(.int 0)]),(.tup [(.str [108,101,100,105,116]),(.int 0),(.lst [(.int 0),(.int 1)]),(.lst [(.tup [(.int 0),(.int 0),(.int 0)]),(.tup [(.int 8),(.int 0),(.int 2)])]),(.lst [(.int 15)]),(.int 0)]),(.tup [(.str [108,101,100,105,116]),(.int 7),(.lst []),(.lst [(.tup [(.int 0),(.int 0),(.int 0)]),(.tup [(.int 0),(.int 0),(.int 0)])]),(.lst [(.int 0)]),(.int 0)])])]
noncomputable def law_usages_ms:List MS:=[.ret (.lst [(.tup [(.str [108,105,110,115,101,114,116]),(.int 1),(.str [108,105,115,116,32,105,110,100,101,120,32,63,101,108,101,109,101,110,116,32,46,46,46,63])]),(.tup [(.str [108,114,101,112,108,97,99,101]),(.int 2),(.str [108,105,115,116,32,102,105,114,115,116,32,108,97,115,116,32,63,101,108,101,109,101,110,116,32,46,46,46,63])]),(.tup [(.str [108,112,111,112]),(.int 0),(.str [108,105,115,116,118,97,114,32,63,105,110,100,101,120,63])]),(.tup [(.str [108,101,100,105,116]),(.int 2),(.str [108,105,115,116,86,97,114,32,102,105,114,115,116,32,108,97,115,116,32,63,101,108,101,109,101,110,116,32,46,46,46,63])]),(.tup [(.str [108,115,101,116]),(.int 1),(.str [108,105,115,116,86,97,114,32,63,105,110,100,101,120,63,32,63,105,110,100,101,120,32,46,46,46,63,32,118,97,108,117,101])])])]
noncomputable def law_draw_ms:List MS:=[.set (.loc 2) (.bin .Mod (.idx (.loc 0) (.int 0)) (.loc 1)),.seti (.loc 0) (.int 0) (.bin .FloorDiv (.idx (.loc 0) (.int 0)) (.loc 1)),.ret (.loc 2)]
noncomputable def law_pen_ms:List MS:=[.ite (.cmp .Eq (.loc 0) (.lst [])) [.ret (.ownl [(.int 0)])] [],.ret (.ownl [(.bin .Mult (.bcall .sum [(.slcs (.loc 0) (.bin .Mod (.loc 1) (.bcall .len [(.loc 0)])) (.loc 2))]) (.bin .Add (.bin .Add (.bin .Pow (.int 10) (.int 30)) (.int 57)) (.loc 1)))])]
noncomputable def law_text_ms:List MS:=[.ite (.bcall .isList [(.loc 0),(.glob (.type "list"))]) [.ret (.meth (.str [32]) .join [(.comp (.call (.glob (.ref 720)) [(.idx (.loc 1) (.loc 0)),(.cmp .Eq (.loc 0) (.int 0))]) [] [0] (.bcall .range [(.bcall .len [(.loc 0)])]))])] [],.ret (.loc 0)]
noncomputable def law_written_ms:List MS:=[.ite (.bcall .isList [(.loc 0),(.glob (.type "list"))]) [.set (.loc 2) (.call (.glob (.ref 713)) [(.loc 0)]),.ret (.ite (.cmp .In (.loc 2) (.lst [(.str [97]),(.str [98]),(.str [99])])) (.loc 2) (.bin .Add (.bin .Add (.str [123]) (.loc 2)) (.str [125])))] [],.ite (.cmp .Eq (.loc 0) (.str [35])) [.ret (.ite (.loc 1) (.str [123,35,125]) (.str [35]))] [],.set (.loc 3) (.dct [[],[98,32,99],[32,98,32,32,99],[120,93],[123],[123,97,125,98],[92],[34,113],[123,98,32,99,125,32,97]] [(.str [123,125]),(.str [123,98,32,99,125]),(.str [123,32,98,32,32,99,125]),(.str [120,92,93]),(.str [92,123]),(.str [123,123,97,125,98,125]),(.str [92,92]),(.str [123,34,113,125]),(.str [123,123,98,32,99,125,32,97,125])]),.ret (.ite (.cmp .In (.loc 0) (.loc 3)) (.idx (.loc 3) (.loc 0)) (.loc 0))]
noncomputable def law_spelled_b0:List MS:=[.set (.loc 3) (.bin .Add (.bin .Add (.loc 3) (.ite (.bcall .isList [(.loc 4),(.glob (.type "list"))]) (.bin .Add (.bin .Add (.str [123]) (.call (.glob (.ref 713)) [(.loc 4)])) (.str [125])) (.idx (.loc 2) (.loc 4)))) (.str [9,32]))]
noncomputable def law_spelled_ms:List MS:=[.ite (.not (.loc 1)) [.ret (.call (.glob (.ref 713)) [(.loc 0)])] [],.set (.loc 2) (.dct [[97],[],[98,32,99],[32,98,32,32,99],[35],[120,93],[123],[123,97,125,98],[92],[34,113],[123,98,32,99,125,32,97]] [(.str [123,97,125]),(.str [34,34]),(.str [34,98,32,99,34]),(.str [92,32,98,92,32,92,32,99]),(.str [92,35]),(.str [123,120,93,125]),(.str [34,123,34]),(.str [34,123,97,125,98,34]),(.str [34,92,92,34]),(.str [92,34,113]),(.str [34,123,98,32,99,125,32,97,34])]),.set (.loc 3) (.str [10]),.for 4 (.loc 0) law_spelled_b0,.ret (.loc 3)]
noncomputable def law_items_ms:List MS:=[.ite (.bcall .isList [(.loc 0),(.glob (.type "list"))]) [.ret (.tup [(.loc 0),(.tup [])])] [],.set (.loc 1) (.dct [[123],[34,113],[123,97,125,98]] [(.tup [(.str [117,110,109,97,116,99,104,101,100,32,111,112,101,110,32,98,114,97,99,101,32,105,110,32,108,105,115,116]),(.str [66,82,65,67,69])]),(.tup [(.str [117,110,109,97,116,99,104,101,100,32,111,112,101,110,32,113,117,111,116,101,32,105,110,32,108,105,115,116]),(.str [81,85,79,84,69])]),(.tup [(.str [108,105,115,116,32,101,108,101,109,101,110,116,32,105,110,32,98,114,97,99,101,115,32,102,111,108,108,111,119,101,100,32,98,121,32,34,98,34,32,105,110,115,116,101,97,100,32,111,102,32,115,112,97,99,101]),(.str [74,85,78,75])])]),.ite (.cmp .In (.loc 0) (.loc 1)) [.ret (.tup [(.lst []),(.tup [(.int 1),(.idx (.idx (.loc 1) (.loc 0)) (.int 0)),(.tup [(.str [84,67,76]),(.str [86,65,76,85,69]),(.str [76,73,83,84]),(.idx (.idx (.loc 1) (.loc 0)) (.int 1))])])])] [],.set (.loc 2) (.dct [[],[98,32,99],[32,98,32,32,99],[123,98,32,99,125,32,97]] [(.lst []),(.lst [(.str [98]),(.str [99])]),(.lst [(.str [98]),(.str [99])]),(.lst [(.str [98,32,99]),(.str [97])])]),.ret (.tup [(.ite (.cmp .In (.loc 0) (.loc 2)) (.idx (.loc 2) (.loc 0)) (.lst [(.loc 0)])),(.tup [])])]
noncomputable def law_bad_ms:List MS:=[.ret (.tup [(.int 1),(.bin .Add (.bin .Add (.str [98,97,100,32,105,110,100,101,120,32,34]) (.loc 0)) (.str [34,58,32,109,117,115,116,32,98,101,32,105,110,116,101,103,101,114,63,91,43,45,93,105,110,116,101,103,101,114,63,32,111,114,32,101,110,100,63,91,43,45,93,105,110,116,101,103,101,114,63])),(.tup [(.str [84,67,76]),(.str [86,65,76,85,69]),(.str [73,78,68,69,88])])])]
noncomputable def law_index_ms:List MS:=[.set (.loc 3) (.bin .Mod (.bin .Add (.idx (.loc 0) (.int 0)) (.call (.glob (.ref 701)) [(.loc 2),(.int 10)])) (.int 10)),.set (.loc 4) (.bin .Sub (.bin .Mod (.bin .Add (.bin .Add (.idx (.loc 0) (.int 1)) (.int 3)) (.call (.glob (.ref 701)) [(.loc 2),(.int 9)])) (.int 9)) (.int 3)),.set (.loc 5) (.bin .Mod (.bin .Add (.idx (.loc 0) (.int 2)) (.call (.glob (.ref 701)) [(.loc 2),(.int 15)])) (.int 15)),.sets true [(.loc 6),(.loc 7)] (.tup [(.ite (.cmp .Lt (.loc 4) (.int 0)) (.str [45]) (.str [])),(.bin .Mod (.loc 5) (.int 5))]),.ite (.cmp .Eq (.loc 3) (.int 1)) [.ret (.tup [(.str [101,110,100]),(.bool true),(.int 0)])] [],.ite (.cmp .In (.loc 3) (.tup [(.int 2),(.int 3)])) [.ret (.tup [(.bin .Add (.bin .Add (.str [101,110,100]) (.idx (.str [43,45]) (.bin .Sub (.loc 3) (.int 2)))) (.bcall .str [(.loc 7)])),(.bool true),(.idx (.lst [(.loc 7),(.neg (.loc 7))]) (.bin .Sub (.loc 3) (.int 2)))])] [],.ite (.cmp .In (.loc 3) (.tup [(.int 4),(.int 5)])) [.ret (.tup [(.bin .Add (.bin .Add (.bcall .str [(.loc 4)]) (.idx (.str [43,45]) (.bin .Sub (.loc 3) (.int 4)))) (.bcall .str [(.loc 7)])),(.bool false),(.bin .Add (.loc 4) (.idx (.lst [(.loc 7),(.neg (.loc 7))]) (.bin .Sub (.loc 3) (.int 4))))])] [],.ite (.cmp .Eq (.loc 3) (.int 6)) [.set (.loc 8) (.ite (.cmp .Eq (.bin .Mod (.loc 5) (.int 4)) (.int 2)) (.idx (.lst [(.str [48]),(.str [49]),(.str [49,48]),(.str [49,49]),(.str [49,48,48]),(.str [49,48,49])]) (.bcall .abs [(.loc 4)])) (.bcall .str [(.bcall .abs [(.loc 4)])])),.ret (.tup [(.bin .Add (.bin .Add (.loc 6) (.idx (.lst [(.str [48,120]),(.str [48,79]),(.str [48,98]),(.str [48,68])]) (.bin .Mod (.loc 5) (.int 4)))) (.loc 8)),(.bool false),(.loc 4)])] [],.ite (.cmp .Eq (.loc 3) (.int 7)) [.set (.loc 9) (.bin .Add (.bin .Add (.ite (.cmp .Lt (.loc 4) (.int 0)) (.str [45]) (.str [43])) (.str [48,48])) (.bcall .str [(.bcall .abs [(.loc 4)])])),.ret (.tup [(.ite (.loc 1) (.bin .Add (.bin .Add (.str [32]) (.loc 9)) (.str [10])) (.loc 9)),(.bool false),(.loc 4)])] [],.ite (.cmp .Eq (.loc 3) (.int 8)) [.set (.loc 10) (.lst [(.str [120]),(.str [101,110,100,45]),(.str [49,43]),(.str [49,46,53]),(.str [101,110,100,101]),(.str [45,45,49]),(.str [48,120]),(.str [43]),(.str [50,97]),(.str [101,110,100,45,45,49]),(.str [123]),(.str [49,45,43,50]),(.str []),(.str [101,110,100,32,49]),(.str [49,32,43,50])]),.ret (.tup [(.idx (.loc 10) (.ite (.loc 1) (.loc 5) (.bin .Mod (.loc 5) (.int 12)))),(.bool false),.non])] [],.ite (.cmp .Eq (.loc 3) (.int 9)) [.set (.loc 4) (.idx (.lst [(.bin .Pow (.int 2) (.int 63)),(.neg (.bin .Pow (.int 2) (.int 63))),(.bin .Add (.bin .Pow (.int 2) (.int 64)) (.loc 4)),(.bin .Pow (.int 2) (.int 70))]) (.bin .Mod (.loc 5) (.int 4)))] [],.ret (.tup [(.bcall .str [(.loc 4)]),(.bool false),(.loc 4)])]
noncomputable def law_path_ms:List MS:=[.set (.loc 4) (.bcall .len [(.loc 1)]),.ite (.cmp .In (.loc 0) (.tup [(.str [108,115,101,116]),(.str [108,112,111,112])])) [.set (.loc 4) (.bin .Mod (.bin .Add (.loc 4) (.call (.glob (.ref 701)) [(.loc 3),(.int 4)])) (.int 4))] [],.set (.cell 5) (.and [(.cmp .Eq (.loc 0) (.str [108,115,101,116])),(.or [(.cmp .Eq (.bin .Mod (.bin .Add (.loc 2) (.call (.glob (.ref 701)) [(.loc 3),(.int 2)])) (.int 2)) (.int 1)),(.cmp .Eq (.loc 4) (.int 1))])]),.set (.loc 6) (.comp (.call (.glob (.ref 748)) [(.ite (.cmp .Lt (.loc 0) (.bcall .len [(.loc 1)])) (.idx (.loc 1) (.loc 0)) (.tup [(.int 0),(.int 0),(.int 0)])),(.not (.loc 3)),(.loc 2)]) [] [1,3,5] (.bcall .range [(.loc 4)])),.set (.loc 7) (.comp (.idx (.loc 0) (.int 0)) [] [] (.loc 6)),.ite (.loc 5) [.set (.loc 7) (.lst [(.meth (.str [32]) .join [(.loc 7)])]),.ite (.cmp .In (.str [123]) (.idx (.loc 7) (.int 0))) [.set (.loc 6) (.lst [(.tup [(.idx (.loc 7) (.int 0)),(.bool false),.non])])] []] [],.ite (.and [(.cmp .Eq (.loc 0) (.str [108,112,111,112])),(.cmp .Eq (.loc 4) (.int 0))]) [.set (.loc 6) (.lst [(.tup [(.str [101,110,100]),(.bool true),(.int 0)])])] [],.ret (.tup [(.loc 7),(.loc 6)])]
noncomputable def law_put_ms:List MS:=[.ite (.cmp .Eq (.loc 1) (.lst [])) [.ret (.tup [(.idx (.loc 2) (.int 0)),(.tup [])])] [],.sets false [(.loc 3),(.loc 4)] (.call (.glob (.ref 734)) [(.loc 0)]),.sets false [(.loc 5),(.loc 6),(.loc 7)] (.idx (.loc 1) (.int 0)),.ite (.and [(.cmp .Eq (.loc 4) (.tup [])),(.cmp .Is (.loc 7) .non)]) [.set (.loc 4) (.call (.glob (.ref 741)) [(.loc 5)])] [],.ite (.cmp .NotEq (.loc 4) (.tup [])) [.ret (.tup [(.loc 0),(.loc 4)])] [],.set (.loc 8) (.ite (.loc 6) (.bin .Sub (.bin .Add (.loc 7) (.bcall .len [(.loc 3)])) (.int 1)) (.loc 7)),.ite (.or [(.cmp .Lt (.loc 8) (.int 0)),(.cmp .Gt (.loc 8) (.bin .Sub (.bcall .len [(.loc 3)]) (.ite (.cmp .Eq (.loc 2) (.lst [])) (.int 1) (.int 0))))]) [.ret (.tup [(.loc 0),(.tup [(.int 1),(.bin .Add (.bin .Add (.str [105,110,100,101,120,32,34]) (.loc 5)) (.str [34,32,111,117,116,32,111,102,32,114,97,110,103,101])),(.tup [(.str [84,67,76]),(.str [86,65,76,85,69]),(.str [73,78,68,69,88]),(.str [79,85,84,79,70,82,65,78,71,69])])])])] [],.set (.loc 9) (.loc 2),.ite (.cmp .Gt (.bcall .len [(.loc 1)]) (.int 1)) [.sets false [(.loc 10),(.loc 4)] (.call (.glob (.ref 760)) [(.ite (.cmp .Lt (.loc 8) (.bcall .len [(.loc 3)])) (.idx (.loc 3) (.loc 8)) (.str [])),(.slc (.loc 1) (.int 1) .non),(.loc 2)]),.set (.loc 9) (.lst [(.loc 10)])] [],.ret (.tup [(.bin .Add (.bin .Add (.slc (.loc 3) .non (.loc 8)) (.loc 9)) (.slc (.loc 3) (.bin .Add (.loc 8) (.int 1)) .non)),(.loc 4)])]
noncomputable def law_got_b0:List MS:=[.sets false [(.loc 3),(.loc 4)] (.call (.glob (.ref 734)) [(.loc 0)]),.sets false [(.loc 5),(.loc 6),(.loc 7)] (.idx (.loc 1) (.loc 2)),.ite (.and [(.cmp .Eq (.loc 4) (.tup [])),(.cmp .Is (.loc 7) .non)]) [.set (.loc 4) (.call (.glob (.ref 741)) [(.loc 5)])] [],.ite (.cmp .NotEq (.loc 4) (.tup [])) [.ret (.tup [(.str []),(.loc 4)])] [],.set (.loc 8) (.ite (.loc 6) (.bin .Sub (.bin .Add (.loc 7) (.bcall .len [(.loc 3)])) (.int 1)) (.loc 7)),.ite (.or [(.cmp .Lt (.loc 8) (.int 0)),(.cmp .GtE (.loc 8) (.bcall .len [(.loc 3)]))]) [.set (.loc 9) (.comp (.idx (.loc 0) (.int 0)) [(.cmp .Is (.idx (.loc 0) (.int 2)) .non)] [] (.slc (.loc 1) (.bin .Add (.loc 2) (.int 1)) .non)),.ret (.tup [(.str []),(.ite (.cmp .NotEq (.loc 9) (.lst [])) (.call (.glob (.ref 741)) [(.idx (.loc 9) (.int 0))]) (.tup []))])] [],.set (.loc 0) (.idx (.loc 3) (.loc 8))]
noncomputable def law_got_ms:List MS:=[.for 2 (.bcall .range [(.bcall .len [(.loc 1)])]) law_got_b0,.ret (.tup [(.call (.glob (.ref 713)) [(.loc 0)]),(.tup [])])]
noncomputable def law_due_b0:List MS:=[.ite (.and [(.cmp .Eq (.loc 5) (.tup [])),(.cmp .Is (.idx (.loc 8) (.int 2)) .non)]) [.set (.loc 5) (.call (.glob (.ref 741)) [(.idx (.loc 8) (.int 0))])] []]
noncomputable def law_due_ms:List MS:=[.ite (.cmp .Eq (.loc 0) (.str [108,115,101,116])) [.sets false [(.loc 4),(.loc 5)] (.call (.glob (.ref 760)) [(.loc 1),(.loc 2),(.loc 3)]),.ret (.tup [(.loc 5),(.call (.glob (.ref 713)) [(.loc 4)]),(.loc 4)])] [],.ite (.cmp .Eq (.loc 0) (.str [108,112,111,112])) [.sets false [(.loc 6),(.loc 5)] (.call (.glob (.ref 765)) [(.loc 1),(.loc 2)]),.ite (.cmp .NotEq (.loc 5) (.tup [])) [.ret (.tup [(.loc 5),(.str []),(.loc 1)])] [],.sets false [(.loc 4),(.loc 5)] (.call (.glob (.ref 760)) [(.loc 1),(.loc 2),(.lst [])]),.ret (.tup [(.loc 5),(.loc 6),(.loc 4)])] [],.sets false [(.cell 7),(.loc 5)] (.call (.glob (.ref 734)) [(.loc 1)]),.for 8 (.loc 2) law_due_b0,.ite (.cmp .NotEq (.loc 5) (.tup [])) [.ret (.tup [(.loc 5),(.str []),(.loc 1)])] [],.set (.cell 9) (.ite (.cmp .Eq (.loc 0) (.str [108,105,110,115,101,114,116])) (.bcall .len [(.loc 7)]) (.bin .Sub (.bcall .len [(.loc 7)]) (.int 1))),.set (.loc 10) (.comp (.ite (.idx (.loc 0) (.int 1)) (.bin .Add (.idx (.loc 0) (.int 2)) (.loc 1)) (.idx (.loc 0) (.int 2))) [] [9] (.loc 2)),.sets false [(.cell 11),(.cell 12)] (.tup [(.idx (.loc 10) (.int 0)),(.ite (.cmp .Eq (.loc 0) (.str [108,105,110,115,101,114,116])) (.bin .Sub (.idx (.loc 10) (.int 0)) (.int 1)) (.idx (.loc 10) (.int 1)))]),.set (.loc 4) (.bin .Add (.comp (.idx (.loc 1) (.loc 0)) [(.cmp .Lt (.loc 0) (.loc 2))] [7,11] (.bcall .range [(.bcall .len [(.loc 7)])])) (.loc 3)),.set (.loc 4) (.bin .Add (.loc 4) (.comp (.idx (.loc 1) (.loc 0)) [(.and [(.cmp .GtE (.loc 0) (.loc 2)),(.cmp .Gt (.loc 0) (.loc 3))])] [7,11,12] (.bcall .range [(.bcall .len [(.loc 7)])]))),.ret (.tup [(.tup []),(.call (.glob (.ref 713)) [(.loc 4)]),(.loc 4)])]
noncomputable def law_heard_ms:List MS:=[.try [.ret (.tup [(.str [103,97,118,101]),(.meth (.loc 0) (.user [99,97,108,108]) [(.loc 1)])])] 84 (some 2) [.ret (.tup [(.str [114,97,105,115,101,100]),(.attr (.loc 2) [99,111,100,101]),(.attr (.loc 2) [118,97,108,117,101]),(.attr (.loc 2) [101,114,114,111,114,99,111,100,101])])]]
noncomputable def law_nodes_ms:List MS:=[.set (.cell 3) (.call (.glob (.ref 680)) []),.ret (.comp (.idx (.loc 3) (.bin .Mod (.bin .Add (.ite (.cmp .Lt (.loc 0) (.bcall .len [(.loc 1)])) (.idx (.loc 1) (.loc 0)) (.int 0)) (.call (.glob (.ref 701)) [(.loc 2),(.int 16)])) (.int 16))) [] [0,2,3] (.bcall .range [(.loc 1)]))]
noncomputable def law_row_right_ms:List MS:=[.sets false [(.loc 5),(.loc 6),(.loc 7),(.loc 8),(.loc 9),(.loc 10)] (.loc 2),.set (.loc 6) (.bin .Mod (.bin .Add (.loc 6) (.call (.glob (.ref 701)) [(.loc 3),(.int 8)])) (.int 8)),.set (.loc 11) (.call (.glob (.ref 782)) [(.loc 7),(.bin .Mod (.bin .Add (.bcall .len [(.loc 7)]) (.call (.glob (.ref 701)) [(.loc 3),(.int 5)])) (.int 5)),(.loc 3)]),.sets true [(.loc 12),(.loc 13)] (.tup [(.loc 11),(.call (.glob (.ref 727)) [(.loc 11),(.cmp .In (.loc 6) (.tup [(.int 3),(.int 4),(.int 5)]))])]),.ite (.cmp .Eq (.loc 6) (.int 6)) [.set (.loc 12) (.ite (.cmp .NotEq (.loc 11) (.lst [])) (.idx (.loc 11) (.int 0)) (.str [])),.set (.loc 13) (.call (.glob (.ref 713)) [(.loc 12)])] [],.sets false [(.loc 14),(.loc 15)] (.call (.glob (.ref 753)) [(.loc 5),(.loc 8),(.loc 10),(.loc 3)]),.set (.loc 16) (.bin .Mod (.bin .Add (.bcall .len [(.loc 9)]) (.call (.glob (.ref 701)) [(.loc 3),(.int 4)])) (.int 4)),.set (.loc 17) (.call (.glob (.ref 782)) [(.loc 9),(.ite (.cmp .In (.loc 5) (.tup [(.str [108,115,101,116]),(.str [108,112,111,112])])) (.idx (.dct [[108,115,101,116],[108,112,111,112]] [(.int 1),(.int 0)]) (.loc 5)) (.loc 16)),(.loc 3)]),.sets false [(.loc 18),(.loc 19),(.loc 20)] (.call (.glob (.ref 770)) [(.loc 5),(.loc 12),(.loc 15),(.loc 17)]),.set (.loc 21) (.cmp .In (.loc 5) (.tup [(.str [108,115,101,116]),(.str [108,112,111,112]),(.str [108,101,100,105,116])])),.ite (.and [(.loc 21),(.cmp .Eq (.loc 6) (.int 7))]) [.set (.loc 18) (.tup [(.int 1),(.bin .Add (.bin .Add (.str [99,97,110,39,116,32,114,101,97,100,32,34]) (.loc 1)) (.str [34,58,32,110,111,32,115,117,99,104,32,118,97,114,105,97,98,108,101])),(.tup [(.str [84,67,76]),(.str [76,79,79,75,85,80]),(.str [86,65,82,78,65,77,69]),(.loc 1)])])] [.ite (.loc 21) [.expr (.meth (.loc 0) (.user [119,114,105,116,101]) [(.loc 1),(.loc 13)]),.seti (.loc 4) (.loc 1) (.ite (.cmp .NotEq (.loc 18) (.tup [])) (.loc 13) (.call (.glob (.ref 713)) [(.loc 20)]))] []],.set (.loc 22) (.call (.glob (.ref 777)) [(.loc 0),(.bin .Add (.bin .Add (.lst [(.loc 5),(.ite (.loc 21) (.loc 1) (.loc 13))]) (.loc 14)) (.comp (.call (.glob (.ref 713)) [(.loc 0)]) [] [] (.loc 17)))]),.ite (.cmp .NotEq (.loc 22) (.ite (.cmp .Eq (.loc 18) (.tup [])) (.tup [(.str [103,97,118,101]),(.loc 19)]) (.bin .Add (.tup [(.str [114,97,105,115,101,100])]) (.loc 18)))) [.ret (.bool false)] [],.ite (.not (.loc 21)) [.ret (.not (.meth (.loc 0) (.user [104,97,115]) [(.loc 1)]))] [],.ret (.and [(.cmp .Eq (.meth (.loc 0) (.user [104,97,115]) [(.loc 1)]) (.cmp .NotEq (.loc 6) (.int 7))),(.cmp .Eq (.meth (.loc 0) (.user [115,116,97,109,112]) [(.loc 1)]) (.ite (.cmp .Eq (.loc 6) (.int 7)) (.int 0) (.ite (.cmp .NotEq (.loc 18) (.tup [])) (.int 1) (.int 2))))])]
noncomputable def law_b0:List MS:=[.ite (.not (.call (.glob (.ref 787)) [(.loc 1),(.bin .Add (.str [118]) (.bcall .str [(.loc 4)])),(.idx (.loc 2) (.loc 4)),(.call (.glob (.ref 708)) [(.loc 0),(.loc 4),(.bcall .len [(.loc 2)])]),(.loc 3)])) [.ret (.bool false)] []]
noncomputable def law_b1:List MS:=[.set (.loc 8) (.bin .Add (.bin .Add (.bin .Add (.bin .Add (.str [119,114,111,110,103,32,35,32,97,114,103,115,58,32,115,104,111,117,108,100,32,98,101,32,34]) (.loc 5)) (.str [32])) (.loc 7)) (.str [34])),.ite (.cmp .NotEq (.call (.glob (.ref 777)) [(.loc 1),(.bin .Add (.lst [(.loc 5)]) (.bin .Mult (.lst [(.str [97])]) (.loc 6)))]) (.tup [(.str [114,97,105,115,101,100]),(.int 1),(.loc 8),(.tup [(.str [84,67,76]),(.str [87,82,79,78,71,65,82,71,83])])])) [.ret (.bool false)] []]
noncomputable def law_ms:List MS:=[.sets false [(.cell 1),(.loc 2),(.cell 3)] (.tup [(.call (.glob (.ref 671)) []),(.call (.glob (.ref 687)) []),.ownd]),.expr (.meth (.loc 1) (.user [97,100,100]) [(.call (.glob (.ref 406)) [])]),.for 4 (.bcall .range [(.bcall .len [(.loc 2)])]) law_b0,.fort [5,6,7] (.call (.glob (.ref 694)) []) law_b1,.ite (.or [(.cmp .NotEq (.attr (.loc 1) [115,112,101,110,116]) (.bin .Add (.bcall .len [(.loc 2)]) (.int 5))),(.cmp .NotEq (.attr (.loc 1) [100,101,112,116,104]) (.int 0))]) [.ret (.bool false)] [],.ret (.cmp .Eq (.frzc 3 (.comp (.meth (.loc 1) (.user [114,101,97,100]) [(.loc 0)]) [] [1] (.loc 3))) (.comp (.idx (.loc 1) (.loc 0)) [] [3] (.loc 3)))]
noncomputable def keepA:List Nat:=[139,146,181,188,195,202,209,216,223,244,251,258,265,272,279,286,293,300,308,315,322,329,336,343,350,357,364,371,378,385,392,399,406,519,526,533,547,554,680,687,694,701,708,713,720,727,734,741,748,753,760,765,770,777,782,787,792,84,423,671]
noncomputable def hostM:List (List Nat×Nat):=[([104,97,115],576),([112,108,97,99,101],583),([114,101,97,100,95,118,97,114],590),([119,114,105,116,101,95,118,97,114],597),([114,101,97,100],604),([119,114,105,116,101],611),([115,116,97,109,112],625),([112,117,116],640),([114,101,109,111,118,101],647),([97,100,100],654),([98,101,103,105,110],668),([115,112,101,110,100],456),([99,97,108,108],484)]
noncomputable def hostA:List (List Nat):=[[116,111,111,108,115],[105,110,108,105,110,101],[108,105,109,105,116],[102,117,101,108],[100,101,112,116,104],[115,112,101,110,116],[101,112,111,99,104],[102,114,97,109,101],[99,111,114,111,117,116,105,110,101],[118,97,114,115],[99,111,109,109,97,110,100,115],[102,105,114,115,116,115]]
noncomputable def varA:List (List Nat):=[[107,105,110,100],[118,97,108,117,101],[116,114,97,99,101,115],[105,115,95,98,117,115,121],[105,115,95,101,108,101,109,101,110,116],[119,114,105,116,101,115]]
noncomputable def excA:List (List Nat):=[[99,111,100,101],[118,97,108,117,101],[101,114,114,111,114,99,111,100,101],[108,101,118,101,108],[114,101,116],[105,110,102,111],[105,115,95,110,111,116,101,100],[108,105,110,101],[101,120,116,114,97]]
noncomputable def cmdA:List Nat:=[364,378,385,392,399]
noncomputable def tabT:Tab where
  meth C n:=match C with
    | 671=>hostM.lookup n
    | _=>none
  attr C n:=match C with
    | 671=>hostA.contains n
    | 423=>varA.contains n
    | _=>false
  attx C n:=match C with
    | 84=>excA.contains n
    | _=>false
  cmeth C n:=match C with
    | 508=>if n=[95,95,105,110,105,116,95,95] then some 442 else none
    | _=>none
  keep v:=match v with
    | .ref a=>keepA.contains a
    | _=>false
  fn a:=cmdA.contains a
  isc C:=C == 105 || C == 126
  exc C:=C == 84
  rse C D:=C == 84 && D == 84
noncomputable def getK:List V→Nat→(Option V→Prop)→Prop
  | [],_,K=>K none
  | y::_,0,K=>K (some y)
  | _::r,i+1,K=>getK r i K
theorem getK_eq:∀{ys:List V} {i:Nat} {K:Option V→Prop},K ys[i]?→getK ys i K
  | [],_,_,h=>h
  | _::_,0,_,h=>h
  | _::r,i+1,K,h=>getK_eq (ys:=r) (i:=i) h
theorem getK_to:∀{ys:List V} {i:Nat} {K:Option V→Prop},getK ys i K→K ys[i]?
  | [],_,_,h=>h
  | _::_,0,_,h=>h
  | _::r,i+1,K,h=>getK_to (ys:=r) (i:=i) h
noncomputable def entL (ys:List V) (as:List Addr):List LS→(List (Option V)→Prop)→Prop
  | [],K=>K []
  | .non::r,K=>entL ys as r fun l=>K (none::l)
  | .par j::r,K=>getK ys j fun o=>entL ys as r fun l=>K (o::l)
  | .cell k::r,K=>entL ys as r fun l=>K ((as[k]?).map V.cell::l)
theorem entL_to {ys:List V} {as:List Addr} {ls:List LS}:∀{K:List (Option V)→Prop},entL ys as ls K→K (ls.map (LS.loc ys as)):=by
  induction ls with
  | nil=>exact id
  | cons x r ih=>
    intro K h
    cases x with
    | non=>exact ih (K:=fun l=>K (none::l)) h
    | par j=>exact ih (K:=fun l=>K (ys[j]?::l)) (getK_to (K:=fun o=>entL ys as r fun l=>K (o::l)) h)
    | cell k=>exact ih (K:=fun l=>K ((as[k]?).map V.cell::l)) h
noncomputable def entC (ys:List V) (as:List Addr) (own:Own) (cs:List (Option Nat)) (K:Own→Prop):Prop:=match cs with
  | []=>K own
  | _::_=>K (mkCells ys cs as++own)
theorem entC_to {ys:List V} {as:List Addr} {own:Own} {cs:List (Option Nat)} {K:Own→Prop} (h:entC ys as own cs K):K (mkCells ys cs as++own):=by
  cases cs<;>exact h
noncomputable def entS (bs:List MS) (c:Cx) (n:Nat) (Q:PQ) (X:PX) (l:List (Option V)) (own:Own):Prop:=wpSs c n tabT bs ⟨l,own⟩ (EndQ Q) (EndX X)
noncomputable def FnC (c:Cx) (f:Addr) (k:Nat) (dfl:List V) (ls:List LS) (cs:List (Option Nat)) (bs:List MS):Prop:=
  ∀{n:Nat} {xs:List V} {own:Own} {Q:PQ} {X:PX},xs.length=k→(∀as:List Addr,as.length=cs.length→entL (xs++dfl) as ls fun l=>entC (xs++dfl) as own cs (entS bs c n Q X l))→SemCode c (n+1) (.ref f) xs own Q X
noncomputable def MkC (c:Cx) (C f:Addr):Prop:=∀{n:Nat} {xs:List V} {own:Own} {Q:PQ} {X:PX},(∀x,SemCode c n (.ref f) (.own x::xs) ((x,.inst C [])::own) (Made x Q) X)→SemCode c (n+1) (.ref C) xs own Q X
structure Prog (c:Cx):Prop where
  tab:tabT.Ok c
  Raised_ini:FnC c 81 4 [.int 0,.int 0] [.par 0,.par 1,.par 2,.par 3,.par 4,.par 5] [] Raised_ini_ms
  error:FnC c 139 2 [] [.par 0,.par 1] [] error_ms
  wrong_args:FnC c 146 1 [] [.par 0] [] wrong_args_ms
  is_blank:FnC c 181 1 [] [.par 0] [] is_blank_ms
  digit:FnC c 188 1 [] [.par 0,.non] [] digit_ms
  digits_value:FnC c 195 2 [] [.par 0,.par 1,.non,.non,.non] [] digits_value_ms
  base_of:FnC c 202 1 [] [.par 0] [] base_of_ms
  whole_of:FnC c 209 1 [] [.par 0,.non,.non,.non,.non,.non] [] whole_of_ms
  moved:FnC c 216 2 [] [.par 0,.par 1,.non] [] moved_ms
  index_of:FnC c 223 2 [] [.par 0,.par 1,.non,.non,.non] [] index_of_ms
  backslash:FnC c 244 2 [] [.par 0,.par 1,.non,.non,.non] [] backslash_ms
  check_behind:FnC c 251 3 [] [.par 0,.par 1,.par 2,.non] [] check_behind_ms
  braced_element:FnC c 258 2 [] [.par 0,.par 1,.non,.non,.non] [] braced_element_ms
  quoted_element:FnC c 265 2 [] [.par 0,.par 1,.non,.non] [] quoted_element_ms
  bare_element:FnC c 272 2 [] [.par 0,.par 1,.non,.non] [] bare_element_ms
  find_element:FnC c 279 2 [] [.par 0,.par 1] [] find_element_ms
  split_list:FnC c 286 1 [] [.par 0,.non,.non] [] split_list_ms
  mode_of:FnC c 293 2 [] [.par 0,.par 1,.non,.non,.non,.non,.non,.non,.non,.non] [] mode_of_ms
  escaped:FnC c 300 2 [] [.par 0,.par 1,.non] [] escaped_ms
  quote:FnC c 308 2 [] [.par 0,.par 1,.non,.non,.non] [] quote_ms
  join_list:FnC c 315 1 [] [.par 0,.non,.non] [] join_list_ms
  indices_of:FnC c 322 1 [] [.par 0] [] indices_of_ms
  at_path:FnC c 329 2 [] [.par 0,.par 1,.non,.non,.non,.non] [] at_path_ms
  replaced:FnC c 336 4 [] [.par 0,.par 1,.par 2,.par 3,.non,.non] [] replaced_ms
  inserted:FnC c 343 3 [] [.par 0,.par 1,.par 2] [] inserted_ms
  levels_of:FnC c 350 3 [] [.par 0,.par 1,.par 2,.non,.non,.non,.non] [] levels_of_ms
  set_at:FnC c 357 3 [] [.par 0,.par 1,.par 2,.non,.non,.non,.non,.non] [] set_at_ms
  do_linsert:FnC c 364 2 [] [.par 0,.par 1,.non,.non] [] do_linsert_ms
  edited:FnC c 371 2 [] [.par 0,.par 1,.non,.non,.non] [] edited_ms
  do_lreplace:FnC c 378 2 [] [.par 0,.par 1] [] do_lreplace_ms
  do_ledit:FnC c 385 2 [] [.par 0,.par 1] [] do_ledit_ms
  do_lset:FnC c 392 2 [] [.par 0,.par 1,.non,.non] [] do_lset_ms
  do_lpop:FnC c 399 2 [] [.par 0,.par 1,.non,.non,.non] [] do_lpop_ms
  edit_commands:FnC c 406 0 [] [] [] edit_commands_ms
  Var_ini:FnC c 420 1 [] [.par 0] [] Var_ini_ms
  Host_ini:FnC c 442 3 [] [.par 0,.par 1,.par 2] [] Host_ini_ms
  Host_spend:FnC c 456 1 [] [.par 0] [] Host_spend_ms
  Host_call:FnC c 484 2 [] [.par 0,.par 1,.non] [] Host_call_ms
  no_variable:FnC c 519 2 [] [.par 0,.par 1,.non] [] no_variable_ms
  var_in:FnC c 526 2 [] [.par 0,.par 1] [] var_in_ms
  put_value:FnC c 533 3 [] [.par 0,.par 1,.par 2] [] put_value_ms
  pair_of:FnC c 547 1 [] [.par 0] [] pair_of_ms
  act:FnC c 554 4 [] [.par 0,.par 1,.par 2,.par 3] [] act_ms
  SmallHost_ini:FnC c 569 1 [.int 40,.non] [.par 0,.par 1,.par 2] [] SmallHost_ini_ms
  SmallHost_has:FnC c 576 2 [] [.par 0,.par 1] [] SmallHost_has_ms
  SmallHost_place:FnC c 583 2 [] [.par 0,.par 1] [] SmallHost_place_ms
  SmallHost_read_var:FnC c 590 3 [] [.par 0,.par 1,.par 2] [] SmallHost_read_var_ms
  SmallHost_write_var:FnC c 597 4 [] [.par 0,.par 1,.par 2,.par 3] [] SmallHost_write_var_ms
  SmallHost_read:FnC c 604 2 [] [.par 0,.par 1] [] SmallHost_read_ms
  SmallHost_write:FnC c 611 3 [] [.par 0,.par 1,.par 2] [] SmallHost_write_ms
  SmallHost_stamp:FnC c 625 2 [] [.par 0,.par 1] [] SmallHost_stamp_ms
  SmallHost_put:FnC c 640 4 [] [.par 0,.par 1,.par 2,.par 3] [] SmallHost_put_ms
  SmallHost_remove:FnC c 647 2 [] [.par 0,.par 1] [] SmallHost_remove_ms
  SmallHost_add:FnC c 654 2 [] [.par 0,.par 1,.non,.non,.non] [] SmallHost_add_ms
  SmallHost_begin:FnC c 668 2 [] [.par 0,.par 1,.non,.non] [] SmallHost_begin_ms
  law_pool:FnC c 680 0 [] [] [] law_pool_ms
  law_told:FnC c 687 0 [] [] [] law_told_ms
  law_usages:FnC c 694 0 [] [] [] law_usages_ms
  law_draw:FnC c 701 2 [] [.par 0,.par 1,.non] [] law_draw_ms
  law_pen:FnC c 708 3 [] [.par 0,.par 1,.par 2] [] law_pen_ms
  law_text:FnC c 713 1 [] [.cell 0] [some 0] law_text_ms
  law_written:FnC c 720 2 [] [.par 0,.par 1,.non,.non] [] law_written_ms
  law_spelled:FnC c 727 2 [] [.par 0,.par 1,.non,.non,.non] [] law_spelled_ms
  law_items:FnC c 734 1 [] [.par 0,.non,.non] [] law_items_ms
  law_bad:FnC c 741 1 [] [.par 0] [] law_bad_ms
  law_index:FnC c 748 3 [] [.par 0,.par 1,.par 2,.non,.non,.non,.non,.non,.non,.non,.non] [] law_index_ms
  law_path:FnC c 753 4 [] [.par 0,.cell 0,.par 2,.cell 1,.non,.cell 2,.non,.non] [some 1,some 3,none] law_path_ms
  law_put:FnC c 760 3 [] [.par 0,.par 1,.par 2,.non,.non,.non,.non,.non,.non,.non,.non] [] law_put_ms
  law_got:FnC c 765 2 [] [.par 0,.par 1,.non,.non,.non,.non,.non,.non,.non,.non] [] law_got_ms
  law_due:FnC c 770 4 [] [.par 0,.par 1,.par 2,.par 3,.non,.non,.non,.cell 0,.non,.cell 1,.non,.cell 2,.cell 3] [none,none,none,none] law_due_ms
  law_heard:FnC c 777 2 [] [.par 0,.par 1,.non] [] law_heard_ms
  law_nodes:FnC c 782 3 [] [.cell 0,.par 1,.cell 1,.cell 2] [some 0,some 2,none] law_nodes_ms
  law_row_right:FnC c 787 5 [] [.par 0,.par 1,.par 2,.par 3,.par 4,.non,.non,.non,.non,.non,.non,.non,.non,.non,.non,.non,.non,.non,.non,.non,.non,.non,.non] [] law_row_right_ms
  law:FnC c 792 1 [] [.par 0,.cell 0,.non,.cell 1,.non,.non,.non,.non,.non] [none,none] law_ms
  mkVar:MkC c 423 420
  mkHost:MkC c 671 569
  mkRaised:∀{n:Nat} {xs:List V} {own:Own} {Q:PQ} {X:PX},xs.length≤1000→(∀x,SemCall c n (.ref 81) (.own x::xs) ((x,.exc true 84 [])::own) (Made x Q) X)→SemCall c (n+1) (.ref 84) xs own Q X
section
variable {c:Cx} {n:Nat} {own:Own} {Q:PQ} {X:PX}
theorem ifB_i {b:Bool} {A B:Prop} (ha:b=true→A) (hb:b=false→B):ifB b A B:=by
  cases b
  · exact hb rfl
  · exact ha rfl
theorem lt_ {a b:Nat} (h:Nat.blt a b=true):a < b:=Nat.le_of_ble_eq_true h
theorem le_ {a b:Nat} (h:Nat.ble a b=true):a≤b:=Nat.le_of_ble_eq_true h
theorem end_ {f:Fl} {loc:List (Option V)} {v:V} (h:Q v own) (e:v=retV f):EndQ Q f ⟨loc,own⟩:=.mk (List.Sublist.refl _) (e▸h)
theorem wh {P:PS→St→Prop} (I:Nat→St→Prop) (step:∀m st (R:PS),I m st→(∀m' st',m=m'+1→I m' st'→R st')→P R st) {m:Nat} {st:St} (h:I m st):∃k,iterW P k st:=by
  refine ⟨m+1,?_⟩
  induction m generalizing st with
  | zero=>exact step 0 st _ h fun m' zz e=>by cases e
  | succ m ih=>exact step (m+1) st _ h fun m' st' e h'=>by cases e;exact ih h'
theorem pr1 {k m:Nat} (h:k < m):m=m - 1+1:=(Nat.sub_add_cancel (Nat.lt_of_le_of_lt (Nat.zero_le k) h)).symm
theorem pr2 {r q s m:Nat} (h:r+1=q+s) (hq:0 < q) (hm:r+1≤m):s≤m - 1:=Nat.le_sub_one_of_lt (Nat.lt_of_lt_of_le (h▸Nat.lt_add_of_pos_left hq) hm)
noncomputable def blank (x:Nat):Bool:=[V.str [32],V.str [9],V.str [10],V.str [11],V.str [12],V.str [13]].any (V.isStr [x])
theorem blank_eq (x:Nat):blank x=(x == 32 || (x == 9 || (x == 10 || (x == 11 || (x == 12 || x == 13))))):=by
  simp [blank,V.isStr,List.any]
theorem is_blank_c (P:Prog c) {x:Nat} (h:Q (.bool (blank x)) own):SemCall c (n+1) (.ref 181) [.str [x]] own Q X:=by
  refine (P.is_blank rfl fun as zz=>?_).call
  exact ⟨rfl,end_ h rfl⟩
noncomputable def digitI (x:Nat):Int:=if 48≤(x:Int)∧(x:Int)≤57 then x - 48 else if 97≤(x:Int)∧(x:Int)≤122 then x - 87 else if 65≤(x:Int)∧(x:Int)≤90 then x - 55 else -1
theorem cmp2_i {a b:Prop} [Decidable a] [Decidable b] {A B:Prop} (ha:a∧b→A) (hb:¬ (a∧b)→B):ifB (decide a) (ifB (decide b) A B) B:=
  ifB_i (fun h1=>ifB_i (fun h2=>ha ⟨of_decide_eq_true h1,of_decide_eq_true h2⟩) fun h2=>hb fun h=>of_decide_eq_false h2 h.2) fun h1=>hb fun h=>of_decide_eq_false h1 h.1
theorem digit_c (P:Prog c) {x:Nat} (h:Q (.int (digitI x)) own):SemCall c (n+1) (.ref 188) [.str [x]] own Q X:=by
  refine (P.digit rfl fun as zz=>?_).call
  refine ⟨le_ rfl,x,rfl,?_⟩
  refine cmp2_i (fun h1=>end_ h (by rw [digitI,if_pos h1];rfl)) fun h1=>?_
  refine cmp2_i (fun h2=>end_ h (by rw [digitI,if_neg h1,if_pos h2];rfl)) fun h2=>?_
  refine cmp2_i (fun h3=>end_ h (by rw [digitI,if_neg h1,if_neg h2,if_pos h3];rfl)) fun h3=>?_
  exact end_ h (by rw [digitI,if_neg h1,if_neg h2,if_neg h3];rfl)
theorem digitI_lo (x:Nat):-1≤digitI x:=by unfold digitI;split<;>(try split)<;>(try split)<;>omega
noncomputable def dvalGo (b:Int):List Nat→Int→Option Int
  | [],v=>some v
  | x::r,v=>if digitI x < 0∨b≤digitI x then none else dvalGo b r (v * b+digitI x)
theorem dvalGo_cons (b:Int) (x:Nat) (r:List Nat) (v:Int):dvalGo b (x::r) v=if digitI x < 0∨b≤digitI x then none else dvalGo b r (v * b+digitI x):=rfl
noncomputable def dval (b:Int):List Nat→Option Int
  | []=>none
  | x::r=>dvalGo b (x::r) 0
noncomputable def optI:Option Int→V
  | none=>.non
  | some i=>.int i
theorem or2_i {a b:Prop} [Decidable a] [Decidable b] {A B:Prop} (ha:a∨b→A) (hb:¬ (a∨b)→B):ifB (decide a) A (ifB (decide b) A B):=
  ifB_i (fun h1=>ha (.inl (of_decide_eq_true h1))) fun h1=>ifB_i (fun h2=>ha (.inr (of_decide_eq_true h2))) fun h2=>hb fun h=>h.elim (of_decide_eq_false h1) (of_decide_eq_false h2)
theorem and2_i {a b:Prop} [Decidable a] [Decidable b] {A B:Prop} (ha:a∧b→A) (hb:¬ (a∧b)→B):ifB (decide a) (ifB (decide b) A B) B:=cmp2_i ha hb
theorem mul_room {x y d n:Nat} (h2:y≤16) (h3:d+1≤y) (hv:x < n):x * y+d < n * 16:=
  Nat.lt_of_lt_of_le (Nat.add_lt_add_left h3 _) (Nat.le_trans (by rw [← Nat.succ_mul];exact Nat.mul_le_mul_right _ hv) (Nat.mul_le_mul_left _ h2))
theorem dval_room {v b:Int} {d:Int} {k:Nat} (hv:v.natAbs < 2 ^ (4 * k)) (hb0:0≤b) (hb:b≤16) (hd0:¬ (d < 0∨b≤d)):(v * b+d).natAbs < 2 ^ (4 * (k+1)):=by
  have e:2 ^ (4 * (k+1))=2 ^ (4 * k) * 16:=by rw [Nat.mul_add,Nat.pow_add]
  rw [e]
  have h1:(v * b+d).natAbs≤v.natAbs * b.natAbs+d.natAbs:=by rw [← Int.natAbs_mul];exact Int.natAbs_add_le _ _
  exact Nat.lt_of_le_of_lt h1 (mul_room (by omega) (by omega) hv)
theorem pow_room {k:Nat} (h:k≤100000):2 ^ (4 * k)≤2 ^ 2000000:=Nat.pow_le_pow_right (by decide) (by omega)
theorem base_room {b:Int} (hb0:0≤b) (hb:b≤16):b.natAbs < 2 ^ 2000:=Nat.lt_of_lt_of_le (show b.natAbs < 2 ^ 5 from by omega) (Nat.pow_le_pow_right (by decide) (by decide))
theorem digits_loop (P:Prog c) {t:List Nat} {b:Int} (hb0:0≤b) (hb:b≤16) (r:List Nat):∀(k:Nat) (v:Int) (o3 o4:Option V) {K:PS},v.natAbs < 2 ^ (4 * k)→k+r.length≤100000→(dvalGo b r v=none→Q .non own)→(∀i o3 o4,dvalGo b r v=some i→K ⟨[some (.str t),some (.int b),some (.int i),o3,o4],own⟩)→
    forGo (forP 3 (wpSs c (n+1) tabT digits_value_b0) (seqR (wpSs c (n+1) tabT [.ret (.loc 2)]) (EndQ Q) (EndX X)) (EndX X)) (r.map fun k=>.str [k]) ⟨[some (.str t),some (.int b),some (.int v),o3,o4],own⟩ K:=by
  induction r with
  | nil=>
    intro k v o3 o4 K _ _ _ hk
    exact hk v o3 o4 rfl
  | cons x r ih=>
    intro k v o3 o4 K hv hl hn hk
    refine ⟨188,rfl,rfl,digit_c P ?_⟩
    refine or2_i (fun h=>end_ (hn (if_pos h)) rfl) fun h=>?_
    refine ⟨Nat.lt_of_lt_of_le hv (pow_room (by omega)),base_room hb0 hb,?_⟩
    refine ih (k+1) _ _ _ (dval_room hv hb0 hb h) (by simp only [List.length_cons] at hl;omega) (fun e=>hn ((if_neg h).trans e)) fun i o3 o4 e=>hk i o3 o4 ((if_neg h).trans e)
theorem digits_value_c (P:Prog c) {t:List Nat} {b:Int} (hb0:0≤b) (hb:b≤16) (hl:t.length≤100000) (h:Q (optI (dval b t)) own):SemCall c (n+2) (.ref 195) [.str t,.int b] own Q X:=by
  refine (P.digits_value rfl fun as zz=>?_).call
  induction t using List.casesOn with
  | nil=>exact end_ h rfl
  | cons x r=>
    refine ⟨_,rfl,by rw [List.length_map];exact Nat.le_trans hl (by decide),?_⟩
    refine digits_loop P hb0 hb (x::r) 0 0 none none (by decide) (by omega) (fun e=>?_) fun i o3 o4 e=>end_ h ?_
    · have h:Q (optI (dvalGo b (x::r) 0)) own:=h
      rwa [e] at h
    · show optI (dvalGo b (x::r) 0)=_
      rw [e];rfl
end
section
variable {c:Cx} {n:Nat} {own:Own} {Q:PQ} {X:PX}
theorem ifT {p:Prop} [Decidable p] {A B:Prop} (h:p) (a:A):ifB (decide p) A B:=by rw [decide_eq_true h];exact a
theorem ifF {p:Prop} [Decidable p] {A B:Prop} (h:¬ p) (b:B):ifB (decide p) A B:=by rw [decide_eq_false h];exact b
theorem ifD {p:Prop} [Decidable p] {A B:Prop} (ha:p→A) (hb:¬ p→B):ifB (decide p) A B:=
  ifB_i (fun h=>ha (of_decide_eq_true h)) fun h=>hb (of_decide_eq_false h)
theorem any_iff (x:Nat) (l:List Nat):(l.map fun k=>V.str [k]).any (V.isStr [x])=decide (x∈l):=by
  induction l with
  | nil=>
    exact rfl
  | cons k l ih=>
    rw [List.map_cons,List.any_cons,ih]
    show (([x] == [k]) || decide (x∈l))=_
    by_cases h:x=k<;>simp [h]
theorem inT {x:Nat} (l:List Nat) {A B:Prop} (ha:x∈l→A) (hb:x ∉ l→B):ifB ((l.map fun k=>V.str [k]).any (V.isStr [x])) A B:=by
  rw [any_iff];exact ifD ha hb
theorem notInT {x:Nat} (l:List Nat) {A B:Prop} (ha:x ∉ l→A) (hb:x∈l→B):ifB (!(l.map fun k=>V.str [k]).any (V.isStr [x])) A B:=by
  rw [any_iff];by_cases h:x∈l
  · rw [decide_eq_true h];exact hb h
  · rw [decide_eq_false h];exact ha h
theorem at_ {s pre r:List Nat} {x:Nat} {i:Int} (e:s=pre++x::r) (h:i=pre.length):s[i.toNat]?=some x:=by
  subst e;subst h;simp
theorem part_ {i:Int} {k:Nat} (h:i=k):partN (.int i)=some (some k):=by
  subst h
  show (if (0:Int)≤(k:Int) then some (some (k:Int).toNat) else none)=_
  rw [if_pos (Int.natCast_nonneg k)];rfl
theorem cut_mid {pre mid post:List Nat} {a b:Nat} (ha:a=pre.length) (hb:b=pre.length+mid.length):cutL (pre++(mid++post)) (some a) (some b)=mid:=by
  subst ha;subst hb;simp [cutL,List.take_append]
theorem cut_to {α:Type} {pre post:List α} {b:Nat} (hb:b=pre.length):cutL (pre++post) none (some b)=pre:=by
  subst hb;simp [cutL]
theorem cut_from {α:Type} {pre post:List α} {a:Nat} (ha:a=pre.length):cutL (pre++post) (some a) none=post:=by
  subst ha;simp [cutL,List.take_of_length_le]
theorem cut_none {α:Type} {s:List α}:cutL s none none=s:=by simp [cutL]
noncomputable def baseI (x:Nat):Int:=if x∈[120,88] then 16 else if x∈[111,79] then 8 else if x∈[98,66] then 2 else if x∈[100,68] then 10 else 0
theorem base_of_c (P:Prog c) {x:Nat} (h:Q (.int (baseI x)) own):SemCall c (n+1) (.ref 202) [.str [x]] own Q X:=by
  refine (P.base_of rfl fun as zz=>?_).call
  refine ⟨rfl,inT [120,88] (fun h1=>end_ h (by rw [baseI,if_pos h1];rfl)) fun h1=>?_⟩
  refine ⟨rfl,inT [111,79] (fun h2=>end_ h (by rw [baseI,if_neg h1,if_pos h2];rfl)) fun h2=>?_⟩
  refine ⟨rfl,inT [98,66] (fun h3=>end_ h (by rw [baseI,if_neg h1,if_neg h2,if_pos h3];rfl)) fun h3=>?_⟩
  refine ⟨rfl,inT [100,68] (fun h4=>end_ h (by rw [baseI,if_neg h1,if_neg h2,if_neg h3,if_pos h4];rfl)) fun h4=>?_⟩
  exact end_ h (by rw [baseI,if_neg h1,if_neg h2,if_neg h3,if_neg h4];rfl)
theorem baseI_le (x:Nat):0≤baseI x∧baseI x≤16:=by unfold baseI;split<;>(try split)<;>(try split)<;>(try split)<;>decide
noncomputable def wstrip (t:List Nat):List Nat:=((t.dropWhile blank).reverse.dropWhile blank).reverse
noncomputable def wnum (r:List Nat):Option Int:=match r with
  | []=>none
  | x::r1=>match r1 with
    | []=>dval 10 (x::r1)
    | y::r2=>if x=48∧r2≠[]∧0 < baseI y then dval (baseI y) r2 else dval 10 (x::r1)
theorem wnum_2 (x y:Nat) (r2:List Nat):wnum (x::y::r2)=if x=48∧r2≠[]∧0 < baseI y then dval (baseI y) r2 else dval 10 (x::y::r2):=rfl
noncomputable def wsign (mid:List Nat):Option Int:=match mid with
  | []=>none
  | x::r=>if x=43 then wnum r else if x=45 then (wnum r).map (- ·) else wnum (x::r)
noncomputable def whole (t:List Nat):Option Int:=wsign (wstrip t)
inductive LtI (t:List Nat) (own:Own) (m:Nat):PS
  | mk {pre r:List Nat}:t=pre++r→r.length≤m→t.dropWhile blank=r.dropWhile blank→LtI t own m ⟨[some (.str t),some (.int pre.length),some (.int t.length),none,none,none],own⟩
theorem LtI.up {t:List Nat} {own:Own} {m:Nat} {i j:Int} (h:LtI t own m ⟨[some (.str t),some (.int i),some (.int t.length),none,none,none],own⟩) (e:i=j):LtI t own m ⟨[some (.str t),some (.int j),some (.int t.length),none,none,none],own⟩:=e▸h
inductive RtI (t pre mid:List Nat) (own:Own) (m:Nat):PS
  | mk {rm post:List Nat} {i:Int}:t=pre++(rm.reverse++post)→rm.length≤m→mid.reverse.dropWhile blank=rm.dropWhile blank→i=(pre.length+rm.length:Int)→RtI t pre mid own m ⟨[some (.str t),some (.int pre.length),some (.int i),none,none,none],own⟩
theorem whole_l1 (P:Prog c) {t:List Nat} (hl:t.length≤100000) {R:PS} (hk:∀pre,t=pre++t.dropWhile blank→R ⟨[some (.str t),some (.int pre.length),some (.int t.length),none,none,none],own⟩):
    wpS c (n+2) tabT (.while (.and [.cmp .Lt (.loc 1) (.loc 2),.call (.glob (.ref 181)) [.idx (.loc 0) (.loc 1)]]) whole_of_b0) ⟨[some (.str t),some (.int 0),some (.int t.length),none,none,none],own⟩ (seqK R (EndQ Q)) (EndX X):=by
  refine wh (m:=t.length) (LtI t own) ?_ (.mk (pre:=[]) rfl (Nat.le_refl _) rfl)
  intro m st R' I again
  cases I with | @mk pre r e hm hd=>
  have hlen:t.length=pre.length+r.length:=by rw [← List.length_append,← e]
  induction r using List.casesOn with
  | nil=>exact ifF (by rw [hlen];exact Int.lt_irrefl _) (hk pre (by rw [hd];exact e))
  | cons x r=>
    have hlen:t.length=pre.length+(r.length+1):=hlen
    have hm:r.length+1≤m:=hm
    refine ifT (by lia) ⟨181,rfl,rfl,by lia,by lia,x,at_ e rfl,is_blank_c P ?_⟩
    cases hb:blank x with
    | false=>exact hk pre (by rw [hd,List.dropWhile_cons,hb];exact e)
    | true=>exact (again (m - 1) _ (pr1 hm) (LtI.up (.mk (pre:=pre++[x]) (r:=r) (by rw [e,List.append_assoc];rfl) (Nat.le_sub_one_of_lt hm) (by rw [hd,List.dropWhile_cons,hb];rfl)) (by rw [List.length_append];rfl)))
theorem whole_l2 (P:Prog c) {t pre mid:List Nat} (ht:t=pre++mid) (hl:t.length≤100000) {R:PS} (hk:∀post,t=pre++((mid.reverse.dropWhile blank).reverse++post)→R ⟨[some (.str t),some (.int pre.length),some (.int (pre.length+(mid.reverse.dropWhile blank).reverse.length)),none,none,none],own⟩):
    wpS c (n+2) tabT (.while (.and [.cmp .Lt (.loc 1) (.loc 2),.call (.glob (.ref 181)) [.idx (.loc 0) (.bin .Sub (.loc 2) (.int 1))]]) whole_of_b1) ⟨[some (.str t),some (.int pre.length),some (.int t.length),none,none,none],own⟩ (seqK R (EndQ Q)) (EndX X):=by
  have htl:t.length=pre.length+mid.length:=by rw [ht,List.length_append]
  refine wh (m:=t.length) (RtI t pre mid own) ?_ (.mk (rm:=mid.reverse) (post:=[]) (by rw [List.reverse_reverse,List.append_nil];exact ht) (by rw [List.length_reverse];lia) rfl (by rw [List.length_reverse];lia))
  intro m st R' I again
  cases I with | @mk rm post i e hm hd hi=>
  induction rm using List.casesOn with
  | nil=>
    have hi:i=(pre.length:Int)+0:=hi
    refine ifF (by lia) ?_
    have:=hk post (by rw [hd];exact e)
    rw [hd] at this;rw [hi];exact this
  | cons x r=>
    have hlen:t.length=pre.length+(r.length+1+post.length):=by rw [e,List.length_append,List.length_append,List.length_reverse];rfl
    have hm':r.length+1≤m:=hm
    have hi:i=pre.length+(r.length+1):=hi
    have e:t=(pre++r.reverse)++x::post:=by rw [e,List.reverse_cons,List.append_assoc,List.append_assoc];rfl
    refine ifT (by lia) ⟨181,rfl,rfl,by lia,by lia,x,at_ e (by rw [List.length_append,List.length_reverse];lia),is_blank_c P ?_⟩
    cases hb:blank x with
    | false=>
      have h2:List.dropWhile blank (x::r)=x::r:=by rw [List.dropWhile_cons,hb];rfl
      have:=hk post (by rw [hd,h2,List.reverse_cons,List.append_assoc,← List.append_assoc];exact e)
      rw [hd,h2,List.length_reverse] at this;rw [hi];exact this
    | true=>exact (again (m - 1) _ (pr1 hm) (.mk (rm:=r) (post:=x::post) (by rw [← List.append_assoc];exact e) (Nat.le_sub_one_of_lt hm) (by rw [hd,List.dropWhile_cons,hb];rfl) (by lia)))
theorem sgn_k {G:St→QF→XT→Prop} {Q:QF} {X:XT} {x:Nat} {t:List Nat} {a b:Int} (h:G ⟨[some (.str t),some (.int (a+1)),some (.int b),some (.bool (decide ([x]=[45]))),none,none],own⟩ Q X):
    atS (cmpK .Eq (wpE c (n+2) tabT (.str [45])) (setK (.loc 3) (seqR (wpSs c (n+2) tabT [.aug .Add 1 (.int 1)]) (seqR G Q X) X)) X) ⟨[some (.str t),some (.int a),some (.int b),some (.bool false),none,none],own⟩ (.str [x]):=h
theorem whole_of_c (P:Prog c) {t:List Nat} (hl:t.length≤100000) (h:Q (optI (whole t)) own):SemCall c (n+3) (.ref 209) [.str t] own Q X:=by
  refine (P.whole_of rfl fun as zz=>?_).call
  refine ⟨Nat.le_trans hl (by decide),rfl,?_⟩
  refine whole_l1 P hl fun pre e=>?_
  refine whole_l2 P e hl fun post e2=>?_
  have hw:((t.dropWhile blank).reverse.dropWhile blank).reverse=wstrip t:=rfl
  rw [hw] at e2 ⊢
  generalize hmid:wstrip t=mid at e2 ⊢
  have hlen:t.length=pre.length+(mid.length+post.length):=by rw [e2];simp
  have h:Q (optI (wsign mid)) own:=by rw [← hmid];exact h
  refine ?_
  have tail:∀(pre r:List Nat) (neg:Bool) (v:Option Int),t=pre++(r++post)→v=(if neg then (wnum r).map (- ·) else wnum r)→Q (optI v) own→∀b:Int,b=pre.length+r.length→
      wpSs c (n+2) tabT [.set (.loc 4) (.int 0),.ite (.and [(.cmp .Gt (.bin .Sub (.loc 2) (.loc 1)) (.int 2)),(.cmp .Eq (.idx (.loc 0) (.loc 1)) (.str [48]))]) [.set (.loc 4) (.call (.glob (.ref 202)) [(.idx (.loc 0) (.bin .Add (.loc 1) (.int 1)))])] [],.ite (.cmp .Gt (.loc 4) (.int 0)) [.set (.loc 5) (.call (.glob (.ref 195)) [(.slc (.loc 0) (.bin .Add (.loc 1) (.int 2)) (.loc 2)),(.loc 4)])] [.set (.loc 5) (.call (.glob (.ref 195)) [(.slc (.loc 0) (.loc 1) (.loc 2)),(.int 10)])],.ite (.cmp .Is (.loc 5) .non) [.ret .non] [],.ret (.ite (.loc 3) (.neg (.loc 5)) (.loc 5))]
        ⟨[some (.str t),some (.int pre.length),some (.int b),some (.bool neg),none,none],own⟩ (EndQ Q) (EndX X):=by
    intro pre r neg v e hv hq b hb
    subst hb
    have hlen:t.length=pre.length+(r.length+post.length):=by rw [e];simp
    have fin:∀b0:Option V,wpSs c (n+2) tabT [.ite (.cmp .Is (.loc 5) .non) [.ret .non] [],.ret (.ite (.loc 3) (.neg (.loc 5)) (.loc 5))] ⟨[some (.str t),some (.int pre.length),some (.int (pre.length+r.length)),some (.bool neg),b0,some (optI (wnum r))],own⟩ (EndQ Q) (EndX X):=by
      intro b0
      cases hn:wnum r with
      | none=>
        rw [hn] at hv
        have:v=none:=by rw [hv];cases neg<;>rfl
        rw [this] at hq
        exact end_ hq rfl
      | some i=>
        rw [hn] at hv
        induction neg using Bool.casesOn with
        | false=>rw [hv] at hq;exact end_ hq rfl
        | true=>rw [hv] at hq;exact end_ hq rfl
    have ten:wnum r=dval 10 r→wpSs c (n+2) tabT [.ite (.cmp .Gt (.loc 4) (.int 0)) [.set (.loc 5) (.call (.glob (.ref 195)) [(.slc (.loc 0) (.bin .Add (.loc 1) (.int 2)) (.loc 2)),(.loc 4)])] [.set (.loc 5) (.call (.glob (.ref 195)) [(.slc (.loc 0) (.loc 1) (.loc 2)),(.int 10)])],.ite (.cmp .Is (.loc 5) .non) [.ret .non] [],.ret (.ite (.loc 3) (.neg (.loc 5)) (.loc 5))]
        ⟨[some (.str t),some (.int pre.length),some (.int (pre.length+r.length)),some (.bool neg),some (.int 0),none],own⟩ (EndQ Q) (EndX X):=fun hr=>by
      refine ⟨195,rfl,rfl,_,_,part_ rfl,part_ (k:=pre.length+r.length) (by simp),Nat.le_trans hl (by decide),?_⟩
      have hc:=cut_mid (pre:=pre) (mid:=r) (post:=post) rfl rfl
      rw [← e] at hc
      rw [hc]
      refine digits_value_c P (by decide) (by decide) (by lia) ?_
      rw [← hr]
      exact fin _
    have ten0:wnum r=dval 10 r→∀b0,b0=(0:Int)→wpSs c (n+2) tabT [.ite (.cmp .Gt (.loc 4) (.int 0)) [.set (.loc 5) (.call (.glob (.ref 195)) [(.slc (.loc 0) (.bin .Add (.loc 1) (.int 2)) (.loc 2)),(.loc 4)])] [.set (.loc 5) (.call (.glob (.ref 195)) [(.slc (.loc 0) (.loc 1) (.loc 2)),(.int 10)])],.ite (.cmp .Is (.loc 5) .non) [.ret .non] [],.ret (.ite (.loc 3) (.neg (.loc 5)) (.loc 5))]
        ⟨[some (.str t),some (.int pre.length),some (.int (pre.length+r.length)),some (.bool neg),some (.int b0),none],own⟩ (EndQ Q) (EndX X):=fun hr b0 e=>by subst e;exact ten hr
    refine ?_
    rcases r with _ | ⟨x,_ | ⟨y,r2⟩⟩
    · exact ifF (by simp) (ten rfl)
    · exact ifF (by simp;lia) (ten rfl)
    · by_cases h2:r2=[]
      · subst h2
        exact ifF (by simp;lia) (ten (by rw [wnum_2,if_neg (fun q=>q.2.1 rfl)]))
      · have h2l:0 < r2.length:=List.length_pos_iff.mpr h2
        refine ifT (by simp;lia) ⟨by lia,by simp at hlen;lia,x,at_ (r:=y::(r2++post)) (by rw [e];simp) rfl,ifD (fun hx=>?_) fun hx=>ten (by rw [wnum_2,if_neg (fun q=>hx (by rw [q.1]))])⟩
        refine ⟨202,rfl,rfl,by lia,by simp at hlen;lia,y,at_ (pre:=pre++[x]) (r:=r2++post) (by rw [e];simp) (by simp),base_of_c P ?_⟩
        by_cases hb:0 < baseI y
        · refine ifT hb ⟨195,rfl,rfl,_,_,part_ (k:=pre.length+2) (by simp),part_ (k:=pre.length+(r2.length+2)) (by simp;lia),Nat.le_trans hl (by decide),?_⟩
          have hc:=cut_mid (pre:=pre++[x,y]) (mid:=r2) (post:=post) (a:=pre.length+2) (b:=pre.length+(r2.length+2)) (by simp) (by simp;lia)
          rw [show (pre++[x,y])++(r2++post)=t by rw [e];simp] at hc
          rw [hc]
          refine digits_value_c P (baseI_le y).1 (baseI_le y).2 (by simp at hlen;lia) ?_
          have:wnum (x::y::r2)=dval (baseI y) r2:=by
            have hx':x=48:=by simpa using hx
            rw [wnum_2,if_pos ⟨hx',h2,hb⟩]
          rw [← this]
          exact fin _
        · refine ten0 (by rw [wnum_2,if_neg (fun q=>hb q.2.2)]) _ ?_
          have:=baseI_le y
          lia
  induction mid using List.casesOn with
  | nil=>exact ifF (by simp) (tail pre [] false none (by simpa using e2) rfl h _ (by simp))
  | cons x r=>
    refine ifT (by simp;lia) ⟨by lia,by simp at hlen;lia,x,at_ (r:=r++post) (by rw [e2];simp) rfl,rfl,inT [43,45] (fun hx=>?_) fun hx=>?_⟩
    · refine ⟨by lia,by simp at hlen;lia,x,at_ (r:=r++post) (by rw [e2];simp) rfl,?_⟩
      have:=tail (pre++[x]) r (decide ([x]=[45])) _ (by rw [e2];simp) rfl ?_ (pre.length+(x::r).length) (by simp;lia)
      · rw [show (((pre++[x]).length:Nat):Int)=pre.length+1 by simp] at this
        exact sgn_k this
      · rcases List.mem_cons.mp hx with rfl | hx
        · exact h
        · obtain rfl:x=45:=by simpa using hx
          exact h
    · refine tail pre (x::r) false _ e2 rfl ?_ _ rfl
      have h1:x≠43:=fun q=>hx (by simp [q])
      have h2:x≠45:=fun q=>hx (by simp [q])
      unfold wsign at h
      dsimp only at h
      rw [if_neg h1,if_neg h2] at h
      exact h
end
section
variable {c:Cx} {n:Nat} {own:Own} {Q:PQ} {X:PX}
theorem la {α:Type} {a b:List α} {m n:Nat} (ha:a.length≤m) (hb:b.length≤n):(a++b).length≤m+n:=by rw [List.length_append];exact Nat.add_le_add ha hb
theorem lc {α:Type} {x:α} {b:List α} {n:Nat} (hb:b.length≤n):(x::b).length≤n+1:=Nat.succ_le_succ hb
theorem lapp {α:Type} {q:List α} {x:α} {m:Nat} (h:(q++[x]).length≤m):q.length < m:=by rw [List.length_append] at h;exact h
theorem lw {k m n:Nat} (h:k≤m) (e:Nat.ble m n=true):k≤n:=Nat.le_trans h (Nat.le_of_ble_eq_true e)
theorem lim_ {k:Nat} (h:k≤200000):k≤LIM:=Nat.le_trans h (by decide)
noncomputable def tcl (w:List (List Nat)):V:=.tup (.str [84,67,76]::w.map .str)
noncomputable def rAts (v:List Nat) (ec:List V):List (List Nat×V):=[([99,111,100,101],.int 1),([118,97,108,117,101],.str v),([101,114,114,111,114,99,111,100,101],.tup ec),([108,101,118,101,108],.int 0),([114,101,116],.int 0),([105,110,102,111],.str []),([105,115,95,110,111,116,101,100],.bool false),([108,105,110,101],.int 0),([101,120,116,114,97],.list [])]
theorem Raised_c (P:Prog c) {t:List Nat} {ec:List V} {x:Addr} (h:Q (.own x) ((x,.exc true 84 (rAts t ec))::own)):SemCall c (n+1) (.ref 81) [.own x,.int 1,.str t,.tup ec] ((x,.exc true 84 [])::own) (Made x Q) X:=by
  refine (P.Raised_ini rfl fun as zz=>?_).call
  refine ⟨rfl,84,[],.head _,rfl,?_⟩
  refine ⟨_,_,_,.exc rfl (.head _),le_ rfl,.here,?_⟩
  refine ⟨_,_,_,.exc rfl (.head _),le_ rfl,.here,?_⟩
  refine ⟨_,_,_,.exc rfl (.head _),le_ rfl,.here,?_⟩
  refine ⟨_,_,_,.exc rfl (.head _),le_ rfl,.here,?_⟩
  refine ⟨_,_,_,.exc rfl (.head _),le_ rfl,.here,?_⟩
  refine ⟨_,_,_,.exc rfl (.head _),le_ rfl,.here,?_⟩
  refine ⟨_,_,_,.exc rfl (.head _),le_ rfl,.here,?_⟩
  refine ⟨_,_,_,.exc rfl (.head _),le_ rfl,.here,?_⟩
  refine ⟨_,_,_,.exc rfl (.head _),le_ rfl,.here,?_⟩
  exact end_ (v:=.non) (.mk h) rfl
theorem error_c (P:Prog c) {t:List Nat} {ec:List V} (h:∀x,Q (.own x) ((x,.exc true 84 (rAts t ec))::own)):SemCall c (n+3) (.ref 139) [.str t,.tup ec] own Q X:=by
  refine (P.error rfl fun as zz=>?_).call
  exact ⟨84,rfl,rfl,P.mkRaised (le_ rfl) fun x=>Raised_c P (end_ (h x) rfl)⟩
noncomputable def XE (X:PX) (own:Own) (v:List Nat) (ec:List V):Prop:=∀e,X e ((e,.exc false 84 (rAts v ec))::own)
theorem raise_ (P:Prog c) {t:List Nat} {ec:List V} {st:St} (h:XE X st.own t ec):SemCall c (n+3) (.ref 139) [.str t,.tup ec] st.own (fun r own=>own1 r fun a=>RaiseAt tabT own (fun own'=>EndX X a ⟨st.loc,own'⟩) a) (fun e own=>EndX X e ⟨st.loc,own⟩):=
  error_c P fun x=>⟨84,_,_,.here,rfl,.mk (List.Sublist.refl _) (.head _) (h x)⟩
noncomputable def movedS (x:Nat) (o:Option Int):Option Int:=o.bind fun f=>if x=43 then some f else if x=45 then some (-f) else none
noncomputable def movedP (t:List Nat):Option Int:=match t with
  | []=>none
  | x::r=>movedS x (dval 10 r)
theorem moved_c (P:Prog c) {t:List Nat} {b:Int} (hl:t.length≤100000) (h:Q (optI ((movedP t).map (b+·))) own):SemCall c (n+3) (.ref 216) [.int b,.str t] own Q X:=by
  refine (P.moved rfl fun as zz=>?_).call
  induction t using List.casesOn with
  | nil=>exact ⟨195,rfl,rfl,_,_,part_ (k:=1) rfl,rfl,le_ rfl,digits_value_c P (by decide) (by decide) (by decide) (end_ h rfl)⟩
  | cons x r=>
    refine ⟨195,rfl,rfl,_,_,part_ (k:=1) rfl,rfl,Nat.le_trans hl (by decide),?_⟩
    rw [show cutL (x::r) (some 1) none=r from cut_from (pre:=[x]) rfl]
    refine digits_value_c P (by decide) (by decide) (by simp at hl;lia) ?_
    replace h:Q (optI ((movedS x (dval 10 r)).map (b+·))) own:=h
    revert h
    generalize dval 10 r=o
    intro h
    induction o using Option.casesOn with
    | none=>exact end_ h rfl
    | some f=>
      refine ⟨by decide,by decide,x,rfl,ifD (fun h1=>?_) fun h1=>⟨by decide,by decide,x,rfl,ifD (fun h2=>?_) fun h2=>?_⟩⟩
      · cases h1;exact end_ h rfl
      · cases h2;exact end_ h rfl
      · refine end_ h ?_
        show optI (Option.map _ (if x=43 then some f else if x=45 then some (-f) else none))=_
        rw [if_neg (fun e=>h1 (by rw [e])),if_neg (fun e=>h2 (by rw [e]))];rfl
noncomputable def cutGo:Nat→List Nat→List Nat×List Nat
  | _,[]=>([],[])
  | p,y::r=>if y∈[43,45]∧blank p=false then ([],y::r) else (y::(cutGo y r).1,(cutGo y r).2)
theorem cutGo_eq:∀(p:Nat) (r:List Nat),(cutGo p r).1++(cutGo p r).2=r
  | _,[]=>rfl
  | p,y::r=>by
    unfold cutGo
    split
    · rfl
    · rw [List.cons_append,cutGo_eq y r]
noncomputable def idxB (t:List Nat):Option Int:=match t with
  | []=>none
  | x::r=>match whole (x::(cutGo x r).1) with
    | none=>none
    | some b=>(movedP (cutGo x r).2).map (b+·)
noncomputable def idxP (t:List Nat):Option (Bool×Int):=match whole t with
  | some i=>some (false,i)
  | none=>if [101,110,100].isPrefixOf t then (if t=[101,110,100] then some (true,0) else (movedP (t.drop 3)).map fun d=>(true,d)) else (idxB t).map fun d=>(false,d)
noncomputable def atI (last:Int) (p:Bool×Int):Int:=if p.1 then last+p.2 else p.2
noncomputable def badMsg (t:List Nat):List Nat:=[98,97,100,32,105,110,100,101,120,32,34]++t++[34,58,32,109,117,115,116,32,98,101,32,105,110,116,101,103,101,114,63,91,43,45,93,105,110,116,101,103,101,114,63,32,111,114,32,101,110,100,63,91,43,45,93,105,110,116,101,103,101,114,63]
noncomputable def badEc:List V:=[.str [84,67,76],.str [86,65,76,85,69],.str [73,78,68,69,88]]
theorem index_of_c (P:Prog c) {t:List Nat} {last:Int} (hl:t.length≤100000) (hq:∀p,idxP t=some p→Q (.int (atI last p)) own) (hx:idxP t=none→XE X own (badMsg t) badEc):SemCall c (n+4) (.ref 223) [.str t,.int last] own Q X:=by
  refine (P.index_of rfl fun as zz=>?_).call
  refine ⟨209,rfl,rfl,whole_of_c P hl ?_⟩
  cases hw:whole t with
  | some i=>exact end_ (hq (false,i) (by unfold idxP;rw [hw])) rfl
  | none=>
    have fin:∀(p:Option (Bool×Int)) (v:V) (o3 o4:Option V),idxP t=p→v=optI (p.map (atI last))→wpSs c (n+3) tabT (index_of_ms.drop 3)
        ⟨[some (.str t),some (.int last),some v,o3,o4],own⟩ (EndQ Q) (EndX X):=by
      intro p v o3 o4 hp hv
      subst hv
      induction p using Option.casesOn with
      | some p=>exact end_ (hq p hp) rfl
      | none=>
        exact ⟨139,rfl,rfl,lim_ (lw (Nat.add_le_add (Nat.le_refl _) hl) rfl),lim_ (lw (Nat.add_le_add (la (Nat.le_refl _) hl) (Nat.le_refl _)) rfl),raise_ P (st:=⟨_,own⟩) (hx hp)⟩
    cases he:[101,110,100].isPrefixOf t with
    | true=>
      have e1:idxP t=if t=[101,110,100] then some (true,0) else (movedP (t.drop 3)).map fun d=>(true,d):=by unfold idxP;rw [hw,if_pos he]
      show ifB ([101,110,100].isPrefixOf t) _ _
      rw [he]
      refine ifD (fun h=>?_) fun h=>?_
      · refine fin (some (true,0)) (.int last) none none (by rw [e1,if_pos h]) ?_
        show V.int last=V.int (last+0)
        rw [Int.add_zero]
      · obtain ⟨r,rfl⟩:∃r,t=[101,110,100]++r:=by
          obtain ⟨r,e⟩:=List.isPrefixOf_iff_prefix.mp he
          exact ⟨r,e.symm⟩
        refine ⟨216,rfl,rfl,_,_,part_ (k:=3) rfl,rfl,Nat.le_trans hl (by decide),?_⟩
        rw [show cutL ([101,110,100]++r) (some 3) none=r from cut_from rfl]
        refine moved_c P (by simp at hl;lia) (fin _ _ none none (by rw [e1,if_neg h]) ?_)
        show optI _=optI (Option.map _ (Option.map _ (movedP r)))
        cases movedP r<;>rfl
    | false=>
      have e1:idxP t=(idxB t).map fun d=>(false,d):=by unfold idxP;rw [hw,if_neg (by rw [he];decide)]
      show ifB ([101,110,100].isPrefixOf t) _ _
      rw [he]
      refine ?_
      have tail:∀(k:Nat) (a b:List Nat),cutL t none (some k)=a→cutL t (some k) none=b→a.length≤100000→b.length≤100000→(idxB t=(whole a).bind fun x=>(movedP b).map (x+·))→wpSs c (n+3) tabT [.set (.loc 4) (.call (.glob (.ref 209)) [(.slc (.loc 0) .non (.loc 3))]),.ite (.cmp .IsNot (.loc 4) .non) [.set (.loc 2) (.call (.glob (.ref 216)) [(.loc 4),(.slc (.loc 0) (.loc 3) .non)])] []] ⟨[some (.str t),some (.int last),some .non,some (.int k),none],own⟩ (seqR (wpSs c (n+3) tabT (index_of_ms.drop 3)) (EndQ Q) (EndX X)) (EndX X):=by
        intro k a b ha hb la lb hi
        refine ⟨209,rfl,rfl,_,_,rfl,part_ rfl,lim_ (by lia),?_⟩
        rw [ha]
        refine whole_of_c P la ?_
        cases hwa:whole a with
        | none=>
          rw [hwa] at hi
          show wpSs c (n+3) tabT (index_of_ms.drop 3) ⟨[some (.str t),some (.int last),some .non,some (.int k),some .non],own⟩ (EndQ Q) (EndX X)
          exact fin none _ _ _ (by rw [e1,hi];rfl) rfl
        | some x=>
          rw [hwa] at hi
          refine ⟨216,rfl,rfl,_,_,part_ rfl,rfl,lim_ (by lia),?_⟩
          rw [hb]
          refine moved_c P lb ((fin _ _ _ _ e1 ?_))
          rw [hi]
          show optI _=optI (Option.map _ (Option.map _ (Option.map _ (movedP b))))
          cases movedP b<;>rfl
      induction t using List.casesOn with
      | nil=>exact wh (m:=0) (fun zz st=>st=_) (fun m st R e zz=>by subst e;exact ⟨le_ rfl,tail 1 [] [] rfl rfl (by decide) (by decide) rfl⟩) rfl
      | cons x r=>
        refine wh (m:=r.length) (fun m st=>∃pre p r2,x::r=pre++p::r2∧r2.length≤m∧pre++p::(cutGo p r2).1=x::(cutGo x r).1∧(cutGo p r2).2=(cutGo x r).2∧st=⟨[some (.str (x::r)),some (.int last),some .non,some (.int ((pre.length+1:Nat):Int)),none],own⟩) ?_ ⟨[],x,r,rfl,Nat.le_refl _,rfl,rfl,rfl⟩
        rintro m st R ⟨pre,p,r2,e,hm,hc1,hc2,rfl⟩ again
        have hl2:pre.length+(r2.length+1)≤100000:=by have:=congrArg List.length e;simp at this hl;lia
        have stop:(cutGo p r2).1=[]→(cutGo p r2).2=r2→wpSs c (n+3) tabT [.set (.loc 4) (.call (.glob (.ref 209)) [(.slc (.loc 0) .non (.loc 3))]),.ite (.cmp .IsNot (.loc 4) .non) [.set (.loc 2) (.call (.glob (.ref 216)) [(.loc 4),(.slc (.loc 0) (.loc 3) .non)])] []] ⟨[some (.str (x::r)),some (.int last),some .non,some (.int ((pre.length+1:Nat):Int)),none],own⟩ (seqR (wpSs c (n+3) tabT (index_of_ms.drop 3)) (EndQ Q) (EndX X)) (EndX X):=fun h1 h2=>by
          rw [h1] at hc1;rw [h2] at hc2
          have e':x::r=(pre++[p])++r2:=by rw [e];simp
          refine tail _ (pre++[p]) r2 (by rw [e'];exact cut_to (by simp)) (by rw [e'];exact cut_from (by simp)) (by simp;lia) (by lia) ?_
          unfold idxB
          dsimp only
          rw [← hc1,← hc2]
          cases whole (pre++[p])<;>rfl
        induction r2 using List.casesOn with
        | nil=>exact ⟨lim_ (by lia),ifF (by rw [e];simp) (stop rfl rfl)⟩
        | cons y r3=>
          have go:(¬ (y∈[43,45]∧blank p=false))→R ⟨[some (.str (x::r)),some (.int last),some .non,some (.int (((pre.length+1:Nat):Int)+1)),none],own⟩:=fun hn=>by
            have ec:cutGo p (y::r3)=(y::(cutGo y r3).1,(cutGo y r3).2):=if_neg hn
            rw [ec] at hc1 hc2
            exact again (m - 1) _ (pr1 hm) ⟨pre++[p],y,r3,by rw [e];simp,Nat.le_sub_one_of_lt hm,by rw [← hc1];simp,hc2,by simp⟩
          refine ⟨lim_ (by lia),ifT (by rw [e];simp;lia) ⟨by lia,by simp at hl2;lia,y,at_ (pre:=pre++[p]) (r:=r3) (by rw [e];simp) (by simp),rfl,notInT [43,45] (fun h=>(go fun q=>h q.1)) fun h=>?_⟩⟩
          refine ⟨181,rfl,rfl,by lia,by simp at hl2;lia,p,at_ (pre:=pre) (r:=y::r3) e (by simp),is_blank_c P ?_⟩
          cases hb:blank p with
          | true=>exact (go fun q=>by rw [hb] at q;cases q.2)
          | false=>
            have ec:cutGo p (y::r3)=([],y::r3):=if_pos ⟨h,hb⟩
            exact stop (by rw [ec]) (by rw [ec])
end
section
variable {c:Cx} {n:Nat} {own:Own} {Q:PQ} {X:PX}
theorem XE.up {m:List Nat} {ec:List V} {loc:List (Option V)} (pre:Own) (h:XE X own m ec):XE (fun e o=>EndX X e ⟨loc,o⟩) (pre++own) m ec:=fun e=>.mk ((List.sublist_append_right pre own).cons_cons _) (.head _) (h e)
theorem endP {f:Fl} {loc:List (Option V)} {v:V} (pre:Own) (h:Q v own) (e:v=retV f):EndQ Q f ⟨loc,pre++own⟩:=.mk (List.sublist_append_right _ _) (e▸h)
noncomputable def tclL (w:List Nat):List V:=[.str [84,67,76],.str [86,65,76,85,69],.str [76,73,83,84],.str w]
noncomputable def junkW (r:List Nat):List Nat:=(r.take 20).takeWhile fun x=>!blank x
noncomputable def junkMsg (what r:List Nat):List Nat:=[108,105,115,116,32,101,108,101,109,101,110,116,32,105,110,32]++what++[32,102,111,108,108,111,119,101,100,32,98,121,32,34]++junkW r++[34,32,105,110,115,116,101,97,100,32,111,102,32,115,112,97,99,101]
set_option genCtorIdx false in
inductive FE where
  | none
  | got (e r:List Nat)
  | bad (m:List Nat) (ec:List V)
noncomputable def FE.ctorIdx (x:FE):Nat:=@FE.casesOn (fun _=>Nat) x 0 (fun _ _=>1) (fun _ _=>2)
noncomputable def behind (what e r:List Nat):FE:=match r with
  | []=>.got e r
  | x::_=>if blank x then .got e r else .bad (junkMsg what r) (tclL [74,85,78,75])
inductive BhQ (what r:List Nat) (Q:PQ) (X:PX) (own:Own):Prop
  | ok:(∀e,behind what e r=.got e r)→Q .non own→BhQ what r Q X own
  | bad:(∀e,behind what e r=.bad (junkMsg what r) (tclL [74,85,78,75]))→XE X own (junkMsg what r) (tclL [74,85,78,75])→BhQ what r Q X own
theorem junk_len (r:List Nat):(junkW r).length≤20:=Nat.le_trans (List.takeWhile_sublist _).length_le (by rw [List.length_take];exact Nat.min_le_left _ _)
inductive BhI (t pre what r:List Nat) (own:Own) (m:Nat):PS
  | mk {j r2:List Nat} {i:Int} {k:Nat}:r=j++r2→r2.length≤m→k+j.length=20→j.length≤20→junkW r=j++(r2.take k).takeWhile (fun x=>!blank x)→i=(pre.length+j.length:Int)→BhI t pre what r own m ⟨[some (.str t),some (.int pre.length),some (.str what),some (.int i)],own⟩
theorem bh0 {k j:Nat} {i p:Int} (hk:k+j=20) (hi:i=p+j) (h:¬ i < p+20):k=0:=by lia
theorem bh1 {k j:Nat} {i p:Int} (hk:k+j=20) (hi:i=p+j) (h:i < p+20):∃k',k=k'+1∧k'+(j+1)=20:=⟨19 - j,by lia,by lia⟩
theorem check_behind_c (P:Prog c) {t pre r what:List Nat} (ht:t=pre++r) (hl:t.length≤100000) (hw:what.length≤100) {a:Int} (ha:a=pre.length) (hq:(∀e,behind what e r=.got e r)→Q .non own) (hx:(∀e,behind what e r=.bad (junkMsg what r) (tclL [74,85,78,75]))→XE X own (junkMsg what r) (tclL [74,85,78,75])):SemCall c (n+4) (.ref 251) [.str t,.int a,.str what] own Q X:=by
  subst ha
  have hlen:t.length=pre.length+r.length:=by rw [ht,List.length_append]
  refine (P.check_behind rfl fun as zz=>?_).call
  refine ⟨lim_ (by lia),?_⟩
  induction r using List.casesOn with
  | nil=>exact ifT (by rw [hlen];simp) (end_ (hq fun zz=>rfl) rfl)
  | cons x r=>
    have hlen':t.length=pre.length+(r.length+1):=hlen
    refine ifF (by rw [hlen'];lia) ⟨181,rfl,rfl,by lia,by lia,x,at_ ht rfl,is_blank_c P ?_⟩
    cases hb:blank x with
    | true=>exact end_ (hq fun e=>if_pos hb) rfl
    | false=>
      have hbad:∀e,behind what e (x::r)=.bad (junkMsg what (x::r)) (tclL [74,85,78,75]):=fun e=>if_neg (by rw [hb];decide)
      refine ?_
      refine wh (m:=r.length+1) (BhI t pre what (x::r) own) ?_ (.mk (j:=[]) (k:=20) rfl (Nat.le_refl _) rfl (by decide) rfl (Int.add_zero _).symm)
      intro m st R I again
      cases I with | @mk j r2 i k e hm hk hj hju hi=>
      have hlj:r.length+1=j.length+r2.length:=by have:=congrArg List.length e;simpa using this
      have stop:(r2.take k).takeWhile (fun x=>!blank x)=[]→wpSs c (n+3) tabT (check_behind_ms.drop 3) ⟨[some (.str t),some (.int pre.length),some (.str what),some (.int i)],own⟩ (EndQ Q) (EndX X):=fun h0=>by
        rw [h0,List.append_nil] at hju
        have hjl:=junk_len (x::r)
        rw [hju] at hjl
        refine ⟨139,rfl,rfl,lim_ (lw (Nat.add_le_add (Nat.le_refl _) hw) rfl),lim_ (lw (Nat.add_le_add (la (Nat.le_refl _) hw) (Nat.le_refl _)) rfl),_,_,part_ (k:=pre.length) rfl,part_ (k:=pre.length+j.length) (by rw [hi];simp),lim_ (by lia),?_⟩
        have hc:=cut_mid (pre:=pre) (mid:=j) (post:=r2) rfl rfl
        rw [← e,← ht] at hc
        rw [hc]
        refine ⟨lim_ (lw (Nat.add_le_add (la (la (Nat.le_refl _) hw) (Nat.le_refl _)) hjl) rfl),lim_ (lw (Nat.add_le_add (la (la (la (Nat.le_refl _) hw) (Nat.le_refl _)) hjl) (Nat.le_refl _)) rfl),raise_ P (st:=⟨_,own⟩) ?_⟩
        have:=hx hbad
        unfold junkMsg at this
        rw [hju] at this
        exact this
      induction r2 using List.casesOn with
      | nil=>exact ⟨lim_ (by lia),ifF (by simp at hlj;lia) (stop (by simp))⟩
      | cons y r3=>
        simp only [List.length_cons] at hlj hm
        refine ⟨lim_ (by lia),ifT (by lia) (ifD (fun h20=>?_) fun h20=>stop (by rw [bh0 hk hi h20];rfl))⟩
        obtain ⟨k',rfl,hk'⟩:=bh1 hk hi h20
        refine ⟨181,rfl,rfl,by lia,by lia,y,at_ (pre:=pre++j) (r:=r3) (by rw [ht,e];simp) (by simp;omega),is_blank_c P ?_⟩
        cases hby:blank y with
        | true=>exact stop (by rw [List.take_succ_cons,List.takeWhile_cons,hby];rfl)
        | false=>exact (again (m - 1) _ (pr1 hm) (.mk (j:=j++[y]) (r2:=r3) (k:=k') (by rw [e];simp) (Nat.le_sub_one_of_lt hm) (by rw [List.length_append];exact hk') (by rw [List.length_append];exact Nat.le_trans (Nat.le_add_left _ k') (Nat.le_of_eq hk')) (by rw [hju,List.take_succ_cons,List.takeWhile_cons,hby];simp) (by rw [hi,List.length_append];exact Int.add_assoc _ _ _)))
end
section
variable {c:Cx} {n:Nat} {own:Own} {Q:PQ} {X:PX}
noncomputable def escs:List Nat:=[93,123,92,32,35,34]
noncomputable def tame:List Nat→Bool
  | []=>true
  | x::r=>match r with
    | []=>true
    | y::r'=>if x=92 then (decide (y∈escs) && tame r') else tame (y::r')
theorem tame_tail {x:Nat} {r:List Nat} (h:tame (x::r)=true) (hx:x≠92):tame r=true:=by
  induction r using List.casesOn with
  | nil=>rfl
  | cons y r=>
    have h:(if x=92 then (decide (y∈escs) && tame r) else tame (y::r))=true:=h
    rwa [if_neg hx] at h
theorem tame_esc {y:Nat} {r:List Nat} (h:tame (92::y::r)=true):y∈escs∧tame r=true:=by
  have h:(decide (y∈escs) && tame r)=true:=h
  exact ⟨of_decide_eq_true (and2 h).1,(and2 h).2⟩
theorem backslash_end (P:Prog c) {t pre:List Nat} (ht:t=pre++[92]) (hl:t.length≤100000) {a:Int} (ha:a=pre.length) (h:Q (.tup [.str [92],.int (a+1)]) own):SemCall c (n+1) (.ref 244) [.str t,.int a] own Q X:=by
  refine (P.backslash rfl fun as zz=>?_).call
  have hc:cutL t (some (pre.length+1)) (some (pre.length+2))=[]:=by rw [ht];simp [cutL]
  refine ⟨_,_,part_ (k:=pre.length+1) (by rw [ha];rfl),part_ (k:=pre.length+2) (by rw [ha];rfl),lim_ (Nat.le_trans hl (by decide)),?_⟩
  rw [hc]
  exact (end_ h rfl)
theorem backslash_c (P:Prog c) {t pre r:List Nat} {y:Nat} (ht:t=pre++92::y::r) (hl:t.length≤100000) (hy:y∈escs) {a:Int} (ha:a=pre.length) (h:Q (.tup [.str [y],.int (a+2)]) own):SemCall c (n+1) (.ref 244) [.str t,.int a] own Q X:=by
  refine (P.backslash rfl fun as zz=>?_).call
  have hc:cutL t (some (pre.length+1)) (some (pre.length+2))=[y]:=by
    have:=cut_mid (pre:=pre++[92]) (mid:=[y]) (post:=r) (a:=pre.length+1) (b:=pre.length+2) (by simp) (by simp)
    rw [ht];simpa using this
  refine ⟨_,_,part_ (k:=pre.length+1) (by rw [ha];rfl),part_ (k:=pre.length+2) (by rw [ha];rfl),lim_ (Nat.le_trans hl (by decide)),?_⟩
  rw [hc]
  refine ?_
  have key:∀y∈escs,idxI y [97,98,102,110,114,116,118]=-1∧y≠10∧y ∉ [120,117,85]∧y ∉ [48,49,50,51,52,53,54,55]:=by decide
  obtain ⟨k1,k2,k3,k4⟩:=key y hy
  refine ⟨y,rfl,?_⟩
  rw [k1]
  refine ifF (fun e=>k2 (by simpa using e)) ⟨rfl,inT [120,117,85] (fun h=>absurd h k3) fun zz=>⟨rfl,inT [48,49,50,51,52,53,54,55] (fun h=>absurd h k4) fun zz=>(end_ h rfl)⟩⟩
noncomputable def brc:Nat→List Nat→Option (List Nat×List Nat)
  | _,[]=>none
  | d,x::r=>if x=92 then (match r with
      | []=>none
      | y::r'=>(brc d r').map fun p=>(92::y::p.1,p.2))
    else if x=123 then (brc (d+1) r).map fun p=>(123::p.1,p.2)
    else if x=125 then (match d with
      | 0=>some ([],r)
      | d'+1=>(brc d' r).map fun p=>(125::p.1,p.2))
    else (brc d r).map fun p=>(x::p.1,p.2)
theorem brc_cons (d x:Nat) (r:List Nat):brc d (x::r)=if x=92 then (match r with
      | []=>none
      | y::r'=>(brc d r').map fun p=>(92::y::p.1,p.2))
    else if x=123 then (brc (d+1) r).map fun p=>(123::p.1,p.2)
    else if x=125 then (match d with
      | 0=>some ([],r)
      | d'+1=>(brc d' r).map fun p=>(125::p.1,p.2))
    else (brc d r).map fun p=>(x::p.1,p.2):=by cases r<;>cases d<;>kernel_rfl
theorem brc_open (d:Nat) (r:List Nat):brc d (123::r)=(brc (d+1) r).map fun p=>(123::p.1,p.2):=by kernel_rfl
theorem brc_close0 (r:List Nat):brc 0 (125::r)=some ([],r):=by kernel_rfl
theorem brc_close (d:Nat) (r:List Nat):brc (d+1) (125::r)=(brc d r).map fun p=>(125::p.1,p.2):=by kernel_rfl
theorem brc_esc (d y:Nat) (r:List Nat):brc d (92::y::r)=(brc d r).map fun p=>(92::y::p.1,p.2):=by kernel_rfl
theorem brc_end (d:Nat):brc d [92]=none:=by kernel_rfl
theorem brc_else {d x:Nat} {r:List Nat} (h1:x≠92) (h2:x≠123) (h3:x≠125):brc d (x::r)=(brc d r).map fun p=>(x::p.1,p.2):=by rw [brc_cons,if_neg h1,if_neg h2,if_neg h3]
theorem map_map' {j:List Nat} {q:Option (List Nat×List Nat)} {f:List Nat→List Nat}:Option.map (fun p:List Nat×List Nat=>(j++p.1,p.2)) (q.map fun p=>(f p.1,p.2))=q.map fun p=>(j++f p.1,p.2):=by cases q<;>rfl
noncomputable def braceMsg:List Nat:=[117,110,109,97,116,99,104,101,100,32,111,112,101,110,32,98,114,97,99,101,32,105,110,32,108,105,115,116]
noncomputable def bracesW:List Nat:=[98,114,97,99,101,115]
noncomputable def braced (s:List Nat):FE:=match brc 0 s with
  | none=>.bad braceMsg (tclL [66,82,65,67,69])
  | some p=>behind bracesW p.1 p.2
noncomputable def FEQ (t:List Nat) (Q:PQ) (X:PX) (own:Own):FE→Prop
  | .none=>Q .non own
  | .got e r=>∀pre i,t=pre++r→i=(pre.length:Int)→Q (.tup [.str e,.int i]) own
  | .bad m ec=>XE X own m ec
inductive BrI (t pre s:List Nat) (own:Own) (m:Nat):PS
  | mk {j r:List Nat} {d:Nat} {i k:Int} {o4:Option V}:s=j++r→r.length≤m→brc 0 s=(brc d r).map (fun p=>(j++p.1,p.2))→(i=(pre.length+j.length:Int)∨(r=[]∧(pre.length+j.length:Int)≤i))→k=(d+1:Int)→BrI t pre s own m ⟨[some (.str t),some (.int pre.length),some (.int k),some (.int i),o4],own⟩
theorem braced_c (P:Prog c) {t pre s:List Nat} (ht:t=pre++s) (hl:t.length≤100000) {a:Int} (ha:a=pre.length) (h:FEQ t Q X own (braced s)):SemCall c (n+5) (.ref 258) [.str t,.int a] own Q X:=by
  subst ha
  refine (P.braced_element rfl fun as zz=>?_).call
  refine ⟨rfl,?_⟩
  refine wh (m:=s.length) (BrI t pre s own) ?_ (.mk (j:=[]) (d:=0) rfl (Nat.le_refl _) (by cases brc 0 s<;>rfl) (.inl (Int.add_zero _).symm) rfl)
  intro m st R I again
  cases I with | @mk j r d i k o4 e hm hb hi hk=>
  have hlen:t.length=pre.length+(j.length+r.length):=by rw [ht,e,List.length_append,List.length_append]
  refine ⟨lim_ (by lia),?_⟩
  induction r using List.casesOn with
  | nil=>
    refine ifF (by rw [hlen];simp;rcases hi with hi | hi<;>lia) ⟨139,rfl,rfl,raise_ P (st:=⟨_,own⟩) ?_⟩
    have:braced s=.bad braceMsg (tclL [66,82,65,67,69]):=by unfold braced;rw [hb];rfl
    rw [this] at h;exact h
  | cons x r=>
    have hlen':t.length=pre.length+(j.length+(r.length+1)):=hlen
    have hm':r.length+1≤m:=hm
    clear hlen
    replace hi:i=pre.length+j.length:=hi.elim id fun q=>by cases q.1
    refine ifT (by rw [hlen',hi];lia) ⟨by lia,by lia,x,at_ (pre:=pre++j) (r:=r) (by rw [ht,e];simp) (by rw [hi];simp),?_⟩
    have more:∀(k2:Int) (d2:Nat) (o:Option V),k2=d2+1→brc 0 s=(brc d2 r).map (fun p=>(j++x::p.1,p.2))→R ⟨[some (.str t),some (.int pre.length),some (.int k2),some (.int (i+1)),o],own⟩:=fun k2 d2 o h2 h1=>
      again (m - 1) _ (pr1 hm) (.mk (j:=j++[x]) (by rw [e,List.append_assoc];rfl) (Nat.le_sub_one_of_lt hm) (by rw [h1];simp) (.inl (by rw [hi,List.length_append];exact Int.add_assoc _ _ _)) h2)
    refine ifD (fun h92=>?_) fun h92=>ifD (fun h123=>?_) fun h123=>ifD (fun h125=>?_) fun h125=>?_
    · have hx:=(List.cons.inj h92).1
      rw [hx] at hb e
      refine ?_
      induction r using List.casesOn with
      | nil=>
        exact again (m - 1) _ (pr1 hm) (.mk (j:=j++[92]) (d:=d) (by rw [e,List.append_assoc];rfl) (Nat.zero_le _) (by rw [hb,brc_end];rfl) (.inr ⟨rfl,by rw [hi];simp;lia⟩) hk)
      | cons y r=>
        have hm2:r.length+2≤m:=hm
        exact again (m - 1) _ (pr1 hm) (.mk (j:=j++[92,y]) (d:=d) (by rw [e,List.append_assoc];rfl) (Nat.le_trans (Nat.le_succ _) (Nat.le_sub_one_of_lt hm)) (by rw [hb,brc_esc,map_map' (f:=fun p=>92::y::p)];simp) (.inl (by rw [hi];simp;lia)) hk)
    · exact (more (k+1) (d+1) _ (by rw [hk];rfl) (by rw [hb,(List.cons.inj h123).1,brc_open,map_map']))
    · have hx:=(List.cons.inj h125).1
      refine ?_
      induction d using Nat.casesOn with
      | zero=>
        have hbr:braced s=behind bracesW j r:=by unfold braced;rw [hb,hx,brc_close0];simp
        rw [hbr] at h
        refine ifT (by rw [hk];rfl) ⟨251,rfl,rfl,check_behind_c P (pre:=pre++(j++[125])) (r:=r) (by rw [ht,e,hx];simp) hl (by decide) (by rw [hi];simp;lia) (fun hq=>?_) fun hx=>?_⟩
        · rw [show behind bracesW j r=.got j r from hq j] at h
          refine ⟨_,_,part_ (k:=pre.length) rfl,part_ (k:=pre.length+j.length) (by rw [hi];simp),lim_ (by lia),?_⟩
          have hc:=cut_mid (pre:=pre) (mid:=j) (post:=x::r) rfl rfl
          rw [← e,← ht] at hc
          rw [hc]
          exact (end_ (h (pre++(j++[125])) _ (by rw [ht,e,hx];simp) (by rw [hi];simp;lia)) rfl)
        · rw [show behind bracesW j r=_ from hx j] at h
          exact XE.up [] h
      | succ d=>
        exact ifF (by rw [hk];simp;lia) (more (k - 1) d _ (by rw [hk];simp) (by rw [hb,hx,brc_close,map_map']))
    · refine (more k d _ hk (by rw [hb,brc_else (fun q=>h92 (by rw [q])) (fun q=>h123 (by rw [q])) (fun q=>h125 (by rw [q])),map_map']))
end
section
variable {c:Cx} {n:Nat} {own:Own} {Q:PQ} {X:PX}
theorem lt_lim {k:Nat} (h:k≤200000):k < LIM:=Nat.lt_of_le_of_lt h (by decide)
noncomputable def chrs (l:List Nat):List V:=l.map fun k=>.str [k]
theorem chrs_snoc (l:List Nat) (x:Nat):chrs l++[.str [x]]=chrs (l++[x]):=by simp [chrs]
theorem joinS_chr:∀l:List Nat,joinS [] (chrs l)=some l
  | []=>rfl
  | [x]=>rfl
  | x::y::r=>by
    show (joinS [] (chrs (y::r))).map _=_
    rw [joinS_chr (y::r)];rfl
noncomputable def quo:List Nat→Option (List Nat×List Nat)
  | []=>none
  | x::r=>if x=92 then (match r with
      | []=>none
      | y::r'=>(quo r').map fun p=>(y::p.1,p.2))
    else if x=34 then some ([],r) else (quo r).map fun p=>(x::p.1,p.2)
theorem quo_esc (y:Nat) (r:List Nat):quo (92::y::r)=(quo r).map fun p=>(y::p.1,p.2):=rfl
theorem quo_end:quo [92]=none:=rfl
theorem quo_cons (x:Nat) (r:List Nat):quo (x::r)=if x=92 then (match r with
      | []=>none
      | y::r'=>(quo r').map fun p=>(y::p.1,p.2))
    else if x=34 then some ([],r) else (quo r).map fun p=>(x::p.1,p.2):=by cases r<;>kernel_rfl
theorem quo_close (r:List Nat):quo (34::r)=some ([],r):=by kernel_rfl
theorem quo_else {x:Nat} {r:List Nat} (h1:x≠92) (h2:x≠34):quo (x::r)=(quo r).map fun p=>(x::p.1,p.2):=by rw [quo_cons,if_neg h1,if_neg h2]
noncomputable def bar:List Nat→List Nat×List Nat
  | []=>([],[])
  | x::r=>if blank x=true then ([],x::r) else if x=92 then (match r with
      | []=>([92],[])
      | y::r'=>(y::(bar r').1,(bar r').2))
    else (x::(bar r).1,(bar r).2)
theorem bar_cons (x:Nat) (r:List Nat):bar (x::r)=if blank x=true then ([],x::r) else if x=92 then (match r with
      | []=>([92],[])
      | y::r'=>(y::(bar r').1,(bar r').2))
    else (x::(bar r).1,(bar r).2):=by cases r<;>kernel_rfl
theorem bar_blank {x:Nat} {r:List Nat} (h:blank x=true):bar (x::r)=([],x::r):=by rw [bar_cons,if_pos h]
theorem bar_esc (y:Nat) (r:List Nat):bar (92::y::r)=(y::(bar r).1,(bar r).2):=by kernel_rfl
theorem bar_end:bar [92]=([92],[]):=by kernel_rfl
theorem bar_else {x:Nat} {r:List Nat} (h:blank x=false) (h1:x≠92):bar (x::r)=(x::(bar r).1,(bar r).2):=by rw [bar_cons,if_neg (by rw [h];decide),if_neg h1]
noncomputable def quoteMsg:List Nat:=[117,110,109,97,116,99,104,101,100,32,111,112,101,110,32,113,117,111,116,101,32,105,110,32,108,105,115,116]
noncomputable def quotesW:List Nat:=[113,117,111,116,101,115]
noncomputable def quoted (s:List Nat):FE:=match quo s with
  | none=>.bad quoteMsg (tclL [81,85,79,84,69])
  | some p=>behind quotesW p.1 p.2
inductive ElI (t:List Nat) (D:List Nat→List Nat→Prop) (a:Addr) (own:Own) (m:Nat):PS
  | mk {pre' r acc:List Nat} {L:List V} {i:Int} {o4:Option V}:t=pre'++r→tame r=true→r.length≤m→D acc r→i=(pre'.length:Int)→L=chrs acc→acc.length≤pre'.length→ElI t D a own m ⟨[some (.str t),some (.int i),some (.own a),o4],(a,.list L)::own⟩
theorem quoted_c (P:Prog c) {t pre s:List Nat} (ht:t=pre++s) (hs:tame s=true) (hl:t.length≤100000) {a:Int} (ha:a=pre.length) (h:FEQ t Q X own (quoted s)):SemCall c (n+5) (.ref 265) [.str t,.int a] own Q X:=by
  subst ha
  refine (P.quoted_element rfl fun as zz=>?_).call
  refine (fun a=>?_)
  refine wh (m:=s.length) (ElI t (fun acc r=>quo s=(quo r).map fun p=>(acc++p.1,p.2)) a own) ?_ (.mk (acc:=[]) ht hs (Nat.le_refl _) (by cases quo s<;>rfl) rfl rfl (Nat.zero_le _))
  intro m st R I again
  cases I with | @mk pre' r acc L i o4 e ht' hm hb hi hL hacc=>
  subst hL
  subst hi
  have hlen:t.length=pre'.length+r.length:=by rw [e,List.length_append]
  refine ⟨lim_ (by lia),?_⟩
  induction r using List.casesOn with
  | nil=>
    refine ifF (by rw [hlen];simp) ⟨139,rfl,rfl,error_c P fun x=>⟨84,_,_,.here,rfl,?_⟩⟩
    have:quoted s=.bad quoteMsg (tclL [81,85,79,84,69]):=by unfold quoted;rw [hb];rfl
    rw [this] at h
    exact XE.up [(a,.list (chrs acc))] h x
  | cons x r=>
    have hlen':t.length=pre'.length+(r.length+1):=hlen
    have hm':r.length+1≤m:=hm
    clear hlen hm
    refine ifT (by rw [hlen'];lia) ⟨by lia,by lia,x,at_ e rfl,?_⟩
    have more:∀(q r2:List Nat) (y:Nat) (i2:Int) (o:Option V),x::r=q++r2→q≠[]→tame r2=true→i2=pre'.length+q.length→quo s=(quo r2).map (fun p=>(acc++y::p.1,p.2))→
        R ⟨[some (.str t),some (.int i2),some (.own a),o],(a,.list (chrs acc++[.str [y]]))::own⟩:=fun q r2 y i2 o h1 h2 h3 h4 h5=>by
      have hq:0 < q.length:=List.length_pos_iff.mpr h2
      have hql:=congrArg List.length h1
      simp only [List.length_cons,List.length_append] at hql
      exact again (m - 1) _ (pr1 hm') (.mk (pre':=pre'++q) (acc:=acc++[y]) (by rw [e,h1,List.append_assoc]) h3 (pr2 hql hq hm') (by rw [h5];simp) (by rw [h4,List.length_append];rfl) (chrs_snoc _ _) (by rw [List.length_append,List.length_append];exact Nat.add_le_add hacc hq))
    have hacc':(chrs acc).length < LIM:=lt_lim (by simp [chrs];lia)
    refine ifD (fun h92=>?_) fun h92=>ifD (fun h34=>?_) fun h34=>?_
    · have hx:=(List.cons.inj h92).1
      rw [hx] at e ht'
      induction r using List.casesOn with
      | nil=>
        refine ⟨244,rfl,rfl,backslash_end P (pre:=pre') e hl rfl ⟨rfl,⟨_,.head _⟩,_,_,hacc',.here,?_⟩⟩
        exact again (m - 1) _ (pr1 hm') (.mk (pre':=pre'++[92]) (acc:=acc++[92]) (by rw [e,List.append_nil]) rfl (Nat.zero_le _) (by rw [hb,hx,quo_end];rfl) (by rw [List.length_append];rfl) (chrs_snoc _ _) (by rw [List.length_append,List.length_append];exact Nat.add_le_add_right hacc 1))
      | cons y r=>
        obtain ⟨hy,hr⟩:=tame_esc ht'
        refine ⟨244,rfl,rfl,backslash_c P (pre:=pre') e hl hy rfl ⟨rfl,⟨_,.head _⟩,_,_,hacc',.here,?_⟩⟩
        exact more [x,y] r y _ _ rfl (List.cons_ne_nil _ _) hr rfl (by rw [hb,hx,quo_esc,map_map' (f:=fun p=>y::p)])
    · have hx:=(List.cons.inj h34).1
      rw [hx] at e
      have hbr:quoted s=behind quotesW acc r:=by unfold quoted;rw [hb,hx,quo_close];simp
      rw [hbr] at h
      refine ⟨251,rfl,rfl,check_behind_c P (pre:=pre'++[34]) (r:=r) (by rw [e];simp) hl (by decide) (by simp) (fun hq=>?_) fun hx=>?_⟩
      · rw [show behind quotesW acc r=.got acc r from hq acc] at h
        exact ⟨_,acc,.own (.head _),joinS_chr acc,lim_ (by simp;lia),endP [(a,.list (chrs acc))] (h (pre'++[34]) _ (by rw [e];simp) (by simp)) rfl⟩
      · rw [show behind quotesW acc r=_ from hx acc] at h
        exact XE.up [(a,.list (chrs acc))] h
    · refine ⟨⟨_,.head _⟩,_,_,hacc',.here,more [x] r x _ _ rfl (List.cons_ne_nil _ _) (tame_tail ht' fun q=>h92 (by rw [q])) rfl (by rw [hb,quo_else (fun q=>h92 (by rw [q])) (fun q=>h34 (by rw [q])),map_map'])⟩
theorem bare_c (P:Prog c) {t pre s:List Nat} (ht:t=pre++s) (hs:tame s=true) (hl:t.length≤100000) {a:Int} (ha:a=pre.length) (h:FEQ t Q X own (.got (bar s).1 (bar s).2)):SemCall c (n+2) (.ref 272) [.str t,.int a] own Q X:=by
  subst ha
  refine (P.bare_element rfl fun as zz=>?_).call
  refine (fun a=>?_)
  refine wh (m:=s.length) (ElI t (fun acc r=>bar s=(acc++(bar r).1,(bar r).2)) a own) ?_ (.mk (acc:=[]) ht hs (Nat.le_refl _) rfl rfl rfl (Nat.zero_le _))
  intro m st R I again
  cases I with | @mk pre' r acc L i o4 e ht' hm hb hi hL hacc=>
  subst hL
  subst hi
  have hlen:t.length=pre'.length+r.length:=by rw [e,List.length_append]
  have fin:bar r=([],r)→wpSs c (n+1) tabT (bare_element_ms.drop 2) ⟨[some (.str t),some (.int pre'.length),some (.own a),o4],(a,.list (chrs acc))::own⟩ (EndQ Q) (EndX X):=fun h0=>by
    rw [h0] at hb
    rw [hb] at h
    have h:=h pre' _ e rfl
    simp only [List.append_nil] at h
    exact ⟨_,acc,.own (.head _),joinS_chr acc,lim_ (by simp;lia),endP [(a,.list (chrs acc))] h rfl⟩
  refine ⟨lim_ (by lia),?_⟩
  induction r using List.casesOn with
  | nil=>exact ifF (by rw [hlen];simp) (fin rfl)
  | cons x r=>
    have hlen':t.length=pre'.length+(r.length+1):=hlen
    have hm':r.length+1≤m:=hm
    clear hlen hm
    refine ifT (by rw [hlen'];lia) ⟨181,rfl,rfl,by lia,by lia,x,at_ e rfl,is_blank_c P ?_⟩
    cases hbl:blank x with
    | true=>exact fin (bar_blank hbl)
    | false=>
    refine ⟨by lia,by lia,x,at_ e rfl,?_⟩
    have more:∀(q r2:List Nat) (y:Nat) (i2:Int) (o:Option V),x::r=q++r2→q≠[]→tame r2=true→i2=pre'.length+q.length→bar s=(acc++y::(bar r2).1,(bar r2).2)→
        R ⟨[some (.str t),some (.int i2),some (.own a),o],(a,.list (chrs acc++[.str [y]]))::own⟩:=fun q r2 y i2 o h1 h2 h3 h4 h5=>by
      have hq:0 < q.length:=List.length_pos_iff.mpr h2
      have hql:=congrArg List.length h1
      simp only [List.length_cons,List.length_append] at hql
      exact again (m - 1) _ (pr1 hm') (.mk (pre':=pre'++q) (acc:=acc++[y]) (by rw [e,h1,List.append_assoc]) h3 (pr2 hql hq hm') (by rw [h5];simp) (by rw [h4,List.length_append];rfl) (chrs_snoc _ _) (by rw [List.length_append,List.length_append];exact Nat.add_le_add hacc hq))
    have hacc':(chrs acc).length < LIM:=lt_lim (by simp [chrs];lia)
    refine ifD (fun h92=>?_) fun h92=>?_
    · have hx:=(List.cons.inj h92).1
      rw [hx] at e ht'
      induction r using List.casesOn with
      | nil=>exact ⟨244,rfl,rfl,backslash_end P (pre:=pre') e hl rfl ⟨rfl,⟨_,.head _⟩,_,_,hacc',.here,more [x] [] 92 _ _ rfl (List.cons_ne_nil _ _) rfl rfl (by rw [hb,hx,bar_end];rfl)⟩⟩
      | cons y r=>
        obtain ⟨hy,hr⟩:=tame_esc ht'
        exact ⟨244,rfl,rfl,backslash_c P (pre:=pre') e hl hy rfl ⟨rfl,⟨_,.head _⟩,_,_,hacc',.here,more [x,y] r y _ _ rfl (List.cons_ne_nil _ _) hr rfl (by rw [hb,hx,bar_esc])⟩⟩
    · exact ⟨⟨_,.head _⟩,_,_,hacc',.here,more [x] r x _ _ rfl (List.cons_ne_nil _ _) (tame_tail ht' fun q=>h92 (by rw [q])) rfl (by rw [hb,bar_else hbl (fun q=>h92 (by rw [q]))])⟩
noncomputable def feS (s:List Nat):FE:=match s with
  | []=>.none
  | x::r=>if x=123 then braced r else if x=34 then quoted r else .got (bar (x::r)).1 (bar (x::r)).2
noncomputable def fe (s:List Nat):FE:=feS (s.dropWhile blank)
theorem tame_drop {s:List Nat} (h:tame s=true):tame (s.dropWhile blank)=true:=by
  induction s with
  | nil=>rfl
  | cons x r ih=>
    rw [List.dropWhile_cons]
    cases hb:blank x with
    | false=>exact h
    | true=>exact ih (tame_tail h fun q=>by rw [q,blank_eq] at hb;exact absurd hb (by decide))
theorem FEQ.up {t:List Nat} {loc:List (Option V)} {f:FE} (h:FEQ t Q X own f):FEQ t (fun v o=>EndQ Q (.ret v) ⟨loc,o⟩) (fun e o=>EndX X e ⟨loc,o⟩) own f:=by
  cases f with
  | none=>exact end_ h rfl
  | got e r=>exact fun pre i h1 h2=>end_ (h pre i h1 h2) rfl
  | bad m ec=>exact XE.up [] h
theorem find_c (P:Prog c) {t pre s:List Nat} (ht:t=pre++s) (hs:tame s=true) (hl:t.length≤100000) {a:Int} (ha:a=pre.length) (h:FEQ t Q X own (fe s)):SemCall c (n+6) (.ref 279) [.str t,.int a] own Q X:=by
  subst ha
  refine (P.find_element rfl fun as zz=>?_).call
  refine wh (m:=s.length) (fun m st=>∃pre' r i,t=pre'++r∧r.length≤m∧s.dropWhile blank=r.dropWhile blank∧i=(pre'.length:Int)∧st=⟨[some (.str t),some (.int i)],own⟩) ?_ ⟨pre,s,_,ht,Nat.le_refl _,rfl,rfl,rfl⟩
  rintro m st R ⟨pre',r,i,e,hm,hd,hi,rfl⟩ again
  subst hi
  have hlen:t.length=pre'.length+r.length:=by rw [e,List.length_append]
  have hts:=tame_drop hs
  unfold fe at h
  rw [hd] at h hts
  refine ⟨lim_ (by lia),?_⟩
  induction r using List.casesOn with
  | nil=>exact ifF (by rw [hlen];simp) ⟨lim_ (by lia),ifT (by rw [hlen];simp) (end_ h rfl)⟩
  | cons x r=>
    have hlen':t.length=pre'.length+(r.length+1):=hlen
    clear hlen
    refine ifT (by rw [hlen'];lia) ⟨181,rfl,rfl,by lia,by lia,x,at_ e rfl,is_blank_c P ?_⟩
    rw [List.dropWhile_cons] at h hts hd
    cases hb:blank x with
    | true=>
      rw [hb] at hd
      exact (again (m - 1) _ (by have:r.length+1≤m:=hm;lia) ⟨pre'++[x],r,_,by rw [e];simp,by have:r.length+1≤m:=hm;lia,hd,by simp,rfl⟩)
    | false=>
      rw [hb] at h hts
      replace h:FEQ t Q X own (feS (x::r)):=h
      replace hts:tame (x::r)=true:=hts
      unfold feS at h
      dsimp only at h
      refine ⟨lim_ (by lia),ifF (by rw [hlen'];lia) ⟨by lia,by lia,x,at_ e rfl,ifD (fun h1=>?_) fun h1=>⟨by lia,by lia,x,at_ e rfl,ifD (fun h2=>?_) fun h2=>?_⟩⟩⟩
      · cases h1
        rw [if_pos rfl] at h
        exact ⟨258,rfl,rfl,braced_c P (pre:=pre'++[123]) (s:=r) (by rw [e];simp) hl (by simp) h.up⟩
      · cases h2
        rw [if_neg (by decide),if_pos rfl] at h
        exact ⟨265,rfl,rfl,quoted_c P (pre:=pre'++[34]) (s:=r) (by rw [e];simp) (tame_tail hts (by decide)) hl (by simp) h.up⟩
      · rw [if_neg (fun q=>h1 (by rw [q])),if_neg (fun q=>h2 (by rw [q]))] at h
        exact ⟨272,rfl,rfl,bare_c P e hts hl rfl h.up⟩
end
section
variable {c:Cx} {n:Nat} {own:Own} {Q:PQ} {X:PX}
inductive SP:List Nat→List (List Nat)→Option (List Nat×List V)→Prop
  | nil {s:List Nat}:fe s=.none→SP s [] none
  | bad {s m:List Nat} {ec:List V}:fe s=.bad m ec→SP s [] (some (m,ec))
  | cons {s e q r:List Nat} {es:List (List Nat)} {o:Option (List Nat×List V)}:fe s=.got e r→s=q++r→q≠[]→tame r=true→SP r es o→SP s (e::es) o
inductive FV (t:List Nat) (o:Option (List Nat×List V)):V→List (List Nat)→Prop
  | non:o=none→FV t o .non []
  | cons {pre r e:List Nat} {es:List (List Nat)} {i:Int}:t=pre++r→tame r=true→i=pre.length→es.length≤r.length→SP r es o→FV t o (.tup [.str e,.int i]) (e::es)
theorem SP.len {s:List Nat} {es:List (List Nat)} {o:Option (List Nat×List V)} (h:SP s es o):es.length≤s.length:=by
  induction h with
  | nil | bad=>exact Nat.zero_le _
  | @cons s e q r es o _ e2 e3 _ _ ih=>
    have:=List.length_pos_iff.mpr e3
    rw [e2,List.length_append,List.length_cons];lia
theorem SP.find (P:Prog c) {t pre s:List Nat} {es:List (List Nat)} {o:Option (List Nat×List V)} (h:SP s es o) (ht:t=pre++s) (hs:tame s=true) (hl:t.length≤100000) {a:Int} (ha:a=pre.length) (hq:∀v,FV t o v es→Q v own) (hx:∀m ec,o=some (m,ec)→XE X own m ec):SemCall c (n+6) (.ref 279) [.str t,.int a] own Q X:=by
  refine find_c P ht hs hl ha ?_
  cases h with
  | nil e=>rw [e];exact hq _ (.non rfl)
  | bad e=>rw [e];exact hx _ _ rfl
  | cons e1 e2 e3 e4 h=>
    rw [e1]
    exact fun pre' i e5 e6=>hq _ (.cons e5 e4 e6 h.len h)
theorem split_c (P:Prog c) {t:List Nat} {es:List (List Nat)} {o:Option (List Nat×List V)} (h:SP t es o) (hs:tame t=true) (hl:t.length≤100000) (hq:o=none→Q (.list (es.map .str)) own) (hx:∀m ec,o=some (m,ec)→XE X own m ec):SemCall c (n+7) (.ref 286) [.str t] own Q X:=by
  refine (P.split_list rfl fun as zz=>?_).call
  refine (fun a=>⟨279,rfl,rfl,h.find P (pre:=[]) rfl hs hl rfl (fun v hv=>?_) fun m ec e=>XE.up [(a,.list [])] (hx m ec e)⟩)
  have hel:=h.len
  refine wh (m:=es.length) (fun m st=>∃acc fv es' L,es'.length≤m∧FV t o fv es'∧acc++es'=es∧L=acc.map V.str∧st=⟨[some (.str t),some (.own a),some fv],(a,.list L)::own⟩) ?_ ⟨[],v,es,_,Nat.le_refl _,hv,rfl,rfl,rfl⟩
  rintro m st R ⟨acc,fv,es',L,hm,hv,e,rfl,rfl⟩ again
  cases hv with
  | non ho=>
    rw [List.append_nil] at e
    subst e
    exact ⟨_,_,.here,end_ (hq ho) rfl⟩
  | @cons pre r el es2 i e1 e2 e3 e4 hsp=>
    have hm':es2.length+1≤m:=hm
    have hacc:(acc.map V.str).length < LIM:=lt_lim (by have:=congrArg List.length e;simp at this ⊢;lia)
    refine ⟨⟨_,.head _⟩,by decide,by decide,_,rfl,_,_,hacc,.here,279,rfl,rfl,by decide,by decide,_,rfl,hsp.find P e1 e2 hl e3 (fun v hv=>?_) fun m ec e=>XE.up [(a,_)] (hx m ec e)⟩
    exact again (m - 1) _ (pr1 hm') ⟨acc++[el],v,es2,_,Nat.le_sub_one_of_lt hm',hv,by rw [← e];simp,by simp,rfl⟩
noncomputable def scn:List Nat→Nat→Bool→Bool→Bool→Option (Nat×Bool×Bool×Bool)
  | [],d,bd,wb,we=>some (d,bd,wb,we)
  | x::r,d,bd,wb,we=>if x=123 then scn r (d+1) bd wb we
    else if x=125 then (match d with
      | 0=>none
      | d'+1=>scn r d' bd wb we)
    else if x∈[93,34] then scn r d true wb true
    else if x=92 then (match r with
      | []=>none
      | y::r'=>if y=10 then none else if y∈[123,125,92] then scn r' d true true we else scn (y::r') d true true we)
    else if x∈[91,36,59]∨blank x=true then scn r d true true we
    else scn r d bd wb we
end
section
variable {c:Cx} {n:Nat} {own:Own} {Q:PQ} {X:PX}
section
variable {x y d:Nat} {r:List Nat} {bd wb we:Bool}
theorem scn_cons:scn (x::r) d bd wb we=if x=123 then scn r (d+1) bd wb we
    else if x=125 then (match d with
      | 0=>none
      | d'+1=>scn r d' bd wb we)
    else if x∈[93,34] then scn r d true wb true
    else if x=92 then (match r with
      | []=>none
      | y::r'=>if y=10 then none else if y∈[123,125,92] then scn r' d true true we else scn (y::r') d true true we)
    else if x∈[91,36,59]∨blank x=true then scn r d true true we
    else scn r d bd wb we:=by cases r<;>cases d<;>kernel_rfl
theorem scn_open:scn (123::r) d bd wb we=scn r (d+1) bd wb we:=by kernel_rfl
theorem scn_close0:scn (125::r) 0 bd wb we=none:=by kernel_rfl
theorem scn_close:scn (125::r) (d+1) bd wb we=scn r d bd wb we:=by kernel_rfl
theorem scn_mark (h:x∈[93,34]):scn (x::r) d bd wb we=scn r d true wb true:=by
  have:x≠123∧x≠125:=by constructor<;>(rintro rfl;revert h;decide)
  rw [scn_cons,if_neg this.1,if_neg this.2,if_pos h]
theorem scn_end:scn [92] d bd wb we=none:=by kernel_rfl
theorem scn_esc:scn (92::y::r) d bd wb we=if y=10 then none else if y∈[123,125,92] then scn r d true true we else scn (y::r) d true true we:=by kernel_rfl
theorem scn_sp (h1:x≠123) (h2:x≠125) (h3:x ∉ [93,34]) (h4:x≠92) (h:x∈[91,36,59]∨blank x=true):scn (x::r) d bd wb we=scn r d true true we:=by
  rw [scn_cons,if_neg h1,if_neg h2,if_neg h3,if_neg h4,if_pos h]
theorem scn_else (h1:x≠123) (h2:x≠125) (h3:x ∉ [93,34]) (h4:x≠92) (h:¬ (x∈[91,36,59]∨blank x=true)):scn (x::r) d bd wb we=scn r d bd wb we:=by
  rw [scn_cons,if_neg h1,if_neg h2,if_neg h3,if_neg h4,if_neg h]
end
noncomputable def braceW:List Nat:=[98,114,97,99,101]
noncomputable def escapeW:List Nat:=[101,115,99,97,112,101]
noncomputable def maskW:List Nat:=[109,97,115,107]
noncomputable def noneW:List Nat:=[110,111,110,101]
noncomputable def modeE (hd:Bool) (p:Option (Nat×Bool×Bool×Bool)):List Nat:=match p with
  | none=>escapeW
  | some p=>if 0 < p.1 then escapeW else if p.2.1=true then (if p.2.2.2=true∧p.2.2.1=false then maskW else braceW) else if hd=true then braceW else noneW
noncomputable def modeP (h:Bool) (t:List Nat):List Nat:=match t with
  | []=>braceW
  | x::r=>modeE (h && decide (x=35)) (scn (x::r) 0 (decide (x∈[123,34])) (decide (x∈[123,34]) || (h && decide (x=35))) false)
theorem ifBool {b:Bool} {A B:Prop} (ha:b=true→A) (hb:b=false→B):ifB b A B:=ifB_i ha hb
inductive ModeI (t:List Nat) (h hd bd0 wb0:Bool) (x0:Nat) (own:Own) (m:Nat):PS
  | mk {pre r:List Nat} {d:Nat} {bd wb we:Bool} {k i:Int} {o9:Option V}:t=pre++r→r.length≤m→scn t 0 bd0 wb0 false=scn r d bd wb we→k=(d:Int)→i=(pre.length:Int)→ModeI t h hd bd0 wb0 x0 own m ⟨[some (.str t),some (.bool h),some (.str [x0]),some (.bool bd),some (.bool hd),some (.bool wb),some (.bool we),some (.int k),some (.int i),o9],own⟩
theorem mode_loop (P:Prog c) {t:List Nat} {x0:Nat} {h bd0 hd wb0:Bool} (hl:t.length≤100000) (hq:Q (.str (modeE hd (scn t 0 bd0 wb0 false))) own):
    wpSs c (n+1) tabT (mode_of_ms.drop 7) ⟨[some (.str t),some (.bool h),some (.str [x0]),some (.bool bd0),some (.bool hd),some (.bool wb0),some (.bool false),some (.int 0),some (.int 0),none],own⟩ (EndQ Q) (EndX X):=by
  refine wh (m:=t.length) (ModeI t h hd bd0 wb0 x0 own) ?_ (.mk (pre:=[]) (d:=0) rfl (Nat.le_refl _) rfl rfl rfl)
  intro m st R I again
  cases I with | @mk pre r d bd wb we k i o9 e hm hs hk hi=>
  subst hk
  subst hi
  rw [hs] at hq
  have hlen:t.length=pre.length+r.length:=by rw [e,List.length_append]
  refine ⟨lim_ (by omega),?_⟩
  induction r using List.casesOn with
  | nil=>
    refine ifF (by rw [hlen];simp) ?_
    have hq:Q (.str (if 0 < d then escapeW else if bd=true then (if we=true∧wb=false then maskW else braceW) else if hd=true then braceW else noneW)) own:=hq
    refine ifD (fun hd0=>?_) fun hd0=>?_
    · rw [if_pos (by omega)] at hq;exact end_ hq rfl
    · rw [if_neg (by omega)] at hq
      cases bd<;>cases hd<;>cases we<;>cases wb<;>exact end_ hq rfl
  | cons x r=>
    have hlen':t.length=pre.length+(r.length+1):=hlen
    have hm':r.length+1≤m:=hm
    clear hlen hm
    refine ifT (by rw [hlen'];omega) ⟨by omega,by omega,x,at_ e rfl,?_⟩
    have more:∀(q r2:List Nat) (d2:Nat) (bd2 wb2 we2:Bool) (k2 i2:Int) (o:Option V),x::r=q++r2→q≠[]→scn t 0 bd0 wb0 false=scn r2 d2 bd2 wb2 we2→k2=d2→i2=pre.length+q.length→
        R ⟨[some (.str t),some (.bool h),some (.str [x0]),some (.bool bd2),some (.bool hd),some (.bool wb2),some (.bool we2),some (.int k2),some (.int i2),o],own⟩:=fun q r2 d2 bd2 wb2 we2 k2 i2 o h1 h2 h3 h4 h5=>by
      have hq:0 < q.length:=List.length_pos_iff.mpr h2
      have hql:=congrArg List.length h1
      simp only [List.length_cons,List.length_append] at hql
      exact again (m - 1) _ (pr1 hm') (.mk (pre:=pre++q) (by rw [e,h1,List.append_assoc]) (pr2 hql hq hm') h3 h4 (by rw [h5,List.length_append];rfl))
    have one:∀{x:Nat},[x]≠[]:=List.cons_ne_nil _ _
    refine ifD (fun h1=>?_) fun h1=>ifD (fun h2=>?_) fun h2=>⟨rfl,inT [93,34] (fun h3=>?_) fun h3=>⟨rfl,inT [91,36,59,92] (fun h4=>?_) fun h4=>?_⟩⟩
    · exact (more [x] r (d+1) bd wb we _ _ _ rfl one (by rw [hs,(List.cons.inj h1).1,scn_open]) rfl rfl)
    · have hx:=(List.cons.inj h2).1
      refine ?_
      induction d using Nat.casesOn with
      | zero=>rw [hx,scn_close0] at hq;exact end_ hq rfl
      | succ d=>exact ifF (by omega) (more [x] r d bd wb we _ _ _ rfl one (by rw [hs,hx,scn_close]) (by omega) rfl)
    · exact (more [x] r d true wb true _ _ _ rfl one (by rw [hs,scn_mark h3]) rfl rfl)
    · refine (ifD (fun h5=>?_) fun h5=>?_)
      · have hx:=(List.cons.inj h5).1
        refine ⟨lim_ (by omega),?_⟩
        induction r using List.casesOn with
        | nil=>rw [hx,scn_end] at hq;exact ifT (by rw [hlen'];rfl) (end_ hq rfl)
        | cons y r=>
          have hlen2:t.length=pre.length+(r.length+2):=hlen'
          have e2:t=(pre++[x])++y::r:=by rw [e,List.append_assoc];rfl
          have hat:t[((pre.length:Int)+1).toNat]?=some y:=at_ e2 (by rw [List.length_append];rfl)
          rw [hx,scn_esc] at hs hq
          refine ifF (by rw [hlen2];omega) ⟨by omega,by omega,y,hat,ifD (fun h6=>?_) fun h6=>⟨by omega,by omega,y,hat,rfl,inT [123,125,92] (fun h7=>?_) fun h7=>?_⟩⟩
          · rw [if_pos (List.cons.inj h6).1] at hq
            exact end_ hq rfl
          · exact (more [x,y] r d true true we _ _ _ rfl (List.cons_ne_nil _ _) (by rw [hs,if_neg (fun q=>h6 (by rw [q])),if_pos h7]) rfl (by simp;omega))
          · exact more [x] (y::r) d true true we _ _ _ rfl one (by rw [hs,if_neg (fun q=>h6 (by rw [q])),if_neg h7]) rfl rfl
      · have h92:x≠92:=fun q=>h5 (by rw [q])
        have h4':x∈[91,36,59]:=(List.mem_append.mp (show x∈[91,36,59]++[92] from h4)).resolve_right fun q=>h92 (List.mem_singleton.mp q)
        exact more [x] r d true true we _ _ _ rfl one (by rw [hs,scn_sp (fun q=>h1 (by rw [q])) (fun q=>h2 (by rw [q])) h3 h92 (.inl h4')]) rfl rfl
    · have h92:x≠92:=fun q=>h4 (by rw [q];decide)
      refine ⟨181,rfl,rfl,is_blank_c P ?_⟩
      cases hb:blank x with
      | true=>exact (ifF (fun q=>h92 (by simpa using q)) (more [x] r d true true we _ _ _ rfl one (by rw [hs,scn_sp (fun q=>h1 (by rw [q])) (fun q=>h2 (by rw [q])) h3 h92 (.inr hb)]) rfl rfl))
      | false=>
        have hn:¬ (x∈[91,36,59]∨blank x=true):=fun q=>q.elim (fun q=>h4 (List.mem_append_left [92] q)) fun q=>by rw [hb] at q;cases q
        exact more [x] r d bd wb we _ _ _ rfl one (by rw [hs,scn_else (fun q=>h1 (by rw [q])) (fun q=>h2 (by rw [q])) h3 h92 hn]) rfl rfl
theorem mode_of_c (P:Prog c) {t:List Nat} {h:Bool} (hl:t.length≤100000) (hq:Q (.str (modeP h t)) own):SemCall c (n+2) (.ref 293) [.str t,.bool h] own Q X:=by
  refine (P.mode_of rfl fun as zz=>?_).call
  induction t using List.casesOn with
  | nil=>exact end_ hq rfl
  | cons x r=>
    refine ⟨by decide,by decide,x,rfl,rfl,?_⟩
    have key:∀b0,b0=decide (x∈[123,34])→wpSs c (n+1) tabT (mode_of_ms.drop 3) ⟨[some (.str (x::r)),some (.bool h),some (.str [x]),some (.bool b0),none,none,none,none,none,none],own⟩ (EndQ Q) (EndX X):=fun b0 hb=>by
      unfold modeP at hq
      dsimp only at hq
      rw [← hb] at hq
      induction h using Bool.casesOn with
      | false=>
        cases b0
        · exact ⟨rfl,mode_loop P hl hq⟩
        · exact ⟨rfl,mode_loop P hl hq⟩
      | true=>
        have e35:decide ([x]=[35])=decide (x=35):=by simp
        have key2:∀b1,b1=decide (x=35)→wpSs c (n+1) tabT (mode_of_ms.drop 4) ⟨[some (.str (x::r)),some (.bool true),some (.str [x]),some (.bool b0),some (.bool b1),none,none,none,none,none],own⟩ (EndQ Q) (EndX X):=fun b1 hb1=>by
          rw [Bool.true_and,← hb1] at hq
          cases b0
          · exact ⟨rfl,mode_loop P hl hq⟩
          · exact ⟨rfl,mode_loop P hl hq⟩
        exact (key2 _ e35)
    exact key _ (any_iff x [123,34])
end
section
variable {c:Cx} {n:Nat} {own:Own} {Q:PQ} {X:PX}
noncomputable def escS:List Nat:=[93,91,36,59,32,92,34]
noncomputable def escd (deep:Bool) (x:Nat):List Nat:=if x∈escS∨(deep=true∧x∈[123,125]) then [92,x] else [x]
theorem escaped_c (P:Prog c) {x:Nat} {deep:Bool} (hx:idxI x [12,10,13,9,11]=-1) (h:Q (.str (escd deep x)) own):SemCall c (n+1) (.ref 300) [.str [x],.bool deep] own Q X:=by
  refine (P.escaped rfl fun as zz=>?_).call
  refine ⟨x,rfl,?_⟩
  rw [hx]
  refine ⟨rfl,inT escS (fun h1=>⟨le_ rfl,end_ h (by rw [escd,if_pos (.inl h1)];rfl)⟩) fun h1=>?_⟩
  induction deep using Bool.casesOn with
  | false=>exact end_ h (by rw [escd,if_neg (fun q=>q.elim h1 fun q=>by cases q.1)];rfl)
  | true=>
    refine ⟨rfl,inT [123,125] (fun h2=>⟨le_ rfl,end_ h (by rw [escd,if_pos (.inr ⟨rfl,h2⟩)];rfl)⟩) fun h2=>end_ h (by rw [escd,if_neg (fun q=>q.elim h1 fun q=>h2 q.2)];rfl)⟩
noncomputable def quoteP (h:Bool) (t:List Nat):List Nat:=
  if modeP h t=noneW then t else if modeP h t=braceW then 123::t++[125]
  else (if h=true∧t.head?=some 35 then [92] else [])++(t.map (escd (decide (modeP h t=escapeW)))).flatten
theorem modeP_ne {h:Bool} {t:List Nat} (h1:modeP h t≠braceW):t≠[]:=fun e=>h1 (by rw [e];rfl)
theorem joinS_flat:∀l:List (List Nat),joinS [] (l.map .str)=some l.flatten
  | []=>rfl
  | [x]=>by show some x=_;simp
  | x::y::r=>by
    show (joinS [] ((y::r).map V.str)).map _=_
    rw [joinS_flat (y::r)];simp
theorem escd_len (d:Bool) (t:List Nat):(t.map (escd d)).flatten.length≤2 * t.length:=by
  induction t with
  | nil=>
    simp
  | cons x r ih=>
    have:=ih
    have h2:(escd d x).length≤2:=by unfold escd;split<;>simp
    simp only [List.map_cons,List.flatten_cons,List.length_append,List.length_cons];omega
theorem quote_loop (P:Prog c) {t:List Nat} {h:Bool} {md:List Nat} {a:Addr} (hx:∀x∈t,idxI x [12,10,13,9,11]=-1) (hl:t.length≤50000) (r:List Nat):∀(q:List Nat) (acc:List (List Nat)) (L:List V) (o4:Option V) {K:PS},t=q++r→L=acc.map .str→acc.length≤10+q.length→(∀o4,K ⟨[some (.str t),some (.bool h),some (.str md),some (.own a),o4],(a,.list ((acc++r.map (escd (decide (md=escapeW)))).map V.str))::own⟩)→
    forGo (forP 4 (wpSs c (n+2) tabT quote_b0) (seqR (wpSs c (n+2) tabT (quote_ms.drop 6)) (EndQ Q) (EndX X)) (EndX X)) (r.map fun k=>.str [k]) ⟨[some (.str t),some (.bool h),some (.str md),some (.own a),o4],(a,.list L)::own⟩ K:=by
  induction r with
  | nil=>
    intro q acc L o4 K e hL _ hk
    subst hL
    have:=hk o4
    rw [List.map_nil,List.append_nil] at this
    exact this
  | cons x r ih=>
    intro q acc L o4 K e hL ha hk
    subst hL
    have hlen:=congrArg List.length e
    simp only [List.length_append,List.length_cons] at hlen
    refine ⟨⟨_,.head _⟩,300,rfl,rfl,escaped_c P (hx x (by rw [e];simp)) ⟨_,_,lt_lim (by simp;omega),.here,?_⟩⟩
    exact ih (q++[x]) (acc++[escd (decide (md=escapeW)) x]) _ _ (by rw [e];simp) (by rw [List.map_append];rfl) (by simp;omega) fun o4=>by
      have:=hk o4
      simpa using this
theorem quote_c (P:Prog c) {t:List Nat} {h:Bool} (hl:t.length≤50000) (hx:modeP h t≠noneW→modeP h t≠braceW→∀x∈t,idxI x [12,10,13,9,11]=-1) (hq:Q (.str (quoteP h t)) own):SemCall c (n+3) (.ref 308) [.str t,.bool h] own Q X:=by
  refine (P.quote rfl fun as zz=>?_).call
  refine ⟨293,rfl,rfl,mode_of_c P (by omega) ?_⟩
  unfold quoteP at hq
  refine ifD (fun (h1:modeP h t=noneW)=>end_ hq (by rw [if_pos h1];rfl)) fun (h1:modeP h t≠noneW)=>ifD (fun (h2:modeP h t=braceW)=>⟨lim_ (by simp;omega),lim_ (by simp;omega),end_ hq (by rw [if_neg h1,if_pos h2];rfl)⟩) fun h2=>?_
  replace h1:modeP h t≠noneW:=h1
  replace h2:modeP h t≠braceW:=h2
  rw [if_neg h1,if_neg h2] at hq
  have hne:=modeP_ne h2
  have hx':=hx h1 h2
  refine (fun a=>?_)
  have fin:∀acc:List (List Nat),acc.length≤1→acc.flatten.length≤1→acc.flatten++(t.map (escd (decide (modeP h t=escapeW)))).flatten=(if h=true∧t.head?=some 35 then [92] else [])++(t.map (escd (decide (modeP h t=escapeW)))).flatten→wpSs c (n+2) tabT (quote_ms.drop 5) ⟨[some (.str t),some (.bool h),some (.str (modeP h t)),some (.own a),none],(a,.list (acc.map V.str))::own⟩ (EndQ Q) (EndX X):=fun acc ha ha2 he=>by
    refine ⟨_,rfl,by simp;exact lim_ (by omega),quote_loop P hx' hl t [] acc _ none rfl rfl (by omega) fun o4=>?_⟩
    refine ⟨_,_,.own (.head _),joinS_flat _,lim_ ?_,endP [(a,_)] hq ?_⟩
    · have:=escd_len (decide (modeP h t=escapeW)) t
      simp only [List.flatten_append,List.length_append,List.length_nil];omega
    · rw [← he];simp [retV]
  obtain ⟨x,r,e⟩:∃x r,t=x::r:=by
    induction t using List.casesOn with
    | nil=>exact absurd rfl hne
    | cons x r=>exact ⟨x,r,rfl⟩
  have hat:t[(0:Int).toNat]?=some x:=by rw [e];rfl
  have hhd:t.head?=some x:=by rw [e];rfl
  induction h using Bool.casesOn with
  | false=>exact fin [] (by simp) (by simp) (by simp)
  | true=>
    refine ⟨by decide,by decide,x,hat,ifD (fun h35=>?_) fun h35=>?_⟩
    · exact ⟨⟨_,.head _⟩,_,_,lt_ rfl,.here,fin [[92]] (by simp) (by simp) (by rw [if_pos ⟨rfl,by rw [hhd];cases h35;rfl⟩];rfl)⟩
    · exact fin [] (by simp) (by simp) (by rw [if_neg (fun q=>h35 (by have:=q.2;rw [hhd] at this;cases this;rfl))];rfl)
noncomputable def spc:List (List Nat)→List Nat
  | []=>[]
  | w::r=>match r with
    | []=>w
    | _=>w++32::spc r
theorem joinS_spc:∀l:List (List Nat),joinS [32] (l.map .str)=some (spc l)
  | []=>rfl
  | [x]=>rfl
  | x::y::r=>by
    show (joinS [32] ((y::r).map V.str)).map _=_
    rw [joinS_spc (y::r)];rfl
noncomputable def quotes:Bool→List (List Nat)→List (List Nat)
  | _,[]=>[]
  | b,t::r=>quoteP b t::quotes false r
structure Qt (t:List Nat):Prop where
  len:t.length≤50000
  ctl:∀h,modeP h t≠noneW→modeP h t≠braceW→∀x∈t,idxI x [12,10,13,9,11]=-1
theorem join_loop (P:Prog c) {lst:V} {a:Addr} (r:List (List Nat)):∀(acc:List (List Nat)) (o:Option V) (b:Bool) {K:PS},(b=decide ((acc.length:Int)=0))→acc.length+r.length≤50000→(∀t∈r,Qt t)→(∀o,K ⟨[some lst,some (.own a),o],(a,.list ((acc++quotes b r).map V.str))::own⟩)→
    forGo (forP 2 (wpSs c (n+3) tabT join_list_b0) (seqR (wpSs c (n+3) tabT (join_list_ms.drop 2)) (EndQ Q) (EndX X)) (EndX X)) (r.map .str) ⟨[some lst,some (.own a),o],(a,.list (acc.map V.str))::own⟩ K:=by
  induction r with
  | nil=>
    intro acc o b K _ _ _ hk
    have:=hk o
    rw [quotes,List.append_nil] at this
    exact this
  | cons t r ih=>
    intro acc o b K hb hl hq hk
    simp only [List.length_cons] at hl
    refine ⟨⟨_,.head _⟩,308,rfl,rfl,_,.own (.head _),lim_ (by simp;omega),?_⟩
    have hb':decide ((((acc.map V.str).length:Nat):Int)=0)=b:=by rw [hb,List.length_map]
    show SemCall c (n+3) (.ref 308) [.str t,.bool (decide ((((acc.map V.str).length:Nat):Int)=0))] _ _ _
    rw [hb']
    refine quote_c P (hq t (.head _)).len ((hq t (.head _)).ctl b) ⟨_,_,lt_lim (by simp;omega),.here,?_⟩
    have e:acc.map V.str++[.str (quoteP b t)]=(acc++[quoteP b t]).map V.str:=by simp
    rw [e]
    refine ih (acc++[quoteP b t]) _ false (by simp;omega) (by simp;omega) (fun t h=>hq t (.tail _ h)) fun o=>?_
    have:=hk o
    rw [quotes] at this
    rw [List.append_assoc]
    exact this
theorem join_list_c (P:Prog c) {ts:List (List Nat)} (hl:ts.length≤50000) (hs:(spc (quotes true ts)).length≤100000) (ht:∀t∈ts,Qt t) (hq:Q (.str (spc (quotes true ts))) own):SemCall c (n+4) (.ref 315) [.list (ts.map .str)] own Q X:=by
  refine (P.join_list rfl fun as zz=>?_).call
  refine (fun a=>⟨_,rfl,by rw [List.length_map];exact lim_ (by omega),join_loop P ts [] none true rfl (by simpa using hl) ht fun o=>?_⟩)
  exact ⟨_,_,.own (.head _),joinS_spc _,lim_ (by show _+1≤_;rw [List.nil_append];omega),endP [(a,_)] hq rfl⟩
end
set_option genCtorIdx false in
inductive Nd where
  | leaf (s:List Nat)
  | node (xs:List Nd)
noncomputable def Nd.ctorIdx (x:Nd):Nat:=@Nd.casesOn (fun _=>Nat) x (fun _=>0) (fun _=>1)
noncomputable def leaves:List (List Nat):=[[],[97],[98],[99],[98,32,99],[32,98,32,32,99],[35],[120,93],[123],[123,97,125,98],[92],[34,113],[123,98,32,99,125,32,97]]
noncomputable def forms:List (List Nat×List Nat):=[([],[123,125]),([98,32,99],[123,98,32,99,125]),([32,98,32,32,99],[123,32,98,32,32,99,125]),([120,93],[120,92,93]),([123],[92,123]),([123,97,125,98],[123,123,97,125,98,125]),([92],[92,92]),([34,113],[123,34,113,125]),([123,98,32,99,125,32,97],[123,123,98,32,99,125,32,97,125])]
noncomputable def leafW (b:Bool) (s:List Nat):List Nat:=if s=[35] then (if b=true then [123,35,125] else [35]) else (forms.lookup s).getD s
noncomputable def brW (t:List Nat):List Nat:=if t∈[[97],[98],[99]] then t else 123::(t++[125])
mutual
noncomputable def ntext:Nd→List Nat
  | .leaf s=>s
  | .node xs=>spc (nwrits true xs)
noncomputable def nwrit:Bool→Nd→List Nat
  | b,.leaf s=>leafW b s
  | _,.node xs=>brW (spc (nwrits true xs))
noncomputable def nwrits:Bool→List Nd→List (List Nat)
  | _,[]=>[]
  | b,x::r=>nwrit b x::nwrits false r
end
noncomputable abbrev Fault:=Option (List Nat×List V)
noncomputable def faults:List (List Nat×(List Nat×List V)):=[([123],(braceMsg,tclL [66,82,65,67,69])),([34,113],(quoteMsg,tclL [81,85,79,84,69])),([123,97,125,98],(junkMsg bracesW [98],tclL [74,85,78,75]))]
noncomputable def known:List (List Nat×List Nd):=[([],[]),([98,32,99],[.leaf [98],.leaf [99]]),([32,98,32,32,99],[.leaf [98],.leaf [99]]),([123,98,32,99,125,32,97],[.leaf [98,32,99],.leaf [97]])]
noncomputable def litems:Nd→List Nd×Fault
  | .node xs=>(xs,none)
  | .leaf s=>match faults.lookup s with
    | some f=>([],some f)
    | none=>((known.lookup s).getD [.leaf s],none)
inductive Good:Nd→Prop
  | leaf {s:List Nat}:s∈leaves→Good (.leaf s)
  | node {xs:List Nd}:(∀x∈xs,Good x)→Good (.node xs)
theorem scn_app:∀(w:List Nat) {d0 d1:Nat} {b1 b2 b3 c1 c2 c3:Bool},scn w d0 b1 b2 b3=some (d1,c1,c2,c3)→∀(k:Nat) (x1 x2 x3:Bool) (rest:List Nat),scn (w++rest) (d0+k) (b1 || x1) (b2 || x2) (b3 || x3)=scn rest (d1+k) (c1 || x1) (c2 || x2) (c3 || x3)
  | [],_,_,_,_,_,_,_,_,h,k,x1,x2,x3,rest=>by cases h;rfl
  | x::r,d0,d1,b1,b2,b3,c1,c2,c3,h,k,x1,x2,x3,rest=>by
    rw [List.cons_append]
    by_cases h1:x=123
    · subst h1;rw [scn_open] at h ⊢;rw [Nat.add_right_comm];exact scn_app r h k x1 x2 x3 rest
    by_cases h2:x=125
    · subst h2
      cases d0 with
      | zero=>rw [scn_close0] at h;cases h
      | succ d=>rw [scn_close] at h;rw [Nat.add_right_comm,scn_close];exact scn_app r h k x1 x2 x3 rest
    by_cases h3:x∈[93,34]
    · rw [scn_mark h3] at h ⊢;exact scn_app r h k x1 x2 x3 rest
    by_cases h4:x=92
    · subst h4
      induction r using List.casesOn with
      | nil=>rw [scn_end] at h;cases h
      | cons y r=>
        rw [scn_esc] at h
        rw [List.cons_append,scn_esc]
        by_cases h5:y=10
        · rw [if_pos h5] at h;cases h
        rw [if_neg h5] at h ⊢
        by_cases h6:y∈[123,125,92]
        · rw [if_pos h6] at h ⊢;exact scn_app r h k x1 x2 x3 rest
        · rw [if_neg h6] at h ⊢;exact scn_app (y::r) h k x1 x2 x3 rest
    by_cases h5:x∈[91,36,59]∨blank x=true
    · rw [scn_sp h1 h2 h3 h4 h5] at h ⊢;exact scn_app r h k x1 x2 x3 rest
    · rw [scn_else h1 h2 h3 h4 h5] at h ⊢;exact scn_app r h k x1 x2 x3 rest
noncomputable def dep:List Nat→Nat→Option Nat
  | [],d=>some d
  | x::r,d=>if x=92 then (match r with
      | []=>none
      | _::r'=>dep r' d)
    else if x=123 then dep r (d+1)
    else if x=125 then (match d with
      | 0=>none
      | d'+1=>dep r d')
    else dep r d
theorem dep_cons (x:Nat) (r:List Nat) (d:Nat):dep (x::r) d=if x=92 then (match r with
      | []=>none
      | _::r'=>dep r' d)
    else if x=123 then dep r (d+1)
    else if x=125 then (match d with
      | 0=>none
      | d'+1=>dep r d')
    else dep r d:=by cases r<;>cases d<;>kernel_rfl
theorem dep_app:∀(w:List Nat) {d0 d1:Nat},dep w d0=some d1→∀(k:Nat) (rest:List Nat),brc (d0+k) (w++rest)=(brc (d1+k) rest).map fun p=>(w++p.1,p.2)
  | [],_,_,h,k,rest=>by cases h;simp
  | x::r,d0,d1,h,k,rest=>by
    rw [List.cons_append]
    rw [dep_cons] at h
    by_cases h1:x=92
    · subst h1
      rw [if_pos rfl] at h
      induction r using List.casesOn with
      | nil=>cases h
      | cons y r=>rw [List.cons_append,brc_esc,dep_app r h k rest,Option.map_map];rfl
    rw [if_neg h1] at h
    by_cases h2:x=123
    · subst h2;rw [if_pos rfl] at h;rw [brc_open,Nat.add_right_comm,dep_app r h k rest,Option.map_map];rfl
    rw [if_neg h2] at h
    by_cases h3:x=125
    · subst h3
      rw [if_pos rfl] at h
      cases d0 with
      | zero=>cases h
      | succ d=>rw [Nat.add_right_comm,brc_close,dep_app r h k rest,Option.map_map];rfl
    rw [if_neg h3] at h
    rw [brc_else h1 h2 h3,dep_app r h k rest,Option.map_map];rfl
noncomputable def tameC:List Nat→Bool
  | []=>true
  | x::r=>if x=92 then (match r with
      | []=>false
      | y::r'=>decide (y∈escs) && tameC r')
    else tameC r
theorem tameC_cons (x:Nat) (r:List Nat):tameC (x::r)=if x=92 then (match r with
      | []=>false
      | y::r'=>decide (y∈escs) && tameC r')
    else tameC r:=by cases r<;>kernel_rfl
theorem tame_app:∀(w:List Nat),tameC w=true→∀rest,tame (w++rest)=tame rest
  | [],_,rest=>rfl
  | x::r,h,rest=>by
    rw [tameC_cons] at h
    by_cases h1:x=92
    · subst h1
      rw [if_pos rfl] at h
      induction r using List.casesOn with
      | nil=>cases h
      | cons y r=>
        obtain ⟨a,b⟩:=and2 h
        show (decide (y∈escs) && tame (r++rest))=_
        rw [a,tame_app r b rest];rfl
    · rw [if_neg h1] at h
      have:tame (x::(r++rest))=tame (r++rest):=by
        cases r++rest with
        | nil=>rfl
        | cons y q=>exact if_neg h1
      rw [List.cons_append,this,tame_app r h rest]
noncomputable def Sc (w:List Nat):Prop:=∃c1 c2 c3,∀(k:Nat) (x1 x2 x3:Bool) (rest:List Nat),scn (w++rest) k x1 x2 x3=scn rest k (c1 || x1) (c2 || x2) (c3 || x3)
noncomputable def Br (w:List Nat):Prop:=∀(k:Nat) (rest:List Nat),brc k (w++rest)=(brc k rest).map fun p=>(w++p.1,p.2)
noncomputable def Ta (w:List Nat):Prop:=∀rest,tame (w++rest)=tame rest
theorem sc_of {w:List Nat} (h:(scn w 0 false false false).map (fun p=>p.1)=some 0):Sc w:=by
  cases e:scn w 0 false false false with
  | none=>rw [e] at h;cases h
  | some p=>
    obtain ⟨d,c1,c2,c3⟩:=p
    rw [e] at h
    cases h
    refine ⟨c1,c2,c3,fun k x1 x2 x3 rest=>?_⟩
    have:=scn_app w e k x1 x2 x3 rest
    simpa using this
theorem br_of {w:List Nat} (h:dep w 0=some 0):Br w:=fun k rest=>by
  have:=dep_app w h k rest
  simpa using this
structure Wd (w t:List Nat):Prop where
  scan:Sc w
  brc:Br w
  tame:Ta w
  ne:w≠[]
  fe0:fe w=.got t []
  fe1:∀rest,fe (w++32::rest)=.got t (32::rest)
theorem wd_leaf {s:List Nat} (hs:s∈leaves) (b:Bool):Wd (leafW b s) s:=by
  simp only [leaves,List.mem_cons,List.not_mem_nil,or_false] at hs
  rcases hs with rfl | rfl | rfl | rfl | rfl | rfl | rfl | rfl | rfl | rfl | rfl | rfl | rfl<;>cases b <;>
    exact ⟨sc_of (by kernel_rfl),br_of (by kernel_rfl),tame_app _ (by kernel_rfl),by decide +kernel,by kernel_rfl,fun rest=>by kernel_rfl⟩
inductive Ws:List (List Nat)→List (List Nat)→Prop
  | nil:Ws [] []
  | cons {w t:List Nat} {ws ts:List (List Nat)}:Wd w t→Ws ws ts→Ws (w::ws) (t::ts)
noncomputable def abc:List (List Nat):=[[97],[98],[99]]
noncomputable def mdW (w:List Nat):List Nat:=if w∈abc then noneW else braceW
structure Tx (t:List Nat) (es:List (List Nat)):Prop where
  scan:Sc t
  brc:Br t
  tame:Ta t
  sp:SP t es none
  md:∀h,modeP h t=mdW t
theorem tame_cons {x:Nat} {r:List Nat} (h:x≠92):tame (x::r)=tame r:=by
  induction r using List.casesOn with
  | nil=>rfl
  | cons y q=>exact if_neg h
theorem fe_blank (s:List Nat):fe (32::s)=fe s:=by
  unfold fe
  rw [List.dropWhile_cons,if_pos (by rw [blank_eq];rfl)]
theorem SP.blank {s:List Nat} {es:List (List Nat)} {o:Fault} (h:SP s es o):SP (32::s) es o:=by
  cases h with
  | nil e=>exact .nil ((fe_blank s).trans e)
  | bad e=>exact .bad ((fe_blank s).trans e)
  | @cons _ e q r es o e1 e2 e3 e4 h=>exact .cons (q:=32::q) ((fe_blank s).trans e1) (by rw [e2];rfl) (by simp) e4 h
theorem Ws.tame {ws ts:List (List Nat)} (h:Ws ws ts):Ta (spc ws):=by
  induction h with
  | nil=>exact fun zz=>rfl
  | @cons w t ws ts h k ih=>
    cases k with
    | nil=>exact h.tame
    | cons h2 k2=>
      intro rest
      show Mine.Internal.tame ((w++32::spc _)++rest)=_
      rw [List.append_assoc,h.tame,List.cons_append,tame_cons (by decide),ih]
theorem Ws.brc {ws ts:List (List Nat)} (h:Ws ws ts):Br (spc ws):=by
  induction h with
  | nil=>exact fun k rest=>by simp [spc]
  | @cons w t ws ts h k ih=>
    cases k with
    | nil=>exact h.brc
    | cons h2 k2=>
      intro k rest
      show Mine.Internal.brc k ((w++32::spc _)++rest)=_
      rw [List.append_assoc,h.brc,List.cons_append,brc_else (by decide) (by decide) (by decide),ih,Option.map_map,Option.map_map]
      cases Mine.Internal.brc k rest<;>simp [spc]
theorem Ws.scan {ws ts:List (List Nat)} (h:Ws ws ts):Sc (spc ws):=by
  induction h with
  | nil=>exact ⟨false,false,false,fun k x1 x2 x3 rest=>rfl⟩
  | @cons w t ws ts h k ih=>
    cases k with
    | nil=>exact h.scan
    | cons h2 k2=>
      obtain ⟨c1,c2,c3,hw⟩:=h.scan
      obtain ⟨e1,e2,e3,hr⟩:=ih
      refine ⟨true,true,e3 || c3,fun k x1 x2 x3 rest=>?_⟩
      show scn ((w++32::spc _)++rest) k x1 x2 x3=_
      rw [List.append_assoc,hw,List.cons_append,scn_sp (by decide) (by decide) (by decide) (by decide) (.inr (by rw [blank_eq];rfl)),hr]
      simp [Bool.or_assoc]
theorem Ws.sp {ws ts:List (List Nat)} (h:Ws ws ts):SP (spc ws) ts none:=by
  induction h with
  | nil=>exact .nil rfl
  | @cons w t ws ts h k ih=>
    cases k with
    | nil=>exact .cons (q:=w) h.fe0 (by simp [spc]) h.ne rfl (.nil rfl)
    | cons h2 k2=>
      refine .cons (q:=w) (h.fe1 _) rfl h.ne ?_ ih.blank
      rw [tame_cons (by decide)]
      have:=(Ws.cons h2 k2).tame []
      rw [List.append_nil] at this
      exact this.trans rfl
theorem modeE_brace {hd a b:Bool} (h:b=true):modeE hd (some (0,true,b,a))=braceW:=by
  subst h
  unfold modeE
  dsimp only
  rw [if_neg (by decide),if_pos rfl,if_neg (by intro q;cases q.2)]
theorem abc_md (h:Bool):∀w∈abc,modeP h w=noneW:=by
  intro w hw
  simp only [abc,List.mem_cons,List.not_mem_nil,or_false] at hw
  rcases hw with rfl | rfl | rfl<;>cases h<;>kernel_rfl
noncomputable def One (w:List Nat):Prop:=∀h,modeP h w=mdW w
theorem Ws.tx {w t:List Nat} {ws ts:List (List Nat)} (h:Ws (w::ws) (t::ts)) (h1:One w):Tx (spc (w::ws)) (t::ts):=by
  refine ⟨h.scan,h.brc,h.tame,h.sp,fun b=>?_⟩
  cases h with
  | cons hw k=>
    cases k with
    | nil=>exact h1 b
    | @cons w2 t2 ws2 ts2 h2 k2=>
      have hn:spc (w::w2::ws2) ∉ abc:=by
        have hl:2≤(spc (w::w2::ws2)).length:=by
          show 2≤(w++32::spc (w2::ws2)).length
          have:=List.length_pos_iff.mpr hw.ne
          simp;omega
        intro q
        simp only [abc,List.mem_cons,List.not_mem_nil,or_false] at q
        rcases q with q | q | q<;>(rw [q] at hl;exact absurd hl (by decide))
      rw [mdW,if_neg hn]
      obtain ⟨c1,c2,c3,hs⟩:=hw.scan
      obtain ⟨e1,e2,e3,hr⟩:=(Ws.cons h2 k2).scan
      obtain ⟨x,r,hx⟩:∃x r,w=x::r:=by
        induction w using List.casesOn with
        | nil=>exact absurd rfl hw.ne
        | cons x r=>exact ⟨x,r,rfl⟩
      have hk:∀(x1 x2:Bool),scn (w++32::spc (w2::ws2)) 0 x1 x2 false=some (0,true,true,e3 || (c3 || false)):=fun x1 x2=>by
        have hr:=hr 0 true true (c3 || false) []
        rw [List.append_nil] at hr
        rw [hs,scn_sp (by decide) (by decide) (by decide) (by decide) (.inr (by rw [blank_eq];rfl)),hr]
        simp [scn]
      show modeP b (w++32::spc (w2::ws2))=braceW
      rw [hx] at hk ⊢
      show modeE _ (scn (x::r++32::spc (w2::ws2)) 0 _ _ false)=_
      rw [hk]
      exact modeE_brace rfl
theorem tx_nil:Tx (spc []) []:=⟨Ws.nil.scan,Ws.nil.brc,Ws.nil.tame,Ws.nil.sp,fun zz=>rfl⟩
theorem Tx.brW {t:List Nat} {es:List (List Nat)} (h:Tx t es):Wd (brW t) t∧One (brW t):=by
  unfold Mine.Internal.brW
  by_cases ht:t∈[[97],[98],[99]]
  · rw [if_pos ht]
    refine ⟨?_,h.md⟩
    simp only [List.mem_cons,List.not_mem_nil,or_false] at ht
    rcases ht with rfl | rfl | rfl
    · exact wd_leaf (s:=[97]) (by decide) true
    · exact wd_leaf (s:=[98]) (by decide) true
    · exact wd_leaf (s:=[99]) (by decide) true
  · rw [if_neg ht]
    obtain ⟨c1,c2,c3,hs⟩:=h.scan
    have hfe:∀rest,behind bracesW t rest=.got t rest→fe (123::(t++[125])++rest)=.got t rest:=fun rest hb=>by
      unfold fe
      rw [List.cons_append,List.dropWhile_cons,if_neg (by rw [blank_eq];decide)]
      show braced (t++[125]++rest)=_
      unfold braced
      rw [List.append_assoc,h.brc,List.singleton_append,brc_close0]
      simpa using hb
    refine ⟨⟨⟨c1,c2,c3,fun k x1 x2 x3 rest=>?_⟩,fun k rest=>?_,fun rest=>?_,by simp,?_,fun rest=>hfe _ (by unfold behind;dsimp only;rw [if_pos (by rw [blank_eq];rfl)])⟩,fun b=>?_⟩
    · rw [List.cons_append,List.append_assoc,scn_open,hs,List.singleton_append,scn_close]
    · rw [List.cons_append,List.append_assoc,brc_open,h.brc,List.singleton_append,brc_close,Option.map_map,Option.map_map]
      cases Mine.Internal.brc k rest<;>simp
    · rw [List.cons_append,List.append_assoc,tame_cons (by decide),h.tame,List.singleton_append,tame_cons (by decide)]
    · have:=hfe [] rfl
      rwa [List.append_nil] at this
    · have hn:123::(t++[125]) ∉ abc:=by
        intro q
        simp only [abc,List.mem_cons,List.not_mem_nil,or_false] at q
        rcases q with q | q | q<;>(have:=(List.cons.inj q).1;revert this;decide)
      rw [mdW,if_neg hn]
      show modeE _ (scn (123::(t++[125])) 0 true (true || _) false)=braceW
      rw [scn_open,hs,scn_close]
      simp only [Bool.or_true,Bool.true_or]
      exact modeE_brace rfl
theorem one_leaf {s:List Nat} (hs:s∈leaves):One (leafW true s):=by
  intro h
  simp only [leaves,List.mem_cons,List.not_mem_nil,or_false] at hs
  rcases hs with rfl | rfl | rfl | rfl | rfl | rfl | rfl | rfl | rfl | rfl | rfl | rfl | rfl<;>cases h<;>kernel_rfl
inductive Kn:Nd→Prop
  | leaf {s:List Nat}:s∈leaves→Kn (.leaf s)
  | node {xs:List Nd}:Tx (ntext (.node xs)) (xs.map ntext)→Kn (.node xs)
theorem Kn.wd {x:Nd} (h:Kn x) (b:Bool):Wd (nwrit b x) (ntext x):=by
  cases h with
  | leaf h=>rw [nwrit,ntext];exact wd_leaf h b
  | node h=>rw [nwrit];exact h.brW.1
theorem Kn.one {x:Nd} (h:Kn x):One (nwrit true x):=by
  cases h with
  | leaf h=>rw [nwrit];exact one_leaf h
  | node h=>rw [nwrit];exact h.brW.2
theorem Kn.ws {xs:List Nd}:(∀x∈xs,Kn x)→∀b,Ws (nwrits b xs) (xs.map ntext):=by
  induction xs with
  | nil=>
    intro _ _
    rw [nwrits];exact .nil
  | cons x r ih=>
    intro h b
    rw [nwrits];exact .cons ((h x (.head _)).wd b) (ih (fun y hy=>h y (.tail _ hy)) false)
theorem Kn.mk {xs:List Nd} (h:∀x∈xs,Kn x):Kn (.node xs):=by
  refine .node ?_
  rw [ntext]
  induction xs using List.casesOn with
  | nil=>rw [nwrits];exact tx_nil
  | cons x r=>
    have:=Kn.ws h true
    rw [nwrits] at this ⊢
    exact this.tx (h x (.head _)).one
theorem Good.kn {x:Nd} (h:Good x):Kn x:=by
  induction h with
  | leaf h=>exact .leaf h
  | node _ ih=>exact .mk ih
theorem leaf_sp {s:List Nat} (hs:s∈leaves):SP s ((litems (.leaf s)).1.map ntext) (litems (.leaf s)).2:=by
  have one:∀{s:List Nat},fe s=.got s []→s≠[]→SP s [s] none:=fun h hn=>.cons (q:=_) h (List.append_nil _).symm hn rfl (.nil rfl)
  have two:SP [98,32,99] [[98],[99]] none:=.cons (q:=[98]) (r:=[32,99]) (by kernel_rfl) rfl (by decide) (by kernel_rfl) (.cons (q:=[32,99]) (r:=[]) (by kernel_rfl) rfl (by decide) rfl (.nil rfl))
  simp only [leaves,List.mem_cons,List.not_mem_nil,or_false] at hs
  rcases hs with rfl | rfl | rfl | rfl | rfl | rfl | rfl | rfl | rfl | rfl | rfl | rfl | rfl
  · exact .nil rfl
  · exact one (by kernel_rfl) (by decide)
  · exact one (by kernel_rfl) (by decide)
  · exact one (by kernel_rfl) (by decide)
  · exact two
  · exact .cons (q:=[32,98]) (r:=[32,32,99]) (by kernel_rfl) rfl (by decide) (by kernel_rfl) (.cons (q:=[32,32,99]) (r:=[]) (by kernel_rfl) rfl (by decide) rfl (.nil rfl))
  · exact one (by kernel_rfl) (by decide)
  · exact one (by kernel_rfl) (by decide)
  · exact .bad (by kernel_rfl)
  · exact .bad (by kernel_rfl)
  · exact one (by kernel_rfl) (by decide)
  · exact .bad (by kernel_rfl)
  · exact .cons (q:=[123,98,32,99,125]) (r:=[32,97]) (by kernel_rfl) rfl (by decide) (by kernel_rfl) (.cons (q:=[32,97]) (r:=[]) (by kernel_rfl) rfl (by decide) rfl (.nil rfl))
theorem leaf_quote {s:List Nat} (hs:s∈leaves) (b:Bool):quoteP b s=leafW b s:=by
  simp only [leaves,List.mem_cons,List.not_mem_nil,or_false] at hs
  rcases hs with rfl | rfl | rfl | rfl | rfl | rfl | rfl | rfl | rfl | rfl | rfl | rfl | rfl<;>cases b<;>kernel_rfl
theorem leaf_ok:∀s∈leaves,tame s=true∧s.length≤7∧∀x∈s,idxI x [12,10,13,9,11]=-1:=by decide +kernel
theorem Good.sp {x:Nd} (h:Good x):SP (ntext x) ((litems x).1.map ntext) (litems x).2:=by
  cases h with
  | leaf h=>exact leaf_sp h
  | node h=>cases (Good.node h).kn with | node k=>exact k.sp
theorem Good.tame {x:Nd} (h:Good x):tame (ntext x)=true:=by
  cases h with
  | leaf h=>rw [ntext];exact (leaf_ok _ h).1
  | node h=>cases (Good.node h).kn with | node k=>have:=k.tame [];rw [List.append_nil] at this;exact this.trans rfl
theorem Good.quote {x:Nd} (h:Good x) (b:Bool):quoteP b (ntext x)=nwrit b x:=by
  cases h with
  | leaf h=>rw [ntext,nwrit];exact leaf_quote h b
  | node h=>
    cases (Good.node h).kn with | node k=>
    have hm:=k.md b
    rw [ntext] at hm ⊢
    rw [nwrit]
    generalize spc (nwrits true _)=t at hm ⊢
    unfold quoteP brW
    rw [hm]
    unfold mdW abc
    by_cases ht:t∈[[97],[98],[99]]
    · rw [if_pos ht,if_pos rfl,if_pos ht]
    · rw [if_neg ht,if_neg ht,if_neg (by decide),if_pos rfl];rfl
theorem Good.qt {x:Nd} (h:Good x) (hl:(ntext x).length≤50000):Qt (ntext x):=by
  refine ⟨hl,fun b h1 h2=>?_⟩
  cases h with
  | leaf h=>rw [ntext];exact (leaf_ok _ h).2.2
  | node h=>
    cases (Good.node h).kn with | node k=>
    have hm:=k.md b
    unfold mdW at hm
    split at hm
    · exact absurd hm h1
    · exact absurd hm h2
theorem Good.quotes {xs:List Nd}:(∀x∈xs,Good x)→∀b,quotes b (xs.map ntext)=nwrits b xs:=by
  induction xs with
  | nil=>
    intro _ b
    rw [nwrits];rfl
  | cons x r ih=>
    intro h b
    rw [nwrits,List.map_cons,Mine.Internal.quotes,(h x (.head _)).quote b,ih (fun y hy=>h y (.tail _ hy)) false]
theorem known_good:∀s∈leaves,∀x∈(litems (.leaf s)).1,∃t∈leaves,x=.leaf t:=by
  intro s hs
  simp only [leaves,List.mem_cons,List.not_mem_nil,or_false] at hs
  rcases hs with rfl | rfl | rfl | rfl | rfl | rfl | rfl | rfl | rfl | rfl | rfl | rfl | rfl
  · exact fun zz h=>nomatch h
  · exact fun x h=>⟨_,by decide,List.mem_singleton.mp h⟩
  · exact fun x h=>⟨_,by decide,List.mem_singleton.mp h⟩
  · exact fun x h=>⟨_,by decide,List.mem_singleton.mp h⟩
  · exact fun x h=>(List.mem_cons.mp h).elim (fun e=>⟨[98],by decide,e⟩) fun h=>⟨[99],by decide,List.mem_singleton.mp h⟩
  · exact fun x h=>(List.mem_cons.mp h).elim (fun e=>⟨[98],by decide,e⟩) fun h=>⟨[99],by decide,List.mem_singleton.mp h⟩
  · exact fun x h=>⟨_,by decide,List.mem_singleton.mp h⟩
  · exact fun x h=>⟨_,by decide,List.mem_singleton.mp h⟩
  · exact fun zz h=>nomatch h
  · exact fun zz h=>nomatch h
  · exact fun x h=>⟨_,by decide,List.mem_singleton.mp h⟩
  · exact fun zz h=>nomatch h
  · exact fun x h=>(List.mem_cons.mp h).elim (fun e=>⟨[98,32,99],by decide,e⟩) fun h=>⟨[97],by decide,List.mem_singleton.mp h⟩
theorem Good.items {x:Nd} (h:Good x):∀y∈(litems x).1,Good y:=by
  cases h with
  | leaf h=>exact fun y hy=>by obtain ⟨t,h1,rfl⟩:=known_good _ h y hy;exact .leaf h1
  | node h=>exact h
mutual
noncomputable def sz:Nd→Nat
  | .leaf _=>20
  | .node xs=>20+szs xs
noncomputable def szs:List Nd→Nat
  | []=>0
  | x::r=>sz x+szs r
end
mutual
theorem sz_text:∀{x:Nd},Good x→(ntext x).length+3≤sz x
  | .leaf s,h=>by
    cases h with
    | leaf h=>rw [ntext,sz];have:=(leaf_ok s h).2.1;omega
  | .node xs,h=>by
    cases h with
    | node h=>rw [ntext,sz];have:=szs_text h true;omega
theorem sz_writ:∀{x:Nd},Good x→∀b,(nwrit b x).length+1≤sz x
  | .leaf s,h,b=>by
    cases h with
    | leaf h=>
      have:∀s∈leaves,∀b,(leafW b s).length≤9:=by decide +kernel
      rw [nwrit,sz]
      have:=this s h b
      omega
  | .node xs,h,b=>by
    cases h with
    | node h=>
      rw [nwrit,sz]
      have:=szs_text h true
      unfold brW
      split<;>simp<;>omega
theorem szs_text:∀{xs:List Nd},(∀x∈xs,Good x)→∀b,(spc (nwrits b xs)).length≤szs xs
  | [],_,b=>by rw [nwrits];exact Nat.zero_le _
  | [x],h,b=>by
    rw [nwrits,nwrits,szs,szs]
    have:=sz_writ (h x (.head _)) b
    show (nwrit b x).length≤_
    omega
  | x::y::r,h,b=>by
    have h1:=sz_writ (h x (.head _)) b
    have h2:=szs_text (xs:=y::r) (fun z hz=>h z (.tail _ hz)) false
    rw [nwrits,szs]
    rw [nwrits] at h2 ⊢
    show (nwrit b x++32::spc (nwrit false y::nwrits false r)).length≤_
    rw [List.length_append,List.length_cons]
    omega
end
theorem szs_app (xs:List Nd):∀(ys:List Nd),szs (xs++ys)=szs xs+szs ys:=by
  induction xs with
  | nil=>
    intro ys
    simp [szs]
  | cons x r ih=>
    intro ys
    rw [List.cons_append,szs,szs,ih ys];omega
theorem szs_len (xs:List Nd):20 * xs.length≤szs xs:=by
  induction xs with
  | nil=>
    exact Nat.le_refl _
  | cons x r ih=>
    have:=ih
    rw [szs,List.length_cons]
    have:20≤sz x:=by cases x<;>rw [sz]<;>omega
    omega
theorem szs_mem {xs:List Nd} {x:Nd} (h:x∈xs):sz x≤szs xs:=by
  induction xs with
  | nil=>cases h
  | cons y r ih=>
    rw [szs]
    rcases List.mem_cons.mp h with rfl | h
    · omega
    · have:=ih h;omega
structure Ix where
  w:List Nat
  e:Bool
  num:Option Int
structure Ix.Ok (x:Ix):Prop where
  idx:idxP x.w=x.num.map fun k=>(x.e,k)
  len:x.w.length≤2000
noncomputable def Ix.bad (x:Ix):Fault:=some (badMsg x.w,badEc)
noncomputable def badOf (r:List Ix):Fault:=match r with
  | []=>none
  | x::r=>match x.num with
    | none=>x.bad
    | some _=>badOf r
noncomputable def lgot:List Nat→Nd→List Ix→List Nat×Fault
  | t,_,[]=>(t,none)
  | _,x,i::r=>match (litems x).2 with
    | some f=>([],some f)
    | none=>match i.num with
      | none=>([],i.bad)
      | some k=>if atI ((litems x).1.length - 1) (i.e,k) < 0∨(litems x).1.length≤atI ((litems x).1.length - 1) (i.e,k) then ([],badOf r)
        else match (litems x).1[(atI ((litems x).1.length - 1) (i.e,k)).toNat]? with
          | some y=>lgot (ntext y) y r
          | none=>([],none)
theorem lgot_cons (t:List Nat) (x:Nd) (i:Ix) (r:List Ix):lgot t x (i::r)=match (litems x).2 with
    | some f=>([],some f)
    | none=>match i.num with
      | none=>([],i.bad)
      | some k=>if atI ((litems x).1.length - 1) (i.e,k) < 0∨(litems x).1.length≤atI ((litems x).1.length - 1) (i.e,k) then ([],badOf r)
        else match (litems x).1[(atI ((litems x).1.length - 1) (i.e,k)).toNat]? with
          | some y=>lgot (ntext y) y r
          | none=>([],none):=rfl
section
variable {c:Cx} {n:Nat} {own:Own} {Q:PQ} {X:PX}
noncomputable def wrongMsg (u:List Nat):List Nat:=[119,114,111,110,103,32,35,32,97,114,103,115,58,32,115,104,111,117,108,100,32,98,101,32,34]++u++[34]
noncomputable def wrongEc:List V:=[.str [84,67,76],.str [87,82,79,78,71,65,82,71,83]]
theorem wrong_args_c (P:Prog c) {u:List Nat} (hl:u.length≤10000) (h:∀x,Q (.own x) ((x,.exc true 84 (rAts (wrongMsg u) wrongEc))::own)):SemCall c (n+4) (.ref 146) [.str u] own Q X:=by
  refine (P.wrong_args rfl fun as zz=>?_).call
  exact ⟨139,rfl,rfl,lim_ (lw (Nat.add_le_add (Nat.le_refl _) hl) rfl),lim_ (lw (Nat.add_le_add (la (Nat.le_refl _) hl) (Nat.le_refl _)) rfl),error_c P fun x=>end_ (h x) rfl⟩
theorem ix_c (P:Prog c) {i:Ix} (h:i.Ok) {last:Int} (hq:∀k,i.num=some k→Q (.int (atI last (i.e,k))) own) (hx:i.num=none→XE X own (badMsg i.w) badEc):SemCall c (n+4) (.ref 223) [.str i.w,.int last] own Q X:=by
  refine index_of_c P (by have:=h.len;omega) (fun p hp=>?_) fun hp=>?_
  · rw [h.idx] at hp
    cases hn:i.num with
    | none=>rw [hn] at hp;cases hp
    | some k=>rw [hn] at hp;cases hp;exact hq k hn
  · rw [h.idx] at hp
    cases hn:i.num with
    | none=>exact hx hn
    | some k=>rw [hn] at hp;cases hp
structure Tn (t:List Nat) (x:Nd):Prop where
  good:Good x
  sz:sz x≤50000
  sp:SP t ((litems x).1.map ntext) (litems x).2
  tame:tame t=true
  len:t.length≤50000
theorem Good.tn {x:Nd} (h:Good x) (hs:Mine.Internal.sz x≤50000):Tn (ntext x) x:=⟨h,hs,h.sp,h.tame,by have:=sz_text h;omega⟩
theorem node_split (P:Prog c) {t:List Nat} {x:Nd} (hg:Tn t x) (hq:(litems x).2=none→Q (.list (((litems x).1.map ntext).map .str)) own) (hx:∀m ec,(litems x).2=some (m,ec)→XE X own m ec):SemCall c (n+7) (.ref 286) [.str t] own Q X:=
  split_c P hg.sp hg.tame (Nat.le_trans hg.len (by decide)) hq hx
noncomputable def wv (l:List Ix):List V:=l.map fun i=>.str i.w
theorem rest_loop (P:Prog c) {a b d e f:Option V} (r:List Ix):∀(o:Option V) {K:PS},(∀i∈r,i.Ok)→(badOf r=none→∀o,K ⟨[a,b,d,e,f,o],own⟩)→(∀m ec,badOf r=some (m,ec)→XE X own m ec)→
    forGo (forP 5 (wpSs c (n+7) tabT at_path_b0) (seqR (wpSs c (n+7) tabT [.ret (.str [])]) (EndQ Q) (EndX X)) (EndX X)) (wv r) ⟨[a,b,d,e,f,o],own⟩ K:=by
  induction r with
  | nil=>
    intro o K _ hk _
    exact hk rfl o
  | cons i r ih=>
    intro o K hi hk hx
    refine ⟨223,rfl,rfl,ix_c P (hi i (.head _)) (fun k hn=>?_) fun hn=>XE.up [] (hx _ _ (by unfold badOf;rw [hn];rfl))⟩
    have e:badOf (i::r)=badOf r:=by rw [badOf,hn]
    rw [e] at hk hx
    exact ih _ (fun j hj=>hi j (.tail _ hj)) hk hx
end
section
variable {c:Cx} {n:Nat} {own:Own} {Q:PQ} {X:PX}
theorem or2_v {a b:Prop} [Decidable a] [Decidable b] {A B:Prop} (ha:a∨b→A) (hb:¬ (a∨b)→B):ifB (decide a) A (ifB (decide b) A B):=or2_i ha hb
theorem items_len (x:Nd):((((litems x).1.map ntext).map V.str).length:Int)=(litems x).1.length:=by rw [List.length_map,List.length_map]
theorem litem_sz {x:Nd} {y:Nd} (hg:Good x) (h:y∈(litems x).1):sz y≤sz x:=by
  cases hg with
  | node hx=>
    have:=szs_mem (xs:=_) h
    rw [sz]
    show sz y≤20+szs _
    exact Nat.le_trans this (Nat.le_add_left _ _)
  | leaf hs=>
    obtain ⟨t,_,rfl⟩:=known_good _ hs y h
    rw [sz,sz];exact Nat.le_refl _
theorem items_short {x:Nd} (hg:Good x) (hs:sz x≤50000):(litems x).1.length≤50000:=by
  have:=hg.sp.len
  have h2:=sz_text hg
  rw [List.length_map] at this
  omega
theorem at_loop (P:Prog c) {all:List Ix} (hl:all.length≤1000) (hi:∀i∈all,i.Ok) (todo:List Ix):∀(done:List Ix) (t:List Nat) (x:Nd) (o2 o3 o4 o5:Option V) {K:PS},all=done++todo→Tn t x→((lgot t x todo).2=none→Q (.str (lgot t x todo).1) own)→(∀m ec,(lgot t x todo).2=some (m,ec)→XE X own m ec)→
    (∀t o2 o3 o4 o5,Q (.str t) own→K ⟨[some (.str t),some (.list (wv all)),o2,o3,o4,o5],own⟩)→
    forGo (forP 2 (wpSs c (n+7) tabT at_path_b1) (seqR (wpSs c (n+7) tabT [.ret (.loc 0)]) (EndQ Q) (EndX X)) (EndX X)) ((List.range' done.length todo.length).map fun (k:Nat)=>V.int k) ⟨[some (.str t),some (.list (wv all)),o2,o3,o4,o5],own⟩ K:=by
  induction todo with
  | nil=>
    intro done t x o2 o3 o4 o5 K e hT hq hx hk
    exact hk t _ _ _ _ (hq rfl)
  | cons i r ih=>
    intro done t x o2 o3 o4 o5 K e hT hq hx hk
    have hg:=hT.good
    have hs:=hT.sz
    have hall:all.length=done.length+(r.length+1):=by rw [e];simp
    have hat:(wv all)[((done.length:Nat):Int).toNat]?=some (.str i.w):=by rw [e];simp [wv]
    have hlim:(((litems x).1.map ntext).map V.str).length≤LIM:=lim_ (by rw [List.length_map,List.length_map];have:=items_short hg hs;omega)
    refine ⟨286,rfl,rfl,node_split P hT (fun hf=>⟨223,rfl,rfl,by omega,by omega,_,hat,_,.frz,hlim,?_⟩) fun m ec hf=>XE.up [] (hx m ec (by rw [lgot_cons,hf]))⟩
    refine ix_c P (hi i (by rw [e];simp)) (fun k hn=>?_) fun hn=>XE.up [] (hx _ _ (by rw [lgot_cons,hf];dsimp only;rw [hn];rfl))
    have eg:lgot t x (i::r)=if atI ((litems x).1.length - 1) (i.e,k) < 0∨(litems x).1.length≤atI ((litems x).1.length - 1) (i.e,k) then ([],badOf r)
        else match (litems x).1[(atI ((litems x).1.length - 1) (i.e,k)).toNat]? with
          | some y=>lgot (ntext y) y r
          | none=>([],none):=by rw [lgot_cons,hf];dsimp only;rw [hn]<;>rfl
    have key:∀p:Int,p=atI ((litems x).1.length - 1) (i.e,k)→wpSs c (n+7) tabT (at_path_b1.drop 2) ⟨[some (.str t),some (.list (wv all)),some (.int done.length),some (.list (((litems x).1.map ntext).map .str)),some (.int p),o5],own⟩
        (loopK (fun st=>forGo (forP 2 (wpSs c (n+7) tabT at_path_b1) (seqR (wpSs c (n+7) tabT [.ret (.loc 0)]) (EndQ Q) (EndX X)) (EndX X)) ((List.range' (done.length+1) r.length).map fun (k:Nat)=>V.int k) st K) (seqR (wpSs c (n+7) tabT [.ret (.loc 0)]) (EndQ Q) (EndX X))) (EndX X):=fun p hp=>by
      rw [← hp] at eg
      rw [eg] at hq hx
      by_cases hout:p < 0∨((litems x).1.length:Int)≤p
      · rw [if_pos hout] at hq hx
        have out:wpSs c (n+7) tabT [.for 5 (.slc (.loc 1) (.bin .Add (.loc 2) (.int 1)) .non) at_path_b0,.ret (.str [])] ⟨[some (.str t),some (.list (wv all)),some (.int done.length),some (.list (((litems x).1.map ntext).map .str)),some (.int p),o5],own⟩
            (seqK (fun st=>wpSs c (n+7) tabT (at_path_b1.drop 3) st (loopK (fun st=>forGo (forP 2 (wpSs c (n+7) tabT at_path_b1) (seqR (wpSs c (n+7) tabT [.ret (.loc 0)]) (EndQ Q) (EndX X)) (EndX X)) ((List.range' (done.length+1) r.length).map fun (k:Nat)=>V.int k) st K) (seqR (wpSs c (n+7) tabT [.ret (.loc 0)]) (EndQ Q) (EndX X))) (EndX X))
              (loopK (fun st=>forGo (forP 2 (wpSs c (n+7) tabT at_path_b1) (seqR (wpSs c (n+7) tabT [.ret (.loc 0)]) (EndQ Q) (EndX X)) (EndX X)) ((List.range' (done.length+1) r.length).map fun (k:Nat)=>V.int k) st K) (seqR (wpSs c (n+7) tabT [.ret (.loc 0)]) (EndQ Q) (EndX X)))) (EndX X):=by
          refine ⟨_,_,part_ (k:=done.length+1) (by simp),rfl,lim_ (by simp [wv];omega),?_⟩
          have hc:cutL (wv all) (some (done.length+1)) none=wv r:=by
            rw [show wv all=(wv (done++[i]))++wv r by rw [e];simp [wv]]
            exact cut_from (by simp [wv])
          rw [hc]
          exact ⟨_,rfl,lim_ (by simp [wv];omega),rest_loop P r _ (fun j hj=>hi j (by rw [e];simp [hj])) (fun hb o=>end_ (hq hb) rfl) hx⟩
        refine ifD (fun h1=>out) fun h1=>⟨_,.frz,hlim,?_⟩
        rw [items_len]
        exact ifT (by omega) out
      · rw [if_neg hout] at hq hx
        refine ifF (by omega) ⟨_,.frz,hlim,?_⟩
        rw [items_len]
        obtain ⟨q,rfl⟩:=Int.eq_ofNat_of_zero_le (show 0≤p by omega)
        have hq1:q < (litems x).1.length:=by omega
        have hy:(litems x).1[q]?=some (litems x).1[q]:=List.getElem?_eq_getElem hq1
        rw [show ((q:Int).toNat)=q from rfl,hy] at hq hx
        have hm:(litems x).1[q]∈(litems x).1:=List.getElem_mem hq1
        generalize (litems x).1[q]=y at hq hx hy hm
        have hs2:=items_short hg hs
        refine ifF (by omega) ⟨by omega,by omega,.str (ntext y),?_,?_⟩
        · show (((litems x).1.map ntext).map V.str)[q]?=_
          rw [List.getElem?_map,List.getElem?_map,hy];rfl
        · have:=ih (done++[i]) (ntext y) y (some (.int done.length)) (some (.list (((litems x).1.map ntext).map .str))) (some (.int q)) o5 (K:=K) (by rw [e];simp) ((hg.items y hm).tn (Nat.le_trans (litem_sz hg hm) hs)) hq hx hk
          rw [List.length_append,List.length_singleton] at this
          exact this
    exact key _ (by rw [items_len])
end
section
variable {c:Cx} {n:Nat} {own:Own} {Q:PQ} {X:PX}
theorem at_path_c (P:Prog c) {t:List Nat} {x:Nd} {ixs:List Ix} (hT:Tn t x) (hl:ixs.length≤1000) (hi:∀i∈ixs,i.Ok) (hq:(lgot t x ixs).2=none→Q (.str (lgot t x ixs).1) own) (hx:∀m ec,(lgot t x ixs).2=some (m,ec)→XE X own m ec):SemCall c (n+8) (.ref 329) [.str t,.list (wv ixs)] own Q X:=by
  refine (P.at_path rfl fun as zz=>?_).call
  have hw:(wv ixs).length=ixs.length:=by simp [wv]
  refine ⟨_,.frz,lim_ (by omega),by omega,by omega,_,rfl,by simp;exact lim_ (by omega),?_⟩
  have:=at_loop (n:=n) P hl hi ixs [] t x none none none none (K:=fun st=>wpSs c (n+7) tabT [.ret (.loc 0)] st (EndQ Q) (EndX X)) rfl hT hq hx fun x o2 o3 o4 o5 h=>end_ h rfl
  rw [← hw,show (List.range' ([]:List Ix).length (wv ixs).length)=List.range (wv ixs).length from List.range_eq_range'.symm] at this
  exact this
noncomputable def repB {α:Type} (items:List α) (f:Int):Int:=max 0 (min f items.length)
noncomputable def repV {α:Type} (items:List α) (f l:Int) (more:List α):List α:=items.take (repB items f).toNat++more++items.drop (max (repB items f) (min (l+1) items.length)).toNat
theorem cut_take {α:Type} {s:List α} {k:Nat}:cutL s none (some k)=s.take k:=by simp [cutL]
theorem cut_drop {α:Type} {s:List α} {k:Nat}:cutL s (some k) none=s.drop k:=by simp [cutL,List.take_of_length_le]
theorem replaced_c (P:Prog c) {items more:List V} {f l:Int} (hl:items.length≤50000) (hm:more.length≤10000) (h:Q (.list (repV items f l more)) own):SemCall c (n+1) (.ref 336) [.list items,.int f,.int l,.list more] own Q X:=by
  refine (P.replaced rfl fun as zz=>?_).call
  refine ⟨_,.frz,lim_ (by omega),_,.frz,lim_ (by omega),_,_,rfl,part_ (k:=(repB items f).toNat) ?_,lim_ (by omega),?_⟩
  · exact toNat_eq (Int.le_max_left _ _)
  rw [cut_take]
  refine ⟨?_,_,_,part_ (k:=(max (repB items f) (min (l+1) items.length)).toNat) ?_,rfl,lim_ (by omega),?_⟩
  · exact lim_ (lw (Nat.add_le_add (Nat.le_trans (List.length_take_le' _ _) hl) hm) rfl)
  · exact toNat_eq (Int.le_trans (Int.le_max_left _ _) (Int.le_max_left (repB items f) _))
  rw [cut_drop]
  refine ⟨lim_ ?_,end_ h rfl⟩
  exact lw (Nat.add_le_add (la (Nat.le_trans (List.length_take_le' _ _) hl) hm) (Nat.le_trans (List.drop_sublist _ items).length_le hl)) rfl
theorem inserted_c (P:Prog c) {items more:List V} {f:Int} (hl:items.length≤50000) (hm:more.length≤10000) (h:Q (.list (repV items f (f - 1) more)) own):SemCall c (n+2) (.ref 343) [.list items,.int f,.list more] own Q X:=by
  refine (P.inserted rfl fun as zz=>?_).call
  exact ⟨336,rfl,rfl,replaced_c P hl hm (end_ h rfl)⟩
theorem repV_map {α β:Type} (g:α→β) (items more:List α) (f l:Int):repV (items.map g) f l (more.map g)=(repV items f l more).map g:=by
  unfold repV repB;simp [List.map_take,List.map_drop]
theorem repV_mem {α:Type} {items more:List α} {f l:Int} {x:α} (h:x∈repV items f l more):x∈items∨x∈more:=by
  unfold repV at h
  rcases List.mem_append.mp h with h | h
  · exact (List.mem_append.mp h).imp List.mem_of_mem_take id
  · exact .inl (List.mem_of_mem_drop h)
theorem repV_at {α:Type} {items more:List α} {p:Nat} (h:p≤items.length):repV items p p more=items.take p++more++items.drop (p+1):=by
  unfold repV repB
  have hp:(p:Int)≤items.length:=Int.ofNat_le.mpr h
  rw [Int.min_eq_left hp,Int.max_eq_right (Int.natCast_nonneg p)]
  congr 1
  by_cases q:p+1≤items.length
  · have hq:(p:Int)+1≤items.length:=Int.ofNat_le.mpr q
    rw [Int.min_eq_left hq,Int.max_eq_right (Int.le_of_lt (Int.lt_succ _))];rfl
  · have hq:(items.length:Int)≤p+1:=by omega
    rw [Int.min_eq_right hq,Int.max_eq_right hp,List.drop_eq_nil_of_le (show items.length≤p+1 by omega)]
    exact List.drop_eq_nil_of_le (Nat.le_refl _)
theorem szs_take (p:Nat):∀xs:List Nd,szs (xs.take p)+szs (xs.drop p)=szs xs:=by
  intro xs
  rw [← szs_app,List.take_append_drop]
theorem szs_drop_le (p:Nat) (xs:List Nd):szs (xs.drop p)≤szs xs:=by have:=szs_take p xs;omega
theorem szs_rep {items more:List Nd} {p:Nat}:szs (items.take p++more++items.drop (p+1))≤szs items+szs more:=by
  rw [szs_app,szs_app]
  have h1:=szs_take p items
  have h2:szs (items.drop (p+1))≤szs (items.drop p):=by
    rw [← List.drop_drop]
    exact szs_drop_le 1 _
  omega
noncomputable def rangeMsg (w:List Nat):List Nat:=[105,110,100,101,120,32,34]++w++[34,32,111,117,116,32,111,102,32,114,97,110,103,101]
noncomputable def rangeEc:List V:=[.str [84,67,76],.str [86,65,76,85,69],.str [73,78,68,69,88],.str [79,85,84,79,70,82,65,78,71,69]]
noncomputable abbrev Lv:=List Nd×Nat
noncomputable def lvs (grow:Bool):Nd→List Ix→List Lv×Fault
  | _,[]=>([],none)
  | x,i::r=>match (litems x).2 with
    | some f=>([],some f)
    | none=>match i.num with
      | none=>([],i.bad)
      | some k=>if atI ((litems x).1.length - 1) (i.e,k) < 0∨((litems x).1.length:Int) - (if grow then 0 else 1) < atI ((litems x).1.length - 1) (i.e,k) then ([],some (rangeMsg i.w,rangeEc))
        else ((((litems x).1,(atI ((litems x).1.length - 1) (i.e,k)).toNat))::(lvs grow (((litems x).1[(atI ((litems x).1.length - 1) (i.e,k)).toNat]?).getD (.leaf [])) r).1,
          (lvs grow (((litems x).1[(atI ((litems x).1.length - 1) (i.e,k)).toNat]?).getD (.leaf [])) r).2)
theorem lvs_nil (g:Bool) (x:Nd):lvs g x []=([],none):=rfl
theorem lvs_cons (g:Bool) (x:Nd) (i:Ix) (r:List Ix):lvs g x (i::r)=match (litems x).2 with
    | some f=>([],some f)
    | none=>match i.num with
      | none=>([],i.bad)
      | some k=>if atI ((litems x).1.length - 1) (i.e,k) < 0∨((litems x).1.length:Int) - (if g then 0 else 1) < atI ((litems x).1.length - 1) (i.e,k) then ([],some (rangeMsg i.w,rangeEc))
        else ((((litems x).1,(atI ((litems x).1.length - 1) (i.e,k)).toNat))::(lvs g (((litems x).1[(atI ((litems x).1.length - 1) (i.e,k)).toNat]?).getD (.leaf [])) r).1,
          (lvs g (((litems x).1[(atI ((litems x).1.length - 1) (i.e,k)).toNat]?).getD (.leaf [])) r).2):=rfl
noncomputable def rbl:List Lv→Option Nd→Option Nd
  | [],m=>m
  | (xs,p)::r,m=>some (.node (xs.take p++(rbl r m).toList++xs.drop (p+1)))
theorem rbl_nil (m:Option Nd):rbl [] m=m:=rfl
theorem rbl_cons (xs:List Nd) (p:Nat) (r:List Lv) (m:Option Nd):rbl ((xs,p)::r) m=some (.node (xs.take p++(rbl r m).toList++xs.drop (p+1))):=rfl
theorem rbl_snoc (l:Lv) (m:Option Nd) (r:List Lv):rbl (r++[l]) m=rbl r (rbl [l] m):=by
  induction r with
  | nil=>
    exact rfl
  | cons pp r ih=>
    obtain ⟨xs,p⟩:=pp
    rw [List.cons_append,rbl_cons,ih];rfl
theorem leaf_nil:Good (.leaf []):=.leaf (by decide)
noncomputable def lvV (l:List Lv):List V:=l.map fun p=>.tup [.list ((p.1.map ntext).map .str),.int p.2]
theorem lvV_snoc (l:List Lv) (p:Lv):lvV l++[.tup [.list ((p.1.map ntext).map .str),.int p.2]]=lvV (l++[p]):=by simp [lvV]
theorem lv_loop (P:Prog c) {all:List Ix} {g:Bool} {a:Addr} (hl:all.length≤1000) (hi:∀i∈all,i.Ok) {l0:V} (todo:List Ix):∀(done:List Ix) (acc:List Lv) (t:List Nat) (x:Nd) (o4 o5 o6:Option V) {K:PS},all=done++todo→acc.length=done.length→Tn t x→(∀m ec,(lvs g x todo).2=some (m,ec)→XE X own m ec)→
    ((lvs g x todo).2=none→∀y o4 o5 o6,K ⟨[some (.str y),some l0,some (.bool g),some (.own a),o4,o5,o6],(a,.list (lvV (acc++(lvs g x todo).1)))::own⟩)→
    forGo (forP 4 (wpSs c (n+7) tabT levels_of_b0) (seqR (wpSs c (n+7) tabT [.ret (.loc 3)]) (EndQ Q) (EndX X)) (EndX X)) (wv todo) ⟨[some (.str t),some l0,some (.bool g),some (.own a),o4,o5,o6],(a,.list (lvV acc))::own⟩ K:=by
  induction todo with
  | nil=>
    intro done acc t x o4 o5 o6 K e ha hT hx hk
    have:=hk rfl t o4 o5 o6
    rw [lvs_nil,List.append_nil] at this
    exact this
  | cons i r ih=>
    intro done acc t x o4 o5 o6 K e ha hT hx hk
    have hg:=hT.good
    have hs:=hT.sz
    have hall:all.length=done.length+(r.length+1):=by rw [e];simp
    have hlim:(((litems x).1.map ntext).map V.str).length≤LIM:=lim_ (by rw [List.length_map,List.length_map];have:=items_short hg hs;omega)
    refine ⟨286,rfl,rfl,node_split P hT (fun hf=>⟨223,rfl,rfl,_,.frz,hlim,?_⟩) fun m ec hf=>XE.up [(a,_)] (hx m ec (by rw [lvs_cons,hf]))⟩
    refine ix_c P (hi i (by rw [e];simp)) (fun k hn=>?_) fun hn=>XE.up [(a,_)] (hx _ _ (by rw [lvs_cons,hf];dsimp only;rw [hn];rfl))
    have eg:lvs g x (i::r)=if atI ((litems x).1.length - 1) (i.e,k) < 0∨((litems x).1.length:Int) - (if g then 0 else 1) < atI ((litems x).1.length - 1) (i.e,k) then ([],some (rangeMsg i.w,rangeEc))
        else ((((litems x).1,(atI ((litems x).1.length - 1) (i.e,k)).toNat))::(lvs g (((litems x).1[(atI ((litems x).1.length - 1) (i.e,k)).toNat]?).getD (.leaf [])) r).1,
          (lvs g (((litems x).1[(atI ((litems x).1.length - 1) (i.e,k)).toNat]?).getD (.leaf [])) r).2):=by rw [lvs_cons,hf];dsimp only;rw [hn]
    have key:∀p:Int,p=atI ((litems x).1.length - 1) (i.e,k)→∀LK:QF,(∀st,forGo (forP 4 (wpSs c (n+7) tabT levels_of_b0) (seqR (wpSs c (n+7) tabT [.ret (.loc 3)]) (EndQ Q) (EndX X)) (EndX X)) (wv r) st K→LK .next st)→wpSs c (n+7) tabT (levels_of_b0.drop 2) ⟨[some (.str t),some l0,some (.bool g),some (.own a),some (.str i.w),some (.list (((litems x).1.map ntext).map .str)),some (.int p)],(a,.list (lvV acc))::own⟩
        LK (EndX X):=fun p hp LK hLK=>by
      rw [← hp] at eg
      rw [eg] at hx hk
      have hwl:=(hi i (by rw [e];simp)).len
      by_cases hout:p < 0∨((litems x).1.length:Int) - (if g then 0 else 1) < p
      · rw [if_pos hout] at hx
        have out:wpSs c (n+7) tabT [.raise (.call (.glob (.ref 139)) [(.bin .Add (.bin .Add (.str [105,110,100,101,120,32,34]) (.loc 4)) (.str [34,32,111,117,116,32,111,102,32,114,97,110,103,101])),(.tup [(.str [84,67,76]),(.str [86,65,76,85,69]),(.str [73,78,68,69,88]),(.str [79,85,84,79,70,82,65,78,71,69])])])] ⟨[some (.str t),some l0,some (.bool g),some (.own a),some (.str i.w),some (.list (((litems x).1.map ntext).map .str)),some (.int p)],(a,.list (lvV acc))::own⟩ (EndQ Q) (EndX X):=
          ⟨139,rfl,rfl,lim_ (lw (Nat.add_le_add (Nat.le_refl _) hwl) rfl),lim_ (lw (Nat.add_le_add (la (Nat.le_refl _) hwl) (Nat.le_refl _)) rfl),error_c P fun z=>⟨84,_,_,.here,rfl,XE.up [(a,_)] (hx _ _ rfl) z⟩⟩
        refine ifD (fun h1=>out) fun h1=>⟨_,.frz,hlim,?_⟩
        rw [items_len]
        refine ifD (fun h2=>out) fun h2=>⟨_,.frz,hlim,?_⟩
        rw [items_len]
        induction g using Bool.casesOn with
        | true=>rw [if_pos rfl] at hout;omega
        | false=>
          have e2:p=(litems x).1.length:=by rw [if_neg (by decide)] at hout;omega
          exact ifT e2 out
      · rw [if_neg hout] at hx hk
        have hle:p≤(litems x).1.length:=by cases g<;>simp at hout<;>omega
        obtain ⟨q,rfl⟩:=Int.eq_ofNat_of_zero_le (show 0≤p by omega)
        have hq1:q≤(litems x).1.length:=by omega
        have hs2:=items_short hg hs
        have acl:(lvV acc).length < LIM:=lt_lim (by simp [lvV];omega)
        have tail:wpSs c (n+7) tabT (levels_of_b0.drop 3) ⟨[some (.str t),some l0,some (.bool g),some (.own a),some (.str i.w),some (.list (((litems x).1.map ntext).map .str)),some (.int q)],(a,.list (lvV acc))::own⟩
            LK (EndX X):=by
          refine ⟨⟨_,.head _⟩,_,_,acl,.here,_,.frz,hlim,?_⟩
          rw [items_len]
          have hsn:lvV acc++[.tup [.list (((litems x).1.map ntext).map .str),.int q]]=lvV (acc++[((litems x).1,q)]):=lvV_snoc acc ((litems x).1,q)
          rw [hsn]
          by_cases hlt:q < (litems x).1.length
          · have hy:(litems x).1[q]?=some (litems x).1[q]:=List.getElem?_eq_getElem hlt
            have hm:(litems x).1[q]∈(litems x).1:=List.getElem_mem hlt
            generalize (litems x).1[q]=y at hy hm
            rw [show (((q:Nat):Int)).toNat=q from rfl,hy] at hx hk
            refine ifT (by omega) ⟨by omega,by omega,.str (ntext y),?_,?_⟩
            · show (((litems x).1.map ntext).map V.str)[q]?=_
              rw [List.getElem?_map,List.getElem?_map,hy];rfl
            · refine hLK _ (ih (done++[i]) (acc++[((litems x).1,q)]) (ntext y) y _ _ _ (by rw [e];simp) (by simp [ha]) ((hg.items y hm).tn (Nat.le_trans (litem_sz hg hm) hs)) hx fun hf2 y o4 o5 o6=>?_)
              have:=hk hf2 y o4 o5 o6
              rw [List.append_assoc]
              exact this
          · have hnone:(litems x).1[q]?=none:=List.getElem?_eq_none (by omega)
            rw [show (((q:Nat):Int)).toNat=q from rfl,hnone] at hx hk
            refine ifF (by omega) ?_
            have hg0:Tn [] (.leaf []):=by have:=leaf_nil.tn (by decide);rw [ntext] at this;exact this
            refine hLK _ (ih (done++[i]) (acc++[((litems x).1,q)]) [] (.leaf []) _ _ _ (by rw [e];simp) (by simp [ha]) hg0 hx fun hf2 y o4 o5 o6=>?_)
            have:=hk hf2 y o4 o5 o6
            rw [List.append_assoc]
            exact this
        refine ⟨_,.frz,hlim,?_⟩
        rw [items_len]
        refine ifF (by omega) ⟨_,.frz,hlim,?_⟩
        rw [items_len]
        induction g using Bool.casesOn with
        | true=>exact ifD (fun zz=>tail) fun zz=>tail
        | false=>exact ifF (by simp at hout;omega) tail
    exact key _ (by rw [items_len]) _ fun zz h=>h
end
section
variable {c:Cx} {n:Nat} {own:Own} {Q:PQ} {X:PX}
theorem join_nodes (P:Prog c) {xs:List Nd} (hg:∀x∈xs,Good x) (hs:szs xs≤50000) (hq:Q (.str (ntext (.node xs))) own):SemCall c (n+4) (.ref 315) [.list ((xs.map ntext).map .str)] own Q X:=by
  have h1:=szs_len xs
  have h2:=szs_text hg true
  refine join_list_c P (by rw [List.length_map];omega) (by rw [Good.quotes hg];omega) (fun t ht=>?_) (by rw [Good.quotes hg,← ntext];exact hq)
  obtain ⟨x,hx,rfl⟩:=List.mem_map.mp ht
  have h3:=sz_text (hg x hx)
  have h4:=szs_mem hx
  exact (hg x hx).qt (by omega)
noncomputable def valV:Option Nd→V
  | none=>.non
  | some x=>.str (ntext x)
structure LvOk (B:Nat) (l:Lv):Prop where
  good:∀x∈l.1,Good x
  le:l.2≤l.1.length
  sz:szs l.1≤B
theorem items_sz {x:Nd} (hg:Good x):szs (litems x).1≤sz x+20:=by
  cases hg with
  | @node xs h=>rw [sz];show szs xs≤20+szs xs+20;omega
  | leaf h=>
    have:∀s∈leaves,(litems (.leaf s)).1.length≤2:=by decide +kernel
    have h2:=this _ h
    have h3:∀l:List Nd,(∀x∈l,sz x=20)→szs l=20 * l.length:=by
      intro l
      induction l with
      | nil=>intro _;rfl
      | cons x r ih=>intro h;rw [szs,h x (.head _),ih fun y hy=>h y (.tail _ hy),List.length_cons];omega
    rw [h3 _ (fun x hx=>by obtain ⟨t,_,rfl⟩:=known_good _ h x hx;rw [sz])]
    rw [sz];omega
theorem lvs_ok {g:Bool} {B:Nat} (hB:20≤B) (ixs:List Ix):∀{x:Nd},Good x→sz x≤B→(∀l∈(lvs g x ixs).1,LvOk (B+20) l)∧(lvs g x ixs).1.length≤ixs.length:=by
  induction ixs with
  | nil=>
    intro x _ _
    exact ⟨fun l h=>(nomatch h),Nat.le_refl _⟩
  | cons i r ih=>
    intro x hg hs
    have nil:∀f:Fault,(∀l∈(([]:List Lv),f).1,LvOk (B+20) l)∧(([]:List Lv),f).1.length≤(i::r).length:=fun f=>⟨fun l h=>(nomatch h),Nat.zero_le _⟩
    rw [lvs_cons]
    cases hf:(litems x).2 with
    | some f=>exact nil _
    | none=>
      cases hn:i.num with
      | none=>exact nil _
      | some k=>
        dsimp only
        generalize atI ((litems x).1.length - 1) (i.e,k)=p
        by_cases hout:p < 0∨((litems x).1.length:Int) - (if g then 0 else 1) < p
        · rw [if_pos hout];exact nil _
        · rw [if_neg hout]
          have hp:p.toNat≤(litems x).1.length:=by cases g<;>simp at hout<;>omega
          have hy:Good (((litems x).1[p.toNat]?).getD (.leaf []))∧sz (((litems x).1[p.toNat]?).getD (.leaf []))≤B:=by
            cases e:(litems x).1[p.toNat]? with
            | none=>exact ⟨leaf_nil,hB⟩
            | some y=>exact ⟨hg.items y (List.mem_of_getElem? e),Nat.le_trans (litem_sz hg (List.mem_of_getElem? e)) hs⟩
          obtain ⟨h1,h2⟩:=ih hy.1 hy.2
          refine ⟨fun l hl=>?_,by simp only [List.length_cons];omega⟩
          rcases List.mem_cons.mp hl with rfl | hl
          · exact ⟨hg.items,hp,Nat.le_trans (items_sz hg) (Nat.add_le_add_right hs 20)⟩
          · exact h1 l hl
structure OvOk (N:Nat) (o:Option Nd):Prop where
  good:∀x,o=some x→Good x
  sz:szs o.toList≤N
theorem rbl_ok {B:Nat} {ov:Option Nd} {N:Nat} (ho:OvOk N ov) {ls:List Lv}:(∀l∈ls,LvOk B l)→OvOk (ls.length * (B+20)+N) (rbl ls ov):=by
  induction ls with
  | nil=>
    intro _
    rw [rbl_nil];exact ⟨ho.good,by have:=ho.sz;simp only [List.length_nil];omega⟩
  | cons pp r ih=>
    obtain ⟨xs,p⟩:=pp
    intro h
    have h1:=h _ (.head _)
    have h2:=ih (fun l hl=>h l (.tail _ hl))
    rw [rbl_cons]
    refine ⟨fun x e=>?_,?_⟩
    · cases e
      refine .node fun y hy=>?_
      rcases List.mem_append.mp hy with hy | hy
      · rcases List.mem_append.mp hy with hy | hy
        · exact h1.good y (List.mem_of_mem_take hy)
        · exact h2.good y (by cases e:rbl r ov with | none=>rw [e] at hy;cases hy | some z=>rw [e] at hy;rw [List.mem_singleton.mp hy])
      · exact h1.good y (List.mem_of_mem_drop hy)
    · have h3:=szs_rep (items:=xs) (more:=(rbl r ov).toList) (p:=p)
      have h4:=h1.sz
      have h5:=h2.sz
      have h6:szs xs≤B:=h4
      show szs [_]≤_
      rw [szs,szs,Mine.Internal.sz,List.length_cons,Nat.succ_mul]
      omega
theorem put_ok {xs:List Nd} {p:Nat} {m:Option Nd} {N:Nat} (hx:∀x∈xs,Good x) (hs:szs xs≤5000) (hm:OvOk N m) (hN:N≤40000):(∀y∈xs.take p++m.toList++xs.drop (p+1),Good y)∧szs (xs.take p++m.toList++xs.drop (p+1))≤50000:=by
  refine ⟨fun y hy=>?_,?_⟩
  · rcases List.mem_append.mp hy with hy | hy
    · rcases List.mem_append.mp hy with hy | hy
      · exact hx y (List.mem_of_mem_take hy)
      · exact hm.good y (by cases m with | none=>cases hy | some z=>rw [List.mem_singleton.mp hy])
    · exact hx y (List.mem_of_mem_drop hy)
  · have h3:=szs_rep (items:=xs) (more:=m.toList) (p:=p)
    have h4:=hm.sz
    omega
inductive SetI (a:Addr) (t i v:V) (own:Own) (ls:List Lv) (ov:Option Nd) (m:Nat):PS
  | mk {pre suf:List Lv} {mv:V} {o5 o6 o7:Option V}:pre.length≤m→pre++suf=ls→mv=valV (rbl suf ov)→SetI a t i v own ls ov m ⟨[some t,some i,some v,some (.own a),some mv,o5,o6,o7],(a,.list (lvV pre))::own⟩
theorem set_loop (P:Prog c) {a:Addr} {t i v:V} {ls:List Lv} {ov:Option Nd} {N:Nat} (hls:∀l∈ls,LvOk 5000 l) (hl:ls.length≤5) (ho:OvOk N ov) (hN:N≤10000) (hq:Q (valV (rbl ls ov)) own):
    wpSs c (n+8) tabT (set_at_ms.drop 2) ⟨[some t,some i,some v,some (.own a),some (valV ov),none,none,none],(a,.list (lvV ls))::own⟩ (EndQ Q) (EndX X):=by
  refine wh (SetI a t i v own ls ov) ?_ (m:=ls.length) (.mk (suf:=[]) (Nat.le_refl _) (List.append_nil _) rfl)
  intro m st R hI again
  cases hI with | @mk pre suf mv o5 o6 o7 hm e hmv=>
  have hlp:pre.length≤5:=by have:=congrArg List.length e;rw [List.length_append] at this;omega
  have hlv:(lvV pre).length=pre.length:=by simp [lvV]
  refine ⟨_,.own (.head _),lim_ (by omega),?_⟩
  rcases List.eq_nil_or_concat pre with rfl | ⟨q,l,rfl⟩
  · rw [List.nil_append] at e
    subst e
    cases hrb:rbl suf ov with
    | none=>rw [hrb] at hmv hq;subst hmv;exact endP [(a,_)] hq rfl
    | some z=>rw [hrb] at hmv hq;subst hmv;exact endP [(a,_)] hq rfl
  · obtain ⟨xs,p⟩:=l
    rw [List.concat_eq_append] at *
    have hok:=hls (xs,p) (by rw [← e];simp)
    have hr:=rbl_ok (B:=5000) ho (ls:=suf) (fun l hl=>hls l (by rw [← e];simp [hl]))
    have hsl:suf.length≤5:=by have:=congrArg List.length e;simp at this;omega
    have hr2:OvOk 40000 (rbl suf ov):=⟨hr.good,Nat.le_trans hr.sz (by have:=Nat.mul_le_mul_right (5000+20) hsl;omega)⟩
    have hq5:(lvV q).length≤5:=by simp [lvV] at hlp ⊢;omega
    rw [← lvV_snoc]
    refine ifT (p:=(0:Int) < (lvV q++[V.tup [.list ((xs.map ntext).map .str),.int p]]).length) (by simp) ⟨⟨_,.head _⟩,_,_,_,lt_lim (by omega),.here,rfl,?_⟩
    have go:∀mo:V,mo=.list (((rbl suf ov).toList.map ntext).map .str)→wpSs c (n+8) tabT (set_at_b0.drop 2) ⟨[some t,some i,some v,some (.own a),some mv,some (.list ((xs.map ntext).map .str)),some (.int p),some mo],(a,.list (lvV q))::own⟩ (loopK R (seqR (wpSs c (n+8) tabT [.ret (.loc 4)]) (EndQ Q) (EndX X))) (EndX X):=fun mo hmo=>by
      subst hmo
      refine ⟨315,rfl,rfl,336,rfl,rfl,?_⟩
      have hxs:xs.length≤50000:=by have:=szs_len xs;have:=hok.sz;dsimp only at this;omega
      have hml:(rbl suf ov).toList.length≤1:=by cases rbl suf ov<;>simp
      refine replaced_c P (by simp;omega) (by simp;omega) ?_
      rw [repV_map,repV_map,repV_at hok.le]
      obtain ⟨k1,k2⟩:=put_ok (p:=p) hok.good hok.sz hr2 (Nat.le_refl _)
      refine join_nodes P k1 k2 (again (m - 1) _ (pr1 (lapp hm)) (.mk (suf:=(xs,p)::suf) (Nat.le_sub_one_of_lt (lapp hm)) (by rw [← e];simp) ?_))
      rw [rbl_cons];rfl
    subst hmv
    cases hrb:rbl suf ov with
    | none=>exact (by have:=go (.list []) (by rw [hrb];rfl);rw [hrb] at this;exact this)
    | some z=>exact (by have:=go (.list [.str (ntext z)]) (by rw [hrb];rfl);rw [hrb] at this;exact this)
end
section
variable {c:Cx} {n:Nat} {own:Own} {Q:PQ} {X:PX}
theorem levels_of_c (P:Prog c) {t:List Nat} {x:Nd} {ixs:List Ix} {g:Bool} (hT:Tn t x) (hl:ixs.length≤1000) (hi:∀i∈ixs,i.Ok) (hq:(lvs g x ixs).2=none→∀a,Q (.own a) ((a,.list (lvV (lvs g x ixs).1))::own)) (hx:∀m ec,(lvs g x ixs).2=some (m,ec)→XE X own m ec):
    SemCall c (n+8) (.ref 350) [.str t,.list (wv ixs),.bool g] own Q X:=by
  refine (P.levels_of rfl fun as zz=>?_).call
  refine (fun a=>⟨_,rfl,lim_ (by simp [wv];omega),?_⟩)
  exact lv_loop P hl hi ixs [] [] t x none none none rfl rfl hT hx fun hf y o4 o5 o6=>.mk (List.Sublist.refl _) (hq hf a)
theorem set_at_c (P:Prog c) {t:List Nat} {x:Nd} {ixs:List Ix} {ov:Option Nd} (hT:Tn t x) (hs:sz x≤4000) (hl:ixs.length≤5) (hi:∀i∈ixs,i.Ok) (ho:OvOk 10000 ov) (hq:(lvs ov.isSome x ixs).2=none→Q (valV (rbl (lvs ov.isSome x ixs).1 ov)) own) (hx:∀m ec,(lvs ov.isSome x ixs).2=some (m,ec)→XE X own m ec):
    SemCall c (n+9) (.ref 357) [.str t,.list (wv ixs),valV ov] own Q X:=by
  have hB:20≤4000:=by decide
  obtain ⟨k1,k2⟩:=lvs_ok (g:=ov.isSome) hB ixs hT.good hs
  have k1':∀l∈(lvs ov.isSome x ixs).1,LvOk 5000 l:=fun l hl=>⟨(k1 l hl).good,(k1 l hl).le,Nat.le_trans (k1 l hl).sz (by decide)⟩
  cases ov with
  | none=>
    refine (P.set_at rfl fun as zz=>?_).call
    exact ⟨350,rfl,rfl,levels_of_c P hT (by omega) hi (fun hf a=>(set_loop P k1' (Nat.le_trans k2 hl) ho (Nat.le_refl _) (hq hf))) fun m ec hf=>XE.up [] (hx m ec hf)⟩
  | some z=>
    refine (P.set_at rfl fun as zz=>?_).call
    exact ⟨350,rfl,rfl,levels_of_c P hT (by omega) hi (fun hf a=>(set_loop P k1' (Nat.le_trans k2 hl) ho (Nat.le_refl _) (hq hf))) fun m ec hf=>XE.up [] (hx m ec hf)⟩
theorem indices_many (P:Prog c) {l:List V} (h1:l.length≠1) (hl:l.length≤1000) (hq:Q (.list l) own):SemCall c (n+8) (.ref 322) [.list l] own Q X:=by
  refine (P.indices_of rfl fun as zz=>?_).call
  refine ⟨_,.frz,lim_ (by omega),?_⟩
  show ifB (!decide ((l.length:Int)=1)) _ _
  rw [decide_eq_false (by omega)]
  exact end_ hq rfl
theorem indices_one (P:Prog c) {w:List Nat} {es:List (List Nat)} {o:Fault} (h:SP w es o) (hs:tame w=true) (hl:w.length≤100000) (hq:o=none→Q (.list (es.map .str)) own) (hx:o≠none→Q (.list [.str w]) own):SemCall c (n+8) (.ref 322) [.list [.str w]] own Q X:=by
  refine (P.indices_of rfl fun as zz=>?_).call
  refine ⟨_,.frz,le_ rfl,?_⟩
  refine ⟨286,rfl,rfl,by decide,by decide,_,rfl,split_c P h hs hl (fun ho=>end_ (hq ho) rfl) fun m ec ho e=>⟨⟨84,_,.head _,rfl⟩,?_⟩⟩
  exact .mk (List.sublist_cons_self _ _) (hx (by rw [ho];exact fun q=>nomatch q))
end
structure Vr where
  nm:List Nat
  a:Addr
  kind:List Nat
  val:List Nat
  w:Int
structure HS where
  h:Addr
  dt:Addr
  di:Addr
  dv:Addr
  dc:Addr
  df:Addr
  spent:Int
  cmds:List (List Nat×V)
  firsts:List (List Nat×V)
  vs:List Vr
noncomputable def vats (k v:List Nat) (w:Int):List (List Nat×V):=[([107,105,110,100],.str k),([118,97,108,117,101],.str v),([116,114,97,99,101,115],.list []),([105,115,95,98,117,115,121],.bool false),([105,115,95,101,108,101,109,101,110,116],.bool false),([119,114,105,116,101,115],.int w)]
noncomputable def hats (H:HS):List (List Nat×V):=[([116,111,111,108,115],.own H.dt),([105,110,108,105,110,101],.own H.di),([108,105,109,105,116],.int 40),([102,117,101,108],.non),([100,101,112,116,104],.int 0),([115,112,101,110,116],.int H.spent),([101,112,111,99,104],.int 0),([102,114,97,109,101],.non),([99,111,114,111,117,116,105,110,101],.non),([118,97,114,115],.own H.dv),([99,111,109,109,97,110,100,115],.own H.dc),([102,105,114,115,116,115],.own H.df)]
noncomputable def Vr.o (v:Vr):Addr×OO:=(v.a,.inst 423 (vats v.kind v.val v.w))
noncomputable def varsD (vs:List Vr):List (List Nat×V):=vs.map fun v=>(v.nm,.own v.a)
noncomputable def hostO (H:HS):Own:=(H.h,.inst 671 (hats H))::(H.dv,.dict (varsD H.vs))::(H.dc,.dict H.cmds)::(H.df,.dict H.firsts)::(H.di,.dict [])::(H.dt,.dict [])::H.vs.map Vr.o
theorem Upd.app {a:Addr} {x y:OO} {r r':Own} (A:Own) (h:Upd a x y r r'):Upd a x y (A++r) (A++r'):=by
  induction A with
  | nil=>exact h
  | cons p A ih=>exact .there ih
theorem varsD_get {vs:List Vr} {v:Vr} (hn:(vs.map (·.nm)).Nodup) (h:v∈vs):dget (varsD vs) v.nm=some (.own v.a):=by
  induction vs with
  | nil=>cases h
  | cons u r ih=>
    rw [List.map_cons,List.nodup_cons] at hn
    unfold varsD
    rw [List.map_cons,dget_cons]
    rcases List.mem_cons.mp h with rfl | h
    · rw [if_pos rfl]
    · rw [if_neg (fun e=>hn.1 (by rw [e];exact List.mem_map_of_mem h))];exact ih hn.2 h
theorem varsD_none {vs:List Vr} {k:List Nat} (h:k ∉ vs.map (·.nm)):dget (varsD vs) k=none:=by
  induction vs with
  | nil=>rfl
  | cons u r ih=>
    rw [List.map_cons,List.mem_cons,not_or] at h
    unfold varsD
    rw [List.map_cons,dget_cons,if_neg (fun e=>h.1 e.symm)]
    exact ih h.2
theorem varsD_put {vs:List Vr} {v:Vr} (h:v.nm ∉ vs.map (·.nm)):dput (varsD vs) v.nm (.own v.a)=varsD (vs++[v]):=by
  rw [dput_new (by unfold varsD;rw [List.map_map];exact h)]
  unfold varsD;rw [List.map_append];rfl
theorem varO_upd {vs vs':List Vr} {v u:Vr} (e:v.a=u.a) (h:∃l r,vs=l++v::r∧vs'=l++u::r):Upd v.a (.inst 423 (vats v.kind v.val v.w)) (.inst 423 (vats u.kind u.val u.w)) (vs.map Vr.o) (vs'.map Vr.o):=by
  obtain ⟨l,r,rfl,rfl⟩:=h
  rw [List.map_append,List.map_append,List.map_cons,List.map_cons]
  refine .app _ ?_
  unfold Vr.o
  rw [← e]
  exact .here
noncomputable def Vr.new (nm:List Nat) (a:Addr):Vr:=⟨nm,a,[110,111,110,101],[],0⟩
section
variable {c:Cx} {n:Nat} {own A:Own} {Q:PQ} {X:PX} {H:HS}
theorem mem_h:(H.h,OO.inst 671 (hats H))∈A++hostO H:=List.mem_append_right _ (.head _)
theorem mem_dv:(H.dv,OO.dict (varsD H.vs))∈A++hostO H:=List.mem_append_right _ (.tail _ (.head _))
theorem mem_dc:(H.dc,OO.dict H.cmds)∈A++hostO H:=List.mem_append_right _ (.tail _ (.tail _ (.head _)))
theorem mem_v {v:Vr} (h:v∈H.vs):(v.a,OO.inst 423 (vats v.kind v.val v.w))∈A++hostO H:=
  List.mem_append_right _ (.tail _ (.tail _ (.tail _ (.tail _ (.tail _ (.tail _ (List.mem_map_of_mem (f:=Vr.o) h)))))))
theorem Var_c (P:Prog c) (h:∀a,Q (.own a) ((a,.inst 423 (vats [110,111,110,101] [] 0))::own)):SemCall c (n+2) (.ref 423) [] own Q X:=by
  refine (P.mkVar fun a=>P.Var_ini rfl fun as zz=>?_).call
  refine ⟨_,_,_,.inst rfl (.head _),le_ rfl,.here,?_⟩
  refine ⟨_,_,_,.inst rfl (.head _),le_ rfl,.here,?_⟩
  refine ⟨_,_,_,.inst rfl (.head _),le_ rfl,.here,?_⟩
  refine ⟨_,_,_,.inst rfl (.head _),le_ rfl,.here,?_⟩
  refine ⟨_,_,_,.inst rfl (.head _),le_ rfl,.here,?_⟩
  refine ⟨_,_,_,.inst rfl (.head _),le_ rfl,.here,?_⟩
  exact end_ (v:=.non) (.mk (h a)) rfl
noncomputable def HS.add (H:HS) (v:Vr):HS:={ H with vs:=H.vs++[v] }
theorem add_perm (v:Vr):(A++hostO (H.add v)).Perm (v.o::(A++((H.h,.inst 671 (hats H))::(H.dv,.dict (varsD (H.vs++[v])))::(H.dc,.dict H.cmds)::(H.df,.dict H.firsts)::(H.di,.dict [])::(H.dt,.dict [])::H.vs.map Vr.o))):=by
  have e:A++hostO (H.add v)=(A++((H.h,.inst 671 (hats H))::(H.dv,.dict (varsD (H.vs++[v])))::(H.dc,.dict H.cmds)::(H.df,.dict H.firsts)::(H.di,.dict [])::(H.dt,.dict [])::H.vs.map Vr.o))++[v.o]:=by
    unfold hostO HS.add
    simp [hats]
  rw [e]
  exact List.perm_append_singleton _ _
theorem var_in_old (P:Prog c) {v:Vr} (hn:(H.vs.map (·.nm)).Nodup) (h:v∈H.vs) (hq:Q (.own v.a) (A++hostO H)):SemCall c (n+3) (.ref 526) [.own H.dv,.str v.nm] (A++hostO H) Q X:=by
  refine (P.var_in rfl fun as zz=>?_).call
  refine ⟨_,mem_dv,?_⟩
  show ifB (!(dget (varsD H.vs) v.nm).isSome) _ _
  rw [varsD_get hn h]
  exact .inl ⟨_,mem_dv,_,varsD_get hn h,end_ hq rfl⟩
theorem var_in_new (P:Prog c) {nm:List Nat} (h:nm ∉ H.vs.map (·.nm)) (hl:H.vs.length≤1000) (hq:∀a,Q (.own a) (A++hostO (H.add (.new nm a)))):SemCall c (n+3) (.ref 526) [.own H.dv,.str nm] (A++hostO H) Q X:=by
  refine (P.var_in rfl fun as zz=>?_).call
  refine ⟨_,mem_dv,?_⟩
  show ifB (!(dget (varsD H.vs) nm).isSome) _ _
  rw [varsD_none h]
  refine ⟨423,rfl,rfl,Var_c P fun a=>⟨_,_,lim_ (by simp [varsD];omega),.there (.app A (.there .here)),?_⟩⟩
  have hp:dput (varsD H.vs) nm (.own a)=varsD (H.vs++[.new nm a]):=varsD_put (v:=.new nm a) h
  rw [hp]
  have hn:dget (varsD (H.vs++[.new nm a])) nm=some (.own a):=by
    rw [← hp]
    clear hp hq
    have:=varsD_none h
    generalize varsD H.vs=l at this
    induction l with
    | nil=>rw [dput_nil,dget_cons,if_pos rfl]
    | cons p r ih=>
      obtain ⟨k,w⟩:=p
      rw [dget_cons] at this
      by_cases e:k=nm
      · rw [if_pos e] at this;cases this
      · rw [if_neg e] at this
        rw [dput_cons,if_neg e,dget_cons,if_neg e];exact ih this
  exact .inl ⟨_,.tail _ (List.mem_append_right _ (.tail _ (.head _))),_,hn,.perm (add_perm (.new nm a)) (List.Sublist.refl _) (hq a)⟩
end
noncomputable def scalarW:List Nat:=[115,99,97,108,97,114]
noncomputable def HS.sub (H:HS) (l:List Vr) (v:Vr) (r:List Vr):HS:={ H with vs:=l++v::r }
noncomputable def noVarMsg (nm:List Nat):List Nat:=[99,97,110,39,116,32]++[114,101,97,100]++[32,34]++nm++[34,58,32,110,111,32,115,117,99,104,32,118,97,114,105,97,98,108,101]
noncomputable def noVarEc (nm:List Nat):List V:=[.str [84,67,76],.str [76,79,79,75,85,80],.str [86,65,82,78,65,77,69],.str nm]
theorem hostM_call {c:Cx} {n:Nat} {own:Own} {H:HS} {nm:List Nat} {f:Addr} {K:Fn→List V→Prop} (hm:(H.h,OO.inst 671 (hats H))∈own) (h1:dget (hats H) nm=none) (h2:hostM.lookup nm=some f) (h:K (.usr f) [.own H.h]):opMeth tabT own (.user nm) (.own H.h) K:=
  ⟨671,hats H,f,hm,h1,h2,h⟩
section
variable {c:Cx} {n:Nat} {own A:Own} {Q:PQ} {X:PX} {H:HS}
theorem attr_h {nm:List Nat} {y:V} {K:V→Prop} (h1:hostA.contains nm=true) (h2:dget (hats H) nm=some y) (h3:y.isLit=false) (h:K y):opAttr tabT (A++hostO H) nm (.own H.h) K:=
  ⟨_,_,_,.inst (C:=671) h1 mem_h,h2,h3,h⟩
theorem attr_v {v:Vr} (hv:v∈H.vs) {nm:List Nat} {y:V} {K:V→Prop} (h1:varA.contains nm=true) (h2:dget (vats v.kind v.val v.w) nm=some y) (h3:y.isLit=false) (h:K y):opAttr tabT (A++hostO H) nm (.own v.a) K:=
  ⟨_,_,_,.inst (C:=423) h1 (mem_v hv),h2,h3,h⟩
theorem place_old (P:Prog c) {v:Vr} (hn:(H.vs.map (·.nm)).Nodup) (h:v∈H.vs) (hq:Q (.own v.a) (A++hostO H)):SemCall c (n+4) (.ref 583) [.own H.h,.str v.nm] (A++hostO H) Q X:=by
  refine (P.SmallHost_place rfl fun as zz=>?_).call
  exact ⟨526,rfl,rfl,attr_h rfl rfl rfl (var_in_old P hn h (end_ hq rfl))⟩
theorem place_new (P:Prog c) {nm:List Nat} (h:nm ∉ H.vs.map (·.nm)) (hl:H.vs.length≤1000) (hq:∀a,Q (.own a) (A++hostO (H.add (.new nm a)))):SemCall c (n+4) (.ref 583) [.own H.h,.str nm] (A++hostO H) Q X:=by
  refine (P.SmallHost_place rfl fun as zz=>?_).call
  exact ⟨526,rfl,rfl,attr_h rfl rfl rfl (var_in_new P h hl fun a=>end_ (hq a) rfl)⟩
theorem read_var_ok (P:Prog c) {v:Vr} (h:v∈H.vs) (hk:v.kind=scalarW) {nm:V} (hq:Q (.str v.val) (A++hostO H)):SemCall c (n+5) (.ref 590) [.own H.h,.own v.a,nm] (A++hostO H) Q X:=by
  refine (P.SmallHost_read_var rfl fun as zz=>?_).call
  refine attr_v h rfl rfl rfl ?_
  rw [hk]
  exact attr_v h rfl rfl rfl (end_ hq rfl)
theorem no_variable_c (P:Prog c) {nm:List Nat} (hl:nm.length≤1000) (h:∀x,Q (.own x) ((x,.exc true 84 (rAts (noVarMsg nm) (noVarEc nm)))::own)):SemCall c (n+4) (.ref 519) [.str [114,101,97,100],.str nm] own Q X:=by
  refine (P.no_variable rfl fun as zz=>?_).call
  exact ⟨le_ rfl,le_ rfl,lim_ (lw (Nat.add_le_add (la (Nat.le_refl _) (Nat.le_refl _)) hl) rfl),lim_ (lw (Nat.add_le_add (la (la (Nat.le_refl _) (Nat.le_refl _)) hl) (Nat.le_refl _)) rfl),139,rfl,rfl,error_c P fun x=>end_ (h x) rfl⟩
theorem read_var_no (P:Prog c) {v:Vr} (h:v∈H.vs) (hk:v.kind=[110,111,110,101]) (hl:v.nm.length≤1000) (hx:XE X (A++hostO H) (noVarMsg v.nm) (noVarEc v.nm)):SemCall c (n+5) (.ref 590) [.own H.h,.own v.a,.str v.nm] (A++hostO H) Q X:=by
  refine (P.SmallHost_read_var rfl fun as zz=>?_).call
  refine attr_v h rfl rfl rfl ?_
  rw [hk]
  exact ⟨519,rfl,rfl,no_variable_c P hl fun x=>⟨84,_,_,.here,rfl,.mk (List.Sublist.refl _) (.head _) (hx x)⟩⟩
theorem read_old (P:Prog c) {v:Vr} (hn:(H.vs.map (·.nm)).Nodup) (h:v∈H.vs) (hk:v.kind=scalarW) (hq:Q (.str v.val) (A++hostO H)):SemCall c (n+6) (.ref 604) [.own H.h,.str v.nm] (A++hostO H) Q X:=by
  refine (P.SmallHost_read rfl fun as zz=>?_).call
  refine ⟨671,_,590,mem_h,rfl,rfl,?_⟩
  refine ⟨671,_,583,mem_h,rfl,rfl,?_⟩
  exact place_old P hn h (read_var_ok P h hk (end_ hq rfl))
theorem read_new (P:Prog c) {nm:List Nat} (h:nm ∉ H.vs.map (·.nm)) (hl:H.vs.length≤1000) (hnl:nm.length≤1000) (hx:∀a,XE X (A++hostO (H.add (.new nm a))) (noVarMsg nm) (noVarEc nm)):SemCall c (n+6) (.ref 604) [.own H.h,.str nm] (A++hostO H) Q X:=by
  refine (P.SmallHost_read rfl fun as zz=>?_).call
  refine ⟨671,_,590,mem_h,rfl,rfl,?_⟩
  refine ⟨671,_,583,mem_h,rfl,rfl,?_⟩
  refine place_new P h hl fun a=>?_
  exact read_var_no (H:=H.add (.new nm a)) (v:=.new nm a) P (List.mem_append_right _ (.head _)) rfl hnl (XE.up [] (hx a))
theorem upd_v {l r:List Vr} {v u:Vr} (e:v.a=u.a):Upd v.a (.inst 423 (vats v.kind v.val v.w)) (.inst 423 (vats u.kind u.val u.w)) (A++hostO (H.sub l v r)) ((A++((H.h,.inst 671 (hats H))::(H.dv,.dict (varsD (l++v::r)))::(H.dc,.dict H.cmds)::(H.df,.dict H.firsts)::(H.di,.dict [])::(H.dt,.dict [])::(l++u::r).map Vr.o))):=
  .app A (.there (.there (.there (.there (.there (.there (varO_upd e ⟨l,r,rfl,rfl⟩)))))))
theorem sub_eq {l r:List Vr} {v u:Vr} (e:v.a=u.a) (en:v.nm=u.nm):(A++((H.h,.inst 671 (hats H))::(H.dv,.dict (varsD (l++v::r)))::(H.dc,.dict H.cmds)::(H.df,.dict H.firsts)::(H.di,.dict [])::(H.dt,.dict [])::(l++u::r).map Vr.o))=A++hostO (H.sub l u r):=by
  have:varsD (l++v::r)=varsD (l++u::r):=by unfold varsD;simp [e,en]
  rw [this];rfl
theorem setV {l r:List Vr} {v u:Vr} (e:v.a=u.a) (en:v.nm=u.nm) {nm:List Nat} {y:V} {K:Own→Prop} (h1:varA.contains nm=true) (h2:dput (vats v.kind v.val v.w) nm y=vats u.kind u.val u.w) (h:K (A++hostO (H.sub l u r))):opSetA tabT (A++hostO (H.sub l v r)) nm y (.own v.a) K:=
  ⟨_,_,_,.inst (C:=423) h1 (mem_v (v:=v) (by show v∈l++v::r;simp)),le_ rfl,by rw [h2];exact upd_v e,by rw [sub_eq e en];exact h⟩
noncomputable def Vr.set (v:Vr) (t:List Nat):Vr:={ v with kind:=scalarW,val:=t,w:=v.w+1 }
theorem put_value_c (P:Prog c) {l r:List Vr} {v:Vr} {t:List Nat} (hq:Q (.str t) (A++hostO (H.sub l (v.set t) r))):SemCall c (n+1) (.ref 533) [.own v.a,.str scalarW,.str t] (A++hostO (H.sub l v r)) Q X:=by
  refine (P.put_value rfl fun as zz=>?_).call
  refine setV (v:=v) (u:={ v with kind:=scalarW }) (nm:=[107,105,110,100]) (y:=.str scalarW) rfl rfl rfl rfl ?_
  refine setV (v:={ v with kind:=scalarW }) (u:={ v with kind:=scalarW,val:=t }) (nm:=[118,97,108,117,101]) (y:=.str t) rfl rfl rfl rfl ?_
  refine attr_v (H:=H.sub l { v with kind:=scalarW,val:=t } r) (v:={ v with kind:=scalarW,val:=t }) (by show _∈l++_::r;simp) rfl rfl rfl ?_
  refine setV (v:={ v with kind:=scalarW,val:=t }) (u:=v.set t) (nm:=[119,114,105,116,101,115]) (y:=.int (v.w+1)) rfl rfl rfl rfl ?_
  exact end_ hq rfl
theorem write_at (P:Prog c) {l r:List Vr} {v:Vr} {t:List Nat} {nm:V} (hq:Q (.str t) (A++hostO (H.sub l (v.set t) r))):SemCall c (n+2) (.ref 597) [.own H.h,.own v.a,nm,.str t] (A++hostO (H.sub l v r)) Q X:=by
  refine (P.SmallHost_write_var rfl fun as zz=>?_).call
  exact ⟨533,rfl,rfl,put_value_c P (end_ hq rfl)⟩
theorem write_old (P:Prog c) {l r:List Vr} {v:Vr} {t:List Nat} (hn:((l++v::r).map (·.nm)).Nodup) (hq:Q (.str t) (A++hostO (H.sub l (v.set t) r))):SemCall c (n+5) (.ref 611) [.own H.h,.str v.nm,.str t] (A++hostO (H.sub l v r)) Q X:=by
  refine (P.SmallHost_write rfl fun as zz=>?_).call
  refine ⟨671,_,597,mem_h,rfl,rfl,?_⟩
  refine ⟨671,_,583,mem_h,rfl,rfl,?_⟩
  exact place_old (H:=H.sub l v r) P hn (by show v∈l++v::r;simp) (write_at P (end_ hq rfl))
theorem write_new (P:Prog c) {nm t:List Nat} (h:nm ∉ H.vs.map (·.nm)) (hl:H.vs.length≤1000) (hq:∀a,Q (.str t) (A++hostO (H.add ((Vr.new nm a).set t)))):SemCall c (n+5) (.ref 611) [.own H.h,.str nm,.str t] (A++hostO H) Q X:=by
  refine (P.SmallHost_write rfl fun as zz=>?_).call
  refine ⟨671,_,597,mem_h,rfl,rfl,?_⟩
  refine ⟨671,_,583,mem_h,rfl,rfl,?_⟩
  refine place_new P h hl fun a=>?_
  exact write_at (l:=H.vs) (r:=[]) (v:=.new nm a) P (end_ (hq a) rfl)
theorem stamp_old (P:Prog c) {v:Vr} (hn:(H.vs.map (·.nm)).Nodup) (h:v∈H.vs) (hq:Q (.int v.w) (A++hostO H)):SemCall c (n+5) (.ref 625) [.own H.h,.str v.nm] (A++hostO H) Q X:=by
  refine (P.SmallHost_stamp rfl fun as zz=>?_).call
  refine ⟨671,_,583,mem_h,rfl,rfl,?_⟩
  refine place_old P hn h ?_
  exact attr_v h rfl rfl rfl (end_ hq rfl)
theorem has_no (P:Prog c) {nm:List Nat} (h:nm ∉ H.vs.map (·.nm)) (hq:Q (.bool false) (A++hostO H)):SemCall c (n+1) (.ref 576) [.own H.h,.str nm] (A++hostO H) Q X:=by
  refine (P.SmallHost_has rfl fun as zz=>?_).call
  refine attr_h rfl rfl rfl ⟨_,mem_dv,?_⟩
  rw [varsD_none h]
  exact end_ hq rfl
theorem has_old (P:Prog c) {v:Vr} (hn:(H.vs.map (·.nm)).Nodup) (h:v∈H.vs) (hq:Q (.bool (!decide (v.kind=[110,111,110,101]))) (A++hostO H)):SemCall c (n+1) (.ref 576) [.own H.h,.str v.nm] (A++hostO H) Q X:=by
  refine (P.SmallHost_has rfl fun as zz=>?_).call
  refine attr_h rfl rfl rfl ⟨_,mem_dv,?_⟩
  rw [varsD_get hn h]
  exact attr_h rfl rfl rfl (.inl ⟨_,mem_dv,_,varsD_get hn h,attr_v h rfl rfl rfl (end_ hq rfl)⟩)
end
noncomputable def mv (l:List Nd):List V:=(l.map ntext).map .str
theorem mv_len (l:List Nd):(mv l).length=l.length:=by simp [mv]
section
variable {c:Cx} {n:Nat} {own A:Own} {Q:PQ} {X:PX} {H:HS}
structure More (l:List Nd):Prop where
  good:∀x∈l,Good x
  sz:szs l≤4000
theorem rep_ok {xs more:List Nd} {f l:Int} (hx:∀x∈xs,Good x) (hs:szs xs≤5000) (hm:More more):(∀y∈repV xs f l more,Good y)∧szs (repV xs f l more)≤50000:=by
  refine ⟨fun y hy=>(repV_mem hy).elim (hx y) (hm.good y),?_⟩
  unfold repV
  rw [szs_app,szs_app]
  have h1:=szs_take (repB xs f).toNat xs
  have h2:=szs_drop_le (max (repB xs f) (min (l+1) xs.length)).toNat xs
  have h3:=hm.sz
  omega
theorem tn_items {t:List Nat} {x:Nd} (h:Tn t x) (hs:sz x≤4000):szs (litems x).1≤5000∧(litems x).1.length≤50000∧(mv (litems x).1).length≤LIM:=by
  have h1:=items_sz h.good
  have h2:=szs_len (litems x).1
  refine ⟨by omega,by omega,lim_ (by rw [mv_len];omega)⟩
theorem linsert_c (P:Prog c) {t cmd:List Nat} {x:Nd} {i:Ix} {more:List Nd} {hv:V} {ws:List V} (hw:ws=.str cmd::.str t::.str i.w::mv more) (hT:Tn t x) (hs:sz x≤4000) (hi:i.Ok) (hm:More more)
    (hq:∀k,(litems x).2=none→i.num=some k→Q (.str (ntext (.node (repV (litems x).1 (atI (litems x).1.length (i.e,k)) (atI (litems x).1.length (i.e,k) - 1) more)))) own)
    (hx:∀m ec,((litems x).2=some (m,ec)∨((litems x).2=none∧i.num=none∧i.bad=some (m,ec)))→XE X own m ec):
    SemCall c (n+8) (.ref 364) [hv,.list ws] own Q X:=by
  have hwl:ws.length=more.length+3:=by rw [hw];simp [mv_len]
  obtain ⟨k1,k2,k3⟩:=tn_items hT hs
  have hml:=szs_len more
  have hm4:=hm.sz
  refine (P.do_linsert rfl fun as zz=>?_).call
  refine ⟨_,.frz,lim_ (by omega),ifF (by omega) ?_⟩
  refine ⟨286,rfl,rfl,by decide,by decide,.str t,by rw [hw];rfl,node_split P hT (fun hf=>⟨223,rfl,rfl,by decide,by decide,.str i.w,by rw [hw];rfl,_,.frz,k3,?_⟩) fun m ec hf=>XE.up [] (hx m ec (.inl hf))⟩
  refine ix_c P hi (fun k hn=>⟨315,rfl,rfl,343,rfl,rfl,_,_,part_ (k:=3) rfl,rfl,lim_ (by omega),?_⟩) fun hn=>XE.up [] (hx _ _ (.inr ⟨hf,hn,rfl⟩))
  rw [cut_drop,items_len,show ws.drop 3=mv more by rw [hw];rfl]
  refine inserted_c P (by simp;omega) (by rw [mv_len];omega) ?_
  have e:repV (((litems x).1.map ntext).map V.str) (atI (litems x).1.length (i.e,k)) (atI (litems x).1.length (i.e,k) - 1) (mv more)=mv (repV (litems x).1 (atI (litems x).1.length (i.e,k)) (atI (litems x).1.length (i.e,k) - 1) more):=by
    unfold mv;rw [repV_map,repV_map]
  show SemCall c (n+7) (.ref 315) [.list (repV _ _ _ (mv more))] _ _ _
  rw [e]
  obtain ⟨g1,g2⟩:=rep_ok (f:=atI (litems x).1.length (i.e,k)) (l:=atI (litems x).1.length (i.e,k) - 1) hT.good.items k1 hm
  exact join_nodes P g1 g2 (end_ (hq k hf hn) rfl)
theorem edited_c (P:Prog c) {t:List Nat} {a b:V} {x:Nd} {i j:Ix} {more:List Nd} {ws:List V} (hw:ws=a::b::.str i.w::.str j.w::mv more) (hT:Tn t x) (hs:sz x≤4000) (hi:i.Ok) (hj:j.Ok) (hm:More more)
    (hq:∀k l,(litems x).2=none→i.num=some k→j.num=some l→Q (.str (ntext (.node (repV (litems x).1 (atI ((litems x).1.length - 1) (i.e,k)) (atI ((litems x).1.length - 1) (j.e,l)) more)))) own)
    (hx:∀m ec,((litems x).2=some (m,ec)∨((litems x).2=none∧i.num=none∧i.bad=some (m,ec))∨((litems x).2=none∧i.num≠none∧j.num=none∧j.bad=some (m,ec)))→XE X own m ec):
    SemCall c (n+8) (.ref 371) [.str t,.list ws] own Q X:=by
  have hwl:ws.length=more.length+4:=by rw [hw];simp [mv_len]
  obtain ⟨k1,k2,k3⟩:=tn_items hT hs
  have hml:=szs_len more
  have hm4:=hm.sz
  refine (P.edited rfl fun as zz=>?_).call
  refine ⟨286,rfl,rfl,node_split P hT (fun hf=>⟨223,rfl,rfl,by decide,by decide,.str i.w,by rw [hw];rfl,_,.frz,k3,?_⟩) fun m ec hf=>XE.up [] (hx m ec (.inl hf))⟩
  refine ix_c P hi (fun k hn=>⟨223,rfl,rfl,by decide,by decide,.str j.w,by rw [hw];rfl,_,.frz,k3,?_⟩) fun hn=>XE.up [] (hx _ _ (.inr (.inl ⟨hf,hn,rfl⟩)))
  refine ix_c P hj (fun l hn2=>⟨315,rfl,rfl,336,rfl,rfl,_,_,part_ (k:=4) rfl,rfl,lim_ (by omega),?_⟩) fun hn2=>XE.up [] (hx _ _ (.inr (.inr ⟨hf,(by rw [hn];exact fun q=>(nomatch q)),hn2,rfl⟩)))
  rw [cut_drop,items_len,show ws.drop 4=mv more by rw [hw];rfl]
  refine replaced_c P (by simp;omega) (by rw [mv_len];omega) ?_
  have e:repV (((litems x).1.map ntext).map V.str) (atI ((litems x).1.length - 1) (i.e,k)) (atI ((litems x).1.length - 1) (j.e,l)) (mv more)=mv (repV (litems x).1 (atI ((litems x).1.length - 1) (i.e,k)) (atI ((litems x).1.length - 1) (j.e,l)) more):=by
    unfold mv;rw [repV_map,repV_map]
  show SemCall c (n+7) (.ref 315) [.list (repV _ _ _ (mv more))] _ _ _
  rw [e]
  obtain ⟨g1,g2⟩:=rep_ok (f:=atI ((litems x).1.length - 1) (i.e,k)) (l:=atI ((litems x).1.length - 1) (j.e,l)) hT.good.items k1 hm
  exact join_nodes P g1 g2 (end_ (hq k l hf hn hn2) rfl)
end
noncomputable def uLinsert:List Nat:=[32,108,105,115,116,32,105,110,100,101,120,32,63,101,108,101,109,101,110,116,32,46,46,46,63]
noncomputable def uLreplace:List Nat:=[32,108,105,115,116,32,102,105,114,115,116,32,108,97,115,116,32,63,101,108,101,109,101,110,116,32,46,46,46,63]
noncomputable def uLedit:List Nat:=[32,108,105,115,116,86,97,114,32,102,105,114,115,116,32,108,97,115,116,32,63,101,108,101,109,101,110,116,32,46,46,46,63]
noncomputable def uLset:List Nat:=[32,108,105,115,116,86,97,114,32,63,105,110,100,101,120,63,32,63,105,110,100,101,120,32,46,46,46,63,32,118,97,108,117,101]
noncomputable def uLpop:List Nat:=[32,108,105,115,116,118,97,114,32,63,105,110,100,101,120,63]
section
variable {c:Cx} {n:Nat} {own A:Own} {Q:PQ} {X:PX} {H:HS}
theorem wrong_at (P:Prog c) {u:List Nat} {st:St} (hl:u.length≤10000) (h:XE X st.own (wrongMsg u) wrongEc):SemCall c (n+4) (.ref 146) [.str u] st.own (fun r own=>own1 r fun a=>RaiseAt tabT own (fun own'=>EndX X a ⟨st.loc,own'⟩) a) (fun e own=>EndX X e ⟨st.loc,own⟩):=
  wrong_args_c P hl fun x=>⟨84,_,_,.here,rfl,.mk (List.Sublist.refl _) (.head _) (h x)⟩
section
variable {cmd:List Nat} {hv:V} {r:List V}
theorem linsert_u (P:Prog c) (hl:cmd.length≤100) (hr:r.length=1) (hx:XE X own (wrongMsg (cmd++uLinsert)) wrongEc):SemCall c (n+5) (.ref 364) [hv,.list (.str cmd::r)] own Q X:=by
  refine (P.do_linsert rfl fun as zz=>?_).call
  obtain ⟨a,rfl⟩:=List.length_eq_one_iff.mp hr
  exact ⟨_,.frz,le_ rfl,146,rfl,rfl,by decide,by decide,_,rfl,lim_ (lw (Nat.add_le_add hl (Nat.le_refl _)) rfl),wrong_at P (st:=⟨_,own⟩) (lw (la hl (Nat.le_refl _)) rfl) hx⟩
theorem lreplace_u (P:Prog c) (hl:cmd.length≤100) {a b:V} (hx:XE X own (wrongMsg (cmd++uLreplace)) wrongEc):SemCall c (n+5) (.ref 378) [hv,.list [.str cmd,a,b]] own Q X:=by
  refine (P.do_lreplace rfl fun as zz=>?_).call
  exact ⟨_,.frz,le_ rfl,146,rfl,rfl,by decide,by decide,_,rfl,lim_ (lw (Nat.add_le_add hl (Nat.le_refl _)) rfl),wrong_at P (st:=⟨_,own⟩) (lw (la hl (Nat.le_refl _)) rfl) hx⟩
theorem ledit_u (P:Prog c) (hl:cmd.length≤100) {a b:V} (hx:XE X own (wrongMsg (cmd++uLedit)) wrongEc):SemCall c (n+5) (.ref 385) [hv,.list [.str cmd,a,b]] own Q X:=by
  refine (P.do_ledit rfl fun as zz=>?_).call
  exact ⟨_,.frz,le_ rfl,146,rfl,rfl,by decide,by decide,_,rfl,lim_ (lw (Nat.add_le_add hl (Nat.le_refl _)) rfl),wrong_at P (st:=⟨_,own⟩) (lw (la hl (Nat.le_refl _)) rfl) hx⟩
theorem lset_u (P:Prog c) (hl:cmd.length≤100) {a:V} (hx:XE X own (wrongMsg (cmd++uLset)) wrongEc):SemCall c (n+5) (.ref 392) [hv,.list [.str cmd,a]] own Q X:=by
  refine (P.do_lset rfl fun as zz=>?_).call
  exact ⟨_,.frz,le_ rfl,146,rfl,rfl,by decide,by decide,_,rfl,lim_ (lw (Nat.add_le_add hl (Nat.le_refl _)) rfl),wrong_at P (st:=⟨_,own⟩) (lw (la hl (Nat.le_refl _)) rfl) hx⟩
theorem lpop_u (P:Prog c) (hl:cmd.length≤100) (hx:XE X own (wrongMsg (cmd++uLpop)) wrongEc):SemCall c (n+5) (.ref 399) [hv,.list [.str cmd]] own Q X:=by
  refine (P.do_lpop rfl fun as zz=>?_).call
  exact ⟨_,.frz,le_ rfl,146,rfl,rfl,by decide,by decide,_,rfl,lim_ (lw (Nat.add_le_add hl (Nat.le_refl _)) rfl),wrong_at P (st:=⟨_,own⟩) (lw (la hl (Nat.le_refl _)) rfl) hx⟩
end
theorem lreplace_c (P:Prog c) {t:List Nat} {cmd:V} {hv:V} {x:Nd} {i j:Ix} {more:List Nd} {ws:List V} (hw:ws=cmd::.str t::.str i.w::.str j.w::mv more) (hT:Tn t x) (hs:sz x≤4000) (hi:i.Ok) (hj:j.Ok) (hm:More more)
    (hq:∀k l,(litems x).2=none→i.num=some k→j.num=some l→Q (.str (ntext (.node (repV (litems x).1 (atI ((litems x).1.length - 1) (i.e,k)) (atI ((litems x).1.length - 1) (j.e,l)) more)))) own)
    (hx:∀m ec,((litems x).2=some (m,ec)∨((litems x).2=none∧i.num=none∧i.bad=some (m,ec))∨((litems x).2=none∧i.num≠none∧j.num=none∧j.bad=some (m,ec)))→XE X own m ec):
    SemCall c (n+9) (.ref 378) [hv,.list ws] own Q X:=by
  have hwl:ws.length=more.length+4:=by rw [hw];simp [mv_len]
  have hml:=szs_len more
  have hm4:=hm.sz
  refine (P.do_lreplace rfl fun as zz=>?_).call
  refine ⟨_,.frz,lim_ (by omega),ifF (by omega) ⟨371,rfl,rfl,by decide,by decide,.str t,by rw [hw];rfl,?_⟩⟩
  exact edited_c P hw hT hs hi hj hm (fun k l h1 h2 h3=>end_ (hq k l h1 h2 h3) rfl) fun m ec h=>XE.up [] (hx m ec h)
theorem ledit_c (P:Prog c) {cmd:V} {x:Nd} {i j:Ix} {more:List Nd} {ws:List V} {l r:List Vr} {v:Vr} (hn:((l++v::r).map (·.nm)).Nodup) (hk:v.kind=scalarW) (hw:ws=cmd::.str v.nm::.str i.w::.str j.w::mv more) (hT:Tn v.val x) (hs:sz x≤4000) (hi:i.Ok) (hj:j.Ok) (hm:More more)
    (hq:∀k m t,(litems x).2=none→i.num=some k→j.num=some m→t=ntext (.node (repV (litems x).1 (atI ((litems x).1.length - 1) (i.e,k)) (atI ((litems x).1.length - 1) (j.e,m)) more))→Q (.str t) (A++hostO (H.sub l (v.set t) r)))
    (hx:∀m ec,((litems x).2=some (m,ec)∨((litems x).2=none∧i.num=none∧i.bad=some (m,ec))∨((litems x).2=none∧i.num≠none∧j.num=none∧j.bad=some (m,ec)))→XE X (A++hostO (H.sub l v r)) m ec):
    SemCall c (n+9) (.ref 385) [.own H.h,.list ws] (A++hostO (H.sub l v r)) Q X:=by
  have hwl:ws.length=more.length+4:=by rw [hw];simp [mv_len]
  have hml:=szs_len more
  have hm4:=hm.sz
  refine (P.do_ledit rfl fun as zz=>?_).call
  refine ⟨_,.frz,lim_ (by omega),ifF (by omega) ?_⟩
  refine ⟨671,_,611,mem_h (H:=H.sub l v r),rfl,rfl,by decide,by decide,.str v.nm,by rw [hw];rfl,371,rfl,rfl,?_⟩
  refine ⟨671,_,604,mem_h (H:=H.sub l v r),rfl,rfl,by decide,by decide,.str v.nm,by rw [hw];rfl,?_⟩
  refine read_old (H:=H.sub l v r) P hn (by show v∈l++v::r;simp) hk ?_
  exact edited_c P hw hT hs hi hj hm (fun k m h1 h2 h3=>write_old P hn (end_ (hq k m _ h1 h2 h3 rfl) rfl)) fun m ec h=>XE.up [] (hx m ec h)
theorem ledit_no (P:Prog c) {ws:List V} {nm:List Nat} {cmd a b:V} {more:List V} (hw:ws=cmd::.str nm::a::b::more) (hl:more.length≤1000) (h:nm ∉ H.vs.map (·.nm)) (hvl:H.vs.length≤1000) (hnl:nm.length≤1000) (hx:∀a,XE X (A++hostO (H.add (.new nm a))) (noVarMsg nm) (noVarEc nm)):
    SemCall c (n+9) (.ref 385) [.own H.h,.list ws] (A++hostO H) Q X:=by
  have hwl:ws.length=more.length+4:=by rw [hw];rfl
  refine (P.do_ledit rfl fun as zz=>?_).call
  refine ⟨_,.frz,lim_ (by omega),ifF (by omega) ?_⟩
  refine ⟨671,_,611,mem_h,rfl,rfl,by decide,by decide,.str nm,by rw [hw];rfl,371,rfl,rfl,?_⟩
  refine ⟨671,_,604,mem_h,rfl,rfl,by decide,by decide,.str nm,by rw [hw];rfl,?_⟩
  exact read_new P h hvl hnl fun a=>XE.up [] (hx a)
inductive PathR:List (List Nat)→List Ix→Prop
  | many {ixs:List Ix}:ixs.length≠1→PathR (ixs.map (·.w)) ixs
  | lone {w:List Nat} {ixs:List Ix}:SP w (ixs.map (·.w)) none→tame w=true→w.length≤50000→PathR [w] ixs
  | fault {w:List Nat} {es:List (List Nat)} {f:List Nat×List V} {i:Ix}:SP w es (some f)→tame w=true→w.length≤50000→i.w=w→PathR [w] [i]
theorem wv_map (l:List Ix):(l.map (·.w)).map V.str=wv l:=by simp [wv]
theorem indices_c (P:Prog c) {pw:List (List Nat)} {ixs:List Ix} (h:PathR pw ixs) (hl:pw.length≤1000) (hq:Q (.list (wv ixs)) own):SemCall c (n+8) (.ref 322) [.list (pw.map .str)] own Q X:=by
  cases h with
  | many h=>rw [wv_map];exact indices_many P (by simp [wv];exact h) (by simpa [wv] using hl) hq
  | lone h h2 h3=>exact indices_one P h h2 (by omega) (fun zz=>by rw [wv_map];exact hq) fun q=>absurd rfl q
  | fault h h2 h3 h4=>subst h4;exact indices_one P h h2 (by omega) (fun q=>nomatch q) fun zz=>hq
theorem PathR.len {pw:List (List Nat)} {ixs:List Ix} (h:PathR pw ixs):pw.length≤ixs.length+1:=by cases h<;>simp
theorem rbl_some {z:Nd}:∀ls:List Lv,∃y,rbl ls (some z)=some y
  | []=>⟨z,rfl⟩
  | (_,_)::_=>⟨_,rfl⟩
theorem lset_c (P:Prog c) {cmd:V} {x z:Nd} {ixs:List Ix} {pw:List (List Nat)} {ws:List V} {l r:List Vr} {v:Vr} (hn:((l++v::r).map (·.nm)).Nodup) (hk:v.kind=scalarW) (hw:ws=cmd::.str v.nm::(pw.map .str++[.str (ntext z)])) (hp:PathR pw ixs) (hT:Tn v.val x) (hs:sz x≤4000) (hl:ixs.length≤5) (hi:∀i∈ixs,i.Ok) (hz:More [z])
    (hq:∀t,(lvs true x ixs).2=none→.str t=valV (rbl (lvs true x ixs).1 (some z))→Q (.str t) (A++hostO (H.sub l (v.set t) r)))
    (hx:∀m ec,(lvs true x ixs).2=some (m,ec)→XE X (A++hostO (H.sub l v r)) m ec):
    SemCall c (n+10) (.ref 392) [.own H.h,.list ws] (A++hostO (H.sub l v r)) Q X:=by
  have hpl:=hp.len
  have hwl:ws.length=pw.length+3:=by rw [hw];simp
  have hbe:((ws.length:Int) - 1)=((pw.length+2:Nat):Int):=by omega
  refine (P.do_lset rfl fun as zz=>?_).call
  refine ⟨_,.frz,lim_ (by omega),ifF (by omega) ?_⟩
  refine ⟨671,_,604,mem_h (H:=H.sub l v r),rfl,rfl,by decide,by decide,.str v.nm,by rw [hw];rfl,?_⟩
  refine read_old (H:=H.sub l v r) P hn (by show v∈l++v::r;simp) hk ⟨_,.frz,lim_ (by omega),?_⟩
  refine ⟨671,_,611,mem_h (H:=H.sub l v r),rfl,rfl,by decide,by decide,.str v.nm,by rw [hw];rfl,357,rfl,rfl,322,rfl,rfl,_,_,part_ (k:=2) rfl,part_ hbe,lim_ (by omega),?_⟩
  have hc:cutL ws (some 2) (some (pw.length+2))=pw.map V.str:=by
    rw [hw];simp [cutL]
  rw [hc]
  refine indices_c P hp (by omega) ⟨by omega,by omega,.str (ntext z),?_,?_⟩
  · have e:((ws.length:Int) - 1).toNat=pw.length+2:=by omega
    rw [e,hw]
    show (pw.map V.str++[V.str (ntext z)])[pw.length]?=_
    simp
  · have hov:OvOk 10000 (some z):=⟨fun x e=>by cases e;exact hz.good z (.head _),Nat.le_trans hz.sz (by decide)⟩
    refine set_at_c (ov:=some z) P hT hs hl hi hov (fun hf=>?_) fun m ec hf=>XE.up [] (hx m ec hf)
    cases e:rbl (lvs true x ixs).1 (some z) with
    | none=>
      obtain ⟨y,hy⟩:=rbl_some (z:=z) (lvs true x ixs).1
      rw [hy] at e;cases e
    | some y=>
      show SemCall c (n+9) (.ref 611) [.own H.h,.str v.nm,valV (rbl (lvs true x ixs).1 (some z))] _ _ _
      rw [e]
      exact write_old P hn (end_ (hq _ hf (by rw [e];rfl)) rfl)
theorem lset_no (P:Prog c) {ws:List V} {nm:List Nat} {cmd a:V} {more:List V} (hw:ws=cmd::.str nm::a::more) (hl:more.length≤1000) (h:nm ∉ H.vs.map (·.nm)) (hvl:H.vs.length≤1000) (hnl:nm.length≤1000) (hx:∀a,XE X (A++hostO (H.add (.new nm a))) (noVarMsg nm) (noVarEc nm)):
    SemCall c (n+9) (.ref 392) [.own H.h,.list ws] (A++hostO H) Q X:=by
  have hwl:ws.length=more.length+3:=by rw [hw];rfl
  refine (P.do_lset rfl fun as zz=>?_).call
  refine ⟨_,.frz,lim_ (by omega),ifF (by omega) ?_⟩
  refine ⟨671,_,604,mem_h,rfl,rfl,by decide,by decide,.str nm,by rw [hw];rfl,?_⟩
  exact read_new P h hvl hnl fun a=>XE.up [] (hx a)
theorem lpop_no (P:Prog c) {ws:List V} {nm:List Nat} {cmd:V} {more:List V} (hw:ws=cmd::.str nm::more) (hl:more.length≤1000) (h:nm ∉ H.vs.map (·.nm)) (hvl:H.vs.length≤1000) (hnl:nm.length≤1000) (hx:∀a,XE X (A++hostO (H.add (.new nm a))) (noVarMsg nm) (noVarEc nm)):
    SemCall c (n+9) (.ref 399) [.own H.h,.list ws] (A++hostO H) Q X:=by
  have hwl:ws.length=more.length+2:=by rw [hw];rfl
  refine (P.do_lpop rfl fun as zz=>?_).call
  refine ⟨_,.frz,lim_ (by omega),ifF (by omega) ?_⟩
  refine ⟨671,_,604,mem_h,rfl,rfl,by decide,by decide,.str nm,by rw [hw];rfl,?_⟩
  exact read_new P h hvl hnl fun a=>XE.up [] (hx a)
noncomputable def endIx:Ix:=⟨[101,110,100],true,some 0⟩
theorem rbl_lvs {g:Bool} {m:Option Nd} {x:Nd} {ixs:List Ix} (hne:ixs≠[]) (hf:(lvs g x ixs).2=none):∃y,rbl (lvs g x ixs).1 m=some y:=by
  induction ixs using List.casesOn with
  | nil=>exact absurd rfl hne
  | cons i r=>
    rw [lvs_cons] at hf ⊢
    cases h1:(litems x).2 with
    | some f=>rw [h1] at hf;cases hf
    | none=>
      rw [h1] at hf
      cases h2:i.num with
      | none=>rw [h2] at hf;cases hf
      | some k=>
        rw [h2] at hf
        dsimp only at hf ⊢
        by_cases hc:atI ((litems x).1.length - 1) (i.e,k) < 0∨((litems x).1.length:Int) - (if g then 0 else 1) < atI ((litems x).1.length - 1) (i.e,k)
        · rw [if_pos hc] at hf;cases hf
        · rw [if_neg hc];exact ⟨_,rfl⟩
theorem lpop_c (P:Prog c) {cmd:V} {x:Nd} {ixs jxs:List Ix} {ws:List V} {l r:List Vr} {v:Vr} (hn:((l++v::r).map (·.nm)).Nodup) (hk:v.kind=scalarW) (hw:ws=cmd::.str v.nm::wv jxs) (hj:ixs=if jxs=[] then [endIx] else jxs) (hT:Tn v.val x) (hs:sz x≤4000) (hl:ixs.length≤5) (hi:∀i∈ixs,i.Ok)
    (hq:∀t g,(lgot v.val x ixs).2=none→g=(lgot v.val x ixs).1→(lvs false x ixs).2=none→.str t=valV (rbl (lvs false x ixs).1 none)→Q (.str g) (A++hostO (H.sub l (v.set t) r)))
    (hx:∀m ec,((lgot v.val x ixs).2=some (m,ec)∨((lgot v.val x ixs).2=none∧(lvs false x ixs).2=some (m,ec)))→XE X (A++hostO (H.sub l v r)) m ec):
    SemCall c (n+10) (.ref 399) [.own H.h,.list ws] (A++hostO (H.sub l v r)) Q X:=by
  have hjl:jxs.length≤5:=by
    by_cases e:jxs=[]
    · rw [e];exact Nat.zero_le _
    · rw [if_neg e] at hj;rwa [← hj]
  have hne:ixs≠[]:=by
    rw [hj]
    split
    · exact fun q=>nomatch q
    · assumption
  have hwl:ws.length=jxs.length+2:=by rw [hw];simp [wv]
  refine (P.do_lpop rfl fun as zz=>?_).call
  refine ⟨_,.frz,lim_ (by omega),ifF (by omega) ?_⟩
  refine ⟨671,_,604,mem_h (H:=H.sub l v r),rfl,rfl,by decide,by decide,.str v.nm,by rw [hw];rfl,?_⟩
  refine read_old (H:=H.sub l v r) P hn (by show v∈l++v::r;simp) hk ?_
  have tail:wpSs c (n+9) tabT (do_lpop_ms.drop 3) ⟨[some (.own H.h),some (.list ws),some (.str v.val),some (.list (wv ixs)),none],A++hostO (H.sub l v r)⟩ (EndQ Q) (EndX X):=by
    refine ⟨329,rfl,rfl,at_path_c P hT (by omega) hi (fun hg=>?_) fun m ec hf=>XE.up [] (hx m ec (.inl hf))⟩
    refine ⟨671,_,611,mem_h (H:=H.sub l v r),rfl,rfl,by decide,by decide,.str v.nm,by rw [hw];rfl,357,rfl,rfl,?_⟩
    refine set_at_c (ov:=none) P hT hs hl hi ⟨fun zz h=>(nomatch h),Nat.zero_le _⟩ (fun hf=>?_) fun m ec hf=>XE.up [] (hx m ec (.inr ⟨hg,hf⟩))
    replace hf:(lvs false x ixs).2=none:=hf
    have hy:=rbl_lvs (m:=none) hne hf
    obtain ⟨y,hy⟩:=hy
    show SemCall c (n+9) (.ref 611) [.own H.h,.str v.nm,valV (rbl (lvs false x ixs).1 none)] _ _ _
    rw [hy]
    exact write_old P hn (end_ (hq _ _ hg rfl hf (by rw [hy];rfl)) rfl)
  refine ⟨_,.frz,lim_ (by omega),?_⟩
  by_cases e:jxs=[]
  · rw [if_pos e] at hj
    subst hj;subst e
    exact ifF (by simp at hwl;omega) tail
  · rw [if_neg e] at hj
    subst hj
    have:=List.length_pos_iff.mpr e
    refine ifT (by omega) ⟨_,_,part_ (k:=2) rfl,rfl,lim_ (by omega),?_⟩
    rw [cut_drop,show ws.drop 2=wv ixs by rw [hw];rfl]
    exact tail
end
noncomputable def HS.sp (H:HS):HS:={ H with spent:=H.spent+1 }
noncomputable def cmdV (f:Addr):V:=.tup [.lit (.ref f),.non]
noncomputable def HS.put (H:HS) (nm:List Nat) (f:Addr):HS:={ H with cmds:=H.cmds++[(nm,cmdV f)],firsts:=H.firsts++[(nm,.bool true)] }
noncomputable def Cmd (c:Cx) (n:Nat) (f:Addr) (xs:List V) (own:Own) (Q:PQ) (X:PX):Prop:=
  ∀{Q':PQ} {X':PX},(∀s o,Q (.str s) o→Q' (.str s) o)→(∀m ec o,XE X o m ec→XE X' o m ec)→SemCall c n (.ref f) xs own Q' X'
section
variable {c:Cx} {n:Nat} {own A:Own} {Q:PQ} {X:PX} {H:HS}
theorem act_c (P:Prog c) {f h:Addr} {w:List V} (hk:keepA.contains f=true) (hc:Cmd c n f [.own h,.list w] own Q X) {Q':PQ} {X':PX} (h1:∀s o,Q (.str s) o→Q' (.str s) o) (h2:∀m ec o,XE X o m ec→XE X' o m ec):SemCall c (n+1) (.ref 554) [.own h,.list w,.lit (.ref f),.non] own Q' X':=by
  refine (P.act rfl fun as zz=>?_).call
  exact ⟨f,rfl,hk,hc (fun s o q=>end_ (h1 s o q) rfl) fun m ec o q=>XE.up [] (h2 m ec o q)⟩
theorem spend_c (P:Prog c) (hq:Q .non (A++hostO H.sp)):SemCall c (n+1) (.ref 456) [.own H.h] (A++hostO H) Q X:=by
  refine (P.Host_spend rfl fun as zz=>?_).call
  refine attr_h rfl rfl rfl ?_
  refine ⟨_,_,A++hostO H.sp,.inst (C:=671) rfl mem_h,le_ rfl,.app A .here,?_⟩
  exact attr_h (H:=H.sp) rfl rfl rfl (end_ hq rfl)
theorem begin_c (P:Prog c) {f:Addr} {ws:List V} {cmd:List Nat} (h0:ws[0]?=some (.str cmd)) (hg:dget H.cmds cmd=some (cmdV f)) (hk:keepA.contains f=true) (hc:Cmd c (n+1) f [.own H.h,.list ws] (A++hostO H.sp) Q X) {Q':PQ} {X':PX} (h1:∀s o,Q (.str s) o→Q' (.str s) o) (h2:∀m ec o,XE X o m ec→XE X' o m ec):SemCall c (n+3) (.ref 668) [.own H.h,.list ws] (A++hostO H) Q' X':=by
  refine (P.SmallHost_begin rfl fun as zz=>?_).call
  refine ⟨by decide,by decide,_,h0,attr_h rfl rfl rfl ⟨_,mem_dc,?_⟩⟩
  rw [hg]
  refine ⟨671,_,456,mem_h,rfl,rfl,spend_c P ?_⟩
  refine attr_h (H:=H.sp) rfl rfl rfl ⟨by decide,by decide,_,h0,.inl ⟨_,mem_dc (H:=H.sp),_,hg,rfl,?_⟩⟩
  exact ⟨554,rfl,rfl,act_c P hk hc (fun s o q=>end_ (h1 s o q) rfl) fun m ec o q=>XE.up [] (h2 m ec o q)⟩
theorem call_c (P:Prog c) {f:Addr} {ws:List V} {cmd:List Nat} (hl:ws.length≤1000) (h0:ws[0]?=some (.str cmd)) (hg:dget H.cmds cmd=some (cmdV f)) (hk:keepA.contains f=true) (hc:Cmd c (n+1) f [.own H.h,.list ws] (A++hostO H.sp) Q X):Cmd c (n+4) 484 [.own H.h,.list ws] (A++hostO H) Q X:=fun {Q' X'} h1 h2=>by
  refine (P.Host_call rfl fun as zz=>?_).call
  refine ⟨lim_ (by omega),?_⟩
  have hne:ws.isEmpty=false:=by cases ws with | nil=>cases h0 | cons=>rfl
  rw [hne]
  exact ⟨671,_,668,mem_h,rfl,rfl,begin_c P h0 hg hk hc (fun s o q=>⟨rfl,rfl,rfl,rfl,end_ (h1 s o q) rfl⟩) fun m ec o q=>XE.up [] (h2 m ec o q)⟩
theorem remove_c (P:Prog c) {nm:List Nat} (h1:dget H.cmds nm=none) (h2:(H.cmds.map (·.1)).Nodup) (h3:dget H.firsts nm=none) (h4:(H.firsts.map (·.1)).Nodup) (hq:Q .non (A++hostO H)):SemCall c (n+1) (.ref 647) [.own H.h,.str nm] (A++hostO H) Q X:=by
  refine (P.SmallHost_remove rfl fun as zz=>?_).call
  have mdf:(H.df,OO.dict H.firsts)∈A++hostO H:=List.mem_append_right _ (.tail _ (.tail _ (.tail _ (.head _))))
  have mdi:(H.di,OO.dict [])∈A++hostO H:=List.mem_append_right _ (.tail _ (.tail _ (.tail _ (.tail _ (.head _)))))
  refine attr_h rfl rfl rfl ⟨⟨_,mem_dc⟩,_,mem_dc,h1,h2,?_⟩
  refine attr_h rfl rfl rfl ⟨⟨_,mdf⟩,_,mdf,h3,h4,?_⟩
  exact attr_h rfl rfl rfl ⟨_,mdi,end_ hq rfl⟩
theorem dget_keys {kvs:List (List Nat×V)} {k:List Nat} (h:k ∉ kvs.map (·.1)):dget kvs k=none:=by
  induction kvs with
  | nil=>rfl
  | cons p r ih=>
    obtain ⟨a,b⟩:=p
    rw [List.map_cons,List.mem_cons,not_or] at h
    rw [dget_cons,if_neg (fun e=>h.1 e.symm)]
    exact ih h.2
theorem put_c (P:Prog c) {nm:List Nat} {f:Addr} (h1:nm ∉ H.cmds.map (·.1)) (h2:(H.cmds.map (·.1)).Nodup) (h3:nm ∉ H.firsts.map (·.1)) (h4:(H.firsts.map (·.1)).Nodup) (hl:H.cmds.length≤100) (hq:Q .non (A++hostO { H with cmds:=H.cmds++[(nm,cmdV f)] })):SemCall c (n+2) (.ref 640) [.own H.h,.str nm,.lit (.ref f),.non] (A++hostO H) Q X:=by
  refine (P.SmallHost_put rfl fun as zz=>?_).call
  refine ⟨671,_,647,mem_h,rfl,rfl,remove_c P (dget_keys h1) h2 (dget_keys h3) h4 ?_⟩
  refine (attr_h rfl rfl rfl ⟨_,_,lim_ (by omega),.app A (.there (.there .here)),?_⟩)
  rw [dput_new h1]
  exact end_ hq rfl
theorem add_loop (P:Prog c) {group:List (List Nat×V)} (r:List (List Nat×Addr)):∀(H:HS) (o2 o3 o4:Option V) {K:PS},(∀p∈r,dget group p.1=some (.lit (.ref p.2))∧cmdA.contains p.2=true)→((H.cmds.map (·.1))++r.map (·.1)).Nodup→H.firsts.map (·.1)=H.cmds.map (·.1)→H.cmds.length+r.length≤100→(∀o2 o3 o4,K ⟨[some (.own H.h),some (.dict group),o2,o3,o4],A++hostO (r.foldl (fun H p=>H.put p.1 p.2) H)⟩)→
    forGo (forP 2 (wpSs c (n+2) tabT SmallHost_add_b0) (seqR (wpSs c (n+2) tabT []) (EndQ Q) (EndX X)) (EndX X)) (r.map fun p=>.str p.1) ⟨[some (.own H.h),some (.dict group),o2,o3,o4],A++hostO H⟩ K:=by
  induction r with
  | nil=>
    intro H o2 o3 o4 K _ _ _ _ hk
    exact hk _ _ _
  | cons pp r ih=>
    obtain ⟨nm,f⟩:=pp
    intro H o2 o3 o4 K hg hn hf hl hk
    obtain ⟨g1,g2⟩:=hg (nm,f) (.head _)
    have hn2:=List.nodup_append.mp hn
    have h1:nm ∉ H.cmds.map (·.1):=fun q=>hn2.2.2 _ q _ (.head _) rfl
    have h3:nm ∉ H.firsts.map (·.1):=by rw [hf];exact h1
    simp only [List.length_cons] at hl
    refine ⟨547,rfl,rfl,_,g1,?_⟩
    refine (P.pair_of (n:=n+1) rfl fun as zz=>?_).call
    refine ⟨rfl,f,rfl,g2,end_ (v:=cmdV f) ?_ rfl⟩
    refine ⟨rfl,671,_,640,mem_h,rfl,rfl,put_c (f:=f) P h1 hn2.1 h3 (by rw [hf];exact hn2.1) (by omega) ?_⟩
    refine attr_h (H:={ H with cmds:=H.cmds++[(nm,cmdV f)] }) rfl rfl rfl ⟨_,_,lim_ (show H.firsts.length≤200000 by have:=congrArg List.length hf;simp at this;omega),.app A (.there (.there (.there .here))),?_⟩
    rw [dput_new h3]
    refine ih (H.put nm f) _ _ _ (fun p hp=>hg p (.tail _ hp)) ?_ ?_ ?_ hk
    · show (((H.cmds++[(nm,cmdV f)]).map (·.1))++r.map (·.1)).Nodup
      rw [List.map_append,List.append_assoc];exact hn
    · show (H.firsts++[(nm,V.bool true)]).map (·.1)=(H.cmds++[(nm,cmdV f)]).map (·.1)
      rw [List.map_append,List.map_append,hf];rfl
    · show (H.cmds++[(nm,cmdV f)]).length+r.length≤100
      rw [List.length_append,List.length_singleton];omega
end
noncomputable def grp:List (List Nat×Addr):=[([108,105,110,115,101,114,116],364),([108,114,101,112,108,97,99,101],378),([108,115,101,116],392),([108,112,111,112],399),([108,101,100,105,116],385)]
noncomputable def grpV:List (List Nat×V):=grp.map fun p=>(p.1,.lit (.ref p.2))
noncomputable def cmds0:List (List Nat×V):=grp.map fun p=>(p.1,cmdV p.2)
noncomputable def firsts0:List (List Nat×V):=grp.map fun p=>(p.1,.bool true)
section
variable {c:Cx} {n:Nat} {own A:Own} {Q:PQ} {X:PX} {H:HS}
theorem edit_commands_c (P:Prog c) (hq:Q (.dict grpV) own):SemCall c (n+1) (.ref 406) [] own Q X:=by
  refine (P.edit_commands rfl fun as zz=>?_).call
  exact ⟨by decide,le_ rfl,_,rfl,end_ hq rfl⟩
theorem add_c (P:Prog c) (h1:H.cmds=[]) (h2:H.firsts=[]) (hq:Q .non (A++hostO { H with cmds:=cmds0,firsts:=firsts0 })):SemCall c (n+3) (.ref 654) [.own H.h,.dict grpV] (A++hostO H) Q X:=by
  refine (P.SmallHost_add rfl fun as zz=>?_).call
  refine ⟨grp.map fun p=>.str p.1,?_,le_ rfl,?_⟩
  · exact (if_pos (by decide):(if (grpV.map (·.1)).Nodup then some (grpV.map fun p=>V.str p.1) else none)=_).trans rfl
  · refine add_loop (group:=grpV) P grp H none none none (fun p hp=>?_) (by rw [h1];decide) (by rw [h1,h2]) (by rw [h1];decide) fun o2 o3 o4=>end_ (v:=.non) ?_ rfl
    · simp only [grp,List.mem_cons,List.not_mem_nil,or_false] at hp
      rcases hp with rfl | rfl | rfl | rfl | rfl<;>exact ⟨rfl,rfl⟩
    · have e:grp.foldl (fun H p=>H.put p.1 p.2) H={ H with cmds:=cmds0,firsts:=firsts0 }:=by
        unfold grp HS.put cmds0 firsts0 grp
        simp [h1,h2]
      rw [e];exact hq
noncomputable def H0 (h dt di dv dc df:Addr):HS:=⟨h,dt,di,dv,dc,df,0,[],[],[]⟩
theorem Host_ini_c (P:Prog c) {x:Addr} (hq:∀dt di,Q .non ((di,.dict [])::(dt,.dict [])::(x,.inst 671 ((hats (H0 x dt di 0 0 0)).take 9))::own)):SemCall c (n+1) (.ref 442) [.own x,.int 40,.non] ((x,.inst 671 [])::own) Q X:=by
  refine (P.Host_ini rfl fun as zz=>?_).call
  refine fun dt=>⟨_,_,_,.inst rfl (.tail _ (.head _)),le_ rfl,.there .here,?_⟩
  refine fun di=>⟨_,_,_,.inst rfl (.tail _ (.tail _ (.head _))),le_ rfl,.there (.there .here),?_⟩
  refine ⟨_,_,_,.inst rfl (.tail _ (.tail _ (.head _))),le_ rfl,.there (.there .here),?_⟩
  refine ⟨_,_,_,.inst rfl (.tail _ (.tail _ (.head _))),le_ rfl,.there (.there .here),?_⟩
  refine ⟨_,_,_,.inst rfl (.tail _ (.tail _ (.head _))),le_ rfl,.there (.there .here),?_⟩
  refine ⟨_,_,_,.inst rfl (.tail _ (.tail _ (.head _))),le_ rfl,.there (.there .here),?_⟩
  refine ⟨_,_,_,.inst rfl (.tail _ (.tail _ (.head _))),le_ rfl,.there (.there .here),?_⟩
  refine ⟨_,_,_,.inst rfl (.tail _ (.tail _ (.head _))),le_ rfl,.there (.there .here),?_⟩
  refine ⟨_,_,_,.inst rfl (.tail _ (.tail _ (.head _))),le_ rfl,.there (.there .here),?_⟩
  exact end_ (hq dt di) rfl
theorem SmallHost_c (P:Prog c) (hq:∀h dt di dv dc df,Q (.own h) (own++hostO (H0 h dt di dv dc df))):SemCall c (n+3) (.ref 671) [] own Q X:=by
  refine (P.mkHost fun x=>P.SmallHost_ini rfl fun as zz=>?_).call
  refine ⟨508,442,rfl,rfl,Host_ini_c P fun dt di=>?_⟩
  refine fun dv=>⟨_,_,_,.inst rfl (.tail _ (.tail _ (.tail _ (.head _)))),le_ rfl,.there (.there (.there .here)),?_⟩
  refine fun dc=>⟨_,_,_,.inst rfl (.tail _ (.tail _ (.tail _ (.tail _ (.head _))))),le_ rfl,.there (.there (.there (.there .here))),?_⟩
  refine fun df=>⟨_,_,_,.inst rfl (.tail _ (.tail _ (.tail _ (.tail _ (.tail _ (.head _)))))),le_ rfl,.there (.there (.there (.there (.there .here)))),?_⟩
  refine .perm (l:=own++hostO (H0 x dt di dv dc df)) ?_ (List.Sublist.refl _) (Made.mk (hq x dt di dv dc df))
  refine List.perm_append_comm.trans ?_
  show ((x,OO.inst 671 (hats (H0 x dt di dv dc df)))::(dv,OO.dict [])::(dc,OO.dict [])::(df,OO.dict [])::(di,OO.dict [])::(dt,OO.dict [])::own).Perm _
  refine (List.Perm.cons _ ((List.perm_middle (l₁:=[(dc,OO.dict []),(df,OO.dict [])])).symm.trans (.swap _ _ _))).trans ?_
  exact (List.perm_middle (l₁:=[(df,OO.dict []),(dc,OO.dict []),(dv,OO.dict []),(di,OO.dict []),(dt,OO.dict [])])).symm
end
mutual
noncomputable def ndV:Nd→V
  | .leaf s=>.str s
  | .node xs=>.list (ndVs xs)
noncomputable def ndVs:List Nd→List V
  | []=>[]
  | x::r=>ndV x::ndVs r
end
theorem ndVs_map (xs:List Nd):ndVs xs=xs.map ndV:=by
  induction xs with
  | nil=>
    rw [ndVs];rfl
  | cons x r ih=>
    rw [ndVs,ih];rfl
mutual
noncomputable def dp:Nd→Nat
  | .leaf _=>0
  | .node xs=>dps xs+1
noncomputable def dps:List Nd→Nat
  | []=>0
  | x::r=>max (dp x) (dps r)
end
theorem dps_mem {xs:List Nd} {x:Nd} (h:x∈xs):dp x≤dps xs:=by
  induction xs with
  | nil=>cases h
  | cons y r ih=>
    rw [dps]
    rcases List.mem_cons.mp h with rfl | h
    · exact Nat.le_max_left _ _
    · exact Nat.le_trans (ih h) (Nat.le_max_right _ _)
section
variable {c:Cx} {n:Nat} {own A B:Own} {Q:PQ} {X:PX}
theorem draw_c (P:Prog c) {p:Addr} {z m:Int} (h0:0 < m) (h1:m≤1000) (hq:∀d z',0≤d→d < m→Q (.int d) (A++(p,.list [.int z'])::B)):SemCall c (n+1) (.ref 701) [.own p,.int m] (A++(p,.list [.int z])::B) Q X:=by
  refine (P.law_draw rfl fun as zz=>?_).call
  have hm:∀w:Int,(p,OO.list [.int w])∈A++(p,OO.list [.int w])::B:=fun w=>List.mem_append_right _ (.head _)
  refine .inr ⟨_,hm z,by decide,by decide,_,rfl,by omega,?_⟩
  refine .inr ⟨_,hm z,by decide,by decide,_,rfl,by omega,by omega,?_⟩
  refine ⟨[V.int z],_,by decide,by decide,(show (0:Int) < 1 by decide),.app A .here,?_⟩
  exact end_ (hq _ _ (Int.fmod_nonneg_of_pos _ h0) (Int.fmod_lt_of_pos _ h0)) rfl
theorem bad_c (P:Prog c) {w:List Nat} (hl:w.length≤50000) (hq:Q (.tup [.int 1,.str (badMsg w),.tup badEc]) own):SemCall c (n+1) (.ref 741) [.str w] own Q X:=by
  refine (P.law_bad rfl fun as zz=>?_).call
  exact ⟨lim_ (lw (Nat.add_le_add (Nat.le_refl _) hl) rfl),lim_ (lw (Nat.add_le_add (la (Nat.le_refl _) hl) (Nat.le_refl _)) rfl),end_ hq rfl⟩
theorem any_strs (t:List Nat) (l:List (List Nat)):(l.map V.str).any (V.isStr t)=decide (t∈l):=by
  induction l with
  | nil=>
    exact rfl
  | cons k l ih=>
    rw [List.map_cons,List.any_cons,ih]
    show ((t == k) || decide (t∈l))=_
    by_cases h:t=k<;>simp [h]
theorem dget_map {α:Type} (g:α→V) (k:List Nat) (l:List (List Nat×α)):dget (l.map fun p=>(p.1,g p.2)) k=(l.lookup k).map g:=by
  induction l with
  | nil=>
    exact rfl
  | cons pp r ih=>
    obtain ⟨a,b⟩:=pp
    rw [List.map_cons,dget_cons,List.lookup_cons]
    by_cases h:a=k
    · subst h;rw [if_pos rfl,beq_self_eq_true];rfl
    · rw [if_neg h,beq_eq_false_iff_ne.mpr (Ne.symm h)];exact ih
theorem leaf_c (P:Prog c) {s:List Nat} {b:Bool} (hq:Q (.str (leafW b s)) own):SemCall c (n+1) (.ref 720) [.str s,.bool b] own Q X:=by
  refine (P.law_written rfl fun as zz=>?_).call
  unfold leafW at hq
  refine ⟨rfl,ifD (fun h=>?_) fun h=>?_⟩
  · rw [if_pos h] at hq
    cases b
    · exact end_ hq rfl
    · exact end_ hq rfl
  · rw [if_neg h] at hq
    refine ⟨by decide,le_ rfl,_,rfl,?_⟩
    show ifB (dget (forms.map fun p=>(p.1,V.str p.2)) s).isSome _ _
    rw [dget_map]
    cases hl:forms.lookup s with
    | none=>rw [hl] at hq;exact end_ hq rfl
    | some w=>
      rw [hl] at hq
      refine ⟨.str w,?_,end_ hq rfl⟩
      show dget (forms.map fun p=>(p.1,V.str p.2)) s=_
      rw [dget_map,hl];rfl
theorem writ_comp {P:Nat→Prop} {xs:List Nd} {ca:Addr} {K:List V→Own→Prop} (d:Nat) (hw:∀x∈xs,∀(b:Bool) {own:Own} {Q:PQ} {X:PX},Q (.str (nwrit b x)) own→SemCall c n (.ref 720) [ndV x,.bool b] own Q X) (hl:xs.length≤1000) (todo:List Nd):∀(done:List Nd) (acc:List V) {own:Own},xs=done++todo→K (acc++(nwrits done.isEmpty todo).map .str) ((ca,.cell (some (.list (ndVs xs))))::own)→
    compGo (fun it own K=>wpAnd c n tabT [] ⟨some it::[some (.cell ca)],own⟩ (fun b st2=>ifB b (wpE c n tabT (.call (.glob (.ref 720)) [(.idx (.loc 1) (.loc 0)),(.cmp .Eq (.loc 0) (.int 0))]) st2 (fun y st3=>K (some y) st3.own) NoX) (K none st2.own)) NoX) ((List.range' done.length todo.length).map fun (k:Nat)=>V.int k) acc ((ca,.cell (some (.list (ndVs xs))))::own) K:=by
  induction todo with
  | nil=>
    intro done acc own e hk
    rw [nwrits,List.map_nil,List.append_nil] at hk
    exact hk
  | cons x r ih=>
    intro done acc own e hk
    have hlen:xs.length=done.length+(r.length+1):=by rw [e];simp
    have hat:(ndVs xs)[((done.length:Nat):Int).toNat]?=some (ndV x):=by rw [ndVs_map,e];simp
    have hb:decide (((done.length:Nat):Int)=0)=done.isEmpty:=by cases done<;>simp<;>omega
    refine ⟨720,rfl,rfl,_,.head _,by omega,by omega,_,hat,?_⟩
    show SemCall c n (.ref 720) [ndV x,.bool (decide (((done.length:Nat):Int)=0))] _ _ _
    rw [hb]
    refine hw x (by rw [e];simp) _ ?_
    have:=ih (done++[x]) (acc++[.str (nwrit done.isEmpty x)]) (own:=own) (by rw [e];simp) (by
      rw [nwrits] at hk
      have he:(done++[x]).isEmpty=false:=by simp
      rw [he]
      simpa using hk)
    rw [List.length_append,List.length_singleton] at this
    exact this
structure TW (c:Cx) (n d:Nat):Prop where
  text:∀nd,Good nd→sz nd≤20000→dp nd≤d→∀{own:Own} {Q:PQ} {X:PX},Q (.str (ntext nd)) own→SemCall c (n+2 * d+2) (.ref 713) [ndV nd] own Q X
  writ:∀nd,Good nd→sz nd≤20000→dp nd≤d→∀(b:Bool) {own:Own} {Q:PQ} {X:PX},Q (.str (nwrit b nd)) own→SemCall c (n+2 * d+3) (.ref 720) [ndV nd,.bool b] own Q X
theorem text_leaf (P:Prog c) {s:List Nat} (hq:Q (.str s) own):SemCall c (n+1) (.ref 713) [.str s] own Q X:=by
  refine (P.law_text rfl fun as has=>?_).call
  obtain ⟨ca,rfl⟩:=List.length_eq_one_iff.mp has
  exact ⟨_,.head _,rfl,_,.head _,.mk (List.sublist_cons_self _ _) hq⟩
theorem text_node (P:Prog c) {xs:List Nd} (hg:∀x∈xs,Good x) (hs:szs xs≤20000) (hw:∀x∈xs,∀(b:Bool) {own:Own} {Q:PQ} {X:PX},Q (.str (nwrit b x)) own→SemCall c n (.ref 720) [ndV x,.bool b] own Q X) (hq:Q (.str (spc (nwrits true xs))) own):SemCall c (n+1) (.ref 713) [.list (ndVs xs)] own Q X:=by
  refine (P.law_text rfl fun as has=>?_).call
  obtain ⟨ca,rfl⟩:=List.length_eq_one_iff.mp has
  have hl:=szs_len xs
  have hvl:(ndVs xs).length=xs.length:=by rw [ndVs_map,List.length_map]
  have hlen:=szs_text hg true
  refine ⟨_,.head _,rfl,_,.head _,_,.frz,lim_ (by omega),by omega,by omega,_,rfl,by simp;exact lim_ (by omega),?_⟩
  have hr:((List.range ((((ndVs xs).length:Nat):Int)).toNat).map fun (k:Nat)=>V.int k)=(List.range' ([]:List Nd).length xs.length).map fun (k:Nat)=>V.int k:=by
    rw [hvl];show (List.range xs.length).map _=_
    rw [List.range_eq_range'];rfl
  rw [hr]
  refine writ_comp (P:=fun zz=>True) 0 hw (by omega) xs [] [] rfl ?_
  exact ⟨_,_,.frz,joinS_spc (nwrits true xs),lim_ (by show _+1≤_;omega),.mk (List.sublist_cons_self _ _) hq⟩
theorem text_written (P:Prog c) (d:Nat):TW c n d:=by
  induction d with
  | zero=>
    refine ⟨fun nd hg hs hd own Q X hq=>?_,fun nd hg hs hd b own Q X hq=>?_⟩
    · induction nd using Nd.casesOn with
      | leaf s=>rw [ndV];rw [ntext] at hq;exact text_leaf P hq
      | node xs=>rw [dp] at hd;omega
    · induction nd using Nd.casesOn with
      | leaf s=>rw [ndV];rw [nwrit] at hq;exact leaf_c P hq
      | node xs=>rw [dp] at hd;omega
  | succ d IH=>
    have ht:∀nd,Good nd→sz nd≤20000→dp nd≤d+1→∀{own:Own} {Q:PQ} {X:PX},Q (.str (ntext nd)) own→SemCall c (n+2 * (d+1)+2) (.ref 713) [ndV nd] own Q X:=by
      intro nd hg hs hd own Q X hq
      induction nd using Nd.casesOn with
      | leaf s=>rw [ndV];rw [ntext] at hq;exact text_leaf P hq
      | node xs=>
        rw [dp] at hd
        rw [sz] at hs
        rw [ndV]
        rw [ntext] at hq
        have hgx:∀x∈xs,Good x:=by cases hg;assumption
        exact text_node P hgx (by omega) (fun x hx b own Q X h=>IH.writ x (hgx x hx) (by have:=szs_mem hx;omega) (by have:=dps_mem hx;omega) b h) hq
    refine ⟨ht,fun nd hg hs hd b own Q X hq=>?_⟩
    induction nd using Nd.casesOn with
    | leaf s=>rw [ndV];rw [nwrit] at hq;exact leaf_c P hq
    | node xs=>
      rw [nwrit] at hq
      have h:=fun own Q X=>@ht (.node xs) hg hs hd own Q X
      have hlen:=sz_text hg
      rw [ndV]
      rw [ndV] at h
      rw [ntext] at h hlen
      generalize spc (nwrits true xs)=t at h hlen hq
      refine (P.law_written rfl fun as zz=>?_).call
      refine ⟨rfl,713,rfl,rfl,h _ _ _ ⟨rfl,?_⟩⟩
      show ifB (([[97],[98],[99]].map V.str).any (V.isStr t)) _ _
      rw [any_strs]
      unfold brW at hq
      refine ifD (fun hm=>?_) fun hm=>?_
      · rw [if_pos hm] at hq;exact end_ hq rfl
      · rw [if_neg hm] at hq
        exact ⟨lim_ (by simp;omega),lim_ (by simp;omega),end_ hq rfl⟩
end
noncomputable def faultV:Fault→V
  | none=>.tup []
  | some p=>.tup [.int 1,.str p.1,.tup p.2]
noncomputable def rawF:List (List Nat×(List Nat×List Nat)):=[([123],(braceMsg,[66,82,65,67,69])),([34,113],(quoteMsg,[81,85,79,84,69])),([123,97,125,98],(junkMsg bracesW [98],[74,85,78,75]))]
theorem rawF_eq (s:List Nat):faults.lookup s=(rawF.lookup s).map fun p=>(p.1,tclL p.2):=by
  unfold faults rawF
  simp only [List.lookup_cons,List.lookup_nil]
  cases s == [123]<;>cases s == [34,113]<;>cases s == [123,97,125,98]<;>rfl
theorem litems_leaf (s:List Nat):litems (.leaf s)=match (rawF.lookup s).map fun p=>(p.1,tclL p.2) with
  | some f=>([],some f)
  | none=>((known.lookup s).getD [.leaf s],none):=by rw [← rawF_eq];rfl
section
variable {c:Cx} {n:Nat} {own A B:Own} {Q:PQ} {X:PX}
theorem items_leaf (P:Prog c) {s:List Nat} (hq:Q (.tup [.list (ndVs (litems (.leaf s)).1),faultV (litems (.leaf s)).2]) own):SemCall c (n+1) (.ref 734) [.str s] own Q X:=by
  refine (P.law_items rfl fun as zz=>?_).call
  rw [litems_leaf] at hq
  refine ⟨rfl,by decide,le_ rfl,_,rfl,?_⟩
  have hd:∀k,dget (rawF.map fun p=>(p.1,V.tup [.str p.2.1,.str p.2.2])) k=(rawF.lookup k).map fun p=>V.tup [.str p.1,.str p.2]:=fun k=>dget_map (fun p:List Nat×List Nat=>V.tup [.str p.1,.str p.2]) k rawF
  show ifB (dget (rawF.map fun p=>(p.1,V.tup [.str p.2.1,.str p.2.2])) s).isSome _ _
  rw [hd]
  cases hl:rawF.lookup s with
  | some p=>
    rw [hl] at hq
    have hg:dget (rawF.map fun p=>(p.1,V.tup [.str p.2.1,.str p.2.2])) s=some (.tup [.str p.1,.str p.2]):=by rw [hd,hl];rfl
    exact ⟨_,hg,by decide,by decide,_,rfl,_,hg,by decide,by decide,_,rfl,end_ hq rfl⟩
  | none=>
    rw [hl] at hq
    refine ⟨by decide,le_ rfl,_,rfl,?_⟩
    have hk:∀k,dget (known.map fun p=>(p.1,V.list (ndVs p.2))) k=(known.lookup k).map fun p=>V.list (ndVs p):=fun k=>dget_map (fun p:List Nd=>V.list (ndVs p)) k known
    have e:known.map (fun p=>(p.1,V.list (ndVs p.2)))=[([],V.list []),([98,32,99],.list [.str [98],.str [99]]),([32,98,32,32,99],.list [.str [98],.str [99]]),([123,98,32,99,125,32,97],.list [.str [98,32,99],.str [97]])]:=by
      unfold known;simp [ndVs,ndV]
    rw [e] at hk
    show ifB (dget [([],V.list []),([98,32,99],.list [.str [98],.str [99]]),([32,98,32,32,99],.list [.str [98],.str [99]]),([123,98,32,99,125,32,97],.list [.str [98,32,99],.str [97]])] s).isSome _ _
    rw [hk]
    cases hl2:known.lookup s with
    | some xs=>
      rw [hl2] at hq
      exact ⟨_,(hk s).trans (by rw [hl2];rfl),end_ hq rfl⟩
    | none=>
      rw [hl2] at hq
      refine (end_ hq ?_)
      show V.tup [.list (ndVs [.leaf s]),.tup []]=.tup [.list [.str s],.tup []]
      rw [ndVs,ndVs,ndV]
theorem items_c (P:Prog c) {x:Nd} (hq:Q (.tup [.list (ndVs (litems x).1),faultV (litems x).2]) own):SemCall c (n+1) (.ref 734) [ndV x] own Q X:=by
  induction x using Nd.casesOn with
  | leaf s=>rw [ndV];exact items_leaf P hq
  | node xs=>
    rw [ndV]
    refine (P.law_items rfl fun as zz=>?_).call
    exact ⟨rfl,end_ hq rfl⟩
end
inductive Sh (x:V) (k:Nat):Prop
  | mk {d:PyData}:V.pd x=some d→d.canLay0=true→d.depth≤k→Sh x k
inductive Shs (xs:List V) (k:Nat):Prop
  | mk {ds:List PyData}:V.pds xs=some ds→PyData.canLayAll0 ds=true→PyData.depthAll ds≤k→Shs xs k
theorem pd_list (xs:List V):V.pd (.list xs)=(V.pds xs).map .list:=rfl
theorem pd_tup (xs:List V):V.pd (.tup xs)=(V.pds xs).map .tuple:=rfl
theorem pds_cons (x:V) (r:List V):V.pds (x::r)=(V.pd x).bind fun d=>(V.pds r).map (d::·):=rfl
theorem Sh.up {x:V} {k m:Nat} (h:Sh x k) (e:k≤m):Sh x m:=match h with | .mk a b d=>.mk a b (Nat.le_trans d e)
theorem Shs.nil {k:Nat}:Shs [] k:=.mk rfl rfl (Nat.zero_le _)
theorem Shs.cons {x:V} {xs:List V} {k:Nat} (h:Sh x k) (h2:Shs xs k):Shs (x::xs) k:=by
  cases h with | @mk e a b d=>
  cases h2 with | @mk es a2 b2 d2=>
  refine .mk (ds:=e::es) ?_ ?_ ?_
  · rw [pds_cons,a,a2];rfl
  · rw [PyData.canLayAll0,b,b2];rfl
  · rw [PyData.depthAll];exact Nat.max_le.mpr ⟨d,d2⟩
theorem Shs.of {xs:List V} {k:Nat} (h:∀x∈xs,Sh x k):Shs xs k:=by
  induction xs with
  | nil=>exact .nil
  | cons x r ih=>exact .cons (h x (.head _)) (ih fun y hy=>h y (.tail _ hy))
theorem Shs.list {xs:List V} {k:Nat} (h:Shs xs k):Sh (.list xs) (k+1):=by
  cases h with | @mk e a b d=>
  refine .mk (d:=.list e) ?_ ?_ ?_
  · rw [pd_list,a];rfl
  · rw [PyData.canLay0];exact b
  · rw [PyData.depth];omega
theorem Shs.tup {xs:List V} {k:Nat} (h:Shs xs k):Sh (.tup xs) (k+1):=by
  cases h with | @mk e a b d=>
  refine .mk (d:=.tuple e) ?_ ?_ ?_
  · rw [pd_tup,a];rfl
  · rw [PyData.canLay0];exact b
  · rw [PyData.depth];omega
theorem Sh.non {k:Nat}:Sh .non k:=.mk rfl rfl (Nat.zero_le _)
theorem Sh.int {i:Int} {k:Nat}:Sh (.int i) k:=.mk rfl rfl (Nat.zero_le _)
theorem Sh.bool {b:Bool} {k:Nat}:Sh (.bool b) k:=.mk rfl rfl (Nat.zero_le _)
theorem shaped_of {d:PyData} (h:d.canLay0=true) (hd:d.depth≤64):SeqAt.shaped d=true:=by
  unfold SeqAt.shaped;rw [h,decide_eq_true hd];rfl
theorem eqAsk_refl {x:V} {K:Bool→Prop} (h:Sh x 60) (hk:K true):eqAsk x x K:=by
  obtain ⟨a,b,d⟩:=h
  have hs:=shaped_of b (Nat.le_trans d (by decide))
  exact ⟨_,_,a,a,hs,hs,by rw [SeqAt.eqv_refl _ b];exact hk⟩
theorem pds_nil {xs:List V} {ds:List PyData} (h:V.pds xs=some ds):ds.isEmpty=xs.isEmpty:=by
  induction xs using List.casesOn with
  | nil=>obtain rfl:=Option.some.inj h;rfl
  | cons x r=>
    rw [pds_cons] at h
    obtain ⟨_,_,h⟩:=bind_some h
    obtain ⟨_,_,rfl⟩:=map_some h
    rfl
theorem eqvAll_nil (ds:List PyData):PyData.eqvAll ds []=ds.isEmpty:=by cases ds<;>rfl
theorem eqAsk_list0 {xs:List V} {K:Bool→Prop} (h:Shs xs 60) (hk:K xs.isEmpty):eqAsk (.list xs) (.list []) K:=by
  obtain ⟨a,b,d⟩:=h
  obtain ⟨e,h1,h2⟩:=(Shs.mk a b d).list
  refine ⟨_,.list [],e,rfl,shaped_of h1 (by omega),rfl,?_⟩
  rw [pd_list,a] at e
  obtain rfl:=Option.some.inj e
  show K (PyData.eqvAll _ [])
  rw [eqvAll_nil,pds_nil a];exact hk
theorem eqAsk_tup0 {xs:List V} {K:Bool→Prop} (h:Shs xs 60) (hk:K xs.isEmpty):eqAsk (.tup xs) (.tup []) K:=by
  obtain ⟨a,b,d⟩:=h
  obtain ⟨e,h1,h2⟩:=(Shs.mk a b d).tup
  refine ⟨_,.tuple [],e,rfl,shaped_of h1 (by omega),rfl,?_⟩
  rw [pd_tup,a] at e
  obtain rfl:=Option.some.inj e
  show K (PyData.eqvAll _ [])
  rw [eqvAll_nil,pds_nil a];exact hk
theorem Sh.str {s:List Nat} {k:Nat} (h:∀x∈s,x < 1114112):Sh (.str s) k:=by
  refine .mk (d:=.str (toStr s)) rfl ?_ (Nat.zero_le _)
  show (toStr s).cps.all (· < 0x110000)=true
  simp only [toStr,Array.all_eq_true',List.mem_toArray,decide_eq_true_eq]
  exact h
theorem leaf_small:∀s∈leaves,∀x∈s,x < 1114112:=by decide +kernel
theorem Good.sh {x:Nd} (h:Good x):∀d,dp x≤d→Sh (ndV x) d:=by
  induction h with
  | leaf h=>intro d _;rw [ndV];exact .str (leaf_small _ h)
  | @node xs _ ih=>
    intro d hd
    rw [dp] at hd
    cases d with
    | zero=>omega
    | succ d=>
      rw [ndV]
      refine (Shs.of fun v hv=>?_).list
      rw [ndVs_map] at hv
      obtain ⟨x,hx,rfl⟩:=List.mem_map.mp hv
      exact ih x hx d (by have:=dps_mem hx;omega)
noncomputable def ixV (i:Ix):V:=.tup [.str i.w,.bool i.e,optI i.num]
noncomputable def lput:Nd→List Ix→List Nd→Nd×Fault
  | _,[],more=>(more.headD (.leaf []),none)
  | x,i::r,more=>match (litems x).2 with
    | some f=>(x,some f)
    | none=>match i.num with
      | none=>(x,i.bad)
      | some k=>if atI ((litems x).1.length - 1) (i.e,k) < 0∨((litems x).1.length:Int) - (if more.isEmpty then 1 else 0) < atI ((litems x).1.length - 1) (i.e,k) then (x,some (rangeMsg i.w,rangeEc))
        else if r.isEmpty then (.node ((litems x).1.take (atI ((litems x).1.length - 1) (i.e,k)).toNat++more++(litems x).1.drop ((atI ((litems x).1.length - 1) (i.e,k)).toNat+1)),none)
        else (.node ((litems x).1.take (atI ((litems x).1.length - 1) (i.e,k)).toNat++[(lput (((litems x).1[(atI ((litems x).1.length - 1) (i.e,k)).toNat]?).getD (.leaf [])) r more).1]++(litems x).1.drop ((atI ((litems x).1.length - 1) (i.e,k)).toNat+1)),
          (lput (((litems x).1[(atI ((litems x).1.length - 1) (i.e,k)).toNat]?).getD (.leaf [])) r more).2)
theorem lput_cons (x:Nd) (i:Ix) (r:List Ix) (more:List Nd):lput x (i::r) more=match (litems x).2 with
    | some f=>(x,some f)
    | none=>match i.num with
      | none=>(x,i.bad)
      | some k=>if atI ((litems x).1.length - 1) (i.e,k) < 0∨((litems x).1.length:Int) - (if more.isEmpty then 1 else 0) < atI ((litems x).1.length - 1) (i.e,k) then (x,some (rangeMsg i.w,rangeEc))
        else if r.isEmpty then (.node ((litems x).1.take (atI ((litems x).1.length - 1) (i.e,k)).toNat++more++(litems x).1.drop ((atI ((litems x).1.length - 1) (i.e,k)).toNat+1)),none)
        else (.node ((litems x).1.take (atI ((litems x).1.length - 1) (i.e,k)).toNat++[(lput (((litems x).1[(atI ((litems x).1.length - 1) (i.e,k)).toNat]?).getD (.leaf [])) r more).1]++(litems x).1.drop ((atI ((litems x).1.length - 1) (i.e,k)).toNat+1)),
          (lput (((litems x).1[(atI ((litems x).1.length - 1) (i.e,k)).toNat]?).getD (.leaf [])) r more).2):=rfl
theorem lput_lvs (m:Option Nd) (ixs:List Ix):∀(x:Nd),(ixs≠[]∨m.isSome=true)→(lput x ixs m.toList).2=(lvs m.isSome x ixs).2∧((lvs m.isSome x ixs).2=none→rbl (lvs m.isSome x ixs).1 m=some (lput x ixs m.toList).1):=by
  induction ixs with
  | nil=>
    intro x h
    induction m using Option.casesOn with
    | none=>exact absurd (h.elim (fun q=>absurd rfl q) id) (by decide)
    | some z=>exact ⟨rfl,fun zz=>rfl⟩
  | cons i r ih=>
    intro x h
    have hg:(if m.toList.isEmpty then (1:Int) else 0)=if m.isSome then 0 else 1:=by cases m<;>rfl
    rw [lput_cons,lvs_cons]
    cases (litems x).2 with
    | some f=>exact ⟨rfl,fun q=>nomatch q⟩
    | none=>
      cases i.num with
      | none=>exact ⟨rfl,fun q=>nomatch q⟩
      | some k=>
        dsimp only
        rw [hg]
        generalize atI ((litems x).1.length - 1) (i.e,k)=p
        by_cases hc:p < 0∨((litems x).1.length:Int) - (if m.isSome then 0 else 1) < p
        · rw [if_pos hc,if_pos hc];exact ⟨rfl,fun q=>nomatch q⟩
        · rw [if_neg hc,if_neg hc]
          induction r using List.casesOn with
          | nil=>
            rw [if_pos (show ([]:List Ix).isEmpty=true from rfl)]
            exact ⟨rfl,fun zz=>rfl⟩
          | cons j r=>
            rw [if_neg (show ¬ (j::r).isEmpty=true from Bool.false_ne_true)]
            obtain ⟨h1,h2⟩:=ih (((litems x).1[p.toNat]?).getD (.leaf [])) (.inl (by simp))
            refine ⟨h1,fun q=>?_⟩
            rw [rbl_cons,h2 q];rfl
theorem getL_nd {st:St} {i:Nat} {x:Nd} {K:V→Prop} (h:st.loc[i]?=some (some (ndV x))) (k:K (ndV x)):getL st i K:=by
  unfold getL
  rw [h]
  induction x using Nd.casesOn with
  | leaf s=>rw [ndV] at k ⊢;exact k
  | node xs=>rw [ndV] at k ⊢;exact k
structure IxS (i:Ix):Prop where
  len:i.w.length≤2000
  small:∀x∈i.w,x < 1114112
theorem IxS.sh {i:Ix} (h:IxS i):Sh (ixV i) 1:=by
  refine (Shs.cons (.str h.small) (.cons .bool (.cons ?_ .nil))).tup
  cases i.num with
  | none=>exact .non
  | some k=>exact .int
theorem ixs_sh {l:List Ix} (h:∀i∈l,IxS i):Shs (l.map ixV) 60:=.of fun v hv=>by
  obtain ⟨i,hi,rfl⟩:=List.mem_map.mp hv
  exact (h i hi).sh.up (by decide)
theorem nds_sh {l:List Nd} (h:∀x∈l,Good x) (hd:dps l≤60):Shs (ndVs l) 60:=.of fun v hv=>by
  rw [ndVs_map] at hv
  obtain ⟨x,hx,rfl⟩:=List.mem_map.mp hv
  exact (h x hx).sh 60 (Nat.le_trans (dps_mem hx) hd)
theorem ndVs_len (l:List Nd):(ndVs l).length=l.length:=by rw [ndVs_map,List.length_map]
theorem ndVs_empty (l:List Nd):(ndVs l).isEmpty=l.isEmpty:=by cases l<;>rw [ndVs]<;>rfl
structure Put (more:List Nd):Prop where
  good:∀x∈more,Good x
  dp:dps more≤60
  len:more.length≤1000
theorem fault_sh {x:Nd} {f:List Nat×List V} (hg:Good x) (h:(litems x).2=some f):Shs [.int 1,.str f.1,.tup f.2] 60:=by
  cases hg with
  | node=>cases h
  | @leaf s hs=>
    have key:∀s∈leaves,∀p,rawF.lookup s=some p→(∀x∈p.1,x < 1114112)∧∀x∈p.2,x < 1114112:=by
      intro s hs p hp
      unfold rawF at hp
      simp only [List.lookup_cons,List.lookup_nil] at hp
      split at hp
      · cases hp;exact ⟨by decide,by decide⟩
      · split at hp
        · cases hp;exact ⟨by decide,by decide⟩
        · split at hp
          · cases hp;exact ⟨by decide +kernel,by decide⟩
          · cases hp
    rw [litems_leaf] at h
    cases hl:rawF.lookup s with
    | none=>rw [hl] at h;cases h
    | some p=>
      rw [hl] at h
      obtain ⟨k1,k2⟩:=key s hs p hl
      cases h
      have tc:∀x∈[84,67,76],x < 1114112:=by decide
      have va:∀x∈[86,65,76,85,69],x < 1114112:=by decide
      have li:∀x∈[76,73,83,84],x < 1114112:=by decide
      exact .cons .int (.cons (.str k1) (.cons ((Shs.cons (.str tc) (.cons (.str va) (.cons (.str li) (.cons (.str k2) .nil)))).tup.up (by decide:58+1≤60)) .nil))
theorem bad_sh {i:Ix} (h:IxS i):Shs [.int 1,.str (badMsg i.w),.tup badEc] 60:=by
  have k1:∀x∈badMsg i.w,x < 1114112:=by
    intro x hx
    unfold badMsg at hx
    rcases List.mem_append.mp hx with h1 | h1
    · rcases List.mem_append.mp h1 with h2 | h2
      · clear hx h1;revert x;decide
      · exact h.small x h2
    · clear hx;revert x;decide
  have tc:∀x∈[84,67,76],x < 1114112:=by decide
  have va:∀x∈[86,65,76,85,69],x < 1114112:=by decide
  have li:∀x∈[73,78,68,69,88],x < 1114112:=by decide
  exact .cons .int (.cons (.str k1) (.cons ((Shs.cons (.str tc) (.cons (.str va) (.cons (.str li) .nil))).tup.up (by decide:58+1≤60)) .nil))
section
variable {c:Cx} {n:Nat} {own A B:Own} {Q:PQ} {X:PX}
theorem put_bad {x:Nd} {f:List Nat×List V} {l1 l2 l3 l5 l6 l7 l8 l9 l10:Option V} (hsf:Shs [.int 1,.str f.1,.tup f.2] 60) (hq:Q (.tup [ndV x,faultV (some f)]) own):wpSs c n tabT (law_put_ms.drop 4) ⟨[some (ndV x),l1,l2,l3,some (faultV (some f)),l5,l6,l7,l8,l9,l10],own⟩ (EndQ Q) (EndX X):=
  (eqAsk_tup0 hsf (getL_nd (x:=x) rfl (end_ hq rfl)))
theorem put_fin {xs made:List Nd} {q:Nat} {f:Fault} {l0 l1 l2 l5 l6 l7 l10:Option V} (hx:xs.length≤50000) (hm:made.length≤1000) (hq:Q (.tup [ndV (.node (xs.take q++made++xs.drop (q+1))),faultV f]) own):wpSs c n tabT (law_put_ms.drop 9) ⟨[l0,l1,l2,some (.list (ndVs xs)),some (faultV f),l5,l6,l7,some (.int q),some (.list (ndVs made)),l10],own⟩ (EndQ Q) (EndX X):=by
  have l3:=ndVs_len xs
  have l4:=ndVs_len made
  have hv:(ndVs xs).length≤LIM:=lim_ (by omega)
  have t1:=List.length_take_le' q (ndVs xs)
  have t2:((ndVs xs).drop (q+1)).length≤(ndVs xs).length:=by rw [List.length_drop];exact Nat.sub_le _ _
  refine ⟨_,_,rfl,part_ rfl,hv,?_⟩
  rw [cut_take]
  refine ⟨lim_ (by omega),_,_,part_ (k:=q+1) rfl,rfl,hv,?_⟩
  rw [cut_drop]
  refine ⟨lim_ (by rw [List.length_append];omega),?_⟩
  have e:(ndVs xs).take q++ndVs made++(ndVs xs).drop (q+1)=ndVs (xs.take q++made++xs.drop (q+1)):=by
    rw [ndVs_map,ndVs_map,ndVs_map,List.map_append,List.map_append,List.map_take,List.map_drop]
  rw [e]
  rw [ndV] at hq
  induction f using Option.casesOn with
  | none=>exact (end_ hq rfl)
  | some f=>exact (end_ hq rfl)
theorem law_put_c (P:Prog c) {more:List Nd} (hm:Put more) (ixs:List Ix):∀(x:Nd) {own:Own} {Q:PQ} {X:PX},Good x→sz x≤50000→(∀i∈ixs,IxS i)→ixs.length≤1000→(ixs=[]→more≠[])→Q (.tup [ndV (lput x ixs more).1,faultV (lput x ixs more).2]) own→SemCall c (n+ixs.length+2) (.ref 760) [ndV x,.list (ixs.map ixV),.list (ndVs more)] own Q X:=by
  induction ixs with
  | nil=>
    intro x own Q X hg hs hi hl hne hq
    refine (P.law_put rfl fun as zz=>?_).call
    refine (eqAsk_list0 .nil ?_)
    induction more using List.casesOn with
    | nil=>exact absurd rfl (hne rfl)
    | cons z r=>
      rw [ndVs]
      exact ⟨by decide,by decide,ndV z,rfl,end_ hq rfl⟩
  | cons i r ih=>
    intro x own Q X hg hs hi hl hne hq
    refine (P.law_put rfl fun as zz=>?_).call
    refine (eqAsk_list0 (ixs_sh hi) ?_)
    refine ⟨734,rfl,rfl,getL_nd (x:=x) rfl ?_⟩
    have hin:=hi i (.head _)
    have hsz:=items_short hg hs
    have hxl:(litems x).1.length≤50000:=hsz
    have hiv:(ndVs (litems x).1).length≤LIM:=lim_ (by rw [ndVs_len];omega)
    rw [lput_cons] at hq
    refine items_c P ⟨rfl,by decide,by decide,ixV i,rfl,rfl,?_⟩
    cases hf:(litems x).2 with
    | some f=>
      rw [hf] at hq
      have hsf:=fault_sh hg hf
      exact (eqAsk_tup0 hsf (put_bad hsf hq))
    | none=>
      rw [hf] at hq
      refine (eqAsk_tup0 .nil ?_)
      cases hn:i.num with
      | none=>
        rw [hn] at hq
        have hsb:Shs [.int 1,.str (badMsg i.w),.tup badEc] 60:=bad_sh hin
        refine ⟨741,rfl,rfl,bad_c P (by have:=hin.len;omega) ?_⟩
        exact put_bad (f:=(badMsg i.w,badEc)) hsb hq
      | some k=>
        rw [hn] at hq
        dsimp only at hq
        have hml:(ndVs more).length≤LIM:=lim_ (by rw [ndVs_len];have:=hm.len;omega)
        have key:∀p:Int,p=atI ((litems x).1.length - 1) (i.e,k)→setK (.loc 8) (seqR (wpSs c (n+(i::r).length+1) tabT (law_put_ms.drop 6)) (EndQ Q) (EndX X)) (.int p) ⟨[some (ndV x),some (.list ((i::r).map ixV)),some (.list (ndVs more)),some (.list (ndVs (litems x).1)),some (.tup []),some (.str i.w),some (.bool i.e),some (.int k),none,none,none],own⟩:=fun p hp=>by
          rw [← hp] at hq
          have out:∀o9:Option V,(p < 0∨((litems x).1.length:Int) - (if more.isEmpty then 1 else 0) < p)→Q (.tup [ndV x,faultV (some (rangeMsg i.w,rangeEc))]) own:=fun zz h=>by rw [if_pos h] at hq;exact hq
          have outw:(p < 0∨((litems x).1.length:Int) - (if more.isEmpty then 1 else 0) < p)→∀R:QF,(∀v st,R (.ret v) st=EndQ Q (.ret v) st)→wpSs c (n+(i::r).length+1) tabT [.ret (.tup [.loc 0,.tup [.int 1,.bin .Add (.bin .Add (.str [105,110,100,101,120,32,34]) (.loc 5)) (.str [34,32,111,117,116,32,111,102,32,114,97,110,103,101]),.tup [.str [84,67,76],.str [86,65,76,85,69],.str [73,78,68,69,88],.str [79,85,84,79,70,82,65,78,71,69]]]])] ⟨[some (ndV x),some (.list ((i::r).map ixV)),some (.list (ndVs more)),some (.list (ndVs (litems x).1)),some (.tup []),some (.str i.w),some (.bool i.e),some (.int k),some (.int p),none,none],own⟩ R (EndX X):=fun h R hR=>by
            have hl2:=hin.len
            refine getL_nd (x:=x) rfl ⟨lim_ (lw (Nat.add_le_add (Nat.le_refl _) hl2) rfl),lim_ (lw (Nat.add_le_add (la (Nat.le_refl _) hl2) (Nat.le_refl _)) rfl),?_⟩
            show R (.ret _) _
            rw [hR]
            exact end_ (out none h) rfl
          have tail:¬ (p < 0∨((litems x).1.length:Int) - (if more.isEmpty then 1 else 0) < p)→wpSs c (n+(i::r).length+1) tabT (law_put_ms.drop 7) ⟨[some (ndV x),some (.list ((i::r).map ixV)),some (.list (ndVs more)),some (.list (ndVs (litems x).1)),some (.tup []),some (.str i.w),some (.bool i.e),some (.int k),some (.int p),none,none],own⟩ (EndQ Q) (EndX X):=fun h=>by
            rw [if_neg h] at hq
            obtain ⟨q,rfl⟩:=Int.eq_ofNat_of_zero_le (show 0≤p by omega)
            have hql:q≤(litems x).1.length:=by cases hme:more.isEmpty<;>rw [hme] at h<;>simp at h<;>omega
            rw [show ((q:Int)).toNat=q from rfl] at hq
            induction r using List.casesOn with
            | nil=>
              rw [if_pos (show ([]:List Ix).isEmpty=true from rfl)] at hq
              exact ⟨_,.frz,le_ rfl,put_fin (f:=none) hxl hm.len hq⟩
            | cons j r=>
              rw [if_neg (show ¬ (j::r).isEmpty=true from Bool.false_ne_true)] at hq
              have hil:((i::j::r).map ixV).length=r.length+2:=by simp
              have hlr:r.length+2≤1000:=by simpa using hl
              refine ⟨_,.frz,lim_ (by omega),?_⟩
              have go:∀y:Nd,Good y→sz y≤50000→(((litems x).1[q]?).getD (.leaf []))=y→SemCall c (n+(i::j::r).length+1) (.ref 760) [ndV y,.list ((j::r).map ixV),.list (ndVs more)] own (fun v o=>tup1 v fun xs=>xs.length=2∧putTs [.loc 10,.loc 4] xs ⟨[some (ndV x),some (.list ((i::j::r).map ixV)),some (.list (ndVs more)),some (.list (ndVs (litems x).1)),some (.tup []),some (.str i.w),some (.bool i.e),some (.int k),some (.int q),some (.list (ndVs more)),none],o⟩ fun st=>wpSs c (n+(i::j::r).length+1) tabT [.set (.loc 9) (.lst [.loc 10])] st (seqR (wpSs c (n+(i::j::r).length+1) tabT (law_put_ms.drop 9)) (EndQ Q) (EndX X)) (EndX X)) (fun e o=>EndX X e ⟨[some (ndV x),some (.list ((i::j::r).map ixV)),some (.list (ndVs more)),some (.list (ndVs (litems x).1)),some (.tup []),some (.str i.w),some (.bool i.e),some (.int k),some (.int q),some (.list (ndVs more)),none],o⟩):=fun y gy sy ey=>by
                rw [ey] at hq
                refine ih y gy sy (fun a ha=>hi a (.tail _ ha)) (by simp;omega) (fun h=>nomatch h) ?_
                refine ⟨rfl,getL_nd (x:=(lput y (j::r) more).1) rfl ?_⟩
                exact put_fin (made:=[(lput y (j::r) more).1]) (f:=(lput y (j::r) more).2) hxl (le_ rfl) hq
              show ifB (decide ((1:Int) < (((i::j::r).map ixV).length:Nat))) _ _
              rw [decide_eq_true (by rw [hil];omega)]
              refine ⟨760,rfl,rfl,_,.frz,hiv,?_⟩
              rw [ndVs_len]
              by_cases hlt:q < (litems x).1.length
              · have hy:(litems x).1[q]?=some (litems x).1[q]:=List.getElem?_eq_getElem hlt
                have hmem:(litems x).1[q]∈(litems x).1:=List.getElem_mem hlt
                refine ifT (by omega) ⟨by omega,by omega,ndV (litems x).1[q],?_,_,_,part_ (k:=1) rfl,rfl,lim_ (by omega),?_⟩
                · show (ndVs (litems x).1)[q]?=_
                  rw [ndVs_map,List.getElem?_map,hy];rfl
                · rw [cut_drop]
                  exact go _ (hg.items _ hmem) (Nat.le_trans (litem_sz hg hmem) hs) (by rw [hy];rfl)
              · have hnone:(litems x).1[q]?=none:=List.getElem?_eq_none (by omega)
                refine ifF (by omega) ⟨_,_,part_ (k:=1) rfl,rfl,lim_ (by omega),?_⟩
                rw [cut_drop]
                have:=go (.leaf []) leaf_nil (by decide) (by rw [hnone];rfl)
                rw [ndV] at this
                exact this
          refine ifD (fun h1=>outw (.inl h1) _ fun zz zz=>rfl) fun h1=>⟨_,.frz,hiv,eqAsk_list0 (nds_sh hm.good hm.dp) ?_⟩
          rw [ndVs_empty,ndVs_len]
          cases hme:more.isEmpty with
          | true=>
            rw [hme] at outw tail
            exact ifD (fun h2=>outw (.inr h2) _ fun zz zz=>rfl) fun h2=>tail fun q=>q.elim h1 h2
          | false=>
            rw [hme] at outw tail
            exact ifD (fun h2=>outw (.inr h2) _ fun zz zz=>rfl) fun h2=>tail fun q=>q.elim h1 h2
        refine (eqAsk_tup0 .nil ?_)
        cases he:i.e with
        | true=>
          refine ⟨_,.frz,hiv,?_⟩
          rw [ndVs_len]
          rw [he] at key
          exact key _ (by unfold atI;rw [if_pos (show (true,k).1=true from rfl)];show k+_ - 1=_ - 1+k;omega)
        | false=>
          rw [he] at key
          exact (key _ (by unfold atI;rw [if_neg (show ¬ (false,k).1=true from Bool.false_ne_true)]))
end
noncomputable def pool:List Nd:=[.leaf [97],.leaf [],.leaf [98,32,99],.leaf [32,98,32,32,99],.leaf [35],.leaf [120,93],.leaf [123],.leaf [123,97,125,98],.leaf [92],.leaf [34,113],.leaf [123,98,32,99,125,32,97],.node [.leaf [97],.node [.leaf [98],.leaf [35]]],.node [.node [.leaf [120,93],.leaf []],.leaf [123]],.node [.leaf [98]],.node [.node [],.leaf [97]],.node [.node [.leaf [35]],.leaf [92]]]
theorem leaf_good {s:List Nat} (h:s∈leaves):Good (.leaf s):=.leaf h
theorem pool_good:∀x∈pool,Good x∧dp x≤2∧sz x≤120:=by
  have n2:∀{a b:Nd},Good a→Good b→Good (.node [a,b]):=fun ha hb=>.node fun x hx=>(List.mem_cons.mp hx).elim (fun e=>e▸ha) fun hx=>List.mem_singleton.mp hx▸hb
  have n1:∀{a:Nd},Good a→Good (.node [a]):=fun ha=>.node fun x hx=>List.mem_singleton.mp hx▸ha
  have n0:Good (.node []):=.node fun x hx=>nomatch hx
  intro x hx
  simp only [pool,List.mem_cons,List.not_mem_nil,or_false] at hx
  rcases hx with rfl | rfl | rfl | rfl | rfl | rfl | rfl | rfl | rfl | rfl | rfl | rfl | rfl | rfl | rfl | rfl
  · exact ⟨(leaf_good (by decide)),by decide,by decide⟩
  · exact ⟨(leaf_good (by decide)),by decide,by decide⟩
  · exact ⟨(leaf_good (by decide)),by decide,by decide⟩
  · exact ⟨(leaf_good (by decide)),by decide,by decide⟩
  · exact ⟨(leaf_good (by decide)),by decide,by decide⟩
  · exact ⟨(leaf_good (by decide)),by decide,by decide⟩
  · exact ⟨(leaf_good (by decide)),by decide,by decide⟩
  · exact ⟨(leaf_good (by decide)),by decide,by decide⟩
  · exact ⟨(leaf_good (by decide)),by decide,by decide⟩
  · exact ⟨(leaf_good (by decide)),by decide,by decide⟩
  · exact ⟨(leaf_good (by decide)),by decide,by decide⟩
  · exact ⟨n2 (leaf_good (by decide)) (n2 (leaf_good (by decide)) (leaf_good (by decide))),by decide,by decide⟩
  · exact ⟨n2 (n2 (leaf_good (by decide)) (leaf_good (by decide))) (leaf_good (by decide)),by decide,by decide⟩
  · exact ⟨n1 (leaf_good (by decide)),by decide,by decide⟩
  · exact ⟨n2 n0 (leaf_good (by decide)),by decide,by decide⟩
  · exact ⟨n2 (n1 (leaf_good (by decide))) (leaf_good (by decide)),by decide,by decide⟩
section
variable {c:Cx} {n:Nat} {own A B:Own} {Q:PQ} {X:PX}
theorem pool_c (P:Prog c) (hq:Q (.list (ndVs pool)) own):SemCall c (n+1) (.ref 680) [] own Q X:=by
  refine (P.law_pool rfl fun as zz=>?_).call
  have e:ndVs pool=[.str [97],.str [],.str [98,32,99],.str [32,98,32,32,99],.str [35],.str [120,93],.str [123],.str [123,97,125,98],.str [92],.str [34,113],.str [123,98,32,99,125,32,97],.list [.str [97],.list [.str [98],.str [35]]],.list [.list [.str [120,93],.str []],.str [123]],.list [.str [98]],.list [.list [],.str [97]],.list [.list [.str [35]],.str [92]]]:=by
    simp [pool,ndVs,ndV]
  rw [e] at hq
  exact (end_ hq rfl)
end
section
variable {c:Cx} {n:Nat} {own A B:Own} {Q:PQ} {X:PX}
theorem nodes_comp (P:Prog c) {a0 a1 a2 p:Addr} {ts:List Int} {K:List V→Own→Prop} {N:Nat} (hl:ts.length≤100) (hN:N≤100) (hK:∀xs z',xs.length=N→(∀x∈xs,x∈pool)→K (ndVs xs) ((a0,.cell (some (.list (ts.map .int))))::(a1,.cell (some (.own p)))::(a2,.cell (some (.list (ndVs pool))))::(A++(p,.list [.int z'])::B))) (m:Nat):∀(k:Nat) (acc:List Nd) (z:Int),(∀x∈acc,x∈pool)→acc.length=k→k+m=N→
    compGo (fun it own K=>wpAnd c (n+1) tabT [] ⟨some it::[some (.cell a0),some (.cell a1),some (.cell a2)],own⟩ (fun b st2=>ifB b (wpE c (n+1) tabT (.idx (.loc 3) (.bin .Mod (.bin .Add (.ite (.cmp .Lt (.loc 0) (.bcall .len [(.loc 1)])) (.idx (.loc 1) (.loc 0)) (.int 0)) (.call (.glob (.ref 701)) [(.loc 2),(.int 16)])) (.int 16))) st2 (fun y st3=>K (some y) st3.own) NoX) (K none st2.own)) NoX) ((List.range' k m).map fun (k:Nat)=>V.int k) (ndVs acc) ((a0,.cell (some (.list (ts.map .int))))::(a1,.cell (some (.own p)))::(a2,.cell (some (.list (ndVs pool))))::(A++(p,.list [.int z])::B)) K:=by
  induction m with
  | zero=>
    intro k acc z ha hc hk
    exact hK acc z (by omega) ha
  | succ m ih=>
    intro k acc z ha hc hk
    have tail:∀t:Int,SemCall c (n+1) (.ref 701) [.own p,.int 16] ((a0,.cell (some (.list (ts.map .int))))::(a1,.cell (some (.own p)))::(a2,.cell (some (.list (ndVs pool))))::(A++(p,.list [.int z])::B)) (fun y o=>opAdd (.int t) y fun z2=>opBin .Mod z2 (.int 16) fun i=>opIdx o (.list (ndVs pool)) i fun v=>compGo (fun it own K=>wpAnd c (n+1) tabT [] ⟨some it::[some (.cell a0),some (.cell a1),some (.cell a2)],own⟩ (fun b st2=>ifB b (wpE c (n+1) tabT (.idx (.loc 3) (.bin .Mod (.bin .Add (.ite (.cmp .Lt (.loc 0) (.bcall .len [(.loc 1)])) (.idx (.loc 1) (.loc 0)) (.int 0)) (.call (.glob (.ref 701)) [(.loc 2),(.int 16)])) (.int 16))) st2 (fun y st3=>K (some y) st3.own) NoX) (K none st2.own)) NoX) ((List.range' (k+1) m).map fun (k:Nat)=>V.int k) (ndVs acc++[v]) o K) (fun zz zz=>False):=fun t=>by
      refine draw_c (A:=(a0,.cell (some (.list (ts.map .int))))::(a1,.cell (some (.own p)))::(a2,.cell (some (.list (ndVs pool))))::A) P (by decide) (by decide) fun d z' h1 h2=>?_
      have hm:=Int.fmod_nonneg_of_pos (t+d) (show (0:Int) < 16 by decide)
      have hm2:=Int.fmod_lt_of_pos (t+d) (show (0:Int) < 16 by decide)
      have hlp:pool.length=16:=rfl
      obtain ⟨q,hq⟩:=Int.eq_ofNat_of_zero_le hm
      have hq16:q < pool.length:=by rw [hlp];omega
      refine ⟨by decide,by omega,by omega,ndV pool[q],?_,?_⟩
      · rw [hq]
        show (ndVs pool)[q]?=_
        rw [ndVs_map,List.getElem?_map,List.getElem?_eq_getElem hq16];rfl
      · have e:ndVs acc++[ndV pool[q]]=ndVs (acc++[pool[q]]):=by simp [ndVs_map]
        show compGo _ _ (ndVs acc++[ndV pool[q]]) _ _
        rw [e]
        exact ih (k+1) (acc++[pool[q]]) z' (fun x hx=>(List.mem_append.mp hx).elim (ha x) fun hx=>by rw [List.mem_singleton.mp hx];exact List.getElem_mem hq16) (by simp [hc]) (by omega)
    refine ⟨_,.tail _ (.tail _ (.head _)),_,.head _,_,.frz,lim_ (by simp;omega),?_⟩
    by_cases hk:(k:Int) < ((ts.map V.int).length:Nat)
    · have hk2:k < ts.length:=by simpa using hk
      refine ifT hk ⟨_,.head _,by omega,by omega,.int ts[k],?_,701,rfl,rfl,_,.tail _ (.head _),tail _⟩
      show (ts.map V.int)[k]?=_
      rw [List.getElem?_map,List.getElem?_eq_getElem hk2];rfl
    · exact ifF hk ⟨701,rfl,rfl,_,.tail _ (.head _),tail 0⟩
theorem nodes_c (P:Prog c) {p:Addr} {z:Int} {ts:List Int} {size:Nat} (hl:ts.length≤100) (hs:size≤100) (hq:∀xs z',xs.length=size→(∀x∈xs,x∈pool)→Q (.list (ndVs xs)) (A++(p,.list [.int z'])::B)):SemCall c (n+2) (.ref 782) [.list (ts.map .int),.int size,.own p] (A++(p,.list [.int z])::B) Q X:=by
  refine (P.law_nodes rfl fun as has=>?_).call
  obtain ⟨a0,a1,a2,rfl⟩:∃a0 a1 a2,as=[a0,a1,a2]:=by
    rcases as with _ | ⟨a0,_ | ⟨a1,_ | ⟨a2,_ | ⟨_,_⟩⟩⟩⟩<;>first | exact ⟨_,_,_,rfl⟩ | cases has
  refine ⟨680,rfl,rfl,pool_c P ⟨a2,none,_,rfl,.there (.there .here),?_⟩⟩
  refine ⟨by omega,by omega,_,rfl,by simp;exact lim_ (by omega),?_⟩
  have:=nodes_comp (n:=n) (N:=size) (A:=A) (B:=B) (a0:=a0) (a1:=a1) (a2:=a2) (p:=p) (ts:=ts) (K:=fun ys o=>EndQ Q (.ret (.list ys)) ⟨[some (.cell a0),some (.int size),some (.cell a1),some (.cell a2)],o⟩) P hl hs (fun xs z' h1 h2=>.mk (List.sublist_append_right [_,_,_] _) (hq xs z' h1 h2)) size 0 [] z (fun x h=>nomatch h) rfl (by omega)
  rw [ndVs,← List.range_eq_range'] at this
  exact this
end
noncomputable def oddT:List (List Nat×List Nat):=[([97],[123,97,125]),([],[34,34]),([98,32,99],[34,98,32,99,34]),([32,98,32,32,99],[92,32,98,92,32,92,32,99]),([35],[92,35]),([120,93],[123,120,93,125]),([123],[34,123,34]),([123,97,125,98],[34,123,97,125,98,34]),([92],[34,92,92,34]),([34,113],[92,34,113]),([123,98,32,99,125,32,97],[34,123,98,32,99,125,32,97,34])]
noncomputable def oddN:Nd→List Nat
  | .leaf s=>(oddT.lookup s).getD []
  | .node xs=>123::(ntext (.node xs)++[125])
noncomputable def oddS:List Nd→List Nat
  | []=>[]
  | x::r=>oddN x++[9,32]++oddS r
inductive Odd:Nd→Prop
  | leaf {s w:List Nat}:oddT.lookup s=some w→Odd (.leaf s)
  | node {xs:List Nd}:Odd (.node xs)
section
variable {c:Cx} {n:Nat} {own A B:Own} {Q:PQ} {X:PX}
theorem oddN_len {x:Nd} (hg:Good x) (ho:Odd x):(oddN x).length≤sz x:=by
  cases ho with
  | @leaf s w h=>
    have:∀s∈leaves,((oddT.lookup s).getD []).length≤20:=by decide +kernel
    cases hg with | leaf hs=>rw [oddN,sz];exact this s hs
  | node=>
    have:=sz_text hg
    rw [oddN];simp;omega
theorem spelled_loop (P:Prog c) {l0:V} (r:List Nd):∀(made:List Nat) (o4:Option V) {K:PS},(∀x∈r,Good x∧Odd x∧dp x≤3)→made.length+10 * szs r≤50000→(∀o4,K ⟨[some l0,some (.bool true),some (.dict (oddT.map fun p=>(p.1,.str p.2))),some (.str (made++oddS r)),o4],own⟩)→
    forGo (forP 4 (wpSs c (n+8) tabT law_spelled_b0) (seqR (wpSs c (n+8) tabT (law_spelled_ms.drop 4)) (EndQ Q) (EndX X)) (EndX X)) (ndVs r) ⟨[some l0,some (.bool true),some (.dict (oddT.map fun p=>(p.1,.str p.2))),some (.str made),o4],own⟩ K:=by
  induction r with
  | nil=>
    intro made o4 K hg hl hk
    have:=hk o4
    rw [oddS,List.append_nil] at this
    rw [ndVs];exact this
  | cons x r ih=>
    intro made o4 K hg hl hk
    obtain ⟨g,o,d⟩:=hg x (.head _)
    have hol:=oddN_len g o
    rw [szs] at hl
    have hsz:20≤sz x:=by cases x<;>rw [sz]<;>omega
    have next:wpE c (n+8) tabT .non ⟨[],own⟩ (fun zz zz=>forGo (forP 4 (wpSs c (n+8) tabT law_spelled_b0) (seqR (wpSs c (n+8) tabT (law_spelled_ms.drop 4)) (EndQ Q) (EndX X)) (EndX X)) (ndVs r) ⟨[some l0,some (.bool true),some (.dict (oddT.map fun p=>(p.1,.str p.2))),some (.str (made++oddN x++[9,32])),some (ndV x)],own⟩ K) NoX:=by
      refine ih (made++oddN x++[9,32]) _ (fun y hy=>hg y (.tail _ hy)) (by simp;omega) fun o4=>?_
      have:=hk o4
      rw [oddS] at this
      simpa using this
    rw [ndVs]
    cases o with
    | @leaf s w h=>
      have e:oddN (.leaf s)=w:=by rw [oddN,h];rfl
      rw [e] at hol next
      rw [ndV] at next ⊢
      exact ⟨rfl,.str w,(dget_map V.str s oddT).trans (by rw [h];rfl),lim_ (by omega),lim_ (by simp;omega),next⟩
    | @node xs=>
      have e:oddN (.node xs)=123::ntext (.node xs)++[125]:=by rw [oddN];rfl
      rw [e] at hol next
      have ht:=fun own Q X=>@(text_written (n:=n) P 3).text (.node xs) g (by omega) d own Q X
      rw [ndV] at next ht ⊢
      simp at hol
      exact ⟨rfl,713,rfl,rfl,ht _ _ _ ⟨lim_ (by simp;omega),lim_ (by simp;omega),lim_ (by simp;omega),lim_ (by simp;omega),next⟩⟩
end
theorem pool_odd:∀x∈pool,Odd x:=by
  intro x hx
  simp only [pool,List.mem_cons,List.not_mem_nil,or_false] at hx
  rcases hx with rfl | rfl | rfl | rfl | rfl | rfl | rfl | rfl | rfl | rfl | rfl | rfl | rfl | rfl | rfl | rfl<;>first | exact .node | exact .leaf rfl
theorem pool_szs {xs:List Nd}:(∀x∈xs,x∈pool)→szs xs≤120 * xs.length:=by
  induction xs with
  | nil=>
    intro _
    exact Nat.zero_le _
  | cons x r ih=>
    intro h
    have:=(pool_good x (h x (.head _))).2.2
    have:=ih fun y hy=>h y (.tail _ hy)
    rw [szs,List.length_cons];omega
section
variable {c:Cx} {n:Nat} {own A B:Own} {Q:PQ} {X:PX}
theorem spelled_odd (P:Prog c) {xs:List Nd} (hx:∀x∈xs,x∈pool) (hl:xs.length≤5) (hq:Q (.str (10::oddS xs)) own):SemCall c (n+9) (.ref 727) [.list (ndVs xs),.bool true] own Q X:=by
  refine (P.law_spelled rfl fun as zz=>?_).call
  have hs:=pool_szs hx
  refine ⟨by decide,le_ rfl,_,rfl,_,rfl,lim_ (by rw [ndVs_len];omega),?_⟩
  exact spelled_loop P xs [10] none (fun x h=>⟨(pool_good x (hx x h)).1,pool_odd x (hx x h),Nat.le_trans (pool_good x (hx x h)).2.1 (by decide)⟩) (by simp;omega) fun o4=>end_ hq rfl
theorem spelled_even (P:Prog c) {xs:List Nd} (hx:∀x∈xs,Good x) (hs:szs xs≤10000) (hd:dps xs≤2) (hq:Q (.str (ntext (.node xs))) own):SemCall c (n+9) (.ref 727) [.list (ndVs xs),.bool false] own Q X:=by
  refine (P.law_spelled rfl fun as zz=>?_).call
  have h:=fun own Q X=>@(text_written (c:=c) (n:=n) P 3).text (.node xs) (.node hx) (by rw [sz];omega) (by rw [dp];omega) own Q X
  rw [ndV] at h
  exact ⟨713,rfl,rfl,h _ _ _ (end_ hq rfl)⟩
end
theorem fe_bl {x:Nat} (h:blank x=true) (s:List Nat):fe (x::s)=fe s:=by
  unfold fe
  rw [List.dropWhile_cons,if_pos h]
theorem SP.bl {x:Nat} {s:List Nat} {es:List (List Nat)} {o:Fault} (hb:Mine.Internal.blank x=true) (h:SP s es o):SP (x::s) es o:=by
  cases h with
  | nil e=>exact .nil ((fe_bl hb s).trans e)
  | bad e=>exact .bad ((fe_bl hb s).trans e)
  | @cons _ e q r es o e1 e2 e3 e4 h=>exact .cons (q:=x::q) ((fe_bl hb s).trans e1) (by rw [e2];rfl) (by simp) e4 h
theorem b9:blank 9=true:=by rw [blank_eq];rfl
theorem b10:blank 10=true:=by rw [blank_eq];rfl
theorem b32:blank 32=true:=by rw [blank_eq];rfl
structure OddW (w t:List Nat):Prop where
  fe:∀rest,fe (w++9::rest)=.got t (9::rest)
  tame:Ta w
  ne:w≠[]
theorem odd_leaf {s w:List Nat} (h:oddT.lookup s=some w):OddW w s:=by
  have key:∀p∈oddT,OddW p.2 p.1:=by
    intro p hp
    simp only [oddT,List.mem_cons,List.not_mem_nil,or_false] at hp
    rcases hp with rfl | rfl | rfl | rfl | rfl | rfl | rfl | rfl | rfl | rfl | rfl <;>
      exact ⟨fun rest=>by kernel_rfl,tame_app _ (by kernel_rfl),by decide +kernel⟩
  have mem:∀l:List (List Nat×List Nat),l.lookup s=some w→(s,w)∈l:=by
    intro l
    induction l with
    | nil=>intro h;cases h
    | cons p r ih=>
      intro h
      rw [List.lookup_cons] at h
      split at h
      · rename_i e;cases h;rw [eq_of_beq e];exact .head _
      · exact .tail _ (ih h)
  exact key (s,w) (mem _ h)
theorem odd_ok {x:Nd} (hg:Good x) (ho:Odd x):OddW (oddN x) (ntext x):=by
  cases ho with
  | @leaf s w h=>rw [oddN,ntext,h];exact odd_leaf h
  | @node xs=>
    rw [oddN]
    have hk:=hg.kn
    cases hk with | node k=>
    refine ⟨fun rest=>?_,fun rest=>?_,by simp⟩
    · unfold Mine.Internal.fe
      rw [List.cons_append,List.dropWhile_cons,if_neg (by rw [blank_eq];decide)]
      show braced (ntext (.node xs)++[125]++9::rest)=_
      unfold braced
      rw [List.append_assoc,k.brc,List.singleton_append,brc_close0]
      show behind bracesW (ntext (.node xs)++[]) (9::rest)=_
      rw [List.append_nil]
      unfold behind
      dsimp only
      rw [if_pos b9]
    · rw [List.cons_append,List.append_assoc,tame_cons (by decide),k.tame,List.singleton_append,tame_cons (by decide)]
theorem oddS_sp {xs:List Nd}:(∀x∈xs,Good x∧Odd x)→SP (oddS xs) (xs.map ntext) none∧tame (oddS xs)=true:=by
  induction xs with
  | nil=>
    intro _
    exact ⟨.nil rfl,rfl⟩
  | cons x r ih=>
    intro h
    obtain ⟨g,o⟩:=h x (.head _)
    have w:=odd_ok g o
    obtain ⟨h1,h2⟩:=ih fun y hy=>h y (.tail _ hy)
    have e:oddS (x::r)=oddN x++9::32::oddS r:=by rw [oddS];simp
    have ht:tame (9::32::oddS r)=true:=by rw [tame_cons (by decide),tame_cons (by decide),h2]
    rw [e]
    exact ⟨.cons (q:=oddN x) (w.fe _) rfl w.ne ht ((h1.bl b32).bl b9),by rw [w.tame,ht]⟩
theorem odd_tn {xs:List Nd} (h:∀x∈xs,x∈pool) (hl:xs.length≤5):Tn (10::oddS xs) (.node xs):=by
  have hg:∀x∈xs,Good x∧Odd x:=fun x hx=>⟨(pool_good x (h x hx)).1,pool_odd x (h x hx)⟩
  have hs:=pool_szs h
  obtain ⟨h1,h2⟩:=oddS_sp hg
  have hlen:∀{ys:List Nd},(∀x∈ys,Good x∧Odd x)→(oddS ys).length≤szs ys+2 * ys.length:=by
    intro ys
    induction ys with
    | nil=>intro _;exact Nat.le_refl _
    | cons y r ih=>
      intro hy
      have:=ih fun z hz=>hy z (.tail _ hz)
      have:=oddN_len (hy y (.head _)).1 (hy y (.head _)).2
      rw [oddS,szs];simp;omega
  have:=hlen hg
  exact ⟨.node fun x hx=>(hg x hx).1,by rw [sz];omega,h1.bl b10,by rw [tame_cons (by decide),h2],by simp;omega⟩
noncomputable def decS (i:Int):List Nat:=(Str.ofString (toString i)).cps.toList
noncomputable def wrongs:List (List Nat):=[[120],[101,110,100,45],[49,43],[49,46,53],[101,110,100,101],[45,45,49],[48,120],[43],[50,97],[101,110,100,45,45,49],[123],[49,45,43,50],[],[101,110,100,32,49],[49,32,43,50]]
noncomputable def bins:List (List Nat):=[[48],[49],[49,48],[49,49],[49,48,48],[49,48,49]]
noncomputable def pres:List (List Nat):=[[48,120],[48,79],[48,98],[48,68]]
noncomputable def bigs (n:Int):List Int:=[2 ^ 63,-2 ^ 63,2 ^ 64+n,2 ^ 70]
noncomputable def lidx (form:Nat) (n:Int) (m:Nat) (single:Bool):Ix:=
  let far:=m % 5
  let sign:List Nat:=if n < 0 then [45] else []
  if form=1 then ⟨[101,110,100],true,some 0⟩
  else if form=2∨form=3 then ⟨[101,110,100]++[if form=2 then 43 else 45]++decS far,true,some (if form=2 then (far:Int) else -far)⟩
  else if form=4∨form=5 then ⟨decS n++[if form=4 then 43 else 45]++decS far,false,some (n+if form=4 then (far:Int) else -far)⟩
  else if form=6 then ⟨sign++pres.getD (m % 4) []++(if m % 4=2 then bins.getD n.natAbs [] else decS n.natAbs),false,some n⟩
  else if form=7 then
    let core:=(if n < 0 then [45] else [43])++[48,48]++decS n.natAbs
    ⟨if single then [32]++core++[10] else core,false,some n⟩
  else if form=8 then ⟨wrongs.getD (if single then m else m % 12) [],false,none⟩
  else if form=9 then ⟨decS ((bigs n).getD (m % 4) 0),false,some ((bigs n).getD (m % 4) 0)⟩
  else ⟨decS n,false,some n⟩
noncomputable def ixB (i:Ix):Bool:=decide (idxP i.w=i.num.map fun k=>(i.e,k)) && decide (i.w.length≤40) && i.w.all (· < 128)
theorem lidx_all:∀form < 10,∀a < 9,∀m < 15,∀s:Bool,ixB (lidx form ((a:Nat) - 3:Int) m s)=true:=by decide +kernel
theorem lidx_ok {form a m:Nat} {s:Bool} (h1:form < 10) (h2:a < 9) (h3:m < 15):(lidx form ((a:Nat) - 3:Int) m s).Ok∧IxS (lidx form ((a:Nat) - 3:Int) m s):=by
  have h:=lidx_all form h1 a h2 m h3 s
  unfold ixB at h
  obtain ⟨h,k3⟩:=and2 h
  obtain ⟨k1,k2⟩:=and2 h
  have k1:=of_decide_eq_true k1
  have k2:=of_decide_eq_true k2
  refine ⟨⟨k1,Nat.le_trans k2 (by decide)⟩,⟨Nat.le_trans k2 (by decide),fun x hx=>?_⟩⟩
  have:=List.all_eq_true.mp k3 x hx
  have:=of_decide_eq_true this
  exact Nat.lt_of_lt_of_le this (by decide)
section
variable {c:Cx} {n:Nat} {own A B:Own} {Q:PQ} {X:PX}
theorem turn_ {t d m:Int} (hm:0 < m) (hm2:m≤100):∃q:Nat,q < m.toNat∧(t+d).fmod m=q:=by
  have h1:=Int.fmod_nonneg_of_pos (t+d) hm
  have h2:=Int.fmod_lt_of_pos (t+d) hm
  obtain ⟨q,hq⟩:=Int.eq_ofNat_of_zero_le h1
  exact ⟨q,by omega,hq⟩
theorem index_draws (P:Prog c) {t0 t1 t2 z:Int} {s:Bool} {p:Addr} (key:∀(form a m:Nat) (z':Int),form < 10→a < 9→m < 15→wpSs c (n+1) tabT (law_index_ms.drop 3) ⟨[some (.tup [.int t0,.int t1,.int t2]),some (.bool s),some (.own p),some (.int form),some (.int ((a:Nat) - 3)),some (.int m),none,none,none,none,none],A++(p,.list [.int z'])::B⟩ (EndQ Q) (EndX X)):
    SemCall c (n+2) (.ref 748) [.tup [.int t0,.int t1,.int t2],.bool s,.own p] (A++(p,.list [.int z])::B) Q X:=by
  refine (P.law_index rfl fun as zz=>?_).call
  refine ⟨by decide,by decide,_,rfl,701,rfl,rfl,draw_c P (by decide) (by decide) fun d1 z1 zz zz=>⟨by decide,?_⟩⟩
  obtain ⟨form,f1,f2⟩:=turn_ (t:=t0) (d:=d1) (m:=10) (by decide) (by decide)
  rw [f2]
  refine ⟨by decide,by decide,_,rfl,701,rfl,rfl,draw_c P (by decide) (by decide) fun d2 z2 zz zz=>⟨by decide,?_⟩⟩
  obtain ⟨a,a1,a2⟩:=turn_ (t:=t1+3) (d:=d2) (m:=9) (by decide) (by decide)
  rw [a2]
  refine ⟨by decide,by decide,_,rfl,701,rfl,rfl,draw_c P (by decide) (by decide) fun d3 z3 zz zz=>⟨by decide,?_⟩⟩
  obtain ⟨m,m1,m2⟩:=turn_ (t:=t2) (d:=d3) (m:=15) (by decide) (by decide)
  rw [m2]
  exact key form a m z3 f1 a1 m1
end
section
variable {c:Cx} {n:Nat} {own A B:Own} {Q:PQ} {X:PX}
theorem kn5 (k:Int) (h:-3≤k∧k≤5):k.natAbs≤5:=by omega
theorem le_of_lim (k:Int) (h:-3≤k∧k≤5):k.natAbs < 2 ^ 100:=Nat.lt_of_le_of_lt (kn5 k h) (by decide)
theorem m5 (m:Nat):((m % 5:Nat):Int).natAbs < 2 ^ 100:=Nat.lt_of_lt_of_le (Nat.mod_lt m (by decide):m % 5 < 5) (by decide)
theorem big64 (k:Int) (h:-3≤k∧k≤5):(2 ^ 64+k).natAbs < 2 ^ 100:=by omega
@[elab_as_elim] theorem ten {W:Nat→Prop} (n:Nat) (h:n < 10) (h0:W 0) (h1:W 1) (h2:W 2) (h3:W 3) (h4:W 4) (h5:W 5) (h6:W 6) (h7:W 7) (h8:W 8) (h9:W 9):W n:=by
  rcases n with _ | n
  · exact h0
  rcases n with _ | n
  · exact h1
  rcases n with _ | n
  · exact h2
  rcases n with _ | n
  · exact h3
  rcases n with _ | n
  · exact h4
  rcases n with _ | n
  · exact h5
  rcases n with _ | n
  · exact h6
  rcases n with _ | n
  · exact h7
  rcases n with _ | n
  · exact h8
  rcases n with _ | n
  · exact h9
  · exact absurd h (Nat.not_lt_of_le (Nat.le_add_left _ _))
theorem index_forms (P:Prog c) {told pen:V} {s:Bool} {form m:Nat} {k:Int} (h1:form < 10) (h2:-3≤k∧k≤5) (h3:m < 15) (hI:(lidx form k m s).Ok∧IxS (lidx form k m s)) (hq:Q (ixV (lidx form k m s)) own):wpSs c (n+1) tabT (law_index_ms.drop 3) ⟨[some told,some (.bool s),some pen,some (.int form),some (.int k),some (.int m),none,none,none,none,none],own⟩ (EndQ Q) (EndX X):=by
  have go:∀(sg:List Nat) (far:Int),sg=(if k < 0 then [45] else [])→far=((m % 5:Nat):Int)→wpSs c (n+1) tabT (law_index_ms.drop 4) ⟨[some told,some (.bool s),some pen,some (.int form),some (.int k),some (.int m),some (.str sg),some (.int far),none,none,none],own⟩ (EndQ Q) (EndX X):=fun sg far hs hf=>by
    have hok:=hI.2
    clear hI
    revert hq hok
    refine ten form h1 ?_ ?_ ?_ ?_ ?_ ?_ ?_ ?_ ?_ ?_
    · intro hq hok
      exact ⟨rfl,rfl,le_of_lim k (by assumption),end_ hq rfl⟩
    · intro hq hok
      exact (end_ hq rfl)
    · intro hq hok
      subst hf
      have hl:=(hok).len
      refine ⟨rfl,by decide,by decide,_,rfl,le_ rfl,m5 m,lim_ (Nat.le_trans (show ([101,110,100]++[43]:List Nat).length+(decS ((m % 5:Nat):Int)).length≤2000 by rw [← List.length_append];exact hl) (by decide)),by decide,by decide,_,rfl,end_ hq rfl⟩
    · intro hq hok
      subst hf
      have hl:=(hok).len
      refine ⟨rfl,by decide,by decide,_,rfl,le_ rfl,m5 m,lim_ (Nat.le_trans (show ([101,110,100]++[45]:List Nat).length+(decS ((m % 5:Nat):Int)).length≤2000 by rw [← List.length_append];exact hl) (by decide)),by decide,by decide,_,rfl,end_ hq rfl⟩
    · intro hq hok
      subst hf
      have hl:=(hok).len
      have hl2:(decS k).length+([43]:List Nat).length+(decS ((m % 5:Nat):Int)).length≤2000:=by rw [← List.length_append,← List.length_append];exact hl
      exact ⟨rfl,rfl,le_of_lim k (by assumption),by decide,by decide,_,rfl,lim_ (Nat.le_trans (Nat.le_trans (Nat.le_add_right _ _) hl2) (by decide)),m5 m,lim_ (Nat.le_trans (show (decS k++[43]).length+(decS ((m % 5:Nat):Int)).length≤2000 by rw [← List.length_append];exact hl) (by decide)),by decide,by decide,_,rfl,end_ hq rfl⟩
    · intro hq hok
      subst hf
      have hl:=(hok).len
      have hl2:(decS k).length+([45]:List Nat).length+(decS ((m % 5:Nat):Int)).length≤2000:=by rw [← List.length_append,← List.length_append];exact hl
      exact ⟨rfl,rfl,le_of_lim k (by assumption),by decide,by decide,_,rfl,lim_ (Nat.le_trans (Nat.le_trans (Nat.le_add_right _ _) hl2) (by decide)),m5 m,lim_ (Nat.le_trans (show (decS k++[45]).length+(decS ((m % 5:Nat):Int)).length≤2000 by rw [← List.length_append];exact hl) (by decide)),by decide,by decide,_,rfl,end_ hq rfl⟩
    · intro hq hok
      have hm:((m:Int)).fmod 4=((m % 4:Nat):Int):=by rw [Int.fmod_eq_emod_of_nonneg _ (by decide)];rfl
      have hp:(pres.map V.str)[m % 4]?=some (.str (pres.getD (m % 4) [])):=by
        have hl:m % 4 < pres.length:=Nat.mod_lt _ (by decide)
        rw [List.getElem?_map,List.getElem?_eq_getElem hl,List.getD_eq_getElem?_getD,List.getElem?_eq_getElem hl];rfl
      have hb:(bins.map V.str)[k.natAbs]?=some (.str (bins.getD k.natAbs [])):=by
        have hl:k.natAbs < bins.length:=Nat.lt_succ_of_le (kn5 k (by assumption))
        rw [List.getElem?_map,List.getElem?_eq_getElem hl,List.getD_eq_getElem?_getD,List.getElem?_eq_getElem hl];rfl
      have hab:((k.natAbs:Nat):Int).natAbs < 2 ^ 100:=le_of_lim k (by assumption)
      have e6:∀w8:List Nat,(if m % 4=2 then bins.getD k.natAbs [] else decS k.natAbs)=w8→ixV (lidx 6 k m s)=.tup [.str (sg++pres.getD (m % 4) []++w8),.bool false,.int k]:=fun w8 h=>by subst h;subst hs;rfl
      have fin:∀w8:List Nat,(if m % 4=2 then bins.getD k.natAbs [] else decS k.natAbs)=w8→wpSs c (n+1) tabT [.ret (.tup [.bin .Add (.bin .Add (.loc 6) (.idx (.lst [.str [48,120],.str [48,79],.str [48,98],.str [48,68]]) (.bin .Mod (.loc 5) (.int 4)))) (.loc 8),.bool false,.loc 4])] ⟨[some told,some (.bool s),some pen,some (.int 6),some (.int k),some (.int m),some (.str sg),some (.int far),some (.str w8),none,none],own⟩ (EndQ Q) (EndX X):=fun w8 h=>by
        have hl:(sg++pres.getD (m % 4) []++w8).length≤2000:=by subst h;subst hs;exact hok.len
        rw [e6 w8 h] at hq
        rw [List.length_append,List.length_append] at hl
        refine ⟨by decide,?_⟩
        rw [hm]
        exact ⟨by omega,by omega,_,hp,lim_ (by omega),lim_ (by rw [List.length_append];omega),end_ hq rfl⟩
      refine ⟨rfl,rfl,by decide,?_⟩
      rw [hm]
      refine ifD (fun h=>⟨by omega,by omega,_,hb,fin _ (if_pos (by omega))⟩) fun h=>⟨hab,fin _ (if_neg (by omega))⟩
    · intro hq hok
      have hl:=(hok).len
      have hdl:(decS (k.natAbs:Int)).length≤1000:=by
        have:∀j < 6,(decS ((j:Nat):Int)).length≤1000:=by decide +kernel
        exact this _ (by omega)
      have hb:((k.natAbs:Nat):Int).natAbs < 2 ^ 100:=le_of_lim k (by assumption)
      have e7:∀sg2:List Nat,(if k < 0 then [45] else [43])=sg2→ixV (lidx 7 k m s)=.tup [.str (if s then [32]++(sg2++[48,48]++decS (k.natAbs:Int))++[10] else sg2++[48,48]++decS (k.natAbs:Int)),.bool false,.int k]:=fun sg2 h=>by subst h;rfl
      have fin:∀sg2:List Nat,sg2.length=1→(if k < 0 then [45] else [43])=sg2→wpSs c (n+1) tabT [.ret (.tup [.ite (.loc 1) (.bin .Add (.bin .Add (.str [32]) (.loc 9)) (.str [10])) (.loc 9),.bool false,.loc 4])] ⟨[some told,some (.bool s),some pen,some (.int 7),some (.int k),some (.int m),some (.str sg),some (.int far),none,some (.str (sg2++[48,48]++decS (k.natAbs:Int))),none],own⟩ (EndQ Q) (EndX X):=fun sg2 h1 h2=>by
        rw [e7 sg2 h2] at hq
        induction s using Bool.casesOn with
        | true=>exact ⟨lim_ (by simp;omega),lim_ (by simp;omega),end_ hq rfl⟩
        | false=>exact (end_ hq rfl)
      refine ⟨rfl,rfl,ifD (fun hk=>⟨le_ rfl,hb,lim_ (show 3+(decS (k.natAbs:Int)).length≤200000 by omega),?_⟩) fun hk=>⟨le_ rfl,hb,lim_ (show 3+(decS (k.natAbs:Int)).length≤200000 by omega),?_⟩⟩
      · exact fin [45] rfl (if_pos hk)
      · exact fin [43] rfl (if_neg hk)
    · intro hq hok
      have hw:∀j:Nat,j < 15→(wrongs.map V.str)[j]?=some (.str (wrongs.getD j [])):=by
        intro j hj
        have hl:j < wrongs.length:=hj
        rw [List.getElem?_map,List.getElem?_eq_getElem hl,List.getD_eq_getElem?_getD,List.getElem?_eq_getElem hl];rfl
      refine ⟨rfl,rfl,?_⟩
      induction s using Bool.casesOn with
      | true=>exact ⟨by omega,by omega,_,hw m h3,end_ hq rfl⟩
      | false=>
        have hm:((m:Int)).fmod 12=((m % 12:Nat):Int):=by rw [Int.fmod_eq_emod_of_nonneg _ (by decide)];rfl
        refine ⟨by decide,?_⟩
        rw [hm]
        exact ⟨by omega,by omega,_,hw (m % 12) (by omega),end_ hq rfl⟩
    · intro hq hok
      have hm:((m:Int)).fmod 4=((m % 4:Nat):Int):=by rw [Int.fmod_eq_emod_of_nonneg _ (by decide)];rfl
      have hb:((bigs k).map V.int)[m % 4]?=some (.int ((bigs k).getD (m % 4) 0)):=by
        have hl:m % 4 < (bigs k).length:=Nat.mod_lt _ (by decide)
        rw [List.getElem?_map,List.getElem?_eq_getElem hl,List.getD_eq_getElem?_getD,List.getElem?_eq_getElem hl];rfl
      have hbd:((bigs k).getD (m % 4) 0).natAbs < 2 ^ 100:=by
        have h4:m % 4 < 4:=Nat.mod_lt _ (by decide)
        generalize m % 4=j at h4
        rcases j with _ | _ | _ | _ | _
        · exact (by decide:(2 ^ 63:Int).natAbs < 2 ^ 100)
        · exact (by decide:(-2 ^ 63:Int).natAbs < 2 ^ 100)
        · exact big64 k (by assumption)
        · exact (by decide:(2 ^ 70:Int).natAbs < 2 ^ 100)
        · exact absurd h4 (Nat.not_lt_of_le (Nat.le_add_left _ _))
      refine ⟨rfl,rfl,.inl rfl,by decide,by decide,.inl rfl,by decide,by decide,.inl rfl,by decide,by decide,.inl rfl,by decide,by decide,by decide,?_⟩
      rw [hm]
      exact ⟨by omega,by omega,_,hb,hbd,end_ hq rfl⟩
  have hm5:((m:Int)).fmod 5=((m % 5:Nat):Int):=by rw [Int.fmod_eq_emod_of_nonneg _ (by decide)];rfl
  refine ifD (fun hk=>⟨by decide,rfl,?_⟩) fun hk=>⟨by decide,rfl,?_⟩
  · exact go _ _ (if_pos hk).symm hm5
  · exact go _ _ (if_neg hk).symm hm5
end
inductive IxL (s:Bool) (i:Ix):Prop
  | mk {form a m:Nat}:form < 10→a < 9→m < 15→i=lidx form ((a:Nat) - 3:Int) m s→IxL s i
theorem IxL.ok {s:Bool} {i:Ix} (h:IxL s i):i.Ok∧IxS i:=by
  obtain ⟨h1,h2,h3,rfl⟩:=h
  exact lidx_ok h1 h2 h3
theorem IxL.len {s:Bool} {i:Ix} (h:IxL s i):i.w.length≤40:=by
  obtain ⟨h1,h2,h3,rfl⟩:=h
  exact of_decide_eq_true (and2 (and2 (lidx_all _ h1 _ h2 _ h3 s)).1).2
section
variable {c:Cx} {n:Nat} {own A B:Own} {Q:PQ} {X:PX}
theorem index_c (P:Prog c) {t0 t1 t2 z:Int} {s:Bool} {p:Addr} (hq:∀i z',IxL s i→Q (ixV i) (A++(p,.list [.int z'])::B)):SemCall c (n+2) (.ref 748) [.tup [.int t0,.int t1,.int t2],.bool s,.own p] (A++(p,.list [.int z])::B) Q X:=
  index_draws P fun form a m z' h1 h2 h3=>index_forms P h1 (by omega) h3 (lidx_ok h1 h2 h3) (hq _ z' (.mk h1 h2 h3 rfl))
noncomputable def toldV (t:Int×Int×Int):V:=.tup [.int t.1,.int t.2.1,.int t.2.2]
theorem path_comp (P:Prog c) {a0 a1 a2 p:Addr} {ts:List (Int×Int×Int)} {lone:Bool} {K:List V→Own→Prop} {N:Nat} (hl:ts.length≤100) (hN:N≤100) (hK:∀(l:List Ix) (z':Int),l.length=N→(∀i∈l,IxL (!lone) i)→K (l.map ixV) ((a0,.cell (some (.list (ts.map toldV))))::(a1,.cell (some (.own p)))::(a2,.cell (some (.bool lone)))::(A++(p,.list [.int z'])::B))) (m:Nat):∀(k:Nat) (acc:List Ix) (z:Int),(∀i∈acc,IxL (!lone) i)→acc.length=k→k+m=N→
    compGo (fun it own K=>wpAnd c (n+2) tabT [] ⟨some it::[some (.cell a0),some (.cell a1),some (.cell a2)],own⟩ (fun b st2=>ifB b (wpE c (n+2) tabT (.call (.glob (.ref 748)) [(.ite (.cmp .Lt (.loc 0) (.bcall .len [(.loc 1)])) (.idx (.loc 1) (.loc 0)) (.tup [(.int 0),(.int 0),(.int 0)])),(.not (.loc 3)),(.loc 2)]) st2 (fun y st3=>K (some y) st3.own) NoX) (K none st2.own)) NoX) ((List.range' k m).map fun (k:Nat)=>V.int k) (acc.map ixV) ((a0,.cell (some (.list (ts.map toldV))))::(a1,.cell (some (.own p)))::(a2,.cell (some (.bool lone)))::(A++(p,.list [.int z])::B)) K:=by
  induction m with
  | zero=>
    intro k acc z ha hc hk
    exact hK acc z (by omega) ha
  | succ m ih=>
    intro k acc z ha hc hk
    have tail:∀t:Int×Int×Int,SemCall c (n+2) (.ref 748) [toldV t,.bool (!lone),.own p] ((a0,.cell (some (.list (ts.map toldV))))::(a1,.cell (some (.own p)))::(a2,.cell (some (.bool lone)))::(A++(p,.list [.int z])::B)) (fun y o=>compGo (fun it own K=>wpAnd c (n+2) tabT [] ⟨some it::[some (.cell a0),some (.cell a1),some (.cell a2)],own⟩ (fun b st2=>ifB b (wpE c (n+2) tabT (.call (.glob (.ref 748)) [(.ite (.cmp .Lt (.loc 0) (.bcall .len [(.loc 1)])) (.idx (.loc 1) (.loc 0)) (.tup [(.int 0),(.int 0),(.int 0)])),(.not (.loc 3)),(.loc 2)]) st2 (fun y st3=>K (some y) st3.own) NoX) (K none st2.own)) NoX) ((List.range' (k+1) m).map fun (k:Nat)=>V.int k) (acc.map ixV++[y]) o K) (fun zz zz=>False):=fun t=>by
      refine index_c (A:=(a0,.cell (some (.list (ts.map toldV))))::(a1,.cell (some (.own p)))::(a2,.cell (some (.bool lone)))::A) P fun i z' hi=>?_
      have e:acc.map ixV++[ixV i]=(acc++[i]).map ixV:=by simp
      rw [e]
      exact ih (k+1) (acc++[i]) z' (fun x hx=>(List.mem_append.mp hx).elim (ha x) fun hx=>by rw [List.mem_singleton.mp hx];exact hi) (by simp [hc]) (by omega)
    refine ⟨748,rfl,rfl,_,.head _,_,.frz,lim_ (by simp;omega),?_⟩
    by_cases hk:(k:Int) < ((ts.map toldV).length:Nat)
    · have hk2:k < ts.length:=by simpa using hk
      refine ifT hk ⟨_,.head _,by omega,by omega,toldV ts[k],?_,_,.tail _ (.tail _ (.head _)),_,.tail _ (.head _),tail _⟩
      show (ts.map toldV)[k]?=_
      rw [List.getElem?_map,List.getElem?_eq_getElem hk2];rfl
    · exact ifF hk ⟨_,.tail _ (.tail _ (.head _)),_,.tail _ (.head _),tail (0,0,0)⟩
end
noncomputable def bareB (x:Nat):Bool:=!blank x && decide (x ∉ [92,123,34,125])
noncomputable def loneB (w:List Nat):Bool:=w == [123] || (!w.isEmpty && w.all bareB)
theorem lone_all:∀form < 10,∀a < 9,∀m < 15,loneB (lidx form ((a:Nat) - 3:Int) m false).w=true:=by decide +kernel
theorem IxL.lone {i:Ix} (h:IxL false i):loneB i.w=true:=by
  obtain ⟨h1,h2,h3,rfl⟩:=h
  exact lone_all _ h1 _ h2 _ h3
inductive Lw:List Nat→Prop
  | br:Lw [123]
  | bare {w:List Nat}:w≠[]→(∀x∈w,bareB x=true)→Lw w
theorem lone_lw {w:List Nat} (h:loneB w=true):Lw w:=by
  unfold loneB at h
  rcases Bool.or_eq_true_iff.mp h with h | h
  · rw [beq_iff_eq.mp h];exact .br
  · obtain ⟨h1,h2⟩:=and2 h
    exact .bare (by cases w with | nil=>cases h1 | cons=>exact fun e=>nomatch e) (List.all_eq_true.mp h2)
theorem bare_ok {x:Nat} (h:bareB x=true):blank x=false∧x ∉ [92,123,34,125]:=by
  obtain ⟨h1,h2⟩:=and2 h
  exact ⟨by revert h1;cases blank x<;>decide,of_decide_eq_true h2⟩
theorem tame_no {r:List Nat}:92 ∉ r→tame r=true:=by
  induction r with
  | nil=>
    intro _
    exact rfl
  | cons x r ih=>
    intro h
    rw [tame_cons fun e=>h (by rw [e];exact .head _)];exact ih fun q=>h (.tail _ q)
theorem brc_none {r:List Nat}:∀(d:Nat),125 ∉ r→92 ∉ r→brc d r=none:=by
  induction r with
  | nil=>
    intro _ _ _
    rw [brc]
  | cons x r ih=>
    intro d h1 h2
    have a1:125 ∉ r:=fun q=>h1 (.tail _ q)
    have a2:92 ∉ r:=fun q=>h2 (.tail _ q)
    by_cases e:x=123
    · subst e;rw [brc_open,ih (d+1) a1 a2];rfl
    · rw [brc_else (fun q=>h2 (by rw [q];exact .head _)) e (fun q=>h1 (by rw [q];exact .head _)),ih d a1 a2];rfl
theorem bar_app {w:List Nat}:∀(rest:List Nat),(∀x∈w,bareB x=true)→bar (w++rest)=(w++(bar rest).1,(bar rest).2):=by
  induction w with
  | nil=>
    intro rest _
    exact rfl
  | cons x w ih=>
    intro rest h
    obtain ⟨h1,h2⟩:=bare_ok (h x (.head _))
    rw [List.cons_append,bar_else h1 (fun e=>h2 (by rw [e];decide)),ih rest fun y hy=>h y (.tail _ hy)];rfl
theorem fe_bare {w:List Nat} (rest:List Nat) (h0:w≠[]) (h:∀x∈w,bareB x=true):fe (w++rest)=.got (w++(bar rest).1) (bar rest).2:=by
  induction w using List.casesOn with
  | nil=>exact absurd rfl h0
  | cons x w=>
    obtain ⟨h1,h2⟩:=bare_ok (h x (.head _))
    unfold fe
    rw [List.cons_append,List.dropWhile_cons,if_neg (by rw [h1];decide)]
    unfold feS
    dsimp only
    rw [if_neg (fun e=>h2 (by rw [e];decide)),if_neg (fun e=>h2 (by rw [e];decide)),← List.cons_append,bar_app rest h]
theorem spc_no {k:Nat} (hk:k≠32):∀{ws:List (List Nat)},(∀w∈ws,k ∉ w)→k ∉ spc ws
  | [],_=>fun h=>nomatch h
  | [w],h=>h w (.head _)
  | w::y::r,h=>by
    have:=spc_no hk (ws:=y::r) fun z hz=>h z (.tail _ hz)
    show k ∉ w++32::spc (y::r)
    intro q
    rcases List.mem_append.mp q with q | q
    · exact h w (.head _) q
    · exact (List.mem_cons.mp q).elim hk this
theorem lw_no {w:List Nat} (h:Lw w) {k:Nat} (hk:k∈[92,125]):k ∉ w:=by
  cases h with
  | br=>revert k;decide
  | bare _ h=>intro q;have:=(bare_ok (h _ q)).2;revert this;revert hk;clear q;simp;omega
theorem lone_sp:∀{ws:List (List Nat)},(∀w∈ws,Lw w)→(123 ∉ spc ws→SP (spc ws) ws none)∧(123∈spc ws→∃es f,SP (spc ws) es (some f))
  | [],_=>⟨fun zz=>.nil rfl,fun h=>nomatch h⟩
  | [w],h=>by
    show (123 ∉ w→SP w [w] none)∧(123∈w→∃es f,SP w es (some f))
    cases h w (.head _) with
    | br=>exact ⟨fun q=>absurd (.head _) q,fun zz=>⟨[],(braceMsg,tclL [66,82,65,67,69]),.bad (by kernel_rfl)⟩⟩
    | bare h0 hb=>
      refine ⟨fun zz=>?_,fun q=>absurd (bare_ok (hb _ q)).2 (by decide)⟩
      have:=fe_bare [] h0 hb
      rw [List.append_nil] at this
      exact .cons (q:=w) (r:=[]) (this.trans (by rw [bar,List.append_nil])) (List.append_nil _).symm h0 rfl (.nil rfl)
  | w::y::r,h=>by
    have ih:=lone_sp (ws:=y::r) fun z hz=>h z (.tail _ hz)
    have n92:92 ∉ spc (y::r):=spc_no (by decide) fun z hz=>lw_no (h z (.tail _ hz)) (by decide)
    have n125:125 ∉ spc (y::r):=spc_no (by decide) fun z hz=>lw_no (h z (.tail _ hz)) (by decide)
    show (123 ∉ w++32::spc (y::r)→SP (w++32::spc (y::r)) (w::y::r) none)∧(123∈w++32::spc (y::r)→∃es f,SP (w++32::spc (y::r)) es (some f))
    generalize spc (y::r)=t at ih n92 n125
    cases h w (.head _) with
    | br=>
      refine ⟨fun q=>absurd (.head _) q,fun zz=>⟨[],(braceMsg,tclL [66,82,65,67,69]),.bad ?_⟩⟩
      unfold Mine.Internal.fe
      rw [List.cons_append,List.dropWhile_cons,if_neg (by rw [blank_eq];decide)]
      show braced (32::t)=_
      unfold braced
      rw [brc_none 0 (fun q=>(List.mem_cons.mp q).elim (by decide) n125) (fun q=>(List.mem_cons.mp q).elim (by decide) n92)]
    | bare h0 hb=>
      have hf:fe (w++32::t)=.got w (32::t):=by rw [fe_bare _ h0 hb,bar_blank b32,List.append_nil]
      have ht:tame (32::t)=true:=by rw [tame_cons (by decide)];exact tame_no n92
      have hw:123 ∉ w:=fun q=>absurd (bare_ok (hb _ q)).2 (by decide)
      refine ⟨fun q=>.cons hf rfl h0 ht ((ih.1 fun k=>q (List.mem_append_right _ (.tail _ k))).bl b32),fun q=>?_⟩
      have q2:123∈t:=(List.mem_append.mp q).elim (fun k=>absurd k hw) fun k=>(List.mem_cons.mp k).elim (fun e=>absurd e (by decide)) id
      obtain ⟨es,f,hs⟩:=ih.2 q2
      exact ⟨w::es,f,.cons hf rfl h0 ht (hs.bl b32)⟩
theorem dval_bad {b:Int} {r:List Nat}:∀(v:Int),123∈r→dvalGo b r v=none:=by
  induction r with
  | nil=>
    intro _ h
    exact nomatch h
  | cons x r ih=>
    intro v h
    rw [dvalGo_cons]
    by_cases e:x=123
    · subst e;exact if_pos (.inl (by decide +kernel))
    · split
      · rfl
      · exact ih _ ((List.mem_cons.mp h).elim (fun q=>absurd q.symm e) id)
theorem dval_bad0 {b:Int} {r:List Nat} (h:123∈r):dval b r=none:=by
  induction r using List.casesOn with
  | nil=>cases h
  | cons x r=>exact dval_bad 0 h
theorem wnum_bad {r:List Nat} (h:123∈r):wnum r=none:=by
  induction r using List.casesOn with
  | nil=>cases h
  | cons x r=>
    induction r using List.casesOn with
    | nil=>exact dval_bad0 h
    | cons y r=>
      rw [wnum_2]
      split
      · rename_i hc
        refine dval_bad0 ((List.mem_cons.mp h).elim (fun e=>absurd (e.trans hc.1) (by decide)) fun h=>(List.mem_cons.mp h).elim (fun e=>?_) id)
        rw [← e] at hc
        exact absurd hc.2.2 (by decide +kernel)
      · exact dval_bad0 h
theorem wsign_bad {r:List Nat} (h:123∈r):wsign r=none:=by
  induction r using List.casesOn with
  | nil=>cases h
  | cons x r=>
    unfold wsign
    dsimp only
    have tl:x≠123→123∈r:=fun e=>(List.mem_cons.mp h).elim (fun q=>absurd q.symm e) id
    split
    · rename_i e;exact wnum_bad (tl (by rw [e];decide))
    · split
      · rename_i e;rw [wnum_bad (tl (by rw [e];decide))];rfl
      · exact wnum_bad h
theorem drop_mem {p:Nat→Bool} {x:Nat} (hp:p x=false) {l:List Nat}:x∈l→x∈l.dropWhile p:=by
  induction l with
  | nil=>
    intro h
    exact h
  | cons y r ih=>
    intro h
    rw [List.dropWhile_cons]
    split
    · rename_i hy
      exact ih ((List.mem_cons.mp h).elim (fun e=>by rw [e,hy] at hp;exact nomatch hp) id)
    · exact h
theorem whole_bad {t:List Nat} (h:123∈t):whole t=none:=by
  have hb:blank 123=false:=by rw [blank_eq];rfl
  refine wsign_bad ?_
  unfold wstrip
  rw [List.mem_reverse]
  refine drop_mem hb ?_
  rw [List.mem_reverse]
  exact drop_mem hb h
theorem moved_bad {t:List Nat} (h:123∈t):movedP t=none:=by
  induction t using List.casesOn with
  | nil=>cases h
  | cons x r=>
    unfold movedP movedS
    dsimp only
    rcases List.mem_cons.mp h with e | h
    · cases dval 10 r with
      | none=>rfl
      | some f=>show (if x=43 then some f else if x=45 then some (-f) else none)=none;rw [if_neg (by omega),if_neg (by omega)]
    · rw [dval_bad0 h];rfl
theorem idx_bad {t:List Nat} (h:123∈t):idxP t=none:=by
  unfold idxP
  rw [whole_bad h]
  dsimp only
  split
  · rename_i he
    obtain ⟨r,rfl⟩:=List.isPrefixOf_iff_prefix.mp he
    rw [if_neg (fun e=>by rw [e] at h;revert h;decide),moved_bad (by simpa using h)];rfl
  · induction t using List.casesOn with
    | nil=>cases h
    | cons x r=>
      unfold idxB
      dsimp only
      have e:=cutGo_eq x r
      have h':123∈x::(cutGo x r).1∨123∈(cutGo x r).2:=by
        rw [← e] at h
        rcases List.mem_cons.mp h with q | q
        · exact .inl (by rw [q];exact .head _)
        · exact (List.mem_append.mp q).imp (.tail _) id
      rcases h' with q | q
      · rw [whole_bad q];rfl
      · rw [moved_bad q];cases whole (x::(cutGo x r).1)<;>rfl
noncomputable def lsetW:List Nat:=[108,115,101,116]
noncomputable def lpopW:List Nat:=[108,112,111,112]
structure PathW (cmd:List Nat) (k:Nat) (pw:List (List Nat)) (ixs:List Ix):Prop where
  ok:∀i∈ixs,i.Ok∧IxS i
  len:ixs.length≤3
  set:cmd=lsetW→PathR pw ixs
  pop:cmd=lpopW→∃jxs:List Ix,pw=jxs.map (·.w)∧ixs=if jxs=[] then [endIx] else jxs
  rest:cmd≠lsetW→cmd≠lpopW→pw=ixs.map (·.w)∧ixs.length=k
theorem PathW.plain {cmd:List Nat} {k:Nat} {ixs:List Ix} (h1:∀i∈ixs,i.Ok∧IxS i) (h2:ixs.length≤3) (h3:cmd=lsetW→ixs.length≠1) (h4:cmd=lpopW→ixs≠[]) (h5:cmd≠lsetW→cmd≠lpopW→ixs.length=k):PathW cmd k (ixs.map (·.w)) ixs:=
  ⟨h1,h2,fun e=>.many (h3 e),fun e=>⟨ixs,rfl,(if_neg (h4 e)).symm⟩,fun a b=>⟨rfl,h5 a b⟩⟩
theorem wv_mem {s:Bool} {l:List Ix} (h:∀i∈l,IxL s i):∀i∈l,i.Ok∧IxS i:=fun i hi=>(h i hi).ok
theorem spc_len {ws:List (List Nat)} {k:Nat} (h:∀w∈ws,w.length≤k):(spc ws).length≤(k+1) * ws.length:=by
  induction ws with
  | nil=>exact Nat.zero_le _
  | cons w r ih=>
    have h1:=h w (.head _)
    have h2:=ih fun z hz=>h z (.tail _ hz)
    induction r using List.casesOn with
    | nil=>rw [List.length_singleton,Nat.mul_one];show w.length≤_;omega
    | cons y r=>
      rw [List.length_cons,Nat.mul_succ]
      show (w++32::spc (y::r)).length≤_
      rw [List.length_append,List.length_cons];omega
theorem spc_small {ws:List (List Nat)} {x:Nat} (h:x∈spc ws):x=32∨∃w∈ws,x∈w:=by
  induction ws with
  | nil=>cases h
  | cons w r ih=>
    induction r using List.casesOn with
    | nil=>exact .inr ⟨w,.head _,h⟩
    | cons y r=>
      have h:x∈w++32::spc (y::r):=h
      rcases List.mem_append.mp h with h | h
      · exact .inr ⟨w,.head _,h⟩
      · rcases List.mem_cons.mp h with h | h
        · exact .inl h
        · exact (ih h).imp id fun ⟨z,h1,h2⟩=>⟨z,.tail _ h1,h2⟩
theorem lone_path {l:List Ix} (h:∀i∈l,IxL false i) (hl:l.length≤3):(123 ∉ spc (l.map (·.w))→PathW lsetW 0 [spc (l.map (·.w))] l)∧(123∈spc (l.map (·.w))→PathW lsetW 0 [spc (l.map (·.w))] [⟨spc (l.map (·.w)),false,none⟩]):=by
  have hw:∀w∈l.map (·.w),Lw w:=fun w q=>by
    obtain ⟨i,hi,rfl⟩:=List.mem_map.mp q
    exact lone_lw (h i hi).lone
  have hlen:(spc (l.map (·.w))).length≤123:=by
    have:=spc_len (ws:=l.map (·.w)) (k:=40) fun w q=>by
      obtain ⟨i,hi,rfl⟩:=List.mem_map.mp q
      exact (h i hi).len
    rw [List.length_map] at this
    omega
  have hsm:∀x∈spc (l.map (·.w)),x < 1114112:=fun x hx=>by
    rcases spc_small hx with e | ⟨w,hw,hx⟩
    · rw [e];decide
    · obtain ⟨i,hi,rfl⟩:=List.mem_map.mp hw
      exact (h i hi).ok.2.small x hx
  have ht:tame (spc (l.map (·.w)))=true:=tame_no (spc_no (by decide) fun z hz=>lw_no (hw z hz) (by decide))
  obtain ⟨s1,s2⟩:=lone_sp hw
  generalize spc (l.map (·.w))=t at hlen hsm ht s1 s2
  refine ⟨fun q=>⟨wv_mem h,hl,fun zz=>.lone (s1 q) ht (by omega),fun e=>absurd e (by decide),fun e=>absurd rfl e⟩,fun q=>?_⟩
  obtain ⟨es,f,hs⟩:=s2 q
  refine ⟨fun i hi=>?_,le_ rfl,fun zz=>.fault hs ht (by omega) rfl,fun e=>absurd e (by decide),fun e=>absurd rfl e⟩
  rw [List.mem_singleton.mp hi]
  exact ⟨⟨idx_bad q,by show t.length≤2000;omega⟩,⟨by show t.length≤2000;omega,hsm⟩⟩
theorem endIx_ok:endIx.Ok∧IxS endIx:=⟨⟨by kernel_rfl,by decide⟩,⟨by decide,by decide⟩⟩
section
variable {c:Cx} {n:Nat} {own A B:Own} {Q:PQ} {X:PX}
theorem words_comp {caps:List (Option V)} {K:List V→Own→Prop} {own:Own} (r:List Ix):∀(acc:List V),K (acc++wv r) own→
    compGo (fun it own K=>wpAnd c n tabT [] ⟨some it::caps,own⟩ (fun b st2=>ifB b (wpE c n tabT (.idx (.loc 0) (.int 0)) st2 (fun y st3=>K (some y) st3.own) NoX) (K none st2.own)) NoX) (r.map ixV) acc own K:=by
  induction r with
  | nil=>
    intro acc h
    rw [show wv []=[] from rfl,List.append_nil] at h;exact h
  | cons i r ih=>
    intro acc h
    exact ⟨by decide,by decide,_,rfl,ih (acc++[.str i.w]) (by
      rw [List.append_assoc]
      exact h)⟩
theorem path_c (P:Prog c) {cmd:List Nat} {ts:List (Int×Int×Int)} {how z:Int} {p:Addr} (hl:ts.length≤3) (hq:∀pw ixs z',PathW cmd ts.length pw ixs→Q (.tup [.list (pw.map .str),.list (ixs.map ixV)]) (A++(p,.list [.int z'])::B)):
    SemCall c (n+3) (.ref 753) [.str cmd,.list (ts.map toldV),.int how,.own p] (A++(p,.list [.int z])::B) Q X:=by
  refine (P.law_path rfl fun as has=>?_).call
  obtain ⟨a0,a1,a2,rfl⟩:∃a0 a1 a2,as=[a0,a1,a2]:=by
    rcases as with _ | ⟨a0,_ | ⟨a1,_ | ⟨a2,_ | ⟨_,_⟩⟩⟩⟩<;>first | exact ⟨_,_,_,rfl⟩ | cases has
  have fin:∀(count:Nat) (cv:Option V) (z':Int) (pw:List (List Nat)) (ixs jxs:List Ix),(cmd=lpopW→count=0→ixs=[endIx])→((cmd=lpopW∧count=0)∨ixs=jxs)→PathW cmd ts.length pw ixs→wpSs c (n+2) tabT (law_path_ms.drop 6) ⟨[some (.str cmd),some (.cell a0),some (.int how),some (.cell a1),some (.int count),some (.cell a2),some (.list (jxs.map ixV)),some (.list (pw.map .str))],(a0,.cell (some (.list (ts.map toldV))))::(a1,.cell (some (.own p)))::(a2,.cell cv)::(A++(p,.list [.int z'])::B)⟩ (EndQ Q) (EndX X):=fun count cv z' pw ixs jxs h1 h2 hp=>by
    have go:wpSs c (n+2) tabT (law_path_ms.drop 7) ⟨[some (.str cmd),some (.cell a0),some (.int how),some (.cell a1),some (.int count),some (.cell a2),some (.list (ixs.map ixV)),some (.list (pw.map .str))],(a0,.cell (some (.list (ts.map toldV))))::(a1,.cell (some (.own p)))::(a2,.cell cv)::(A++(p,.list [.int z'])::B)⟩ (EndQ Q) (EndX X):=
      (.mk (List.sublist_append_right [_,_,_] _) (hq pw ixs z' hp))
    refine and2_i (fun h=>?_) fun h=>?_
    · have e:=h1 h.1 (by have:=h.2;omega)
      subst e
      exact go
    · rcases h2 with h2 | h2
      · exact absurd ⟨h2.1,by rw [h2.2];rfl⟩ h
      · subst h2;exact go
  have mid:∀(count:Nat) (lone:Bool) (z':Int),count≤3→(cmd≠lsetW→cmd≠lpopW→count=ts.length)→(lone=true→cmd=lsetW)→(cmd=lsetW→lone=false→count≠1)→wpSs c (n+2) tabT (law_path_ms.drop 3) ⟨[some (.str cmd),some (.cell a0),some (.int how),some (.cell a1),some (.int count),some (.cell a2),none,none],(a0,.cell (some (.list (ts.map toldV))))::(a1,.cell (some (.own p)))::(a2,.cell (some (.bool lone)))::(A++(p,.list [.int z'])::B)⟩ (EndQ Q) (EndX X):=fun count lone z' hc h1 h2 h3=>by
    refine ⟨by omega,by omega,_,rfl,by simp;exact lim_ (by omega),?_⟩
    have:=path_comp (c:=c) (n:=n) (N:=count) (A:=A) (B:=B) (a0:=a0) (a1:=a1) (a2:=a2) (p:=p) (ts:=ts) (lone:=lone) (K:=fun ys o=>putT ⟨[some (.str cmd),some (.cell a0),some (.int how),some (.cell a1),some (.int count),some (.cell a2),none,none],o⟩ (.loc 6) (.list ys) (seqR (wpSs c (n+2) tabT (law_path_ms.drop 4)) (EndQ Q) (EndX X) .next)) P (by omega) (by omega) (fun l z' hln hil=>?_) count 0 [] z' (fun x h=>nomatch h) rfl (by omega)
    · rw [← List.range_eq_range'] at this
      exact this
    have hiv:(l.map ixV).length≤LIM:=lim_ (by rw [List.length_map];omega)
    refine ⟨_,rfl,hiv,words_comp l [] ⟨_,.tail _ (.tail _ (.head _)),?_⟩⟩
    induction lone using Bool.casesOn with
    | false=>
      rw [List.nil_append,← wv_map]
      refine fin count _ z' _ (if cmd=lpopW∧count=0 then [endIx] else l) l (fun a b=>if_pos ⟨a,b⟩) ?_ ?_
      · by_cases hb:cmd=lpopW∧count=0
        · exact .inl hb
        · exact .inr (if_neg hb)
      · by_cases hb:cmd=lpopW∧count=0
        · rw [if_pos hb]
          have e:l=[]:=List.length_eq_zero_iff.mp (by omega)
          subst e
          exact ⟨fun i hi=>List.mem_singleton.mp hi▸endIx_ok,by decide,fun e=>absurd (hb.1.symm.trans e) (by decide),fun zz=>⟨[],rfl,rfl⟩,fun zz q=>absurd hb.1 q⟩
        · rw [if_neg hb]
          exact .plain (wv_mem hil) (by omega) (fun e=>by rw [hln];exact h3 e rfl) (fun e q=>hb ⟨e,by rw [q] at hln;exact hln.symm⟩) fun a b=>hln.trans (h1 a b)
    | true=>
      have hcmd:=h2 rfl
      obtain ⟨lp1,lp2⟩:=lone_path hil (by omega)
      have hsl:(spc (l.map (·.w))).length≤1000:=by
        have:=spc_len (ws:=l.map (·.w)) (k:=40) fun w q=>by
          obtain ⟨i,hi,rfl⟩:=List.mem_map.mp q
          exact (hil i hi).len
        rw [List.length_map] at this
        omega
      have fin2:=fun jxs hp=>fin count (some (.bool true)) z' [spc (l.map (·.w))] jxs jxs (fun e=>absurd (hcmd.symm.trans e) (by decide)) (.inr rfl) hp
      have up:∀{ixs},PathW lsetW 0 [spc (l.map (·.w))] ixs→PathW cmd ts.length [spc (l.map (·.w))] ixs:=fun h=>⟨h.ok,h.len,fun zz=>h.set rfl,fun e=>absurd (hcmd.symm.trans e) (by decide),fun q=>absurd hcmd q⟩
      rw [List.nil_append,← wv_map]
      refine ⟨_,spc (l.map (·.w)),.frz,joinS_spc (l.map (·.w)),lim_ (by show _+1≤_;omega),?_⟩
      refine ?_
      refine ⟨by decide,by decide,_,rfl,123,rfl,?_⟩
      generalize spc (l.map (·.w))=t at lp1 lp2 hsl fin2 up
      refine ifD (fun h=>?_) fun h=>?_
      · exact ⟨by decide,by decide,_,rfl,fin2 [⟨t,false,none⟩] (up (lp2 h))⟩
      · exact fin2 l (up (lp1 h))
  have pre:∀(count:Nat) (z':Int),count≤3→(cmd≠lsetW→cmd≠lpopW→count=ts.length)→wpSs c (n+2) tabT (law_path_ms.drop 2) ⟨[some (.str cmd),some (.cell a0),some (.int how),some (.cell a1),some (.int count),some (.cell a2),none,none],(a0,.cell (some (.list (ts.map toldV))))::(a1,.cell (some (.own p)))::(a2,.cell none)::(A++(p,.list [.int z'])::B)⟩ (EndQ Q) (EndX X):=fun count z' hc h1=>by
    refine ifD (fun hs=>?_) fun hs=>⟨a2,none,_,rfl,.there (.there .here),mid count (decide (cmd=lsetW)) z' hc h1 (fun q=>of_decide_eq_true q) fun q=>absurd q hs⟩
    refine ⟨701,rfl,rfl,_,.tail _ (.head _),draw_c (A:=(a0,.cell (some (.list (ts.map toldV))))::(a1,.cell (some (.own p)))::(a2,.cell none)::A) P (by decide) (by decide) fun d z2 zz zz=>⟨by decide,?_⟩⟩
    refine ifD (fun h=>⟨a2,none,_,rfl,.there (.there .here),mid count (decide ((how+d).fmod 2=1)) z2 hc h1 (fun zz=>hs) fun zz q=>absurd h (of_decide_eq_false q)⟩) fun zz=>?_
    refine ⟨a2,none,_,rfl,.there (.there .here),mid count (decide ((count:Int)=1)) z2 hc h1 (fun zz=>hs) fun zz q e=>?_⟩
    rw [e] at q;cases q
  refine ⟨_,.head _,_,.frz,lim_ (by simp;omega),rfl,?_⟩
  show ifB (([lsetW,lpopW].map V.str).any (V.isStr cmd)) _ _
  rw [any_strs,List.length_map]
  refine ifD (fun h=>?_) fun h=>pre ts.length z (by omega) fun zz zz=>rfl
  refine ⟨701,rfl,rfl,_,.tail _ (.head _),draw_c (A:=(a0,.cell (some (.list (ts.map toldV))))::(a1,.cell (some (.own p)))::(a2,.cell none)::A) P (by decide) (by decide) fun d z2 zz zz=>⟨by decide,?_⟩⟩
  obtain ⟨q,q1,q2⟩:=turn_ (t:=(ts.length:Int)) (d:=d) (m:=4) (by decide) (by decide)
  rw [q2]
  have q3:q≤3:=Nat.le_of_lt_succ q1
  exact pre q z2 q3 fun a b=>by
    rcases List.mem_cons.mp h with h | h
    · exact absurd h a
    · exact absurd (List.mem_singleton.mp h) b
end
structure Row where
  cmd:List Nat
  shape:Int
  nums:List Int
  told:List (Int×Int×Int)
  vals:List Int
  how:Int
noncomputable def rowV (r:Row):V:=.tup [.str r.cmd,.int r.shape,.list (r.nums.map .int),.list (r.told.map toldV),.list (r.vals.map .int),.int r.how]
noncomputable def usageV (u:List Nat×Nat×List Nat):V:=.tup [.str u.1,.int u.2.1,.str u.2.2]
noncomputable def toldR:List Row:=[⟨[108,115,101,116],0,[0,11],[(0,1,0),(2,0,1)],[5],0⟩,⟨[108,115,101,116],3,[0,11],[(0,1,0),(0,1,0),(0,0,0)],[2],1⟩,⟨[108,115,101,116],0,[0,2],[(2,0,2)],[0],0⟩,⟨[108,115,101,116],0,[0],[(0,(-1),0)],[0],0⟩,⟨[108,115,101,116],0,[0],[(0,1,0),(6,0,0)],[7],0⟩,⟨[108,115,101,116],4,[3,3],[(0,0,0),(1,0,0)],[4],0⟩,⟨[108,115,101,116],0,[0,6],[(0,1,0),(0,0,0)],[0],0⟩,⟨[108,115,101,116],0,[9],[],[8],0⟩,⟨[108,112,111,112],3,[0,5],[],[],0⟩,⟨[108,112,111,112],0,[13,0],[(0,0,0),(0,0,0)],[],0⟩,⟨[108,112,111,112],0,[0],[(0,1,0)],[],0⟩,⟨[108,112,111,112],0,[0,2],[(0,5,0),(8,0,0)],[],0⟩,⟨[108,112,111,112],0,[],[],[],0⟩,⟨[108,112,111,112],0,[10,7],[(3,0,1),(1,0,0)],[],0⟩,⟨[108,105,110,115,101,114,116],0,[0,2],[(1,0,0)],[1,4],0⟩,⟨[108,105,110,115,101,114,116],5,[0,2,5],[(3,0,1)],[12],0⟩,⟨[108,105,110,115,101,114,116],0,[4,0],[(5,0,2)],[8],0⟩,⟨[108,114,101,112,108,97,99,101],0,[0,2,5,1],[(4,0,1),(3,0,1)],[6,9],0⟩,⟨[108,114,101,112,108,97,99,101],0,[0,2,5],[(7,2,0),(0,0,0)],[3],0⟩,⟨[108,114,101,112,108,97,99,101],6,[9],[(0,0,0),(0,0,0)],[],0⟩,⟨[108,114,101,112,108,97,99,101],0,[0],[(9,0,0),(9,0,3)],[14],0⟩,⟨[108,101,100,105,116],3,[0,4,8],[(0,(-2),0),(0,0,0)],[],0⟩,⟨[108,101,100,105,116],0,[0,1],[(0,0,0),(8,0,2)],[15],0⟩,⟨[108,101,100,105,116],7,[],[(0,0,0),(0,0,0)],[0],0⟩]
noncomputable def usages:List (List Nat×Nat×List Nat):=[([108,105,110,115,101,114,116],1,[108,105,115,116,32,105,110,100,101,120,32,63,101,108,101,109,101,110,116,32,46,46,46,63]),([108,114,101,112,108,97,99,101],2,[108,105,115,116,32,102,105,114,115,116,32,108,97,115,116,32,63,101,108,101,109,101,110,116,32,46,46,46,63]),([108,112,111,112],0,[108,105,115,116,118,97,114,32,63,105,110,100,101,120,63]),([108,101,100,105,116],2,[108,105,115,116,86,97,114,32,102,105,114,115,116,32,108,97,115,116,32,63,101,108,101,109,101,110,116,32,46,46,46,63]),([108,115,101,116],1,[108,105,115,116,86,97,114,32,63,105,110,100,101,120,63,32,63,105,110,100,101,120,32,46,46,46,63,32,118,97,108,117,101])]
section
variable {c:Cx} {n:Nat} {own A B:Own} {Q:PQ} {X:PX}
theorem ret_lit {e:ME} {x:V} {l:List (Option V)} (h:litV e=some x) (hq:Q x own):wpSs c n tabT [.ret e] ⟨l,own⟩ (EndQ Q) (EndX X):=litV_wp e h (end_ hq rfl)
theorem told_c (P:Prog c) (hq:Q (.list (toldR.map rowV)) own):SemCall c (n+1) (.ref 687) [] own Q X:=by
  refine (P.law_told rfl fun as zz=>?_).call
  show wpSs c n tabT law_told_ms ⟨[],own⟩ (EndQ Q) (EndX X)
  unfold law_told_ms
  exact ret_lit (x:=.list (toldR.map rowV)) (by kernel_rfl) hq
theorem usages_c (P:Prog c) (hq:Q (.list (usages.map usageV)) own):SemCall c (n+1) (.ref 694) [] own Q X:=by
  refine (P.law_usages rfl fun as zz=>?_).call
  show wpSs c n tabT law_usages_ms ⟨[],own⟩ (EndQ Q) (EndX X)
  unfold law_usages_ms
  exact ret_lit (x:=.list (usages.map usageV)) (by kernel_rfl) hq
theorem sum_ok {N:Nat} {ys:List V}:(∀y∈ys,∃i:Int,y=.int i∧i.natAbs < N)→∃k,sumV ys=some k∧k.natAbs≤ys.length * N:=by
  induction ys with
  | nil=>
    intro _
    exact ⟨0,rfl,Nat.zero_le _⟩
  | cons y r ih=>
    intro h
    obtain ⟨i,rfl,hi⟩:=h y (.head _)
    obtain ⟨k,h1,h2⟩:=ih fun z hz=>h z (.tail _ hz)
    refine ⟨i+k,by rw [sumV_int,h1];rfl,?_⟩
    have:=Int.natAbs_add_le i k
    rw [List.length_cons,Nat.succ_mul];omega
theorem sum_room {m:Nat} (h:m≤63):m * 2 ^ 1048576 < 2 ^ 2000000:=by
  have h1:m * 2 ^ 1048576≤2 ^ 6 * 2 ^ 1048576:=Nat.mul_le_mul_right _ (Nat.le_trans h (by decide))
  rw [← Nat.pow_add] at h1
  exact Nat.lt_of_le_of_lt h1 (Nat.pow_lt_pow_right (by decide) (by decide))
theorem pen_c (P:Prog c) {xs:List Int} {k:Nat} (hl:xs.length≤63) (hb:∀x∈xs,x.natAbs < 2 ^ 1048576) (hk:k≤1000) (hq:∀p z,Q (.own p) ((p,.list [.int z])::own)):SemCall c (n+1) (.ref 708) [.list (xs.map .int),.int k,.int 24] own Q X:=by
  refine (P.law_pen rfl fun as zz=>?_).call
  have hsh:Shs (xs.map V.int) 60:=.of fun v hv=>by
    obtain ⟨i,_,rfl⟩:=List.mem_map.mp hv
    exact .int
  refine (eqAsk_list0 hsh ?_)
  by_cases h0:xs=[]
  · subst h0
    exact (fun a=>end_ (hq a 0) rfl)
  · have he:(xs.map V.int).isEmpty=false:=by cases xs with | nil=>exact absurd rfl h0 | cons=>rfl
    have hp:=List.length_pos_iff.mpr h0
    have hml:(xs.map V.int).length=xs.length:=List.length_map _
    have f1:=Int.fmod_nonneg_of_pos (k:Int) (b:=((xs.map V.int).length:Nat)) (by omega)
    have f2:=Int.fmod_lt_of_pos (k:Int) (b:=((xs.map V.int).length:Nat)) (by omega)
    rw [he]
    refine ⟨_,.frz,lim_ (by omega),by omega,f1,by omega,by decide,by decide,lim_ (by omega),fun ys h1 h2=>?_⟩
    obtain ⟨s,s1,s2⟩:=sum_ok (N:=2 ^ 1048576) (ys:=ys) fun y hy=>by
      obtain ⟨i,hi,rfl⟩:=List.mem_map.mp (h2 y hy)
      exact ⟨i,rfl,hb i hi⟩
    refine ⟨lim_ (by omega),s,s1,.inr rfl,by decide,by decide,Nat.lt_of_le_of_lt s2 (sum_room (by omega)),?_,fun a=>end_ (hq a _) rfl⟩
    refine Nat.lt_of_lt_of_le (m:=2 ^ 128) ?_ (Nat.pow_le_pow_right (by decide) (by decide))
    show ((10:Int) ^ 30+57+k).natAbs < 2 ^ 128
    omega
end
noncomputable def wrongW (r:List Ix):List (List Nat):=r.filterMap fun i=>match i.num with
  | none=>some i.w
  | some _=>none
theorem badOf_eq (r:List Ix):badOf r=match wrongW r with
    | []=>none
    | w::_=>some (badMsg w,badEc):=by
  induction r with
  | nil=>
    exact rfl
  | cons i r ih=>
    unfold badOf wrongW
    rw [List.filterMap_cons]
    cases i.num with
    | none=>rfl
    | some k=>exact ih
theorem wrongW_mem {r:List Ix} {w:List Nat} (h:w∈wrongW r):∃i∈r,i.w=w:=by
  obtain ⟨i,hi,e⟩:=List.mem_filterMap.mp h
  refine ⟨i,hi,?_⟩
  cases hn:i.num with
  | none=>rw [hn] at e;exact Option.some.inj e
  | some k=>rw [hn] at e;cases e
theorem strs_sh {l:List (List Nat)} (h:∀w∈l,∀x∈w,x < 1114112):Shs (l.map V.str) 60:=.of fun v hv=>by
  obtain ⟨w,hw,rfl⟩:=List.mem_map.mp hv
  exact .str (h w hw)
theorem dp_item {x y:Nd} (hg:Good x) (h:y∈(litems x).1):dp y≤dp x:=by
  cases hg with
  | node hx=>
    rw [dp]
    exact Nat.le_succ_of_le (dps_mem h)
  | leaf hs=>
    obtain ⟨t,_,rfl⟩:=known_good _ hs y h
    rw [dp,dp];exact Nat.le_refl _
section
variable {c:Cx} {n:Nat} {own A B:Own} {Q:PQ} {X:PX}
theorem wrong_comp {caps:List (Option V)} {K:List V→Own→Prop} {own:Own} (r:List Ix):∀(acc:List V),K (acc++(wrongW r).map V.str) own→
    compGo (fun it own K=>wpAnd c n tabT [(.cmp .Is (.idx (.loc 0) (.int 2)) .non)] ⟨some it::caps,own⟩ (fun b st2=>ifB b (wpE c n tabT (.idx (.loc 0) (.int 0)) st2 (fun y st3=>K (some y) st3.own) NoX) (K none st2.own)) NoX) (r.map ixV) acc own K:=by
  induction r with
  | nil=>
    intro acc h
    rw [show (wrongW []).map V.str=[] from rfl,List.append_nil] at h;exact h
  | cons i r ih=>
    intro acc h
    refine ⟨by decide,by decide,_,rfl,?_⟩
    unfold wrongW at h
    rw [List.filterMap_cons] at h
    cases hn:i.num with
    | none=>
      rw [hn] at h
      refine ⟨by decide,by decide,_,rfl,ih (acc++[.str i.w]) ?_⟩
      rw [List.append_assoc];exact h
    | some k=>
      rw [hn] at h
      refine ih (acc++[]) ?_
      rw [List.append_nil];exact h
theorem got_loop (P:Prog c) {all:List Ix} (hl:all.length≤1000) (hi:∀i∈all,IxS i) (todo:List Ix):∀(done:List Ix) (x:Nd) (o2 o3 o4 o5 o6 o7 o8 o9:Option V) {K:PS},all=done++todo→Good x→sz x≤20000→dp x≤3→Q (.tup [.str (lgot (ntext x) x todo).1,faultV (lgot (ntext x) x todo).2]) own→
    (∀y o2 o3 o4 o5 o6 o7 o8 o9,Good y→sz y≤20000→dp y≤3→Q (.tup [.str (ntext y),.tup []]) own→K ⟨[some (ndV y),some (.list (all.map ixV)),o2,o3,o4,o5,o6,o7,o8,o9],own⟩)→
    forGo (forP 2 (wpSs c (n+8) tabT law_got_b0) (seqR (wpSs c (n+8) tabT (law_got_ms.drop 1)) (EndQ Q) (EndX X)) (EndX X)) ((List.range' done.length todo.length).map fun (k:Nat)=>V.int k) ⟨[some (ndV x),some (.list (all.map ixV)),o2,o3,o4,o5,o6,o7,o8,o9],own⟩ K:=by
  induction todo with
  | nil=>
    intro done x o2 o3 o4 o5 o6 o7 o8 o9 K e hg hs hd hq hk
    exact hk x _ _ _ _ _ _ _ _ hg hs hd hq
  | cons i r ih=>
    intro done x o2 o3 o4 o5 o6 o7 o8 o9 K e hg hs hd hq hk
    have hall:all.length=done.length+(r.length+1):=by rw [e];simp
    have hat:(all.map ixV)[((done.length:Nat):Int).toNat]?=some (ixV i):=by rw [e];simp
    have hin:=hi i (by rw [e];simp)
    have hsz:=items_short hg (by omega)
    have hiv:(ndVs (litems x).1).length≤LIM:=lim_ (by rw [ndVs_len];omega)
    rw [lgot_cons] at hq
    refine ⟨734,rfl,rfl,getL_nd (x:=x) rfl ?_⟩
    refine items_c P ⟨rfl,by omega,by omega,ixV i,hat,rfl,?_⟩
    have key:∀(LK:QF),(∀v st,LK (.ret v) st=EndQ Q (.ret v) st)→(∀st,forGo (forP 2 (wpSs c (n+8) tabT law_got_b0) (seqR (wpSs c (n+8) tabT (law_got_ms.drop 1)) (EndQ Q) (EndX X)) (EndX X)) ((List.range' (done.length+1) r.length).map fun (k:Nat)=>V.int k) st K→LK .next st)→wpSs c (n+8) tabT (law_got_b0.drop 2) ⟨[some (ndV x),some (.list (all.map ixV)),some (.int done.length),some (.list (ndVs (litems x).1)),some (faultV (litems x).2),some (.str i.w),some (.bool i.e),some (optI i.num),o8,o9],own⟩ LK (EndX X):=fun LK hR hN=>by
      have bad:∀(f:List Nat×List V),Shs [.int 1,.str f.1,.tup f.2] 60→Q (.tup [.str [],faultV (some f)]) own→wpSs c (n+8) tabT (law_got_b0.drop 3) ⟨[some (ndV x),some (.list (all.map ixV)),some (.int done.length),some (.list (ndVs (litems x).1)),some (faultV (some f)),some (.str i.w),some (.bool i.e),some (optI i.num),o8,o9],own⟩ LK (EndX X):=fun f hsf hq=>by
        refine (eqAsk_tup0 hsf ?_)
        show LK (.ret _) _
        rw [hR]
        exact end_ hq rfl
      cases hf:(litems x).2 with
      | some f=>
        rw [hf] at hq
        have hsf:=fault_sh hg hf
        exact (eqAsk_tup0 hsf (bad f hsf hq))
      | none=>
        rw [hf] at hq
        refine (eqAsk_tup0 .nil ?_)
        cases hn:i.num with
        | none=>
          rw [hn] at hq bad
          have hsb:Shs [.int 1,.str (badMsg i.w),.tup badEc] 60:=bad_sh hin
          exact ⟨741,rfl,rfl,bad_c P (by have:=hin.len;omega) (bad (badMsg i.w,badEc) hsb hq)⟩
        | some k=>
          rw [hn] at hq
          dsimp only at hq
          refine (eqAsk_tup0 .nil ?_)
          have go:∀p:Int,p=atI ((litems x).1.length - 1) (i.e,k)→wpSs c (n+8) tabT (law_got_b0.drop 5) ⟨[some (ndV x),some (.list (all.map ixV)),some (.int done.length),some (.list (ndVs (litems x).1)),some (.tup []),some (.str i.w),some (.bool i.e),some (.int k),some (.int p),o9],own⟩ LK (EndX X):=fun p hp=>by
            rw [← hp] at hq
            by_cases hout:p < 0∨((litems x).1.length:Int)≤p
            · rw [if_pos hout,badOf_eq] at hq
              have out:∀R:QF,(∀v st,R (.ret v) st=EndQ Q (.ret v) st)→wpSs c (n+8) tabT [.set (.loc 9) (.comp (.idx (.loc 0) (.int 0)) [(.cmp .Is (.idx (.loc 0) (.int 2)) .non)] [] (.slc (.loc 1) (.bin .Add (.loc 2) (.int 1)) .non)),.ret (.tup [(.str []),(.ite (.cmp .NotEq (.loc 9) (.lst [])) (.call (.glob (.ref 741)) [(.idx (.loc 9) (.int 0))]) (.tup []))])] ⟨[some (ndV x),some (.list (all.map ixV)),some (.int done.length),some (.list (ndVs (litems x).1)),some (.tup []),some (.str i.w),some (.bool i.e),some (.int k),some (.int p),o9],own⟩ R (EndX X):=fun R hR=>by
                refine ⟨_,_,part_ (k:=done.length+1) (by simp),rfl,lim_ (by simp;omega),?_⟩
                have hc:cutL (all.map ixV) (some (done.length+1)) none=r.map ixV:=by
                  rw [show all.map ixV=((done++[i]).map ixV)++r.map ixV by rw [e];simp]
                  exact cut_from (by simp)
                rw [hc]
                refine ⟨_,rfl,lim_ (by simp;omega),wrong_comp r [] (eqAsk_list0 (strs_sh fun w hw=>?_) ?_)⟩
                · obtain ⟨j,hj,rfl⟩:=wrongW_mem hw
                  exact (hi j (by rw [e];simp [hj])).small
                have hwl:∀w∈wrongW r,w.length≤2000:=fun w hw=>by
                  obtain ⟨j,hj,rfl⟩:=wrongW_mem hw
                  exact (hi j (by rw [e];simp [hj])).len
                cases hw:wrongW r with
                | nil=>
                  rw [hw] at hq
                  refine ?_
                  show R (.ret _) _
                  rw [hR]
                  exact end_ hq rfl
                | cons w ws=>
                  rw [hw] at hq hwl
                  refine ⟨741,rfl,rfl,by decide,by decide,_,rfl,bad_c P (by have:=hwl w (.head _);omega) ?_⟩
                  show R (.ret _) _
                  rw [hR]
                  exact end_ hq rfl
              refine ifD (fun h1=>out _ fun zz zz=>hR _ _) fun h1=>⟨_,.frz,hiv,?_⟩
              rw [ndVs_len]
              exact ifT (by omega) (out (seqR (wpSs c (n+8) tabT (law_got_b0.drop 6)) LK (EndX X)) fun zz zz=>hR _ _)
            · rw [if_neg hout] at hq
              refine ifF (by omega) ⟨_,.frz,hiv,?_⟩
              rw [ndVs_len]
              obtain ⟨q,rfl⟩:=Int.eq_ofNat_of_zero_le (show 0≤p by omega)
              have hq1:q < (litems x).1.length:=by omega
              have hy:(litems x).1[q]?=some (litems x).1[q]:=List.getElem?_eq_getElem hq1
              have hm:(litems x).1[q]∈(litems x).1:=List.getElem_mem hq1
              rw [show ((q:Int).toNat)=q from rfl,hy] at hq
              generalize (litems x).1[q]=y at hq hy hm
              refine ifF (by omega) ⟨by omega,by omega,ndV y,?_,hN _ ?_⟩
              · show (ndVs (litems x).1)[q]?=_
                rw [ndVs_map,List.getElem?_map,hy];rfl
              · have:=ih (done++[i]) y (some (.int done.length)) (some (.list (ndVs (litems x).1))) (some (.tup [])) (some (.str i.w)) (some (.bool i.e)) (some (.int k)) (some (.int q)) o9 (K:=K) (by rw [e];simp) (hg.items y hm) (Nat.le_trans (litem_sz hg hm) hs) (Nat.le_trans (dp_item hg hm) hd) hq hk
                rw [List.length_append,List.length_singleton] at this
                exact this
          cases he:i.e with
          | true=>
            rw [he] at go
            refine ⟨_,.frz,hiv,?_⟩
            rw [ndVs_len]
            exact go _ (by unfold atI;rw [if_pos (show (true,k).1=true from rfl)];show k+_ - 1=_ - 1+k;omega)
          | false=>
            rw [he] at go
            exact (go _ (by unfold atI;rw [if_neg (show ¬ (false,k).1=true from Bool.false_ne_true)]))
    exact key _ (fun zz zz=>rfl) fun zz h=>h
theorem got_c (P:Prog c) {x:Nd} {ixs:List Ix} (hl:ixs.length≤1000) (hi:∀i∈ixs,IxS i) (hg:Good x) (hs:sz x≤20000) (hd:dp x≤3) (hq:Q (.tup [.str (lgot (ntext x) x ixs).1,faultV (lgot (ntext x) x ixs).2]) own):SemCall c (n+9) (.ref 765) [ndV x,.list (ixs.map ixV)] own Q X:=by
  refine (P.law_got rfl fun as zz=>?_).call
  have hml:(ixs.map ixV).length=ixs.length:=List.length_map _
  refine ⟨_,.frz,lim_ (by omega),by omega,by omega,_,rfl,by simp;exact lim_ (by omega),?_⟩
  have:=got_loop (n:=n) (X:=X) P hl hi ixs [] x none none none none none none none none (K:=fun st=>wpSs c (n+8) tabT (law_got_ms.drop 1) st (EndQ Q) (EndX X)) rfl hg hs hd hq fun y o2 o3 o4 o5 o6 o7 o8 o9 gy sy dy hy=>by
    refine ⟨713,rfl,rfl,getL_nd (x:=y) rfl ((text_written (n:=n) P 3).text y gy sy dy (end_ hy rfl))⟩
  rw [← hml,show (List.range' ([]:List Ix).length (ixs.map ixV).length)=List.range (ixs.map ixV).length from List.range_eq_range'.symm] at this
  exact this
end
theorem sz_pos (x:Nd):20≤sz x:=by cases x<;>rw [sz]<;>omega
theorem dps_le {l:List Nd} {k:Nat} (h:∀x∈l,dp x≤k):dps l≤k:=by
  induction l with
  | nil=>exact Nat.zero_le _
  | cons x r ih=>rw [dps];exact Nat.max_le.mpr ⟨h x (.head _),ih fun y hy=>h y (.tail _ hy)⟩
theorem items_dp {x:Nd} (hg:Good x):dps (litems x).1≤dp x:=dps_le fun zz h=>dp_item hg h
structure PutOk (x:Nd) (ixs:List Ix) (more:List Nd) (y:Nd):Prop where
  good:Good y
  sz:sz y≤(ixs.length+1) * (Mine.Internal.sz x+40)+szs more
  dp:dp y≤Mine.Internal.dp x+dps more+ixs.length
theorem PutOk.self {x:Nd} {ixs:List Ix} {more:List Nd} (hg:Good x):PutOk x ixs more x:=by
  refine ⟨hg,?_,by omega⟩
  rw [Nat.succ_mul]
  have:=Nat.zero_le (ixs.length * (Mine.Internal.sz x+40))
  omega
theorem part_mem {l m:List Nd} {p:Nat} {y:Nd} (h:y∈l.take p++m++l.drop (p+1)):y∈l∨y∈m:=by
  rcases List.mem_append.mp h with h | h
  · exact (List.mem_append.mp h).imp List.mem_of_mem_take id
  · exact .inl (List.mem_of_mem_drop h)
theorem part_dp {l m:List Nd} {p k:Nat} (h1:dps l≤k) (h2:dps m≤k):dps (l.take p++m++l.drop (p+1))≤k:=dps_le fun zz hy=>(part_mem hy).elim (fun h=>Nat.le_trans (dps_mem h) h1) fun h=>Nat.le_trans (dps_mem h) h2
theorem lput_ok {more:List Nd} (hm:∀x∈more,Good x) (ixs:List Ix):∀(x:Nd),Good x→PutOk x ixs more (lput x ixs more).1:=by
  induction ixs with
  | nil=>
    intro x hg
    show PutOk x [] more (more.headD (.leaf []))
    have h0:=sz_pos x
    have e:([]:List Ix).length=0:=rfl
    induction more using List.casesOn with
    | nil=>exact ⟨leaf_nil,by show sz (.leaf [])≤_;rw [sz,e];omega,Nat.zero_le _⟩
    | cons z r=>
      refine ⟨hm z (.head _),?_,?_⟩
      · show sz z≤_
        rw [szs,e];omega
      · show dp z≤_
        rw [dps,e];have:=Nat.le_max_left (dp z) (dps r);omega
  | cons i r ih=>
    intro x hg
    rw [lput_cons]
    have h1:=items_sz hg
    have h2:=items_dp hg
    have hx:=sz_pos x
    cases (litems x).2 with
    | some f=>exact .self hg
    | none=>
      cases i.num with
      | none=>exact .self hg
      | some k=>
        dsimp only
        generalize atI ((litems x).1.length - 1) (i.e,k)=p
        generalize (if more.isEmpty then (1:Int) else 0)=g
        split
        · exact .self hg
        · split
          · have hs:=szs_rep (items:=(litems x).1) (more:=more) (p:=p.toNat)
            refine ⟨.node fun y hy=>(part_mem hy).elim (hg.items y) (hm y),?_,?_⟩
            · rw [sz,List.length_cons,Nat.succ_mul,Nat.succ_mul]
              have:=Nat.zero_le (r.length * (sz x+40))
              omega
            · rw [dp]
              have:=part_dp (l:=(litems x).1) (m:=more) (p:=p.toNat) (k:=dp x+dps more) (by omega) (by omega)
              rw [List.length_cons];omega
          · have hy:Good (((litems x).1[p.toNat]?).getD (.leaf []))∧sz (((litems x).1[p.toNat]?).getD (.leaf []))≤sz x∧dp (((litems x).1[p.toNat]?).getD (.leaf []))≤dp x:=by
              cases hq:(litems x).1[p.toNat]? with
              | none=>exact ⟨leaf_nil,by show sz (.leaf [])≤_;rw [sz];exact hx,Nat.zero_le _⟩
              | some y=>
                have hmem:=List.mem_of_getElem? hq
                exact ⟨hg.items y hmem,litem_sz hg hmem,dp_item hg hmem⟩
            generalize ((litems x).1[p.toNat]?).getD (.leaf [])=y at hy
            obtain ⟨g1,g2,g3⟩:=hy
            obtain ⟨k1,k2,k3⟩:=ih y g1
            generalize (lput y r more).1=u at k1 k2 k3
            have hs:=szs_rep (items:=(litems x).1) (more:=[u]) (p:=p.toNat)
            have hu:szs [u]=sz u:=by rw [szs,szs,Nat.add_zero]
            have hd:dps [u]=dp u:=by rw [dps,dps,Nat.max_zero]
            refine ⟨.node fun z hz=>(part_mem hz).elim (hg.items z) fun h=>List.mem_singleton.mp h▸k1,?_,?_⟩
            · rw [sz,List.length_cons,Nat.succ_mul]
              have:=Nat.mul_le_mul_left (r.length+1) (Nat.add_le_add_right g2 40)
              omega
            · rw [dp]
              have:=part_dp (l:=(litems x).1) (m:=[u]) (p:=p.toNat) (k:=dp x+dps more+r.length) (by omega) (by omega)
              rw [List.length_cons];omega
noncomputable def sel {α:Type} (f:Nat→Bool):Nat→List α→List α
  | _,[]=>[]
  | k,x::r=>if f k then x::sel f (k+1) r else sel f (k+1) r
theorem sel_nil {α:Type} (f:Nat→Bool) (k:Nat):sel f k ([]:List α)=[]:=rfl
theorem sel_cons {α:Type} (f:Nat→Bool) (k:Nat) (x:α) (r:List α):sel f k (x::r)=if f k then x::sel f (k+1) r else sel f (k+1) r:=rfl
theorem sub_nat {c:Int} {k:Nat} (h:(k:Int) < c):(c - k).toNat=(c - (k+1:Nat)).toNat+1:=by omega
theorem sub_z {c:Int} {k:Nat} (h:c≤(k:Int)):(c - k).toNat=0∧(c - (k+1:Nat)).toNat=0:=
  ⟨Int.toNat_of_nonpos (Int.sub_nonpos_of_le h),Int.toNat_of_nonpos (Int.sub_nonpos_of_le (Int.le_trans h (Int.ofNat_le.mpr (Nat.le_succ k))))⟩
theorem sel_lt {α:Type} (c:Int) (r:List α):∀(k:Nat),sel (fun j=>decide ((j:Int) < c)) k r=r.take (c - k).toNat:=by
  induction r with
  | nil=>
    intro k
    rw [sel_nil,List.take_nil]
  | cons x r ih=>
    intro k
    rw [sel_cons,ih (k+1)]
    by_cases h:(k:Int) < c
    · rw [if_pos (decide_eq_true h)]
      have:=sub_nat h
      rw [this,List.take_succ_cons]
    · rw [if_neg (by rw [decide_eq_false h];decide)]
      obtain ⟨e1,e2⟩:=sub_z (Int.not_lt.mp h)
      rw [e1,e2];rfl
theorem sel_ge {α:Type} {f:Nat→Bool} (c:Int) (hf:∀j:Nat,f j=decide (c≤(j:Int))) (r:List α):∀(k:Nat),sel f k r=r.drop (c - k).toNat:=by
  induction r with
  | nil=>
    intro k
    rw [sel_nil,List.drop_nil]
  | cons x r ih=>
    intro k
    rw [sel_cons,ih (k+1),hf]
    by_cases h:c≤(k:Int)
    · rw [if_pos (decide_eq_true h)]
      obtain ⟨e1,e2⟩:=sub_z h
      rw [e1,e2];rfl
    · rw [if_neg (by rw [decide_eq_false h];decide)]
      have:=sub_nat (Int.not_le.mp h)
      rw [this,List.drop_succ_cons]
theorem clipT (x:Int):(max 0 x).toNat=x.toNat:=by
  rcases Int.le_total 0 x with h | h
  · rw [Int.max_eq_right h]
  · rw [Int.max_eq_left h,Int.toNat_of_nonpos h];rfl
theorem sel_rep {α:Type} (items more:List α) (p l:Int):sel (fun j=>decide ((j:Int) < p)) 0 items++more++sel (fun j=>decide (p≤(j:Int)) && decide (l < (j:Int))) 0 items=repV items p l more:=by
  rw [sel_lt,sel_ge (max p (l+1)) fun j=>by
    rw [← Bool.decide_and]
    exact decide_eq_decide.mpr (Int.max_le.trans Iff.rfl).symm]
  unfold repV repB
  rw [clipT,Int.natCast_zero,Int.sub_zero,Int.sub_zero]
  have hT:∀x:Int,(items.length:Int)≤x→items.length≤x.toNat:=fun x h=>by omega
  congr 1
  · congr 1
    rcases Int.le_total p items.length with h | h
    · rw [Int.min_eq_left h]
    · rw [Int.min_eq_right h,List.take_of_length_le (hT _ h),List.take_of_length_le (hT _ (Int.le_refl _))]
  · rcases Int.le_total p items.length with h | h
    · rcases Int.le_total (l+1) items.length with h2 | h2
      · rw [Int.min_eq_left h,Int.min_eq_left h2,Int.max_assoc,clipT]
      · rw [Int.min_eq_right h2,List.drop_eq_nil_of_le (hT _ (Int.le_trans h2 (Int.le_max_right ..))),List.drop_eq_nil_of_le (hT _ (Int.le_max_right ..))]
    · rw [Int.min_eq_right h,List.drop_eq_nil_of_le (hT _ (Int.le_trans h (Int.le_max_left ..))),List.drop_eq_nil_of_le (hT _ (Int.le_trans (Int.le_max_right ..) (Int.le_max_left ..)))]
noncomputable def linsW:List Nat:=[108,105,110,115,101,114,116]
noncomputable def orB (f:Fault) (r:List Ix):Fault:=match f with
  | some g=>some g
  | none=>badOf r
noncomputable def FSh (f:Fault):Prop:=∀g,f=some g→Shs [.int 1,.str g.1,.tup g.2] 60
theorem orB_sh {f:Fault} {r:List Ix} (h:FSh f) (hi:∀i∈r,IxS i):FSh (orB f r):=by
  induction f using Option.casesOn with
  | some g=>exact h
  | none=>
    show FSh (badOf r)
    induction r with
    | nil=>exact fun g e=>nomatch e
    | cons i r ih=>
      rw [badOf.eq_def]
      dsimp only
      cases i.num with
      | none=>exact fun g e=>by cases e;exact bad_sh (hi i (.head _))
      | some k=>exact ih fun j hj=>hi j (.tail _ hj)
noncomputable def loI (cmd:List Nat) (x:Nd):Int:=if cmd=linsW then (litems x).1.length else (litems x).1.length - 1
noncomputable def plI (lo:Int) (i:Ix):Int:=atI lo (i.e,i.num.getD 0)
noncomputable def lastI (cmd:List Nat) (lo:Int) (ixs:List Ix):Int:=if cmd=linsW then (ixs.map (plI lo)).getD 0 0 - 1 else (ixs.map (plI lo)).getD 1 0
noncomputable def dueL (cmd:List Nat) (x:Nd) (ixs:List Ix) (more:List Nd):List Nd:=repV (litems x).1 ((ixs.map (plI (loI cmd x))).getD 0 0) (lastI cmd (loI cmd x) ixs) more
structure Due where
  f:Fault
  r:List Nat
  m:Nd
noncomputable def due (cmd:List Nat) (x:Nd) (ixs:List Ix) (more:List Nd):Due:=
  if cmd=lsetW then ⟨(lput x ixs more).2,ntext (lput x ixs more).1,(lput x ixs more).1⟩
  else if cmd=lpopW then match (lgot (ntext x) x ixs).2 with
    | some f=>⟨some f,[],x⟩
    | none=>⟨(lput x ixs []).2,(lgot (ntext x) x ixs).1,(lput x ixs []).1⟩
  else match orB (litems x).2 ixs with
    | some f=>⟨some f,[],x⟩
    | none=>⟨none,ntext (.node (dueL cmd x ixs more)),.node (dueL cmd x ixs more)⟩
noncomputable def dueV (d:Due):V:=.tup [faultV d.f,.str d.r,ndV d.m]
theorem badOf_none {r:List Ix}:badOf r=none→∀i∈r,∃k,i.num=some k:=by
  induction r with
  | nil=>
    intro _ _ h
    exact nomatch h
  | cons i r ih=>
    intro h j hj
    rw [badOf.eq_def] at h
    dsimp only at h
    cases hn:i.num with
    | none=>rw [hn] at h;cases h
    | some k=>
      rw [hn] at h
      rcases List.mem_cons.mp hj with rfl | hj
      · exact ⟨k,hn⟩
      · exact ih h j hj
section
variable {c:Cx} {n:Nat} {own A B:Own} {Q:PQ} {X:PX}
theorem due_loop (P:Prog c) {l0 l1 l2 l3 l4 l6 l7 l9 l10 l11 l12:Option V} {R:QF} {Y:XT}:∀(r:List Ix) (f:Fault) (o8:Option V) {K:PS},FSh f→(∀i∈r,IxS i)→(∀o8,K ⟨[l0,l1,l2,l3,l4,some (faultV (orB f r)),l6,l7,o8,l9,l10,l11,l12],own⟩)→
    forGo (forP 8 (wpSs c (n+1) tabT law_due_b0) R Y) (r.map ixV) ⟨[l0,l1,l2,l3,l4,some (faultV f),l6,l7,o8,l9,l10,l11,l12],own⟩ K
  | [],f,o8,K,hf,hi,hk=>by
    have e:orB f []=f:=by cases f<;>rfl
    rw [e] at hk;exact hk _
  | i::r,some g,o8,K,hf,hi,hk=>
    (eqAsk_tup0 (hf g rfl) (due_loop P r (some g) _ hf (fun j hj=>hi j (.tail _ hj)) hk))
  | i::r,none,o8,K,hf,hi,hk=>by
    refine (eqAsk_tup0 .nil ⟨by decide,by decide,_,rfl,?_⟩)
    have hin:=hi i (.head _)
    cases hn:i.num with
    | some k=>
      have e:orB none (i::r)=orB none r:=by show badOf (i::r)=badOf r;rw [badOf.eq_def];dsimp only;rw [hn]
      rw [e] at hk
      exact due_loop P r none _ hf (fun j hj=>hi j (.tail _ hj)) hk
    | none=>
      have e:orB none (i::r)=orB i.bad r:=by show badOf (i::r)=i.bad;rw [badOf.eq_def];dsimp only;rw [hn]
      rw [e] at hk
      refine ⟨741,rfl,rfl,by decide,by decide,_,rfl,bad_c P (by have:=hin.len;omega) ?_⟩
      exact due_loop P r i.bad _ (fun g e=>by cases e;exact bad_sh hin) (fun j hj=>hi j (.tail _ hj)) hk
theorem place_comp {a:Addr} {lo:Int} {own:Own} (ha:(a,OO.cell (some (.int lo)))∈own) {K:List V→Own→Prop} (r:List Ix):∀(acc:List V),(∀i∈r,∃k,i.num=some k)→K (acc++(r.map (plI lo)).map .int) own→
    compGo (fun it own K=>wpAnd c n tabT [] ⟨some it::[some (.cell a)],own⟩ (fun b st2=>ifB b (wpE c n tabT (.ite (.idx (.loc 0) (.int 1)) (.bin .Add (.idx (.loc 0) (.int 2)) (.loc 1)) (.idx (.loc 0) (.int 2))) st2 (fun y st3=>K (some y) st3.own) NoX) (K none st2.own)) NoX) (r.map ixV) acc own K:=by
  induction r with
  | nil=>
    intro acc _ h
    rw [show (([]:List Ix).map (plI lo)).map V.int=[] from rfl,List.append_nil] at h;exact h
  | cons i r ih=>
    intro acc hi h
    obtain ⟨k,hk⟩:=hi i (.head _)
    have next:∀p,p=plI lo i→compGo (fun it own K=>wpAnd c n tabT [] ⟨some it::[some (.cell a)],own⟩ (fun b st2=>ifB b (wpE c n tabT (.ite (.idx (.loc 0) (.int 1)) (.bin .Add (.idx (.loc 0) (.int 2)) (.loc 1)) (.idx (.loc 0) (.int 2))) st2 (fun y st3=>K (some y) st3.own) NoX) (K none st2.own)) NoX) (r.map ixV) (acc++[.int p]) own K:=fun p hp=>by
      refine ih _ (fun j hj=>hi j (.tail _ hj)) ?_
      rw [List.append_assoc,hp];exact h
    unfold plI atI at next
    rw [hk] at next
    have at2:(ixV i)=.tup [.str i.w,.bool i.e,.int k]:=by unfold ixV;rw [hk];rfl
    rw [List.map_cons,at2]
    refine ⟨by decide,by decide,_,rfl,?_⟩
    cases he:i.e with
    | true=>rw [he] at next;exact ⟨by decide,by decide,_,rfl,_,ha,next _ (Int.add_comm _ _)⟩
    | false=>rw [he] at next;exact ⟨by decide,by decide,_,rfl,next _ rfl⟩
theorem sel_comp {a:Addr} {xs:List Nd} {caps:List (Option V)} {conds:List ME} (f:Nat→Bool) {own:Own} (ha:(a,OO.cell (some (.list (ndVs xs))))∈own) (hl:xs.length≤100000) (hc:∀(k:Nat) (KB:QB),KB (f k) ⟨some (.int k)::some (.cell a)::caps,own⟩→wpAnd c n tabT conds ⟨some (.int k)::some (.cell a)::caps,own⟩ KB NoX) {K:List V→Own→Prop} (r:List Nd):∀(done acc:List Nd),xs=done++r→K (ndVs (acc++sel f done.length r)) own→
    compGo (fun it own K=>wpAnd c n tabT conds ⟨some it::some (.cell a)::caps,own⟩ (fun b st2=>ifB b (wpE c n tabT (.idx (.loc 1) (.loc 0)) st2 (fun y st3=>K (some y) st3.own) NoX) (K none st2.own)) NoX) ((List.range' done.length r.length).map fun (k:Nat)=>V.int k) (ndVs acc) own K:=by
  induction r with
  | nil=>
    intro done acc e h
    rw [sel_nil,List.append_nil] at h;exact h
  | cons x r ih=>
    intro done acc e h
    have hlen:xs.length=done.length+(r.length+1):=by rw [e];simp
    have hat:(ndVs xs)[((done.length:Nat):Int).toNat]?=some (ndV x):=by rw [ndVs_map,e];simp
    have next:∀acc2,K (ndVs (acc2++sel f (done.length+1) r)) own→compGo (fun it own K=>wpAnd c n tabT conds ⟨some it::some (.cell a)::caps,own⟩ (fun b st2=>ifB b (wpE c n tabT (.idx (.loc 1) (.loc 0)) st2 (fun y st3=>K (some y) st3.own) NoX) (K none st2.own)) NoX) ((List.range' (done.length+1) r.length).map fun (k:Nat)=>V.int k) (ndVs acc2) own K:=fun acc2 h2=>by
      have:=ih (done++[x]) acc2 (by rw [e];simp) (by rw [List.length_append];exact h2)
      rw [List.length_append,List.length_singleton] at this
      exact this
    refine hc _ _ ?_
    rw [sel_cons] at h
    cases hf:f done.length with
    | true=>
      rw [hf] at h
      refine ⟨_,ha,by omega,by omega,_,hat,?_⟩
      have e2:ndVs acc++[ndV x]=ndVs (acc++[x]):=by simp [ndVs_map]
      show compGo _ _ (ndVs acc++[ndV x]) _ _
      rw [e2]
      exact next _ (by rw [List.append_assoc];exact h)
    | false=>
      rw [hf] at h
      show compGo _ _ (ndVs acc++[]) _ _
      rw [List.append_nil]
      exact next _ h
end
structure DueOk (cmd:List Nat) (x:Nd) (ixs:List Ix) (more:List Nd):Prop where
  good:Good x
  sz:sz x≤2000
  dp:dp x≤3
  ix:∀i∈ixs,IxS i
  len:ixs.length≤3
  mg:∀y∈more,Good y
  ms:szs more≤1000
  md:dps more≤2
  set:cmd=lsetW→more≠[]
  pop:cmd=lpopW→ixs≠[]
  ins:cmd=linsW→1≤ixs.length
  rest:cmd≠lsetW→cmd≠lpopW→cmd≠linsW→2≤ixs.length
theorem DueOk.put {cmd:List Nat} {x:Nd} {ixs:List Ix} {more:List Nd} (h:DueOk cmd x ixs more):Put more:=⟨h.mg,Nat.le_trans h.md (by decide),by have:=szs_len more;have:=h.ms;omega⟩
theorem put_nil:Put []:=⟨fun zz h=>(nomatch h),by decide,by decide⟩
structure TxOk (x:Nd):Prop where
  good:Good x
  sz:sz x≤20000
  dp:dp x≤8
theorem lput_tx {x:Nd} {ixs:List Ix} {more:List Nd} (hg:Good x) (hs:sz x≤2000) (hd:dp x≤3) (hl:ixs.length≤3) (hm:∀y∈more,Good y) (ms:szs more≤1000) (md:dps more≤2):TxOk (lput x ixs more).1:=by
  obtain ⟨a,b,d⟩:=lput_ok hm ixs x hg
  have:=Nat.mul_le_mul (show ixs.length+1≤4 by omega) (show Mine.Internal.sz x+40≤2040 by omega)
  exact ⟨a,by omega,by omega⟩
theorem dueL_tx {cmd:List Nat} {x:Nd} {ixs:List Ix} {more:List Nd} (h:DueOk cmd x ixs more):TxOk (.node (dueL cmd x ixs more)):=by
  have h1:=items_sz h.good
  have h2:=items_dp h.good
  have h3:=h.sz
  have h4:=h.dp
  have h5:=h.ms
  have h6:=h.md
  unfold dueL
  refine ⟨.node fun y hy=>(repV_mem hy).elim (h.good.items y) (h.mg y),?_,?_⟩
  · rw [Mine.Internal.sz]
    unfold repV
    rw [szs_app,szs_app]
    have e1:=szs_take (repB (litems x).1 ((ixs.map (plI (loI cmd x))).getD 0 0)).toNat (litems x).1
    have e2:=szs_drop_le (max (repB (litems x).1 ((ixs.map (plI (loI cmd x))).getD 0 0)) (min (lastI cmd (loI cmd x) ixs+1) (litems x).1.length)).toNat (litems x).1
    omega
  · rw [Mine.Internal.dp]
    refine Nat.succ_le_succ (dps_le fun y hy=>(repV_mem hy).elim (fun q=>Nat.le_trans (dps_mem q) (by omega)) fun q=>Nat.le_trans (dps_mem q) (by omega))
theorem lgot_sh (ixs:List Ix):∀{x:Nd} (t:List Nat),Good x→(∀i∈ixs,IxS i)→FSh (lgot t x ixs).2:=by
  induction ixs with
  | nil=>
    intro x t hg hi
    exact fun g e=>nomatch e
  | cons i r ih=>
    intro x t hg hi
    rw [lgot_cons]
    cases hf:(litems x).2 with
    | some f=>exact fun g e=>by cases e;exact fault_sh hg hf
    | none=>
      cases i.num with
      | none=>exact fun g e=>by cases e;exact bad_sh (hi i (.head _))
      | some k=>
        dsimp only
        split
        · exact orB_sh (f:=none) (fun g e=>nomatch e) fun j hj=>hi j (.tail _ hj)
        · cases hq:(litems x).1[(atI ((litems x).1.length - 1) (i.e,k)).toNat]? with
          | none=>exact fun g e=>nomatch e
          | some y=>exact ih _ (hg.items y (List.mem_of_getElem? hq)) fun j hj=>hi j (.tail _ hj)
theorem sel_len {α:Type} (f:Nat→Bool) (r:List α):∀(k:Nat),(sel f k r).length≤r.length:=by
  induction r with
  | nil=>
    intro _
    exact Nat.zero_le _
  | cons x r ih=>
    intro k
    rw [sel_cons]
    have:=ih (k+1)
    split
    · rw [List.length_cons,List.length_cons];omega
    · rw [List.length_cons];omega
theorem getL_f {st:St} {i:Nat} {f:Fault} {K:V→Prop} (h:st.loc[i]?=some (some (faultV f))) (k:K (faultV f)):getL st i K:=by
  unfold getL
  rw [h]
  cases f<;>exact k
theorem ifB_k {KB:Bool→Prop} {b:Bool} (h:KB b):ifB b (KB true) (KB false):=by cases b<;>exact h
theorem ifB_k2 {KB:Bool→Prop} {a b:Bool} (h:KB (a && b)):ifB a (ifB b (KB true) (KB false)) (KB false):=by cases a<;>cases b<;>exact h
theorem get_int {ps:List Int} {k:Nat} (h:k < ps.length):([]++ps.map V.int)[k]?=some (.int (ps.getD k 0)):=by simp [List.getD,h]
section
variable {c:Cx} {n:Nat} {own A B:Own} {Q:PQ} {X:PX}
theorem room {m k:Nat} (h:m=k) {f:Value} {xs:List V} (a:SemCall c m f xs own Q X):SemCall c k f xs own Q X:=h▸a
theorem put_c' (P:Prog c) {more:List Nd} (hm:Put more) {ixs:List Ix} {x:Nd} (hg:Good x) (hs:sz x≤50000) (hi:∀i∈ixs,IxS i) (hl:ixs.length≤3) (hne:ixs=[]→more≠[]) (hq:Q (.tup [ndV (lput x ixs more).1,faultV (lput x ixs more).2]) own):SemCall c (n+5) (.ref 760) [ndV x,.list (ixs.map ixV),.list (ndVs more)] own Q X:=
  room (m:=n+3 - ixs.length+ixs.length+2) (by omega) (law_put_c P hm ixs x hg hs hi (by omega) hne hq)
theorem put0_c (P:Prog c) {ixs:List Ix} {x:Nd} (hg:Good x) (hs:sz x≤50000) (hi:∀i∈ixs,IxS i) (hl:ixs.length≤3) (hne:ixs=[]→False) (hq:Q (.tup [ndV (lput x ixs []).1,faultV (lput x ixs []).2]) own):SemCall c (n+5) (.ref 760) [ndV x,.list (ixs.map ixV),.list []] own Q X:=by
  have:=put_c' (n:=n) (X:=X) P put_nil hg hs hi hl (fun e=>(hne e).elim) hq
  rw [ndVs] at this
  exact this
theorem due_c (P:Prog c) {cmd:List Nat} {x:Nd} {ixs:List Ix} {more:List Nd} (h:DueOk cmd x ixs more) (hq:Q (dueV (due cmd x ixs more)) own):SemCall c (n+19) (.ref 770) [.str cmd,ndV x,.list (ixs.map ixV),.list (ndVs more)] own Q X:=by
  refine (P.law_due rfl fun as has=>?_).call
  obtain ⟨a0,a1,a2,a3,rfl⟩:∃a0 a1 a2 a3,as=[a0,a1,a2,a3]:=by
    rcases as with _ | ⟨a0,_ | ⟨a1,_ | ⟨a2,_ | ⟨a3,_ | ⟨_,_⟩⟩⟩⟩⟩<;>first | exact ⟨_,_,_,_,rfl⟩ | cases has
  have hsz:=h.sz
  have hlen:=h.len
  have fin:∀{st:St} {d:Due},Q (dueV d) own→(own).Sublist st.own→EndQ Q (.ret (dueV d)) st:=fun {st d} q s=>.mk s q
  have sub:∀v0 v1 v2 v3,own.Sublist ((a0,OO.cell v0)::(a1,OO.cell v1)::(a2,OO.cell v2)::(a3,OO.cell v3)::own):=fun v0 v1 v2 v3=>List.sublist_append_right [_,_,_,_] _
  unfold due at hq
  refine ifD (fun (e:cmd=lsetW)=>?_) fun (e:¬ cmd=lsetW)=>?_
  · rw [if_pos e] at hq
    obtain ⟨t1,t2,t3⟩:=lput_tx h.good h.sz h.dp h.len h.mg h.ms h.md
    refine ⟨760,rfl,rfl,getL_nd (x:=x) rfl ?_⟩
    refine put_c' (n:=n+13) P h.put h.good (by omega) h.ix h.len (fun zz=>h.set e) ?_
    refine ⟨rfl,getL_f (f:=(lput x ixs more).2) rfl ⟨713,rfl,rfl,getL_nd (x:=(lput x ixs more).1) rfl ?_⟩⟩
    refine (text_written (n:=n) P 8).text _ t1 t2 t3 ?_
    refine getL_nd (x:=(lput x ixs more).1) rfl (.mk (sub _ _ _ _) hq)
  rw [if_neg e] at hq
  refine ifD (fun (e2:cmd=lpopW)=>?_) fun (e2:¬ cmd=lpopW)=>?_
  · rw [if_pos e2] at hq
    refine ⟨765,rfl,rfl,getL_nd (x:=x) rfl ?_⟩
    refine got_c (n:=n+9) P (by omega) h.ix h.good (by omega) h.dp ?_
    have fs:FSh (lgot (ntext x) x ixs).2:=lgot_sh ixs _ h.good h.ix
    refine ⟨rfl,getL_f (f:=(lgot (ntext x) x ixs).2) rfl ?_⟩
    cases hf:(lgot (ntext x) x ixs).2 with
    | some f=>
      rw [hf] at hq
      exact eqAsk_tup0 (fs f hf) (getL_nd (x:=x) rfl (.mk (sub _ _ _ _) hq))
    | none=>
      rw [hf] at hq
      refine eqAsk_tup0 .nil ⟨760,rfl,rfl,getL_nd (x:=x) rfl ?_⟩
      refine put0_c (n:=n+13) P h.good (by omega) h.ix h.len (h.pop e2) ?_
      exact ⟨rfl,getL_f (f:=(lput x ixs []).2) rfl (getL_nd (x:=(lput x ixs []).1) rfl (.mk (sub _ _ _ _) hq))⟩
  rw [if_neg e2] at hq
  have hiv:(ndVs (litems x).1).length≤LIM:=lim_ (by rw [ndVs_len];have:=items_short h.good (by omega);omega)
  have hil:(litems x).1.length≤50000:=items_short h.good (by omega)
  have hml:more.length≤1000:=h.put.len
  refine ⟨734,rfl,rfl,getL_nd (x:=x) rfl (items_c P ⟨rfl,a0,none,_,rfl,.here,?_⟩)⟩
  refine ⟨_,rfl,lim_ (by simp;omega),?_⟩
  refine due_loop P ixs (litems x).2 none (fun g e=>fault_sh h.good e) h.ix fun o8=>?_
  refine getL_f (f:=orB (litems x).2 ixs) rfl ?_
  have fs:FSh (orB (litems x).2 ixs):=orB_sh (fun g e=>fault_sh h.good e) h.ix
  cases hg:orB (litems x).2 ixs with
  | some f=>
    rw [hg] at hq
    exact eqAsk_tup0 (fs f hg) (getL_nd (x:=x) rfl (.mk (sub _ _ _ _) hq))
  | none=>
    rw [hg] at hq
    have hnum:∀i∈ixs,∃k,i.num=some k:=by
      cases hf:(litems x).2 with
      | some f=>rw [hf] at hg;cases hg
      | none=>rw [hf] at hg;exact badOf_none hg
    refine eqAsk_tup0 .nil ?_
    have tail2:∀(f l lo:Int) (o8 o10:Option V),f=(ixs.map (plI (loI cmd x))).getD 0 0→l=lastI cmd (loI cmd x) ixs→wpSs c (n+18) tabT (law_due_ms.drop 8) ⟨[some (.str cmd),some (ndV x),some (.list (ixs.map ixV)),some (.list (ndVs more)),none,some (.tup []),none,some (.cell a0),o8,some (.cell a1),o10,some (.cell a2),some (.cell a3)],(a0,.cell (some (.list (ndVs (litems x).1))))::(a1,.cell (some (.int lo)))::(a2,.cell (some (.int f)))::(a3,.cell (some (.int l)))::own⟩ (EndQ Q) (EndX X):=fun f l lo o8 o10 ef el=>by
      obtain ⟨t1,t2,t3⟩:=dueL_tx h
      have e3:sel (fun j=>decide ((j:Int) < f)) 0 (litems x).1++more++sel (fun j=>decide (f≤(j:Int)) && decide (l < (j:Int))) 0 (litems x).1=dueL cmd x ixs more:=by
        rw [sel_rep,ef,el];rfl
      have sl1:(sel (fun j=>decide ((j:Int) < f)) 0 (litems x).1).length≤(litems x).1.length:=by rw [sel_lt,List.length_take];omega
      have sl2:(sel (fun j=>decide (f≤(j:Int)) && decide (l < (j:Int))) 0 (litems x).1).length≤(litems x).1.length:=sel_len _ _ _
      have hr:(List.range ((((ndVs (litems x).1).length:Nat):Int)).toNat).map (fun (k:Nat)=>V.int k)=(List.range' ([]:List Nd).length (litems x).1.length).map fun (k:Nat)=>V.int k:=by
        rw [ndVs_len];show (List.range (litems x).1.length).map _=_
        rw [List.range_eq_range'];rfl
      refine ⟨_,.head _,_,.frz,hiv,by omega,by rw [ndVs_len];omega,_,rfl,by simp;exact lim_ (by rw [ndVs_len];omega),?_⟩
      rw [hr]
      refine sel_comp (fun j=>decide ((j:Int) < f)) (.head _) (by omega) ?_ (litems x).1 [] [] rfl ?_
      · exact fun k KB q=>⟨.int f,.tail _ (.tail _ (.head _)),ifB_k (KB:=fun b=>KB b _) q⟩
      rw [List.nil_append]
      generalize sel (fun j=>decide ((j:Int) < f)) 0 (litems x).1=s1 at e3 sl1
      refine ⟨lim_ (by rw [ndVs_len,ndVs_len];omega),?_⟩
      refine ⟨_,.head _,_,.frz,hiv,by omega,by rw [ndVs_len];omega,_,rfl,by simp;exact lim_ (by rw [ndVs_len];omega),?_⟩
      rw [hr]
      refine sel_comp (fun j=>decide (f≤(j:Int)) && decide (l < (j:Int))) (.head _) (by omega) ?_ (litems x).1 [] [] rfl ?_
      · refine fun k KB q=>⟨.int f,.tail _ (.tail _ (.head _)),?_⟩
        refine ifD (fun h1=>⟨.int l,.tail _ (.tail _ (.tail _ (.head _))),?_⟩) fun h1=>?_
        · rw [decide_eq_true h1] at q
          exact ifB_k (KB:=fun b=>ifB b (KB true _) (KB false _)) (ifB_k (KB:=fun b=>KB b _) q)
        · rw [decide_eq_false h1] at q;exact q
      · rw [List.nil_append]
        generalize sel (fun j=>decide (f≤(j:Int)) && decide (l < (j:Int))) 0 (litems x).1=s2 at e3 sl2
        refine ⟨lim_ (by rw [List.length_append,ndVs_len,ndVs_len,ndVs_len];omega),?_⟩
        have e4:V.list (ndVs s1++ndVs more++ndVs s2)=ndV (.node (dueL cmd x ixs more)):=by
          rw [ndV,← e3];simp [ndVs_map]
        rw [e4]
        generalize Nd.node (dueL cmd x ixs more)=y at t1 t2 t3 hq ⊢
        refine ⟨713,rfl,rfl,getL_nd (x:=y) rfl ?_⟩
        refine (text_written (n:=n) P 8).text _ t1 t2 t3 ?_
        exact getL_nd (x:=y) rfl (.mk (sub _ _ _ _) hq)
    have tail1:∀lo,lo=loI cmd x→wpSs c (n+18) tabT (law_due_ms.drop 6) ⟨[some (.str cmd),some (ndV x),some (.list (ixs.map ixV)),some (.list (ndVs more)),none,some (.tup []),none,some (.cell a0),o8,some (.cell a1),none,some (.cell a2),some (.cell a3)],(a0,.cell (some (.list (ndVs (litems x).1))))::(a1,.cell (some (.int lo)))::(a2,.cell none)::(a3,.cell none)::own⟩ (EndQ Q) (EndX X):=fun lo elo=>by
      refine ⟨_,rfl,lim_ (by simp;omega),place_comp (.tail _ (.head _)) ixs [] hnum ?_⟩
      have p1:(ixs.map (plI lo)).length=ixs.length:=List.length_map _
      have h1:1≤ixs.length:=by
        by_cases e3:cmd=linsW
        · exact h.ins e3
        · exact Nat.le_trans (by decide) (h.rest e e2 e3)
      refine ⟨by decide,by decide,_,get_int (k:=0) (by omega),?_⟩
      refine ifD (fun (e3:cmd=linsW)=>?_) fun (e3:¬ cmd=linsW)=>?_
      · refine ⟨by decide,by decide,_,get_int (k:=0) (by omega),rfl,a2,none,_,rfl,.there (.there .here),a3,none,_,rfl,.there (.there (.there .here)),?_⟩
        exact tail2 _ _ lo _ _ (by rw [elo]) (by rw [elo];unfold lastI;rw [if_pos e3])
      · have h2:=h.rest e e2 e3
        refine ⟨by decide,by decide,_,get_int (k:=1) (by omega),rfl,a2,none,_,rfl,.there (.there .here),a3,none,_,rfl,.there (.there (.there .here)),?_⟩
        exact tail2 _ _ lo _ _ (by rw [elo]) (by rw [elo];unfold lastI;rw [if_neg e3])
    refine ifD (fun (e3:cmd=linsW)=>?_) fun (e3:¬ cmd=linsW)=>?_
    · exact ⟨_,.head _,_,.frz,hiv,a1,none,_,rfl,.there .here,tail1 _ (by unfold loI;rw [if_pos e3,ndVs_len])⟩
    · exact ⟨_,.head _,_,.frz,hiv,a1,none,_,rfl,.there .here,tail1 _ (by unfold loI;rw [if_neg e3,ndVs_len])⟩
end
noncomputable def gaveW:List Nat:=[103,97,118,101]
noncomputable def raisedW:List Nat:=[114,97,105,115,101,100]
noncomputable def raisedV (m:List Nat) (ec:List V):V:=.tup [.str raisedW,.int 1,.str m,.tup ec]
section
variable {c:Cx} {n:Nat} {own A B:Own} {Q Qs:PQ} {X Xs:PX} {H:HS}
theorem heard_c (P:Prog c) {ws:List V} (h:Cmd c n 484 [.own H.h,.list ws] (A++hostO H) Qs Xs) (hq:∀s o,Qs (.str s) o→Q (.tup [.str gaveW,.str s]) o) (hx:∀m ec o,XE Xs o m ec→Q (raisedV m ec) o):SemCall c (n+1) (.ref 777) [.own H.h,.list ws] (A++hostO H) Q X:=by
  refine (P.law_heard rfl fun as zz=>?_).call
  refine ⟨671,_,484,mem_h,rfl,rfl,?_⟩
  refine h (fun s o q=>(end_ (hq s o q) rfl)) fun m ec o q e=>?_
  refine ⟨⟨84,_,.head _,rfl⟩,?_⟩
  refine ⟨_,_,_,.exc (C:=84) rfl (.head _),rfl,rfl,?_⟩
  refine ⟨_,_,_,.exc (C:=84) rfl (.head _),rfl,rfl,?_⟩
  refine ⟨_,_,_,.exc (C:=84) rfl (.head _),rfl,rfl,?_⟩
  exact .mk (List.sublist_cons_self _ _) (hx m ec o q)
end
noncomputable def leditW:List Nat:=[108,101,100,105,116]
noncomputable def lreplW:List Nat:=[108,114,101,112,108,97,99,101]
inductive HQ (f:Fault) (r:List Nat) (O:Own) (v:V) (o:Own):Prop
  | mk:f=none→v=.str r→o=O→HQ f r O v o
inductive HX (f:Fault) (O:Own→Prop) (e:Addr) (o:Own):Prop
  | mk {m:List Nat} {ec:List V} {o':Own}:f=some (m,ec)→O o'→o=(e,.exc false 84 (rAts m ec))::o'→HX f O e o
theorem exc_ats {f g:Bool} {C D:Addr} {a b:List (List Nat×V)} (h:OO.exc f C a=.exc g D b):a=b:=by cases h;rfl
theorem str_in {a b:List Nat} (h:V.str a=.str b):a=b:=by cases h;rfl
theorem tup_in {a b:List V} (h:V.tup a=.tup b):a=b:=by cases h;rfl
theorem hx_xe {f:Fault} {O:Own→Prop} {o:Own} {m:List Nat} {ec:List V} (h:XE (HX f O) o m ec):f=some (m,ec)∧O o:=by
  cases h 0 with
  | mk a b e=>
    obtain ⟨e1,e2⟩:=List.cons.inj e
    subst e2
    have e3:=exc_ats (Prod.mk.inj e1).2
    unfold rAts at e3
    obtain ⟨_,e3⟩:=List.cons.inj e3
    obtain ⟨e4,e3⟩:=List.cons.inj e3
    obtain ⟨e5,_⟩:=List.cons.inj e3
    rw [str_in (Prod.mk.inj e4).2,tup_in (Prod.mk.inj e5).2]
    exact ⟨a,b⟩
theorem xe_hx {f:Fault} {O:Own→Prop} {o:Own} {m:List Nat} {ec:List V} (h:f=some (m,ec)) (h2:O o):XE (HX f O) o m ec:=fun zz=>.mk h h2 rfl
theorem lgot_ne {ixs:List Ix} (h:ixs≠[]) (t u:List Nat) (x:Nd):lgot t x ixs=lgot u x ixs:=by
  induction ixs using List.casesOn with
  | nil=>exact absurd rfl h
  | cons i r=>rw [lgot_cons,lgot_cons]
section
variable {cmd:List Nat} {x:Nd} {ixs:List Ix} {more:List Nd}
theorem due_lset:due lsetW x ixs more=⟨(lput x ixs more).2,ntext (lput x ixs more).1,(lput x ixs more).1⟩:=by unfold due;exact if_pos rfl
theorem due_lpop:due lpopW x ixs more=match (lgot (ntext x) x ixs).2 with
    | some f=>⟨some f,[],x⟩
    | none=>⟨(lput x ixs []).2,(lgot (ntext x) x ixs).1,(lput x ixs []).1⟩:=by unfold due;exact (if_neg (by decide)).trans (if_pos rfl)
theorem due_else (h1:cmd≠lsetW) (h2:cmd≠lpopW):due cmd x ixs more=match orB (litems x).2 ixs with
    | some f=>⟨some f,[],x⟩
    | none=>⟨none,ntext (.node (dueL cmd x ixs more)),.node (dueL cmd x ixs more)⟩:=by unfold due;exact (if_neg h1).trans (if_neg h2)
theorem due_bad2 {i j:Ix} {m:List Nat} {ec:List V} (h1:cmd≠lsetW) (h2:cmd≠lpopW) (h:(litems x).2=some (m,ec)∨((litems x).2=none∧i.num=none∧i.bad=some (m,ec))∨((litems x).2=none∧i.num≠none∧j.num=none∧j.bad=some (m,ec))):(due cmd x [i,j] more).f=some (m,ec):=by
  rw [due_else h1 h2]
  rcases h with h | ⟨h,a,b⟩ | ⟨h,a,b,d⟩
  · rw [h];rfl
  · rw [h]
    have:orB none [i,j]=some (m,ec):=by show badOf [i,j]=_;rw [badOf.eq_def];dsimp only;rw [a];exact b
    rw [this]
  · rw [h]
    have:orB none [i,j]=some (m,ec):=by
      show badOf [i,j]=_
      rw [badOf.eq_def];dsimp only
      cases hn:i.num with
      | none=>exact absurd hn a
      | some k=>dsimp only;rw [badOf.eq_def];dsimp only;rw [b];exact d
    rw [this]
theorem due_good2 {i j:Ix} {k l:Int} (h1:cmd≠lsetW) (h2:cmd≠lpopW) (h3:cmd≠linsW) (h:(litems x).2=none) (a:i.num=some k) (b:j.num=some l):due cmd x [i,j] more=⟨none,ntext (.node (repV (litems x).1 (atI ((litems x).1.length - 1) (i.e,k)) (atI ((litems x).1.length - 1) (j.e,l)) more)),.node (repV (litems x).1 (atI ((litems x).1.length - 1) (i.e,k)) (atI ((litems x).1.length - 1) (j.e,l)) more)⟩:=by
  rw [due_else h1 h2,h]
  have:orB none [i,j]=none:=by
    show badOf [i,j]=_
    rw [badOf.eq_def];dsimp only
    rw [a];dsimp only;rw [badOf.eq_def];dsimp only;rw [b];rfl
  rw [this]
  unfold dueL loI lastI plI
  rw [if_neg h3,if_neg h3]
  show Due.mk none (ntext (.node (repV (litems x).1 (atI ((litems x).1.length - 1) (i.e,i.num.getD 0)) (atI ((litems x).1.length - 1) (j.e,j.num.getD 0)) more))) (.node (repV (litems x).1 (atI ((litems x).1.length - 1) (i.e,i.num.getD 0)) (atI ((litems x).1.length - 1) (j.e,j.num.getD 0)) more))=_
  rw [a,b];rfl
theorem due_ins {i:Ix}:due linsW x [i] more=match orB (litems x).2 [i] with
    | some f=>⟨some f,[],x⟩
    | none=>⟨none,ntext (.node (repV (litems x).1 (atI (litems x).1.length (i.e,i.num.getD 0)) (atI (litems x).1.length (i.e,i.num.getD 0) - 1) more)),.node (repV (litems x).1 (atI (litems x).1.length (i.e,i.num.getD 0)) (atI (litems x).1.length (i.e,i.num.getD 0) - 1) more)⟩:=by
  rw [due_else (by decide) (by decide)]
  unfold dueL loI lastI plI
  rw [if_pos rfl,if_pos rfl];rfl
end
section
variable {c:Cx} {n:Nat} {own A:Own} {H:HS} {x:Nd} {ixs:List Ix} {more:List Nd} {pw:List (List Nat)} {k:Nat} {ws:List V} {l r:List Vr} {v:Vr} {t:List Nat}
theorem DueOk.mo {cmd:List Nat} (h:DueOk cmd x ixs more):More more:=⟨h.mg,Nat.le_trans h.ms (by decide)⟩
theorem cmd_lset (P:Prog c) (hd:DueOk lsetW x ixs more) (hp:PathW lsetW k pw ixs) (hml:more.length=1) (hn:((l++v::r).map (·.nm)).Nodup) (hk:v.kind=scalarW) (hT:Tn v.val x) (hw:ws=.str lsetW::.str v.nm::(pw.map .str++mv more)):
    Cmd c (n+10) 392 [.own H.h,.list ws] (A++hostO (H.sub l v r)) (HQ (due lsetW x ixs more).f (due lsetW x ixs more).r (A++hostO (H.sub l (v.set (ntext (due lsetW x ixs more).m)) r))) (HX (due lsetW x ixs more).f (·=A++hostO (H.sub l v r))):=fun {Q' X'} h1 h2=>by
  obtain ⟨z,rfl⟩:=List.length_eq_one_iff.mp hml
  rw [due_lset] at h1 h2
  obtain ⟨e1,e2⟩:=lput_lvs (some z) ixs x (.inr rfl)
  refine lset_c P hn hk hw (hp.set rfl) hT (Nat.le_trans hd.sz (by decide)) (by have:=hd.len;omega) (fun i hi=>(hp.ok i hi).1) hd.mo (fun t hf ht=>?_) fun m ec hf=>h2 _ _ _ (xe_hx (e1.trans hf) rfl)
  have e3:=e2 hf
  replace e3:rbl (lvs true x ixs).1 (some z)=some (lput x ixs [z]).1:=e3
  rw [e3] at ht
  cases ht
  exact h1 _ _ ⟨e1.trans hf,rfl,rfl⟩
theorem cmd_lpop (P:Prog c) (hd:DueOk lpopW x ixs more) (hp:PathW lpopW k pw ixs) (hml:more=[]) (hn:((l++v::r).map (·.nm)).Nodup) (hk:v.kind=scalarW) (hT:Tn v.val x) (hw:ws=.str lpopW::.str v.nm::(pw.map .str++mv more)):
    Cmd c (n+10) 399 [.own H.h,.list ws] (A++hostO (H.sub l v r)) (HQ (due lpopW x ixs more).f (due lpopW x ixs more).r (A++hostO (H.sub l (v.set (ntext (due lpopW x ixs more).m)) r))) (HX (due lpopW x ixs more).f (·=A++hostO (H.sub l v r))):=fun {Q' X'} h1 h2=>by
  subst hml
  obtain ⟨jxs,j1,j2⟩:=hp.pop rfl
  have hne:=hd.pop rfl
  rw [due_lpop] at h1 h2
  obtain ⟨e1,e2⟩:=lput_lvs none ixs x (.inl hne)
  have hl:=lgot_ne hne v.val (ntext x) x
  refine lpop_c P hn hk (jxs:=jxs) (by rw [hw,j1,wv_map];show _=_::_::wv jxs;rw [show mv []=[] from rfl,List.append_nil]) j2 hT (Nat.le_trans hd.sz (by decide)) (by have:=hd.len;omega) (fun i hi=>(hp.ok i hi).1) (fun t g hf hg hv ht=>?_) fun m ec hf=>?_
  · rw [hl] at hf hg
    rw [hf] at h1
    have e3:rbl (lvs false x ixs).1 none=some (lput x ixs []).1:=e2 hv
    rw [e3] at ht
    cases ht
    exact h1 _ _ ⟨e1.trans hv,by rw [hg],rfl⟩
  · rw [hl] at hf
    refine h2 _ _ _ (xe_hx ?_ rfl)
    rcases hf with hf | ⟨hf,hv⟩
    · rw [hf]
    · rw [hf];exact e1.trans hv
theorem two_ix (h:ixs.length=2):∃i j,ixs=[i,j]:=by
  rcases ixs with _ | ⟨i,_ | ⟨j,_ | ⟨_,_⟩⟩⟩<;>first | exact ⟨_,_,rfl⟩ | cases h
theorem cmd_ledit (P:Prog c) (hd:DueOk leditW x ixs more) (hp:PathW leditW 2 pw ixs) (hn:((l++v::r).map (·.nm)).Nodup) (hk:v.kind=scalarW) (hT:Tn v.val x) (hw:ws=.str leditW::.str v.nm::(pw.map .str++mv more)):
    Cmd c (n+10) 385 [.own H.h,.list ws] (A++hostO (H.sub l v r)) (HQ (due leditW x ixs more).f (due leditW x ixs more).r (A++hostO (H.sub l (v.set (ntext (due leditW x ixs more).m)) r))) (HX (due leditW x ixs more).f (·=A++hostO (H.sub l v r))):=fun {Q' X'} h1 h2=>by
  obtain ⟨p1,p2⟩:=hp.rest (by decide) (by decide)
  obtain ⟨i,j,rfl⟩:=two_ix p2
  refine ledit_c (n:=n+1) P hn hk (by rw [hw,p1];rfl) hT (Nat.le_trans hd.sz (by decide)) (hp.ok i (.head _)).1 (hp.ok j (.tail _ (.head _))).1 hd.mo (fun a b t hf ha hb ht=>?_) fun m ec hf=>h2 _ _ _ (xe_hx (due_bad2 (by decide) (by decide) hf) rfl)
  rw [due_good2 (by decide) (by decide) (by decide) hf ha hb] at h1
  subst ht
  exact h1 _ _ ⟨rfl,rfl,rfl⟩
theorem cmd_lreplace (P:Prog c) {hv:V} (hd:DueOk lreplW x ixs more) (hp:PathW lreplW 2 pw ixs) (hT:Tn t x) (hw:ws=.str lreplW::.str t::(pw.map .str++mv more)):
    Cmd c (n+10) 378 [hv,.list ws] own (HQ (due lreplW x ixs more).f (due lreplW x ixs more).r own) (HX (due lreplW x ixs more).f (·=own)):=fun {Q' X'} h1 h2=>by
  obtain ⟨p1,p2⟩:=hp.rest (by decide) (by decide)
  obtain ⟨i,j,rfl⟩:=two_ix p2
  refine lreplace_c (n:=n+1) P (by rw [hw,p1];rfl) hT (Nat.le_trans hd.sz (by decide)) (hp.ok i (.head _)).1 (hp.ok j (.tail _ (.head _))).1 hd.mo (fun a b hf ha hb=>?_) fun m ec hf=>h2 _ _ _ (xe_hx (due_bad2 (by decide) (by decide) hf) rfl)
  rw [due_good2 (by decide) (by decide) (by decide) hf ha hb] at h1
  exact h1 _ _ ⟨rfl,rfl,rfl⟩
theorem cmd_linsert (P:Prog c) {hv:V} (hd:DueOk linsW x ixs more) (hp:PathW linsW 1 pw ixs) (hT:Tn t x) (hw:ws=.str linsW::.str t::(pw.map .str++mv more)):
    Cmd c (n+10) 364 [hv,.list ws] own (HQ (due linsW x ixs more).f (due linsW x ixs more).r own) (HX (due linsW x ixs more).f (·=own)):=fun {Q' X'} h1 h2=>by
  obtain ⟨p1,p2⟩:=hp.rest (by decide) (by decide)
  obtain ⟨i,rfl⟩:=List.length_eq_one_iff.mp p2
  rw [due_ins] at h1 h2
  refine linsert_c (n:=n+2) P (by rw [hw,p1];rfl) hT (Nat.le_trans hd.sz (by decide)) (hp.ok i (.head _)).1 hd.mo (fun a hf ha=>?_) fun m ec hf=>h2 _ _ _ (xe_hx ?_ rfl)
  · have e:orB (litems x).2 [i]=none:=by rw [hf];show badOf [i]=_;rw [badOf.eq_def];dsimp only;rw [ha];rfl
    rw [e,ha] at h1
    exact h1 _ _ ⟨rfl,rfl,rfl⟩
  · rcases hf with hf | ⟨hf,ha,hb⟩
    · rw [hf];rfl
    · have e:orB (litems x).2 [i]=some (m,ec):=by rw [hf];show badOf [i]=_;rw [badOf.eq_def];dsimp only;rw [ha];exact hb
      rw [e]
end
noncomputable def Sm (t:List Nat):Prop:=∀x∈t,x < 1114112
theorem Sm.app {a b:List Nat} (h:Sm a) (k:Sm b):Sm (a++b):=fun x hx=>(List.mem_append.mp hx).elim (h x) (k x)
theorem Sm.cons {a:Nat} {b:List Nat} (h:a < 1114112) (k:Sm b):Sm (a::b):=fun x hx=>(List.mem_cons.mp hx).elim (fun e=>e▸h) (k x)
theorem Sm.nil:Sm []:=fun zz h=>nomatch h
theorem sm_spc {ws:List (List Nat)} (h:∀w∈ws,Sm w):Sm (spc ws):=fun x hx=>(spc_small hx).elim (fun e=>e▸(by decide)) fun ⟨w,hw,q⟩=>h w hw x q
theorem leafW_sm:∀s∈leaves,∀b,∀x∈leafW b s,x < 1114112:=by decide +kernel
theorem nwrits_mem {w:List Nat} {xs:List Nd}:∀{b:Bool},w∈nwrits b xs→∃x∈xs,∃b',w=nwrit b' x:=by
  induction xs with
  | nil=>
    intro b h
    rw [nwrits] at h;cases h
  | cons x r ih=>
    intro b h
    rw [nwrits] at h
    rcases List.mem_cons.mp h with h | h
    · exact ⟨x,.head _,b,h⟩
    · obtain ⟨y,hy,q⟩:=ih h
      exact ⟨y,.tail _ hy,q⟩
theorem good_sm {x:Nd} (h:Good x):Sm (ntext x)∧∀b,Sm (nwrit b x):=by
  induction h with
  | @leaf s hs=>rw [ntext];exact ⟨leaf_small s hs,fun b=>by rw [nwrit];exact leafW_sm s hs b⟩
  | @node xs _ ih=>
    have h1:Sm (spc (nwrits true xs)):=sm_spc fun w hw=>by
      obtain ⟨x,hx,b,rfl⟩:=nwrits_mem hw
      exact (ih x hx).2 b
    rw [ntext]
    refine ⟨h1,fun b=>?_⟩
    rw [nwrit];unfold brW
    split
    · exact h1
    · exact .cons (by decide) (h1.app (.cons (by decide) .nil))
theorem oddT_sm:∀s∈leaves,∀x∈(oddT.lookup s).getD [],x < 1114112:=by decide +kernel
theorem oddS_sm {xs:List Nd}:(∀x∈xs,Good x)→Sm (oddS xs):=by
  induction xs with
  | nil=>
    intro _
    exact .nil
  | cons x r ih=>
    intro h
    rw [oddS]
    refine .app (.app ?_ (.cons (by decide) (.cons (by decide) .nil))) (ih fun y hy=>h y (.tail _ hy))
    cases h x (.head _) with
    | leaf hs=>rw [oddN];exact oddT_sm _ hs
    | node hx=>rw [oddN];exact .cons (by decide) ((good_sm (.node hx)).1.app (.cons (by decide) .nil))
theorem ec_sh {ws:List (List Nat)} {m:List Nat} (h1:Sm m) (h2:∀w∈ws,Sm w):Shs [.int 1,.str m,.tup (ws.map .str)] 60:=
  .cons .int (.cons (.str h1) (.cons ((Shs.of (k:=58) fun v hv=>by obtain ⟨w,hw,rfl⟩:=List.mem_map.mp hv;exact .str (h2 w hw)).tup.up (by decide)) .nil))
theorem range_sh {i:Ix} (h:IxS i):Shs [.int 1,.str (rangeMsg i.w),.tup rangeEc] 60:=
  ec_sh (ws:=[[84,67,76],[86,65,76,85,69],[73,78,68,69,88],[79,85,84,79,70,82,65,78,71,69]]) (by unfold rangeMsg;exact .app (.app (by unfold Sm;decide) h.small) (by unfold Sm;decide)) (by unfold Sm;decide)
theorem noVar_sh {nm:List Nat} (h:Sm nm):Shs [.int 1,.str (noVarMsg nm),.tup (noVarEc nm)] 60:=
  ec_sh (ws:=[[84,67,76],[76,79,79,75,85,80],[86,65,82,78,65,77,69],nm]) (by unfold noVarMsg;exact .app (.app (by unfold Sm;decide) h) (by unfold Sm;decide)) fun w hw=>by
    rcases List.mem_cons.mp hw with rfl | hw
    · unfold Sm;decide
    rcases List.mem_cons.mp hw with rfl | hw
    · unfold Sm;decide
    rcases List.mem_cons.mp hw with rfl | hw
    · unfold Sm;decide
    · rw [List.mem_singleton.mp hw];exact h
theorem lput_sh {more:List Nd} (ixs:List Ix):∀{x:Nd},Good x→(∀i∈ixs,IxS i)→FSh (lput x ixs more).2:=by
  induction ixs with
  | nil=>
    intro x hg hi
    exact fun g e=>nomatch e
  | cons i r ih=>
    intro x hg hi
    rw [lput_cons]
    cases hf:(litems x).2 with
    | some f=>exact fun g e=>by cases e;exact fault_sh hg hf
    | none=>
      cases i.num with
      | none=>exact fun g e=>by cases e;exact bad_sh (hi i (.head _))
      | some k=>
        dsimp only
        generalize atI ((litems x).1.length - 1) (i.e,k)=p
        generalize (if more.isEmpty then (1:Int) else 0)=g
        split
        · exact fun g e=>by cases e;exact range_sh (hi i (.head _))
        · split
          · exact fun g e=>nomatch e
          · refine ih ?_ fun j hj=>hi j (.tail _ hj)
            cases hq:(litems x).1[p.toNat]? with
            | none=>exact leaf_nil
            | some y=>exact hg.items y (List.mem_of_getElem? hq)
theorem lgot_sm (ixs:List Ix):∀{x:Nd} (t:List Nat),Sm t→Good x→Sm (lgot t x ixs).1:=by
  induction ixs with
  | nil=>
    intro x t ht hg
    exact ht
  | cons i r ih=>
    intro x t ht hg
    rw [lgot_cons]
    cases hf:(litems x).2 with
    | some f=>exact .nil
    | none=>
      cases i.num with
      | none=>exact .nil
      | some k=>
        dsimp only
        split
        · exact .nil
        · cases hq:(litems x).1[(atI ((litems x).1.length - 1) (i.e,k)).toNat]? with
          | none=>exact .nil
          | some y=>
            have hy:=hg.items y (List.mem_of_getElem? hq)
            exact ih _ (good_sm hy).1 hy
structure DueS (d:Due):Prop where
  f:FSh d.f
  r:Sm d.r
  m:TxOk d.m
theorem due_s {cmd:List Nat} {x:Nd} {ixs:List Ix} {more:List Nd} (h:DueOk cmd x ixs more):DueS (due cmd x ixs more):=by
  have hx:TxOk x:=⟨h.good,by have:=h.sz;omega,by have:=h.dp;omega⟩
  have hp:∀ms:List Nd,(∀y∈ms,Good y)→szs ms≤1000→dps ms≤2→TxOk (lput x ixs ms).1:=fun ms a b d=>lput_tx h.good h.sz h.dp h.len a b d
  by_cases h1:cmd=lsetW
  · subst h1
    rw [due_lset]
    have:=hp more h.mg h.ms h.md
    exact ⟨lput_sh ixs h.good h.ix,(good_sm this.good).1,this⟩
  by_cases h2:cmd=lpopW
  · subst h2
    rw [due_lpop]
    cases hf:(lgot (ntext x) x ixs).2 with
    | some f=>exact ⟨fun g e=>by cases e;exact lgot_sh ixs _ h.good h.ix f hf,.nil,hx⟩
    | none=>exact ⟨lput_sh ixs h.good h.ix,lgot_sm ixs _ (good_sm h.good).1 h.good,hp [] (fun zz h=>nomatch h) (by decide) (by decide)⟩
  rw [due_else h1 h2]
  cases hf:orB (litems x).2 ixs with
  | some f=>exact ⟨fun g e=>by cases e;exact orB_sh (fun g e=>fault_sh h.good e) h.ix f hf,.nil,hx⟩
  | none=>exact ⟨fun g e=>(nomatch e),(good_sm (dueL_tx h).good).1,dueL_tx h⟩
theorem eqAsk_refl2 {x:V} {K:Bool→Prop} (h:Sh x 64) (hk:K true):eqAsk x x K:=by
  obtain ⟨a,b,d⟩:=h
  have hs:=shaped_of b d
  exact ⟨_,_,a,a,hs,hs,by rw [SeqAt.eqv_refl _ b];exact hk⟩
noncomputable def cmdsW:List (List Nat):=[linsW,lreplW,lsetW,lpopW,leditW]
structure RowOk (r:Row):Prop where
  cmd:r.cmd∈cmdsW
  tl:r.told.length≤3
  t1:r.cmd=linsW→r.told.length=1
  t2:r.cmd≠lsetW→r.cmd≠lpopW→r.cmd≠linsW→r.told.length=2
  nl:r.nums.length≤100
  vl:r.vals.length≤100
structure WhOk (x:Nd) (t:List Nat):Prop where
  tn:Tn t x
  sz:sz x≤2000
  dp:dp x≤3
  sm:Sm t
theorem pool_dps {xs:List Nd} (h:∀x∈xs,x∈pool):dps xs≤2:=dps_le fun x hx=>(pool_good x (h x hx)).2.1
theorem pool_whole {xs:List Nd} (h:∀x∈xs,x∈pool) (hl:xs.length≤5) {t:List Nat} (ht:Tn t (.node xs)) (hm:Sm t):WhOk (.node xs) t:=by
  have h1:=pool_szs h
  have h2:=pool_dps h
  exact ⟨ht,by rw [Mine.Internal.sz];omega,by rw [Mine.Internal.dp];omega,hm⟩
theorem pool_one {x:Nd} (h:x∈pool):WhOk x (ntext x):=by
  obtain ⟨a,b,d⟩:=pool_good x h
  exact ⟨a.tn (by omega),by omega,by omega,(good_sm a).1⟩
theorem nil_whole:WhOk (.leaf []) []:=⟨leaf_nil.tn (by decide),by decide,by decide,.nil⟩
theorem pool_due {cmd:List Nat} {x:Nd} {t:List Nat} {ixs:List Ix} {more:List Nd} {k:Nat} {pw:List (List Nat)} (hw:WhOk x t) (hp:PathW cmd k pw ixs) (hm:∀y∈more,y∈pool) (hl:more.length≤4) (h1:cmd=lsetW→more≠[]) (h2:cmd=linsW→k=1) (h3:cmd≠lsetW→cmd≠lpopW→cmd≠linsW→k=2):DueOk cmd x ixs more:=by
  have:=pool_szs hm
  refine ⟨hw.tn.good,hw.sz,hw.dp,fun i hi=>(hp.ok i hi).2,hp.len,fun y hy=>(pool_good y (hm y hy)).1,by omega,pool_dps hm,h1,fun e=>?_,fun e=>?_,fun a b d=>?_⟩
  · obtain ⟨jxs,_,j2⟩:=hp.pop e
    rw [j2];split
    · exact fun q=>nomatch q
    · assumption
  · rw [(hp.rest (by rw [e];decide) (by rw [e];decide)).2,h2 e];exact Nat.le_refl _
  · rw [(hp.rest a b).2,h3 a b d];exact Nat.le_refl _
section
variable {c:Cx} {n:Nat} {own A B:Own} {Q:PQ} {X:PX}
set_option maxHeartbeats 2000000 in
theorem row_front (P:Prog c) {cmd nm:List Nat} {shape how:Int} {nums vals:List Int} {told:List (Int×Int×Int)} {host book:V} {p:Addr} {z:Int} (hr:RowOk ⟨cmd,shape,nums,told,vals,how⟩)
    (key:∀(sh:Nat) (x:Nd) (t:List Nat) (pw:List (List Nat)) (ixs:List Ix) (more:List Nd) (o11 o16:Option V) (z':Int),sh < 8→WhOk x t→PathW cmd told.length pw ixs→DueOk cmd x ixs more→(cmd=lsetW→more.length=1)→(cmd=lpopW→more=[])→more.length≤4→
      wpSs c (n+20) tabT (law_row_right_ms.drop 9) ⟨[some host,some (.str nm),some (rowV ⟨cmd,shape,nums,told,vals,how⟩),some (.own p),some book,some (.str cmd),some (.int sh),some (.list (nums.map .int)),some (.list (told.map toldV)),some (.list (vals.map .int)),some (.int how),o11,some (ndV x),some (.str t),some (.list (pw.map .str)),some (.list (ixs.map ixV)),o16,some (.list (ndVs more)),some (faultV (due cmd x ixs more).f),some (.str (due cmd x ixs more).r),some (ndV (due cmd x ixs more).m),none,none],(p,.list [.int z'])::B⟩ (EndQ Q) (EndX X)):
    wpSs c (n+20) tabT law_row_right_ms ⟨[some host,some (.str nm),some (rowV ⟨cmd,shape,nums,told,vals,how⟩),some (.own p),some book,none,none,none,none,none,none,none,none,none,none,none,none,none,none,none,none,none,none],(p,.list [.int z])::B⟩ (EndQ Q) (EndX X):=by
  have hnl:nums.length≤100:=hr.nl
  have hvl:vals.length≤100:=hr.vl
  have htl:told.length≤3:=hr.tl
  refine ⟨rfl,?_⟩
  refine ⟨701,rfl,rfl,draw_c (A:=[]) P (by decide) (by decide) fun d1 z1 zz zz=>⟨by decide,?_⟩⟩
  obtain ⟨sh,s1,s2⟩:=turn_ (t:=shape) (d:=d1) (m:=8) (by decide) (by decide)
  rw [s2]
  refine ⟨782,rfl,rfl,_,.frz,lim_ (by simp;omega),701,rfl,rfl,draw_c (A:=[]) P (by decide) (by decide) fun d2 z2 zz zz=>⟨by decide,?_⟩⟩
  obtain ⟨q5,q1,q2⟩:=turn_ (t:=((nums.map V.int).length:Int)) (d:=d2) (m:=5) (by decide) (by decide)
  rw [q2]
  have q3:q5 < 5:=q1
  refine nodes_c (A:=[]) (n:=n+18) P hnl (by omega) fun xs z3 xl xp=>?_
  have tail5:∀(x:Nd) (t:List Nat),WhOk x t→wpSs c (n+20) tabT (law_row_right_ms.drop 5) ⟨[some host,some (.str nm),some (rowV ⟨cmd,shape,nums,told,vals,how⟩),some (.own p),some book,some (.str cmd),some (.int sh),some (.list (nums.map .int)),some (.list (told.map toldV)),some (.list (vals.map .int)),some (.int how),some (.list (ndVs xs)),some (ndV x),some (.str t),none,none,none,none,none,none,none,none,none],(p,.list [.int z3])::B⟩ (EndQ Q) (EndX X):=fun x t hw=>by
    refine ⟨753,rfl,rfl,path_c (A:=[]) (n:=n+17) P htl fun pw ixs z4 hp=>⟨rfl,?_⟩⟩
    refine ⟨_,.frz,lim_ (by simp;omega),701,rfl,rfl,draw_c (A:=[]) P (by decide) (by decide) fun d3 z5 zz zz=>⟨by decide,?_⟩⟩
    obtain ⟨q4,r1,r2⟩:=turn_ (t:=((vals.map V.int).length:Int)) (d:=d3) (m:=4) (by decide) (by decide)
    rw [r2]
    have r3:q4 < 4:=r1
    have tail8:∀(more:List Nd) (z6:Int),(∀y∈more,y∈pool)→more.length≤4→(cmd=lsetW→more.length=1)→(cmd=lpopW→more=[])→wpSs c (n+20) tabT (law_row_right_ms.drop 8) ⟨[some host,some (.str nm),some (rowV ⟨cmd,shape,nums,told,vals,how⟩),some (.own p),some book,some (.str cmd),some (.int sh),some (.list (nums.map .int)),some (.list (told.map toldV)),some (.list (vals.map .int)),some (.int how),some (.list (ndVs xs)),some (ndV x),some (.str t),some (.list (pw.map .str)),some (.list (ixs.map ixV)),some (.int q4),some (.list (ndVs more)),none,none,none,none,none],(p,.list [.int z6])::B⟩ (EndQ Q) (EndX X):=fun more z6 mp ml m1 m2=>by
      have hd:DueOk cmd x ixs more:=pool_due hw hp mp ml (fun e q=>by have:=m1 e;rw [q] at this;cases this) hr.t1 hr.t2
      refine ⟨770,rfl,rfl,getL_nd (x:=x) rfl ?_⟩
      refine due_c (n:=n+1) P hd ⟨rfl,?_⟩
      exact key sh x t pw ixs more _ _ z6 s1 hw hp hd m1 m2 ml
    refine ⟨782,rfl,rfl,rfl,?_⟩
    show ifB (([lsetW,lpopW].map V.str).any (V.isStr cmd)) _ _
    rw [any_strs]
    refine ifD (fun h=>?_) fun h=>?_
    · refine ⟨by decide,le_ rfl,_,rfl,?_⟩
      rcases List.mem_cons.mp h with h | h
      · subst h
        exact ⟨.int 1,rfl,nodes_c (A:=[]) (n:=n+18) (size:=1) P hvl (by decide) fun ms z6 ml mp=>(tail8 ms z6 mp (by omega) (fun zz=>ml) fun e=>absurd e (by decide))⟩
      · have h:=List.mem_singleton.mp h
        subst h
        exact ⟨.int 0,rfl,nodes_c (A:=[]) (n:=n+18) (size:=0) P hvl (by decide) fun ms z6 ml mp=>(tail8 ms z6 mp (by omega) (fun e=>absurd e (by decide)) fun zz=>List.length_eq_zero_iff.mp ml)⟩
    · exact nodes_c (A:=[]) (n:=n+18) P hvl (by omega) fun ms z6 ml mp=>(tail8 ms z6 mp (by omega) (fun e=>absurd (by rw [e];exact .head _) h) fun e=>absurd (by rw [e];exact .tail _ (.head _)) h)
  have tail4:∀t,WhOk (.node xs) t→wpSs c (n+20) tabT (law_row_right_ms.drop 4) ⟨[some host,some (.str nm),some (rowV ⟨cmd,shape,nums,told,vals,how⟩),some (.own p),some book,some (.str cmd),some (.int sh),some (.list (nums.map .int)),some (.list (told.map toldV)),some (.list (vals.map .int)),some (.int how),some (.list (ndVs xs)),some (.list (ndVs xs)),some (.str t),none,none,none,none,none,none,none,none,none],(p,.list [.int z3])::B⟩ (EndQ Q) (EndX X):=fun t hw=>by
    refine ifD (fun zz=>?_) fun zz=>?_
    · refine (eqAsk_list0 (nds_sh (fun x hx=>(pool_good x (xp x hx)).1) (Nat.le_trans (pool_dps xp) (by decide))) ?_)
      induction xs using List.casesOn with
      | nil=>
        refine ⟨713,rfl,rfl,text_leaf (n:=n+19) P ?_⟩
        have:=tail5 (.leaf []) [] nil_whole
        rw [ndV] at this
        exact this
      | cons y r=>
        have hy:=pool_one (xp y (.head _))
        have:=tail5 y (ntext y) hy
        rw [ndVs] at this ⊢
        refine ⟨by decide,by decide,_,rfl,713,rfl,rfl,getL_nd (x:=y) rfl ?_⟩
        exact (text_written (n:=n+12) P 3).text y hy.tn.good (by have:=hy.sz;omega) hy.dp this
    · have:=tail5 (.node xs) t hw
      rw [ndV] at this
      exact this
  refine ⟨727,rfl,rfl,rfl,?_⟩
  cases ([V.int 3,.int 4,.int 5].any (V.isInt sh)) with
  | true=>exact spelled_odd (n:=n+11) P xp (by omega) ⟨rfl,tail4 _ (pool_whole xp (by omega) (odd_tn xp (by omega)) (.cons (by decide) (oddS_sm fun x hx=>(pool_good x (xp x hx)).1)))⟩
  | false=>
    have h1:=pool_szs xp
    have hg:Good (.node xs):=.node fun x hx=>(pool_good x (xp x hx)).1
    exact spelled_even (n:=n+11) P (fun x hx=>(pool_good x (xp x hx)).1) (by omega) (pool_dps xp) ⟨rfl,tail4 _ (pool_whole xp (by omega) (hg.tn (by rw [sz];omega)) (good_sm hg).1)⟩
end
noncomputable def heardV (f:Fault) (r:List Nat):V:=match f with
  | none=>.tup [.str gaveW,.str r]
  | some g=>raisedV g.1 g.2
theorem getL_t {st:St} {i:Nat} {xs:List V} {K:V→Prop} (h:st.loc[i]?=some (some (.tup xs))) (k:K (.tup xs)):getL st i K:=by unfold getL;rw [h];exact k
theorem getL_s {st:St} {i:Nat} {s:List Nat} {K:V→Prop} (h:st.loc[i]?=some (some (.str s))) (k:K (.str s)):getL st i K:=by unfold getL;rw [h];exact k
theorem gave_sm:Sm gaveW:=by unfold Sm;decide
theorem raised_sm:Sm raisedW:=by unfold Sm;decide
section
variable {c:Cx} {n:Nat} {own own' A B:Own} {Q:PQ} {X:PX} {H:HS} {f:Fault} {r:List Nat}
theorem row_cmp {st:St} {T:Tab} (h18:st.loc[18]?=some (some (faultV f))) (h19:st.loc[19]?=some (some (.str r))) (h22:st.loc[22]?=some (some (heardV f r))) (hf:FSh f) (hr:Sm r) {R:QB} {Y:XT} (k:R false st):
    wpT c n T (.cmp .NotEq (.loc 22) (.ite (.cmp .Eq (.loc 18) (.tup [])) (.tup [(.str [103,97,118,101]),(.loc 19)]) (.bin .Add (.tup [(.str [114,97,105,115,101,100])]) (.loc 18)))) st R Y:=by
  induction f using Option.casesOn with
  | none=>
    exact getL_t h22 (getL_t h18 (eqAsk_tup0 .nil (getL_s h19 (eqAsk_refl2 (((Shs.cons (.str gave_sm) (.cons (.str hr) .nil)).tup (k:=60)).up (by decide)) k))))
  | some g=>
    have hs:=hf g rfl
    refine getL_t h22 (getL_t h18 (eqAsk_tup0 hs (getL_t h18 ⟨le_ rfl,?_⟩)))
    exact eqAsk_refl2 (((Shs.cons (.str raised_sm) hs).tup).up (by decide)) k
theorem row_end (P:Prog c) {sh:Nat} {v:Vr} {l2 l3 l4 l5 l7 l8 l9 l10 l11 l12 l13 l14 l15 l16 l17 l20:Option V} {v22:V} (h22:v22=heardV f r) (hf:FSh f) (hr:Sm r) (hn:(H.vs.map (·.nm)).Nodup) (hv:v∈H.vs)
    (h7:sh=7→v.kind=[110,111,110,101]∧v.w=0) (hk:sh≠7→v.kind=scalarW∧v.w=if f=none then 2 else 1) (hq:Q (.bool true) own') (hs:own'.Sublist (A++hostO H)):
    wpSs c (n+20) tabT (law_row_right_ms.drop 12) ⟨[some (.own H.h),some (.str v.nm),l2,l3,l4,l5,some (.int sh),l7,l8,l9,l10,l11,l12,l13,l14,l15,l16,l17,some (faultV f),some (.str r),l20,some (.bool true),some v22],A++hostO H⟩ (EndQ Q) (EndX X):=by
  subst h22
  refine row_cmp rfl rfl rfl hf hr ?_
  refine ⟨671,_,576,mem_h,rfl,rfl,has_old P hn hv ?_⟩
  have fin:∀b:Bool,b=true→EndQ Q (.ret (.bool b)) ⟨[some (.own H.h),some (.str v.nm),l2,l3,l4,l5,some (.int sh),l7,l8,l9,l10,l11,l12,l13,l14,l15,l16,l17,some (faultV f),some (.str r),l20,some (.bool true),some (heardV f r)],A++hostO H⟩:=fun b e=>.mk hs (by rw [e];exact hq)
  show ifB ((!decide (v.kind=[110,111,110,101])) == !decide ((sh:Int)=7)) _ _
  by_cases e:sh=7
  · obtain ⟨k1,k2⟩:=h7 e
    rw [decide_eq_true k1,decide_eq_true (show (sh:Int)=7 by omega)]
    refine ⟨671,_,625,mem_h,rfl,rfl,stamp_old P hn hv ?_⟩
    exact ifT (show (sh:Int)=7 by omega) (fin _ (decide_eq_true k2))
  · obtain ⟨k1,k2⟩:=hk e
    have hne:¬ v.kind=[110,111,110,101]:=by rw [k1];decide
    rw [decide_eq_false hne,decide_eq_false (show ¬ (sh:Int)=7 by omega)]
    refine ⟨671,_,625,mem_h,rfl,rfl,stamp_old P hn hv ?_⟩
    refine ifF (show ¬ (sh:Int)=7 by omega) ?_
    induction f using Option.casesOn with
    | none=>exact (eqAsk_tup0 .nil (fin _ (decide_eq_true k2)))
    | some g=>exact (eqAsk_tup0 (hf g rfl) (fin _ (decide_eq_true k2)))
theorem row_end0 (P:Prog c) {nm:List Nat} {l2 l3 l4 l5 l6 l7 l8 l9 l10 l11 l12 l13 l14 l15 l16 l17 l20:Option V} {v22:V} (h22:v22=heardV f r) (hf:FSh f) (hr:Sm r) (hn:nm ∉ H.vs.map (·.nm)) (hq:Q (.bool true) own') (hs:own'.Sublist (A++hostO H)):
    wpSs c (n+20) tabT (law_row_right_ms.drop 12) ⟨[some (.own H.h),some (.str nm),l2,l3,l4,l5,l6,l7,l8,l9,l10,l11,l12,l13,l14,l15,l16,l17,some (faultV f),some (.str r),l20,some (.bool false),some v22],A++hostO H⟩ (EndQ Q) (EndX X):=by
  subst h22
  refine row_cmp rfl rfl rfl hf hr ?_
  exact ⟨671,_,576,mem_h,rfl,rfl,has_no P hn (.mk hs hq)⟩
theorem text_comp (P:Prog c) {own:Own} {K:List V→Own→Prop} (ms:List Nd):∀(acc:List V),(∀y∈ms,Good y)→szs ms≤1000→dps ms≤2→K (acc++mv ms) own→
    compGo (fun it own K=>wpAnd c (n+20) tabT [] ⟨some it::[],own⟩ (fun b st2=>ifB b (wpE c (n+20) tabT (.call (.glob (.ref 713)) [(.loc 0)]) st2 (fun y st3=>K (some y) st3.own) NoX) (K none st2.own)) NoX) (ndVs ms) acc own K:=by
  induction ms with
  | nil=>
    intro acc _ _ _ h
    rw [show mv []=[] from rfl,List.append_nil] at h;rw [ndVs];exact h
  | cons y ms ih=>
    intro acc h1 h2 h3 h
    rw [ndVs]
    rw [szs] at h2
    rw [dps] at h3
    refine ⟨713,rfl,rfl,getL_nd (x:=y) rfl ?_⟩
    refine (text_written (n:=n+2) P 8).text y (h1 y (.head _)) (by omega) (by omega) ?_
    refine ih _ (fun z hz=>h1 z (.tail _ hz)) (by omega) (by omega) ?_
    rw [List.append_assoc];exact h
end
structure Kept (c:Cx) (n:Nat) (f:Addr) (cmd:List Nat) (x:Nd) (ixs:List Ix) (more:List Nd) (pw:List (List Nat)):Prop where
  flag:([lsetW,lpopW,leditW].map V.str).any (V.isStr cmd)=true
  look:dget cmds0 cmd=some (cmdV f)
  keep:keepA.contains f=true
  ok:∀{A:Own} {H:HS} {l r:List Vr} {v:Vr} {ws:List V},((l++v::r).map (·.nm)).Nodup→v.kind=scalarW→Tn v.val x→ws=.str cmd::.str v.nm::(pw.map .str++mv more)→Cmd c (n+10) f [.own H.h,.list ws] (A++hostO (H.sub l v r)) (HQ (due cmd x ixs more).f (due cmd x ixs more).r (A++hostO (H.sub l (v.set (ntext (due cmd x ixs more).m)) r))) (HX (due cmd x ixs more).f (·=A++hostO (H.sub l v r)))
  no:∀{A:Own} {H:HS} {nm:List Nat} {ws:List V} {Q:PQ} {X:PX},ws=.str cmd::.str nm::(pw.map .str++mv more)→nm ∉ H.vs.map (·.nm)→H.vs.length≤1000→nm.length≤1000→(∀a,XE X (A++hostO (H.add (.new nm a))) (noVarMsg nm) (noVarEc nm))→SemCall c (n+10) (.ref f) [.own H.h,.list ws] (A++hostO H) Q X
structure Plain (c:Cx) (n:Nat) (f:Addr) (cmd:List Nat) (x:Nd) (ixs:List Ix) (more:List Nd) (pw:List (List Nat)):Prop where
  flag:([lsetW,lpopW,leditW].map V.str).any (V.isStr cmd)=false
  look:dget cmds0 cmd=some (cmdV f)
  keep:keepA.contains f=true
  ok:∀{own:Own} {hv:V} {t:List Nat} {ws:List V},Tn t x→ws=.str cmd::.str t::(pw.map .str++mv more)→Cmd c (n+10) f [hv,.list ws] own (HQ (due cmd x ixs more).f (due cmd x ixs more).r own) (HX (due cmd x ixs more).f (·=own))
section
variable {c:Cx} {n:Nat} {x:Nd} {ixs:List Ix} {more:List Nd} {pw:List (List Nat)} {k:Nat}
theorem kept_lset (P:Prog c) (hd:DueOk lsetW x ixs more) (hp:PathW lsetW k pw ixs) (hml:more.length=1):Kept c n 392 lsetW x ixs more pw:=
  ⟨by decide,rfl,rfl,fun a b d e=>cmd_lset P hd hp hml a b d e,fun {A H nm ws Q X} e a b d h=>by
    obtain ⟨z,rfl⟩:=List.length_eq_one_iff.mp hml
    have hl:=(hp.set rfl).len
    have hx:=hp.len
    induction pw using List.casesOn with
    | nil=>exact lset_no (n:=n+1) (more:=[]) P e (by decide) a b d h
    | cons w pw=>exact lset_no (n:=n+1) (more:=pw.map .str++mv [z]) P e (by simp [mv] at hl ⊢;omega) a b d h⟩
theorem kept_lpop (P:Prog c) (hd:DueOk lpopW x ixs more) (hp:PathW lpopW k pw ixs) (hml:more=[]):Kept c n 399 lpopW x ixs more pw:=
  ⟨by decide,rfl,rfl,fun a b d e=>cmd_lpop P hd hp hml a b d e,fun {A H nm ws Q X} e a b d h=>by
    obtain ⟨jxs,j1,j2⟩:=hp.pop rfl
    have hx:=hp.len
    have hj:jxs.length≤3:=by
      by_cases q:jxs=[]
      · rw [q];decide
      · rw [if_neg q] at j2;rw [← j2];exact hx
    exact lpop_no (n:=n+1) P e (by rw [hml,j1];simp [mv];omega) a b d h⟩
theorem kept_ledit (P:Prog c) (hd:DueOk leditW x ixs more) (hp:PathW leditW 2 pw ixs):Kept c n 385 leditW x ixs more pw:=
  ⟨by decide,rfl,rfl,fun a b d e=>cmd_ledit P hd hp a b d e,fun {A H nm ws Q X} e a b d h=>by
    obtain ⟨p1,p2⟩:=hp.rest (by decide) (by decide)
    obtain ⟨i,j,rfl⟩:=two_ix p2
    have:=hd.put.len
    rw [p1] at e
    exact ledit_no (n:=n+1) (more:=mv more) P e (by rw [mv_len];omega) a b d h⟩
theorem free_linsert (P:Prog c) (hd:DueOk linsW x ixs more) (hp:PathW linsW 1 pw ixs):Plain c n 364 linsW x ixs more pw:=
  ⟨by decide,rfl,rfl,fun a e=>cmd_linsert P hd hp a e⟩
theorem free_lreplace (P:Prog c) (hd:DueOk lreplW x ixs more) (hp:PathW lreplW 2 pw ixs):Plain c n 378 lreplW x ixs more pw:=
  ⟨by decide,rfl,rfl,fun a e=>cmd_lreplace P hd hp a e⟩
end
theorem PathW.pl {cmd:List Nat} {k:Nat} {pw:List (List Nat)} {ixs:List Ix} (h:PathW cmd k pw ixs):pw.length≤4:=by
  have hx:=h.len
  by_cases h1:cmd=lsetW
  · have:=(h.set h1).len;omega
  by_cases h2:cmd=lpopW
  · obtain ⟨jxs,j1,j2⟩:=h.pop h2
    rw [j1,List.length_map]
    by_cases q:jxs=[]
    · rw [q];decide
    · rw [if_neg q] at j2;rw [← j2];omega
  · obtain ⟨p1,p2⟩:=h.rest h1 h2
    rw [p1,List.length_map];omega
section
variable {c:Cx} {n:Nat} {own A B:Own} {Q:PQ} {X:PX} {H:HS}
theorem heard_is {m:List Nat} {ec:List V} {f:Fault} {r:List Nat} (h:f=some (m,ec)):raisedV m ec=heardV f r:=by rw [h];rfl
theorem gave_is {s:List Nat} {f:Fault} {r:List Nat} (h:f=none) (h2:V.str s=.str r):V.tup [.str gaveW,.str s]=heardV f r:=by rw [h,h2];rfl
theorem back_free (P:Prog c) {f:Addr} {cmd nm t:List Nat} {sh:Nat} {x:Nd} {ixs:List Ix} {more:List Nd} {pw:List (List Nat)} {p d:Addr} {z:Int} {bk:List (List Nat×V)} {l2 l7 l8 l9 l10 l11 l12 l15 l16:Option V} (hk:Plain c (n+6) f cmd x ixs more pw) (hd:DueOk cmd x ixs more) (hw:WhOk x t) (hpl:pw.length≤4) (hml:more.length≤4) (hc:H.cmds=cmds0) (hn:nm ∉ H.vs.map (·.nm))
    (hq:Q (.bool true) ((d,.dict bk)::(A++hostO H.sp))):
    wpSs c (n+20) tabT (law_row_right_ms.drop 9) ⟨[some (.own H.h),some (.str nm),l2,some (.own p),some (.own d),some (.str cmd),some (.int sh),l7,l8,l9,l10,l11,l12,some (.str t),some (.list (pw.map .str)),l15,l16,some (.list (ndVs more)),some (faultV (due cmd x ixs more).f),some (.str (due cmd x ixs more).r),some (ndV (due cmd x ixs more).m),none,none],(p,.list [.int z])::(d,.dict bk)::(A++hostO H)⟩ (EndQ Q) (EndX X):=by
  have hS:=due_s hd
  have hpm:(pw.map V.str).length=pw.length:=List.length_map _
  have hmm:=mv_len more
  refine ⟨rfl,?_⟩
  show wpSs c (n+20) tabT (law_row_right_ms.drop 10) ⟨[some (.own H.h),some (.str nm),l2,some (.own p),some (.own d),some (.str cmd),some (.int sh),l7,l8,l9,l10,l11,l12,some (.str t),some (.list (pw.map .str)),l15,l16,some (.list (ndVs more)),some (faultV (due cmd x ixs more).f),some (.str (due cmd x ixs more).r),some (ndV (due cmd x ixs more).m),some (.bool (([lsetW,lpopW,leditW].map V.str).any (V.isStr cmd))),none],(p,.list [.int z])::(d,.dict bk)::(A++hostO H)⟩ (EndQ Q) (EndX X)
  rw [hk.flag]
  have go:∀ws:List V,ws=.str cmd::.str t::(pw.map .str++mv more)→Cmd c (n+19) 484 [.own H.h,.list ws] ((p,.list [.int z])::(d,.dict bk)::(A++hostO H)) (HQ (due cmd x ixs more).f (due cmd x ixs more).r ((p,.list [.int z])::(d,.dict bk)::(A++hostO H.sp))) (HX (due cmd x ixs more).f (·=(p,.list [.int z])::(d,.dict bk)::(A++hostO H.sp))):=fun ws e=>
    call_c (A:=(p,.list [.int z])::(d,.dict bk)::A) (n:=n+15) (cmd:=cmd) P (by rw [e];simp;omega) (by rw [e];rfl) (by rw [hc];exact hk.look) hk.keep (hk.ok hw.tn e)
  refine ⟨777,rfl,rfl,lim_ (by rw [List.length_cons,List.length_singleton];omega),_,rfl,lim_ (by rw [ndVs_len];omega),?_⟩
  refine text_comp P more [] hd.mg hd.ms hd.md ⟨lim_ ?_,?_⟩
  · simp;omega
  refine heard_c (A:=(p,.list [.int z])::(d,.dict bk)::A) (n:=n+19) P (go _ rfl) (fun s o q=>?_) fun m ec o q=>?_
  · obtain ⟨q1,q2,rfl⟩:=q
    refine ?_
    exact row_end0 (A:=(p,.list [.int z])::(d,.dict bk)::A) (H:=H.sp) P (gave_is q1 q2) hS.f hS.r hn hq (List.sublist_cons_self _ _)
  · obtain ⟨q1,rfl⟩:=hx_xe q
    refine ?_
    exact row_end0 (A:=(p,.list [.int z])::(d,.dict bk)::A) (H:=H.sp) P (heard_is q1) hS.f hS.r hn hq (List.sublist_cons_self _ _)
end
inductive RowNext (H:HS) (bk:List (List Nat×V)) (nm:List Nat):HS→List (List Nat×V)→Prop
  | free:RowNext H bk nm H.sp bk
  | no (a:Addr):RowNext H bk nm (H.sp.add (.new nm a)) bk
  | kept {v:Vr} (h1:v.nm=nm) (h2:v.kind=scalarW) (h3:Sm v.val):RowNext H bk nm (H.sp.add v) (dput bk nm (.str v.val))
theorem add_nodup {H:HS} {v:Vr} (hn:v.nm ∉ H.vs.map (·.nm)) (hd:(H.vs.map (·.nm)).Nodup):((H.add v).vs.map (·.nm)).Nodup:=by
  show ((H.vs++[v]).map (·.nm)).Nodup
  rw [List.map_append,List.nodup_append]
  exact ⟨hd,List.nodup_cons.mpr ⟨List.not_mem_nil,List.nodup_nil⟩,fun a ha b hb e=>hn ((List.mem_singleton.mp hb:b=v.nm)▸e▸ha)⟩
section
variable {c:Cx} {n:Nat} {own A B:Own} {Q:PQ} {X:PX} {H:HS}
theorem back_call (P:Prog c) {cmd nm:List Nat} {sh:Nat} {x:Nd} {ixs:List Ix} {more:List Nd} {pw:List (List Nat)} {l2 l3 l4 l7 l8 l9 l10 l11 l12 l13 l15 l16 l18 l19 l20:Option V} (hd:DueOk cmd x ixs more) (hpl:pw.length≤4) (hml:more.length≤4)
    {Qs:PQ} {Xs:PX} (go:∀ws:List V,ws=.str cmd::.str nm::(pw.map .str++mv more)→Cmd c (n+19) 484 [.own H.h,.list ws] (A++hostO H) Qs Xs)
    (k:∀r o,(∃s,r=.tup [.str gaveW,.str s]∧Qs (.str s) o)∨(∃m ec,r=raisedV m ec∧XE Xs o m ec)→wpSs c (n+20) tabT (law_row_right_ms.drop 12) ⟨[some (.own H.h),some (.str nm),l2,l3,l4,some (.str cmd),some (.int sh),l7,l8,l9,l10,l11,l12,l13,some (.list (pw.map .str)),l15,l16,some (.list (ndVs more)),l18,l19,l20,some (.bool true),some r],o⟩ (EndQ Q) (EndX X)):
    wpSs c (n+20) tabT (law_row_right_ms.drop 11) ⟨[some (.own H.h),some (.str nm),l2,l3,l4,some (.str cmd),some (.int sh),l7,l8,l9,l10,l11,l12,l13,some (.list (pw.map .str)),l15,l16,some (.list (ndVs more)),l18,l19,l20,some (.bool true),none],A++hostO H⟩ (EndQ Q) (EndX X):=by
  have hpm:(pw.map V.str).length=pw.length:=List.length_map _
  have hmm:=mv_len more
  refine ⟨777,rfl,rfl,lim_ (by rw [List.length_cons,List.length_singleton];omega),_,rfl,lim_ (by rw [ndVs_len];omega),?_⟩
  refine text_comp P more [] hd.mg hd.ms hd.md ⟨lim_ ?_,?_⟩
  · simp;omega
  exact heard_c (n:=n+19) P (go _ rfl) (fun s o q=>(k _ o (.inl ⟨s,rfl,q⟩))) fun m ec o q=>(k _ o (.inr ⟨m,ec,rfl,q⟩))
theorem back_kept (P:Prog c) {f:Addr} {cmd nm t:List Nat} {sh:Nat} {x:Nd} {ixs:List Ix} {more:List Nd} {pw:List (List Nat)} {p d:Addr} {z:Int} {bk:List (List Nat×V)} {l2 l7 l8 l9 l10 l11 l12 l15 l16:Option V} (hk:Kept c (n+6) f cmd x ixs more pw) (hd:DueOk cmd x ixs more) (hw:WhOk x t) (hpl:pw.length≤4) (hml:more.length≤4) (hc:H.cmds=cmds0) (hn:nm ∉ H.vs.map (·.nm)) (hnd:(H.vs.map (·.nm)).Nodup) (hvl:H.vs.length≤900) (hbl:bk.length≤900) (hnl:nm.length≤900) (hns:Sm nm)
    (hq:∀H' bk',RowNext H bk nm H' bk'→Q (.bool true) ((d,.dict bk')::(A++hostO H'))):
    wpSs c (n+20) tabT (law_row_right_ms.drop 9) ⟨[some (.own H.h),some (.str nm),l2,some (.own p),some (.own d),some (.str cmd),some (.int sh),l7,l8,l9,l10,l11,l12,some (.str t),some (.list (pw.map .str)),l15,l16,some (.list (ndVs more)),some (faultV (due cmd x ixs more).f),some (.str (due cmd x ixs more).r),some (ndV (due cmd x ixs more).m),none,none],(p,.list [.int z])::(d,.dict bk)::(A++hostO H)⟩ (EndQ Q) (EndX X):=by
  have hS:=due_s hd
  refine ⟨rfl,?_⟩
  show wpSs c (n+20) tabT (law_row_right_ms.drop 10) ⟨[some (.own H.h),some (.str nm),l2,some (.own p),some (.own d),some (.str cmd),some (.int sh),l7,l8,l9,l10,l11,l12,some (.str t),some (.list (pw.map .str)),l15,l16,some (.list (ndVs more)),some (faultV (due cmd x ixs more).f),some (.str (due cmd x ixs more).r),some (ndV (due cmd x ixs more).m),some (.bool (([lsetW,lpopW,leditW].map V.str).any (V.isStr cmd))),none],(p,.list [.int z])::(d,.dict bk)::(A++hostO H)⟩ (EndQ Q) (EndX X)
  rw [hk.flag]
  refine ifD (fun h7=>?_) fun h7=>?_
  · have hm:∀a,((H.sp.add (.new nm a)).vs.map (·.nm)).Nodup:=fun a=>add_nodup (H:=H.sp) (v:=.new nm a) hn hnd
    refine ⟨lim_ (lw (Nat.add_le_add (Nat.le_refl _) hnl) rfl),lim_ (lw (Nat.add_le_add (la (Nat.le_refl _) hnl) (Nat.le_refl _)) rfl),?_⟩
    have go:∀ws:List V,ws=.str cmd::.str nm::(pw.map .str++mv more)→Cmd c (n+19) 484 [.own H.h,.list ws] (((p,.list [.int z])::(d,.dict bk)::A)++hostO H) (fun zz zz=>False) (HX (some (noVarMsg nm,noVarEc nm)) fun o=>∃a,o=((p,.list [.int z])::(d,.dict bk)::A)++hostO (H.sp.add (.new nm a))):=fun ws e=>
      call_c (Q:=fun zz zz=>False) (X:=HX (some (noVarMsg nm,noVarEc nm)) fun o=>∃a,o=((p,.list [.int z])::(d,.dict bk)::A)++hostO (H.sp.add (.new nm a))) (f:=f) (ws:=ws) (n:=n+15) (cmd:=cmd) P (by rw [e];simp [mv_len];omega) (by rw [e];rfl) (by rw [hc];exact hk.look) hk.keep fun {Q' X'} h1 h2=>hk.no (A:=(p,.list [.int z])::(d,.dict bk)::A) (H:=H.sp) e hn (by show H.vs.length≤1000;omega) (by omega) fun a=>h2 _ _ _ (xe_hx rfl ⟨a,rfl⟩)
    refine back_call (A:=(p,.list [.int z])::(d,.dict bk)::A) P hd hpl hml go fun r o h=>?_
    rcases h with ⟨_,_,h⟩ | ⟨m,ec,rfl,h⟩
    · exact h.elim
    · obtain ⟨e,a,rfl⟩:=hx_xe h
      exact row_end (A:=(p,.list [.int z])::(d,.dict bk)::A) (H:=H.sp.add (.new nm a)) (v:=.new nm a) (f:=some (noVarMsg nm,noVarEc nm)) (r:=(due cmd x ixs more).r) (own':=(d,.dict bk)::(A++hostO (H.sp.add (.new nm a)))) P (heard_is e) (fun g eg=>Option.some.inj eg▸noVar_sh hns) hS.r (hm a) (List.mem_append_right _ (.head _)) (fun zz=>⟨rfl,rfl⟩) (fun h=>absurd (show sh=7 by omega) h) (hq _ _ (.no a)) (List.sublist_cons_self _ _)
  · have hlook:=hk.look
    have hkeep:=hk.keep
    have hok:=@Kept.ok _ _ _ _ _ _ _ _ hk
    clear hk
    generalize due cmd x ixs more=D at hS hok ⊢
    obtain ⟨f',r,m⟩:=D
    obtain ⟨hSf,hSr,hSm⟩:=hS
    refine ⟨671,_,611,mem_h (A:=(p,.list [.int z])::(d,.dict bk)::A),rfl,rfl,write_new (A:=(p,.list [.int z])::(d,.dict bk)::A) P hn (by omega) fun a=>?_⟩
    have hv:∀v:Vr,v.nm=nm→((H.vs++[v]).map (·.nm)).Nodup:=fun v e=>add_nodup (H:=H) (v:=v) (by rw [e];exact hn) hnd
    have go:∀b:List Nat,∀ws:List V,ws=.str cmd::.str nm::(pw.map .str++mv more)→Cmd c (n+19) 484 [.own H.h,.list ws] (((p,.list [.int z])::(d,.dict (dput bk nm (.str b)))::A)++hostO (H.add ((Vr.new nm a).set t))) (HQ f' r (((p,.list [.int z])::(d,.dict (dput bk nm (.str b)))::A)++hostO (H.sp.add (((Vr.new nm a).set t).set (ntext m))))) (HX f' (·=((p,.list [.int z])::(d,.dict (dput bk nm (.str b)))::A)++hostO (H.sp.add ((Vr.new nm a).set t)))):=fun b ws e=>
      call_c (H:=H.add ((Vr.new nm a).set t)) (n:=n+15) (cmd:=cmd) P (by rw [e];simp [mv_len];omega) (by rw [e];rfl) (by show dget H.cmds cmd=_;rw [hc];exact hlook) hkeep (hok (H:=H.sp) (l:=H.vs) (r:=[]) (v:=(Vr.new nm a).set t) (hv _ rfl) rfl hw.tn e)
    induction f' using Option.casesOn with
    | none=>
      refine (eqAsk_tup0 .nil ⟨713,rfl,rfl,getL_nd (x:=m) rfl ?_⟩)
      refine (text_written (n:=n+2) P 8).text m hSm.good hSm.sz hSm.dp ⟨_,_,lim_ (by omega),.there .here,?_⟩
      refine back_call (H:=H.add ((Vr.new nm a).set t)) (A:=(p,.list [.int z])::(d,.dict (dput bk nm (.str (ntext m))))::A) P hd hpl hml (go (ntext m)) fun r' o h=>?_
      rcases h with ⟨s,rfl,e1,e2,rfl⟩ | ⟨_,_,_,h⟩
      · exact row_end (A:=(p,.list [.int z])::(d,.dict (dput bk nm (.str (ntext m))))::A) (H:=H.sp.add (((Vr.new nm a).set t).set (ntext m))) (v:=((Vr.new nm a).set t).set (ntext m)) (f:=none) (r:=r) (own':=(d,.dict (dput bk nm (.str (ntext m))))::(A++hostO (H.sp.add (((Vr.new nm a).set t).set (ntext m))))) P (gave_is rfl e2) hSf hSr (hv _ rfl) (List.mem_append_right _ (.head _)) (fun h=>absurd (show (sh:Int)=7 by omega) h7) (fun zz=>⟨rfl,rfl⟩) (hq _ _ (.kept rfl rfl (good_sm hSm.good).1)) (List.sublist_cons_self _ _)
      · exact nomatch (hx_xe h).1
    | some g=>
      have hs:=hSf g rfl
      refine (eqAsk_tup0 hs ⟨_,_,lim_ (by omega),.there .here,?_⟩)
      refine back_call (H:=H.add ((Vr.new nm a).set t)) (A:=(p,.list [.int z])::(d,.dict (dput bk nm (.str t)))::A) P hd hpl hml (go t) fun r' o h=>?_
      rcases h with ⟨s,rfl,e1,_⟩ | ⟨mm,ec,rfl,h⟩
      · cases e1
      · obtain ⟨e,rfl⟩:=hx_xe h
        exact row_end (A:=(p,.list [.int z])::(d,.dict (dput bk nm (.str t)))::A) (H:=H.sp.add ((Vr.new nm a).set t)) (v:=(Vr.new nm a).set t) (f:=some g) (r:=r) (own':=(d,.dict (dput bk nm (.str t)))::(A++hostO (H.sp.add ((Vr.new nm a).set t)))) P (heard_is e) hSf hSr (hv _ rfl) (List.mem_append_right _ (.head _)) (fun h=>absurd (show (sh:Int)=7 by omega) h7) (fun zz=>⟨rfl,rfl⟩) (hq _ _ (.kept rfl rfl hw.sm)) (List.sublist_cons_self _ _)
end
section
variable {c:Cx} {n:Nat} {own A B:Own} {Q:PQ} {X:PX} {H:HS}
theorem row_c (P:Prog c) {r:Row} {nm:List Nat} {p d:Addr} {z:Int} {bk:List (List Nat×V)} (hr:RowOk r) (hc:H.cmds=cmds0) (hn:nm ∉ H.vs.map (·.nm)) (hnd:(H.vs.map (·.nm)).Nodup) (hvl:H.vs.length≤900) (hbl:bk.length≤900) (hnl:nm.length≤900) (hns:Sm nm)
    (hq:∀H' bk',RowNext H bk nm H' bk'→Q (.bool true) ((d,.dict bk')::(A++hostO H'))):
    SemCall c (n+21) (.ref 787) [.own H.h,.str nm,rowV r,.own p,.own d] ((p,.list [.int z])::(d,.dict bk)::(A++hostO H)) Q X:=by
  obtain ⟨cmd,shape,nums,told,vals,how⟩:=r
  refine (P.law_row_right rfl fun as zz=>?_).call
  refine row_front (n:=n) (B:=(d,.dict bk)::(A++hostO H)) P hr fun sh x t pw ixs more o11 o16 z' s1 hw hp hd m1 m2 ml=>?_
  have t1:cmd=linsW→told.length=1:=hr.t1
  have t2:cmd≠lsetW→cmd≠lpopW→cmd≠linsW→told.length=2:=hr.t2
  have hm:cmd∈cmdsW:=hr.cmd
  rcases List.mem_cons.mp hm with rfl | hm
  · rw [t1 rfl] at hp
    exact back_free P (free_linsert P hd hp) hd hw hp.pl ml hc hn (hq _ _ .free)
  rcases List.mem_cons.mp hm with rfl | hm
  · rw [t2 (by decide) (by decide) (by decide)] at hp
    exact back_free P (free_lreplace P hd hp) hd hw hp.pl ml hc hn (hq _ _ .free)
  rcases List.mem_cons.mp hm with rfl | hm
  · exact back_kept P (kept_lset P hd hp (m1 rfl)) hd hw hp.pl ml hc hn hnd hvl hbl hnl hns hq
  rcases List.mem_cons.mp hm with rfl | hm
  · exact back_kept P (kept_lpop P hd hp (m2 rfl)) hd hw hp.pl ml hc hn hnd hvl hbl hnl hns hq
  · obtain rfl:=List.mem_singleton.mp hm
    rw [t2 (by decide) (by decide) (by decide)] at hp
    exact back_kept P (kept_ledit P hd hp) hd hw hp.pl ml hc hn hnd hvl hbl hnl hns hq
end
noncomputable def rowB (r:Row):Bool:=decide (r.cmd∈cmdsW) && (decide (r.told.length≤3) && (decide (r.cmd=linsW→r.told.length=1) && (decide (r.cmd≠lsetW→r.cmd≠lpopW→r.cmd≠linsW→r.told.length=2) && (decide (r.nums.length≤100) && decide (r.vals.length≤100)))))
theorem rows_b:toldR.all rowB=true:=by decide +kernel
theorem rows_ok {r:Row} (h:r∈toldR):RowOk r:=by
  have h:=List.all_eq_true.mp rows_b r h
  unfold rowB at h
  obtain ⟨a,h⟩:=and2 h
  obtain ⟨b,h⟩:=and2 h
  obtain ⟨d,h⟩:=and2 h
  obtain ⟨e,h⟩:=and2 h
  obtain ⟨f,g⟩:=and2 h
  exact ⟨of_decide_eq_true a,of_decide_eq_true b,of_decide_eq_true d,of_decide_eq_true e,of_decide_eq_true f,of_decide_eq_true g⟩
noncomputable def nmK (k:Nat):List Nat:=[118]++decS k
noncomputable def nmB (k:Nat):Bool:=(List.range k).all (fun j=>decide (nmK j≠nmK k)) && ((nmK k).all (· < 128) && decide ((nmK k).length≤10))
theorem nm_b:(List.range 24).all nmB=true:=by decide +kernel
theorem nm_ok {k:Nat} (h:k < 24):(∀j,j < k→nmK j≠nmK k)∧Sm (nmK k)∧(nmK k).length≤10:=by
  have h:=List.all_eq_true.mp nm_b k (List.mem_range.mpr h)
  unfold nmB at h
  obtain ⟨a,h⟩:=and2 h
  obtain ⟨b,d⟩:=and2 h
  refine ⟨fun j hj=>of_decide_eq_true (List.all_eq_true.mp a j (List.mem_range.mpr hj)),fun x hx=>?_,of_decide_eq_true d⟩
  have:=of_decide_eq_true (List.all_eq_true.mp b x hx)
  omega
structure LI (h:Addr) (k:Nat) (H:HS) (bk:List (List Nat×V)):Prop where
  h:H.h=h
  cmds:H.cmds=cmds0
  spent:H.spent=k
  nd:(H.vs.map (·.nm)).Nodup
  nm:∀v∈H.vs,∃j,j < k∧v.nm=nmK j
  vl:H.vs.length≤k
  bl:bk.length≤k
  bd:(bk.map (·.1)).Nodup
  bk:∀q∈bk,∃v∈H.vs,v.nm=q.1∧v.kind=scalarW∧q.2=.str v.val∧Sm v.val
theorem LI.new {h:Addr} {k:Nat} {H:HS} {bk:List (List Nat×V)} (L:LI h k H bk) (hk:k < 24):nmK k ∉ H.vs.map (·.nm):=fun hm=>by
  obtain ⟨v,hv,e⟩:=List.mem_map.mp hm
  obtain ⟨j,hj,e2⟩:=L.nm v hv
  exact (nm_ok hk).1 j hj (e2.symm.trans e)
theorem LI.add {h:Addr} {k:Nat} {H:HS} {bk:List (List Nat×V)} (L:LI h k H bk) (hk:k < 24) {v:Vr} (e:v.nm=nmK k):LI h (k+1) (H.sp.add v) bk where
  h:=L.h
  cmds:=L.cmds
  spent:=congrArg (·+1) L.spent
  nd:=add_nodup (H:=H.sp) (v:=v) (by rw [e];exact L.new hk) L.nd
  nm:=fun u hu=>(List.mem_append.mp hu).elim (fun hu=>by obtain ⟨j,a,b⟩:=L.nm u hu;exact ⟨j,Nat.lt_succ_of_lt a,b⟩) fun hu=>⟨k,Nat.lt_succ_self k,List.mem_singleton.mp hu▸e⟩
  vl:=by show (H.vs++[v]).length≤_;rw [List.length_append];exact Nat.succ_le_succ L.vl
  bl:=Nat.le_succ_of_le L.bl
  bd:=L.bd
  bk:=fun q hq=>by obtain ⟨u,a,b⟩:=L.bk q hq;exact ⟨u,List.mem_append_left _ a,b⟩
theorem LI.next {h:Addr} {k:Nat} {H H':HS} {bk bk':List (List Nat×V)} (L:LI h k H bk) (hk:k < 24) (r:RowNext H bk (nmK k) H' bk'):LI h (k+1) H' bk':=by
  cases r with
  | free=>exact ⟨L.h,L.cmds,congrArg (·+1) L.spent,L.nd,fun u hu=>by obtain ⟨j,a,b⟩:=L.nm u hu;exact ⟨j,Nat.lt_succ_of_lt a,b⟩,Nat.le_succ_of_le L.vl,Nat.le_succ_of_le L.bl,L.bd,L.bk⟩
  | no a=>exact L.add hk rfl
  | @kept v h1 h2 h3=>
    have hn:nmK k ∉ bk.map (·.1):=fun hm=>by
      obtain ⟨q,hq,e⟩:=List.mem_map.mp hm
      obtain ⟨u,hu,e2,_⟩:=L.bk q hq
      exact L.new hk (List.mem_map.mpr ⟨u,hu,e2.trans e⟩)
    have L':=L.add hk h1
    rw [dput_new hn]
    refine ⟨L'.h,L'.cmds,L'.spent,L'.nd,L'.nm,L'.vl,?_,?_,fun q hq=>?_⟩
    · rw [List.length_append];exact Nat.succ_le_succ L.bl
    · rw [List.map_append,List.nodup_append]
      exact ⟨L.bd,List.nodup_cons.mpr ⟨List.not_mem_nil,List.nodup_nil⟩,fun a ha b hb e=>hn ((List.mem_singleton.mp hb:b=nmK k)▸e▸ha)⟩
    · rcases List.mem_append.mp hq with hq | hq
      · exact L'.bk q hq
      · obtain rfl:=List.mem_singleton.mp hq
        exact ⟨v,List.mem_append_right _ (.head _),h1,h2,rfl,h3⟩
noncomputable def lawO (a1 a3 d h:Addr) (B:Own) (bk:List (List Nat×V)) (H:HS):Own:=(d,.dict bk)::(((a1,.cell (some (.own h)))::(a3,.cell (some (.own d)))::B)++hostO H)
noncomputable def lawL (xs:List Int) (a1 a3:Addr) (o4 o5 o6 o7 o8:Option V):List (Option V):=[some (.list (xs.map .int)),some (.cell a1),some (.list (toldR.map rowV)),some (.cell a3),o4,o5,o6,o7,o8]
section
variable {c:Cx} {n:Nat} {own A B:Own} {Q:PQ} {X:PX} {H:HS} {a1 a3 d:Addr}
theorem rows_loop (P:Prog c) {xs:List Int} (hl:xs.length≤63) (hb:∀x∈xs,x.natAbs < 2 ^ 1048576) {R:QF} {Y:XT}:∀(h:Addr) (m k:Nat) (H:HS) (bk:List (List Nat×V)) (o4:Option V) {K:PS},k+m=24→LI h k H bk→(∀H' bk' o4,LI h 24 H' bk'→K ⟨lawL xs a1 a3 o4 none none none none,lawO a1 a3 d h B bk' H'⟩)→
    forGo (forP 4 (wpSs c (n+21) tabT law_b0) R Y) ((List.range' k m).map fun (k:Nat)=>V.int k) ⟨lawL xs a1 a3 o4 none none none none,lawO a1 a3 d h B bk H⟩ K
  | h,0,k,H,bk,o4,K,e,L,hk=>by
    have e:k=24:=e
    subst e
    exact hk H bk o4 L
  | h,m+1,k,H,bk,o4,K,e,L,hk=>by
    have hk24:k < 24:=by omega
    obtain ⟨n1,n2,n3⟩:=nm_ok hk24
    obtain ⟨r,hr⟩:∃r,toldR[k]?=some r:=⟨_,List.getElem?_eq_getElem (show k < toldR.length from hk24)⟩
    have hr1:(toldR.map rowV)[((k:Nat):Int).toNat]?=some (rowV r):=by rw [List.getElem?_map];show (toldR[k]?).map rowV=_;rw [hr];rfl
    have hrm:=rows_ok (List.mem_of_getElem? hr)
    obtain rfl:=L.h
    have n4:1+(decS (k:Int)).length≤200000:=by
      have:(nmK k).length=1+(decS k).length:=by unfold nmK;rw [List.length_append];rfl
      omega
    have v1:=L.vl
    have v2:=L.bl
    refine ⟨787,rfl,rfl,_,.tail _ (.head _),by omega,lim_ n4,by omega,by omega,_,hr1,708,rfl,rfl,_,.frz,le_ rfl,?_⟩
    refine pen_c P hl hb (by omega) fun p z=>⟨_,.tail _ (.tail _ (.tail _ (.head _))),?_⟩
    refine row_c (A:=(a1,.cell (some (.own H.h)))::(a3,.cell (some (.own d)))::B) P hrm L.cmds (L.new hk24) L.nd (by omega) (by omega) (Nat.le_trans n3 (by decide)) n2 fun H' bk' hnx=>?_
    exact rows_loop P hl hb _ m (k+1) H' bk' (some (.int k)) (by omega) (L.next hk24 hnx) hk
end
section
variable {c:Cx} {n:Nat} {own A B:Own} {Q:PQ} {X:PX} {H:HS} {a1 a3 d h:Addr}
theorem mem_a1 {O:Own} {x:Addr×OO}:x∈(x::O):=.head _
theorem usage_c (P:Prog c) {cmd us:List Nat} {many:Nat} {f:Addr} {xs:List Int} {bk:List (List Nat×V)} {o4 o8:Option V} {R:QF} {Y:XT} {K:PS} (hc:H.cmds=cmds0) (hl:dget cmds0 cmd=some (cmdV f)) (hk:keepA.contains f=true) (hm:many≤2) (hcl:cmd.length≤100) (hul:us.length≤100) (hsm:Sm (wrongMsg (cmd++([32]++us))))
    (hu:∀{hv:V} {own:Own} {Q:PQ} {X:PX},XE X own (wrongMsg (cmd++([32]++us))) wrongEc→SemCall c (n+5) (.ref f) [hv,.list (.str cmd::(List.replicate many [V.str [97]]).flatten)] own Q X)
    (hK:∀o8,K ⟨lawL xs a1 a3 o4 (some (.str cmd)) (some (.int many)) (some (.str us)) o8,lawO a1 a3 d H.h B bk H.sp⟩):
    wpSs c (n+9) tabT law_b1 ⟨lawL xs a1 a3 o4 (some (.str cmd)) (some (.int many)) (some (.str us)) o8,lawO a1 a3 d H.h B bk H⟩ (loopK K R) Y:=by
  have hml:(List.replicate many [V.str [97]]).flatten.length=many:=by simp
  refine ⟨lim_ (lw (Nat.add_le_add (Nat.le_refl _) hcl) rfl),lim_ (lw (Nat.add_le_add (la (Nat.le_refl _) hcl) (Nat.le_refl _)) rfl),lim_ (lw (Nat.add_le_add (la (la (Nat.le_refl _) hcl) (Nat.le_refl _)) hul) rfl),lim_ (lw (Nat.add_le_add (la (la (la (Nat.le_refl _) hcl) (Nat.le_refl _)) hul) (Nat.le_refl _)) rfl),?_⟩
  have he:[119,114,111,110,103,32,35,32,97,114,103,115,58,32,115,104,111,117,108,100,32,98,101,32,34]++cmd++[32]++us++[34]=wrongMsg (cmd++([32]++us)):=by simp [wrongMsg]
  show wpSs c (n+9) tabT (law_b1.drop 1) ⟨lawL xs a1 a3 o4 (some (.str cmd)) (some (.int many)) (some (.str us)) (some (.str ([119,114,111,110,103,32,35,32,97,114,103,115,58,32,115,104,111,117,108,100,32,98,101,32,34]++cmd++[32]++us++[34]))),lawO a1 a3 d H.h B bk H⟩ (loopK K R) Y
  rw [he]
  refine ⟨777,rfl,rfl,_,.tail _ (.head _),by omega,by omega,by decide,lim_ (by show 1+(List.replicate many [V.str [97]]).flatten.length≤_;omega),?_⟩
  refine heard_c (n:=n+8) (A:=(d,.dict bk)::(a1,.cell (some (.own H.h)))::(a3,.cell (some (.own d)))::B) (Qs:=fun zz zz=>False) (Xs:=HX (some (wrongMsg (cmd++([32]++us)),wrongEc)) (·=lawO a1 a3 d H.h B bk H.sp)) P ?_ (fun s o q=>q.elim) fun m ec o q=>?_
  · exact call_c (n:=n+4) (f:=f) (cmd:=cmd) (A:=(d,.dict bk)::(a1,.cell (some (.own H.h)))::(a3,.cell (some (.own d)))::B) (Q:=fun zz zz=>False) (X:=HX (some (wrongMsg (cmd++([32]++us)),wrongEc)) (·=lawO a1 a3 d H.h B bk H.sp)) P (by rw [List.length_cons];omega) rfl (by rw [hc];exact hl) hk fun {Q' X'} h1 h2=>hu (h2 _ _ _ (xe_hx rfl rfl))
  · obtain ⟨e,rfl⟩:=hx_xe q
    obtain ⟨e1,e2⟩:=Prod.mk.inj (Option.some.inj e)
    subst e1;subst e2
    refine ?_
    have hs:Shs [.int 1,.str (wrongMsg (cmd++([32]++us))),.tup wrongEc] 60:=ec_sh (ws:=[[84,67,76],[87,82,79,78,71,65,82,71,83]]) hsm (by unfold Sm;decide)
    exact eqAsk_refl2 (((Shs.cons (.str raised_sm) hs).tup).up (by decide)) (hK _)
end
theorem dget_mem {kvs:List (List Nat×V)} (hn:(kvs.map (·.1)).Nodup) {q:List Nat×V} (h:q∈kvs):dget kvs q.1=some q.2:=by
  induction kvs with
  | nil=>cases h
  | cons p r ih=>
    obtain ⟨k,v⟩:=p
    rw [List.map_cons,List.nodup_cons] at hn
    rw [dget_cons]
    rcases List.mem_cons.mp h with rfl | h
    · exact if_pos rfl
    · rw [if_neg (fun e:k=q.1=>hn.1 (by show k∈_;rw [e];exact List.mem_map_of_mem (f:=(·.1)) h))];exact ih hn.2 h
section
variable {c:Cx} {n:Nat} {own A B:Own} {Q:PQ} {X:PX} {H:HS} {a1 a3 d h:Addr}
theorem read_comp (P:Prog c) (hA:(a1,OO.cell (some (.own H.h)))∈A) (hn:(H.vs.map (·.nm)).Nodup) {K:List V→Own→Prop} (r:List (List Nat×V)):∀(acc:List V),(∀q∈r,∃v∈H.vs,v.nm=q.1∧v.kind=scalarW∧q.2=.str v.val∧Sm v.val)→K (acc++r.map (·.2)) (A++hostO H)→
    compGo (fun it own K=>wpAnd c (n+6) tabT [] ⟨some it::[some (.cell a1)],own⟩ (fun b st2=>ifB b (wpE c (n+6) tabT (.meth (.loc 1) (.user [114,101,97,100]) [(.loc 0)]) st2 (fun y st3=>K (some y) st3.own) NoX) (K none st2.own)) NoX) (r.map fun p=>.str p.1) acc (A++hostO H) K:=by
  induction r with
  | nil=>
    intro acc _ k
    rw [List.map_nil,List.append_nil] at k;exact k
  | cons q r ih=>
    intro acc hq k
    obtain ⟨v,v1,v2,v3,v4,_⟩:=hq q (.head _)
    rw [List.map_cons,← v2]
    refine ⟨_,List.mem_append_left _ hA,671,_,604,mem_h,rfl,rfl,read_old P hn v1 v3 ?_⟩
    refine ih _ (fun q hq'=>hq q (.tail _ hq')) ?_
    rw [List.append_assoc]
    rw [List.map_cons,v4] at k;exact k
theorem book_comp {bk:List (List Nat×V)} (hA:(a3,OO.cell (some (.dict bk)))∈own) {K:List V→Own→Prop} (r:List (List Nat×V)):∀(acc:List V),(∀q∈r,dget bk q.1=some q.2)→K (acc++r.map (·.2)) own→
    compGo (fun it own K=>wpAnd c n tabT [] ⟨some it::[some (.cell a3)],own⟩ (fun b st2=>ifB b (wpE c n tabT (.idx (.loc 1) (.loc 0)) st2 (fun y st3=>K (some y) st3.own) NoX) (K none st2.own)) NoX) (r.map fun p=>.str p.1) acc own K:=by
  induction r with
  | nil=>
    intro acc _ k
    rw [List.map_nil,List.append_nil] at k;exact k
  | cons q r ih=>
    intro acc hq k
    rw [List.map_cons]
    refine ⟨_,hA,_,hq q (.head _),?_⟩
    refine ih _ (fun q hq'=>hq q (.tail _ hq')) ?_
    rw [List.append_assoc];exact k
theorem law_end (P:Prog c) {xs:List Int} {bk:List (List Nat×V)} {o4 o5 o6 o7 o8:Option V} (L:LI H.h 24 H bk) {H':HS} (hH:H'=H.sp.sp.sp.sp.sp) (hq:Q (.bool true) B):
    wpSs c (n+21) tabT (law_ms.drop 4) ⟨lawL xs a1 a3 o4 o5 o6 o7 o8,lawO a1 a3 d H'.h B bk H'⟩ (EndQ Q) (EndX X):=by
  have hsp:H'.spent=29:=by
    rw [hH]
    show H.spent+1+1+1+1+1=29
    rw [L.spent];rfl
  have hvs:H'.vs=H.vs:=by rw [hH];rfl
  have hn:(H'.vs.map (·.nm)).Nodup:=by rw [hvs];exact L.nd
  have hb:∀q∈bk,∃v∈H'.vs,v.nm=q.1∧v.kind=scalarW∧q.2=.str v.val∧Sm v.val:=by rw [hvs];exact L.bk
  have hbl:=L.bl
  clear hH
  refine ⟨_,.tail _ (.head _),attr_h (A:=(d,.dict bk)::(a1,.cell (some (.own H'.h)))::(a3,.cell (some (.own d)))::B) rfl rfl rfl ⟨_,.frz,le_ rfl,?_⟩⟩
  show ifB (!decide (H'.spent=29)) _ _
  rw [hsp]
  refine ⟨_,.tail _ (.head _),attr_h (A:=(d,.dict bk)::(a1,.cell (some (.own H'.h)))::(a3,.cell (some (.own d)))::B) rfl rfl rfl ?_⟩
  refine ⟨a3,d,bk,_,_,rfl,.here,.there .here,?_⟩
  have hit:iterV (.dict bk)=some (bk.map fun p=>V.str p.1):=if_pos L.bd
  refine ⟨_,.tail _ (.head _),_,hit,lim_ (by rw [List.length_map];omega),?_⟩
  refine read_comp (A:=(a1,.cell (some (.own H'.h)))::(a3,.cell (some (.dict bk)))::B) (n:=n+15) P (.head _) hn bk [] hb ?_
  refine ⟨_,.tail _ (.head _),_,hit,lim_ (by rw [List.length_map];omega),?_⟩
  refine book_comp (.tail _ (.head _)) bk [] (fun q hq=>dget_mem L.bd hq) ?_
  have hs:Sh (.list ([]++bk.map (·.2))) 61:=(Shs.of (k:=60) fun y hy=>by
    obtain ⟨q,hq,rfl⟩:=List.mem_map.mp hy
    obtain ⟨v,_,_,_,e,s⟩:=hb q hq
    rw [e];exact .str s).list
  exact eqAsk_refl2 (hs.up (by decide)) (.mk ((List.sublist_append_left B (hostO H')).trans ((List.sublist_cons_self _ _).trans (List.sublist_cons_self _ _))) hq)
end
section
variable {c:Cx} {n:Nat} {own A B:Own} {Q:PQ} {X:PX} {H:HS} {a1 a3 d h:Addr}
theorem law_usage (P:Prog c) {xs:List Int} {bk:List (List Nat×V)} {o4:Option V} {R:QF} {Y:XT} {K:PS} (hc:H.cmds=cmds0) (hK:∀o5 o6 o7 o8,K ⟨lawL xs a1 a3 o4 o5 o6 o7 o8,lawO a1 a3 d H.h B bk H.sp.sp.sp.sp.sp⟩):
    forGo (fun it st K=>tup1 it fun xs=>xs.length=[5,6,7].length∧putTs ([5,6,7].map .loc) xs st fun st=>wpSs c (n+9) tabT law_b1 st (loopK K R) Y) (usages.map usageV) ⟨lawL xs a1 a3 o4 none none none none,lawO a1 a3 d H.h B bk H⟩ K:=by
  refine ⟨rfl,usage_c (many:=1) (f:=364) P hc rfl rfl (by decide) (by decide) (by decide) (by unfold Sm;decide) (fun h=>linsert_u P (by decide) rfl h) fun zz=>?_⟩
  refine ⟨rfl,usage_c (H:=H.sp) (many:=2) (f:=378) P hc rfl rfl (by decide) (by decide) (by decide) (by unfold Sm;decide) (fun h=>lreplace_u P (by decide) h) fun zz=>?_⟩
  refine ⟨rfl,usage_c (H:=H.sp.sp) (many:=0) (f:=399) P hc rfl rfl (by decide) (by decide) (by decide) (by unfold Sm;decide) (fun h=>lpop_u P (by decide) h) fun zz=>?_⟩
  refine ⟨rfl,usage_c (H:=H.sp.sp.sp) (many:=2) (f:=385) P hc rfl rfl (by decide) (by decide) (by decide) (by unfold Sm;decide) (fun h=>ledit_u P (by decide) h) fun zz=>?_⟩
  refine ⟨rfl,usage_c (H:=H.sp.sp.sp.sp) (many:=1) (f:=392) P hc rfl rfl (by decide) (by decide) (by decide) (by unfold Sm;decide) (fun h=>lset_u P (by decide) h) fun zz=>?_⟩
  exact hK _ _ _ _
theorem law_c (P:Prog c) {xs:List Int} (hl:xs.length≤63) (hb:∀x∈xs,x.natAbs < 2 ^ 1048576) (hq:Q (.bool true) own) (as:List Addr) (has:as.length=2):wpSs c (n+21) tabT law_ms ⟨[.par 0,.cell 0,.non,.cell 1,.non,.non,.non,.non,.non].map (LS.loc [.list (xs.map .int)] as),mkCells [.list (xs.map .int)] [none,none] as++own⟩ (EndQ Q) (EndX X):=by
  rcases as with _ | ⟨a1,_ | ⟨a3,_ | ⟨_,_⟩⟩⟩<;>first | cases has | skip
  refine ⟨671,rfl,rfl,SmallHost_c (n:=n+18) P fun h dt di dv dc df=>⟨687,rfl,rfl,told_c P fun d=>⟨rfl,?_⟩⟩⟩
  refine ⟨a1,_,_,rfl,.there .here,a3,_,_,rfl,.there (.there .here),?_⟩
  refine ⟨_,.tail _ (.head _),671,_,654,mem_h (H:=H0 h dt di dv dc df) (A:=(d,.dict [])::(a1,.cell (some (.own h)))::(a3,.cell (some (.own d)))::own),rfl,rfl,406,rfl,rfl,edit_commands_c P (add_c (H:=H0 h dt di dv dc df) (A:=(d,.dict [])::(a1,.cell (some (.own h)))::(a3,.cell (some (.own d)))::own) (n:=n+18) P rfl rfl ?_)⟩
  generalize hH:({ H0 h dt di dv dc df with cmds:=cmds0,firsts:=firsts0 }:HS)=H
  have L:LI h 0 H []:=by
    subst hH
    exact ⟨rfl,rfl,rfl,List.nodup_nil,fun zz h=>(nomatch h),le_ rfl,le_ rfl,List.nodup_nil,fun zz h=>(nomatch h)⟩
  refine ⟨_,.frz,le_ rfl,by decide,by decide,_,rfl,le_ rfl,?_⟩
  have hr:((List.range (((toldR.map rowV).length:Nat):Int).toNat).map fun (k:Nat)=>V.int k)=(List.range' 0 24).map fun (k:Nat)=>V.int k:=by
    show (List.range 24).map _=_
    rw [List.range_eq_range']
  rw [hr]
  refine rows_loop (n:=n) (B:=own) P hl hb h 24 0 H [] none rfl L fun H' bk o4 L'=>?_
  obtain rfl:=L'.h
  refine ⟨694,rfl,rfl,usages_c (n:=n+20) P ⟨_,rfl,le_ rfl,law_usage (n:=n+12) P L'.cmds fun o5 o6 o7 o8=>?_⟩⟩
  exact law_end (H':=H'.sp.sp.sp.sp.sp) P L' rfl hq
end
noncomputable def scOf (gl:List (Str×Value)) (bi:List (Str×Bi)) (nm:List (Str×NameKind)) (marks:List (Nat×Nat)):Scp:={ vars:=nm.filterMap (fun p=>if p.2 == .local || p.2 == .cell then some p.1 else none),nm:=nm,gl:=gl,bi:=bi,marks:=marks }
noncomputable def psOf (fd:FuncData):List Str:=fd.params.args.map (·.arg)
noncomputable def dvOf (K:Frag) (fd:FuncData) (k:Nat):List Value:=match fd.defaults with
  | .ref T=>(match K.lookup T with
    | some o=>(match o.data with
      | .seq items _=>items.toList.drop (items.size+k - fd.params.args.length)
      | _=>[])
    | none=>[])
  | _=>[]
noncomputable def vOf:Value→Option V
  | .int i _=>some (.int i)
  | .none=>some .non
  | _=>none
noncomputable def vsOf:List Value→Option (List V)
  | []=>some []
  | v::r=>obd (vOf v) fun y=>obd (vsOf r) fun ys=>some (y::ys)
theorem ok_v {c:Cx} {fz:List (Addr×Obj)} (v:Value):Ok (vOf v) (c.R fz v):=by
  cases v<;>first | exact ok_none | exact ok_some .non | exact ok_some (.int _ _)
theorem ok_vs {c:Cx} {fz:List (Addr×Obj)} (vs:List Value):Ok (vsOf vs) (c.Rs fz vs):=by
  induction vs with
  | nil=>
    exact ok_some .nil
  | cons v r ih=>
    exact ok_obd (ok_v v) fun y h=>ok_obd (ih) fun ys hs=>ok_some (.cons h hs)
theorem range_get {vs:List Value}:vs=(List.range vs.length).map fun i=>vs.getD i .none:=by
  refine List.ext_getElem (by simp) fun i h1 h2=>?_
  simp [h1]
noncomputable def fdOf (K:Frag) (f:Addr):FuncData:=match K.lookup f with
  | some o=>(match o.data with
    | .func fd=>fd
    | _=>default)
  | none=>default
noncomputable def isSt:FuncBody→Bool
  | .stmts _=>true
  | _=>false
noncomputable def stOf:FuncBody→List Stmt
  | .stmts b=>b
  | _=>[]
theorem st_of {b:FuncBody} (h:isSt b=true):b=.stmts (stOf b):=by
  cases b with
  | stmts b=>rfl
  | _=>exact no_ft h
noncomputable def bodyOf (fd:FuncData):List Stmt:=stOf fd.body
noncomputable def isFd (K:Frag) (f:Addr):Bool:=match K.lookup f with
  | some o=>(match o.data with
    | .func fd=>isSt fd.body
    | _=>false)
  | none=>false
theorem fd_of {K:Frag} {f:Addr} (h:isFd K f=true):(∃o,K.lookup f=some o∧o.data=.func (fdOf K f))∧(fdOf K f).body=.stmts (bodyOf (fdOf K f)):=by
  unfold isFd at h
  cases e:K.lookup f with
  | none=>rw [e] at h;cases h
  | some o=>
    rw [e] at h
    obtain ⟨cl,di,da,sl⟩:=o
    cases da with
    | func fd=>
      have e2:fdOf K f=fd:=by unfold fdOf;rw [e]
      exact ⟨⟨_,rfl,by rw [e2]⟩,by rw [e2];exact st_of h⟩
    | _=>exact no_ft h
noncomputable def certB (K:Frag) (f:Addr) (gl:List (Str×Value)) (bi:List (Str×Bi)) (marks:List (Nat×Nat)) (k:Nat) (ls:List LS) (cs:List (Option Nat)):Bool:=
  isFd K f && (codeIn K (fdOf K f).code (fdOf K f).qualname && (!(fdOf K f).scope.isCoroutine && (!(fdOf K f).scope.isGenerator && ((fdOf K f).scope.kind == .function && ((fdOf K f).closure.isEmpty && ((fdOf K f).globals == mainGlobals && ((fdOf K f).builtins == builtinsNs && (frameOk (fdOf K f).scope.names (psOf (fdOf K f)) (scOf gl bi (fdOf K f).scope.names marks).vars ls cs && (psOf (fdOf K f)).length == k+(dvOf K (fdOf K f) k).length))))))))
theorem fnAt_of {c:Cx} {f:Addr} {gl:List (Str×Value)} {bi:List (Str×Bi)} (marks:List (Nat×Nat)) {k:Nat} {ls:List LS} {cs:List (Option Nat)} {bs:List MS} (hg:Glb c gl bi)
    (h1:certB c.K f gl bi marks k ls cs=true) (h2:toBody (scOf gl bi (fdOf c.K f).scope.names marks) (bodyOf (fdOf c.K f))=some bs):FnAt c f (fdOf c.K f) (bodyOf (fdOf c.K f)) (scOf gl bi (fdOf c.K f).scope.names marks) (psOf (fdOf c.K f)) ls cs bs∧(psOf (fdOf c.K f)).length=k+(dvOf c.K (fdOf c.K f) k).length:=by
  unfold certB at h1
  obtain ⟨a1,h1⟩:=and2 h1
  obtain ⟨a2,h1⟩:=and2 h1
  obtain ⟨a3,h1⟩:=and2 h1
  obtain ⟨a4,h1⟩:=and2 h1
  obtain ⟨a5,h1⟩:=and2 h1
  obtain ⟨a6,h1⟩:=and2 h1
  obtain ⟨a7,h1⟩:=and2 h1
  obtain ⟨a8,h1⟩:=and2 h1
  obtain ⟨a9,b1⟩:=and2 h1
  exact ⟨⟨(fd_of a1).1,(fd_of a1).2,a2,(Bool.not_eq_true' _).mp a3,(Bool.not_eq_true' _).mp a4,beq_iff_eq.mp a5,List.isEmpty_iff.mp a6,beq_iff_eq.mp a7,beq_iff_eq.mp a8,rfl,a9,hg,h2⟩,beq_iff_eq.mp b1⟩
theorem fn_of {c:Cx} {f:Addr} {gl:List (Str×Value)} {bi:List (Str×Bi)} (marks:List (Nat×Nat)) {k:Nat} {dfl:List V} {ls:List LS} {cs:List (Option Nat)} {bs:List MS} (hT:tabT.Ok c) (hg:Glb c gl bi)
    (h1:certB c.K f gl bi marks k ls cs=true) (h2:toBody (scOf gl bi (fdOf c.K f).scope.names marks) (bodyOf (fdOf c.K f))=some bs)
    (h3:∀(S:Setting) (g:Nat→Value),peek c.K S (bindArgs (fdOf c.K f) ⟨(List.range k).map g,[]⟩)=some ((psOf (fdOf c.K f)).zip ((List.range k).map g++dvOf c.K (fdOf c.K f) k))) (h4:vsOf (dvOf c.K (fdOf c.K f) k)=some dfl):FnC c f k dfl ls cs bs:=fun {n xs own Q X} hk h=>by
  obtain ⟨D,np⟩:=fnAt_of marks hg h1 h2
  refine call_snd (ys:=xs++dfl) hT D rfl (fun s fz vs hK r=>⟨vs++dvOf c.K (fdOf c.K f) k,?_,?_,r.append ((ok_vs _).get h4)⟩) fun as ha=>entC_to (K:=entS bs c n Q X _) (entL_to (K:=fun l=>entC (xs++dfl) as own cs (entS bs c n Q X l)) (h as ha))
  · have hl:vs.length=k:=r.length.trans hk
    have e:=range_get (vs:=vs)
    rw [hl] at e
    rw [e]
    exact kp_binds hK fun S=>h3 S _
  · rw [List.length_append,r.length,hk];exact np.symm
noncomputable def glU:List (Str×Value):=[(Str.ofString "is_blank",.ref 181),(Str.ofString "digit",.ref 188),(Str.ofString "digits_value",.ref 195),(Str.ofString "base_of",.ref 202),(Str.ofString "whole_of",.ref 209),(Str.ofString "moved",.ref 216),(Str.ofString "index_of",.ref 223),(Str.ofString "error",.ref 139),(Str.ofString "wrong_args",.ref 146),(Str.ofString "hex_sign",.ref 230),(Str.ofString "octal_sign",.ref 237),(Str.ofString "backslash",.ref 244),(Str.ofString "check_behind",.ref 251),(Str.ofString "braced_element",.ref 258),(Str.ofString "quoted_element",.ref 265),(Str.ofString "bare_element",.ref 272),(Str.ofString "find_element",.ref 279),(Str.ofString "split_list",.ref 286),(Str.ofString "mode_of",.ref 293),(Str.ofString "escaped",.ref 300),(Str.ofString "quote",.ref 308),(Str.ofString "join_list",.ref 315),(Str.ofString "indices_of",.ref 322),(Str.ofString "at_path",.ref 329),(Str.ofString "replaced",.ref 336),(Str.ofString "inserted",.ref 343),(Str.ofString "levels_of",.ref 350),(Str.ofString "set_at",.ref 357),(Str.ofString "do_linsert",.ref 364),(Str.ofString "edited",.ref 371),(Str.ofString "do_lreplace",.ref 378),(Str.ofString "do_ledit",.ref 385),(Str.ofString "do_lset",.ref 392),(Str.ofString "do_lpop",.ref 399),(Str.ofString "edit_commands",.ref 406),(Str.ofString "Var",.ref 423),(Str.ofString "Host",.ref 508),(Str.ofString "no_variable",.ref 519),(Str.ofString "var_in",.ref 526),(Str.ofString "put_value",.ref 533),(Str.ofString "pair_of",.ref 547),(Str.ofString "act",.ref 554),(Str.ofString "SmallHost",.ref 671),(Str.ofString "Raised",.ref 84),(Str.ofString "Nest",.ref 105),(Str.ofString "Pause",.ref 126),(Str.ofString "TclFault",.ref 38),(Str.ofString "Misused",.ref 51),(Str.ofString "OutOfFuel",.ref 63),(Str.ofString "_law_pool",.ref 680),(Str.ofString "_law_told",.ref 687),(Str.ofString "_law_usages",.ref 694),(Str.ofString "_law_draw",.ref 701),(Str.ofString "_law_pen",.ref 708),(Str.ofString "_law_text",.ref 713),(Str.ofString "_law_written",.ref 720),(Str.ofString "_law_spelled",.ref 727),(Str.ofString "_law_items",.ref 734),(Str.ofString "_law_bad",.ref 741),(Str.ofString "_law_index",.ref 748),(Str.ofString "_law_path",.ref 753),(Str.ofString "_law_put",.ref 760),(Str.ofString "_law_got",.ref 765),(Str.ofString "_law_due",.ref 770),(Str.ofString "_law_heard",.ref 777),(Str.ofString "_law_nodes",.ref 782),(Str.ofString "_law_row_right",.ref 787)]
noncomputable def glB:List (Str×Value):=[(Str.ofString "list",.type "list"),(Str.ofString "tuple",.type "tuple"),(Str.ofString "Exception",.type "Exception")]
noncomputable def biT:List (Str×Bi):=[(Str.ofString "len",.len),(Str.ofString "ord",.ord),(Str.ofString "abs",.abs),(Str.ofString "min",.min),(Str.ofString "max",.max),(Str.ofString "sum",.sum),(Str.ofString "str",.str),(Str.ofString "range",.range),(Str.ofString "isinstance",.isList)]
structure Fr0 where
  f:Addr
  marks:List (Nat×Nat)
  k:Nat
  dfl:List V
  ls:List LS
  cs:List (Option Nat)
  ms:List MS
noncomputable def rowsF:List Fr0:=[⟨81,[(17008,0)],4,[.int 0,.int 0],[.par 0,.par 1,.par 2,.par 3,.par 4,.par 5],[],Raised_ini_ms⟩,
  ⟨139,[],2,[],[.par 0,.par 1],[],error_ms⟩,
  ⟨146,[],1,[],[.par 0],[],wrong_args_ms⟩,
  ⟨181,[],1,[],[.par 0],[],is_blank_ms⟩,
  ⟨188,[],1,[],[.par 0,.non],[],digit_ms⟩,
  ⟨195,[],2,[],[.par 0,.par 1,.non,.non,.non],[],digits_value_ms⟩,
  ⟨202,[],1,[],[.par 0],[],base_of_ms⟩,
  ⟨209,[],1,[],[.par 0,.non,.non,.non,.non,.non],[],whole_of_ms⟩,
  ⟨216,[],2,[],[.par 0,.par 1,.non],[],moved_ms⟩,
  ⟨223,[],2,[],[.par 0,.par 1,.non,.non,.non],[],index_of_ms⟩,
  ⟨244,[],2,[],[.par 0,.par 1,.non,.non,.non],[],backslash_ms⟩,
  ⟨251,[],3,[],[.par 0,.par 1,.par 2,.non],[],check_behind_ms⟩,
  ⟨258,[],2,[],[.par 0,.par 1,.non,.non,.non],[],braced_element_ms⟩,
  ⟨265,[(224010,0)],2,[],[.par 0,.par 1,.non,.non],[],quoted_element_ms⟩,
  ⟨272,[(237010,0)],2,[],[.par 0,.par 1,.non,.non],[],bare_element_ms⟩,
  ⟨279,[],2,[],[.par 0,.par 1],[],find_element_ms⟩,
  ⟨286,[(257012,0),(262011,0)],1,[],[.par 0,.non,.non],[],split_list_ms⟩,
  ⟨293,[],2,[],[.par 0,.par 1,.non,.non,.non,.non,.non,.non,.non,.non],[],mode_of_ms⟩,
  ⟨300,[],2,[],[.par 0,.par 1,.non],[],escaped_ms⟩,
  ⟨308,[(310010,0)],2,[],[.par 0,.par 1,.non,.non,.non],[],quote_ms⟩,
  ⟨315,[(317010,0)],1,[],[.par 0,.non,.non],[],join_list_ms⟩,
  ⟨322,[],1,[],[.par 0],[],indices_of_ms⟩,
  ⟨329,[],2,[],[.par 0,.par 1,.non,.non,.non,.non],[],at_path_ms⟩,
  ⟨336,[],4,[],[.par 0,.par 1,.par 2,.par 3,.non,.non],[],replaced_ms⟩,
  ⟨343,[],3,[],[.par 0,.par 1,.par 2],[],inserted_ms⟩,
  ⟨350,[(347013,0)],3,[],[.par 0,.par 1,.par 2,.non,.non,.non,.non],[],levels_of_ms⟩,
  ⟨357,[],3,[],[.par 0,.par 1,.par 2,.non,.non,.non,.non,.non],[],set_at_ms⟩,
  ⟨364,[],2,[],[.par 0,.par 1,.non,.non],[],do_linsert_ms⟩,
  ⟨371,[],2,[],[.par 0,.par 1,.non,.non,.non],[],edited_ms⟩,
  ⟨378,[],2,[],[.par 0,.par 1],[],do_lreplace_ms⟩,
  ⟨385,[],2,[],[.par 0,.par 1],[],do_ledit_ms⟩,
  ⟨392,[],2,[],[.par 0,.par 1,.non,.non],[],do_lset_ms⟩,
  ⟨399,[],2,[],[.par 0,.par 1,.non,.non,.non],[],do_lpop_ms⟩,
  ⟨406,[],0,[],[],[],edit_commands_ms⟩,
  ⟨420,[],1,[],[.par 0],[],Var_ini_ms⟩,
  ⟨442,[],3,[],[.par 0,.par 1,.par 2],[],Host_ini_ms⟩,
  ⟨456,[],1,[],[.par 0],[],Host_spend_ms⟩,
  ⟨484,[],2,[],[.par 0,.par 1,.non],[],Host_call_ms⟩,
  ⟨519,[],2,[],[.par 0,.par 1,.non],[],no_variable_ms⟩,
  ⟨526,[],2,[],[.par 0,.par 1],[],var_in_ms⟩,
  ⟨533,[],3,[],[.par 0,.par 1,.par 2],[],put_value_ms⟩,
  ⟨547,[],1,[],[.par 0],[],pair_of_ms⟩,
  ⟨554,[],4,[],[.par 0,.par 1,.par 2,.par 3],[],act_ms⟩,
  ⟨569,[],1,[.int 40,.non],[.par 0,.par 1,.par 2],[],SmallHost_ini_ms⟩,
  ⟨576,[],2,[],[.par 0,.par 1],[],SmallHost_has_ms⟩,
  ⟨583,[],2,[],[.par 0,.par 1],[],SmallHost_place_ms⟩,
  ⟨590,[],3,[],[.par 0,.par 1,.par 2],[],SmallHost_read_var_ms⟩,
  ⟨597,[],4,[],[.par 0,.par 1,.par 2,.par 3],[],SmallHost_write_var_ms⟩,
  ⟨604,[],2,[],[.par 0,.par 1],[],SmallHost_read_ms⟩,
  ⟨611,[],3,[],[.par 0,.par 1,.par 2],[],SmallHost_write_ms⟩,
  ⟨625,[],2,[],[.par 0,.par 1],[],SmallHost_stamp_ms⟩,
  ⟨640,[],4,[],[.par 0,.par 1,.par 2,.par 3],[],SmallHost_put_ms⟩,
  ⟨647,[],2,[],[.par 0,.par 1],[],SmallHost_remove_ms⟩,
  ⟨654,[],2,[],[.par 0,.par 1,.non,.non,.non],[],SmallHost_add_ms⟩,
  ⟨668,[],2,[],[.par 0,.par 1,.non,.non],[],SmallHost_begin_ms⟩,
  ⟨680,[],0,[],[],[],law_pool_ms⟩,
  ⟨687,[],0,[],[],[],law_told_ms⟩,
  ⟨694,[],0,[],[],[],law_usages_ms⟩,
  ⟨701,[],2,[],[.par 0,.par 1,.non],[],law_draw_ms⟩,
  ⟨708,[(578011,0),(577015,0)],3,[],[.par 0,.par 1,.par 2],[],law_pen_ms⟩,
  ⟨713,[],1,[],[.cell 0],[some 0],law_text_ms⟩,
  ⟨720,[],2,[],[.par 0,.par 1,.non,.non],[],law_written_ms⟩,
  ⟨727,[],2,[],[.par 0,.par 1,.non,.non,.non],[],law_spelled_ms⟩,
  ⟨734,[],1,[],[.par 0,.non,.non],[],law_items_ms⟩,
  ⟨741,[],1,[],[.par 0],[],law_bad_ms⟩,
  ⟨748,[],3,[],[.par 0,.par 1,.par 2,.non,.non,.non,.non,.non,.non,.non,.non],[],law_index_ms⟩,
  ⟨753,[],4,[],[.par 0,.cell 0,.par 2,.cell 1,.non,.cell 2,.non,.non],[some 1,some 3,none],law_path_ms⟩,
  ⟨760,[],3,[],[.par 0,.par 1,.par 2,.non,.non,.non,.non,.non,.non,.non,.non],[],law_put_ms⟩,
  ⟨765,[],2,[],[.par 0,.par 1,.non,.non,.non,.non,.non,.non,.non,.non],[],law_got_ms⟩,
  ⟨770,[],4,[],[.par 0,.par 1,.par 2,.par 3,.non,.non,.non,.cell 0,.non,.cell 1,.non,.cell 2,.cell 3],[none,none,none,none],law_due_ms⟩,
  ⟨777,[],2,[],[.par 0,.par 1,.non],[],law_heard_ms⟩,
  ⟨782,[],3,[],[.cell 0,.par 1,.cell 1,.cell 2],[some 0,some 2,none],law_nodes_ms⟩,
  ⟨787,[],5,[],[.par 0,.par 1,.par 2,.par 3,.par 4,.non,.non,.non,.non,.non,.non,.non,.non,.non,.non,.non,.non,.non,.non,.non,.non,.non,.non],[],law_row_right_ms⟩,
  ⟨792,[(743011,3)],1,[],[.par 0,.cell 0,.non,.cell 1,.non,.non,.non,.non,.non],[none,none],law_ms⟩]
noncomputable def Fr0.cert (K:Frag) (r:Fr0):Bool×Option (List MS)×Option (List V):=(certB K r.f (glU++glB) biT r.marks r.k r.ls r.cs,toBody (scOf (glU++glB) biT (fdOf K r.f).scope.names r.marks) (bodyOf (fdOf K r.f)),vsOf (dvOf K (fdOf K r.f) r.k))
noncomputable def Fr0.pk (K:Frag) (S:Setting) (g:Nat→Value) (r:Fr0):Option (List (Str×Value)):=peek K S (bindArgs (fdOf K r.f) ⟨(List.range r.k).map g,[]⟩)
noncomputable def Fr0.pw (K:Frag) (g:Nat→Value) (r:Fr0):Option (List (Str×Value)):=some ((psOf (fdOf K r.f)).zip ((List.range r.k).map g++dvOf K (fdOf K r.f) r.k))
structure Certs (K:Frag):Prop where
  fn:rowsF.map (Fr0.cert K)=rowsF.map (fun r=>(true,some r.ms,some r.dfl))
  bd:∀(S:Setting) (g:Nat→Value),rowsF.map (Fr0.pk K S g)=rowsF.map (Fr0.pw K g)
  t1:hostA.all (fun n=>attrOk K 671 (toStr n) && satrOk K 671 (toStr n))=true
  t2:varA.all (fun n=>attrOk K 423 (toStr n) && satrOk K 423 (toStr n))=true
  t3:excA.all (fun n=>attxOk K 84 (toStr n))=true
  t4:subIn K (.ref 84) (.type "BaseException")=some true
  t5:hostM.all (fun p=>plainGet K 671 (toStr p.1) && (findIn K (.ref 671) (toStr p.1) == some (some (.ref p.2)) && (isFn K (.ref p.2) && keepIn K (.ref p.2))))=true
  t6:keepA.all (fun a=>keepIn K (.ref a))=true
  t7:specialIn K (.ref 508) "__getattribute__"=some (some (.builtin "type.__getattribute__"))
  t8:typeIn K (.ref 508)=some (.type "type")
  t9:readsIn K 508 (.type "type")=true
  t10:keepIn K (.ref 442)=true
  t11:cmdA.all (fun f=>typeIn K (.ref f) == some (.type "function"))=true
  t12:isNotIn K "str" 105=true
  t13:isNotIn K "str" 126=true
  t14:exmOne K (.ref 84) (.ref 84)=some true
  t15:typeIn K (.ref 84)=some (.type "type")
  t16:hasDictIn K 84=true
  t17:subIn K (.ref 84) (.type "Exception")=some true
  t18:glU.all (fun p=>nsIn K mainGlobals p.1 == some (some p.2))=true
  t19:glB.all (fun p=>nsIn K mainGlobals p.1 == some none && (bootBuiltins p.1 == some p.2 && !(p.1 == "__name__")))=true
  t20:biT.all (fun p=>nsIn K mainGlobals p.1 == some none && (bootBuiltins p.1 == some p.2.val && !(p.1 == "__name__")))=true
  t21:makesIn K 423=true
  t22:findIn K (.ref 423) "__init__"=some (some (.ref 420))
  t23:typeIn K (.ref 420)=some (.type "function")
  t24:makesIn K 671=true
  t25:findIn K (.ref 671) "__init__"=some (some (.ref 569))
  t26:typeIn K (.ref 569)=some (.type "function")
  t27:nsOkIn K 83=true
  t28:∃o es k,K.lookup 83=some o∧o.data=.dict es k∧nsFind es "__init__"=some (.ref 81)
  t29:typeIn K (.ref 81)=some (.type "function")
  cm:findCls K (.ref 508) (.type "type") (toStr [95,95,105,110,105,116,95,95])=some (.val (.ref 442))
  ex:∃nm q dd k0 k1 k2 k3 k5,K.lookup 84=some (excClassObj nm q 84 83 [.type "Exception"] [.type "Exception",.type "BaseException",.type "object"] true [] [] false none dd k0 k1 k2 k3 k5 "Exception.__new__")
theorem ns_of {K:Frag} {h:Heap} {N:Addr} {mg:Str→Option Value} {n:Str} {v:Value} (X:K.In h) (G:h.Ns N mg) (e:∃o es k,K.lookup N=some o∧o.data=.dict es k∧nsFind es n=some v):mg n=some v:=by
  obtain ⟨o,es,k,ho,hd,e⟩:=e
  obtain ⟨o',es',ep',ho',hd',_,hf⟩:=G
  have h:=X _ _ ho
  rw [ho'] at h
  cases h
  rw [hd] at hd'
  cases hd'
  rw [← hf];exact e
theorem map_at {α β:Type} {f g:α→β} {l:List α} (h:l.map f=l.map g) {r:α} (hr:r∈l):f r=g r:=List.map_inj_left.mp h r hr
theorem lookup_mem {α κ:Type} [BEq κ] [LawfulBEq κ] {l:List (κ×α)} {x:κ} {v:α} (h:l.lookup x=some v):(x,v)∈l:=by
  induction l with
  | nil=>cases h
  | cons p r ih=>
    obtain ⟨k,w⟩:=p
    rw [List.lookup_cons] at h
    cases e:x == k with
    | true=>rw [e] at h;cases h;rw [beq_iff_eq.mp e];exact .head _
    | false=>rw [e] at h;exact .tail _ (ih h)
section
variable {c:Cx}
theorem all_at {α:Type} {l:List α} {f:α→Bool} (h:l.all f=true) {x:α} (hx:x∈l):f x=true:=List.all_eq_true.mp h x hx
theorem dv_nil {vs:List Value} (h:vsOf vs=some []):vs=[]:=by
  induction vs using List.casesOn with
  | nil=>rfl
  | cons v r=>
    have:Ok (vsOf (v::r)) fun ys=>ys≠[]:=ok_eq fun y zz=>ok_eq fun ys zz=>ok_some (List.cons_ne_nil _ _)
    exact absurd rfl (this.get h)
theorem typ_at {K:Frag} {f:Addr} {t:Value} (h:typeIn K (.ref f)=some t):∃o,K.lookup f=some o∧o.cls=t:=by
  replace h:(K.lookup f).map (·.cls)=some t:=h
  cases e:K.lookup f with
  | none=>rw [e] at h;cases h
  | some o=>rw [e] at h;exact ⟨o,rfl,Option.some.inj h⟩
theorem boot_at {K:Frag} {x:Str} {v:Value} (h:(nsIn K mainGlobals x == some none && (bootBuiltins x == some v && !(x == "__name__")))=true):nsIn K mainGlobals x=some (some v)∨(nsIn K mainGlobals x=some none∧bootBuiltins x=some v∧x≠"__name__"):=by
  obtain ⟨a,h⟩:=and2 h
  obtain ⟨b,d⟩:=and2 h
  exact .inr ⟨beq_iff_eq.mp a,beq_iff_eq.mp b,fun e=>by rw [e] at d;cases d⟩
structure LawAt (c:Cx):Prop where
  hT:tabT.Ok c
  at_:∃fd body S ps,FnAt c 792 fd body S ps [.par 0,.cell 0,.non,.cell 1,.non,.non,.non,.non,.non] [none,none] law_ms∧S.calls=true∧ps.length=1∧∀(s:Shared) (v:Value),c.K.In s.heap→BindsTo s fd ⟨[v],[]⟩ (ps.zip [v])
theorem Certs.prog (Z:Certs c.K):Prog c∧LawAt c:=by
  have hT:tabT.Ok c:={
    attr:=fun C n h=>by
      dsimp only [tabT] at h
      split at h
      · exact and2 (all_at Z.t1 (List.contains_iff_mem.mp h))
      · exact and2 (all_at Z.t2 (List.contains_iff_mem.mp h))
      · cases h
    attx:=fun C n h=>by
      dsimp only [tabT] at h
      split at h
      · exact ⟨all_at Z.t3 (List.contains_iff_mem.mp h),Z.t4⟩
      · cases h
    meth:=fun C n f h=>by
      dsimp only [tabT] at h
      split at h
      · obtain ⟨a,h⟩:=and2 (all_at Z.t5 (lookup_mem h))
        obtain ⟨b,h⟩:=and2 h
        obtain ⟨d,e⟩:=and2 h
        exact ⟨a,beq_iff_eq.mp b,d,e⟩
      · cases h
    keep:=fun v h=>by
      dsimp only [tabT] at h
      split at h
      · exact all_at Z.t6 (List.contains_iff_mem.mp h)
      · cases h
    cmeth:=fun C n f h=>by
      dsimp only [tabT] at h
      split at h
      · split at h
        · rename_i e
          cases h
          rw [e]
          exact ⟨Z.t7,Z.t8,Z.t9,Z.cm,Z.t10⟩
        · cases h
      · cases h
    fn:=fun f h=>typ_at (beq_iff_eq.mp (all_at Z.t11 (List.contains_iff_mem.mp h)))
    isc:=fun C h=>(Bool.or_eq_true_iff.mp h).elim (fun e=>beq_iff_eq.mp e▸Z.t12) fun e=>beq_iff_eq.mp e▸Z.t13
    rse:=fun C D h=>by
      obtain ⟨a,b⟩:=and2 h
      rw [beq_iff_eq.mp a,beq_iff_eq.mp b]
      exact ⟨Z.t14,Z.t15,Z.t4⟩
    exc:=fun C h=>beq_iff_eq.mp h▸⟨Z.t16,Z.t17⟩ }
  have hG:Glb c (glU++glB) biT:={
    gl:=fun x v h=>by
      rcases List.mem_append.mp (lookup_mem h) with h | h
      · exact .inl (beq_iff_eq.mp (all_at Z.t18 h))
      · exact boot_at (all_at Z.t19 h)
    bi:=fun x b h=>boot_at (all_at Z.t20 (lookup_mem h)) }
  have key:∀r:Fr0,r∈rowsF→FnC c r.f r.k r.dfl r.ls r.cs r.ms:=fun r hr=>by
    obtain ⟨e1,e2⟩:=Prod.mk.inj (map_at Z.fn hr)
    obtain ⟨e2,e3⟩:=Prod.mk.inj e2
    exact fn_of r.marks hT hG e1 e2 (fun S g=>map_at (Z.bd S g) hr) e3
  have hL:LawAt c:=by
    have hr:(⟨792,[(743011,3)],1,[],[.par 0,.cell 0,.non,.cell 1,.non,.non,.non,.non,.non],[none,none],law_ms⟩:Fr0)∈rowsF:=List.mem_of_getElem? (i:=73) rfl
    obtain ⟨e1,e2⟩:=Prod.mk.inj (map_at Z.fn hr)
    obtain ⟨e2,e3⟩:=Prod.mk.inj e2
    obtain ⟨D,np⟩:=fnAt_of _ hG e1 e2
    have hd:dvOf c.K (fdOf c.K 792) 1=[]:=dv_nil e3
    have hb:=fun S (v:Value)=>map_at (Z.bd S fun zz=>v) hr
    refine ⟨hT,_,_,_,_,D,rfl,by rw [np,show dvOf c.K (fdOf c.K 792) 1=[] from hd];rfl,fun s v hK=>kp_binds hK fun S=>(hb S v).trans ?_⟩
    show some _=_
    rw [show dvOf c.K (fdOf c.K 792) 1=[] from hd];rfl
  have at_:∀{i:Nat} {r:Fr0},rowsF[i]?=some r→FnC c r.f r.k r.dfl r.ls r.cs r.ms:=fun e=>key _ (List.mem_of_getElem? e)
  refine ⟨{
    tab:=hT
    Raised_ini:=at_ (i:=0) rfl
    error:=at_ (i:=1) rfl
    wrong_args:=at_ (i:=2) rfl
    is_blank:=at_ (i:=3) rfl
    digit:=at_ (i:=4) rfl
    digits_value:=at_ (i:=5) rfl
    base_of:=at_ (i:=6) rfl
    whole_of:=at_ (i:=7) rfl
    moved:=at_ (i:=8) rfl
    index_of:=at_ (i:=9) rfl
    backslash:=at_ (i:=10) rfl
    check_behind:=at_ (i:=11) rfl
    braced_element:=at_ (i:=12) rfl
    quoted_element:=at_ (i:=13) rfl
    bare_element:=at_ (i:=14) rfl
    find_element:=at_ (i:=15) rfl
    split_list:=at_ (i:=16) rfl
    mode_of:=at_ (i:=17) rfl
    escaped:=at_ (i:=18) rfl
    quote:=at_ (i:=19) rfl
    join_list:=at_ (i:=20) rfl
    indices_of:=at_ (i:=21) rfl
    at_path:=at_ (i:=22) rfl
    replaced:=at_ (i:=23) rfl
    inserted:=at_ (i:=24) rfl
    levels_of:=at_ (i:=25) rfl
    set_at:=at_ (i:=26) rfl
    do_linsert:=at_ (i:=27) rfl
    edited:=at_ (i:=28) rfl
    do_lreplace:=at_ (i:=29) rfl
    do_ledit:=at_ (i:=30) rfl
    do_lset:=at_ (i:=31) rfl
    do_lpop:=at_ (i:=32) rfl
    edit_commands:=at_ (i:=33) rfl
    Var_ini:=at_ (i:=34) rfl
    Host_ini:=at_ (i:=35) rfl
    Host_spend:=at_ (i:=36) rfl
    Host_call:=at_ (i:=37) rfl
    no_variable:=at_ (i:=38) rfl
    var_in:=at_ (i:=39) rfl
    put_value:=at_ (i:=40) rfl
    pair_of:=at_ (i:=41) rfl
    act:=at_ (i:=42) rfl
    SmallHost_ini:=at_ (i:=43) rfl
    SmallHost_has:=at_ (i:=44) rfl
    SmallHost_place:=at_ (i:=45) rfl
    SmallHost_read_var:=at_ (i:=46) rfl
    SmallHost_write_var:=at_ (i:=47) rfl
    SmallHost_read:=at_ (i:=48) rfl
    SmallHost_write:=at_ (i:=49) rfl
    SmallHost_stamp:=at_ (i:=50) rfl
    SmallHost_put:=at_ (i:=51) rfl
    SmallHost_remove:=at_ (i:=52) rfl
    SmallHost_add:=at_ (i:=53) rfl
    SmallHost_begin:=at_ (i:=54) rfl
    law_pool:=at_ (i:=55) rfl
    law_told:=at_ (i:=56) rfl
    law_usages:=at_ (i:=57) rfl
    law_draw:=at_ (i:=58) rfl
    law_pen:=at_ (i:=59) rfl
    law_text:=at_ (i:=60) rfl
    law_written:=at_ (i:=61) rfl
    law_spelled:=at_ (i:=62) rfl
    law_items:=at_ (i:=63) rfl
    law_bad:=at_ (i:=64) rfl
    law_index:=at_ (i:=65) rfl
    law_path:=at_ (i:=66) rfl
    law_put:=at_ (i:=67) rfl
    law_got:=at_ (i:=68) rfl
    law_due:=at_ (i:=69) rfl
    law_heard:=at_ (i:=70) rfl
    law_nodes:=at_ (i:=71) rfl
    law_row_right:=at_ (i:=72) rfl
    law:=at_ (i:=73) rfl
    mkVar:=fun h=>make_snd Z.t21 Z.t22 Z.t23 h
    mkHost:=fun h=>make_snd Z.t24 Z.t25 Z.t26 h
    mkRaised:=fun hl h=>by
      obtain ⟨nm,q,dd,k0,k1,k2,k3,k5,e⟩:=Z.ex
      obtain ⟨o,ho,hc⟩:=typ_at Z.t29
      exact makeExc_snd e (fun h X=>⟨_,.of_isNs (isNs_of_in X Z.t27),ns_of X (.of_isNs (isNs_of_in X Z.t27)) Z.t28⟩) ho hc hl h },hL⟩
end
theorem weight_bits {xs:List Int}:∀{N:Nat},PyData.weightAll (xs.map .int)≤N→∀x∈xs,x.natAbs < 2 ^ N:=by
  induction xs with
  | nil=>
    intro _ _ _ h
    exact nomatch h
  | cons x r ih=>
    intro N h y hy
    rw [List.map_cons,PyData.weightAll,PyData.weight] at h
    rcases List.mem_cons.mp hy with rfl | hy
    · by_cases h0:y=0
      · rw [h0];exact Nat.two_pow_pos N
      · rw [if_neg (by simpa using h0)] at h
        exact (Nat.log2_lt (by omega)).mp (by omega)
    · exact ih (by omega) y hy
theorem ints_rs {c:Cx} {fz:List (Addr×Obj)} {vs:List Value} {xs:List Int} (h:IntsAre vs xs):c.Rs fz vs (xs.map .int):=by
  induction h with
  | nil=>exact .nil
  | cons n t _ ih=>exact .cons (.int n t) ih
theorem law_top {c:Cx} (C:Certs c.K) {s:Shared} (hs0:c.s0=s) (hg:c.g=s.heap) {a:Addr} {vs:List Value} {xs:List Int} (hL:s.heap.IsList a vs.toArray) (hI:IntsAre vs xs) (hl:¬ ((63:Nat):Int) < ((xs.length:Nat):Int)) (hw:(PyData.list (xs.map PyData.int)).layable0=true):codeAny c.M callerA (.call (.ref 792) ⟨[.ref a],[]⟩) (TopQ c (fun y=>y=.bool true) s) s:=by
  obtain ⟨P,hT,fd,body,S,ps,D,hcalls,hpl,hb⟩:=C.prog
  have hw2:PyData.weightAll (xs.map .int)≤2 ^ 20:=by
    have h:=of_decide_eq_true (and2 hw).2
    rw [PyData.weight] at h;exact h
  obtain ⟨o,h1,h2,k,h3⟩:=hL
  refine top_snd (n:=21) hT D hcalls (by decide) hs0 hg (ys:=[.list (xs.map .int)]) (hb s _ (hg▸c.X)) hpl.symm (.cons (.list (o:=o) (vs:=vs) (n:=k) (.inl (by rw [hg];exact h1)) h2 h3 (ints_rs hI)) .nil) fun as has=>?_
  exact law_c (n:=0) P (by omega) (fun x hx=>by have:=weight_bits hw2 x hx;rw [show (2:Nat) ^ 20=1048576 from rfl] at this;exact this) rfl as has
theorem law_good {prog:Program} {w:World} {K:Frag} {mg mb:Str→Option Value} {p:Program} {loose:List Str} {s:Shared} (KX:K.In s.heap) (T:TopRead p loose mg mb s.heap) (C:Certs K) {fa:Addr} {nm:Str} (hfa:mg nm=some (.ref fa)) (hn:nsIn K mainGlobals nm=some (some (.ref 792))) (hgens:s.gens=#[])
    {a:Addr} {vs:List Value} {xs:List Int} (hL:s.heap.IsList a vs.toArray) (hI:IntsAre vs xs) (hl:¬ ((63:Nat):Int) < ((xs.length:Nat):Int)) (hw:(PyData.list (xs.map PyData.int)).layable0=true)
    {k:ClaimW} {cl:Str→Option Addr} {mean:ExcName→Option Value} {args:List WData} (hr:∀cls,k.raises args cls=false) (hp:k.post args (.bool true) args=true):
    wpAny (model prog w) callerA (PySem.call (.ref fa) [.ref a]) (fun v s'=>GoodWG k cl mean args s (.ok (.ret v)) s') (fun e s'=>GoodWG k cl mean args s (.error e) s') s:=by
  obtain rfl:fa=792:=by
    have h:=(hfa.symm.trans (mg_of KX T.g hn))
    cases h;rfl
  refine enter_call (codeAny_mono (law_top (c:=⟨prog,w,K,s.heap,mg,mb,p,loose,s,KX,T⟩) C rfl rfl hL hI hl hw) fun r s' q=>GoodW.toG ?_)
  obtain ⟨r,rfl,hk,hs⟩:=q
  obtain rfl:=r.bool?
  refine ⟨.inl ⟨_,_,[],rfl,hr,.bool true,hp,fun zz=>⟨List.nodup_nil,fun zz h=>nomatch h⟩⟩,hk,?_,?_⟩
  · rw [hs]
  · rw [hs];exact hgens
end Mine.Internal
namespace Mine.Internal
theorem head.tw10004968210546728623:True:=trivial
theorem head.tw10046488721125158466:True:=trivial
theorem head.tw10064413085623696276:True:=trivial
theorem head.tw10079860215814902702:True:=trivial
theorem head.tw1012307322726500892:True:=trivial
theorem head.tw10125929355548975508:True:=trivial
theorem head.tw10155103240277196701:True:=trivial
theorem head.tw10156959423878155498:True:=trivial
theorem head.tw10165431968968751118:True:=trivial
theorem head.tw10178686243629489081:True:=trivial
theorem head.tw10196950947417357230:True:=trivial
theorem head.tw10209039374229592208:True:=trivial
theorem head.tw10218059707884530613:True:=trivial
theorem head.tw1026916259146773914:True:=trivial
theorem head.tw10288341847844054694:True:=trivial
theorem head.tw10289556748277466078:True:=trivial
theorem head.tw10313022789138511893:True:=trivial
theorem head.tw10323350097857441997:True:=trivial
theorem head.tw10326230257057282535:True:=trivial
theorem head.tw10326433227229921549:True:=trivial
theorem head.tw10333269780963272991:True:=trivial
theorem head.tw10343487397458017819:True:=trivial
theorem head.tw10390551338457105969:True:=trivial
theorem head.tw10391303797420620063:True:=trivial
theorem head.tw10403513753302479130:True:=trivial
theorem head.tw10417819788513700445:True:=trivial
theorem head.tw104248997913267698:True:=trivial
theorem head.tw10440470256551273718:True:=trivial
theorem head.tw10443298067184218467:True:=trivial
theorem head.tw10467852365440921670:True:=trivial
theorem head.tw10478411361968804352:True:=trivial
theorem head.tw10483051397799219287:True:=trivial
theorem head.tw10532295789626618253:True:=trivial
theorem head.tw10543712386442291379:True:=trivial
theorem head.tw1059163318146682468:True:=trivial
theorem head.tw10611000914816789194:True:=trivial
theorem head.tw10620765322381241744:True:=trivial
theorem head.tw10648201644766199351:True:=trivial
theorem head.tw10657940773215961958:True:=trivial
theorem head.tw10677006617423633188:True:=trivial
theorem head.tw10703926824214995897:True:=trivial
theorem head.tw10714201629055478824:True:=trivial
theorem head.tw10749026946326621215:True:=trivial
theorem head.tw10771887539982464465:True:=trivial
theorem head.tw10778376083544448290:True:=trivial
theorem head.tw10786028702629105334:True:=trivial
theorem head.tw10793811875839641842:True:=trivial
theorem head.tw10805854467555709794:True:=trivial
theorem head.tw10806634533459545381:True:=trivial
theorem head.tw1081918594029998349:True:=trivial
theorem head.tw10827897679061541192:True:=trivial
theorem head.tw10847146045693573062:True:=trivial
theorem head.tw10852966169642419620:True:=trivial
theorem head.tw10875764276356024609:True:=trivial
theorem head.tw10883278523208022981:True:=trivial
theorem head.tw10904722977963326685:True:=trivial
theorem head.tw10910662148547809146:True:=trivial
theorem head.tw10918473249476564785:True:=trivial
theorem head.tw10936523832443784857:True:=trivial
theorem head.tw1094486055635779632:True:=trivial
theorem head.tw10949025697342971877:True:=trivial
theorem head.tw10982946209367121509:True:=trivial
theorem head.tw11032554134783566749:True:=trivial
theorem head.tw11046677887984482611:True:=trivial
theorem head.tw1108876809500496841:True:=trivial
theorem head.tw11164902317844157328:True:=trivial
theorem head.tw11232978470920408358:True:=trivial
theorem head.tw11236264308040969394:True:=trivial
theorem head.tw1125208917562807246:True:=trivial
theorem head.tw11256821199745593772:True:=trivial
theorem head.tw11278131861169923487:True:=trivial
theorem head.tw11338433358809400169:True:=trivial
theorem head.tw11409394182237674072:True:=trivial
theorem head.tw11414849079480288724:True:=trivial
theorem head.tw11485815400417367690:True:=trivial
theorem head.tw11532515657967676718:True:=trivial
theorem head.tw11542963386671024406:True:=trivial
theorem head.tw1154745801677483937:True:=trivial
theorem head.tw1155653616832183594:True:=trivial
theorem head.tw11566841906782242053:True:=trivial
theorem head.tw11575903973748849822:True:=trivial
theorem head.tw11604614444025938197:True:=trivial
theorem head.tw11646673952399439709:True:=trivial
theorem head.tw11661065636700889516:True:=trivial
theorem head.tw11679397435755134892:True:=trivial
theorem head.tw11680863635135381657:True:=trivial
theorem head.tw11706630770760164152:True:=trivial
theorem head.tw11729432960898958820:True:=trivial
theorem head.tw11734387023926553616:True:=trivial
theorem head.tw11735541712165610263:True:=trivial
theorem head.tw11743441244443810487:True:=trivial
theorem head.tw11798683024389638473:True:=trivial
theorem head.tw11809372751355778188:True:=trivial
theorem head.tw11811601694450153820:True:=trivial
theorem head.tw11819492245486836112:True:=trivial
theorem head.tw11851962056556984030:True:=trivial
theorem head.tw11931392740866613471:True:=trivial
theorem head.tw11935999123547761444:True:=trivial
theorem head.tw11982184262622975068:True:=trivial
theorem head.tw12001577667717255176:True:=trivial
theorem head.tw12026955668342804096:True:=trivial
theorem head.tw12041799128894346974:True:=trivial
theorem head.tw12071836986092510387:True:=trivial
theorem head.tw12078229439370049644:True:=trivial
theorem head.tw12102787196800394369:True:=trivial
theorem head.tw12125221754952656040:True:=trivial
theorem head.tw12142385515706650059:True:=trivial
theorem head.tw12169433661247332737:True:=trivial
theorem head.tw12203473416507285816:True:=trivial
theorem head.tw1221140237713410010:True:=trivial
theorem head.tw12229761515936767099:True:=trivial
theorem head.tw12234623904145450996:True:=trivial
theorem head.tw12268107022977922378:True:=trivial
theorem head.tw12278463079101488128:True:=trivial
theorem head.tw12288353969189479519:True:=trivial
theorem head.tw12303835990030654623:True:=trivial
theorem head.tw12314344313618072767:True:=trivial
theorem head.tw12322725726572001430:True:=trivial
theorem head.tw12328297505516256082:True:=trivial
theorem head.tw12400829552769024433:True:=trivial
theorem head.tw12455520345694358024:True:=trivial
theorem head.tw1247117338844145269:True:=trivial
theorem head.tw1247440197491546652:True:=trivial
theorem head.tw12533188119829535936:True:=trivial
theorem head.tw12566224135570047525:True:=trivial
theorem head.tw12583066597068699183:True:=trivial
theorem head.tw1258453716306658304:True:=trivial
theorem head.tw12584948273278941721:True:=trivial
theorem head.tw12604432008983877658:True:=trivial
theorem head.tw12621192663148488146:True:=trivial
theorem head.tw12639482037638911433:True:=trivial
theorem head.tw12708123234126680708:True:=trivial
theorem head.tw12757151084355026914:True:=trivial
theorem head.tw1278451321631604521:True:=trivial
theorem head.tw12806253548222901857:True:=trivial
theorem head.tw12881004197342179623:True:=trivial
theorem head.tw12887062192404025258:True:=trivial
theorem head.tw12905125323518435587:True:=trivial
theorem head.tw12962800675557643984:True:=trivial
theorem head.tw12969973581304291635:True:=trivial
theorem head.tw12992531038351979029:True:=trivial
theorem head.tw13007202087462836646:True:=trivial
theorem head.tw13038121054318420537:True:=trivial
theorem head.tw1304109134517134065:True:=trivial
theorem head.tw13052173369479026832:True:=trivial
theorem head.tw13092991177759998952:True:=trivial
theorem head.tw13105012303010250491:True:=trivial
theorem head.tw13111057102255539402:True:=trivial
theorem head.tw13118447853492015993:True:=trivial
theorem head.tw13130026477503750059:True:=trivial
theorem head.tw13141228108489976410:True:=trivial
theorem head.tw131415200265715171:True:=trivial
theorem head.tw13148544108415269593:True:=trivial
theorem head.tw1317351591387112958:True:=trivial
theorem head.tw13231323889132105171:True:=trivial
theorem head.tw13251416305544386811:True:=trivial
theorem head.tw13263170178881064946:True:=trivial
theorem head.tw13272653632137012334:True:=trivial
theorem head.tw13289269885103834513:True:=trivial
theorem head.tw1328941141683245047:True:=trivial
theorem head.tw13311012694725994139:True:=trivial
theorem head.tw13312725732919641165:True:=trivial
theorem head.tw13325886268289298858:True:=trivial
theorem head.tw13401292336569751603:True:=trivial
theorem head.tw13433233657428206792:True:=trivial
theorem head.tw13436008565774967011:True:=trivial
theorem head.tw13486987100687975238:True:=trivial
theorem head.tw13537632495512367073:True:=trivial
theorem head.tw13565670087438899335:True:=trivial
theorem head.tw1358449597577685809:True:=trivial
theorem head.tw13647467613375884496:True:=trivial
theorem head.tw13649876712065460823:True:=trivial
theorem head.tw1373012823760850595:True:=trivial
theorem head.tw13752030441720751821:True:=trivial
theorem head.tw13763259863565942290:True:=trivial
theorem head.tw13825956281807410768:True:=trivial
theorem head.tw13839247677454372258:True:=trivial
theorem head.tw13851134797264264420:True:=trivial
theorem head.tw13854868483263387329:True:=trivial
theorem head.tw13882234696957952739:True:=trivial
theorem head.tw13896250499497688330:True:=trivial
theorem head.tw13912586304887420795:True:=trivial
theorem head.tw13926301869143162155:True:=trivial
theorem head.tw13938314743558959367:True:=trivial
theorem head.tw13990309641415329262:True:=trivial
theorem head.tw14082094871413604490:True:=trivial
theorem head.tw14109380674944687050:True:=trivial
theorem head.tw14158428439919870864:True:=trivial
theorem head.tw14172424672946166034:True:=trivial
theorem head.tw14202255950262162344:True:=trivial
theorem head.tw14240333385968078765:True:=trivial
theorem head.tw14250243553150720892:True:=trivial
theorem head.tw14255320843353542408:True:=trivial
theorem head.tw14278104616001074548:True:=trivial
theorem head.tw14363887742018839356:True:=trivial
theorem head.tw14367920226926963119:True:=trivial
theorem head.tw14375063571132334751:True:=trivial
theorem head.tw14401466065109191019:True:=trivial
theorem head.tw14405755211371057577:True:=trivial
theorem head.tw1442861384686113144:True:=trivial
theorem head.tw14431188939852883394:True:=trivial
theorem head.tw14477604489051941744:True:=trivial
theorem head.tw14504264663935038925:True:=trivial
theorem head.tw14506496976691018925:True:=trivial
theorem head.tw14558566372639728533:True:=trivial
theorem head.tw14582795887350676893:True:=trivial
theorem head.tw14594217352909989919:True:=trivial
theorem head.tw14607991040689497584:True:=trivial
theorem head.tw14615677475450882168:True:=trivial
theorem head.tw14633424208812532277:True:=trivial
theorem head.tw14640619569106899106:True:=trivial
theorem head.tw1466144664807686202:True:=trivial
theorem head.tw14686138366110421397:True:=trivial
theorem head.tw14686663619095853031:True:=trivial
theorem head.tw14704451711062366978:True:=trivial
theorem head.tw14716760239956993399:True:=trivial
theorem head.tw14776828949437865282:True:=trivial
theorem head.tw14804807535031770434:True:=trivial
theorem head.tw14809388494844252968:True:=trivial
theorem head.tw14813904526722990485:True:=trivial
theorem head.tw1485951079949661044:True:=trivial
theorem head.tw14894698413307680970:True:=trivial
theorem head.tw14901954603512784952:True:=trivial
theorem head.tw14902837588030647693:True:=trivial
theorem head.tw14912406250155844462:True:=trivial
theorem head.tw14930278808943442820:True:=trivial
theorem head.tw14939700357920408252:True:=trivial
theorem head.tw14946424000415424946:True:=trivial
theorem head.tw14946515861979506384:True:=trivial
theorem head.tw14947980960965689406:True:=trivial
theorem head.tw14975749312235765675:True:=trivial
theorem head.tw14988240910421226704:True:=trivial
theorem head.tw15029389029185964493:True:=trivial
theorem head.tw1506493122784522776:True:=trivial
theorem head.tw15075481993605988605:True:=trivial
theorem head.tw150979079722049991:True:=trivial
theorem head.tw15099370444278567809:True:=trivial
theorem head.tw15106323820558608180:True:=trivial
theorem head.tw1511891059713779943:True:=trivial
theorem head.tw15138065235074995841:True:=trivial
theorem head.tw1515345725807219654:True:=trivial
theorem head.tw15182858166330841093:True:=trivial
theorem head.tw15185695549473199070:True:=trivial
theorem head.tw15202921462499427706:True:=trivial
theorem head.tw15225103352731655138:True:=trivial
theorem head.tw1524219014472992251:True:=trivial
theorem head.tw15266530685898783443:True:=trivial
theorem head.tw15279990767845995955:True:=trivial
theorem head.tw15311939220964185106:True:=trivial
theorem head.tw15318860832186169591:True:=trivial
theorem head.tw15329731994807047032:True:=trivial
theorem head.tw15337823392059798904:True:=trivial
theorem head.tw15363273018220560083:True:=trivial
theorem head.tw15368349496343960223:True:=trivial
theorem head.tw15370769205218274421:True:=trivial
theorem head.tw15413299265640824211:True:=trivial
theorem head.tw15418431880819366655:True:=trivial
theorem head.tw15419450125499025513:True:=trivial
theorem head.tw15445888625251461481:True:=trivial
theorem head.tw15450062323825198675:True:=trivial
theorem head.tw15472401753886037627:True:=trivial
theorem head.tw1547330158025341957:True:=trivial
theorem head.tw15489742176703056555:True:=trivial
theorem head.tw15517624276369520:True:=trivial
theorem head.tw15520181941019334340:True:=trivial
theorem head.tw15553797352527871753:True:=trivial
theorem head.tw15554606659924641141:True:=trivial
theorem head.tw15631718473216897701:True:=trivial
theorem head.tw1567943673962162336:True:=trivial
theorem head.tw1568912342305137357:True:=trivial
theorem head.tw15709428146427402346:True:=trivial
theorem head.tw1573301842526459033:True:=trivial
theorem head.tw15785167706613062101:True:=trivial
theorem head.tw15828130552055596690:True:=trivial
theorem head.tw15830968035239220771:True:=trivial
theorem head.tw15880288827581452567:True:=trivial
theorem head.tw15889792285891086149:True:=trivial
theorem head.tw15893317856969978209:True:=trivial
theorem head.tw15911472369724303455:True:=trivial
theorem head.tw15912091044079083978:True:=trivial
theorem head.tw15925507543600243961:True:=trivial
theorem head.tw15987298236799223137:True:=trivial
theorem head.tw15991991953990720742:True:=trivial
theorem head.tw15997579793656432842:True:=trivial
theorem head.tw16002366332284682119:True:=trivial
theorem head.tw16068889945890959238:True:=trivial
theorem head.tw16138420628824636225:True:=trivial
theorem head.tw16153705398640301738:True:=trivial
theorem head.tw16170722059020510766:True:=trivial
theorem head.tw16293861684877478311:True:=trivial
theorem head.tw16297892007826214052:True:=trivial
theorem head.tw16299635379590263345:True:=trivial
theorem head.tw16361214446219043315:True:=trivial
theorem head.tw16380545571649618607:True:=trivial
theorem head.tw16392708975658356464:True:=trivial
theorem head.tw16405482449567939292:True:=trivial
theorem head.tw16415695218750827382:True:=trivial
theorem head.tw16460313092685165067:True:=trivial
theorem head.tw16469735366463463244:True:=trivial
theorem head.tw16470738274083341248:True:=trivial
theorem head.tw16503587982116582554:True:=trivial
theorem head.tw16541082763231266319:True:=trivial
theorem head.tw16551592612956221458:True:=trivial
theorem head.tw16554526779789546084:True:=trivial
theorem head.tw1656181690755500009:True:=trivial
theorem head.tw16589975236050999582:True:=trivial
theorem head.tw16596432275829068785:True:=trivial
theorem head.tw16623005101582439649:True:=trivial
theorem head.tw1662621770911083758:True:=trivial
theorem head.tw16638095363847938142:True:=trivial
theorem head.tw16670131545429640105:True:=trivial
theorem head.tw16692537232037948051:True:=trivial
theorem head.tw16728021840846876412:True:=trivial
theorem head.tw16729595403625350564:True:=trivial
theorem head.tw16777521522860482247:True:=trivial
theorem head.tw16797182098154794100:True:=trivial
theorem head.tw16804399734337586059:True:=trivial
theorem head.tw16840755293988039984:True:=trivial
theorem head.tw16880951475479886921:True:=trivial
theorem head.tw1688876610941822724:True:=trivial
theorem head.tw16891317342568782531:True:=trivial
theorem head.tw16936995887192446143:True:=trivial
theorem head.tw16979452091659690644:True:=trivial
theorem head.tw17013429710562117009:True:=trivial
theorem head.tw1705665465591260045:True:=trivial
theorem head.tw17072956059266944511:True:=trivial
theorem head.tw17095631105522419039:True:=trivial
theorem head.tw17100331334522449688:True:=trivial
theorem head.tw17132605601930520564:True:=trivial
theorem head.tw17139050826911359295:True:=trivial
theorem head.tw17143094881623060519:True:=trivial
theorem head.tw17155148735901461053:True:=trivial
theorem head.tw17165501156494301525:True:=trivial
theorem head.tw17223239339676694306:True:=trivial
theorem head.tw17237208602118822938:True:=trivial
theorem head.tw17263427690546889705:True:=trivial
theorem head.tw17292970962960149322:True:=trivial
theorem head.tw1735712362863950725:True:=trivial
theorem head.tw1737130595558553925:True:=trivial
theorem head.tw17391939332154934924:True:=trivial
theorem head.tw17393854343980579928:True:=trivial
theorem head.tw17398074001465023753:True:=trivial
theorem head.tw17407171449609617371:True:=trivial
theorem head.tw17421213231281661734:True:=trivial
theorem head.tw17431456679323178533:True:=trivial
theorem head.tw17475747908561287342:True:=trivial
theorem head.tw17484823706847619055:True:=trivial
theorem head.tw17497440989566038380:True:=trivial
theorem head.tw17506308255386958906:True:=trivial
theorem head.tw17512409790240258056:True:=trivial
theorem head.tw1753003951421427075:True:=trivial
theorem head.tw17546743832020271483:True:=trivial
theorem head.tw17547070963897388926:True:=trivial
theorem head.tw17547655399394650398:True:=trivial
theorem head.tw17567876552396240469:True:=trivial
theorem head.tw17576387167790452266:True:=trivial
theorem head.tw17576806870698252327:True:=trivial
theorem head.tw17594429827846230351:True:=trivial
theorem head.tw17608012506762601549:True:=trivial
theorem head.tw17613311456908602385:True:=trivial
theorem head.tw17618437575947658335:True:=trivial
theorem head.tw17630976985212021252:True:=trivial
theorem head.tw17650822020619547663:True:=trivial
theorem head.tw1765596292035907629:True:=trivial
theorem head.tw17668470780512804641:True:=trivial
theorem head.tw17682342131244598394:True:=trivial
theorem head.tw17708814002326905842:True:=trivial
theorem head.tw17840676843927578194:True:=trivial
theorem head.tw17841386997120191728:True:=trivial
theorem head.tw17870151092536345100:True:=trivial
theorem head.tw17879266493245626914:True:=trivial
theorem head.tw1788697546543284875:True:=trivial
theorem head.tw17929221164090874782:True:=trivial
theorem head.tw17981709744806268:True:=trivial
theorem head.tw17994589576782617821:True:=trivial
theorem head.tw18027623137396611546:True:=trivial
theorem head.tw18034343607588918422:True:=trivial
theorem head.tw1803827914629316465:True:=trivial
theorem head.tw18039750520779619118:True:=trivial
theorem head.tw18052508520473810524:True:=trivial
theorem head.tw180557579094491458:True:=trivial
theorem head.tw18071378121363579176:True:=trivial
theorem head.tw18104016066901283141:True:=trivial
theorem head.tw18126802804303514045:True:=trivial
theorem head.tw18129246944988500376:True:=trivial
theorem head.tw18142152687971341386:True:=trivial
theorem head.tw18185829208802879769:True:=trivial
theorem head.tw18218894547561957484:True:=trivial
theorem head.tw18231679819947193826:True:=trivial
theorem head.tw18245091190975670729:True:=trivial
theorem head.tw18255462893550846401:True:=trivial
theorem head.tw18289451761536356138:True:=trivial
theorem head.tw18290675023729231418:True:=trivial
theorem head.tw18308072863541763719:True:=trivial
theorem head.tw18326167943398078703:True:=trivial
theorem head.tw18374166688396529900:True:=trivial
theorem head.tw18385344648293578121:True:=trivial
theorem head.tw18407380456907040068:True:=trivial
theorem head.tw1844467570389974658:True:=trivial
theorem head.tw1865247970343085854:True:=trivial
theorem head.tw1881055677477116581:True:=trivial
theorem head.tw1901947026874951026:True:=trivial
theorem head.tw1903809553442905389:True:=trivial
theorem head.tw1944605091054254097:True:=trivial
theorem head.tw1987557369150731712:True:=trivial
theorem head.tw2007915535196607075:True:=trivial
theorem head.tw2011731968932453:True:=trivial
theorem head.tw2043087103621964997:True:=trivial
theorem head.tw2043889385310230855:True:=trivial
theorem head.tw204814726684615984:True:=trivial
theorem head.tw2065884973380166366:True:=trivial
theorem head.tw2078090517514532923:True:=trivial
theorem head.tw2088969971902092759:True:=trivial
theorem head.tw2110877475482146926:True:=trivial
theorem head.tw2120349209514560818:True:=trivial
theorem head.tw2124781625166719259:True:=trivial
theorem head.tw2134257966403761398:True:=trivial
theorem head.tw215088660058033229:True:=trivial
theorem head.tw2169281033359032037:True:=trivial
theorem head.tw2211164086160396607:True:=trivial
theorem head.tw2300749246909507682:True:=trivial
theorem head.tw2323926309532271586:True:=trivial
theorem head.tw232473315762453100:True:=trivial
theorem head.tw2336261679802283833:True:=trivial
theorem head.tw2369519236851512631:True:=trivial
theorem head.tw2373247585403660244:True:=trivial
theorem head.tw2398718288924477558:True:=trivial
theorem head.tw2430787486173218795:True:=trivial
theorem head.tw2431657681545466639:True:=trivial
theorem head.tw2439738643158869041:True:=trivial
theorem head.tw2441318031446764311:True:=trivial
theorem head.tw2453521283205649659:True:=trivial
theorem head.tw246766493212783410:True:=trivial
theorem head.tw2468129496273715989:True:=trivial
theorem head.tw2469965030768400839:True:=trivial
theorem head.tw2529586286848917271:True:=trivial
theorem head.tw2598828398090235752:True:=trivial
theorem head.tw2608704221948599230:True:=trivial
theorem head.tw2611384508635057486:True:=trivial
theorem head.tw2624494413115057283:True:=trivial
theorem head.tw265169152525730486:True:=trivial
theorem head.tw2670417021402637304:True:=trivial
theorem head.tw2688960552751689224:True:=trivial
theorem head.tw2694128037389889325:True:=trivial
theorem head.tw2714067042623201800:True:=trivial
theorem head.tw2762088878838790826:True:=trivial
theorem head.tw2782546592773990476:True:=trivial
theorem head.tw278581248325843523:True:=trivial
theorem head.tw2851065943783126841:True:=trivial
theorem head.tw28651559375178625:True:=trivial
theorem head.tw2894152552507235424:True:=trivial
theorem head.tw2960898139891119717:True:=trivial
theorem head.tw298335191302580495:True:=trivial
theorem head.tw2990656774574987593:True:=trivial
theorem head.tw3002026125614157138:True:=trivial
theorem head.tw3003217347886287976:True:=trivial
theorem head.tw3087972217934253931:True:=trivial
theorem head.tw3097101300178927752:True:=trivial
theorem head.tw3111883404516310774:True:=trivial
theorem head.tw3135906202827797507:True:=trivial
theorem head.tw3146642883932764321:True:=trivial
theorem head.tw3170996000379527775:True:=trivial
theorem head.tw3241465772588796232:True:=trivial
theorem head.tw3248080294440303433:True:=trivial
theorem head.tw327085425411541729:True:=trivial
theorem head.tw3343984374828313861:True:=trivial
theorem head.tw3374143753473954079:True:=trivial
theorem head.tw3382608214973111774:True:=trivial
theorem head.tw3398423038984232883:True:=trivial
theorem head.tw3421387750874743176:True:=trivial
theorem head.tw343262905854845655:True:=trivial
theorem head.tw3437964996034853531:True:=trivial
theorem head.tw3441272882867930410:True:=trivial
theorem head.tw3442542328804436530:True:=trivial
theorem head.tw3507624263613819917:True:=trivial
theorem head.tw3539023208464144308:True:=trivial
theorem head.tw3563018587571817148:True:=trivial
theorem head.tw3563479953845385512:True:=trivial
theorem head.tw35754638678869335:True:=trivial
theorem head.tw3578958923436046661:True:=trivial
theorem head.tw3600112065676380631:True:=trivial
theorem head.tw360943114214951545:True:=trivial
theorem head.tw3615901872300330702:True:=trivial
theorem head.tw3664162495101484743:True:=trivial
theorem head.tw3706193764460939757:True:=trivial
theorem head.tw3710881643830131615:True:=trivial
theorem head.tw3719757830788971985:True:=trivial
theorem head.tw3729568987708025634:True:=trivial
theorem head.tw3735690946278787565:True:=trivial
theorem head.tw379154397386507432:True:=trivial
theorem head.tw3796036621921146727:True:=trivial
theorem head.tw3869182881569682240:True:=trivial
theorem head.tw3922205187945754679:True:=trivial
theorem head.tw3941156040307774213:True:=trivial
theorem head.tw3947381682708912176:True:=trivial
theorem head.tw4012921278390324088:True:=trivial
theorem head.tw4050939481493077499:True:=trivial
theorem head.tw4060700195381250067:True:=trivial
theorem head.tw4063569851180352202:True:=trivial
theorem head.tw4067203111510269444:True:=trivial
theorem head.tw4116136491773717686:True:=trivial
theorem head.tw4126569708725379857:True:=trivial
theorem head.tw4167199826336633745:True:=trivial
theorem head.tw4187326814986095364:True:=trivial
theorem head.tw4238889034677794361:True:=trivial
theorem head.tw4255666144921013795:True:=trivial
theorem head.tw4286042419483694078:True:=trivial
theorem head.tw4290177998734643193:True:=trivial
theorem head.tw4356994229188071200:True:=trivial
theorem head.tw4380319847576138298:True:=trivial
theorem head.tw4443641541309057203:True:=trivial
theorem head.tw4463040190649093840:True:=trivial
theorem head.tw4477118761818678279:True:=trivial
theorem head.tw4486621872756073951:True:=trivial
theorem head.tw4500438253849987814:True:=trivial
theorem head.tw4500565936341979993:True:=trivial
theorem head.tw4517080872264363356:True:=trivial
theorem head.tw4522409042203475749:True:=trivial
theorem head.tw4544289106498852243:True:=trivial
theorem head.tw4550462689801330482:True:=trivial
theorem head.tw4567146139349149416:True:=trivial
theorem head.tw458149121178462182:True:=trivial
theorem head.tw460493647788064181:True:=trivial
theorem head.tw4657073311724733658:True:=trivial
theorem head.tw4681811785110334938:True:=trivial
theorem head.tw4696402877033576756:True:=trivial
theorem head.tw4720382259942339842:True:=trivial
theorem head.tw4736740407286332697:True:=trivial
theorem head.tw4743209388086510351:True:=trivial
theorem head.tw4754782131174066958:True:=trivial
theorem head.tw4766937966870788380:True:=trivial
theorem head.tw4773304924162895731:True:=trivial
theorem head.tw478443860413683270:True:=trivial
theorem head.tw4791830553219477182:True:=trivial
theorem head.tw4804523201834689056:True:=trivial
theorem head.tw4811286922782717070:True:=trivial
theorem head.tw4813042636963138435:True:=trivial
theorem head.tw4872695887633465018:True:=trivial
theorem head.tw4895222498855466129:True:=trivial
theorem head.tw4903428944905943755:True:=trivial
theorem head.tw4904261729475024422:True:=trivial
theorem head.tw4928989890952316381:True:=trivial
theorem head.tw5012512282137399879:True:=trivial
theorem head.tw5014626033260886234:True:=trivial
theorem head.tw5024588561011540511:True:=trivial
theorem head.tw5063786239965550723:True:=trivial
theorem head.tw5066669096059514188:True:=trivial
theorem head.tw507867392388677603:True:=trivial
theorem head.tw50896459018227149:True:=trivial
theorem head.tw5091507448127722942:True:=trivial
theorem head.tw512018409098999112:True:=trivial
theorem head.tw5121121683633849671:True:=trivial
theorem head.tw514689421400378322:True:=trivial
theorem head.tw5151289576439492714:True:=trivial
theorem head.tw5152520497178031707:True:=trivial
theorem head.tw5155368293660787195:True:=trivial
theorem head.tw5161104113109860643:True:=trivial
theorem head.tw5174717153031038437:True:=trivial
theorem head.tw5180793443103303352:True:=trivial
theorem head.tw5188547130963436909:True:=trivial
theorem head.tw5206473230331900655:True:=trivial
theorem head.tw5206877458507703038:True:=trivial
theorem head.tw5212489079905177048:True:=trivial
theorem head.tw5212892116570103733:True:=trivial
theorem head.tw5219666640404862078:True:=trivial
theorem head.tw5233028440317534579:True:=trivial
theorem head.tw5279946723360487494:True:=trivial
theorem head.tw5281672172050905356:True:=trivial
theorem head.tw5294638443716959948:True:=trivial
theorem head.tw5305130906047112220:True:=trivial
theorem head.tw5317467589269379190:True:=trivial
theorem head.tw533293232872092415:True:=trivial
theorem head.tw5333940447847632476:True:=trivial
theorem head.tw5357483711101957424:True:=trivial
theorem head.tw5360606905099673783:True:=trivial
theorem head.tw5367720379555559809:True:=trivial
theorem head.tw5387168689241914674:True:=trivial
theorem head.tw5389298798316334207:True:=trivial
theorem head.tw5395552218258742794:True:=trivial
theorem head.tw5456479906107452781:True:=trivial
theorem head.tw5495607003866541921:True:=trivial
theorem head.tw5509060068099777413:True:=trivial
theorem head.tw5521533520911139980:True:=trivial
theorem head.tw5528803162204563147:True:=trivial
theorem head.tw5531843404549935594:True:=trivial
theorem head.tw5537773006019800010:True:=trivial
theorem head.tw5585298417887737123:True:=trivial
theorem head.tw5619015460091722138:True:=trivial
theorem head.tw5624202546242894388:True:=trivial
theorem head.tw5659527908169790468:True:=trivial
theorem head.tw5671573469923044665:True:=trivial
theorem head.tw5673306034993891238:True:=trivial
theorem head.tw5685686986798369517:True:=trivial
theorem head.tw5704201658500131572:True:=trivial
theorem head.tw573855439382118019:True:=trivial
theorem head.tw574299539326718891:True:=trivial
theorem head.tw5758286399336058601:True:=trivial
theorem head.tw575952367332253668:True:=trivial
theorem head.tw5761873415233972741:True:=trivial
theorem head.tw5763261649813281321:True:=trivial
theorem head.tw581329805104468181:True:=trivial
theorem head.tw5831084495787454658:True:=trivial
theorem head.tw5841653695726307987:True:=trivial
theorem head.tw5853792966756943488:True:=trivial
theorem head.tw58827637830968648:True:=trivial
theorem head.tw5916877048245317213:True:=trivial
theorem head.tw600998845896309522:True:=trivial
theorem head.tw6015909709239590028:True:=trivial
theorem head.tw603749771605928148:True:=trivial
theorem head.tw6056312283027283868:True:=trivial
theorem head.tw6068694611635865590:True:=trivial
theorem head.tw6151381817749291079:True:=trivial
theorem head.tw615145822093683002:True:=trivial
theorem head.tw6152317046425230877:True:=trivial
theorem head.tw6163553270827759087:True:=trivial
theorem head.tw6166150500733165240:True:=trivial
theorem head.tw6176450103178853079:True:=trivial
theorem head.tw6200549489047768835:True:=trivial
theorem head.tw6204776756014468711:True:=trivial
theorem head.tw6220086916755017475:True:=trivial
theorem head.tw6288538588269318274:True:=trivial
theorem head.tw6295136114372876325:True:=trivial
theorem head.tw6302871324792935842:True:=trivial
theorem head.tw6306348304699022004:True:=trivial
theorem head.tw6326262103661479924:True:=trivial
theorem head.tw6345962803626072704:True:=trivial
theorem head.tw6360992666864919060:True:=trivial
theorem head.tw6441196650915534850:True:=trivial
theorem head.tw6459330472900232938:True:=trivial
theorem head.tw6486626807529291079:True:=trivial
theorem head.tw6501993735153680131:True:=trivial
theorem head.tw6517327976592040403:True:=trivial
theorem head.tw6534560273987699404:True:=trivial
theorem head.tw6536087584392566282:True:=trivial
theorem head.tw6556444311515432407:True:=trivial
theorem head.tw6558063594523118537:True:=trivial
theorem head.tw660241337831805204:True:=trivial
theorem head.tw6630738010656775419:True:=trivial
theorem head.tw6646095862531013497:True:=trivial
theorem head.tw6683920079252563978:True:=trivial
theorem head.tw6719656258133677700:True:=trivial
theorem head.tw672570726121695013:True:=trivial
theorem head.tw6747066739558179449:True:=trivial
theorem head.tw6750202040354555455:True:=trivial
theorem head.tw676965902777963080:True:=trivial
theorem head.tw6786778168509544517:True:=trivial
theorem head.tw68223138966139510:True:=trivial
theorem head.tw6823611985272463914:True:=trivial
theorem head.tw6835922771926613386:True:=trivial
theorem head.tw68791429988877841:True:=trivial
theorem head.tw6929394149058840621:True:=trivial
theorem head.tw695893946633948039:True:=trivial
theorem head.tw6962018899104020525:True:=trivial
theorem head.tw6984558992135690208:True:=trivial
theorem head.tw7002126486309990682:True:=trivial
theorem head.tw7004043142383214097:True:=trivial
theorem head.tw70407987180004669:True:=trivial
theorem head.tw7043688390471808656:True:=trivial
theorem head.tw7087371699663613359:True:=trivial
theorem head.tw713780535727093076:True:=trivial
theorem head.tw7258877458190152819:True:=trivial
theorem head.tw727871655853585494:True:=trivial
theorem head.tw7285385138943665165:True:=trivial
theorem head.tw7288914432739094182:True:=trivial
theorem head.tw7308751112481119971:True:=trivial
theorem head.tw7387348980798310210:True:=trivial
theorem head.tw7398455674930932470:True:=trivial
theorem head.tw7453933950953202983:True:=trivial
theorem head.tw7522540995713088274:True:=trivial
theorem head.tw7527910484675740831:True:=trivial
theorem head.tw756069217127356742:True:=trivial
theorem head.tw758980129013455211:True:=trivial
theorem head.tw7594393393143898134:True:=trivial
theorem head.tw7653770046041843074:True:=trivial
theorem head.tw7669542570389801355:True:=trivial
theorem head.tw7685603406797835371:True:=trivial
theorem head.tw7692529387714484404:True:=trivial
theorem head.tw7706266995361183031:True:=trivial
theorem head.tw7717097885034689735:True:=trivial
theorem head.tw7739960990069688279:True:=trivial
theorem head.tw7742056743536037903:True:=trivial
theorem head.tw7795901939020475714:True:=trivial
theorem head.tw7798382485669159157:True:=trivial
theorem head.tw7810815386330201434:True:=trivial
theorem head.tw7828029103933373108:True:=trivial
theorem head.tw7836174546575239148:True:=trivial
theorem head.tw7840641359469246451:True:=trivial
theorem head.tw7842224052649319562:True:=trivial
theorem head.tw7848811690419876199:True:=trivial
theorem head.tw7871040755861822600:True:=trivial
theorem head.tw7871400988371781522:True:=trivial
theorem head.tw7876380749562137144:True:=trivial
theorem head.tw7880576784633796990:True:=trivial
theorem head.tw78849457177150641:True:=trivial
theorem head.tw7887325764628733692:True:=trivial
theorem head.tw7914099146338004751:True:=trivial
theorem head.tw7934260813177360937:True:=trivial
theorem head.tw7980799833586399067:True:=trivial
theorem head.tw7993170635273628240:True:=trivial
theorem head.tw8007940898392486748:True:=trivial
theorem head.tw8025419442395314943:True:=trivial
theorem head.tw8035035416736859024:True:=trivial
theorem head.tw8053394759554831559:True:=trivial
theorem head.tw8091988528312788240:True:=trivial
theorem head.tw8122885039181923333:True:=trivial
theorem head.tw8143839383226190842:True:=trivial
theorem head.tw8164521253129739317:True:=trivial
theorem head.tw8173076531526851503:True:=trivial
theorem head.tw819674490487190345:True:=trivial
theorem head.tw8199683642505161241:True:=trivial
theorem head.tw8230188563286494058:True:=trivial
theorem head.tw8240196137473303414:True:=trivial
theorem head.tw8273974295544231241:True:=trivial
theorem head.tw8291344588662555915:True:=trivial
theorem head.tw829481414352493308:True:=trivial
theorem head.tw8300548885825651709:True:=trivial
theorem head.tw8300570662155676107:True:=trivial
theorem head.tw8317966185173962836:True:=trivial
theorem head.tw8321119226527775237:True:=trivial
theorem head.tw8333125123008790743:True:=trivial
theorem head.tw8341041181660773101:True:=trivial
theorem head.tw8343031900333054849:True:=trivial
theorem head.tw8350303324170192991:True:=trivial
theorem head.tw8374713163410265017:True:=trivial
theorem head.tw8376988493439413397:True:=trivial
theorem head.tw8380034559641552496:True:=trivial
theorem head.tw8383906017190836089:True:=trivial
theorem head.tw8397667373497710178:True:=trivial
theorem head.tw8402733330285803759:True:=trivial
theorem head.tw8406964992398057563:True:=trivial
theorem head.tw8427403130609186562:True:=trivial
theorem head.tw8457352393125183420:True:=trivial
theorem head.tw8470793768573589947:True:=trivial
theorem head.tw8488015001772446612:True:=trivial
theorem head.tw8491820067614933743:True:=trivial
theorem head.tw8498120614926182078:True:=trivial
theorem head.tw8498251510748665907:True:=trivial
theorem head.tw8561762322014670148:True:=trivial
theorem head.tw8568197537054905324:True:=trivial
theorem head.tw8712476970917502265:True:=trivial
theorem head.tw871252903898582465:True:=trivial
theorem head.tw8730119747510088245:True:=trivial
theorem head.tw8740491119249365079:True:=trivial
theorem head.tw8792897344874033733:True:=trivial
theorem head.tw8794538426755590552:True:=trivial
theorem head.tw8804343660805199721:True:=trivial
theorem head.tw8828762066905357110:True:=trivial
theorem head.tw8839027191431993605:True:=trivial
theorem head.tw8911715247591009910:True:=trivial
theorem head.tw8932565594611263023:True:=trivial
theorem head.tw8939464649871245579:True:=trivial
theorem head.tw8973045309603158412:True:=trivial
theorem head.tw9021974018963436649:True:=trivial
theorem head.tw9026177583158334158:True:=trivial
theorem head.tw9033182001766740417:True:=trivial
theorem head.tw90598915626312365:True:=trivial
theorem head.tw9063132295611338571:True:=trivial
theorem head.tw9066055609438617168:True:=trivial
theorem head.tw90707206198963316:True:=trivial
theorem head.tw9094184492450977180:True:=trivial
theorem head.tw9138265704962542843:True:=trivial
theorem head.tw9149885144370575409:True:=trivial
theorem head.tw9150203044055339105:True:=trivial
theorem head.tw9178964171498209538:True:=trivial
theorem head.tw9188221901137457004:True:=trivial
theorem head.tw9194472977650436620:True:=trivial
theorem head.tw9204440531228079312:True:=trivial
theorem head.tw9208760602289501594:True:=trivial
theorem head.tw9216089146854100675:True:=trivial
theorem head.tw9217025424471583602:True:=trivial
theorem head.tw9251557237950260918:True:=trivial
theorem head.tw9270267985669984014:True:=trivial
theorem head.tw9281326185923295492:True:=trivial
theorem head.tw9287645345724030290:True:=trivial
theorem head.tw9343841776052470216:True:=trivial
theorem head.tw9360740354718025040:True:=trivial
theorem head.tw9372715231738170429:True:=trivial
theorem head.tw9417891802631395052:True:=trivial
theorem head.tw9434034715570441583:True:=trivial
theorem head.tw9438585840210694724:True:=trivial
theorem head.tw9456725078930572920:True:=trivial
theorem head.tw946311343286843416:True:=trivial
theorem head.tw9481697160585238204:True:=trivial
theorem head.tw9486179325711558089:True:=trivial
theorem head.tw9514788811957211624:True:=trivial
theorem head.tw9537380183471018052:True:=trivial
theorem head.tw9546622377623305479:True:=trivial
theorem head.tw9548861120244870157:True:=trivial
theorem head.tw9554088087165546030:True:=trivial
theorem head.tw9562597414353034826:True:=trivial
theorem head.tw9629543149614385321:True:=trivial
theorem head.tw9634045303191909956:True:=trivial
theorem head.tw9656145585253418624:True:=trivial
theorem head.tw9694607215696738205:True:=trivial
theorem head.tw9714301357038778298:True:=trivial
theorem head.tw9714425267121465612:True:=trivial
theorem head.tw9738642721323792858:True:=trivial
theorem head.tw9750375429457580736:True:=trivial
theorem head.tw9773917743061728748:True:=trivial
theorem head.tw985719481007450075:True:=trivial
theorem head.tw9893352306937984402:True:=trivial
theorem head.tw994578777664213213:True:=trivial
theorem head.tw996981640771525611:True:=trivial
theorem head.tw997365496626702635:True:=trivial
theorem head.tw9979735648202811858:True:=trivial
theorem head.tw9991829656483592240:True:=trivial
theorem head.tw9993300197053530983:True:=trivial
theorem head.tw9995642456277745493:True:=trivial
set_option Elab.async true in
set_option maxHeartbeats 8000000 in
theorem head : PySem.Challenge.rw_np0148_01.Holds := by
  w_on; o_law; k_head; (case hw => w_witness2)
  intro w s₀ s₁ mg mb G Y fa o pm cd doc dV kV ho hd hcd hD hmg hg args vals as hpre hlay hrd hwl hlo
  have KX := kIn_of Y
  refine Ground.open G ?_
  intro T B D TE TW
  try (refine guard_noD D (by decide +kernel) ?_; clear D)
  wrow_args hpre hlay hrd hwl hlo
  refine law_good KX (topRead_of T) ?_ hmg ?_ hg (by assumption) (by assumption) (by assumption) (by assumption) ?_ ?_
  · exact {
      fn := by kernel_rfl
      bd := by intro S g; kernel_rfl
      cm := by kernel_rfl
      ex := ⟨_, _, _, _, _, _, _, _, rfl⟩
      t1 := by kernel_rfl
      t2 := by kernel_rfl
      t3 := by kernel_rfl
      t4 := by kernel_rfl
      t5 := by kernel_rfl
      t6 := by kernel_rfl
      t7 := by kernel_rfl
      t8 := by kernel_rfl
      t9 := by kernel_rfl
      t10 := by kernel_rfl
      t11 := by kernel_rfl
      t12 := by kernel_rfl
      t13 := by kernel_rfl
      t14 := by kernel_rfl
      t15 := by kernel_rfl
      t16 := by kernel_rfl
      t17 := by kernel_rfl
      t18 := by kernel_rfl
      t19 := by kernel_rfl
      t20 := by kernel_rfl
      t21 := by kernel_rfl
      t22 := by kernel_rfl
      t23 := by kernel_rfl
      t24 := by kernel_rfl
      t25 := by kernel_rfl
      t26 := by kernel_rfl
      t27 := by kernel_rfl
      t28 := ⟨_, _, _, rfl, rfl, by kernel_rfl⟩
      t29 := by kernel_rfl }
  · kernel_rfl
  · intro _; rfl
  · kernel_rfl
end Mine.Internal
theorem PySem.Challenge.cw_np0148_01_holds : PySem.Challenge.rw_np0148_01.Holds := by
  exact Mine.Internal.head
