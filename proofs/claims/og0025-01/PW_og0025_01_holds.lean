import PyProof.Rows.All
import Wide.All
import OpenK.AllK
import Wide.FinOn
import PySem.Challenge.RW_og0025_01
open PySem PySem.W PyProof.Rows PySem.Calls PySem.Spec
set_option Elab.async false
set_option maxRecDepth 100000
set_option genInjectivity false
set_option genSizeOf false
set_option linter.all false
namespace Mine
section
structure ClsGet (K:Frag) (C:Addr) (name:Str):Prop where
  get:plainGet K C name = true
  dict:hasDictIn K C = true
  attr:∃ a,findIn K (.ref C) name = some a∧noGet K a = true
structure ClsSet (K:Frag) (C:Addr) (name:Str):Prop where
  set:findIn K (.ref C) "__setattr__" = some (some (.builtin "object.__setattr__"))
  over:plainOver K C = true
  taker:takerIn K C name = some none
  dict:hasDictIn K C = true
structure ClsMeth (K:Frag) (C:Addr) (name:Str) (f:Addr):Prop where
  get:plainGet K C name = true
  find:findIn K (.ref C) name = some (some (.ref f))
  fn:isFn K (.ref f) = true
structure ClsMake (K:Frag) (C:Addr) (fI:Addr):Prop where
  make:makesIn K C = true
  init:findIn K (.ref C) "__init__" = some (some (.ref fI))
  fn:isFn K (.ref fI) = true
structure ClsIs (K:Frag) (D:Addr):Prop where
  hg:plainGet K D "__class__" = true
  hdct:hasDictIn K D = true
  ha:findIn K (.ref D) "__class__" = some (some (.builtin "object.__class__"))
  hn:specialIn K (.builtin "object.__class__") "__get__" = some (some (.builtin "getset_descriptor.__get__"))
  htk:takesIn K (.builtin "object.__class__") = some true
  hm:mroIn K D (.type "object") = some true
def GlK (K:Frag) (p:Str × Value):Prop:=
  nsIn K mainGlobals p.1 = some (some p.2)∨(nsIn K mainGlobals p.1 = some none∧bootBuiltins p.1 = some p.2∧p.1 ≠ "__name__")
abbrev FD:=Str × Arguments × List Stmt × Scope
noncomputable def fdOf:Option Stmt→FD
  | some (.FunctionDef n a b _ _ _ sc _ _ _)=>(n,a,b,sc)
  | _=>("",⟨[],[],none,[],[],none,[]⟩,[],⟨.function,[],false,false,[]⟩)
noncomputable def fd (i j:Nat):FD:=match PySem.Challenge.pw_og0025_01.main.body[i]? with
  | some (.ClassDef _ _ _ b _ _ _ _ _ _ _)=>fdOf b[j]?
  | s=>fdOf s
structure FnP (K:Frag) (a:Addr) (i j:Nat) (d:Value):Prop where
  ex:∃ qual md tk cd,K.lookup a = some ⟨.type "function",none,.func (fnOf (fd i j).1 qual (fd i j).2.1 (fd i j).2.2.1 (fd i j).2.2.2 d .none .none (.str md tk) none (.ref cd) .none),#[]⟩∧codeIn K (.ref cd) qual = true
noncomputable def getL:List (Addr × Str):=[(52, "name"),(94, "kind"),(94, "value"),(134, "fun"),(134, "args"),(176, "params"),(176, "body"),(212, "binds"),(212, "body"),(212, "is_rec"),(252, "name"),(252, "args"),(292, "op"),(292, "args"),(360, "fresh"),(360, "instead"),(402, "many"),(402, "in_function"),(510, "avoided"),(510, "numbers")]
noncomputable def methL:List (Addr × Str × Addr):=[(52, "groups",35),(52, "parts",42),(52, "rebuilt",49),(94, "groups",77),(94, "parts",84),(94, "rebuilt",91),(134, "groups",119),(134, "parts",124),(134, "rebuilt",131),(176, "groups",159),(176, "parts",166),(176, "rebuilt",173),(212, "groups",199),(212, "parts",204),(212, "rebuilt",209),(252, "groups",237),(252, "parts",242),(252, "rebuilt",249),(292, "groups",277),(292, "parts",282),(292, "rebuilt",289),(360, "new_groups",336),(360, "inner",343),(360, "leaf",350),(360, "run",357),(402, "note",399),(510, "avoid",500),(510, "next",507)]
noncomputable def makeL:List (Addr × Addr):=[(52,28),(94,70),(134,112),(176,152),(212,194),(252,230),(292,270),(360,331),(402,392),(510,493)]
noncomputable def isL7:List Addr:=[52,94,134,176,212,252,292]
noncomputable def allGs:List (Str × Value):=("Var",.ref 52) :: ("Lit",.ref 94) :: ("App",.ref 134) :: ("Lam",.ref 176) :: ("Let",.ref 212) :: ("Con",.ref 252) :: ("Prim",.ref 292) :: ("Renamer",.ref 360) :: ("Uses",.ref 402) :: ("Fresh",.ref 510) :: ("scoped",.ref 303) :: ("free_names",.ref 310) :: ("is_free",.ref 317) :: ("renamed",.ref 371) :: ("substituted",.ref 378) :: ("uses_of",.ref 413) :: ("is_atom",.ref 420) :: ("used_names",.ref 427) :: ("let_of_let",.ref 434) :: ("parted",.ref 439) :: ("floated_part",.ref 446) :: ("let_of_args",.ref 453) :: ("reached",.ref 458) :: ("without_dead",.ref 463) :: ("plain_let",.ref 470) :: ("base_of",.ref 477) :: ("size_of",.ref 521) :: ("is_taken",.ref 528) :: ("inlined",.ref 533) :: ("_law_mix",.ref 540) :: ("_law_hand",.ref 547) :: ("_law_part",.ref 554) :: ("_law_body",.ref 559) :: ("_law_found",.ref 566) :: ("_law_seen",.ref 571) :: ("_law_same",.ref 578) :: ("_law_let_of_let_right",.ref 585) :: ("_law_parted_right",.ref 590) :: ("_law_args_right",.ref 595) :: ("_law_plain_right",.ref 602) :: ("_law_dead_right",.ref 607) :: ("_law_uses",.ref 614) :: ("_law_inlined_right",.ref 621) :: ("dict",.type "dict") :: ("tuple",.type "tuple") :: ("range",.type "range") :: ("reversed",.type "reversed") :: ("list",.type "list") :: ("str",.type "str") :: ("int",.type "int") :: ("isinstance",.builtin "isinstance") :: ("len",.builtin "len") :: ("sorted",.builtin "sorted") :: ("any",.builtin "any") :: []
noncomputable def kpL:List Addr:=[52,94,134,176,212,252,292,360,402,510,303,310,317,371,378,413,420,427,434,439,446,453,458,463,470,477,521,528,533,540,547,554,559,566,571,578,585,590,595,602,607,614,621,35,42,49,77,84,91,119,124,131,159,166,173,199,204,209,237,242,249,277,282,289,336,343,350,357,399,500,507]
noncomputable def fnL:List (Addr × Nat × Nat × Value):=(28,1,0,.none) :: (35,1,1,.none) :: (42,1,2,.none) :: (49,1,3,.none) :: (70,2,0,.none) :: (77,2,1,.none) :: (84,2,2,.none) :: (91,2,3,.none) :: (112,3,0,.none) :: (119,3,1,.none) :: (124,3,2,.none) :: (131,3,3,.none) :: (152,4,0,.none) :: (159,4,1,.none) :: (166,4,2,.none) :: (173,4,3,.none) :: (194,5,0,.none) :: (199,5,1,.none) :: (204,5,2,.none) :: (209,5,3,.none) :: (230,6,0,.none) :: (237,6,1,.none) :: (242,6,2,.none) :: (249,6,3,.none) :: (270,7,0,.none) :: (277,7,1,.none) :: (282,7,2,.none) :: (289,7,3,.none) :: (331,12,0,.none) :: (336,12,1,.none) :: (343,12,2,.none) :: (350,12,3,.none) :: (357,12,4,.none) :: (392,16,0,.none) :: (399,16,1,.none) :: (493,30,0,.ref 486) :: (500,30,1,.none) :: (507,30,2,.none) :: (303,9,0,.none) :: (310,10,0,.none) :: (317,11,0,.none) :: (371,13,0,.none) :: (378,14,0,.none) :: (413,17,0,.none) :: (420,18,0,.none) :: (427,19,0,.none) :: (434,21,0,.none) :: (439,22,0,.none) :: (446,23,0,.none) :: (453,24,0,.none) :: (458,25,0,.none) :: (463,26,0,.none) :: (470,27,0,.none) :: (477,29,0,.none) :: (521,32,0,.none) :: (528,34,0,.none) :: (533,35,0,.none) :: (540,37,0,.none) :: (547,38,0,.none) :: (554,39,0,.none) :: (559,40,0,.none) :: (566,41,0,.none) :: (571,42,0,.none) :: (578,43,0,.none) :: (585,44,0,.none) :: (590,45,0,.none) :: (595,46,0,.none) :: (602,47,0,.none) :: (607,48,0,.none) :: (614,49,0,.none) :: (621,50,0,.none) :: []
structure KF (K:Frag):Prop where
  get:∀ p ∈ getL,ClsGet K p.1 p.2
  set:∀ p ∈ getL,ClsSet K p.1 p.2
  meth:∀ p ∈ methL,ClsMeth K p.1 p.2.1 p.2.2
  make:∀ p ∈ makeL,ClsMake K p.1 p.2
  is_:∀ a ∈ isL7,ClsIs K a
  kit:∀ a ∈ isL7,∀ b ∈ isL7,kitOne K (.ref a) (.ref b) = some (a == b)
  gl:∀ p ∈ allGs,GlK K p
  kp:∀ a ∈ kpL,keepIn K (.ref a) = true
  fns:∀ p ∈ fnL,FnP K p.1 p.2.1 p.2.2.1 p.2.2.2
  dfl:∃ o n,K.lookup 486 = some o∧o.data = .seq #[.ref 485] n
end
section
abbrev Led:=List (Addr × Obj)
structure E0 where
  prog:Program
  w:World
  K:Frag
  kf:KF K
  H0:Heap
  s0:Shared
  p:Program
  loose:List Str
  mean:ExcName→Option Value
  mg:Str→Option Value
  mb:Str→Option Value
structure Amb (e:E0):Prop where
  kin:e.K.In e.H0
  top:Top e.p e.loose e.mean e.mg e.mb e.H0
abbrev Gl (e:E0) (x:Str) (v:Value):Prop:=GlK e.K (x,v)
structure Cx where
  A:Around
  L:Addr
  env:Env
  fs:Led
  own:List (Str × Addr)
  room:Nat
inductive AtN:List Str→List (Option Value)→Str→Value→Prop
  | here {x ns v vs}:AtN (x :: ns) (some v :: vs) x v
  | there {x y ns vs v u}:AtN ns vs x v→AtN (y :: ns) (u :: vs) x v
inductive SetN:List Str→List (Option Value)→Str→Value→List (Option Value)→Prop
  | here {x ns u v vs}:SetN (x :: ns) (u :: vs) x v (some v :: vs)
  | there {x y ns vs v u vs'}:SetN ns vs x v vs'→SetN (y :: ns) (u :: vs) x v (u :: vs')
structure CxOk (e:E0) (c:Cx) (ns:List Str) (gs:List (Str × Value)):Prop where
  amb:Amb e
  kf:c.env.scope.kind = .function
  el:c.env.locals = c.L
  eg:c.env.globals = mainGlobals
  eb:c.env.builtins = builtinsNs
  loc:∀ x ∈ ns,c.env.kindOf x = some .local∨(c.env.kindOf x = some .cell∧(c.own.lookup x).isSome = true)
  nd:ns.Nodup
  dbg:∀ x ∈ ns,(x == ("__debug__":Str)) = false∧(x == ("__classdict__":Str)) = false
  cnd:(c.own.map (·.1)).Nodup
  hown:∀ x a,c.own.lookup x = some a→c.env.cells.lookup x = some a
  gl:∀ p ∈ gs,c.env.kindOf p.1 = some .globalImplicit∧(p.1 == ("__debug__":Str)) = false∧Gl e p.1 p.2
  dep:c.A.depth + c.room < recursionLimit
  uni:c.A.units + 8 * c.room < cLine
  hnd:c.A.handled = none
def Locs (env:Env) (m cm:Str→Option Value) (ns:List Str) (vs:List (Option Value)):Prop:=
  ∀ x v,AtN ns vs x v→(env.kindOf x = some .local∧m x = some v)∨(env.kindOf x = some .cell∧cm x = some v)
structure St (e:E0) (c:Cx) (ns:List Str) (vs:List (Option Value)) (M I:Led) (s:Shared):Prop where
  core:∃ m cm cl,Fr e.H0 c.L s.heap m∧CellsAre cm c.own cl∧News e.H0 c.L s.heap (M ++ (I ++ (cl ++ c.fs)))∧
    ((M ++ (I ++ (cl ++ c.fs))).map (·.1)).Nodup∧Locs c.env m cm ns vs
  gens:s.gens = e.s0.gens
  drawn:s.drawn = e.s0.drawn
  os:s.os = e.s0.os
theorem St.open {P:Prop} {e c ns vs M I s} (hs:St e c ns vs M I s) (q:∀ m cm cl,Fr e.H0 c.L s.heap m→CellsAre cm c.own cl→News e.H0 c.L s.heap (M ++ (I ++ (cl ++ c.fs)))→((M ++ (I ++ (cl ++ c.fs))).map (·.1)).Nodup→Locs c.env m cm ns vs→P):P:=
  hs.core.elim fun m h=>h.elim fun cm h=>h.elim fun cl h=>q m cm cl h.1 h.2.1 h.2.2.1 h.2.2.2.1 h.2.2.2.2
theorem AtN.mem {ns vs x v} (h:AtN ns vs x v):x ∈ ns:=by
  induction h with
  | here=>exact .head _
  | there _ ih=>exact .tail _ ih
theorem SetN.mem {ns vs x v vs'} (h:SetN ns vs x v vs'):x ∈ ns:=by
  induction h with
  | here=>exact .head _
  | there _ ih=>exact .tail _ ih
theorem atN_cons {n y:Str} {ns:List Str} {v:Option Value} {vs:List (Option Value)} {u:Value} (k:AtN (n :: ns) (v :: vs) y u):(y = n∧v = some u)∨AtN ns vs y u:=by
  cases k with
  | here=>exact .inl ⟨rfl,rfl⟩
  | there k=>exact .inr k
theorem SetN.at {ns vs x v vs'} (h:SetN ns vs x v vs') (nd:ns.Nodup):∀ y u,AtN ns vs' y u→(y = x∧u = v)∨(y ≠ x∧AtN ns vs y u):=by
  induction h with
  | here=>exact fun y u k=>(atN_cons k).imp (fun k=>⟨k.1,Option.some.inj k.2.symm⟩) fun k=>⟨fun q=>(List.nodup_cons.mp nd).1 (q ▸ k.mem),.there k⟩
  | there h ih=>
    intro y u k
    rcases atN_cons k with ⟨q,e⟩ | k
    · exact .inr ⟨fun q'=>(List.nodup_cons.mp nd).1 (q ▸ q' ▸ h.mem),by rw [q,e]; exact .here⟩
    · exact (ih (List.nodup_cons.mp nd).2 y u k).imp id fun k=>⟨k.1,.there k.2⟩
theorem cells_at {cm:Str→Option Value}:∀ {cs cl},CellsAre cm cs cl→∀ {x a},cs.lookup x = some a→∃ o,(a,o) ∈ cl∧o.data = .cell (cm x):=by
  intro cs cl h
  induction h with
  | nil=>intro x a e; cases e
  | @cons n c o cs cl hd _ ih=>
    intro x a e
    rw [List.lookup_cons] at e
    cases hb:x == n with
    | true=>rw [hb] at e; cases e; exact ⟨o,.head _,by rw [eq_of_beq hb]; exact hd⟩
    | false=>rw [hb] at e; obtain ⟨o',h1,h2⟩:=ih e; exact ⟨o',.tail _ h1,h2⟩
noncomputable def setK (d:Addr) (o':Obj) (l:Led):Led:=l.map fun p=>if p.1 = d then (d,o') else p
theorem setK_append (d o') (l r:Led):setK d o' (l ++ r) = setK d o' l ++ setK d o' r:=List.map_append
theorem setK_off {d o'}:∀ {l:Led},d ∉ l.map (·.1)→setK d o' l = l
  | [],_=>rfl
  | p :: r,h=>by
    have h1:p.1 ≠ d:=fun q=>h (q ▸ .head _)
    have h2:d ∉ r.map (·.1):=fun q=>h (.tail _ q)
    show (if p.1 = d then (d,o') else p) :: setK d o' r = p :: r
    rw [if_neg h1,setK_off h2]
theorem setK_keys (d o'):∀ l:Led,(setK d o' l).map (·.1) = l.map (·.1)
  | []=>rfl
  | p :: r=>by
    show (if p.1 = d then (d,o') else p).1 :: (setK d o' r).map (·.1) = p.1 :: r.map (·.1)
    rw [setK_keys d o' r]
    split
    · rename_i q; rw [q]
    · rfl
theorem news_setK {h₀ h h':Heap} {L d:Addr} {o':Obj} {l:Led} (N:News h₀ L h l) (hs:Heap.SameBut d h h') (ho:h'.get? d = some o'):News h₀ L h' (setK d o' l):=by
  intro p hp
  obtain ⟨q,hq,rfl⟩:=List.mem_map.mp hp
  have:=N q hq
  split
  · rename_i k; exact ⟨ho,k ▸ this.2.1,k ▸ this.2.2⟩
  · rename_i k; exact ⟨(hs.2 q.1 k).trans this.1,this.2⟩
theorem cells_setK {cm:Str→Option Value} {x:Str} {v:Value} {a:Addr} {o':Obj} (ho:o'.data = .cell (some v)) :
    ∀ {cs:List (Str × Addr)} {cl:Led},CellsAre cm cs cl→(cl.map (·.1)).Nodup→(cs.map (·.1)).Nodup→cs.lookup x = some a→CellsAre (fun y=>if y = x then some v else cm y) cs (setK a o' cl):=by
  have off:∀ {cs cl},CellsAre cm cs cl→x ∉ cs.map (·.1)→CellsAre (fun y=>if y = x then some v else cm y) cs cl:=by
    intro cs cl h
    induction h with
    | nil=>exact fun _=>.nil
    | @cons n c o cs cl hd _ ih=>
      intro k
      exact .cons (by rw [if_neg fun q:n = x=>k (q ▸ List.Mem.head _)]; exact hd) (ih fun q=>k (.tail _ q))
  intro cs cl h
  induction h with
  | nil=>intro _ _ e; cases e
  | @cons n c o cs cl hd r ih=>
    intro nk nc e
    have nk':=List.nodup_cons.mp nk
    have nc':=List.nodup_cons.mp nc
    rw [List.lookup_cons] at e
    cases hb:x == n with
    | true=>
      rw [hb] at e; cases e
      have hx:x = n:=eq_of_beq hb
      have e1:Mine.setK a o' ((a,o) :: cl) = (a,o') :: cl:=by
        show (if a = a then (a,o') else (a,o)) :: Mine.setK a o' cl = _
        rw [if_pos rfl,setK_off nk'.1]
      rw [e1]
      exact .cons (by rw [if_pos hx.symm]; exact ho) (off r (hx ▸ nc'.1))
    | false=>
      rw [hb] at e
      obtain ⟨ob,hm,_⟩:=cells_at r e
      have hca:c ≠ a:=fun q=>nk'.1 (by show c ∈ _; rw [q]; exact List.mem_map_of_mem (f:=(·.1)) hm)
      have e1:Mine.setK a o' ((c,o) :: cl) = (c,o) :: Mine.setK a o' cl:=by
        show (if c = a then (a,o') else (c,o)) :: Mine.setK a o' cl = _
        rw [if_neg hca]
      rw [e1]
      exact .cons (by rw [if_neg fun q:n = x=>by rw [q] at hb; simp at hb]; exact hd) (ih nk'.2 nc'.2 e)
section
variable {e:E0} {c:Cx} {ns:List Str} {gs:List (Str × Value)} {vs vs':List (Option Value)} {M M' I I':Led} {s:Shared} {E:Value→Shared→Prop}
theorem name_loc {x:Str} {pos:Pos} {v:Value} {Q:Value→Shared→Prop} (ok:CxOk e c ns gs) (hs:St e c ns vs M I s) (h:AtN ns vs x v) (k:Q v s) :
    wpAny (model e.prog e.w) c.A (eval (.Name x pos) c.env) Q E s:=by
  refine hs.open fun m cm cl F CA N nd Lc=>?_
  have hd:=ok.dbg x h.mem
  rcases Lc x v h with ⟨hk,hv⟩ | ⟨hk,hv⟩
  · exact wpAny_Name (wpAny_loadName_local ok.kf hk (ok.el ▸ F.ns) hv k) hd.1
  · rcases ok.loc x h.mem with q | ⟨_,q⟩
    · rw [hk] at q; cases q
    · obtain ⟨a,ha⟩:=Option.isSome_iff_exists.mp q
      obtain ⟨o,hm,hd'⟩:=cells_at CA ha
      have ho:s.heap.get? a = some o:=N.get (List.mem_append.mpr (.inr (List.mem_append.mpr (.inr (List.mem_append.mpr (.inl hm))))))
      rw [hv] at hd'
      exact wpAny_Name (wpAny_loadName_cell ok.kf hk (ok.hown _ _ ha) ⟨o,ho,hd'⟩ k) hd.1
theorem name_glob {x:Str} {pos:Pos} {v:Value} {Q:Value→Shared→Prop} (ok:CxOk e c ns gs) (hs:St e c ns vs M I s) (h:(x,v) ∈ gs) (k:Q v s) :
    wpAny (model e.prog e.w) c.A (eval (.Name x pos) c.env) Q E s:=by
  refine hs.open fun m cm cl F CA N nd Lc=>?_
  obtain ⟨hk,hd,hg⟩:=ok.gl _ h
  have T:=topRead_of ok.amb.top
  rcases hg with hg | ⟨hg,hb,hn⟩
  · exact Name_function_global ok.kf hk (loadGlobal_global (by rw [ok.eg]; exact T.g.keeps F.keep) (mg_of ok.amb.kin T.g hg) k) hd
  · exact Name_function_global ok.kf hk (loadGlobal_builtin (by rw [ok.eg]; exact T.g.keeps F.keep) (mg_none_of ok.amb.kin T.g hg) (by rw [ok.eb]; exact T.b.keeps F.keep) ((T.builtins x hn).trans hb) k) hd
theorem store {x:Str} {v:Value} {Q:Unit→Shared→Prop} (ok:CxOk e c ns gs) (hs:St e c ns vs M I s) (h:SetN ns vs x v vs') (k:∀ s',St e c ns vs' M I s'→Q () s') :
    wpAny (model e.prog e.w) c.A (storeName c.env x v) Q E s:=by
  refine hs.open fun m cm cl F CA N nd Lc=>?_
  rcases ok.loc x h.mem with hl | ⟨hl,q⟩
  · refine wpAny_storeName_local hl (ok.el ▸ F.ns) (fun h' hn hsb=>k _ ⟨⟨_,cm,cl,F.set (ok.el ▸ hn) (ok.el ▸ hsb),CA,N.set (ok.el ▸ hsb),nd,fun y u hy=>?_⟩,hs.gens,hs.drawn,hs.os⟩) (by rw [ok.kf]; rfl)
    rcases h.at ok.nd y u hy with ⟨rfl,rfl⟩ | ⟨hne,hy⟩
    · exact .inl ⟨hl,by simp⟩
    · rcases Lc y u hy with ⟨k1,k2⟩ | k1
      · exact .inl ⟨k1,by simp [hne,k2]⟩
      · exact .inr k1
  · · obtain ⟨a,ha⟩:=Option.isSome_iff_exists.mp q
      obtain ⟨o,hm,hd'⟩:=cells_at CA ha
      have hmem:(a,o) ∈ M ++ (I ++ (cl ++ c.fs)):=List.mem_append.mpr (.inr (List.mem_append.mpr (.inr (List.mem_append.mpr (.inl hm)))))
      have ho:=N _ hmem
      refine wpAny_storeName_cell ok.kf hl (ok.hown _ _ ha) ⟨o,ho.1,hd'⟩ fun h' hv hsb=>?_
      obtain ⟨o',ho',hd''⟩:=hv
      have N':=news_setK N hsb ho'
      have nd1:=nd
      rw [List.map_append,List.map_append,List.map_append] at nd1
      obtain ⟨n1,n2,n3⟩:=List.nodup_append.mp nd1
      obtain ⟨n4,n5,n6⟩:=List.nodup_append.mp n2
      obtain ⟨n7,n8,n9⟩:=List.nodup_append.mp n5
      have hk:a ∈ cl.map (·.1):=List.mem_map_of_mem hm
      have oM:a ∉ M.map (·.1):=fun q=>n3 a q a (List.mem_append.mpr (.inr (List.mem_append.mpr (.inl hk)))) rfl
      have oI:a ∉ I.map (·.1):=fun q=>n6 a q a (List.mem_append.mpr (.inl hk)) rfl
      have oF:a ∉ c.fs.map (·.1):=fun q=>n9 a hk a q rfl
      rw [setK_append,setK_append,setK_append,setK_off oM,setK_off oI,setK_off oF] at N'
      refine k _ ⟨⟨m,_,_,⟨F.ns.sameBut hsb (Ne.symm ho.2.1),fun b ob eb=>(hsb.2 b fun q=>?_).trans (F.keep b ob eb),F.above⟩,cells_setK hd'' CA n7 ok.cnd ha,N',?_,fun y u hy=>?_⟩,hs.gens,hs.drawn,hs.os⟩
      · have:=ho.2.2; rw [← q,eb] at this; cases this
      · have e1:(M ++ (I ++ (Mine.setK a o' cl ++ c.fs))).map (·.1) = (M ++ (I ++ (cl ++ c.fs))).map (·.1):=by
          simp only [List.map_append,setK_keys]
        rw [e1]; exact nd
      · rcases h.at ok.nd y u hy with ⟨rfl,rfl⟩ | ⟨hne,hy⟩
        · exact .inr ⟨hl,by simp⟩
        · rcases Lc y u hy with k1 | ⟨k1,k2⟩
          · exact .inl k1
          · exact .inr ⟨k1,by simp [hne,k2]⟩
end
end
section
def Ret (e:E0) (c':Cx) (ns':List Str) (c:Cx) (ns:List Str) (vs:List (Option Value)) (Q:Value→Shared→Prop) (v:Value) (s:Shared):Prop:=
  ∃ vs' M I,St e c' ns' vs' M I s∧(St e c ns vs M I s→Q v s)
def RetF (e:E0) (c':Cx) (ns':List Str) (c:Cx) (ns:List Str) (vs:List (Option Value)) (Q:Value→Shared→Prop) (fl:Flow) (s:Shared):Prop:=
  Ret e c' ns' c ns vs Q (match fl with | .ret v=>v | _=>.none) s
noncomputable def scopeOk (scope:Scope) (ns gs bs:List Str):Bool:=
  scope.kind == .function && !scope.isCoroutine && !scope.isGenerator && decide ns.Nodup && decide bs.Nodup &&
  ns.all (fun x=>(scope.names.lookup x == some .local || scope.names.lookup x == some .cell) && !(x == ("__debug__":Str)) && !(x == ("__classdict__":Str))) &&
  gs.all (fun x=>scope.names.lookup x == some .globalImplicit && !(x == ("__debug__":Str))) &&
  bs.all (fun x=>scope.names.lookup x == some .local || scope.names.lookup x == some .cell) &&
  decide ((cellsFrom 0 scope.names []).map (·.1)).Nodup
theorem bindL_off {k:Str→Option NameKind}:∀ {binds:List (Str × Value)} {m:Str→Option Value} {x:Str},x ∉ binds.map (·.1)→bindL k binds m x = m x
  | [],_,_,_=>rfl
  | (n,v) :: r,m,x,h=>by
    have h1:x ≠ n:=fun q=>h (q ▸ .head _)
    have h2:x ∉ r.map (·.1):=fun q=>h (.tail _ q)
    show bindL k r _ x = m x
    rw [bindL_off h2]
    by_cases hk:k n = some .local
    · rw [if_pos hk]; show (if x = n then some v else m x) = m x; rw [if_neg h1]
    · rw [if_neg hk]
theorem bindC_off {k:Str→Option NameKind}:∀ {binds:List (Str × Value)} {m:Str→Option Value} {x:Str},x ∉ binds.map (·.1)→bindC k binds m x = m x
  | [],_,_,_=>rfl
  | (n,v) :: r,m,x,h=>by
    have h1:x ≠ n:=fun q=>h (q ▸ .head _)
    have h2:x ∉ r.map (·.1):=fun q=>h (.tail _ q)
    show bindC k r _ x = m x
    rw [bindC_off h2]
    by_cases hk:k n = some .local
    · rw [if_pos hk]
    · rw [if_neg hk]; show (if x = n then some v else m x) = m x; rw [if_neg h1]
theorem bindL_at {k:Str→Option NameKind} {x:Str} {v:Value} (hk:k x = some .local) {binds:List (Str × Value)}:∀ {m:Str→Option Value},(binds.map (·.1)).Nodup→(x,v) ∈ binds→bindL k binds m x = some v:=by
  induction binds with
  | nil=>intro m nd h; cases h
  | cons p r ih=>
    intro m nd h
    have nd':=List.nodup_cons.mp nd
    show bindL k r _ x = some v
    cases h with
    | head=>rw [bindL_off nd'.1,if_pos hk,if_pos rfl]
    | tail _ q=>exact ih nd'.2 q
theorem bindC_at {k:Str→Option NameKind} {x:Str} {v:Value} (hk:k x ≠ some .local) {binds:List (Str × Value)}:∀ {m:Str→Option Value},(binds.map (·.1)).Nodup→(x,v) ∈ binds→bindC k binds m x = some v:=by
  induction binds with
  | nil=>intro m nd h; cases h
  | cons p r ih=>
    intro m nd h
    have nd':=List.nodup_cons.mp nd
    show bindC k r _ x = some v
    cases h with
    | head=>rw [bindC_off nd'.1,if_neg hk,if_pos rfl]
    | tail _ q=>exact ih nd'.2 q
theorem atN_none {x:Str} {v:Value} {xs:List Str}:¬ AtN xs (xs.map fun _=>none) x v:=by
  induction xs with
  | nil=>intro h; cases h
  | cons y r ih=>intro h; cases h with | there h=>exact ih h
theorem atN_binds {x:Str} {v:Value} {xs:List Str} {binds:List (Str × Value)}:AtN (binds.map (·.1) ++ xs) (binds.map (fun p=>some p.2) ++ xs.map fun _=>none) x v→(x,v) ∈ binds:=by
  induction binds with
  | nil=>exact fun h=>absurd h atN_none
  | cons p r ih=>
    intro h
    cases h with
    | here=>exact .head _
    | there h=>exact .tail _ (ih h)
structure ScopeF (scope:Scope) (ns gs bs:List Str):Prop where
  hk:scope.kind = .function
  hco:scope.isCoroutine = false
  hgen:scope.isGenerator = false
  hnn:ns.Nodup
  hbn:bs.Nodup
  hns1:∀ x ∈ ns,((scope.names.lookup x = some .local∨scope.names.lookup x = some .cell)∧(x == ("__debug__":Str)) = false)∧(x == ("__classdict__":Str)) = false
  hgs1:∀ x ∈ gs,scope.names.lookup x = some .globalImplicit∧(x == ("__debug__":Str)) = false
  hbs1:∀ x ∈ bs,scope.names.lookup x = some .local∨scope.names.lookup x = some .cell
  hcn:((cellsFrom 0 scope.names []).map (·.1)).Nodup
theorem scopeOk_is {scope:Scope} {ns gs bs:List Str} (h:scopeOk scope ns gs bs = true):ScopeF scope ns gs bs:=by
  simp only [scopeOk,Bool.and_eq_true,decide_eq_true_eq,Bool.not_eq_true',List.all_eq_true,Bool.or_eq_true,beq_iff_eq] at h
  obtain ⟨⟨⟨⟨⟨⟨⟨⟨hk,hco⟩,hgen⟩,hnn⟩,hbn⟩,hns1⟩,hgs1⟩,hbs1⟩,hcn⟩:=h
  exact ⟨hk,hco,hgen,hnn,hbn,hns1,hgs1,hbs1,hcn⟩
theorem ns_open {P:Prop} {h:Heap} {L:Addr} {m:Str→Option Value} (H:h.Ns L m) (q:∀ o,h.get? L = some o→(∀ h':Heap,h'.get? L = some o→h'.Ns L m)→P):P:=
  let ⟨o,es,ep,h1,h2⟩:=H
  q o h1 fun _ h'=>⟨o,es,ep,h',h2⟩
theorem cells_gt {f:Str→Option Value} {k:Addr} {cs:List (Str × Addr)} {cl:Led} (h:CellsAre f cs cl):(∀ n c,(n,c) ∈ cs→k < c)→∀ p ∈ cl,k < p.1:=by
  induction h with
  | nil=>exact fun _ p hp=>nomatch hp
  | cons _ _ ih=>
    intro hh p hp
    cases hp with
    | head=>exact hh _ _ (.head _)
    | tail _ hp=>exact ih (fun n c hm=>hh n c (.tail _ hm)) p hp
theorem cells_nd {f:Str→Option Value} {cs:List (Str × Addr)} {cl:Led} (h:CellsAre f cs cl) (ap:cs.Pairwise fun a b=>a.2 ≠ b.2):(cl.map (·.1)).Nodup:=by
  have e:cl.map (·.1) = cs.map (·.2):=by
    clear ap
    induction h with
    | nil=>rfl
    | cons _ _ ih=>exact congrArg (_ :: ·) ih
  rw [e,List.nodup_iff_pairwise_ne]
  exact List.pairwise_map.mpr ap
section
variable {M I cells cl2 r:Led} {L n:Addr} {oL:Obj}
theorem led_perm:(M ++ (I ++ (cells ++ ((L,oL) :: r)))).Perm (cells ++ ((L,oL) :: (M ++ (I ++ r)))):=by
  refine (List.Perm.append_left M (List.perm_append_comm_assoc ..)).trans ((List.perm_append_comm_assoc ..).trans (List.Perm.append_left cells ?_))
  exact (List.Perm.append_left M List.perm_middle).trans List.perm_middle
theorem nd_frame (nd:((M ++ (I ++ r)).map (·.1)).Nodup) (hlt:∀ p ∈ M ++ (I ++ r),p.1 < n∧p.1 ≠ L) (hL:L < n) (hcd:(cells.map (·.1)).Nodup) (hgt:∀ p ∈ cells,n < p.1):((M ++ (I ++ (cells ++ ((L,oL) :: r)))).map (·.1)).Nodup:=by
  refine (led_perm.map _).nodup_iff.mpr ?_
  rw [List.map_append]
  refine List.nodup_append.mpr ⟨hcd,List.nodup_cons.mpr ⟨fun q=>?_,nd⟩,fun a ha b hb q=>?_⟩
  · obtain ⟨p,hp,e⟩:=List.mem_map.mp q
    exact (hlt p hp).2 e
  · obtain ⟨p,hp,e⟩:=List.mem_map.mp ha
    have h1:=hgt p hp
    cases hb with
    | head=>exact Nat.lt_asymm h1 (e.trans q ▸ hL)
    | tail _ hb=>
      obtain ⟨p',hp',e'⟩:=List.mem_map.mp hb
      exact Nat.lt_asymm h1 ((e.trans q).trans e'.symm ▸ (hlt p' hp').1)
theorem news_frame {H0 h h₁:Heap} (N:News H0 L h (M ++ (I ++ r))) (NC:News h h.objs.size h₁ cells) (hk:∀ b o,h.get? b = some o→h₁.get? b = some o) (hL:h.get? L = some oL) (hH:H0.objs.size ≤ L) (hgt:∀ p ∈ cells,h.objs.size < p.1) :
    News H0 h.objs.size h₁ (M ++ (I ++ (cells ++ ((L,oL) :: r)))):=fun p hp=>by
  have none:∀ {a:Addr},L ≤ a→H0.get? a = none:=fun {a} ha=>by
    cases q:H0.get? a with
    | none=>rfl
    | some o=>exact absurd (Nat.lt_of_lt_of_le (Heap.lt_size q) hH) (Nat.not_lt.mpr ha)
  have hs:=Heap.lt_size hL
  rcases List.mem_append.mp (led_perm.mem_iff.mp hp) with hp | hp
  · exact ⟨(NC p hp).1,(NC p hp).2.1,none (Nat.le_of_lt (Nat.lt_trans hs (hgt p hp)))⟩
  · cases hp with
    | head=>exact ⟨hk _ _ hL,Nat.ne_of_lt hs,none (Nat.le_refl _)⟩
    | tail _ hp=>exact ⟨hk _ _ (N p hp).1,Nat.ne_of_lt (Heap.lt_size (N p hp).1),(N p hp).2.2⟩
theorem led_sub:∀ p ∈ M ++ (I ++ r),p ∈ M ++ (I ++ (cl2 ++ ((L,oL) :: r))):=fun p hp=>led_perm.mem_iff.mpr (List.mem_append.mpr (.inr (.tail _ hp)))
theorem led_L:(L,oL) ∈ M ++ (I ++ (cl2 ++ ((L,oL) :: r))):=led_perm.mem_iff.mpr (List.mem_append.mpr (.inr (.head _)))
theorem nd_back (nd:((M ++ (I ++ (cl2 ++ ((L,oL) :: r)))).map (·.1)).Nodup):(∀ p ∈ M ++ (I ++ r),p.1 ≠ L)∧((M ++ (I ++ r)).map (·.1)).Nodup:=by
  have h:=(led_perm.map _).nodup_iff.mp nd
  rw [List.map_append] at h
  have h:=List.nodup_cons.mp (List.nodup_append.mp h).2.1
  exact ⟨fun p hp q=>h.1 (List.mem_map.mpr ⟨p,hp,q⟩),h.2⟩
end
section
variable {e:E0} {c:Cx} {ns ns':List Str} {gs gs':List (Str × Value)} {vs vs' vs0:List (Option Value)} {M M' I I':Led} {s:Shared} {E:Value→Shared→Prop}
theorem call_code {R:Result→Shared→Prop} {A':Around} {r:Nat} {f:Addr} {name qual:Str} {params:Arguments} {body:List Stmt} {scope:Scope} {dV kV doc pm cdv ct oc:Value} {an od:Option Addr} {osl:Array (Option Value)}
    {args:List Value} {binds:List (Str × Value)} (xs:List Str)
    (ok:CxOk e c ns gs) (hs:St e c ns vs M I s) (hdep:A'.depth + r < recursionLimit) (huni:A'.units + 8 * r < cLine) (hnd:A'.handled = none)
    (ho:e.K.lookup f = some ⟨oc,od,.func (fnOf name qual params body scope dV kV doc pm an cdv ct),osl⟩)
    (hcd:codeIn e.K cdv qual = true)
    (hb:BindsTo s (fnOf name qual params body scope dV kV doc pm an cdv ct) ⟨args,[]⟩ binds)
    (hns:ns' = binds.map (·.1) ++ xs) (hvs:vs0 = binds.map (fun p=>some p.2) ++ xs.map fun _=>none)
    (hsc:scopeOk scope ns' (gs'.map (·.1)) (binds.map (·.1)) = true) (hgl:∀ p ∈ gs',Gl e p.1 p.2) (hr:1 ≤ r)
    (h:∀ c' s',CxOk e c' ns' gs'→(∀ x,c'.env.kindOf x = scope.names.lookup x)→c'.room + 1 = r→St e c' ns' vs0 M I s'→
      wpAny (model e.prog e.w) c'.A (execs body c'.env) (RetF e c' ns' c ns vs fun v s=>R (.ok (.ret v)) s) (fun _ _=>False) s') :
    codeAny (model e.prog e.w) A' (.call (.ref f) ⟨args,[]⟩) R s:=by
  refine hs.open fun m cm cl F CA N nd Lc=>?_
  obtain ⟨hk,hco,hgen,hnn,hbn,hns1,hgs1,hbs1,hcn⟩:=scopeOk_is hsc
  have T:=topRead_of ok.amb.top
  have hkeep:=F.keep
  refine codeAny_call_function (by lia) (hkeep _ _ (ok.amb.kin _ _ ho)) rfl hco hgen rfl (codeRec_of (ok.amb.kin.keeps hkeep) hcd) (hb _ _ _ _ ?_)
  have hbk:∀ x ∈ binds,scope.names.lookup x.1 = some .local∨(scope.names.lookup x.1 = some .cell∧((cellsFrom (s.heap.objs.size + 1) scope.names []).lookup x.1).isSome = true):=fun x hx=>by
    rcases hbs1 x.1 (List.mem_map_of_mem hx) with q | q
    · exact .inl q
    · exact .inr ⟨q,cellsFrom_some _ _ _ (.inl q)⟩
  refine wpAny_newFunctionEnv_cells hk hbk fun env' he s' x=>?_
  subst he
  refine ⟨(T.nolimit.keeps hkeep).keeps x.toInCall.keep,codeAny_func ?_⟩
  obtain ⟨h₁,tk,rfl,_⟩:=x.done
  have hk₁:=x.toInCall.keep
  have hcn':((cellsFrom (s.heap.objs.size + 1) scope.names []).map (·.1)).Nodup:=cellsFrom_names scope.names 0 (s.heap.objs.size + 1) [] [] rfl ▸ hcn
  obtain ⟨cells,NC,Y⟩:=Cl.news (h₀:=s.heap) (Nat.le_refl _) fun n c hm=>⟨x.cell n c (lookup_of_mem_nodup hcn' hm),x.above n c hm⟩
  refine ns_open F.ns fun oL hL hNs=>?_
  have hLs:c.L < s.heap.objs.size:=Heap.lt_size hL
  have hH0:e.H0.objs.size ≤ s.heap.objs.size:=Nat.le_trans F.above (Nat.le_of_lt hLs)
  have hcad:=cells_gt Y fun n c hm=>x.above n c hm
  let c':Cx:=⟨A'.deeper (envOfC qual scope s.heap.objs.size f cdv),s.heap.objs.size,envOfC qual scope s.heap.objs.size f cdv,(c.L,oL) :: (cl ++ c.fs),(envOfC qual scope s.heap.objs.size f cdv).cells,r - 1⟩
  have ok':CxOk e c' ns' gs':=by
    refine ⟨ok.amb,hk,rfl,rfl,rfl,fun y hy=>?_,hnn,fun y hy=>⟨(hns1 y hy).1.2,(hns1 y hy).2⟩,hcn',fun _ _ z=>z,fun p hp=>?_,?_,?_,?_⟩
    · rcases (hns1 y hy).1.1 with q | q
      · exact .inl q
      · exact .inr ⟨q,cellsFrom_some _ _ _ (.inl q)⟩
    · have:=hgs1 p.1 (List.mem_map_of_mem hp)
      exact ⟨this.1,this.2,hgl p hp⟩
    · show A'.depth + 1 + (r - 1) < recursionLimit
      lia
    · show A'.units + 3 + 8 * (r - 1) < cLine
      lia
    · exact hnd
  have st':St e c' ns' vs0 M I ({ s with heap:=h₁,toks:=tk }):=by
    refine ⟨⟨_,_,cells,⟨x.toInCall.ns,fun b o q=>hk₁ b o (hkeep b o q),hH0⟩,Y,news_frame N NC hk₁ hL F.above hcad,nd_frame nd (fun p hp=>⟨Heap.lt_size (N p hp).1,(N p hp).2.1⟩) hLs (cells_nd Y x.apart) hcad,fun y u hy=>?_⟩,hs.gens,hs.drawn,hs.os⟩
    · rw [hns,hvs] at hy
      have hmem:=atN_binds hy
      have hyn:y ∈ ns':=hns ▸ hy.mem
      rcases (hns1 y hyn).1.1 with q | q
      · exact .inl ⟨q,bindL_at q hbn hmem⟩
      · exact .inr ⟨q,bindC_at (by show scope.names.lookup y ≠ _; rw [q]; intro z; cases z) hbn hmem⟩
  refine wpAny_mono (h c' _ ok' (fun _=>rfl) (Nat.sub_add_cancel hr) st') (fun fl s'' hl=>?_) fun _ _ y=>y.elim
  obtain ⟨vs2,M2,I2,S2,k⟩:=hl
  refine k ?_
  refine S2.open fun m2 cm2 cl2 F2 CA2 N2 nd2 Lc2=>?_
  have B:=nd_back (show ((M2 ++ (I2 ++ (cl2 ++ ((c.L,oL) :: (cl ++ c.fs))))).map (·.1)).Nodup from nd2)
  exact ⟨⟨m,cm,cl,⟨hNs _ (N2 _ led_L).1,F2.keep,F.above⟩,CA,fun p hp=>⟨(N2 p (led_sub p hp)).1,B.1 p hp,(N2 p (led_sub p hp)).2.2⟩,B.2,Lc⟩,S2.gens,S2.drawn,S2.os⟩
theorem zip_fst {ps:List Str} {args:List Value} (h:ps.length = args.length):(ps.zip args).map (·.1) = ps:=List.map_fst_zip (Nat.le_of_eq h)
theorem zip_snd {ps:List Str} {args:List Value} (h:ps.length = args.length):(ps.zip args).map (fun p=>some p.2) = args.map some:=by
  rw [show (fun p:Str × Value=>some p.2) = some ∘ Prod.snd from rfl,← List.map_map,List.map_snd_zip (Nat.le_of_eq h.symm)]
structure FnAt (K:Frag) (f:Addr) (name qual:Str) (params:Arguments) (body:List Stmt) (scope:Scope) (dV kV doc pm cdv ct oc:Value) (an od:Option Addr) (osl:Array (Option Value)) (ps xs gn:List Str):Prop where
  ho:K.lookup f = some ⟨oc,od,.func (fnOf name qual params body scope dV kV doc pm an cdv ct),osl⟩
  hcd:codeIn K cdv qual = true
  hsc:scopeOk scope (ps ++ xs) gn ps = true
theorem call_co {R:Result→Shared→Prop} {A':Around} {r:Nat} {f:Addr} {name qual:Str} {params:Arguments} {body:List Stmt} {scope:Scope} {dV kV doc pm cdv ct oc:Value} {an od:Option Addr} {osl:Array (Option Value)}
    {args:List Value} {ps xs gn:List Str}
    (ok:CxOk e c ns gs) (hs:St e c ns vs M I s) (fa:FnAt e.K f name qual params body scope dV kV doc pm cdv ct oc an od osl ps xs gn) (hdep:A'.depth + r < recursionLimit) (huni:A'.units + 8 * r < cLine) (hnd:A'.handled = none)
    (hl:ps.length = args.length) (hb:BindsTo s (fnOf name qual params body scope dV kV doc pm an cdv ct) ⟨args,[]⟩ (ps.zip args))
    (hns:ns' = ps ++ xs) (hvs:vs0 = args.map some ++ xs.map fun _=>none) (hgn:gs'.map (·.1) = gn)
    (hgl:∀ p ∈ gs',Gl e p.1 p.2) (hr:1 ≤ r)
    (h:∀ c' s',CxOk e c' ns' gs'→(∀ x,c'.env.kindOf x = scope.names.lookup x)→c'.room + 1 = r→St e c' ns' vs0 M I s'→
      wpAny (model e.prog e.w) c'.A (execs body c'.env) (RetF e c' ns' c ns vs fun v s=>R (.ok (.ret v)) s) (fun _ _=>False) s') :
    codeAny (model e.prog e.w) A' (.call (.ref f) ⟨args,[]⟩) R s:=
  call_code xs ok hs hdep huni hnd fa.ho fa.hcd hb (by rw [zip_fst hl]; exact hns) (by rw [zip_snd hl]; exact hvs) (by rw [hns,hgn,zip_fst hl]; exact fa.hsc) hgl hr h
end
end
section
inductive Put (d:Addr) (o o':Obj):Led→Led→Prop
  | head {r}:Put d o o' ((d,o) :: r) ((d,o') :: r)
  | tail {p r r'}:Put d o o' r r'→Put d o o' (p :: r) (p :: r')
inductive Pick (p:Addr × Obj):Led→Led→Prop
  | head {r}:Pick p (p :: r) r
  | tail {q r r'}:Pick p r r'→Pick p (q :: r) (q :: r')
theorem Put.mem {d o o' M M'} (h:Put d o o' M M'):(d,o) ∈ M:=by
  induction h with
  | head=>exact .head _
  | tail _ ih=>exact .tail _ ih
theorem Put.eq {d o o' M M'} (h:Put d o o' M M'):(M.map (·.1)).Nodup→M' = setK d o' M:=by
  induction h with
  | @head r=>
    intro nd
    have:=List.nodup_cons.mp nd
    show _ = (if d = d then (d,o') else (d,o)) :: setK d o' r
    rw [if_pos rfl,setK_off this.1]
  | @tail p r r' h ih=>
    intro nd
    have:=List.nodup_cons.mp nd
    have hne:p.1 ≠ d:=fun q=>this.1 (by show p.1 ∈ _; rw [q]; exact List.mem_map_of_mem (f:=(·.1)) h.mem)
    show _ = (if p.1 = d then (d,o') else p) :: setK d o' r
    rw [if_neg hne,ih this.2]
theorem Pick.perm {p M M'} (h:Pick p M M'):(p :: M').Perm M:=by
  induction h with
  | head=>exact .refl _
  | tail _ ih=>exact (List.Perm.swap _ _ _).trans (ih.cons _)
def Sub (I I':Led):Prop:=∀ p ∈ I,p ∈ I'
theorem Sub.refl {I}:Sub I I:=fun _ h=>h
theorem Sub.trans {I J K} (h:Sub I J) (k:Sub J K):Sub I K:=fun p q=>k p (h p q)
theorem Sub.cons {I J p} (h:Sub I J):Sub I (p :: J):=fun q k=>.tail _ (h q k)
theorem Sub.one {I p}:Sub I (p :: I):=fun _ k=>.tail _ k
section
variable {e:E0} {c:Cx} {ns:List Str} {gs:List (Str × Value)} {vs vs':List (Option Value)} {M M' I I':Led} {s:Shared} {E:Value→Shared→Prop}
theorem St.tok (hs:St e c ns vs M I s) (t:Nat):St e c ns vs M I { s with toks:=t }:=⟨hs.core,hs.gens,hs.drawn,hs.os⟩
theorem St.perm (hs:St e c ns vs M I s) (h:(M ++ I).Perm (M' ++ I')):St e c ns vs M' I' s:=by
  refine hs.open fun m cm cl F CA N nd Lc=>?_
  have hp:(M ++ (I ++ (cl ++ c.fs))).Perm (M' ++ (I' ++ (cl ++ c.fs))):=by
    have:=h.append_right (cl ++ c.fs)
    rwa [List.append_assoc,List.append_assoc] at this
  exact ⟨⟨m,cm,cl,F,CA,fun p q=>N p (hp.mem_iff.mpr q),(hp.map _).nodup_iff.mp nd,Lc⟩,hs.gens,hs.drawn,hs.os⟩
theorem St.freeze {p} (hs:St e c ns vs M I s) (h:Pick p M M'):St e c ns vs M' (p :: I) s:=
  hs.perm ((h.perm.symm.append_right I).trans (List.perm_middle.symm:(p :: (M' ++ I)).Perm _))
theorem St.front {p} (hs:St e c ns vs M I s) (h:Pick p M M'):St e c ns vs (p :: M') I s:=hs.perm (h.perm.symm.append_right I)
theorem St.drop {p} (hs:St e c ns vs M I s) (h:Pick p M M'):St e c ns vs M' I s:=by
  have hs:=hs.front h
  refine hs.open fun m cm cl F CA N nd Lc=>?_
  exact ⟨⟨m,cm,cl,F,CA,fun q hq=>N q (.tail _ hq),(List.nodup_cons.mp nd).2,Lc⟩,hs.gens,hs.drawn,hs.os⟩
theorem St.setAt {d:Addr} {o o':Obj} {h':Heap} {t:Nat} (hs:St e c ns vs M I s) (hp:Put d o o' M M') (hsb:Heap.SameBut d s.heap h') (ho:h'.get? d = some o') :
    St e c ns vs M' I { s with heap:=h',toks:=t }:=by
  refine hs.open fun m cm cl F CA N nd Lc=>?_
  have hmem:(d,o) ∈ M ++ (I ++ (cl ++ c.fs)):=List.mem_append.mpr (.inl hp.mem)
  have hd:=N _ hmem
  have N':=news_setK N hsb ho
  have nd1:=nd
  rw [List.map_append] at nd1
  obtain ⟨n1,n2,n3⟩:=List.nodup_append.mp nd1
  have hk:d ∈ M.map (·.1):=List.mem_map_of_mem (f:=(·.1)) hp.mem
  have off:d ∉ (I ++ (cl ++ c.fs)).map (·.1):=fun q=>n3 d hk d q rfl
  have e1:setK d o' (M ++ (I ++ (cl ++ c.fs))) = M' ++ (I ++ (cl ++ c.fs)):=by
    rw [setK_append,setK_off off,← hp.eq n1]
  rw [e1] at N'
  refine ⟨⟨m,cm,cl,F.change hsb hd.2.1 hd.2.2,CA,N',?_,Lc⟩,hs.gens,hs.drawn,hs.os⟩
  rw [← e1,setK_keys]; exact nd
theorem St.has {d:Addr} {o:Obj} (hs:St e c ns vs M I s) (h:(d,o) ∈ M):s.heap.get? d = some o:=by
  refine hs.open fun m cm cl F CA N nd Lc=>?_
  exact (N _ (List.mem_append.mpr (.inl h))).1
theorem St.hasI {d:Addr} {o:Obj} (hs:St e c ns vs M I s) (h:(d,o) ∈ I):s.heap.get? d = some o:=by
  refine hs.open fun m cm cl F CA N nd Lc=>?_
  exact (N _ (List.mem_append.mpr (.inr (List.mem_append.mpr (.inl h))))).1
theorem St.keep (hs:St e c ns vs M I s):∀ b o,e.H0.get? b = some o→s.heap.get? b = some o:=by
  refine hs.open fun m cm cl F CA N nd Lc=>?_
  exact F.keep
theorem St.kin (hs:St e c ns vs M I s) (a:Amb e):e.K.In s.heap:=a.kin.keeps hs.keep
theorem St.new {m cm:Str→Option Value} {cl:Led} {l:Addr} {o:Obj} {h':Heap} {t:Nat} (hs:St e c ns vs M I s)
    (CA:CellsAre cm c.own cl) (nd:((M ++ (I ++ (cl ++ c.fs))).map (·.1)).Nodup) (Lc:Locs c.env m cm ns vs)
    (F':Fr e.H0 c.L h' m) (N':News e.H0 c.L h' ((l,o) :: (M ++ (I ++ (cl ++ c.fs))))) (lt:∀ p ∈ M ++ (I ++ (cl ++ c.fs)),p.1 < l) :
    St e c ns vs ((l,o) :: M) I { s with heap:=h',toks:=t }:=by
  refine ⟨⟨m,cm,cl,F',CA,N',List.nodup_cons.mpr ⟨fun q=>?_,nd⟩,Lc⟩,hs.gens,hs.drawn,hs.os⟩
  obtain ⟨p,hp,hq⟩:=List.mem_map.mp q
  exact absurd (lt p hp) (by rw [show p.1 = l from hq]; exact Nat.lt_irrefl _)
theorem St.push {o:Obj} (hs:St e c ns vs M I s) (hf:o.isFreed = false) (t:Nat):St e c ns vs ((s.heap.objs.size,o) :: M) I { s with heap:=s.heap.push o,toks:=t }:=by
  refine hs.open fun m cm cl F CA N nd Lc=>?_
  exact hs.new CA nd Lc (F.push o) (N.push F o hf) fun p hp=>Heap.lt_size (N p hp).1
theorem St.pushI {o:Obj} (hs:St e c ns vs M I s) (hf:o.isFreed = false) (t:Nat):St e c ns vs M ((s.heap.objs.size,o) :: I) { s with heap:=s.heap.push o,toks:=t }:=
  (hs.push hf t).freeze .head
theorem const_int {i:Int} {k:Nat} {pos:Pos} {Q:Value→Shared→Prop} (hs:St e c ns vs M I s) (h:∀ t s',St e c ns vs M I s'→Q (.int i t) s') :
    wpAny (model e.prog e.w) c.A (eval (.Constant (.int i) k pos) c.env) Q E s:=wpAny_mkInt (h _ _ (hs.tok _))
theorem const_str {x:Str} {k:Nat} {pos:Pos} {Q:Value→Shared→Prop} (hs:St e c ns vs M I s) (h:∀ t s',St e c ns vs M I s'→Q (.str x t) s') :
    wpAny (model e.prog e.w) c.A (eval (.Constant (.str x) k pos) c.env) Q E s:=wpAny_mkText (h _ _ (hs.tok _))
theorem const_none {k:Nat} {pos:Pos} {Q:Value→Shared→Prop} (h:Q .none s):wpAny (model e.prog e.w) c.A (eval (.Constant .none k pos) c.env) Q E s:=wpAny_pure h
theorem const_bool {b:Bool} {k:Nat} {pos:Pos} {Q:Value→Shared→Prop} (h:Q (.bool b) s):wpAny (model e.prog e.w) c.A (eval (.Constant (.bool b) k pos) c.env) Q E s:=wpAny_pure h
abbrev listO (vs:List Value) (n:Nat):Obj:={ cls:=.type "list",data:=.seq vs.toArray n }
abbrev tupO (vs:List Value) (n:Nat):Obj:={ cls:=.type "tuple",data:=.seq vs.toArray n }
abbrev dictO (es:List DictEntry) (n:Nat):Obj:={ cls:=.type "dict",data:=.dict es.toArray n }
theorem new_list {xs:List Value} {Q:Value→Shared→Prop} (hs:St e c ns vs M I s) (hsz:xs.length ≤ sizeLine) (h:∀ a s',St e c ns vs ((a,listO xs 0) :: M) I s'→Q (.ref a) s') :
    wpAny (model e.prog e.w) c.A (newList xs) Q E s:=
  wpAny_newObj_type (h _ _ (hs.push rfl s.toks)) (by show xs.toArray.size ≤ sizeLine; rw [List.size_toArray]; exact hsz)
theorem new_tuple {xs:List Value} {Q:Value→Shared→Prop} (hs:St e c ns vs M I s) (hsz:xs.length ≤ sizeLine) (h:∀ a s',St e c ns vs M ((a,tupO xs 0) :: I) s'→Q (.ref a) s') :
    wpAny (model e.prog e.w) c.A (newTuple xs) Q E s:=
  wpAny_newObj_type (h _ _ (hs.pushI rfl s.toks)) (by show xs.toArray.size ≤ sizeLine; rw [List.size_toArray]; exact hsz)
theorem list_append {d:Addr} {xs:List Value} {n:Nat} {x:Value} {Q:Value→Shared→Prop} (hs:St e c ns vs M I s) (hp:Put d (listO xs n) (listO (xs ++ [x]) (n + 1)) M M') (hsz:xs.length ≤ sizeLine)
    (h:∀ s',St e c ns vs M' I s'→Q .none s'):wpAny (model e.prog e.w) c.A (call (.builtin "list.append") [.ref d,x]) Q E s:=by
  have hd:=hs.has hp.mem
  refine append_at (its:=xs.toArray) (n:=n) (hsz:=by rw [List.size_toArray]; exact hsz) hd fun h' hsb ho'=>h _ (hs.setAt (t:=s.toks) hp hsb ?_)
  rw [ho']; simp
end
end
section
def NB:Value→Prop
  | .builtin _=>False
  | _=>True
theorem NB.handed {v:Value} (h:NB v):handedIn v = true:=by
  cases v <;> first | rfl | cases h
inductive Flds:List DictEntry→List (Str × Value)→Prop
  | nil:Flds [] []
  | cons {h k t v es fs}:Flds es fs→Flds (⟨h,.str k t,v⟩ :: es) ((k,v) :: fs)
noncomputable def lookS (name:Str):List (Str × Value)→Option Value
  | []=>none
  | (k,v) :: r=>if k == name then some v else lookS name r
noncomputable def putF (name:Str) (v:Value):List (Str × Value)→List (Str × Value)
  | []=>[(name,v)]
  | (k,u) :: r=>if k == name then (k,v) :: r else (k,u) :: putF name v r
theorem Flds.length {es fs} (h:Flds es fs):es.length = fs.length:=by
  induction h with
  | nil=>rfl
  | cons _ ih=>simp [ih]
theorem putF_length (name v):∀ fs,(putF name v fs).length ≤ fs.length + 1
  | []=>Nat.le_refl _
  | (k,u) :: r=>by
    unfold putF
    split
    · simp
    · have:=putF_length name v r
      simp only [List.length_cons]; lia
theorem Flds.noref {es fs} (h:Flds es fs):es.any (·.refKey) = false:=by
  induction h with
  | nil=>rfl
  | cons _ ih=>rw [List.any_cons,ih]; rfl
theorem Flds.getL {es fs} (h:Flds es fs) (name:Str):PySem.W.getL name es = some (lookS name fs):=by
  have key:∀ {es fs},Flds es fs→es.find? (·.key.isStr name) = none∧lookS name fs = none∨∃ d,es.find? (·.key.isStr name) = some d∧lookS name fs = some d.val:=by
    intro es fs h
    induction h with
    | nil=>exact .inl ⟨rfl,rfl⟩
    | @cons hh k t v es fs _ ih=>
      have e1:(Value.str k t).isStr name = (k == name):=rfl
      rw [List.find?_cons]
      dsimp only
      rw [e1]
      unfold lookS
      cases hb:k == name with
      | true=>exact .inr ⟨_,rfl,by simp⟩
      | false=>simpa using ih
  unfold PySem.W.getL
  rcases key h with ⟨h1,h2⟩ | ⟨d,h1,h2⟩
  · rw [h1,h2,h.noref]; rfl
  · rw [h1,h2]
theorem Flds.put {es fs} (h:Flds es fs) (name:Str) (hsh:Int) (t:Tok) (v:Value):Flds (putL name hsh (.str name t) v es) (putF name v fs):=by
  induction h with
  | nil=>exact .cons .nil
  | @cons hh k t' u es fs r ih=>
    have e1:(Value.str k t').isStr name = (k == name):=rfl
    unfold putL putF
    dsimp only
    rw [e1]
    cases hb:k == name with
    | true=>simpa using Flds.cons r
    | false=>simpa using Flds.cons ih
def Ins (I:Led) (v:Value) (C:Addr) (fs:List (Str × Value)):Prop:=
  ∃ x dx es n,v = .ref x∧(x,instObj C dx) ∈ I∧(dx,dictO es n) ∈ I∧Flds es fs
theorem Ins.mono {I I' v C fs} (h:Ins I v C fs) (k:Sub I I'):Ins I' v C fs:=by
  obtain ⟨x,dx,es,n,h1,h2,h3,h4⟩:=h
  exact ⟨x,dx,es,n,h1,k _ h2,k _ h3,h4⟩
theorem upd_of_put {d o o' M M'} {R:Led} (h:Put d o o' M M') (nd:((M ++ R).map (·.1)).Nodup):Upd d o o' (M ++ R) (M' ++ R):=by
  induction h with
  | @head r=>
    refine .head fun p hp=>?_
    have:=(List.nodup_cons.mp nd).1
    exact fun q=>this (by show d ∈ _; rw [← q]; exact List.mem_map_of_mem (f:=(·.1)) hp)
  | @tail p r r' h ih=>
    have:=List.nodup_cons.mp nd
    refine .tail (fun q=>this.1 ?_) (ih this.2)
    show p.1 ∈ _
    rw [q]
    exact List.mem_map_of_mem (f:=(·.1)) (List.mem_append.mpr (.inl h.mem))
section
variable {e:E0} {c:Cx} {ns:List Str} {gs:List (Str × Value)} {vs vs':List (Option Value)} {M M' I I':Led} {s:Shared} {E:Value→Shared→Prop}
theorem inst_I {x dx C:Addr} {es:List DictEntry} {n:Nat} (hs:St e c ns vs M I s) (h1:(x,instObj C dx) ∈ I) (h2:(dx,dictO es n) ∈ I):InstAt s.heap x (instObj C dx) C (some (dictO es n)):=
  ⟨hs.hasI h1,rfl,rfl,hs.hasI h2⟩
theorem inst_M {x dx C:Addr} {es:List DictEntry} {n:Nat} (hs:St e c ns vs M I s) (h1:(x,instObj C dx) ∈ M) (h2:(dx,dictO es n) ∈ M):InstAt s.heap x (instObj C dx) C (some (dictO es n)):=
  ⟨hs.has h1,rfl,rfl,hs.has h2⟩
theorem get_at {x C:Addr} {ox:Obj} {es:List DictEntry} {n:Nat} {fs:List (Str × Value)} {name:Str} {u:Value} {b:Bool} {Q:Value→Shared→Prop} (ok:CxOk e c ns gs) (hs:St e c ns vs M I s)
    (Ix:InstAt s.heap x ox C (some (dictO es n))) (hf:Flds es fs) (hc:ClsGet e.K C name) (hl:lookS name fs = some u) (hu:NB u) (k:∀ s',St e c ns vs M I s'→Q u s') :
    wpAny (model e.prog e.w) c.A (getAttr (.ref x) name b) Q E s:=by
  refine hs.open fun m cm cl F CA N nd Lc=>?_
  obtain ⟨a,ha,hn⟩:=hc.attr
  exact get_own F ok.amb.kin Ix hc.get hc.dict ha hn (by rw [hf.getL,hl]) hu.handed (k _ (hs.tok _))
theorem get_ins {v:Value} {C:Addr} {fs:List (Str × Value)} {name:Str} {u:Value} {b:Bool} {Q:Value→Shared→Prop} (ok:CxOk e c ns gs) (hs:St e c ns vs M I s) (h:Ins I v C fs)
    (hc:ClsGet e.K C name) (hl:lookS name fs = some u) (hu:NB u) (k:∀ s',St e c ns vs M I s'→Q u s') :
    wpAny (model e.prog e.w) c.A (getAttr v name b) Q E s:=by
  obtain ⟨x,dx,es,n,rfl,h1,h2,h3⟩:=h
  exact get_at ok hs (inst_I hs h1 h2) h3 hc hl hu k
theorem set_at {x dx C:Addr} {es:List DictEntry} {n:Nat} {fs:List (Str × Value)} {name:Str} {u:Value} {Q:Unit→Shared→Prop} {Mf:Obj→Led} (ok:CxOk e c ns gs) (hs:St e c ns vs M I s)
    (h1:(x,instObj C dx) ∈ M) (hp:∀ o',Put dx (dictO es n) o' M (Mf o')) (hf:Flds es fs) (hc:ClsSet e.K C name) (hz:fs.length ≤ 900)
    (k:∀ es' n' s',Flds es' (putF name u fs)→St e c ns vs (Mf (dictO es' n')) I s'→Q () s') :
    wpAny (model e.prog e.w) c.A (setAttr (.ref x) name u) Q E s:=by
  refine hs.open fun m cm cl F CA N nd Lc=>?_
  have hp':=hp (dictO (putL name (PyData.keyHash e.w.params name) (.str name (s.toks + 1)) u es) (putN name es n))
  have nd1:=nd
  rw [List.map_append] at nd1
  have n1:=(List.nodup_append.mp nd1).1
  refine set_dict F ok.amb.kin N (inst_M hs h1 hp'.mem) rfl hc.set hc.over hc.taker hc.dict (by rw [hf.getL]; rfl) rfl (upd_of_put hp' nd) ?_ fun h' F' N'=>k _ _ _ (hf.put name _ _ u) ⟨⟨m,cm,cl,F',CA,N',?_,Lc⟩,hs.gens,hs.drawn,hs.os⟩
  · rw [(hf.put name _ _ u).length]
    have:=putF_length name u fs
    lia
  · rw [List.map_append,hp'.eq n1,setK_keys,← List.map_append]; exact nd
theorem meth_at {x C f:Addr} {ox:Obj} {es:List DictEntry} {n:Nat} {fs:List (Str × Value)} {name:Str} {pl:Sem Bool} {Q:Value × List Value→Shared→Prop} (ok:CxOk e c ns gs) (hs:St e c ns vs M I s)
    (Ix:InstAt s.heap x ox C (some (dictO es n))) (hf:Flds es fs) (hc:ClsMeth e.K C name f) (hl:lookS name fs = none) (k:Q (.ref f,[.ref x]) s) :
    wpAny (model e.prog e.w) c.A (getMethod (.ref x) name pl) Q E s:=by
  refine hs.open fun m cm cl F CA N nd Lc=>?_
  exact method_inst F ok.amb.kin Ix hc.get hc.find hc.fn (by rw [hf.getL,hl]) k
theorem meth_ins {v:Value} {C f:Addr} {fs:List (Str × Value)} {name:Str} {pl:Sem Bool} {Q:Value × List Value→Shared→Prop} (ok:CxOk e c ns gs) (hs:St e c ns vs M I s) (h:Ins I v C fs)
    (hc:ClsMeth e.K C name f) (hl:lookS name fs = none) (k:Q (.ref f,[v]) s) :
    wpAny (model e.prog e.w) c.A (getMethod v name pl) Q E s:=by
  obtain ⟨x,dx,es,n,rfl,h1,h2,h3⟩:=h
  exact meth_at ok hs (inst_I hs h1 h2) h3 hc hl k
theorem isi_ins {v:Value} {C:Addr} {t:Value} {b:Bool} {fs:List (Str × Value)} {Q:Value→Shared→Prop} (ok:CxOk e c ns gs) (hs:St e c ns vs M I s) (h:Ins I v C fs) (hc:ClsIs e.K C)
    (hk:kitOne e.K (.ref C) t = some b) (k:∀ s',St e c ns vs M I s'→Q (.bool b) s') :
    wpAny (model e.prog e.w) c.A (call (.builtin "isinstance") [v,t]) Q E s:=by
  obtain ⟨x,dx,es,n,rfl,h1,h2,h3⟩:=h
  exact kia_one (kitx_own hc.hg hc.hdct hc.ha hc.hn hc.htk hc.hm) (hs.kin ok.amb) (inst_I hs h1 h2) hk (by intro q; cases q) fun tk=>k _ (hs.tok _)
theorem isi_tup {v:Value} {C tp:Addr} {ts:List Value} {b:Bool} {n:Nat} {fs:List (Str × Value)} {Q:Value→Shared→Prop} (ok:CxOk e c ns gs) (hs:St e c ns vs M I s) (h:Ins I v C fs) (hc:ClsIs e.K C)
    (ht:(tp,tupO ts n) ∈ I) (hk:kitAny e.K (.ref C) ts = some b) (k:∀ s',St e c ns vs M I s'→Q (.bool b) s') :
    wpAny (model e.prog e.w) c.A (call (.builtin "isinstance") [v,.ref tp]) Q E s:=by
  obtain ⟨x,dx,es,n,rfl,h1,h2,h3⟩:=h
  exact kia_tup (kitx_own hc.hg hc.hdct hc.ha hc.hn hc.htk hc.hm) (hs.kin ok.amb) (inst_I hs h1 h2) (hs.hasI ht) hk (by intro q; cases q) fun tk=>k _ (hs.tok _)
theorem mk_cls {C fI:Addr} {args:List Value} {Q:Value→Shared→Prop} (ok:CxOk e c ns gs) (hs:St e c ns vs M I s) (hc:ClsMake e.K C fI)
    (h:∀ x dx s',St e c ns vs ((x,instObj C dx) :: (dx,dictO [] 0) :: M) I s'→
      codeAny (model e.prog e.w) (c.A.under (.builtin "type.__call__" ⟨.ref C :: args,[]⟩)) (.call (.ref fI) ⟨.ref x :: args,[]⟩) (InitBack x fun r s'=>match r with | .ok (.ret v)=>Q v s' | .ok _=>False | .error ex=>E ex s') s') :
    wpAny (model e.prog e.w) c.A (call (.ref C) args) Q E s:=by
  refine hs.open fun m cm cl F CA N nd Lc=>?_
  refine call_cls F ok.amb.kin N hc.make hc.init hc.fn fun x dx h' F' N' l1 l2=>h x dx _ ?_
  have nd2:(((dx,dictO [] 0) :: (M ++ (I ++ (cl ++ c.fs)))).map (·.1)).Nodup:=List.nodup_cons.mpr ⟨fun q=>by
    obtain ⟨p,hp,hq⟩:=List.mem_map.mp q
    exact absurd (l1 p hp) (by rw [show p.1 = dx from hq]; exact Nat.lt_irrefl _),nd⟩
  refine ⟨⟨m,cm,cl,F',CA,N',List.nodup_cons.mpr ⟨fun q=>?_,nd2⟩,Lc⟩,hs.gens,hs.drawn,hs.os⟩
  obtain ⟨p,hp,hq⟩:=List.mem_map.mp q
  rcases List.mem_cons.mp hp with rfl | hp
  · exact absurd l2 (by rw [show dx = x from hq]; exact Nat.lt_irrefl _)
  · exact absurd (Nat.lt_trans (l1 p hp) l2) (by rw [show p.1 = x from hq]; exact Nat.lt_irrefl _)
end
end
section
def seqK (M:Model) (A:Around) (rest:List Stmt) (env:Env) (Q:Flow→Shared→Prop) (E:Value→Shared→Prop) (f:Flow) (s:Shared):Prop:=
  match f with
  | .next=>wpAny M A (execs rest env) Q E s
  | f=>Q f s
def iteK {α:Type} (M:Model) (A:Around) (a b:Sem α) (Q:α→Shared→Prop) (E:Value→Shared→Prop) (t:Bool) (s:Shared):Prop:=
  if t = true then wpAny M A a Q E s else wpAny M A b Q E s
def argK (e:E0) (c:Cx) (f:Value) (first:List Value) (Q:Value→Shared→Prop) (E:Value→Shared→Prop) (vs:List Value) (s:Shared):Prop:=
  e.K.In s.heap∧wpAny (model e.prog e.w) c.A (call f (first ++ vs)) Q E s
def Kp (e:E0) (f:Value):Prop:=∀ h,e.K.In h→∃ k,(k = Keeper.frame∨k = Keeper.machine∨k = Keeper.boundFrame)∧Looks (model e.prog e.w) h (keeperOf f) k
theorem kp_K {e:E0} {f:Value} (h:keepIn e.K f = true):Kp e f:=fun hh X=>keeps_K h hh X
theorem kp_b {e:E0} {id:String}:Kp e (.builtin id):=fun _ _=>⟨.machine,.inr (.inl rfl),Looks.of_pure rfl⟩
theorem kp_t {e:E0} {id:String}:Kp e (.type id):=fun _ _=>⟨.machine,.inr (.inl rfl),Looks.of_pure rfl⟩
section
variable {M:Model} {A:Around} {E:Value→Shared→Prop} {s:Shared} {env:Env}
theorem g_cons {st rest} {Q:Flow→Shared→Prop} (h:wpAny M A (exec st env) (seqK M A rest env Q E) E s):wpAny M A (execs (st :: rest) env) Q E s:=
  wpAny_execs_cons (wpAny_mono h (fun f s' k=>by cases f <;> exact k) fun _ _ x=>x)
theorem g_nil {Q:Flow→Shared→Prop} (h:Q .next s):wpAny M A (execs [] env) Q E s:=wpAny_execs_nil h
theorem g_next {rest} {Q:Flow→Shared→Prop} (h:wpAny M A (execs rest env) Q E s):seqK M A rest env Q E .next s:=h
theorem g_ret {rest v} {Q:Flow→Shared→Prop} (h:Q (.ret v) s):seqK M A rest env Q E (.ret v) s:=h
theorem g_cont {rest} {Q:Flow→Shared→Prop} (h:Q .cont s):seqK M A rest env Q E .cont s:=h
theorem g_ite {α:Type} {a b:Sem α} {Q:α→Shared→Prop} {t:Bool} (h1:t = true→wpAny M A a Q E s) (h2:t = false→wpAny M A b Q E s):iteK M A a b Q E t s:=by
  cases t
  · exact h2 rfl
  · exact h1 rfl
theorem g_If {test body orelse pos} {Q:Flow→Shared→Prop} (h:wpAny M A (isTrue test env (eval test env)) (iteK M A (execs body env) (execs orelse env) Q E) E s) :
    wpAny M A (exec (.If test body orelse pos) env) Q E s:=wpAny_If (wpAny_mono h (fun b s' k=>by cases b <;> exact k) fun _ _ x=>x)
theorem g_IfExp {test body orelse pos} {Q:Value→Shared→Prop} (h:wpAny M A (isTrue test env (eval test env)) (iteK M A (eval body env) (eval orelse env) Q E) E s) :
    wpAny M A (eval (.IfExp test body orelse pos) env) Q E s:=wpAny_IfExp (wpAny_mono h (fun b s' k=>by cases b <;> exact k) fun _ _ x=>x)
theorem g_Return {x pos} {Q:Flow→Shared→Prop} (h:wpAny M A (eval x env) (fun v=>Q (.ret v)) E s):wpAny M A (exec (.Return (some x) pos) env) Q E s:=
  wpAny_bind (wpAny_standAt (wpAny_bind (wpAny_mono h (fun _ _ k=>wpAny_pure k) fun _ _ x=>x)))
theorem g_Continue {pos} {Q:Flow→Shared→Prop} (h:Q .cont s):wpAny M A (exec (.Continue pos) env) Q E s:=fun _ _ _=>h
theorem t_plain {x:PySem.Expr} {whole:Sem Value} {Q:Bool→Shared→Prop} (h:wpAny M A whole (fun v s₁=>wpAny M A (truthy v) Q E s₁) E s)
    (he:isTrue x env whole = (do let v ← whole; standAt x.pos; holding [v] (truthy v)):=by rfl):wpAny M A (isTrue x env whole) Q E s:=isTrue_plain h he
theorem t_bool {b:Bool} {Q:Bool→Shared→Prop} (h:Q b s):wpAny M A (truthy (.bool b)) Q E s:=fun _ _ _=>h
theorem t_and {x rest pos whole} {Q:Bool→Shared→Prop} (h:wpAny M A (isTrue x env (eval x env)) (iteK M A (allTrue .And rest env) (pure false) Q E) E s) :
    wpAny M A (isTrue (.BoolOp .And (x :: rest) pos) env whole) Q E s:=by
  show wpAny M A (do
    match BoolOp.And,← isTrue x env (eval x env) with
    | .And,false=>pure false
    | .Or,true=>pure true
    | _,_=>allTrue .And rest env) Q E s
  exact wpAny_bind (wpAny_mono h (fun b s' k=>by cases b <;> exact k) fun _ _ x=>x)
theorem t_or {x rest pos whole} {Q:Bool→Shared→Prop} (h:wpAny M A (isTrue x env (eval x env)) (iteK M A (pure true) (allTrue .Or rest env) Q E) E s) :
    wpAny M A (isTrue (.BoolOp .Or (x :: rest) pos) env whole) Q E s:=by
  show wpAny M A (do
    match BoolOp.Or,← isTrue x env (eval x env) with
    | .And,false=>pure false
    | .Or,true=>pure true
    | _,_=>allTrue .Or rest env) Q E s
  exact wpAny_bind (wpAny_mono h (fun b s' k=>by cases b <;> exact k) fun _ _ x=>x)
theorem t_and1 {x rest} {Q:Bool→Shared→Prop} (h:wpAny M A (isTrue x env (eval x env)) (iteK M A (allTrue .And rest env) (pure false) Q E) E s):wpAny M A (allTrue .And (x :: rest) env) Q E s:=by
  show wpAny M A (do
    match BoolOp.And,← isTrue x env (eval x env) with
    | .And,false=>pure false
    | .Or,true=>pure true
    | _,_=>allTrue .And rest env) Q E s
  exact wpAny_bind (wpAny_mono h (fun b s' k=>by cases b <;> exact k) fun _ _ x=>x)
theorem t_or1 {x rest} {Q:Bool→Shared→Prop} (h:wpAny M A (isTrue x env (eval x env)) (iteK M A (pure true) (allTrue .Or rest env) Q E) E s):wpAny M A (allTrue .Or (x :: rest) env) Q E s:=by
  show wpAny M A (do
    match BoolOp.Or,← isTrue x env (eval x env) with
    | .And,false=>pure false
    | .Or,true=>pure true
    | _,_=>allTrue .Or rest env) Q E s
  exact wpAny_bind (wpAny_mono h (fun b s' k=>by cases b <;> exact k) fun _ _ x=>x)
theorem t_and0 {Q:Bool→Shared→Prop} (h:Q true s):wpAny M A (allTrue .And [] env) Q E s:=fun _ _ _=>h
theorem t_or0 {Q:Bool→Shared→Prop} (h:Q false s):wpAny M A (allTrue .Or [] env) Q E s:=fun _ _ _=>h
theorem t_pure {b:Bool} {Q:Bool→Shared→Prop} (h:Q b s):wpAny M A (pure b) Q E s:=fun _ _ _=>h
theorem t_cmp {l op r pos whole} {Q:Bool→Shared→Prop} (h:wpAny M A (eval l env) (fun a s₁=>wpAny M A (eval r env) (fun b s₂=>wpAny M A (compareOp op a b) (fun c s₃=>wpAny M A (truthy c) Q E s₃) E s₂) E s₁) E s)
    (hm:behindInMarks op r = false:=by with_unfolding_all rfl):wpAny M A (isTrue (.Compare l [op] [r] pos) env whole) Q E s:=wpAny_isTrue_Compare1 h hm
theorem g_cmp {l op r pos} {Q:Value→Shared→Prop} (h:wpAny M A (eval l env) (fun a s₁=>wpAny M A (eval r env) (fun b s₂=>wpAny M A (compareOp op a b) Q E s₂) E s₁) E s)
    (hm:behindInMarks op r = false:=by with_unfolding_all rfl):wpAny M A (eval (.Compare l [op] [r] pos) env) Q E s:=wpAny_Compare1 h hm
theorem g_bin {l op r pos} {Q:Value→Shared→Prop} (h:wpAny M A (eval l env) (fun a s₁=>wpAny M A (eval r env) (fun b s₂=>wpAny M A (binaryOp op a b) Q E s₂) E s₁) E s) :
    wpAny M A (eval (.BinOp l op r pos) env) Q E s:=wpAny_BinOp h
theorem spl_nil {pos:Pos} {Q:List Value→Shared→Prop} (h:Q [] s):wpAny M A (spliced (backTo pos (starEach [] env))) Q E s:=spliced_nil h
theorem spl_cons {pos:Pos} {a:PySem.Expr} {rest:List PySem.Expr} {Q:List Value→Shared→Prop}
    (h:wpAny M A (eval a env) (fun v s₁=>wpAny M A (spliced (backTo pos (starEach rest env))) (fun vs s₂=>Q (v :: vs) s₂) E s₁) E s)
    (he:starEach (a :: rest) env = (false,eval a env) :: starEach rest env:=by rfl):wpAny M A (spliced (backTo pos (starEach (a :: rest) env))) Q E s:=by
  rw [he]; exact spliced_cons h
theorem g_List {elts:List PySem.Expr} {pos:Pos} {Q:Value→Shared→Prop}
    (h:wpAny M A (spliced (backTo pos (starEach elts env))) (fun vs s₁=>wpAny M A (newList vs) Q E s₁) E s):wpAny M A (eval (.List elts pos) env) Q E s:=List_ h
theorem g_Tuple {elts:List PySem.Expr} {k:Nat} {pos:Pos} {Q:Value→Shared→Prop}
    (h:wpAny M A (spliced (backTo pos (starEach elts env))) (fun vs s₁=>wpAny M A (newTuple vs) Q E s₁) E s):wpAny M A (eval (.Tuple elts k pos) env) Q E s:=Tuple_ h
theorem g_Assign {x pos' value pos} {Q:Flow→Shared→Prop} (h:wpAny M A (eval value env) (fun v s₁=>wpAny M A (storeName env x v) (fun _=>Q .next) E s₁) E s)
    (hs:swapsWith value (some (.Name x pos')) pos.line env = pure false:=by rfl):wpAny M A (exec (.Assign [.Name x pos'] value pos) env) Q E s:=wpAny_Assign_Name h hs
end
section
variable {e:E0} {c:Cx} {ns:List Str} {gs:List (Str × Value)} {vs vs':List (Option Value)} {M M' I I':Led} {s:Shared} {E:Value→Shared→Prop}
theorem callWith_kp {P:Pos} {f:Value} {first:List Value} {args:List PySem.Expr} {Q:Value→Shared→Prop} (hk:Kp e f)
    (h:wpAny (model e.prog e.w) c.A (spliced (backTo P (starEach args c.env))) (argK e c f first Q E) E s)
    (hp:(backTo P (starEach args c.env)).any (·.1) = false:=by rfl) (hn:args ≠ []:=by intro z; cases z) (ha:∀ a r,args = a :: r→starEach args c.env = (false,eval a c.env) :: starEach r c.env:=by intro a r z; cases z; rfl) :
    wpAny (model e.prog e.w) c.A (callWith P f first (backTo P (starEach args c.env)) []) Q E s:=by
  refine callWith_of (P:=fun h=>e.K.In h) (by rw [hp]; rfl) hk ?_
  cases args with
  | nil=>exact absurd rfl hn
  | cons a r=>
    rw [ha a r rfl] at h ⊢
    exact evalArgs_plain h
theorem callWith_kp0 {P:Pos} {f:Value} {first:List Value} {Q:Value→Shared→Prop} (hk:Kp e f)
    (h:argK e c f first Q E [] s):wpAny (model e.prog e.w) c.A (callWith P f first (backTo P (starEach [] c.env)) []) Q E s:=
  callWith_of (P:=fun h=>e.K.In h) rfl hk (evalArgs_nil3 h)
theorem call_m {o:PySem.Expr} {name:Str} {apos pos:Pos} {args:List PySem.Expr} {Q:Value→Shared→Prop}
    (h:wpAny (model e.prog e.w) c.A (eval o c.env) (fun ov s₁=>wpAny (model e.prog e.w) c.A (getMethod ov name (do return (← importBound o c.env).getD true)) (fun p s₂=>wpAny (model e.prog e.w) c.A (callWith pos p.1 p.2 (backTo pos (starEach args c.env)) []) Q E s₂) E s₁) E s)
    (hbase:attributeBase o name c.env (eval o c.env) = eval o c.env:=by rfl)
    (hfew:methodCallForm (args.length + 0) (backTo pos (starEach args c.env)) (backToKw pos (keywordEach [] c.env)) = true:=by rfl)
    (hline:(apos.endLine == pos.line) = true:=by rfl):wpAny (model e.prog e.w) c.A (eval (.Call (.Attribute o name apos) args [] pos) c.env) Q E s:=by
  show wpAny _ _ (do
    let ov ← attributeBase o name c.env (eval o c.env)
    standAt apos.atName
    methodCall o name apos pos c.env ov (args.length + 0) (backTo pos (starEach args c.env)) (backToKw pos (keywordEach [] c.env))) Q E s
  rw [hbase]
  refine wpAny_bind (wpAny_mono h (fun ov s₁ h₁=>wpAny_bind (wpAny_standAt ?_)) fun _ _ x=>x)
  unfold methodCall
  rw [hfew]
  simp only [calleeOf,methodCallPos,if_true]
  refine wpAny_bind (wpAny_holding (wpAny_mono h₁ (fun p s₂ h₂=>?_) fun _ _ x=>x))
  obtain ⟨f,first⟩:=p
  simp only [hline,Bool.not_true,Bool.false_or,if_true]
  exact wpAny_bind (wpAny_pure h₂)
theorem exec_expr {x:PySem.Expr} {pos:Pos} {Q:Flow→Shared→Prop} (ok:CxOk e c ns gs) (h:wpAny (model e.prog e.w) c.A (eval x c.env) (fun _=>Q .next) E s)
    (hsw:swapsWith x none pos.line c.env = pure false:=by rfl):wpAny (model e.prog e.w) c.A (exec (.Expr x pos) c.env) Q E s:=
  wpAny_Expr_any h (by unfold interactive; rw [ok.kf]; rfl) hsw
section
variable {a b:Int} {t u:Tok} {Q:Value→Shared→Prop}
theorem i_add (hs:St e c ns vs M I s) (k:∀ t s',St e c ns vs M I s'→Q (.int (a + b) t) s'):wpAny (model e.prog e.w) c.A (binaryOp .Add (.int a t) (.int b u)) Q E s:=P.add_int (k _ _ (hs.tok _))
theorem i_sub (hs:St e c ns vs M I s) (k:∀ t s',St e c ns vs M I s'→Q (.int (a - b) t) s'):wpAny (model e.prog e.w) c.A (binaryOp .Sub (.int a t) (.int b u)) Q E s:=P.sub_int (k _ _ (hs.tok _))
theorem i_mul (hs:St e c ns vs M I s) (hm:IntMulOk a b) (k:∀ t s',St e c ns vs M I s'→Q (.int (a * b) t) s'):wpAny (model e.prog e.w) c.A (binaryOp .Mult (.int a t) (.int b u)) Q E s:=P.mul_int (k _ _ (hs.tok _)) hm
theorem i_mod (hs:St e c ns vs M I s) (hb:b ≠ 0) (k:∀ t s',St e c ns vs M I s'→Q (.int (a.fmod b) t) s'):wpAny (model e.prog e.w) c.A (binaryOp .Mod (.int a t) (.int b u)) Q E s:=mod_int' hb (k _ _ (hs.tok _))
theorem i_aug (hs:St e c ns vs M I s) (k:∀ t s',St e c ns vs M I s'→Q (.int (a + b) t) s'):wpAny (model e.prog e.w) c.A (inplaceOp .Add (.int a t) (.int b u)) Q E s:=P.iadd_int (k _ _ (hs.tok _))
theorem c_eq (k:Q (.bool (a == b)) s):wpAny (model e.prog e.w) c.A (compareOp .Eq (.int a t) (.int b u)) Q E s:=P.eq_int k
theorem c_ne (k:Q (.bool (a != b)) s):wpAny (model e.prog e.w) c.A (compareOp .NotEq (.int a t) (.int b u)) Q E s:=P.ne_int k
theorem c_lt (k:Q (.bool (decide (a < b))) s):wpAny (model e.prog e.w) c.A (compareOp .Lt (.int a t) (.int b u)) Q E s:=P.lt_int k
theorem c_le (k:Q (.bool (decide (a ≤ b))) s):wpAny (model e.prog e.w) c.A (compareOp .LtE (.int a t) (.int b u)) Q E s:=P.le_int k
theorem c_gt (k:Q (.bool (decide (a > b))) s):wpAny (model e.prog e.w) c.A (compareOp .Gt (.int a t) (.int b u)) Q E s:=P.gt_int k
theorem c_ge (k:Q (.bool (decide (a ≥ b))) s):wpAny (model e.prog e.w) c.A (compareOp .GtE (.int a t) (.int b u)) Q E s:=P.ge_int k
end
end
end
section
def LisI (I:Led) (v:Value) (xs:List Value):Prop:=∃ a n,v = .ref a∧(a,listO xs n) ∈ I
def TupI (I:Led) (v:Value) (xs:List Value):Prop:=∃ a n,v = .ref a∧(a,tupO xs n) ∈ I
theorem LisI.mono {I I' v xs} (h:LisI I v xs) (k:Sub I I'):LisI I' v xs:=let ⟨a,n,h1,h2⟩:=h; ⟨a,n,h1,k _ h2⟩
theorem TupI.mono {I I' v xs} (h:TupI I v xs) (k:Sub I I'):TupI I' v xs:=let ⟨a,n,h1,h2⟩:=h; ⟨a,n,h1,k _ h2⟩
section
variable {e:E0} {c:Cx} {ns:List Str} {gs:List (Str × Value)} {vs vs':List (Option Value)} {M M' I I':Led} {s:Shared} {E:Value→Shared→Prop}
theorem isL {d:Addr} {xs:List Value} {n:Nat} (h:s.heap.get? d = some (listO xs n)):s.heap.IsList d xs.toArray:=⟨_,h,rfl,n,rfl⟩
theorem isT {d:Addr} {xs:List Value} {n:Nat} (h:s.heap.get? d = some (tupO xs n)):IsTup s.heap d xs.toArray:=⟨_,h,rfl,n,rfl⟩
theorem g_sub {value slice pos} {Q:Value→Shared→Prop} {MM:Model} {A:Around} {env:Env} (h:wpAny MM A (eval value env) (fun o s₁=>wpAny MM A (eval slice env) (fun i s₂=>wpAny MM A (subscriptTail value slice o i) Q E s₂) E s₁) E s) :
    wpAny MM A (eval (.Subscript value slice pos) env) Q E s:=Subscript_ h
theorem item_at {value slice:PySem.Expr} {d:Addr} {xs:List Value} {n:Nat} {k:Int} {u:Tok} {x:Value} {Q:Value→Shared→Prop} (ho:s.heap.get? d = some (listO xs n))
    (h0:0 ≤ k) (hk:k < 2 ^ 63) (hx:xs[k.toNat]? = some x) (h:Q x s)
    (hs:subscripted slice false (.ref d) (.int k u) = operate [.ref d,.int k u] (getItem (.ref d) (.int k u)):=by with_unfolding_all rfl) :
    wpAny (model e.prog e.w) c.A (subscriptTail value slice (.ref d) (.int k u)) Q E s:=
  tail_any (isL ho).typeIs slot_list_getitem.lookup (wpAny_getItem_list (isL ho) h0 hk (by simpa using hx) h) hs
theorem item_neg {value slice:PySem.Expr} {d:Addr} {xs:List Value} {n:Nat} {k:Int} {u:Tok} {x:Value} {Q:Value→Shared→Prop} (ho:s.heap.get? d = some (listO xs n))
    (h0:k < 0) (hk:-(2 ^ 63) ≤ k) (h1:-(xs.length:Int) ≤ k) (hx:xs[(k + xs.length).toNat]? = some x) (h:Q x s)
    (hs:subscripted slice false (.ref d) (.int k u) = operate [.ref d,.int k u] (getItem (.ref d) (.int k u)):=by with_unfolding_all rfl) :
    wpAny (model e.prog e.w) c.A (subscriptTail value slice (.ref d) (.int k u)) Q E s:=
  tail_any (isL ho).typeIs slot_list_getitem.lookup (wpAny_getItem_list_neg (isL ho) h0 (by simpa using h1) hk (by simpa using hx) h) hs
theorem item_tup {value slice:PySem.Expr} {d:Addr} {xs:List Value} {n:Nat} {k:Int} {u:Tok} {x:Value} {Q:Value→Shared→Prop} (ho:s.heap.get? d = some (tupO xs n))
    (h0:0 ≤ k) (hk:k < 2 ^ 63) (hx:xs[k.toNat]? = some x) (h:Q x s)
    (hs:subscripted slice false (.ref d) (.int k u) = operate [.ref d,.int k u] (getItem (.ref d) (.int k u)):=by with_unfolding_all rfl) :
    wpAny (model e.prog e.w) c.A (subscriptTail value slice (.ref d) (.int k u)) Q E s:=by
  refine item_tupleT (j:=k.toNat) (isT ho) (by lia) hk ?_ hx h hs
  have hl:=(List.getElem?_eq_some_iff.mp hx).1
  unfold seqIndex?
  rw [if_neg (show ¬ k < 0 by lia),if_pos (by simp; lia)]
theorem len_at {d:Addr} {xs:List Value} {n:Nat} {Q:Value→Shared→Prop} (hs:St e c ns vs M I s) (ho:s.heap.get? d = some (listO xs n)) (hl:xs.length ≤ sizeLine)
    (k:∀ t s',St e c ns vs M I s'→Q (.int xs.length t) s'):wpAny (model e.prog e.w) c.A (call (.builtin "len") [.ref d]) Q E s:=by
  have hz:=sizeLine_eq
  refine call_len_list (isL ho) (by rw [List.size_toArray]; lia) ?_
  have:=k (s.toks + 1) _ (hs.tok (s.toks + 1 + 1))
  simpa using this
theorem truthy_at {d:Addr} {xs:List Value} {n:Nat} {Q:Bool→Shared→Prop} (hs:St e c ns vs M I s) (ho:s.heap.get? d = some (listO xs n)) (hl:xs.length ≤ sizeLine)
    (k:∀ s',St e c ns vs M I s'→Q (!xs.isEmpty) s'):wpAny (model e.prog e.w) c.A (truthy (.ref d)) Q E s:=by
  have hz:=sizeLine_eq
  refine wpAny_truthy_list (isL ho) (by rw [List.size_toArray]; lia) ?_
  have:=k _ (hs.tok (s.toks + 1 + 1))
  simpa using this
theorem list_pop {d:Addr} {xs:List Value} {n:Nat} {x:Value} {Q:Value→Shared→Prop} (hs:St e c ns vs M I s) (hp:Put d (listO (xs ++ [x]) n) (listO xs (n + 1)) M M') (hl:xs.length < sizeLine)
    (h:∀ s',St e c ns vs M' I s'→Q x s'):wpAny (model e.prog e.w) c.A (call (.builtin "list.pop") [.ref d]) Q E s:=by
  have ho:=hs.has hp.mem
  have hx:((xs ++ [x]).toArray)[(xs ++ [x]).toArray.size - 1]? = some x:=by simp
  refine call_meets PySem.F.slot_list_pop (isL ho).typeIs PySem.F.entry_list_pop (PySem.F.args_list_pop_1 _) (PySem.MeetsSeq.list_pop_last d (xs ++ [x]).toArray n x hx (by simp; lia)) ⟨ho,h _ (hs.setAt (t:=s.toks) hp (Heap.SameBut.update ..) ?_)⟩
  rw [Heap.get?_update_self _ ho]
  · have e1:(xs ++ [x]).eraseIdx xs.length = xs:=by
      rw [List.eraseIdx_append_of_length_le (Nat.le_refl _)]; simp
    simp only [Obj.mapSeq,List.size_toArray,List.length_append,List.length_singleton,Nat.add_sub_cancel,List.eraseIdxIfInBounds_toArray,e1]
    simp
  · rfl
theorem setitem_list {d:Addr} {xs:List Value} {n:Nat} {k:Int} {t:Tok} {v:Value} {Q:Unit→Shared→Prop} (hs:St e c ns vs M I s) (h0:0 ≤ k) (hfit:k < 2 ^ 63) (hn:k < xs.length)
    (hp:Put d (listO xs n) (listO (xs.set k.toNat v) n) M M') (h:∀ s',St e c ns vs M' I s'→Q () s'):wpAny (model e.prog e.w) c.A (setItem (.ref d) (.int k t) v) Q E s:=by
  have ho:=hs.has hp.mem
  have hl:=isL ho
  unfold setItem
  refine wpAny_holding ?_
  refine wpAny_bind (wpAny_sequenceKey hl.typeIs (by decide) ?_)
  refine wpAny_bind (wpAny_callSpecial?_slot (name:=Str.ofString "__setitem__") hl.typeIs slot_list_setitem
    (wpAny_call_entry slot_list_setitem hl.typeIs entry_list_setitem ?_ (args_list_setitem _ _ _)))
  show wpAny _ _ (Builtin.List.listSubscript? (.int k t) >>= _) _ _ s
  refine wpAny_bind (wpAny_listSubscript_int (fitsIndex_of h0 hfit) ?_)
  clear hfit
  obtain ⟨j,rfl⟩:=Int.eq_ofNat_of_zero_le h0
  have hj:j < xs.length:=by lia
  have hx':xs.toArray[j]? = some xs[j]:=by simp [hj]
  show wpAny _ _ ((seqItemAt d j >>= fun r=>pure (r.map (j,·))) >>= _) _ _ s
  refine wpAny_bind (wpAny_bind (wpAny_seqItemAt ho rfl (wpAny_pure ?_)))
  rw [hx']
  show wpAny _ _ (setSeqItemAt d j v >>= _) _ _ s
  refine wpAny_bind (wpAny_setSeqItemAt ho rfl ?_)
  have fin:=h _ (hs.setAt (t:=s.toks) hp (Heap.SameBut.update (f:=Obj.mapSeq (·.setIfInBounds j v)) ..) (by
    rw [Heap.get?_update_self _ ho]
    · simp [Obj.mapSeq,listO]
    · rfl))
  first
    | exact wpAny_bind (wpAny_pure (wpAny_pure ⟨.none,rfl,wpAny_pure fin⟩))
    | exact wpAny_pure ⟨.none,rfl,wpAny_pure fin⟩
end
section
variable {MM:Model} {A:Around} {E:Value→Shared→Prop} {s:Shared} {env:Env}
theorem g_AssignSub {o i pos' value pos} {Q:Flow→Shared→Prop}
    (h:wpAny MM A (eval value env) (fun v s₁=>wpAny MM A (eval o env) (fun ov s₂=>wpAny MM A (eval i env) (fun iv s₃=>wpAny MM A (setItem ov iv v) (fun _=>Q .next) E s₃) E s₂) E s₁) E s)
    (hs:swapsWith value (some (.Subscript o i pos')) pos.line env = pure false:=by rfl):wpAny MM A (exec (.Assign [.Subscript o i pos'] value pos) env) Q E s:=wpAny_Assign_Subscript h hs
theorem g_AssignAttr {o attr pos' value pos} {Q:Flow→Shared→Prop}
    (h:wpAny MM A (eval value env) (fun v s₁=>wpAny MM A (eval o env) (fun ov s₂=>wpAny MM A (setAttr ov attr v) (fun _=>Q .next) E s₂) E s₁) E s)
    (hs:swapsWith value (some (.Attribute o attr pos')) pos.line env = pure false:=by rfl):wpAny MM A (exec (.Assign [.Attribute o attr pos'] value pos) env) Q E s:=plainObj_wpAny_Assign_Attribute h hs
theorem t_not {x pos whole} {Q:Bool→Shared→Prop} (h:wpAny MM A (isTrue x env (eval x env)) (fun b s'=>Q (!b) s') E s):wpAny MM A (isTrue (.UnaryOp .Not x pos) env whole) Q E s:=isTrue_not h
end
section
variable {prog:Program} {w:World} {A:Around} {E:Value→Shared→Prop} {s:Shared} {env:Env}
theorem g_attr {value:PySem.Expr} {attr:Str} {pos:Pos} {Q:Value→Shared→Prop}
    (h:wpAny (model prog w) A (eval value env) (fun o s₁=>wpAny (model prog w) A (getAttr o attr true) Q E s₁) E s)
    (he:eval (.Attribute value attr pos) env = (do
      let o ← eval value env
      standAt pos.atName
      let r ← holding [o] (getAttr o attr true)
      letTemporaryGo value o r
      pure r):=by with_unfolding_all rfl):wpAny (model prog w) A (eval (.Attribute value attr pos) env) Q E s:=Attribute_any_ h he
end
section
variable {e:E0} {c:Cx} {ns:List Str} {gs:List (Str × Value)} {vs vs':List (Option Value)} {M M' I I':Led} {s:Shared} {E:Value→Shared→Prop}
theorem i_fdiv {a b:Int} {t u:Tok} {Q:Value→Shared→Prop} (hs:St e c ns vs M I s) (hb:b ≠ 0∧b.natAbs < 1073741824) (k:∀ t s',St e c ns vs M I s'→Q (.int (a.fdiv b) t) s') :
    wpAny (model e.prog e.w) c.A (binaryOp .FloorDiv (.int a t) (.int b u)) Q E s:=floordiv_int hb.1 (k _ _ (hs.tok _)) (.inl (PyProof.noPylong_small hb.2))
theorem i_pow {a n:Int} {t u:Tok} {Q:Value→Shared→Prop} (hs:St e c ns vs M I s) (hn:0 ≤ n) (hsz:(Builtin.Int.intBits a:Int) * n ≤ 2 ^ 27) (k:∀ t s',St e c ns vs M I s'→Q (.int (a ^ n.toNat) t) s') :
    wpAny (model e.prog e.w) c.A (binaryOp .Pow (.int a t) (.int n u)) Q E s:=pow_int hn hsz (k _ _ (hs.tok _))
theorem i_neg {a:Int} {t:Tok} {Q:Value→Shared→Prop} (hs:St e c ns vs M I s) (k:∀ t s',St e c ns vs M I s'→Q (.int (-a) t) s') :
    wpAny (model e.prog e.w) c.A (unaryOp .USub (.int a t)) Q E s:=P.neg_int (k _ _ (hs.tok _))
theorem mulok_r {a b:Int} (h:Builtin.Int.intBits b ≤ 64):IntMulOk a b:=IntMulOk.of_right h
theorem mulok_l {a b:Int} (h:Builtin.Int.intBits a ≤ 64):IntMulOk a b:=IntMulOk.of_left h
theorem int_of_bool {b:Bool} {Q:Value→Shared→Prop} (hs:St e c ns vs M I s) (k:∀ t s',St e c ns vs M I s'→Q (.int (if b then 1 else 0) t) s') :
    wpAny (model e.prog e.w) c.A (call (.type "int") [.bool b]) Q E s:=call_int_bool (k _ _ (hs.tok _))
end
end
section
def DO (e:E0) (d:Addr) (o:Obj) (kvs:List (Str × Value)):Prop:=(d == sysModules) = false∧o.IsDictOf (PySem.strKind e.prog e.w) kvs
def DicI (e:E0) (I:Led) (v:Value) (kvs:List (Str × Value)):Prop:=∃ a o,v = .ref a∧(a,o) ∈ I∧DO e a o kvs
theorem DicI.mono {e I I' v kvs} (h:DicI e I v kvs) (k:Sub I I'):DicI e I' v kvs:=let ⟨a,o,h1,h2,h3⟩:=h; ⟨a,o,h1,k _ h2,h3⟩
theorem key_is {e:E0} {k:Str} {t:Tok}:(PySem.strKind e.prog e.w).is k (.str k t) = true:=PySem.strKind_is _ _ _ _
section
variable {e:E0} {c:Cx} {ns:List Str} {gs:List (Str × Value)} {vs vs':List (Option Value)} {M M' I I':Led} {s:Shared} {E:Value→Shared→Prop}
variable {d:Addr} {o:Obj} {kvs:List (Str × Value)} {k:Str} {t:Tok}
theorem DO.at (hd:DO e d o kvs) (ho:s.heap.get? d = some o):s.heap.DictOf (PySem.strKind e.prog e.w) d kvs:=Heap.dictOf_iff.mpr ⟨o,ho,hd.2⟩
theorem dict_new {pos:Pos} {Q:Value→Shared→Prop} (ok:CxOk e c ns gs) (hs:St e c ns vs M I s) (h:∀ d o s',DO e d o []→St e c ns vs ((d,o) :: M) I s'→Q (.ref d) s') :
    wpAny (model e.prog e.w) c.A (eval (.Dict [] [] pos) c.env) Q E s:=by
  refine hs.open fun m cm cl F CA N nd Lc=>?_
  exact newDict_K F N ok.amb.top.nolimit fun d h' o F' N' lt lo hd _ _ _=>h d o _ ⟨lo,hd⟩ (hs.new (t:=s.toks) CA nd Lc F' N' lt)
theorem dict_set {v:Value} {Mf:Obj→Led} {Q:Unit→Shared→Prop} (hs:St e c ns vs M I s) (hd:DO e d o kvs) (hp:∀ o',Put d o o' M (Mf o')) (hz:kvs.length ≤ sizeLine)
    (h:∀ o' s',DO e d o' (stored kvs k v)→St e c ns vs (Mf o') I s'→Q () s'):wpAny (model e.prog e.w) c.A (setItem (.ref d) (.str k t) v) Q E s:=by
  have ho:=hs.has (hp default).mem
  refine wpAny_setItem_pairs (hsz:=hz) key_is (hd.at ho) fun h' hm hsb=>?_
  obtain ⟨o',ho',hd'⟩:=Heap.dictOf_iff.mp hm
  exact h o' _ ⟨hd.1,hd'⟩ (hs.setAt (hp o') hsb ho')
theorem dict_item {value slice:PySem.Expr} {v:Value} {Q:Value→Shared→Prop} (hs:St e c ns vs M I s) (ho:s.heap.get? d = some o) (hd:DO e d o kvs) (hv:valueAt kvs k = some v)
    (h:∀ s',St e c ns vs M I s'→Q v s') (hsub:subscripted slice false (.ref d) (.str k t) = operate [.ref d,.str k t] (getItem (.ref d) (.str k t)):=by with_unfolding_all rfl) :
    wpAny (model e.prog e.w) c.A (subscriptTail value slice (.ref d) (.str k t)) Q E s:=
  tail_any (hd.at ho).typeIs slot_dict_getitem.lookup (wpAny_getItem_of key_is (hd.at ho).mapOf hv (h _ (hs.tok _))) hsub
theorem dict_in {Q:Value→Shared→Prop} (hs:St e c ns vs M I s) (ho:s.heap.get? d = some o) (hd:DO e d o kvs)
    (h:∀ s',St e c ns vs M I s'→Q (.bool (valueAt kvs k).isSome) s'):wpAny (model e.prog e.w) c.A (compareOp .In (.str k t) (.ref d)) Q E s:=
  wpAny_in_of key_is hd.1 (hd.at ho).mapOf (h _ (hs.tok _))
theorem dict_notin {Q:Value→Shared→Prop} (hs:St e c ns vs M I s) (ho:s.heap.get? d = some o) (hd:DO e d o kvs)
    (h:∀ s',St e c ns vs M I s'→Q (.bool (!(valueAt kvs k).isSome)) s'):wpAny (model e.prog e.w) c.A (compareOp .NotIn (.str k t) (.ref d)) Q E s:=
  wpAny_notIn_of key_is hd.1 (hd.at ho).mapOf (h _ (hs.tok _))
theorem dict_get1 {Q:Value→Shared→Prop} (hs:St e c ns vs M I s) (ho:s.heap.get? d = some o) (hd:DO e d o kvs)
    (h:∀ s',St e c ns vs M I s'→Q ((valueAt kvs k).getD .none) s'):wpAny (model e.prog e.w) c.A (call (.builtin "dict.get") [.ref d,.str k t]) Q E s:=
  call_meetsIn PySem.F.slot_dict_get (hd.at ho).typeIs PySem.F.entry_dict_get (PySem.F.args_dict_get_2 _ _) (meets_dict_get _ _ key_is hd.1) ⟨_,(hd.at ho).mapOf,h _ (hs.tok _)⟩
theorem dict_get2 {dflt:Value} {Q:Value→Shared→Prop} (hs:St e c ns vs M I s) (ho:s.heap.get? d = some o) (hd:DO e d o kvs)
    (h:∀ s',St e c ns vs M I s'→Q ((valueAt kvs k).getD dflt) s'):wpAny (model e.prog e.w) c.A (call (.builtin "dict.get") [.ref d,.str k t,dflt]) Q E s:=
  call_meetsIn PySem.F.slot_dict_get (hd.at ho).typeIs PySem.F.entry_dict_get (PySem.F.args_dict_get_3 _ _ _) (meets_dict_get_default _ _ key_is hd.1 _) ⟨_,(hd.at ho).mapOf,h _ (hs.tok _)⟩
theorem dict_copy {Q:Value→Shared→Prop} (ok:CxOk e c ns gs) (hs:St e c ns vs M I s) (ho:s.heap.get? d = some o) (hd:DO e d o kvs) (hz:kvs.length ≤ sizeLine)
    (h:∀ a o' s',DO e a o' kvs→St e c ns vs ((a,o') :: M) I s'→Q (.ref a) s'):wpAny (model e.prog e.w) c.A (call (.type "dict") [.ref d]) Q E s:=by
  refine kt_call_dict hd.1 (hd.at ho) hz fun h' hm hsb=>?_
  obtain ⟨o',ho',hd'⟩:=Heap.dictOf_iff.mp hm
  refine hs.open fun m cm cl F CA N nd Lc=>?_
  exact h _ o' _ ⟨F.notModules (modules_low ok.amb.top.nolimit),hd'⟩ ((hs.push (o:={ cls:=.type "dict",data:=.dict #[] }) rfl s.toks).setAt (t:=s.toks) .head hsb ho')
theorem meth_dict_get {pl:Sem Bool} {Q:Value × List Value→Shared→Prop} (ho:s.heap.get? d = some o) (hd:DO e d o kvs) (h:Q (.builtin "dict.get",[.ref d]) s) :
    wpAny (model e.prog e.w) c.A (getMethod (.ref d) "get" pl) Q E s:=
  getMethod_builtin (hd.at ho).typeIs PySem.F.plainAttrs_dict PySem.F.slot_dict_get PySem.F.type_dict_get (fun a ha=>by cases ha; exact ⟨o,ho,by obtain ⟨_,_,_,ex,_⟩:=hd; exact ex.2.1⟩) h
theorem meth_append {xs:List Value} {n:Nat} {pl:Sem Bool} {Q:Value × List Value→Shared→Prop} (ho:s.heap.get? d = some (listO xs n)) (h:Q (.builtin "list.append",[.ref d]) s) :
    wpAny (model e.prog e.w) c.A (getMethod (.ref d) "append" pl) Q E s:=getMethod_list_append ho rfl rfl h
theorem meth_pop {xs:List Value} {n:Nat} {pl:Sem Bool} {Q:Value × List Value→Shared→Prop} (ho:s.heap.get? d = some (listO xs n)) (h:Q (.builtin "list.pop",[.ref d]) s) :
    wpAny (model e.prog e.w) c.A (getMethod (.ref d) "pop" pl) Q E s:=
  getMethod_builtin (isL ho).typeIs PySem.F.plainAttrs_list PySem.F.slot_list_pop PySem.F.type_list_pop (fun a ha=>by cases ha; exact ⟨_,ho,rfl⟩) h
theorem meth_extend {xs:List Value} {n:Nat} {pl:Sem Bool} {Q:Value × List Value→Shared→Prop} (ho:s.heap.get? d = some (listO xs n)) (h:Q (.builtin "list.extend",[.ref d]) s) :
    wpAny (model e.prog e.w) c.A (getMethod (.ref d) "extend" pl) Q E s:=
  getMethod_builtin (isL ho).typeIs PySem.F.plainAttrs_list PySem.F.slot_list_extend PySem.F.type_list_extend (fun a ha=>by cases ha; exact ⟨_,ho,rfl⟩) h
theorem meth_rfind {x:Str} {pl:Sem Bool} {Q:Value × List Value→Shared→Prop} (h:Q (.builtin "str.rfind",[.str x t]) s) :
    wpAny (model e.prog e.w) c.A (getMethod (.str x t) "rfind" pl) Q E s:=
  getMethod_builtin (typeIs_str s x t) PySem.F.plainAttrs_str PySem.F.slot_str_rfind PySem.F.type_str_rfind (fun a ha=>by cases ha) h
end
end
section
noncomputable def notLets:List String:=["enumerate", "zip", "dict_itemiterator", "dict_reverseitemiterator", "odict_iterator", "itertools.zip_longest", "itertools.pairwise"]
structure IterSpec (e:E0) (it:Addr) (Io:Nat→Obj→Prop) (n:Nat) (X:Nat→Value→Prop) (Src:Heap→Prop):Prop where
  self:∀ (A:Around) (o:Obj) (s:Shared) (Q:Value→Shared→Prop) (E:Value→Shared→Prop),Io 0 o→s.heap.get? it = some o→Q (.ref it) s→wpAny (model e.prog e.w) A (pyIter (.ref it)) Q E s
  cls:∀ i o,Io i o→∃ T vs,o.cls = .type T∧o.data = .fields vs∧notLets.contains T = false
  item:∀ (A:Around) (i:Nat) (o:Obj) (s:Shared) (Q:Option Value→Shared→Prop) (E:Value→Shared→Prop),i < n→Io i o→s.heap.get? it = some o→Src s.heap→
    (∀ x o' h' t,X i x→Io (i + 1) o'→Heap.SameBut it s.heap h'→h'.get? it = some o'→Q (some x) { s with heap:=h',toks:=t })→wpAny (model e.prog e.w) A (pyNext (.ref it)) Q E s
  fin:∀ (A:Around) (o:Obj) (s:Shared) (Q:Option Value→Shared→Prop) (E:Value→Shared→Prop),A.handled = none→Io n o→s.heap.get? it = some o→Src s.heap→
    (∀ h' t,Heap.ExtBut it s.heap h'→Q none { s with heap:=h',toks:=t })→wpAny (model e.prog e.w) A (pyNext (.ref it)) Q E s
section
variable {M:Model} {A:Around} {s:Shared} {env:Env}
abbrev noE:Value→Shared→Prop:=fun _ _=>False
theorem letGo_off {target:PySem.Expr} {it:Addr} {v:Value} {Q:Unit→Shared→Prop} {E:Value→Shared→Prop} {o:Obj} {T:String} {vs:Array Value} (ho:s.heap.get? it = some o) (hc:o.cls = .type T) (hd:o.data = .fields vs)
    (hT:notLets.contains T = false) (h:Q () s):wpAny M A (letOwnedTupleGo target (.ref it) v) Q E s:=by
  have key:∀ a,wpAny M A (do
      let o ← load it
      match o.cls,o.data with
      | .type n,.fields vs=>
        if ["enumerate", "zip", "dict_itemiterator", "dict_reverseitemiterator", "odict_iterator", "itertools.zip_longest", "itertools.pairwise"].contains n && vs[0]? == some (rawInt a) then do
          rule "for.unpacks-the-owned-tuple"
          updateField it 0 .none
      | _,_=>pure ()) Q E s:=fun a=>by
    refine wpAny_bind (wpAny_load ho ?_)
    rw [hc,hd]
    have e1:(["enumerate", "zip", "dict_itemiterator", "dict_reverseitemiterator", "odict_iterator", "itertools.zip_longest", "itertools.pairwise"]:List String).contains T = false:=hT
    simp only [e1,Bool.false_and,Bool.false_eq_true,if_false]
    exact wpAny_pure h
  have key2:∀ ts k p,wpAny M A (letOwnedTupleGo (.Tuple ts k p) (.ref it) v) Q E s:=fun ts k p=>by
    cases v <;> first | exact key _ | exact wpAny_pure h
  cases target <;> first | exact wpAny_pure h | exact key2 [] 0 default
def forK (M:Model) (A:Around) (env:Env) (target:PySem.Expr) (it:Value) (body:List Stmt) (R:Result→Shared→Prop) (f:Flow) (s:Shared):Prop:=
  match f with
  | .next=>codeAny M A (.forLoop target it body [] env) R s
  | .cont=>codeAny M A (.forLoop target it body [] env) R s
  | .brk=>R (.ok .next) s
  | .ret v=>R (.ok (.ret v)) s
theorem for_turn {prog:Program} {w:World} {A:Around} {s:Shared} {env:Env} {target:PySem.Expr} {it:Value} {body:List Stmt} {R:Result→Shared→Prop}
    (h:wpAny (model prog w) A (pyNext it) (fun r s₁=>match r with
      | none=>R (.ok .next) s₁
      | some v=>wpAny (model prog w) A (letOwnedTupleGo target it v) (fun _ s₂=>wpAny (model prog w) A (assign target env v) (fun _ s₃=>wpAny (model prog w) A (execs body env) (forK (model prog w) A env target it body R) noE s₃) noE s₂) noE s₁) noE s) :
    codeAny (model prog w) A (.forLoop target it body [] env) R s:=by
  refine codeAny_of_tree ?_
  show wpAny _ A ((forTurn target it body [] env).onRaise (fun x=>do noteFrame x env; theTreesLotGoes x)) _ _ s
  refine wpAny_noted ?_
  simp only [forTurn]
  refine wpAny_bind (wpAny_standAt (wpAny_bind (wpAny_onRaise (wpAny_mono h (fun r s₁ h₁=>?_) fun _ _ x=>x.elim))))
  cases r with
  | none=>exact wpAny_pure ⟨rfl,codeAny_block (wpAny_execs_nil h₁)⟩
  | some v=>
    refine wpAny_bind (wpAny_mono h₁ (fun _ s₂ h₂=>wpAny_bind (wpAny_mono h₂ (fun _ s₃ h₃=>wpAny_bind (wpAny_mono h₃ (fun f s₄ h₄=>?_) fun _ _ x=>x.elim)) fun _ _ x=>x.elim)) fun _ _ x=>x.elim)
    cases f with
    | next=>exact wpAny_pure ⟨rfl,h₄⟩
    | cont=>exact wpAny_pure ⟨rfl,h₄⟩
    | brk=>exact wpAny_pure h₄
    | ret v=>exact wpAny_pure h₄
end
section
variable {e:E0} {c:Cx} {ns:List Str} {gs:List (Str × Value)} {vs vs':List (Option Value)} {M M' I I':Led} {s:Shared} {E:Value→Shared→Prop}
theorem St.ext {it:Addr} {o:Obj} {h':Heap} {t:Nat} (hs:St e c ns vs M I s) (hp:Pick (it,o) M M') (hx:Heap.ExtBut it s.heap h'):St e c ns vs M' I { s with heap:=h',toks:=t }:=by
  have hs':=hs.front hp
  refine hs'.open fun m cm cl F CA N nd Lc=>?_
  have hit:=N (it,o) (.head _)
  have nd':=List.nodup_cons.mp nd
  obtain ⟨oL,es,ep,hL,r⟩:=F.ns
  refine ⟨⟨m,cm,cl,⟨⟨oL,es,ep,hx _ _ (Ne.symm hit.2.1) hL,r⟩,fun b ob eb=>hx b ob (fun q=>?_) (F.keep b ob eb),F.above⟩,CA,fun p hp=>?_,nd'.2,Lc⟩,hs.gens,hs.drawn,hs.os⟩
  · have:=hit.2.2; rw [← q,eb] at this; cases this
  · have:=N p (.tail _ hp)
    exact ⟨hx _ _ (fun q=>nd'.1 (by show it ∈ _; rw [← q]; exact List.mem_map_of_mem (f:=(·.1)) hp)) this.1,this.2⟩
def ForEnd (e:E0) (c:Cx) (ns:List Str) (it:Addr) (Io:Nat→Obj→Prop) (P:Nat→List (Option Value)→Led→Led→Prop) (i:Nat) (Q:Flow→Shared→Prop) (f:Flow) (s:Shared):Prop:=
  match f with
  | .ret v=>Q (.ret v) s
  | .brk=>Q .next s
  | _=>∃ vs M I o,P (i + 1) vs M I∧Io (i + 1) o∧St e c ns vs ((it,o) :: M) I s
theorem for_iter {target:PySem.Expr} {body:List Stmt} {Q:Flow→Shared→Prop} {it:Addr} {Io:Nat→Obj→Prop} {n:Nat} {X:Nat→Value→Prop} {Src:Heap→Prop} {o:Obj}
    (P:Nat→List (Option Value)→Led→Led→Prop) (ok:CxOk e c ns gs) (sp:IterSpec e it Io n X Src) (hs:St e c ns vs ((it,o) :: M) I s) (ho:Io 0 o) (h0:P 0 vs M I)
    (hsrc:∀ i vs M I o s,P i vs M I→Io i o→St e c ns vs ((it,o) :: M) I s→Src s.heap)
    (step:∀ i x vs M I o s,i < n→X i x→P i vs M I→Io (i + 1) o→St e c ns vs ((it,o) :: M) I s→
      wpAny (model e.prog e.w) c.A (assign target c.env x) (fun _ s₁=>wpAny (model e.prog e.w) c.A (execs body c.env) (ForEnd e c ns it Io P i Q) noE s₁) noE s)
    (fin:∀ vs M I s,P n vs M I→St e c ns vs M I s→Q .next s) :
    codeAny (model e.prog e.w) c.A (.forLoop target (.ref it) body [] c.env) (fun r s'=>match r with | .ok f=>Q f s' | .error ex=>cameBackBy (model e.prog e.w) c.A c.env E ex s') s:=by
  have all:∀ k i,i + k = n→∀ vs M I o s,P i vs M I→Io i o→St e c ns vs ((it,o) :: M) I s→
      codeAny (model e.prog e.w) c.A (.forLoop target (.ref it) body [] c.env) (fun r s'=>match r with | .ok f=>Q f s' | .error ex=>cameBackBy (model e.prog e.w) c.A c.env E ex s') s:=by
    intro k
    induction k with
    | zero=>
      intro i hi vs M I o s hP hIo hs
      have hi:i = n:=hi
      subst hi
      exact for_turn (sp.fin _ o s _ _ ok.hnd hIo (hs.has (.head _)) (hsrc _ _ _ _ _ _ hP hIo hs) fun h' t hx=>fin _ _ _ _ hP (hs.ext .head hx))
    | succ k ih=>
      intro i hi vs M I o s hP hIo hs
      have hi':i < n:=by lia
      refine for_turn (sp.item _ i o s _ _ hi' hIo (hs.has (.head _)) (hsrc _ _ _ _ _ _ hP hIo hs) fun x o' h' t hx hIo' hsb hg=>?_)
      obtain ⟨T,fs,hc,hd,hT⟩:=sp.cls _ _ hIo'
      refine letGo_off (hg:({ s with heap:=h',toks:=t }:Shared).heap.get? it = some o') hc hd hT ?_
      refine wpAny_mono (step i x vs M I o' _ hi' hx hP hIo' (hs.setAt .head hsb hg)) (fun _ s₁ h₁=>wpAny_mono h₁ (fun f s₂ h₂=>?_) fun _ _ x=>x) fun _ _ x=>x
      cases f with
      | next=>obtain ⟨vs2,M2,I2,o2,hP2,hI2,hs2⟩:=h₂; exact ih (i + 1) (by lia) _ _ _ _ _ hP2 hI2 hs2
      | cont=>obtain ⟨vs2,M2,I2,o2,hP2,hI2,hs2⟩:=h₂; exact ih (i + 1) (by lia) _ _ _ _ _ hP2 hI2 hs2
      | brk=>exact h₂
      | ret v=>exact h₂
  exact all n 0 (Nat.zero_add n) _ _ _ _ _ h0 ho hs
def LIo (l:Addr) (i:Nat) (o:Obj):Prop:=o.cls = .type "list_iterator"∧o.data = .fields #[.ref l,.int i 0]
theorem spec_list {it l:Addr} {xs:List Value}:IterSpec e it (LIo l) xs.length (fun i x=>xs[i]? = some x) (fun h=>h.IsList l xs.toArray) where
  self:=fun A o s Q E hI ho h=>wpAny_pyIter_listiter (i:=0) (l:=l) ⟨o,ho,hI.1,hI.2⟩ h
  cls:=fun i o h=>⟨_,_,h.1,h.2,by decide⟩
  item:=fun A i o s Q E hi hIo ho hsrc k=>by
    obtain ⟨x,hx⟩:∃ x,xs[i]? = some x:=⟨xs[i],List.getElem?_eq_getElem hi⟩
    refine wpAny_pyNext_list_item (i:=i) (l:=l) ⟨o,ho,hIo.1,hIo.2⟩ hsrc (by simpa using hx) fun h' hit hsb=>?_
    obtain ⟨o',ho',hc,hd⟩:=hit
    exact k x o' h' s.toks hx ⟨hc,hd⟩ hsb ho'
  fin:=fun A o s Q E hh hIo ho hsrc k=>wpAny_pyNext_list_end hh ⟨o,ho,hIo.1,hIo.2⟩ hsrc (by simp) fun h' hx=>k h' s.toks hx
theorem g_For {target iter body pos} {Q:Flow→Shared→Prop}
    (h:wpAny (model e.prog e.w) c.A (eval iter c.env) (fun x s₁=>wpAny (model e.prog e.w) c.A (pyIter x) (fun it s₂=>
      codeAny (model e.prog e.w) c.A (.forLoop target it body [] c.env) (fun r s'=>match r with | .ok f=>Q f s' | .error ex=>cameBackBy (model e.prog e.w) c.A c.env E ex s') s₂) E s₁) E s)
    (hsi:∀ x,foldedSetIterable iter c.env x = pure x:=by intro _; rfl):wpAny (model e.prog e.w) c.A (exec (.For target iter body [] pos) c.env) Q E s:=wpAny_For h hsi
theorem iter_list {l:Addr} {xs:List Value} {n:Nat} {Q:Value→Shared→Prop} (hs:St e c ns vs M I s) (ho:s.heap.get? l = some (listO xs n)) (h:∀ it o s',LIo l 0 o→St e c ns vs ((it,o) :: M) I s'→Q (.ref it) s') :
    wpAny (model e.prog e.w) c.A (pyIter (.ref l)) Q E s:=wpAny_pyIter_list (isL ho) (h _ _ _ ⟨rfl,rfl⟩ (hs.push rfl s.toks))
theorem a_name {x:Str} {p:Pos} {v:Value} {Q:Unit→Shared→Prop} {MM:Model} {A:Around} {env:Env} (h:wpAny MM A (storeName env x v) Q E s):wpAny MM A (assign (.Name x p) env v) Q E s:=wpAny_assign_Name h
def WL (e:E0) (c:Cx) (test:PySem.Expr) (body:List Stmt) (Q:Flow→Shared→Prop) (s:Shared):Prop:=WhlRest e.prog e.w c.A noE c.env test body [] Q 0 s
def WLK (e:E0) (c:Cx) (test:PySem.Expr) (body:List Stmt) (Q:Flow→Shared→Prop) (f:Flow) (s:Shared):Prop:=
  match f with
  | .next=>WL e c test body Q s
  | .cont=>WL e c test body Q s
  | .brk=>Q .next s
  | .ret v=>Q (.ret v) s
theorem passes_no {env:Env} {M:Model} {A:Around}:PassesOwn M A env noE:=fun _ _ x=>x.elim
theorem while_start {test body pos} {Q:Flow→Shared→Prop} (h:WL e c test body Q s):wpAny (model e.prog e.w) c.A (exec (.While test body [] pos) c.env) Q noE s:=whl_start 0 h
theorem while_turn {test body} {Q:Flow→Shared→Prop}
    (h:wpAny (model e.prog e.w) c.A (isTrue test c.env (eval test c.env)) (fun b s₂=>if b = true then wpAny (model e.prog e.w) c.A (execs body c.env) (WLK e c test body Q) noE s₂ else Q .next s₂) noE s):WL e c test body Q s:=by
  show WhlRest e.prog e.w c.A noE c.env test body [] Q (0 + 1) s
  refine whl_turn passes_no (wpAny_mono h (fun b s₂ h₂=>?_) fun _ _ x=>x)
  cases b with
  | false=>exact WhlIf.no rfl (wpAny_execs_nil (by simpa using h₂))
  | true=>
    refine WhlIf.yes rfl (wpAny_mono (by simpa using h₂) (fun f s₃ h₃=>?_) fun _ _ x=>x)
    cases f <;> exact h₃
end
end
section
theorem cellsFrom_app:∀ (names:List (Str × NameKind)) (n:Nat) (acc:List (Str × Addr)),cellsFrom n names acc = cellsFrom n names [] ++ acc
  | [],_,_=>rfl
  | (name,kind) :: r,n,acc=>by
    unfold cellsFrom
    split
    · rw [cellsFrom_app r (n + 1) ((name,n) :: acc),cellsFrom_app r (n + 1) [(name,n)]]; simp
    · exact cellsFrom_app r n acc
noncomputable def frees (scope:Scope):List Str:=(scope.names.filter (·.2 == .free)).map (·.1)
noncomputable def closAcc (env:Env):List (Str × NameKind)→List (Str × Addr)→List (Str × Addr)
  | [],acc=>acc
  | (x,k) :: r,acc=>closAcc env r (if k == .free then (x,(env.cells.lookup x).getD 0) :: acc else acc)
noncomputable def clos (env:Env) (scope:Scope):List (Str × Addr):=closAcc env scope.names []
theorem closure_is {env:Env} {scope:Scope} (h:∀ x ∈ frees scope,(env.cells.lookup x).isSome = true):closureFor scope env = pure (clos env scope):=by
  have key:∀ (l:List (Str × NameKind)) (acc:List (Str × Addr)),(∀ x ∈ (l.filter (·.2 == .free)).map (·.1),(env.cells.lookup x).isSome = true)→
      (forIn l acc fun (p:Str × NameKind) (r:List (Str × Addr))=>do
        let (name,kind):=p
        if kind == .free then do let a ← cellOf env name; pure (ForInStep.yield ((name,a) :: r)) else pure (ForInStep.yield r):Sem (List (Str × Addr))) = pure (closAcc env l acc):=by
    intro l
    induction l with
    | nil=>intro acc _; rw [List.forIn_nil]; rfl
    | cons p r ih=>
      intro acc h
      obtain ⟨x,k⟩:=p
      rw [List.forIn_cons]
      by_cases hk:(k == NameKind.free) = true
      · have hx:=h x (by simp [hk])
        obtain ⟨a,ha⟩:=Option.isSome_iff_exists.mp hx
        have h1:cellOf env x = pure a:=by unfold cellOf; rw [ha]
        have:=ih ((x,a) :: acc) fun y hy=>h y (by simp only [List.filter_cons,hk,if_true,List.map_cons]; exact .tail _ hy)
        simp only [hk,if_true,h1,pure_bind,closAcc,ha,Option.getD_some]
        exact this
      · have:=ih acc fun y hy=>h y (by simp only [List.filter_cons,hk,if_false]; exact hy)
        simp only [hk,closAcc,pure_bind]
        exact this
  have k:=key scope.names [] h
  unfold closureFor clos
  exact (congrArg (fun m:Sem (List (Str × Addr))=>m >>= fun r=>pure r) k).trans rfl
theorem closAcc_lookup {env:Env} {x:Str}:∀ (l:List (Str × NameKind)) (acc:List (Str × Addr)),(l.map (·.1)).Nodup→
    (closAcc env l acc).lookup x = if x ∈ (l.filter (·.2 == .free)).map (·.1) then some ((env.cells.lookup x).getD 0) else acc.lookup x
  | [],_,_=>by simp [closAcc]
  | (y,k) :: r,acc,nd=>by
    have nd':=List.nodup_cons.mp nd
    unfold closAcc
    rw [closAcc_lookup r _ nd'.2]
    by_cases hk:(k == NameKind.free) = true
    · simp only [hk,if_true,List.filter_cons,List.map_cons,List.mem_cons]
      by_cases hx:x = y
      · subst hx
        have:x ∉ (r.filter (·.2 == .free)).map (·.1):=fun q=>nd'.1 (by
          obtain ⟨p,hp,rfl⟩:=List.mem_map.mp q
          exact List.mem_map.mpr ⟨p,(List.mem_filter.mp hp).1,rfl⟩)
        simp [this]
      · have:(x == y) = false:=by simpa using hx
        simp [hx,List.lookup_cons,this]
    · simp only [hk,if_false,List.filter_cons]
      simp
theorem lookup_relabel {env:Env} {x:Str}:∀ {names:List (Str × NameKind)},
    (names.map fun (n,k)=>if (k == NameKind.free && env.scope.kind == .function && env.kindOf n == some .cell) then (n,NameKind.cell) else (n,k)).lookup x =
      (names.lookup x).map fun k=>if (k == NameKind.free && env.scope.kind == .function && env.kindOf x == some .cell) then NameKind.cell else k
  | []=>rfl
  | (n,k) :: r=>by
    rw [List.map_cons]
    show List.lookup x ((if (k == NameKind.free && env.scope.kind == .function && env.kindOf n == some .cell) = true then (n,NameKind.cell) else (n,k)) :: _) = _
    cases hx:x == n with
    | true=>
      have e1:=eq_of_beq hx
      subst e1
      by_cases hc:(k == NameKind.free && env.scope.kind == .function && env.kindOf x == some .cell) = true
      · rw [if_pos hc]; simp only [List.lookup_cons,hx,Option.map_some,hc,if_true]
      · rw [if_neg hc]; simp only [List.lookup_cons,hx,Option.map_some,hc]; rfl
    | false=>
      by_cases hc:(k == NameKind.free && env.scope.kind == .function && env.kindOf n == some .cell) = true
      · rw [if_pos hc]; simp only [List.lookup_cons,hx]; exact lookup_relabel
      · rw [if_neg hc]; simp only [List.lookup_cons,hx]; exact lookup_relabel
theorem comp_newEnv {M:Model} {A:Around} {E:Value→Shared→Prop} {s:Shared} {scope:Scope} {cl:List (Str × Addr)} {env:Env} {Q:Env→Shared→Prop}
    (h:Q { scope:=scope,locals:=s.heap.objs.size,globals:=env.globals,cells:=cellsFrom (s.heap.objs.size + 1) scope.names cl,qual:=env.qual,func:=none,code:=env.code,frame:=env.frame,builtins:=env.builtins }
      { s with heap:=pushCells (s.heap.push { cls:=.type "dict",data:=.dict #[] }) scope.names }) :
    wpAny M A (newFunctionEnv scope env.globals cl [] env.qual none .none (some env)) Q E s:=by
  simp only [newFunctionEnv,Option.isSome_some,if_true]
  refine wpAny_bind (wpAny_alloc ?_)
  refine wpAny_bind (wpAny_layCells _ (fun name kind cells=>by cases hkc:kind == NameKind.cell <;> simp [hkc]) _ _ _ _ ?_)
  rw [show ({ s with heap:=s.heap.push { cls:=.type "dict",data:=.dict #[] } }:Shared).heap.objs.size = s.heap.objs.size + 1 from Heap.size_push ..]
  rw [List.forIn_nil]
  exact wpAny_bind (wpAny_pure (wpAny_pure h))
noncomputable def compOk (scope:Scope) (ns gs:List Str):Bool:=
  scope.kind == .function && decide ns.Nodup && decide (scope.names.map (·.1)).Nodup &&
  ns.all (fun x=>(scope.names.lookup x == some .local || scope.names.lookup x == some .cell) && !(x == ("__debug__":Str)) && !(x == ("__classdict__":Str))) &&
  gs.all (fun x=>scope.names.lookup x == some .globalImplicit && !(x == ("__debug__":Str))) &&
  decide ((cellsFrom 0 scope.names []).map (·.1)).Nodup &&
  (frees scope).all (fun x=>!((cellsFrom 0 scope.names []).map (·.1)).contains x && scope.names.lookup x == some .free && !(x == ("__debug__":Str)))
def FroOk (c:Cx) (x:Str) (v:Value):Prop:=c.env.kindOf x = some .cell∧(x == ("__debug__":Str)) = false∧∃ a o,c.env.cells.lookup x = some a∧(a,o) ∈ c.fs∧o.data = .cell (some v)
theorem lookup_append_l {α:Type} {x:Str} {r:List (Str × α)}:∀ {l:List (Str × α)} {a:α},l.lookup x = some a→(l ++ r).lookup x = some a
  | (y,v) :: l,a,h=>by
    rw [List.lookup_cons] at h
    rw [List.cons_append,List.lookup_cons]
    cases hb:x == y with
    | true=>rw [hb] at h; exact h
    | false=>rw [hb] at h; exact lookup_append_l h
theorem lookup_append_r {α:Type} {x:Str} {r:List (Str × α)}:∀ {l:List (Str × α)},x ∉ l.map (·.1)→(l ++ r).lookup x = r.lookup x
  | [],_=>rfl
  | (y,v) :: l,h=>by
    have h1:x ≠ y:=fun q=>h (q ▸ .head _)
    have:(x == y) = false:=by simpa using h1
    rw [List.cons_append,List.lookup_cons,this]
    exact lookup_append_r fun q=>h (.tail _ q)
structure CompF (scope:Scope) (ns gs:List Str):Prop where
  hk:scope.kind = .function
  hnn:ns.Nodup
  hsn:(scope.names.map (·.1)).Nodup
  hns1:∀ x ∈ ns,((scope.names.lookup x = some .local∨scope.names.lookup x = some .cell)∧(x == ("__debug__":Str)) = false)∧(x == ("__classdict__":Str)) = false
  hgs1:∀ x ∈ gs,scope.names.lookup x = some .globalImplicit∧(x == ("__debug__":Str)) = false
  hcn:((cellsFrom 0 scope.names []).map (·.1)).Nodup
  hfr1:∀ x ∈ frees scope,(((cellsFrom 0 scope.names []).map (·.1)).contains x = false∧scope.names.lookup x = some .free)∧(x == ("__debug__":Str)) = false
theorem compOk_is {scope:Scope} {ns gs:List Str} (h:compOk scope ns gs = true):CompF scope ns gs:=by
  simp only [compOk,Bool.and_eq_true,decide_eq_true_eq,Bool.not_eq_true',List.all_eq_true,Bool.or_eq_true,beq_iff_eq] at h
  obtain ⟨⟨⟨⟨⟨⟨hk,hnn⟩,hsn⟩,hns1⟩,hgs1⟩,hcn⟩,hfr1⟩:=h
  exact ⟨hk,hnn,hsn,hns1,hgs1,hcn,hfr1⟩
section
variable {e:E0} {c:Cx} {ns ns':List Str} {gs gs':List (Str × Value)} {vs vs':List (Option Value)} {M M' I I':Led} {s:Shared} {E:Value→Shared→Prop}
theorem name_fro {x:Str} {pos:Pos} {v:Value} {Q:Value→Shared→Prop} (ok:CxOk e c ns gs) (hs:St e c ns vs M I s) (h:FroOk c x v) (k:Q v s) :
    wpAny (model e.prog e.w) c.A (eval (.Name x pos) c.env) Q E s:=by
  refine hs.open fun m cm cl F CA N nd Lc=>?_
  obtain ⟨hk,hd,a,o,ha,hm,ho⟩:=h
  have:=N.get (List.mem_append.mpr (.inr (List.mem_append.mpr (.inr (List.mem_append.mpr (.inr hm))))))
  exact wpAny_Name (wpAny_loadName_cell ok.kf hk ha ⟨o,this,ho⟩ k) hd
def CapOk (c:Cx) (ns:List Str) (vs:List (Option Value)) (x:Str) (v:Value):Prop:=c.env.kindOf x = some .cell∧(AtN ns vs x v∨FroOk c x v)
inductive CompIn (e:E0) (c:Cx) (ns ns':List Str) (gs':List (Str × Value)) (vs:List (Option Value)) (M I:Led) (s:Shared) (scope:Scope) (cap:List (Str × Value)) (h₁:Heap):Prop
  | mk (c':Cx):c'.A = c.A→c'.env = compEnvC scope (cellsFrom (s.heap.objs.size + 1) scope.names (clos c.env scope)) s.heap.objs.size c.env→c'.L = s.heap.objs.size→c'.room = c.room→
      CxOk e c' ns' gs'→(∀ p ∈ cap,FroOk c' p.1 p.2)→(∀ x k,scope.names.lookup x = some k→k ≠ .free→c'.env.kindOf x = some k)→
      St e c' ns' (ns'.map fun _=>none) M I { s with heap:=h₁ }→
      (∀ vs' M' I' s',St e c' ns' vs' M' I' s'→∃ oC mC,s'.heap.Ns c'.L mC∧St e c ns vs ((c'.L,oC) :: M') I' s')→CompIn e c ns ns' gs' vs M I s scope cap h₁
theorem comp_enter {scope:Scope} {cap:List (Str × Value)} (ok:CxOk e c ns gs) (hs:St e c ns vs M I s) (hsc:compOk scope ns' (gs'.map (·.1)) = true) (hgl:∀ p ∈ gs',Gl e p.1 p.2)
    (hcap:∀ p ∈ cap,CapOk c ns vs p.1 p.2) (hfr:frees scope = cap.map (·.1)) :
    CompIn e c ns ns' gs' vs M I s scope cap (pushCells (s.heap.push { cls:=.type "dict",data:=.dict #[] }) scope.names):=by
  refine hs.open fun m cm cl F CA N nd Lc=>?_
  obtain ⟨hk,hnn,hsn,hns1,hgs1,hcn,hfr1⟩:=compOk_is hsc
  have hkeep:=F.keep
  generalize hh1:pushCells (s.heap.push { cls:=.type "dict",data:=.dict #[] }) scope.names = h₁
  have hsz:(s.heap.push { cls:=.type "dict",data:=.dict #[] }).objs.size = s.heap.objs.size + 1:=Heap.size_push ..
  have hok:=cellsFrom_ok scope.names (s.heap.push { cls:=.type "dict",data:=.dict #[] }) (s.heap.objs.size + 1) [] ⟨fun _ _ hm=>(nomatch hm),List.Pairwise.nil⟩ (by rw [hsz]; exact Nat.le_refl _)
  rw [hsz,hh1] at hok
  have hk₁:∀ b o,s.heap.get? b = some o→h₁.get? b = some o:=fun b o q=>hh1 ▸ pushCells_keeps _ _ b o (Heap.get?_push_of_some _ q)
  have hns₁:h₁.Ns s.heap.objs.size fun _=>none:=hh1 ▸ (Heap.Ns.new s.heap (.type "dict")).keeps (pushCells_keeps _ _)
  have hcn':((cellsFrom (s.heap.objs.size + 1) scope.names []).map (·.1)).Nodup:=cellsFrom_names scope.names 0 (s.heap.objs.size + 1) [] [] rfl ▸ hcn
  obtain ⟨cells,NC,Y⟩:=Cl.news (cm:=fun _=>none) (h₀:=s.heap) (Nat.le_refl _) fun n c hm=>⟨(hok.empty n c hm).1,(hok.empty n c hm).2⟩
  refine ns_open F.ns fun oL hL hNs=>?_
  have hLs:c.L < s.heap.objs.size:=Heap.lt_size hL
  have hH0:e.H0.objs.size ≤ s.heap.objs.size:=Nat.le_trans F.above (Nat.le_of_lt hLs)
  have hcad:=cells_gt Y fun n c hm=>(hok.empty n c hm).2
  have ecl:cellsFrom (s.heap.objs.size + 1) scope.names (clos c.env scope) = cellsFrom (s.heap.objs.size + 1) scope.names [] ++ clos c.env scope:=cellsFrom_app _ _ _
  refine ⟨⟨c.A,s.heap.objs.size,compEnvC scope (cellsFrom (s.heap.objs.size + 1) scope.names (clos c.env scope)) s.heap.objs.size c.env,(c.L,oL) :: (cl ++ c.fs),cellsFrom (s.heap.objs.size + 1) scope.names [],c.room⟩,
    rfl,rfl,rfl,rfl,?_,?_,?_,?_,?_⟩
  · refine ⟨ok.amb,hk,rfl,ok.eg,ok.eb,fun y hy=>?_,hnn,fun y hy=>⟨(hns1 y hy).1.2,(hns1 y hy).2⟩,hcn',fun x a hx=>?_,fun p hp=>?_,ok.dep,ok.uni,ok.hnd⟩
    · rcases (hns1 y hy).1.1 with q | q
      · refine .inl ?_
        show (relabel scope c.env).names.lookup y = _
        unfold relabel; rw [lookup_relabel,q]; rfl
      · refine .inr ⟨?_,cellsFrom_some _ _ _ (.inl q)⟩
        show (relabel scope c.env).names.lookup y = _
        unfold relabel; rw [lookup_relabel,q]; rfl
    · show (cellsFrom (s.heap.objs.size + 1) scope.names (clos c.env scope)).lookup x = _
      rw [ecl]; exact lookup_append_l hx
    · have:=hgs1 p.1 (List.mem_map_of_mem hp)
      refine ⟨?_,this.2,hgl p hp⟩
      show (relabel scope c.env).names.lookup p.1 = _
      unfold relabel; rw [lookup_relabel,this.1]; rfl
  · intro p hp
    have hf:=hfr1 p.1 (by rw [hfr]; exact List.mem_map_of_mem hp)
    have hc:=hcap p hp
    refine ⟨?_,hf.2,?_⟩
    · show (relabel scope c.env).names.lookup p.1 = _
      unfold relabel; rw [lookup_relabel,hf.1.2]
      simp [ok.kf,hc.1]
    · have hno:p.1 ∉ (cellsFrom (s.heap.objs.size + 1) scope.names []).map (·.1):=by
        rw [cellsFrom_names scope.names (s.heap.objs.size + 1) 0 [] [] rfl]
        simpa using hf.1.1
      have el:(cellsFrom (s.heap.objs.size + 1) scope.names (clos c.env scope)).lookup p.1 = some ((c.env.cells.lookup p.1).getD 0):=by
        rw [ecl,lookup_append_r hno,clos,closAcc_lookup _ _ hsn]
        rw [if_pos]
        show p.1 ∈ frees scope
        rw [hfr]; exact List.mem_map_of_mem hp
      show ∃ a o,(cellsFrom (s.heap.objs.size + 1) scope.names (clos c.env scope)).lookup p.1 = some a∧(a,o) ∈ (c.L,oL) :: (cl ++ c.fs)∧_
      rcases hc.2 with h | h
      · rcases ok.loc _ h.mem with q | ⟨_,q⟩
        · rw [hc.1] at q; cases q
        · obtain ⟨a,ha⟩:=Option.isSome_iff_exists.mp q
          obtain ⟨o,hm,hd'⟩:=cells_at CA ha
          rw [ok.hown _ _ ha] at el
          refine ⟨a,o,el,.tail _ (List.mem_append.mpr (.inl hm)),?_⟩
          rcases Lc _ _ h with ⟨k1,_⟩ | ⟨_,k2⟩
          · rw [hc.1] at k1; cases k1
          · rw [← k2]; exact hd'
      · obtain ⟨_,_,a,o,ha,hm,ho⟩:=h
        rw [ha] at el
        exact ⟨a,o,el,.tail _ (List.mem_append.mpr (.inr hm)),ho⟩
  · intro x k hx hkf
    show (relabel scope c.env).names.lookup x = _
    unfold relabel; rw [lookup_relabel,hx]
    have:(k == NameKind.free) = false:=by cases k <;> first | rfl | exact absurd rfl hkf
    rw [Option.map_some,this]; rfl
  · refine ⟨⟨_,_,cells,⟨hns₁,fun b o q=>hk₁ b o (hkeep b o q),hH0⟩,Y,news_frame N NC hk₁ hL F.above hcad,nd_frame nd (fun p hp=>⟨Heap.lt_size (N p hp).1,(N p hp).2.1⟩) hLs (cells_nd Y hok.apart) hcad,fun y u hy=>absurd hy atN_none⟩,hs.gens,hs.drawn,hs.os⟩
  · intro vs2 M2 I2 s'' S2
    refine S2.open fun m2 cm2 cl2 F2 CA2 N2 nd2 Lc2=>?_
    refine ns_open F2.ns fun oC hoC _=>⟨oC,m2,F2.ns,?_⟩
    have B:=nd_back (show ((M2 ++ (I2 ++ (cl2 ++ ((c.L,oL) :: (cl ++ c.fs))))).map (·.1)).Nodup from nd2)
    have key:∀ p ∈ M2 ++ (I2 ++ (cl ++ c.fs)),p ∈ M2 ++ (I2 ++ (cl2 ++ ((c.L,oL) :: (cl ++ c.fs)))):=led_sub
    refine ⟨⟨m,cm,cl,⟨hNs _ (N2 _ led_L).1,F2.keep,F.above⟩,CA,fun p hp=>?_,List.nodup_cons.mpr ⟨fun q=>?_,B.2⟩,Lc⟩,S2.gens,S2.drawn,S2.os⟩
    · cases hp with
      | head=>
        refine ⟨hoC,Nat.ne_of_gt hLs,?_⟩
        cases q:e.H0.get? s.heap.objs.size with
        | none=>rfl
        | some o=>exact absurd (Nat.lt_of_lt_of_le (Heap.lt_size q) hH0) (Nat.lt_irrefl _)
      | tail _ hp=>exact ⟨(N2 p (key p hp)).1,B.1 p hp,(N2 p (key p hp)).2.2⟩
    · obtain ⟨p,hp,hq⟩:=List.mem_map.mp q
      exact (N2 p (key p hp)).2.1 hq
end
end
section
def TestK (M:Model) (A:Around) (env:Env) (ifs:List PySem.Expr) (K:Bool→Shared→Prop) (s:Shared):Prop:=
  match ifs with
  | []=>K true s
  | [t]=>wpAny M A (isTrue t env (eval t env)) K noE s
  | _=>False
theorem testK_run {prog:Program} {w:World} {A:Around} {env:Env} {K:Bool→Shared→Prop} {s:Shared} {ifs:List PySem.Expr} (h:TestK (model prog w) A env ifs K s) :
    wpAny (model prog w) A (forIn ifs true fun c r=>if r = true then do let ok ← isTrue c env (eval c env); pure (ForInStep.yield ok) else pure (ForInStep.yield r)) K noE s:=by
  cases ifs with
  | nil=>exact wpAny_tests_nil h
  | cons t r=>cases r with
    | nil=>exact wpAny_tests_one h
    | cons _ _=>exact h.elim
theorem test_mono {M:Model} {A:Around} {env:Env} {K K':Bool→Shared→Prop} {s:Shared} {ifs:List PySem.Expr} (h:TestK M A env ifs K s) (k:∀ b s,K b s→K' b s):TestK M A env ifs K' s:=by
  cases ifs with
  | nil=>exact k _ _ h
  | cons t r=>cases r with
    | nil=>exact wpAny_mono h (fun b s=>k b s) fun _ _ x=>x
    | cons _ _=>exact h.elim
def appK (M:Model) (A:Around) (elt:PySem.Expr) (acc:Value) (env:Env) (R:Shared→Prop) (b:Bool) (s:Shared):Prop:=
  match b with
  | true=>wpAny M A (eval elt env) (fun x s₁=>wpAny M A (call (.builtin "list.append") [acc,x]) (fun _ s₂=>R s₂) noE s₁) noE s
  | false=>R s
section
variable {prog:Program} {w:World} {A:Around} {s:Shared} {env:Env}
theorem comp_turn {elt target iter:PySem.Expr} {ifs:List PySem.Expr} {scope:Scope} {pos:Pos} {it acc:Value} {R:Result→Shared→Prop}
    (h:wpAny (model prog w) A (pyNext it) (fun r s₁=>match r with
      | none=>R (.ok .next) s₁
      | some v=>wpAny (model prog w) A (letOwnedTupleGo target it v) (fun _ s₂=>wpAny (model prog w) A (assign target env v) (fun _ s₃=>
          TestK (model prog w) A env ifs (appK (model prog w) A elt acc env fun s₅=>codeAny (model prog w) A (.compLoop (.ListComp elt [⟨target,iter,ifs,0⟩] scope pos) 0 it acc env) R s₅) s₃) noE s₂) noE s₁) noE s) :
    codeAny (model prog w) A (.compLoop (.ListComp elt [⟨target,iter,ifs,0⟩] scope pos) 0 it acc env) R s:=by
  refine codeAny_of_tree ?_
  show wpAny _ A ((compTurn (.ListComp elt [⟨target,iter,ifs,0⟩] scope pos) 0 it acc env).onRaise (fun x=>do noteFrame x env; theTreesLotGoes x)) _ _ s
  refine wpAny_noted ?_
  rw [compTurn_list]
  refine wpAny_bind (wpAny_standAt (wpAny_bind (wpAny_mono h (fun r s₁ h₁=>?_) fun _ _ x=>x.elim)))
  cases r with
  | none=>exact wpAny_pure h₁
  | some v=>
    refine wpAny_bind (wpAny_mono h₁ (fun _ s₂ h₂=>?_) fun _ _ x=>x.elim)
    refine wpAny_bind (wpAny_mono h₂ (fun _ s₃ h₃=>?_) fun _ _ x=>x.elim)
    have fin:∀ ok s₄,appK (model prog w) A elt acc env (fun s₅=>codeAny (model prog w) A (.compLoop (.ListComp elt [⟨target,iter,ifs,0⟩] scope pos) 0 it acc env) R s₅) ok s₄→
        wpAny (model prog w) A (do
          if ok then (do let _ ← call (.builtin "list.append") [acc,← eval elt env])
          again (.compLoop (.ListComp elt [⟨target,iter,ifs,0⟩] scope pos) 0 it acc env))
          (fun fin s'=>match fin with | PySem.Fin.done f=>R (.ok f) s' | PySem.Fin.again c'=>c'.quiet = true∧codeAny (model prog w) A c' R s') (notedBy (model prog w) A env fun e s'=>R (.error e) s') s₄:=by
      intro ok s₄ hk
      cases ok with
      | false=>exact wpAny_pure ⟨rfl,hk⟩
      | true=>
        exact wpAny_bind (wpAny_bind (wpAny_mono hk (fun x s₄ h₄=>wpAny_bind (wpAny_mono h₄ (fun _ s₅ h₅=>wpAny_pure (wpAny_pure ⟨rfl,h₅⟩)) fun _ _ h'=>h'.elim)) fun _ _ h'=>h'.elim))
    exact wpAny_bind (wpAny_mono (testK_run h₃) (fun ok s₄ h₄=>fin ok s₄ h₄) fun _ _ x=>x.elim)
end
def CompK (e:E0) (c:Cx) (elt target iter:PySem.Expr) (ifs:List PySem.Expr) (scope:Scope) (pos:Pos) (use:Option (Value→Sem Unit)) (Q:Value→Shared→Prop) (E:Value→Shared→Prop) (it:Value) (s:Shared):Prop:=
  wpAny (model e.prog e.w) c.A (newList []) (fun acc s₁=>wpAny (model e.prog e.w) c.A (newFunctionEnv scope c.env.globals (clos c.env scope) [] c.env.qual none .none (some c.env)) (fun cenv s₂=>
    codeAny (model e.prog e.w) c.A (.compStart (.ListComp elt [⟨target,iter,ifs,0⟩] scope pos) 0 it acc { cenv with scope:=relabel scope c.env }) (compPost (model e.prog e.w) c.A E use Q acc cenv.locals) s₂) E s₁) E s
noncomputable def compPre (scope:Scope):Bool:=scope.kind == .function && scope.names.all (fun x=>!(x.2 == .local) || scope.names.lookup x.1 == some .local)
section
variable {e:E0} {c:Cx} {ns ns':List Str} {gs gs':List (Str × Value)} {vs vs':List (Option Value)} {M M' I I':Led} {s:Shared} {E:Value→Shared→Prop}
theorem g_ListComp {elt target iter:PySem.Expr} {ifs:List PySem.Expr} {scope:Scope} {pos:Pos} {Q:Value→Shared→Prop} (hf:∀ x ∈ frees scope,(c.env.cells.lookup x).isSome = true) (hp:compPre scope = true)
    (h:wpAny (model e.prog e.w) c.A (eval iter c.env) (fun x s₁=>wpAny (model e.prog e.w) c.A (pyIter x) (CompK e c elt target iter ifs scope pos none Q E) E s₁) E s)
    (hs:∀ x,foldedSetIterable iter c.env x = pure x:=by intro _; rfl) :
    wpAny (model e.prog e.w) c.A (eval (.ListComp elt [⟨target,iter,ifs,0⟩] scope pos) c.env) Q E s:=by
  simp only [compPre,Bool.and_eq_true,beq_iff_eq,List.all_eq_true,Bool.or_eq_true,Bool.not_eq_true'] at hp
  rw [eval_ListComp]
  exact wpAny_comprehension_free (use:=none) rfl hs (closure_is hf) hp.1 (fun x hx hl=>by
    rcases hp.2 x hx with q | q
    · rw [hl] at q; cases q
    · exact q) h
theorem g_AssignComp {elt target iter:PySem.Expr} {ifs:List PySem.Expr} {scope:Scope} {pos spos py:Pos} {y:Str} {Q:Flow→Shared→Prop} (hf:∀ x ∈ frees scope,(c.env.cells.lookup x).isSome = true) (hp:compPre scope = true)
    (hsw:swapsWith (.ListComp elt [⟨target,iter,ifs,0⟩] scope pos) (some (.Name y py)) spos.line c.env = pure true)
    (h:wpAny (model e.prog e.w) c.A (eval iter c.env) (fun x s₁=>wpAny (model e.prog e.w) c.A (pyIter x) (CompK e c elt target iter ifs scope pos (some (assign (.Name y py) c.env)) (fun _ s'=>Q .next s') E) E s₁) E s)
    (hs:∀ x,foldedSetIterable iter c.env x = pure x:=by intro _; rfl) :
    wpAny (model e.prog e.w) c.A (exec (.Assign [.Name y py] (.ListComp elt [⟨target,iter,ifs,0⟩] scope pos) spos) c.env) Q E s:=by
  simp only [compPre,Bool.and_eq_true,beq_iff_eq,List.all_eq_true,Bool.or_eq_true,Bool.not_eq_true'] at hp
  rw [exec_Assign_Name_used _ _ _ _ hsw]
  refine wpAny_bind (wpAny_standAt (wpAny_bind ?_))
  show wpAny _ c.A (do let _ ← comprehension (.ListComp elt [⟨target,iter,ifs,0⟩] scope pos) scope c.env _ (newList []) false (eval iter c.env) (some (assign (.Name y py) c.env))) _ _ s
  exact wpAny_bind (wpAny_mono (wpAny_comprehension_free (use:=some (assign (.Name y py) c.env)) (Q:=fun _ s'=>Q .next s') rfl hs (closure_is hf) hp.1 (fun x hx hl=>by
    rcases hp.2 x hx with q | q
    · rw [hl] at q; cases q
    · exact q) h) (fun _ s' hq=>wpAny_pure (wpAny_pure hq)) fun _ _ e=>e)
inductive CompEnd (e:E0) (c':Cx) (ns':List Str) (it acc:Addr) (Io:Nat→Obj→Prop) (P:Nat→List Value→List (Option Value)→Led→Led→Prop) (i:Nat) (ys:List Value) (s:Shared):Prop
  | mk (vs M I o m):P (i + 1) ys vs M I→Io (i + 1) o→St e c' ns' vs ((it,o) :: (acc,listO ys m) :: M) I s→CompEnd e c' ns' it acc Io P i ys s
def CompTurn (e:E0) (c':Cx) (ns':List Str) (it acc:Addr) (Io:Nat→Obj→Prop) (P:Nat→List Value→List (Option Value)→Led→Led→Prop) (i:Nat) (ys:List Value) (elt:PySem.Expr) (b:Bool) (s:Shared):Prop:=
  match b with
  | true=>wpAny (model e.prog e.w) c'.A (eval elt c'.env) (fun v s₁=>CompEnd e c' ns' it acc Io (fun j zs vs M I=>zs = ys∧P j (ys ++ [v]) vs M I) i ys s₁) noE s
  | false=>CompEnd e c' ns' it acc Io P i ys s
theorem comp_go {elt target iter:PySem.Expr} {ifs:List PySem.Expr} {scope:Scope} {pos:Pos} {use:Option (Value→Sem Unit)} {Q:Value→Shared→Prop} {cap:List (Str × Value)}
    {it:Addr} {Io:Nat→Obj→Prop} {n:Nat} {X:Nat→Value→Prop} {Src:Heap→Prop} {o:Obj}
    (P:Nat→List Value→List (Option Value)→Led→Led→Prop) (ok:CxOk e c ns gs) (sp:IterSpec e it Io n X Src) (hs:St e c ns vs ((it,o) :: M) I s) (ho:Io 0 o)
    (hsc:compOk scope ns' (gs'.map (·.1)) = true) (hgl:∀ p ∈ gs',Gl e p.1 p.2) (hcap:∀ p ∈ cap,CapOk c ns vs p.1 p.2) (hfr:frees scope = cap.map (·.1))
    (h0:P 0 [] (ns'.map fun _=>none) M I) (hn:n ≤ sizeLine)
    (hsrc:∀ c' i ys vs M I o m acc s,P i ys vs M I→Io i o→St e c' ns' vs ((it,o) :: (acc,listO ys m) :: M) I s→Src s.heap)
    (step:∀ c' acc,CxOk e c' ns' gs'→(∀ p ∈ cap,FroOk c' p.1 p.2)→(∀ x k,scope.names.lookup x = some k→k ≠ .free→c'.env.kindOf x = some k)→c'.room = c.room→∀ i x ys vs M I o m s,i < n→X i x→P i ys vs M I→Io (i + 1) o→
      St e c' ns' vs ((it,o) :: (acc,listO ys m) :: M) I s→
      wpAny (model e.prog e.w) c'.A (assign target c'.env x) (fun _ s₁=>TestK (model e.prog e.w) c'.A c'.env ifs (CompTurn e c' ns' it acc Io P i ys elt) s₁) noE s)
    (fin:∀ acc C oC mC ys vs' M I m s,P n ys vs' M I→s.heap.Ns C mC→St e c ns vs ((acc,listO ys m) :: (C,oC) :: M) I s→compPost (model e.prog e.w) c.A E use Q (.ref acc) C (.ok .next) s) :
    CompK e c elt target iter ifs scope pos use Q E (.ref it) s:=by
  refine new_list hs (Nat.zero_le _) fun acc s₁ hs₁=>?_
  refine comp_newEnv ?_
  obtain ⟨c',hA,henv,hL,hroom,ok',fro,hK,hs',leave⟩:=comp_enter ok hs₁ hsc hgl hcap hfr
  generalize hh:({ s₁ with heap:=pushCells (s₁.heap.push { cls:=.type "dict",data:=.dict #[] }) scope.names }:Shared) = s₂ at hs'
  show codeAny _ _ (.compStart _ 0 _ _ (compEnvC scope (cellsFrom (s₁.heap.objs.size + 1) scope.names (clos c.env scope)) s₁.heap.objs.size c.env)) (compPost (model e.prog e.w) c.A E use Q (.ref acc) s₁.heap.objs.size) s₂
  rw [← henv,← hL,← hA]
  have hs2:St e c' ns' (ns'.map fun _=>none) ((it,o) :: (acc,listO [] 0) :: M) I s₂:=hs'.perm (List.Perm.append_right _ (List.Perm.swap _ _ _))
  have loop:codeAny (model e.prog e.w) c'.A (.compLoop (.ListComp elt [⟨target,iter,ifs,0⟩] scope pos) 0 (.ref it) (.ref acc) c'.env) (compPost (model e.prog e.w) c'.A E use Q (.ref acc) c'.L) s₂:=by
    have all:∀ k i,i + k = n→∀ ys vs M I o m s,ys.length ≤ i→P i ys vs M I→Io i o→St e c' ns' vs ((it,o) :: (acc,listO ys m) :: M) I s→
        codeAny (model e.prog e.w) c'.A (.compLoop (.ListComp elt [⟨target,iter,ifs,0⟩] scope pos) 0 (.ref it) (.ref acc) c'.env) (compPost (model e.prog e.w) c'.A E use Q (.ref acc) c'.L) s:=by
      intro k
      induction k with
      | zero=>
        intro i hi ys vs M I o m s hlen hP hIo hs
        have hi:i = n:=hi
        subst hi
        refine comp_turn (sp.fin _ o s _ _ ok'.hnd hIo (hs.has (.head _)) (hsrc _ _ _ _ _ _ _ _ _ _ hP hIo hs) fun h' t hx=>?_)
        obtain ⟨oC,mC,hNs,hS⟩:=leave _ _ _ _ (hs.ext .head hx (t:=t))
        rw [hA]
        exact fin acc c'.L oC mC ys vs M I m _ hP hNs (hS.perm (List.Perm.append_right _ (List.Perm.swap _ _ _)))
      | succ k ih=>
        intro i hi ys vs M I o m s hlen hP hIo hs
        have hi':i < n:=by lia
        refine comp_turn (sp.item _ i o s _ _ hi' hIo (hs.has (.head _)) (hsrc _ _ _ _ _ _ _ _ _ _ hP hIo hs) fun x o' h' t hx hIo' hsb hg=>?_)
        obtain ⟨T,fs,hc,hd,hT⟩:=sp.cls _ _ hIo'
        refine letGo_off (hg:({ s with heap:=h',toks:=t }:Shared).heap.get? it = some o') hc hd hT ?_
        refine wpAny_mono (step c' acc ok' fro hK hroom i x ys vs M I o' m _ hi' hx hP hIo' (hs.setAt .head hsb hg)) (fun _ s₃ h₃=>?_) fun _ _ x=>x
        have fin:∀ b s₄,CompTurn e c' ns' it acc Io P i ys elt b s₄→appK (model e.prog e.w) c'.A elt (.ref acc) c'.env (fun s₅=>codeAny (model e.prog e.w) c'.A (.compLoop (.ListComp elt [⟨target,iter,ifs,0⟩] scope pos) 0 (.ref it) (.ref acc) c'.env) (compPost (model e.prog e.w) c'.A E use Q (.ref acc) c'.L) s₅) b s₄:=by
          intro b s₄ h₄
          cases b with
          | false=>
            obtain ⟨vs2,M2,I2,o2,m2,hP2,hI2,hs2⟩:=h₄
            exact ih (i + 1) (by lia) _ _ _ _ _ _ _ (by lia) hP2 hI2 hs2
          | true=>
            refine wpAny_mono h₄ (fun v s₅ h₅=>?_) fun _ _ x=>x
            obtain ⟨vs2,M2,I2,o2,m2,⟨_,hP2⟩,hI2,hs2⟩:=h₅
            refine list_append hs2 (.tail .head) (by lia) fun s₆ hs₆=>?_
            exact ih (i + 1) (by lia) _ _ _ _ _ _ _ (by rw [List.length_append]; exact Nat.succ_le_succ hlen) hP2 hI2 hs₆
        exact test_mono h₃ fin
    exact all n 0 (Nat.zero_add n) _ _ _ _ _ _ _ (Nat.le_refl _) h0 ho hs2
  exact codeAny_compStart_list loop (sp.self _ _ _ _ _ ho (hs2.has (.head _)) loop)
theorem St.loseC {C:Addr} {oC:Obj} {h':Heap} {t:Nat} (hs:St e c ns vs M I s) (hp:Pick (C,oC) M M') (h:Heap.SameBut C s.heap h'):St e c ns vs M' I { s with heap:=h',toks:=t }:=hs.ext hp h.extBut
theorem comp_post_none {acc C:Addr} {oC:Obj} {mC:Str→Option Value} {ys:List Value} {m:Nat} {Q:Value→Shared→Prop} (hN:s.heap.Ns C mC) (hs:St e c ns vs ((acc,listO ys m) :: (C,oC) :: M) I s)
    (h:∀ s',St e c ns vs ((acc,listO ys m) :: M) I s'→Q (.ref acc) s'):compPost (model e.prog e.w) c.A E none Q (.ref acc) C (.ok .next) s:=
  ⟨mC,hN,fun h' hsb=>h _ (hs.loseC (t:=s.toks) (.tail .head) hsb)⟩
theorem comp_post_assign {acc C:Addr} {oC:Obj} {mC:Str→Option Value} {ys:List Value} {m:Nat} {y:Str} {py:Pos} {Q:Value→Shared→Prop} (ok:CxOk e c ns gs) (hN:s.heap.Ns C mC) (hs:St e c ns vs ((acc,listO ys m) :: (C,oC) :: M) I s)
    (hy:SetN ns vs y (.ref acc) vs') (h:∀ s',St e c ns vs' ((acc,listO ys m) :: M) I s'→Q .none s'):compPost (model e.prog e.w) c.A E (some (assign (.Name y py) c.env)) Q (.ref acc) C (.ok .next) s:=by
  show wpAny _ _ (assign (.Name y py) c.env (.ref acc)) _ _ _
  have hC:=hs.has (.tail _ (.head _))
  refine wpAny_assign_Name (store ok hs hy fun s' hs'=>?_)
  have hC':=hs'.has (.tail _ (.head _))
  obtain ⟨o,es,ep,ho,r⟩:=hN
  rw [hC] at ho; cases ho
  exact ⟨mC,⟨_,es,ep,hC',r⟩,fun h' hsb=>h _ (hs'.loseC (t:=s'.toks) (.tail .head) hsb)⟩
end
end
section
section
variable {e:E0} {c:Cx} {ns:List Str} {gs:List (Str × Value)} {vs vs':List (Option Value)} {M M' I I':Led} {s:Shared} {E:Value→Shared→Prop}
theorem St.keeps {h':Heap} {t:Nat} (hs:St e c ns vs M I s) (k:∀ b o,s.heap.get? b = some o→h'.get? b = some o):St e c ns vs M I { s with heap:=h',toks:=t }:=by
  refine hs.open fun m cm cl F CA N nd Lc=>?_
  obtain ⟨oL,es,ep,hL,r⟩:=F.ns
  exact ⟨⟨m,cm,cl,⟨⟨oL,es,ep,k _ _ hL,r⟩,fun b ob eb=>k _ _ (F.keep b ob eb),F.above⟩,CA,fun p hp=>⟨k _ _ (N p hp).1,(N p hp).2⟩,nd,Lc⟩,hs.gens,hs.drawn,hs.os⟩
theorem St.more {h':Heap} {t:Nat} (hs:St e c ns vs M I s) (hx:Heap.ExtBut s.heap.objs.size s.heap h'):St e c ns vs M I { s with heap:=h',toks:=t }:=
  hs.keeps fun b o eb=>hx b o (Nat.ne_of_lt (Heap.lt_size eb)) eb
def RGo (a:Int) (n:Nat) (i:Nat) (o:Obj):Prop:=o = { cls:=.type "range_iterator",data:=.fields #[rawInt (a + i),rawInt ((n:Int) - i),rawInt 1] }
theorem spec_range {it:Addr} {a:Int} {n:Nat}:IterSpec e it (RGo a n) n (fun i x=>∃ t,x = .int (a + i) t) (fun _=>True) where
  self:=fun A o s Q E hI ho h=>by subst hI; exact wpAny_pyIter_rangeiter ho h
  cls:=fun i o h=>by subst h; exact ⟨"range_iterator",_,rfl,rfl,by decide⟩
  item:=fun A i o s Q E hi hIo ho _ k=>by
    subst hIo
    refine wpAny_pyNext_range_item ho (by lia) fun h' hit hsb=>?_
    refine k _ _ h' _ ⟨_,rfl⟩ ?_ hsb hit
    show _ = _
    have e1:a + (i:Int) + 1 = a + ((i + 1:Nat):Int):=by push_cast; lia
    have e2:(n:Int) - (i:Int) - 1 = (n:Int) - ((i + 1:Nat):Int):=by push_cast; lia
    rw [e1,e2]
  fin:=fun A o s Q E hh hIo ho _ k=>by
    subst hIo
    exact wpAny_pyNext_range_end hh ho (by lia) fun h' hx=>k h' s.toks hx
def RngO (a b:Int) (o:Obj):Prop:=∃ t u v,o = { cls:=.type "range",data:=.fields #[.int a t,.int b u,.int 1 v] }
theorem call_range1 {n:Int} {t:Tok} {Q:Value→Shared→Prop} (hs:St e c ns vs M I s) (h:∀ r o s',RngO 0 n o→St e c ns vs ((r,o) :: M) I s'→Q (.ref r) s') :
    wpAny (model e.prog e.w) c.A (call (.type "range") [.int n t]) Q E s:=call_range_1 (h _ _ _ ⟨_,_,_,rfl⟩ (hs.push rfl _))
theorem call_range2 {a n:Int} {t u:Tok} {Q:Value→Shared→Prop} (hs:St e c ns vs M I s) (h:∀ r o s',RngO a n o→St e c ns vs ((r,o) :: M) I s'→Q (.ref r) s') :
    wpAny (model e.prog e.w) c.A (call (.type "range") [.int a t,.int n u]) Q E s:=call_range_2 (h _ _ _ ⟨_,_,_,rfl⟩ (hs.push rfl _))
theorem iter_range {r:Addr} {o:Obj} {a b:Int} {Q:Value→Shared→Prop} (hs:St e c ns vs ((r,o) :: M) I s) (ho:RngO a b o) (hz:0 ≤ a∧a < 2 ^ 60∧0 ≤ b∧b < 2 ^ 60)
    (h:∀ it n o' s',n = (b - a).toNat→RGo a n 0 o'→St e c ns vs ((it,o') :: M) I s'→Q (.ref it) s'):wpAny (model e.prog e.w) c.A (pyIter (.ref r)) Q E s:=by
  obtain ⟨t,u,v,rfl⟩:=ho
  have hr:=hs.has (.head _)
  have hs2:=hs.drop .head
  refine wpAny_pyIter_range hr (small_one (by lia) (by lia) (by lia) (by lia)) (h _ _ _ _ rfl ?_ (hs2.push rfl s.toks))
  have:Builtin.Range.rangeSize a b 1 = (((b - a).toNat:Nat):Int):=by
    rw [rangeSize_one]; split <;> lia
  show _ = _
  rw [this]; simp
def RVo (l:Addr) (n:Nat) (i:Nat) (o:Obj):Prop:=o.cls = .type "list_reverseiterator"∧o.data = .fields #[.ref l,rawInt ((n:Int) - 1 - i)]
theorem spec_rev {it l:Addr} {xs:List Value}:IterSpec e it (RVo l xs.length) xs.length (fun i x=>xs.reverse[i]? = some x) (fun h=>h.IsList l xs.toArray) where
  self:=fun A o s Q E hI ho h=>wpAny_pyIter_revIter ⟨o,ho,hI.1,hI.2⟩ h
  cls:=fun i o h=>⟨_,_,h.1,h.2,by decide⟩
  item:=fun A i o s Q E hi hIo ho hsrc k=>by
    have e:(xs.length:Int) - 1 - (i:Int) = ((xs.length - 1 - i:Nat):Int):=by lia
    have hit:s.heap.IsRevIter it l ((xs.length - 1 - i:Nat):Int):=by rw [← e]; exact ⟨o,ho,hIo.1,hIo.2⟩
    have hlt:xs.length - 1 - i < xs.length:=by lia
    have hx:xs.toArray[xs.length - 1 - i]? = some (xs[xs.length - 1 - i]):=by simp [hlt]
    refine wpAny_pyNext_rev_item hit hsrc hx fun h' hit' hsb=>?_
    have e2:((xs.length - 1 - i:Nat):Int) - 1 = (xs.length:Int) - 1 - ((i + 1:Nat):Int):=by lia
    rw [e2] at hit'
    obtain ⟨o',ho',hc,hd⟩:=hit'
    refine k _ o' h' s.toks ?_ ⟨hc,hd⟩ hsb ho'
    rw [List.getElem?_reverse hi,List.getElem?_eq_getElem hlt]
  fin:=fun A o s Q E hh hIo ho _ k=>by
    have e:(xs.length:Int) - 1 - (xs.length:Int) = -1:=by lia
    exact wpAny_pyNext_rev_end hh (l:=l) (by rw [← e]; exact ⟨o,ho,hIo.1,hIo.2⟩) fun h' hx=>k h' s.toks hx
theorem call_reversed {l:Addr} {xs:List Value} {n:Nat} {Q:Value→Shared→Prop} (hs:St e c ns vs M I s) (ho:s.heap.get? l = some (listO xs n)) (h:∀ it o s',RVo l xs.length 0 o→St e c ns vs ((it,o) :: M) I s'→Q (.ref it) s') :
    wpAny (model e.prog e.w) c.A (call (.type "reversed") [.ref l]) Q E s:=by
  refine call_reversed_list (isL ho) (h _ _ _ ⟨rfl,?_⟩ (hs.push rfl s.toks))
  simp [revObj]
theorem iter_rev {it l:Addr} {xs:List Value} {o:Obj} {Q:Value→Shared→Prop} (hs:St e c ns vs ((it,o) :: M) I s) (ho:RVo l xs.length 0 o) (h:Q (.ref it) s):wpAny (model e.prog e.w) c.A (pyIter (.ref it)) Q E s:=
  (spec_rev (l:=l) (xs:=xs)).self _ o s _ _ ho (hs.has (.head _)) h
def TPo (l:Addr) (i:Nat) (o:Obj):Prop:=o.cls = .type "tuple_iterator"∧o.data = .fields #[.ref l,.int i 0]
theorem isTu {d:Addr} {xs:List Value} {n:Nat} (h:s.heap.get? d = some (tupO xs n)):s.heap.IsTuple d xs.toArray:=⟨_,h,rfl,n,rfl⟩
theorem spec_tup {it l:Addr} {xs:List Value}:IterSpec e it (TPo l) xs.length (fun i x=>xs[i]? = some x) (fun h=>h.IsTuple l xs.toArray) where
  self:=fun A o s Q E hI ho h=>wpAny_pyIter_tupleiter (i:=0) (t:=l) ⟨o,ho,hI.1,hI.2⟩ h
  cls:=fun i o h=>⟨_,_,h.1,h.2,by decide⟩
  item:=fun A i o s Q E hi hIo ho hsrc k=>by
    obtain ⟨x,hx⟩:∃ x,xs[i]? = some x:=⟨xs[i],List.getElem?_eq_getElem hi⟩
    refine wpAny_pyNext_tuple_item (i:=i) (t:=l) ⟨o,ho,hIo.1,hIo.2⟩ hsrc (by simpa using hx) fun h' hit hsb=>?_
    obtain ⟨o',ho',hc,hd⟩:=hit
    exact k x o' h' s.toks hx ⟨hc,hd⟩ hsb ho'
  fin:=fun A o s Q E hh hIo ho hsrc k=>wpAny_pyNext_tuple_end hh ⟨o,ho,hIo.1,hIo.2⟩ hsrc (by simp) fun h' hx=>k h' s.toks hx
theorem iter_tup {l:Addr} {xs:List Value} {n:Nat} {Q:Value→Shared→Prop} (hs:St e c ns vs M I s) (ho:s.heap.get? l = some (tupO xs n)) (h:∀ it o s',TPo l 0 o→St e c ns vs ((it,o) :: M) I s'→Q (.ref it) s') :
    wpAny (model e.prog e.w) c.A (pyIter (.ref l)) Q E s:=wpAny_pyIter_tuple (isTu ho) (h _ _ _ ⟨rfl,rfl⟩ (hs.push rfl s.toks))
def KYo (l:Addr) (n ep:Nat) (i:Nat) (o:Obj):Prop:=o.cls = .type "dict_keyiterator"∧o.data = .fields #[.ref l,.int i 0,.int n 0,.int ep 0]
theorem spec_keys {it l:Addr} {kvs:List (Str × Value)} {ep:Nat}:IterSpec e it (KYo l kvs.length ep) kvs.length (fun i x=>∃ k v t,kvs[i]? = some (k,v)∧x = .str k t) (fun h=>h.DictAt (PySem.strKind e.prog e.w) l kvs ep) where
  self:=fun A o s Q E hI ho h=>wpAny_pyIter_keyiter (i:=0) (d:=l) (n:=kvs.length) (ep:=ep) ⟨o,ho,hI.1,hI.2⟩ h
  cls:=fun i o h=>⟨_,_,h.1,h.2,by decide⟩
  item:=fun A i o s Q E hi hIo ho hsrc k=>by
    have hx:kvs[i]? = some (kvs[i].1,kvs[i].2):=List.getElem?_eq_getElem hi
    refine wpAny_pyNext_dict_item ⟨o,ho,hIo.1,hIo.2⟩ hsrc hx fun key h' hk hit hsb=>?_
    obtain ⟨o',ho',hc,hd⟩:=hit
    obtain ⟨t,rfl⟩:∃ t,key = .str kvs[i].1 t:=Value.isStrOf_shape hk
    exact k _ o' h' s.toks ⟨_,_,_,hx,rfl⟩ ⟨hc,hd⟩ hsb ho'
  fin:=fun A o s Q E hh hIo ho hsrc k=>wpAny_pyNext_dict_end hh ⟨o,ho,hIo.1,hIo.2⟩ hsrc (by simp) fun h' hx=>k h' s.toks hx
theorem a_pair {a b:Str} {pa pb tp:Pos} {kk:Nat} {T:Addr} {x y:Value} {n:Nat} {Q:Unit→Shared→Prop} (ok:CxOk e c ns gs) (hs:St e c ns vs M I s) (ht:s.heap.get? T = some (tupO [x,y] n))
    (h:∀ s',St e c ns vs M I s'→wpAny (model e.prog e.w) c.A (storeName c.env a x) (fun _ s₁=>wpAny (model e.prog e.w) c.A (storeName c.env b y) Q E s₁) E s') :
    wpAny (model e.prog e.w) c.A (assign (.Tuple [.Name a pa,.Name b pb] kk tp) c.env (.ref T)) Q E s:=by
  refine PySem.wpAny_assign_Tuple ok.hnd (isTu ht) rfl rfl fun h₁ he₁=>?_
  show wpAny _ _ (assignInOrder [assign (.Name a pa) c.env,assign (.Name b pb) c.env] [x,y]) _ _ _
  refine assignInOrder_cons (wpAny_assign_Name (wpAny_mono (h _ (hs.more (t:=s.toks) he₁)) (fun _ s₁ h₁=>?_) fun _ _ x=>x))
  exact assignInOrder_cons (wpAny_assign_Name (wpAny_mono h₁ (fun _ s₁ h₁=>assignInOrder_nil h₁) fun _ _ x=>x))
theorem a_triple {a b d:Str} {pa pb pd tp:Pos} {kk:Nat} {T:Addr} {x y z:Value} {n:Nat} {Q:Unit→Shared→Prop} (ok:CxOk e c ns gs) (hs:St e c ns vs M I s) (ht:s.heap.get? T = some (tupO [x,y,z] n))
    (h:∀ s',St e c ns vs M I s'→wpAny (model e.prog e.w) c.A (storeName c.env a x) (fun _ s₁=>wpAny (model e.prog e.w) c.A (storeName c.env b y) (fun _ s₂=>wpAny (model e.prog e.w) c.A (storeName c.env d z) Q E s₂) E s₁) E s') :
    wpAny (model e.prog e.w) c.A (assign (.Tuple [.Name a pa,.Name b pb,.Name d pd] kk tp) c.env (.ref T)) Q E s:=by
  refine PySem.wpAny_assign_Tuple ok.hnd (isTu ht) rfl rfl fun h₁ he₁=>?_
  show wpAny _ _ (assignInOrder [assign (.Name a pa) c.env,assign (.Name b pb) c.env,assign (.Name d pd) c.env] [x,y,z]) _ _ _
  refine assignInOrder_cons (wpAny_assign_Name (wpAny_mono (h _ (hs.more (t:=s.toks) he₁)) (fun _ s₁ h₁=>?_) fun _ _ x=>x))
  refine assignInOrder_cons (wpAny_assign_Name (wpAny_mono h₁ (fun _ s₁ h₁=>?_) fun _ _ x=>x))
  exact assignInOrder_cons (wpAny_assign_Name (wpAny_mono h₁ (fun _ s₁ h₁=>assignInOrder_nil h₁) fun _ _ x=>x))
theorem g_AssignTup {elts:List PySem.Expr} {k:Nat} {tpos:Pos} {value:PySem.Expr} {pos:Pos} {Q:Flow→Shared→Prop}
    (h:wpAny (model e.prog e.w) c.A (eval value c.env) (fun v s₁=>wpAny (model e.prog e.w) c.A (assign (.Tuple elts k tpos) c.env v) (fun _=>Q .next) E s₁) E s)
    (hs:swapsWithSole [.Tuple elts k tpos] value pos.line c.env = pure false:=by rfl) (hw:swappedStores [.Tuple elts k tpos] value c.env = pure none:=by rfl) :
    wpAny (model e.prog e.w) c.A (exec (.Assign [.Tuple elts k tpos] value pos) c.env) Q E s:=Assign_Tuple h hs hw
end
end
section
abbrev slO (l u:Value):Obj:={ cls:=.type "slice",data:=.fields #[l,u,.none] }
def SlK (l u:Value) (Q:Value→Shared→Prop) (s:Shared):Prop:=Q (.ref s.heap.objs.size) { s with heap:=s.heap.push (slO l u) }
section
variable {M:Model} {A:Around} {E:Value→Shared→Prop} {s:Shared} {env:Env}
theorem g_Slice {lower upper:Option PySem.Expr} {p:Pos} {Q:Value→Shared→Prop} (h:wpAny M A (evalPart lower env) (fun l s₁=>wpAny M A (evalPart upper env) (fun u s₂=>SlK l u Q s₂) E s₁) E s) :
    wpAny M A (eval (.Slice lower upper none p) env) Q E s:=
  wpAny_Slice (wpAny_mono h (fun l s₁ h₁=>wpAny_mono h₁ (fun u s₂ h₂=>by rw [evalPart_none]; exact wpAny_pure h₂) fun _ _ x=>x) fun _ _ x=>x)
theorem p_none {Q:Value→Shared→Prop} (h:Q .none s):wpAny M A (evalPart none env) Q E s:=by rw [evalPart_none]; exact wpAny_pure h
theorem p_some {x:PySem.Expr} {Q:Value→Shared→Prop} (h:wpAny M A (eval x env) Q E s):wpAny M A (evalPart (some x) env) Q E s:=by rw [evalPart_some]; exact h
end
theorem str_eq {x y:Str}:(x.cps.toList == y.cps.toList) = decide (x = y):=by
  obtain ⟨⟨x⟩⟩:=x
  obtain ⟨⟨y⟩⟩:=y
  simp only [Str.mk.injEq,Array.mk.injEq]
  by_cases h:x = y
  · subst h; simp
  · simp [h]
section
variable {e:E0} {c:Cx} {ns:List Str} {gs:List (Str × Value)} {vs vs':List (Option Value)} {M M' I I':Led} {s:Shared} {E:Value→Shared→Prop}
theorem slk_in {l u:Value} {Q:Value→Shared→Prop} (hs:St e c ns vs M I s) (h:∀ a s',St e c ns vs M ((a,slO l u) :: I) s'→Q (.ref a) s'):SlK l u Q s:=h _ _ (hs.pushI rfl s.toks)
theorem slice_at {value slice:PySem.Expr} {l sl:Addr} {xs:List Value} {n:Nat} {vl vu:Value} {lo hi:Option Int} {Q:Value→Shared→Prop} (hs:St e c ns vs M I s) (ho:s.heap.get? l = some (listO xs n)) (hsl:(sl,slO vl vu) ∈ I)
    (pl:IsPart vl lo) (pu:IsPart vu hi) (hz:xs.length ≤ sizeLine) (h:∀ a s',St e c ns vs ((a,listO (kms_pick xs lo hi) 0) :: M) I s'→Q (.ref a) s')
    (hsub:subscripted slice false (.ref l) (.ref sl) = operate [.ref sl,.ref l] (getItem (.ref l) (.ref sl)):=by with_unfolding_all rfl) :
    wpAny (model e.prog e.w) c.A (subscriptTail value slice (.ref l) (.ref sl)) Q E s:=by
  have hsl':=hs.hasI hsl
  refine tail_any (isL ho).typeIs slot_list_getitem.lookup (wpAny_getItem_list_slice (isL ho) ⟨_,hsl',rfl,rfl⟩ pl pu .none (by simp) ?_ (by simpa using hz)) hsub
  rw [kms_pick_eq]
  exact h _ _ (hs.push rfl s.toks)
theorem add_list {l b:Addr} {xs ys:List Value} {n k:Nat} {Q:Value→Shared→Prop} (hs:St e c ns vs M I s) (ho:s.heap.get? l = some (listO xs n)) (hb:s.heap.get? b = some (listO ys k)) (hz:xs.length + ys.length ≤ sizeLine)
    (h:∀ a s',St e c ns vs ((a,listO (xs ++ ys) 0) :: M) I s'→Q (.ref a) s'):wpAny (model e.prog e.w) c.A (binaryOp .Add (.ref l) (.ref b)) Q E s:=by
  refine P.add_list (items:=xs.toArray) (items2:=ys.toArray) ho hb ?_ (by simpa using hz)
  rw [show xs.toArray ++ ys.toArray = (xs ++ ys).toArray by simp]
  exact h _ _ (hs.push rfl s.toks)
theorem add_tup {l b:Addr} {xs ys:List Value} {n k:Nat} {Q:Value→Shared→Prop} (hs:St e c ns vs M I s) (ho:(l,tupO xs n) ∈ I) (hb:(b,tupO ys k) ∈ I) (hz:xs.length + ys.length ≤ sizeLine)
    (h:∀ a n' I' s',Sub I I'→(a,tupO (xs ++ ys) n') ∈ I'→St e c ns vs M I' s'→Q (.ref a) s'):wpAny (model e.prog e.w) c.A (binaryOp .Add (.ref l) (.ref b)) Q E s:=by
  refine hs.open fun m cm cl F CA N nd Lc=>?_
  refine add_tuples F N (isT (hs.hasI ho)) (isT (hs.hasI hb)) (fun h0=>?_) (fun _ h1=>?_) (fun _ _ h' F' N'=>?_) hz
  · subst h0; exact h b k I s Sub.refl hb hs
  · subst h1; exact h l n I s Sub.refl (by rw [List.append_nil]; exact ho) hs
  · refine h _ 0 ((s.heap.objs.size,tupO (xs ++ ys) 0) :: I) _ Sub.one (.head _) (St.freeze ?_ .head)
    exact hs.new (t:=s.toks) CA nd Lc F' N' fun p hp=>Heap.lt_size (N p hp).1
theorem tup_of_list {l:Addr} {xs:List Value} {n:Nat} {Q:Value→Shared→Prop} (hs:St e c ns vs M I s) (ho:s.heap.get? l = some (listO xs n)) (hz:xs.length ≤ sizeLine)
    (h:∀ a s',St e c ns vs M ((a,tupO xs 0) :: I) s'→Q (.ref a) s'):wpAny (model e.prog e.w) c.A (call (.type "tuple") [.ref l]) Q E s:=by
  refine call_tuple_list (isL ho) (fun h' hk=>?_) (by simpa using hz)
  have hs':=hs.keeps (t:=s.toks) hk
  exact h _ _ (hs'.pushI rfl s.toks)
theorem St.grown {a:Addr} {o:Obj} {h':Heap} {t:Nat} (hs:St e c ns vs M I s) (k:∀ b o,s.heap.get? b = some o→h'.get? b = some o) (hn:h'.get? a = some o) (ha:s.heap.objs.size ≤ a) :
    St e c ns vs ((a,o) :: M) I { s with heap:=h',toks:=t }:=by
  refine hs.open fun m cm cl F CA N nd Lc=>?_
  obtain ⟨oL,es,ep,hL,r⟩:=F.ns
  have hLs:c.L < s.heap.objs.size:=Heap.lt_size hL
  refine ⟨⟨m,cm,cl,⟨⟨oL,es,ep,k _ _ hL,r⟩,fun b ob eb=>k _ _ (F.keep b ob eb),F.above⟩,CA,fun p hp=>?_,List.nodup_cons.mpr ⟨fun q=>?_,nd⟩,Lc⟩,hs.gens,hs.drawn,hs.os⟩
  · rcases List.mem_cons.mp hp with rfl | hp
    · refine ⟨hn,Nat.ne_of_gt (Nat.lt_of_lt_of_le hLs ha),?_⟩
      cases q:e.H0.get? a with
      | none=>rfl
      | some o=>exact absurd (Nat.lt_of_lt_of_le (Heap.lt_size q) (Nat.le_trans F.above (Nat.le_trans (Nat.le_of_lt hLs) ha))) (Nat.lt_irrefl _)
    · exact ⟨k _ _ (N p hp).1,(N p hp).2⟩
  · obtain ⟨p,hp,hq⟩:=List.mem_map.mp q
    exact absurd (Heap.lt_size (N p hp).1) (by rw [show p.1 = a from hq]; exact Nat.not_lt.mpr ha)
theorem list_of_list {l:Addr} {xs:List Value} {n:Nat} {Q:Value→Shared→Prop} (hs:St e c ns vs M I s) (ho:s.heap.get? l = some (listO xs n)) (hz:xs.length ≤ sizeLine)
    (h:∀ a k s',St e c ns vs ((a,listO xs k) :: M) I s'→Q (.ref a) s'):wpAny (model e.prog e.w) c.A (call (.type "list") [.ref l]) Q E s:=
  call_list_seq l (.inl rfl) ho rfl rfl (fun h' c' hk hn=>h _ c' _ (hs.grown (t:=s.toks) hk hn (Nat.le_refl _))) (by simpa using hz)
theorem list_extend {l b:Addr} {xs ys:List Value} {n k:Nat} {Q:Value→Shared→Prop} (hs:St e c ns vs M I s) {Mf:Nat→Led} (hp:∀ n',Put l (listO xs n) (listO (xs ++ ys) n') M (Mf n')) (hb:s.heap.get? b = some (listO ys k)) (hz:xs.length + ys.length ≤ 100000)
    (h:∀ n' s',St e c ns vs (Mf n') I s'→Q .none s'):wpAny (model e.prog e.w) c.A (call (.builtin "list.extend") [.ref l,.ref b]) Q E s:=by
  have ho:=hs.has (hp 0).mem
  have hz':=sizeLine_eq
  refine call_meets PySem.F.slot_list_extend (isL ho).typeIs PySem.F.entry_list_extend (PySem.F.args_list_extend_2 _ _)
    (AutoSeq1.list_extend_list_list_0 l xs.toArray n b ys.toArray k ?_ ?_ ?_) ⟨ho,hb,h (if ys = [] then n else n + 1) _ (hs.setAt (t:=s.toks) (hp _) (Heap.SameBut.update ..) ?_)⟩
  · simp only [List.size_toArray,Builtin.List.listTooLong,Bool.and_eq_true,decide_eq_true_eq,not_and]
    intro _; lia
  · rw [List.size_toArray]; lia
  · rw [List.size_toArray,List.size_toArray]; lia
  · rw [Heap.get?_update_self _ ho rfl]
    by_cases hy:ys = []
    · simp [Obj.mapSeq,listO,hy]
    · simp [Obj.mapSeq,listO,hy]
theorem sorted_list {l:Addr} {xs:List Value} {ss:List Str} {n:Nat} {Q:Value→Shared→Prop} (hs:St e c ns vs M I s) (ho:s.heap.get? l = some (listO xs n)) (hS:StrsAre xs ss) (h64:xs.length < 64)
    (h:∀ a out ss' k s',StrsAre out ss'→ss'.Perm ss→St e c ns vs ((a,listO out k) :: M) I s'→Q (.ref a) s'):wpAny (model e.prog e.w) c.A (call (.builtin "sorted") [.ref l]) Q E s:=by
  refine PyProof.Rows.sorted_strs (isL ho) hS h64 fun out ss' h1 h2 _=>?_
  obtain ⟨k,hk⟩:=sortedAll_at s.heap xs out
  exact h _ out.toList ss' k _ h1 h2 (hs.grown (t:=s.toks) (fun _ _=>sortedAll_old) hk (Nat.le_succ _))
theorem sorted_dict {d:Addr} {o:Obj} {kvs:List (Str × Value)} {Q:Value→Shared→Prop} (ok:CxOk e c ns gs) (hs:St e c ns vs M I s) (ho:s.heap.get? d = some o) (hd:DO e d o kvs) (h64:kvs.length < 64)
    (h:∀ a out ss' k s',StrsAre out ss'→ss'.Perm (kvs.map (·.1))→St e c ns vs ((a,listO out k) :: M) I s'→Q (.ref a) s'):wpAny (model e.prog e.w) c.A (call (.builtin "sorted") [.ref d]) Q E s:=by
  refine hs.open fun m cm cl F CA N nd Lc=>?_
  obtain ⟨ep,hat⟩:=(hd.at ho).dictAt
  have hz:=sizeLine_eq
  refine kdu_sorted (kdl_dict (knd:=PySem.strKind e.prog e.w) (kvs:=kvs) (ep:=ep) hd.1) ok.hnd F N hat (by lia) fun D h' tk xs F' N' l1 hl hv=>?_
  have hs1:St e c ns vs ((D,listO xs 0) :: M) I { s with heap:=h',toks:=tk }:=hs.new CA nd Lc F' N' l1
  have hS:StrsAre xs (kvs.map (·.1)):=by
    have h1:∀ v,v ∈ xs→∃ x t,v = .str x t:=fun v hv'=>by
      obtain ⟨j,hj⟩:=List.getElem?_of_mem hv'
      obtain ⟨k,x,hx,hk⟩:=hv j v hj
      obtain ⟨t,rfl⟩:=Value.isStrOf_shape hk
      exact ⟨_,_,rfl⟩
    have h2:=strsAre_map xs h1
    have h3:xs.map strOf = kvs.map (·.1):=by
      refine List.ext_getElem? fun j=>?_
      rw [List.getElem?_map,List.getElem?_map]
      cases hj:xs[j]? with
      | none=>
        have:kvs[j]? = none:=by rw [List.getElem?_eq_none_iff] at hj ⊢; lia
        rw [this]; rfl
      | some v=>
        obtain ⟨k,x,hx,hk⟩:=hv j v hj
        obtain ⟨t,rfl⟩:=Value.isStrOf_shape hk
        rw [hx]; rfl
    rw [← h3]; exact h2
  have hoL:h'.get? D = some (listO xs 0):=hs1.has (.head _)
  refine wpAny_call_entry slot_list_sort ⟨_,hoL,rfl⟩ entry_list_sort (list_sort_treeK strKind_oneLt hoL hS.keysOf (fun v₁ v₂ rest q=>keyKind_strs (by rw [← q]; exact hS)) (by rw [hl]; exact h64) fun st' a1 a2=>⟨_,rfl,?_⟩) (args_list_sort _)
  obtain ⟨ss',b1,b2,_⟩:=sorted_out_str hS a1 a2
  generalize (arrOf st').map (·.2) = out at b1
  have g1:=hs1.setAt (o':=seqObj "list" #[] (if xs = [] then 0 else 1)) (t:=tk) .head (Heap.SameBut.update (f:=Obj.mapSeq fun _=>#[]) ..) (by
    rw [Heap.get?_update_self _ hoL rfl]
    by_cases hy:xs = []
    · simp [Obj.mapSeq,listO,hy,seqObj]
    · simp [Obj.mapSeq,listO,hy,seqObj]
      exact fun q=>hy (List.length_eq_zero_iff.mp q.symm))
  have g2:=(g1.push (o:=seqObj "tuple" xs.toArray 0) rfl tk).drop .head
  have g3:=(g2.push (o:=seqObj "list" #[] 0) rfl tk).drop .head
  obtain ⟨k,hk⟩:∃ k,(sortedHeap h' D xs out).get? D = some (listO out.toList k):=by
    have:=g3.has (.head _)
    refine ⟨if out = #[] then (if xs = [] then 0 else 1) else (if xs = [] then 0 else 1) + 1,?_⟩
    unfold sortedHeap
    rw [Heap.get?_update_self _ this (by rfl)]
    by_cases hy:out = #[]
    · simp [Obj.mapSeq,listO,hy,seqObj]
    · have hy':¬ (#[]:Array Value) = out:=fun q=>hy q.symm
      simp [Obj.mapSeq,listO,hy,hy',seqObj]
  exact h D out.toList ss' k _ b1 b2 (g3.setAt (o':=listO out.toList k) (t:=tk) .head (Heap.SameBut.update (f:=Obj.mapSeq fun _=>out) ..) hk)
theorem e_str {A:Around} {x y:Str} {t u:Tok}:SeqAt.EqAt A s (.str x t) (.str y u) (decide (x = y)):=fun prog w E Q hq=>wpAny_eqBool_str hq
theorem e_same {A:Around} {v:Value}:SeqAt.EqAt A s v v true:=SeqAt.EqAt.same v
theorem strs_any {xs:List Value} {ss:List Str} {k:Str} (hS:StrsAre xs ss):(xs.toArray.any fun y=>decide (strOf y = k)) = decide (k ∈ ss):=by
  have h1:(xs.toArray.any fun y=>decide (strOf y = k)) = xs.any fun y=>decide (strOf y = k):=List.any_toArray ..
  rw [h1]
  apply Bool.eq_iff_iff.mpr
  rw [List.any_eq_true,decide_eq_true_iff,← hS.strs]
  constructor
  · rintro ⟨x,hx,hk⟩
    exact List.mem_map.mpr ⟨x,hx,of_decide_eq_true hk⟩
  · intro h
    obtain ⟨x,hx,hk⟩:=List.mem_map.mp h
    exact ⟨x,hx,decide_eq_true hk⟩
theorem in_strs {l:Addr} {xs:List Value} {ss:List Str} {n:Nat} {k:Str} {t:Tok} {Q:Value→Shared→Prop} (ho:s.heap.get? l = some (listO xs n)) (hS:StrsAre xs ss) (h:Q (.bool (decide (k ∈ ss))) s) :
    wpAny (model e.prog e.w) c.A (compareOp .In (.str k t) (.ref l)) Q E s:=by
  refine SeqAt.in_listAt (fun y=>decide (strOf y = k)) (isL ho) (fun y hy=>?_) ?_
  · obtain ⟨x,u,rfl⟩:=hS.all y (by simpa using hy)
    exact e_str
  · have:(xs.toArray.any fun y=>decide (strOf y = k)) = decide (k ∈ ss):=by
      exact strs_any hS
    rw [this]; exact h
theorem notin_strs {l:Addr} {xs:List Value} {ss:List Str} {n:Nat} {k:Str} {t:Tok} {Q:Value→Shared→Prop} (ho:s.heap.get? l = some (listO xs n)) (hS:StrsAre xs ss) (h:Q (.bool (!decide (k ∈ ss))) s) :
    wpAny (model e.prog e.w) c.A (compareOp .NotIn (.str k t) (.ref l)) Q E s:=by
  refine SeqAt.notIn_listAt (fun y=>decide (strOf y = k)) (isL ho) (fun y hy=>?_) ?_
  · obtain ⟨x,u,rfl⟩:=hS.all y (by simpa using hy)
    exact e_str
  · have:(xs.toArray.any fun y=>decide (strOf y = k)) = decide (k ∈ ss):=by
      exact strs_any hS
    rw [this]; exact h
end
end
section
section
variable {e:E0} {c:Cx} {ns:List Str} {gs:List (Str × Value)} {vs vs':List (Option Value)} {M M' I I':Led} {s:Shared} {E:Value→Shared→Prop}
theorem c_eq_str {x y:Str} {t u:Tok} {Q:Value→Shared→Prop} (k:Q (.bool (decide (x = y))) s):wpAny (model e.prog e.w) c.A (compareOp .Eq (.str x t) (.str y u)) Q E s:=
  P.eq_str (by rw [str_eq]; exact k)
theorem add_str {x y:Str} {t u:Tok} {Q:Value→Shared→Prop} (hs:St e c ns vs M I s) (hz:x.length + y.length ≤ sizeLine) (k:∀ t s',St e c ns vs M I s'→Q (.str (x ++ y) t) s') :
    wpAny (model e.prog e.w) c.A (binaryOp .Add (.str x t) (.str y u)) Q E s:=P.add_str (SB.post_add hz fun t' j=>k t' _ (hs.tok j))
theorem str_int {a:Int} {t:Tok} {Q:Value→Shared→Prop} (hs:St e c ns vs M I s) (ha:a.natAbs < 2 ^ 1900) (k:∀ t s',St e c ns vs M I s'→Q (.str (toString a) t) s') :
    wpAny (model e.prog e.w) c.A (call (.type "str") [.int a t]) Q E s:=P.str_of_int (by
      by_cases h0:a.natAbs = 0
      · rw [h0]; decide
      · have:=(Nat.log2_lt h0).mpr ha
        lia) (k _ _ (hs.tok _))
theorem str_rfind {x y:Str} {t u:Tok} {Q:Value→Shared→Prop} (hs:St e c ns vs M I s) (k:∀ t s',St e c ns vs M I s'→Q (.int (Txt.rfind x y) t) s') :
    wpAny (model e.prog e.w) c.A (call (.builtin "str.rfind") [.str x t,.str y u]) Q E s:=
  call_gives PySem.F.slot_str_rfind (typeIs_str _ _ _) PySem.F.entry_str_rfind (PySem.F.args_str_rfind_2 _ _) (gives_str_rfind x y t u) (k _ _ (hs.tok _))
theorem is_none_ref {a:Addr} {Q:Value→Shared→Prop} (k:Q (.bool false) s):wpAny (model e.prog e.w) c.A (compareOp .Is (.ref a) .none) Q E s:=wpAny_is_other rfl (by intro z; cases z) k
theorem is_none_none {Q:Value→Shared→Prop} (k:Q (.bool true) s):wpAny (model e.prog e.w) c.A (compareOp .Is .none .none) Q E s:=wpAny_is_self rfl k
theorem is_self {a:Addr} {Q:Value→Shared→Prop} (k:Q (.bool true) s):wpAny (model e.prog e.w) c.A (compareOp .Is (.ref a) (.ref a)) Q E s:=wpAny_is_ref_self k
theorem is_other {a b C dx:Addr} {ob:Obj} {Q:Value→Shared→Prop} (hab:a ≠ b) (ha:s.heap.get? a = some (instObj C dx)) (hb:s.heap.get? b = some ob) (k:Q (.bool false) s) :
    wpAny (model e.prog e.w) c.A (compareOp .Is (.ref a) (.ref b)) Q E s:=wpAny_is_ref_other hab ha hb (by intro z; cases z) k
theorem e_int {A:Around} {a b:Int} {t u:Tok}:SeqAt.EqAt A s (.int a t) (.int b u) (a == b):=by
  exact (MeetsSeq.EqGives.int a b t u).at _ _
theorem e_tup {A:Around} {a b:Addr} {xs ys:List Value} {n k:Nat} (ha:s.heap.get? a = some (tupO xs n)) (hb:s.heap.get? b = some (tupO ys k)) (hl:xs.length = ys.length) (hu:A.units < cLine)
    (h:∀ (j:Nat) (x y:Value),xs[j]? = some x→ys[j]? = some y→SeqAt.EqAt A.in1 s x y true):SeqAt.EqAt A s (.ref a) (.ref b) true:=by
  by_cases hab:a = b
  · subst hab; exact e_same
  · refine SeqAt.EqAt.of_refs hab ?_
    have:=SeqAt.RcAt.tuples (A:=A) (e:=fun _=>true) (isTu ha) (isTu hb) hu fun j h1 h2=>h j xs.toArray[j] ys.toArray[j] (by simp at h1 ⊢) (by simp at h2 ⊢)
    have e1:((List.range (min xs.toArray.size ys.toArray.size)).all (fun _=>true) && xs.toArray.size == ys.toArray.size) = true:=by simp [hl]
    rw [e1] at this
    exact this
theorem c_eq_tup {a b:Addr} {xs ys:List Value} {n k:Nat} {Q:Value→Shared→Prop} (ha:s.heap.get? a = some (tupO xs n)) (hb:s.heap.get? b = some (tupO ys k)) (hl:xs.length = ys.length) (hu:c.A.units < cLine)
    (h:∀ (j:Nat) (x y:Value),xs[j]? = some x→ys[j]? = some y→SeqAt.EqAt c.A.in1 s x y true) (k:Q (.bool true) s):wpAny (model e.prog e.w) c.A (compareOp .Eq (.ref a) (.ref b)) Q E s:=by
  have:=SeqAt.RcAt.tuples (A:=c.A) (e:=fun _=>true) (isTu ha) (isTu hb) hu fun j h1 h2=>h j xs.toArray[j] ys.toArray[j] (by simp at h1 ⊢) (by simp at h2 ⊢)
  have e1:((List.range (min xs.toArray.size ys.toArray.size)).all (fun _=>true) && xs.toArray.size == ys.toArray.size) = true:=by simp [hl]
  rw [e1] at this
  exact this e.prog e.w E Q k
theorem c_eq_tup0 {a b:Addr} {xs:List Value} {n k:Nat} {Q:Value→Shared→Prop} (ha:s.heap.get? a = some (tupO xs n)) (hb:s.heap.get? b = some (tupO [] k)) (hu:c.A.units < cLine)
    (k:Q (.bool xs.isEmpty) s):wpAny (model e.prog e.w) c.A (compareOp .Eq (.ref a) (.ref b)) Q E s:=by
  have:=SeqAt.RcAt.tuples (A:=c.A) (e:=fun _=>true) (isTu ha) (isTu hb) hu fun j h1 h2=>absurd h2 (by simp)
  have e1:((List.range (min xs.toArray.size ([]:List Value).toArray.size)).all (fun _=>true) && xs.toArray.size == ([]:List Value).toArray.size) = xs.isEmpty:=by cases xs <;> simp
  rw [e1] at this
  exact this e.prog e.w E Q k
theorem c_eq_list0 {a b:Addr} {xs:List Value} {n k:Nat} {Q:Value→Shared→Prop} (ha:s.heap.get? a = some (listO xs n)) (hb:s.heap.get? b = some (listO [] k)) (hu:c.A.units < cLine)
    (k:Q (.bool xs.isEmpty) s):wpAny (model e.prog e.w) c.A (compareOp .Eq (.ref a) (.ref b)) Q E s:=by
  cases xs with
  | nil=>
    have:=SeqAt.RcAt.lists (A:=c.A) (e:=fun _=>true) (isL ha) (isL hb) rfl hu fun j h1 h2=>absurd h2 (by simp)
    exact this e.prog e.w E Q k
  | cons x xs=>
    have:=SeqAt.RcAt.lists_lengths (A:=c.A) (isL ha) (isL hb) (by simp) hu
    exact this e.prog e.w E Q k
theorem c_ne_list0 {a b:Addr} {xs:List Value} {n k:Nat} {Q:Value→Shared→Prop} (ha:s.heap.get? a = some (listO xs n)) (hb:s.heap.get? b = some (listO [] k)) (hu:c.A.units + 8 < cLine)
    (k:Q (.bool (!xs.isEmpty)) s):wpAny (model e.prog e.w) c.A (compareOp .NotEq (.ref a) (.ref b)) Q E s:=by
  cases xs with
  | nil=>
    have:=SeqAt.RcNeAt.lists (A:=c.A) (e:=fun _=>true) (isL ha) (isL hb) rfl (by lia) fun j h1 h2=>absurd h2 (by simp)
    exact this e.prog e.w E Q k
  | cons x xs=>
    have:=SeqAt.RcNeAt.lists_lengths (A:=c.A) (isL ha) (isL hb) (by simp) (by lia)
    exact this e.prog e.w E Q k
theorem c_ne_listF {a b:Addr} {xs ys:List Value} {n k:Nat} {Q:Value→Shared→Prop} (ha:s.heap.get? a = some (listO xs n)) (hb:s.heap.get? b = some (listO ys k)) (hl:xs.length = ys.length) (hu:c.A.units < cLine)
    (h:∀ (j:Nat) (x y:Value),xs[j]? = some x→ys[j]? = some y→SeqAt.EqAt c.A.in1 s x y true) (k:Q (.bool false) s):wpAny (model e.prog e.w) c.A (compareOp .NotEq (.ref a) (.ref b)) Q E s:=by
  have:=SeqAt.RcNeAt.lists (A:=c.A) (e:=fun _=>true) (isL ha) (isL hb) (by simpa using hl) hu fun j h1 h2=>h j xs.toArray[j] ys.toArray[j] (by simp at h1 ⊢) (by simp at h2 ⊢)
  have e1:(!(List.range xs.toArray.size).all fun _=>true) = false:=by simp
  rw [e1] at this
  exact this e.prog e.w E Q k
theorem c_eq_listT {a b:Addr} {xs ys:List Value} {n k:Nat} {Q:Value→Shared→Prop} (ha:s.heap.get? a = some (listO xs n)) (hb:s.heap.get? b = some (listO ys k)) (hl:xs.length = ys.length) (hu:c.A.units < cLine)
    (h:∀ (j:Nat) (x y:Value),xs[j]? = some x→ys[j]? = some y→SeqAt.EqAt c.A.in1 s x y true) (k:Q (.bool true) s):wpAny (model e.prog e.w) c.A (compareOp .Eq (.ref a) (.ref b)) Q E s:=by
  have:=SeqAt.RcAt.lists (A:=c.A) (e:=fun _=>true) (isL ha) (isL hb) (by simpa using hl) hu fun j h1 h2=>h j xs.toArray[j] ys.toArray[j] (by simp at h1 ⊢) (by simp at h2 ⊢)
  have e1:((List.range xs.toArray.size).all fun _=>true) = true:=by simp
  rw [e1] at this
  exact this e.prog e.w E Q k
theorem any_list {l:Addr} {bs:List Bool} {n:Nat} {Q:Value→Shared→Prop} (ok:CxOk e c ns gs) (hs:St e c ns vs M I s) (ho:s.heap.get? l = some (listO (bs.map Value.bool) n)) (h:∀ s',St e c ns vs M I s'→Q (.bool (bs.any id)) s') :
    wpAny (model e.prog e.w) c.A (call (.builtin "any") [.ref l]) Q E s:=by
  refine call_any_walk (wpAny_pyIter_list (isL ho) ?_)
  have hlt:l < s.heap.objs.size:=Heap.lt_size ho
  refine ⟨_,_,_,_,_,_,fun i=>(bs[i]?).getD false,rfl,Walks.list (show c.A.in1.handled = none from ok.hnd) _ l (Nat.ne_of_lt hlt) (bs.map Value.bool).toArray,?_,?_,?_⟩
  · exact ⟨⟨_,Heap.get?_push_size _ rfl,rfl,rfl⟩,(isL ho).push _⟩
  · intro i v s Q E hi hq
    have:(bs.map Value.bool)[i]? = some v:=by simpa using hi
    rw [List.getElem?_map] at this
    cases hb:bs[i]? with
    | none=>rw [hb] at this; cases this
    | some b=>
      dsimp only at hq
      rw [hb] at this hq; cases this
      exact wpAny_truthy_bool hq
  · intro h' tk hk
    have e1:((List.range (bs.map Value.bool).toArray.size).any fun i=>(bs[i]?).getD false) = bs.any id:=by
      rw [Bool.eq_iff_iff,List.any_eq_true,List.any_eq_true]
      constructor
      · rintro ⟨i,hi,hb⟩
        cases hb':bs[i]? with
        | none=>rw [hb'] at hb; cases hb
        | some b=>rw [hb'] at hb; exact ⟨b,List.mem_of_getElem? hb',hb⟩
      · rintro ⟨b,hb,hb'⟩
        obtain ⟨i,hi⟩:=List.getElem?_of_mem hb
        refine ⟨i,?_,by rw [hi]; exact hb'⟩
        have:=(List.getElem?_eq_some_iff.mp hi).1
        simpa using this
    rw [e1]
    have hs1:=hs.push (o:={ cls:=.type "list_iterator",data:=.fields #[.ref l,.int 0 0] }) rfl s.toks
    refine h _ (hs.keeps (t:=tk) fun b o hb=>hk b o (fun q=>?_) (Heap.get?_push_of_some _ hb))
    have hb':=Heap.lt_size hb
    rw [List.mem_singleton.mp q] at hb'
    exact Nat.lt_irrefl _ hb'
end
end
section
noncomputable def selF (a n:Int) (p:Value × Nat):Option Value:=
  if (if (1:Int) > 0 then decide (a ≤ (p.2:Int)) && decide ((p.2:Int) < n) && (((p.2:Int) - a) % 1 == 0) else decide (n < (p.2:Int)) && decide ((p.2:Int) ≤ a) && ((a - (p.2:Int)) % (-1) == 0)) = true then none else some p.1
theorem selF_take:∀ (xs:List Value) (k:Nat) (a:Nat) (n:Nat),k + xs.length ≤ n→(xs.zipIdx k).filterMap (selF a n) = xs.take (a - k)
  | [],_,_,_,_=>by simp
  | x :: xs,k,a,n,h=>by
    simp only [List.length_cons] at h
    rw [List.zipIdx_cons,List.filterMap_cons,selF_take xs (k + 1) a n (by lia)]
    by_cases hk:a ≤ k
    · have e1:selF (a:Int) (n:Int) (x,k) = none:=by
        unfold selF
        rw [if_pos]
        simp only [show (1:Int) > 0 by decide,if_true,Int.emod_one]
        simp; lia
      rw [e1]
      have h1:a - k = 0:=by lia
      have h2:a - (k + 1) = 0:=by lia
      simp [h1,h2]
    · have e1:selF (a:Int) (n:Int) (x,k) = some x:=by
        unfold selF
        rw [if_neg]
        simp only [show (1:Int) > 0 by decide,if_true,Int.emod_one]
        simp; lia
      rw [e1]
      have h1:a - k = (a - (k + 1)) + 1:=by lia
      rw [h1]; simp
theorem mapSeq_list {f:Array Value→Array Value} {xs ys:List Value} {n:Nat} (h:f xs.toArray = ys.toArray):∃ n',(listO xs n).mapSeq f = listO ys n':=by
  refine ⟨if (f xs.toArray).size == xs.toArray.size then n else n + 1,?_⟩
  show ({ cls:=.type "list",data:=.seq (f xs.toArray) (if (f xs.toArray).size == xs.toArray.size then n else n + 1) }:Obj) = _
  generalize (if (f xs.toArray).size == xs.toArray.size then n else n + 1) = N
  rw [h]
section
variable {e:E0} {c:Cx} {ns:List Str} {gs:List (Str × Value)} {vs vs':List (Option Value)} {M M' I I':Led} {s:Shared} {E:Value→Shared→Prop}
theorem del_tail {l sl:Addr} {xs:List Value} {n:Nat} {a:Nat} {ta:Tok} {Mf:Nat→Led} {Q:Unit→Shared→Prop} (hs:St e c ns vs M I s) (hp:∀ n',Put l (listO xs n) (listO (xs.take a) n') M (Mf n')) (hsl:(sl,slO (.int a ta) .none) ∈ I)
    (ha:a ≤ xs.length) (hz:xs.length ≤ 100000) (h:∀ n' s',St e c ns vs (Mf n') I s'→Q () s'):wpAny (model e.prog e.w) c.A (delItem (.ref l) (.ref sl)) Q E s:=by
  have ho:=hs.has (hp 0).mem
  have hz':=sizeLine_eq
  have hsl':=hs.hasI hsl
  have hTs:s.TypeIs (.ref sl) "slice":=⟨_,hsl',rfl⟩
  refine wpAny_delItem_slot (isL ho).typeIs (by decide) PySem.F.slot_list_delitem (wpAny_call_entry PySem.F.slot_list_delitem (isL ho).typeIs PySem.F.entry_list_delitem ?_ (PySem.F.args_list_delitem_2 _ _))
  show wpAny _ _ (Builtin.List.listSubscript? (.ref sl) >>= _) _ _ s
  refine wpAny_bind ?_
  unfold Builtin.List.listSubscript?
  refine wpAny_bind (wpAny_specialOf hTs slice_no_index ?_)
  simp only [Option.isNone_none,if_true]
  refine wpAny_pure ?_
  show wpAny _ _ (typeOf (.ref sl) >>= _) _ _ s
  refine wpAny_bind (wpAny_typeOf hTs ?_)
  rw [if_neg (by decide)]
  rw [listSliceParts_eq]
  refine wpAny_bind (wpAny_bind (wpAny_field hsl' rfl (x:=.none) rfl (wpAny_bind (wpAny_listPart .none ?_))))
  rw [if_neg (show ¬ ((rawPart none == rawInt 0) = true) from Bool.false_ne_true)]
  refine wpAny_bind (wpAny_field hsl' rfl (x:=.int a ta) rfl (wpAny_bind (wpAny_listPart (.int a ta) ?_)))
  refine wpAny_bind (wpAny_field hsl' rfl (x:=.none) rfl (wpAny_bind (wpAny_listPart .none (wpAny_pure ?_))))
  refine wpAny_bind (m:=Builtin.List.listItems (.ref l)) ?_
  unfold Builtin.List.listItems
  refine wpAny_bind (wpAny_seqItems ho rfl (wpAny_pure ?_))
  refine wpAny_bind (wpAny_of_eq (sliceIndices_raw (some (a:Int)) none none xs.toArray.size (by simp)) ?_)
  refine wpAny_bind (wpAny_rule ?_)
  have eb:=kms_bounds (some (a:Int)) none xs.toArray.size
  rw [eb]
  have e1:kms_lo (some (a:Int)) xs.toArray.size = a:=by
    have:¬ ((a:Int) < 0):=by lia
    simp only [kms_lo,if_neg this,List.size_toArray,Int.toNat_natCast]; lia
  have e2:kms_hi none xs.toArray.size = xs.length:=by simp [kms_hi]
  rw [e1,e2]
  show wpAny _ _ (Builtin.List.listUpdate (.ref l) (fun ys=>(ys.toList.zipIdx.filterMap (selF a xs.length)).toArray) >>= _) _ _ s
  have ef:(fun ys:Array Value=>(ys.toList.zipIdx.filterMap (selF a xs.length)).toArray) xs.toArray = (xs.take a).toArray:=by
    have:=selF_take xs 0 a xs.length (by lia)
    simpa using this
  have ef':((xs.toArray.toList.zipIdx.filterMap (selF a xs.length)).toArray) = (xs.take a).toArray:=by
    have:=selF_take xs 0 a xs.length (by lia)
    simpa using this
  refine wpAny_bind (listUpdate_at (f:=fun ys=>(ys.toList.zipIdx.filterMap (selF a xs.length)).toArray) ho rfl ?_ (by rw [List.size_toArray]; lia) (by rw [ef',List.size_toArray,List.length_take]; lia))
  refine wpAny_bind (wpAny_letGo (wpAny_pure ⟨_,rfl,?_⟩))
  obtain ⟨n',hn'⟩:=mapSeq_list (f:=fun ys:Array Value=>(ys.toList.zipIdx.filterMap (selF a xs.length)).toArray) (n:=n) ef
  exact h n' _ (hs.setAt (t:=s.toks) (hp _) (Heap.SameBut.update (f:=Obj.mapSeq fun ys=>(ys.toList.zipIdx.filterMap (selF a xs.length)).toArray) ..) (by
    rw [Heap.get?_update_self _ ho rfl]
    exact congrArg some hn'))
theorem g_Delete {x i:PySem.Expr} {p pos:Pos} {Q:Flow→Shared→Prop}
    (h:wpAny (model e.prog e.w) c.A (eval x c.env) (fun ov s₁=>wpAny (model e.prog e.w) c.A (eval i c.env) (fun iv s₂=>wpAny (model e.prog e.w) c.A (delItem ov iv) (fun _=>Q .next) E s₂) E s₁) E s) :
    wpAny (model e.prog e.w) c.A (exec (.Delete [.Subscript x i p] pos) c.env) Q E s:=
  wpAny_Delete (wpAny_deleteEach_cons (wpAny_delete_Subscript (wpAny_mono h (fun _ _ h₁=>wpAny_mono h₁ (fun _ _ h₂=>wpAny_mono h₂ (fun _ _ h₃=>wpAny_deleteEach_nil h₃) fun _ _ x=>x) fun _ _ x=>x) fun _ _ x=>x)))
theorem load_loc {x:Str} {v:Value} {Q:Value→Shared→Prop} (ok:CxOk e c ns gs) (hs:St e c ns vs M I s) (h:AtN ns vs x v) (k:Q v s):wpAny (model e.prog e.w) c.A (loadName c.env x) Q E s:=by
  refine hs.open fun m cm cl F CA N nd Lc=>?_
  rcases Lc x v h with ⟨hk,hv⟩ | ⟨hk,hv⟩
  · exact wpAny_loadName_local ok.kf hk (ok.el ▸ F.ns) hv k
  · rcases ok.loc x h.mem with q | ⟨_,q⟩
    · rw [hk] at q; cases q
    · obtain ⟨a,ha⟩:=Option.isSome_iff_exists.mp q
      obtain ⟨o,hm,hd'⟩:=cells_at CA ha
      have ho:s.heap.get? a = some o:=N.get (List.mem_append.mpr (.inr (List.mem_append.mpr (.inr (List.mem_append.mpr (.inl hm))))))
      rw [hv] at hd'
      exact wpAny_loadName_cell ok.kf hk (ok.hown _ _ ha) ⟨o,ho,hd'⟩ k
theorem g_AugName {x:Str} {p pos:Pos} {op:Operator} {value:PySem.Expr} {Q:Flow→Shared→Prop}
    (h:wpAny (model e.prog e.w) c.A (loadName c.env x) (fun old s₁=>wpAny (model e.prog e.w) c.A (eval value c.env) (fun v s₂=>wpAny (model e.prog e.w) c.A (inplaceOp op old v) (fun r s₃=>wpAny (model e.prog e.w) c.A (storeName c.env x r) (fun _=>Q .next) E s₃) E s₂) E s₁) E s) :
    wpAny (model e.prog e.w) c.A (exec (.AugAssign (.Name x p) op value pos) c.env) Q E s:=wpAny_AugAssign_Name h
theorem g_AugAttr {o value:PySem.Expr} {attr:Str} {tpos pos:Pos} {op:Operator} {Q:Flow→Shared→Prop}
    (h:wpAny (model e.prog e.w) c.A (eval o c.env) (fun ov s₁=>wpAny (model e.prog e.w) c.A (getAttr ov attr true) (fun old s₂=>wpAny (model e.prog e.w) c.A (eval value c.env) (fun v s₃=>wpAny (model e.prog e.w) c.A (inplaceOp op old v) (fun new s₄=>
      wpAny (model e.prog e.w) c.A (setAttr ov attr new) (fun _=>Q .next) E s₄) E s₃) E s₂) E s₁) E s) :
    wpAny (model e.prog e.w) c.A (exec (.AugAssign (.Attribute o attr tpos) op value pos) c.env) Q E s:=wpAny_AugAssign_AttributeAny h
theorem g_Unary {op:UnaryOp} {x:PySem.Expr} {pos:Pos} {Q:Value→Shared→Prop} (h:wpAny (model e.prog e.w) c.A (eval x c.env) (fun v s₁=>wpAny (model e.prog e.w) c.A (unaryOp op v) Q E s₁) E s) :
    wpAny (model e.prog e.w) c.A (eval (.UnaryOp op x pos) c.env) Q E s:=wpAny_UnaryOp h
end
end
section
theorem miss_list_keys:typeLookup (.type "list") "keys" = pure none:=am_miss_of_fast (by decide +kernel)
theorem getq_miss_list {prog:Program} {w:World} {A:Around} {E:Value→Shared→Prop} {s:Shared} {a:Addr} {xs:Array Value} {k:Nat} {Q:Option Value→Shared→Prop}
    (hx:s.heap.get? a = some { cls:=.type "list",data:=.seq xs k }) (hA:A.handled = none)
    (h:∀ h' tk,(∀ b o,s.heap.get? b = some o→h'.get? b = some o)→Q none { s with heap:=h',toks:=tk }) :
    wpAny (model prog w) A (getAttr? (.ref a) "keys") Q E s:=by
  obtain ⟨hp,g,d,tk,os⟩:=s
  have hT:∀ tk',(⟨hp,g,d,tk',os⟩:Shared).TypeIs (.ref a) "list":=fun _=>⟨_,hx,rfl⟩
  have f1:=sub_AttributeError
  have f3:=PySem.F.slot_list_getattribute.lookup
  have f4:=PySem.F.slot_list_getattribute.bind (.ref a)
  have f5:=am_list_getattr_none
  unfold getAttr? getAttrBy?
  refine wpAny_bind (wpAny_mkText ?_)
  refine wpAny_bind (wpAny_attempt ?_)
  unfold getAttrBy
  repeat (any_goals (first | assumption | exact hT _ | ((with_reducible show wpAny _ _ (call (Value.builtin "list.__getattribute__") _ _) _ _ _); refine call_meets PySem.F.slot_list_getattribute (hT _) am_entry_list_getattribute (PySem.F.args_list_getattribute_2 _ _) (meets_getattribute_miss_list a xs k #[] "keys" _ miss_list_keys (by decide +kernel)) ⟨hx,hA,fun h' tk' e hx'=>?_⟩) | wp_step))
  obtain ⟨t',u',he⟩:=hx'.there
  have hTe:∀ tk',(⟨h',g,d,tk',os⟩:Shared).TypeIs (.ref e) "AttributeError":=fun _=>⟨_,he,rfl⟩
  show wpAny _ _ (getattributeRaised _ _ _ _ _ _ _) _ _ _
  unfold getattributeRaised
  repeat (any_goals (first | assumption | exact hTe _ | wp_step))
  exact h _ _ hx'.keeps
theorem entry_dict_update_loop:entryFor table "dict.update.loop" = some Builtin.«dict.update.loop»:=entryFor_of_tree (by kernel_rfl)
theorem plain_dict_update_loop:plainId "dict.update.loop" = true:=by decide +kernel
noncomputable def dz:List Str→List Value→List (Str × Value)→List (Str × Value)
  | x :: xs,b :: bs,kvs=>dz xs bs (stored kvs x b)
  | _,_,kvs=>kvs
section
variable {e:E0} {c:Cx} {ns:List Str} {gs:List (Str × Value)} {vs vs':List (Option Value)} {M M' I I':Led} {s:Shared} {E:Value→Shared→Prop}
theorem dict_loop {A:Around} {R:Result→Shared→Prop} {d it l:Addr} {ps:List Value} {ln:Nat} {xs:List Str} {bs:List Value} (hA:A.handled = none) (hl:(l,listO ps ln) ∈ I) (hxl:xs.length = ps.length) (hbl:bs.length = ps.length) (hn:ps.length ≤ 1000)
    (hps:∀ (i:Nat) (p:Value),ps[i]? = some p→∃ x t v pa n,xs[i]? = some x∧bs[i]? = some v∧p = .ref pa∧(pa,tupO [.str x t,v] n) ∈ I) :
    ∀ (k i:Nat) (kvs:List (Str × Value)) (od o:Obj) (t:Tok) (s:Shared),i + k = ps.length→LIo l i o→DO e d od kvs→kvs.length ≤ i→St e c ns vs ((it,o) :: (d,od) :: M) I s→
      (∀ od' s',DO e d od' (dz (xs.drop i) (bs.drop i) kvs)→St e c ns vs ((d,od') :: M) I s'→R (.ok (.ret .none)) s')→
      codeAny (model e.prog e.w) A (.builtin "dict.update.loop" ⟨[.ref d,.ref it,.int (i:Int) t,.none],[]⟩) R s:=by
  intro k
  have hz0:=sizeLine_eq
  induction k with
  | zero=>
    intro i kvs od o t s hi hIo hd hkl hs hR
    have hi:i = ps.length:=hi
    subst hi
    refine codeAny_builtin entry_dict_update_loop ?_
    rw [Around.under_plainId plain_dict_update_loop _]
    show wpAny _ A.in1 (pyNext (.ref it) >>= _) _ _ s
    refine wpAny_bind ((spec_list (e:=e) (it:=it) (l:=l) (xs:=ps)).fin A.in1 o s _ _ hA hIo (hs.has (.head _)) (isL (hs.hasI hl)) fun h' t' hx=>?_)
    have hs':=hs.ext (t:=t') .head hx
    rw [List.drop_of_length_le (by lia),List.drop_of_length_le (by lia)] at hR
    exact wpAny_bind (wpAny_pure (wpAny_pure (hR od _ hd hs')))
  | succ k ih=>
    intro i kvs od o t s hi hIo hd hkl hs hR
    refine codeAny_builtin entry_dict_update_loop ?_
    rw [Around.under_plainId plain_dict_update_loop _]
    show wpAny _ A.in1 (pyNext (.ref it) >>= _) _ _ s
    refine wpAny_bind ((spec_list (e:=e) (it:=it) (l:=l) (xs:=ps)).item A.in1 i o s _ _ (by lia) hIo (hs.has (.head _)) (isL (hs.hasI hl)) fun p o' h' t' hx hIo' hsb hg=>?_)
    have hs':=hs.setAt (t:=t') .head hsb hg
    obtain ⟨x,tx,v,pa,pn,hx1,hv1,rfl,hp⟩:=hps i p hx
    have hpt:=hs'.hasI hp
    have hT:({ s with heap:=h',toks:=t' }:Shared).TypeIs (.ref pa) "tuple":=⟨_,hpt,rfl⟩
    show wpAny _ A.in1 (holding [Value.ref pa] _ >>= _) _ _ _
    refine wpAny_bind (wpAny_holding ?_)
    refine wpAny_bind (wpAny_tryCatch ?_)
    unfold Builtin.Dict.pairItems
    refine wpAny_bind (wpAny_typeOf hT ?_)
    rw [if_pos (by decide)]
    refine wpAny_bind (wpAny_seqItems hpt rfl (wpAny_pure ?_))
    show wpAny _ A.in1 (holding [Value.str x tx,v] (dictSet d (.str x tx) v)) _ _ _
    refine wpAny_holding ?_
    refine wpAny_dictSet_pairs (hsz:=by lia) key_is (hd.at (hs'.has (.tail _ (.head _)))) fun h2 hm hsb2=>?_
    obtain ⟨od',hod',hdd⟩:=Heap.dictOf_iff.mp hm
    have hs2:=hs'.setAt (t:=t' + 1) (.tail .head) hsb2 hod'
    have e1:xs.drop i = x :: xs.drop (i + 1):=by
      obtain ⟨h1,h2⟩:=List.getElem?_eq_some_iff.mp hx1
      rw [← h2]; exact List.drop_eq_getElem_cons h1
    have e2:bs.drop i = v :: bs.drop (i + 1):=by
      obtain ⟨h1,h2⟩:=List.getElem?_eq_some_iff.mp hv1
      rw [← h2]; exact List.drop_eq_getElem_cons h1
    rw [e1,e2] at hR
    refine wpAny_pure ⟨plainId_quiet plain_dict_update_loop _,ih (i + 1) (stored kvs x v) od' o' 0 _ (by lia) hIo' ⟨hd.1,hdd⟩ (Nat.le_trans (stored_length_le _ _ _) (by lia)) hs2 hR⟩
theorem dict_of_pairs {l:Addr} {ps:List Value} {ln:Nat} {xs:List Str} {bs:List Value} {Q:Value→Shared→Prop} (ok:CxOk e c ns gs) (hs:St e c ns vs M I s) (hl:(l,listO ps ln) ∈ I) (hxl:xs.length = ps.length) (hbl:bs.length = ps.length) (hn:ps.length ≤ 1000)
    (hps:∀ (i:Nat) (p:Value),ps[i]? = some p→∃ x t v pa n,xs[i]? = some x∧bs[i]? = some v∧p = .ref pa∧(pa,tupO [.str x t,v] n) ∈ I)
    (h:∀ d od s',DO e d od (dz xs bs [])→St e c ns vs ((d,od) :: M) I s'→Q (.ref d) s'):wpAny (model e.prog e.w) c.A (call (.type "dict") [.ref l]) Q E s:=by
  refine callType_codes (Q₁:=fun obj s₁=>obj = .ref s.heap.objs.size∧s₁ = { s with heap:=s.heap.push { cls:=.type "dict",data:=.dict #[] } }) PySem.F.kt_called_dict (PySem.F.kt_typeCall_dict_1 _) PySem.F.entry_dict_init (kt_code_dict_new _ ⟨rfl,rfl⟩) ?_
  rintro obj s₁ ⟨rfl,rfl⟩
  have hs0:=hs.push (o:={ cls:=.type "dict",data:=.dict #[] }) rfl s.toks
  have hdo:DO e s.heap.objs.size { cls:=.type "dict",data:=.dict #[] } []:=by
    refine hs.open fun m cm cl F CA N nd Lc=>?_
    refine ⟨F.notModules (modules_low ok.amb.top.nolimit),?_⟩
    have hnew:(s.heap.push { cls:=.type "dict",data:=.dict #[] }).DictOf (PySem.strKind e.prog e.w) s.heap.objs.size []:=Heap.DictOf.new s.heap
    obtain ⟨o',ho',hd'⟩:=Heap.dictOf_iff.mp hnew
    have:=hs0.has (.head _)
    rw [this] at ho'
    cases ho'
    exact hd'
  have hnew:=hdo.at (hs0.has (.head _))
  have hlist:=hs0.hasI hl
  have hT:({ s with heap:=s.heap.push { cls:=.type "dict",data:=.dict #[] } }:Shared).TypeIs (.ref l) "list":=⟨_,hlist,rfl⟩
  refine ⟨hnew.typeIs,PySem.F.args_dict_init_2 _ _,?_⟩
  unfold Builtin.«dict.__init__»
  refine wpAny_bind ?_
  unfold Builtin.Dict.selfAndRest
  refine wpAny_bind (wpAny_notOrdered_dict hnew.typeIs ?_)
  show wpAny _ _ (pure (s.heap.objs.size,[Value.ref l])) _ _ _
  refine wpAny_pure ?_
  show wpAny _ _ (Builtin.Dict.updateFrom "dict.__init__" s.heap.objs.size (.ref l) [] .none) _ _ _
  unfold Builtin.Dict.updateFrom
  refine wpAny_bind (wpAny_typeOf hT ?_)
  rw [if_pos (by decide)]
  refine wpAny_bind (getq_miss_list hlist ok.hnd fun h' t' hk=>?_)
  have hs1:=hs0.keeps (t:=t') hk
  rw [if_pos (by rfl)]
  refine wpAny_bind (wpAny_rule ?_)
  refine wpAny_bind (wpAny_pyIter_list (isL (hs1.hasI hl)) ?_)
  have hs2:=hs1.push (o:={ cls:=.type "list_iterator",data:=.fields #[.ref l,.int 0 0] }) rfl t'
  refine wpAny_pure ⟨plainId_quiet plain_dict_update_loop _,dict_loop (A:=c.A.in1) ok.hnd hl hxl hbl hn hps ps.length 0 [] _ _ 0 _ (by lia) ⟨rfl,rfl⟩ hdo (Nat.le_refl _) hs2 fun od' s' hd' hs'=>⟨rfl,h _ od' s' hd' hs'⟩⟩
end
section
variable {e:E0} {c:Cx} {ns:List Str} {gs:List (Str × Value)} {vs vs':List (Option Value)} {M M' I I':Led} {s:Shared} {E:Value→Shared→Prop}
def GrowEnd (e:E0) (c:Cx) (ns:List Str) (it l:Addr) (P:Nat→List Value→List (Option Value)→Led→Led→Prop) (i:Nat) (f:Flow) (s:Shared):Prop:=
  match f with
  | .next=>∃ xs vs M I o,P (i + 1) xs vs M I∧LIo l (i + 1) o∧St e c ns vs ((it,o) :: M) I s
  | _=>False
theorem grow_next {it l:Addr} {P:Nat→List Value→List (Option Value)→Led→Led→Prop} {i:Nat} {xs:List Value} {o:Obj} (hs:St e c ns vs ((it,o) :: M) I s) (hI:LIo l (i + 1) o) (hP:P (i + 1) xs vs M I):GrowEnd e c ns it l P i .next s:=⟨xs,vs,M,I,o,hP,hI,hs⟩
theorem for_grow {target:PySem.Expr} {body:List Stmt} {Q:Flow→Shared→Prop} {it l:Addr} {o:Obj} {xs0:List Value} {B:Nat}
    (P:Nat→List Value→List (Option Value)→Led→Led→Prop) (ok:CxOk e c ns gs) (hs:St e c ns vs ((it,o) :: M) I s) (ho:LIo l 0 o) (h0:P 0 xs0 vs M I)
    (hsrc:∀ i xs vs M I,P i xs vs M I→(∃ n,(l,listO xs n) ∈ M)∧i ≤ xs.length∧xs.length ≤ B)
    (step:∀ i xs x vs M I o s,xs[i]? = some x→P i xs vs M I→LIo l (i + 1) o→St e c ns vs ((it,o) :: M) I s→
      wpAny (model e.prog e.w) c.A (assign target c.env x) (fun _ s₁=>wpAny (model e.prog e.w) c.A (execs body c.env) (GrowEnd e c ns it l P i) noE s₁) noE s)
    (fin:∀ xs vs M I s,P xs.length xs vs M I→St e c ns vs M I s→Q .next s) :
    codeAny (model e.prog e.w) c.A (.forLoop target (.ref it) body [] c.env) (fun r s'=>match r with | .ok f=>Q f s' | .error ex=>cameBackBy (model e.prog e.w) c.A c.env E ex s') s:=by
  have all:∀ k i,B - i = k→∀ xs vs M I o s,P i xs vs M I→LIo l i o→St e c ns vs ((it,o) :: M) I s→
      codeAny (model e.prog e.w) c.A (.forLoop target (.ref it) body [] c.env) (fun r s'=>match r with | .ok f=>Q f s' | .error ex=>cameBackBy (model e.prog e.w) c.A c.env E ex s') s:=by
    intro k
    induction k with
    | zero=>
      intro i hi xs vs M I o s hP hIo hs
      obtain ⟨⟨n,hm⟩,h1,h2⟩:=hsrc _ _ _ _ _ hP
      have:i = xs.length:=by lia
      subst this
      exact for_turn ((spec_list (e:=e) (it:=it) (l:=l) (xs:=xs)).fin _ o s _ _ ok.hnd hIo (hs.has (.head _)) (isL (hs.has (.tail _ hm))) fun h' t hx=>fin _ _ _ _ _ hP (hs.ext .head hx))
    | succ k ih=>
      intro i hi xs vs M I o s hP hIo hs
      obtain ⟨⟨n,hm⟩,h1,h2⟩:=hsrc _ _ _ _ _ hP
      by_cases hil:i = xs.length
      · subst hil
        exact for_turn ((spec_list (e:=e) (it:=it) (l:=l) (xs:=xs)).fin _ o s _ _ ok.hnd hIo (hs.has (.head _)) (isL (hs.has (.tail _ hm))) fun h' t hx=>fin _ _ _ _ _ hP (hs.ext .head hx))
      · refine for_turn ((spec_list (e:=e) (it:=it) (l:=l) (xs:=xs)).item _ i o s _ _ (by lia) hIo (hs.has (.head _)) (isL (hs.has (.tail _ hm))) fun x o' h' t hx hIo' hsb hg=>?_)
        obtain ⟨T,fs,hc,hd,hT⟩:=(spec_list (e:=e) (it:=it) (l:=l) (xs:=xs)).cls _ _ hIo'
        refine letGo_off (hg:({ s with heap:=h',toks:=t }:Shared).heap.get? it = some o') hc hd hT ?_
        refine wpAny_mono (step i xs x vs M I o' _ hx hP hIo' (hs.setAt .head hsb hg)) (fun _ s₁ h₁=>wpAny_mono h₁ (fun f s₂ h₂=>?_) fun _ _ x=>x) fun _ _ x=>x
        cases f with
        | next=>obtain ⟨xs2,vs2,M2,I2,o2,hP2,hI2,hs2⟩:=h₂; exact ih (i + 1) (by lia) _ _ _ _ _ _ hP2 hI2 hs2
        | cont=>exact h₂.elim
        | brk=>exact h₂.elim
        | ret v=>exact h₂.elim
  exact all B 0 rfl _ _ _ _ _ _ h0 ho hs
end
end
section
theorem tt:true = true:=rfl
theorem ff:false = false:=rfl
theorem cf:some false = some false:=rfl
theorem ct:some true = some true:=rfl
section
structure Sta where
  vs:List (Option Value)
  M:Led
  I:Led
noncomputable def Sta.put (st:Sta) (i:Nat) (v:Value):Sta:=⟨st.vs.set i (some v),st.M,st.I⟩
noncomputable def Sta.pM (p:Addr × Obj) (st:Sta):Sta:=⟨st.vs,p :: st.M,st.I⟩
noncomputable def Sta.pI (p:Addr × Obj) (st:Sta):Sta:=⟨st.vs,st.M,p :: st.I⟩
def Le (st st':Sta):Prop:=∀ {e:E0} {c:Cx} {ns:List Str} {s:Shared},St e c ns st.vs st.M st.I s→St e c ns st'.vs st'.M st'.I s
theorem Le.refl {st:Sta}:Le st st:=fun h=>h
theorem Le.freeze {p vs M M' I st} (h:Pick p M M') (k:Le ⟨vs,M',p :: I⟩ st):Le ⟨vs,M,I⟩ st:=fun hs=>k (hs.freeze h)
theorem Le.drop {p vs M M' I st} (h:Pick p M M') (k:Le ⟨vs,M',I⟩ st):Le ⟨vs,M,I⟩ st:=fun hs=>k (hs.drop h)
structure Ctx (e:E0) where
  c:Cx
  ns:List Str
  gs:List (Str × Value)
  ok:CxOk e c ns gs
def SS {e:E0} (x:Ctx e) (st:Sta) (s:Shared):Prop:=St e x.c x.ns st.vs st.M st.I s
def up {e:E0} {α:Type} (x:Ctx e) (k:α→Sta→Prop) (v:α) (s:Shared):Prop:=∃ st,SS x st s∧k v st
structure H {e:E0} {α:Type} (x:Ctx e) (m:Sem α) (st:Sta) (k:α→Sta→Prop):Prop where
  run:∀ s,SS x st s→wpAny (model e.prog e.w) x.c.A m (up x k) noE s
structure HM {e:E0} (x:Ctx e) (o:Value) (m:Str) (st:Sta) (k:Value × List Value→Sta→Prop):Prop where
  run:∀ pl,H x (getMethod o m pl) st fun p st=>Kp e p.1∧k p st
structure HSub {e:E0} (x:Ctx e) (o i:Value) (st:Sta) (k:Value→Sta→Prop):Prop where
  run:∀ value slice,(subscripted slice false o i = operate [o,i] (getItem o i))→H x (subscriptTail value slice o i) st k
structure HSli {e:E0} (x:Ctx e) (o i:Value) (st:Sta) (k:Value→Sta→Prop):Prop where
  run:∀ value slice,(subscripted slice false o i = operate [i,o] (getItem o i))→H x (subscriptTail value slice o i) st k
structure Jn {α:Type} (A:(α→Sta→Prop)→Prop) (k:α→Sta→Prop):Prop where
  ex:∃ k',A k'∧∀ v st,k' v st→k v st
theorem jn {α:Type} {A:(α→Sta→Prop)→Prop} {k:α→Sta→Prop} (h:A k):Jn A k:=⟨⟨k,h,fun _ _ h=>h⟩⟩
theorem join {α:Type} {A:(α→Sta→Prop)→Prop} {k:α→Sta→Prop} (k':α→Sta→Prop) (h:A k') (f:∀ v st,k' v st→k v st):Jn A k:=⟨⟨k',h,f⟩⟩
structure Nm where
  ns:List Str
  ck:List Bool
  gi:List Nat
  cs:List Str
noncomputable def nmAt (l:List Str) (i:Nat):Str:=(l[i]?).getD ""
noncomputable def gl (i:Nat):Str × Value:=(allGs[i]?).getD ("Var",.ref 52)
noncomputable def gsOf (l:List Nat):List (Str × Value):=l.map gl
def look:List (Option Value)→Nat→(Value→Prop)→Prop
  | [],_,_=>False
  | u :: _,0,k=>u.elim False k
  | _ :: r,n + 1,k=>look r n k
def lookW:List Value→Nat→(Value→Prop)→Prop
  | [],_,_=>False
  | v :: _,0,k=>k v
  | _ :: r,n + 1,k=>lookW r n k
def lookC (vs:List (Option Value)) (cv:List Value):List (Bool × Nat)→(List Value→Prop)→Prop
  | [],k=>k []
  | (b,i) :: r,k=>cond b (look vs i fun v=>lookC vs cv r fun l=>k (v :: l)) (lookW cv i fun v=>lookC vs cv r fun l=>k (v :: l))
def inR:List (Option Value)→Nat→Prop→Prop
  | [],_,_=>False
  | _ :: _,0,P=>P
  | _ :: r,n + 1,P=>inR r n P
section
variable {e:E0} {x:Ctx e} {st:Sta}
structure Fits (x:Ctx e) (cv:List Value) (m:Nm):Prop where
  ns:m.ns = x.ns
  gs:gsOf m.gi = x.gs
  fro:∀ (i:Nat) y v,m.cs[i]? = some y→cv[i]? = some v→FroOk x.c y v
  ck:∀ (i:Nat) y b,m.ns[i]? = some y→m.ck[i]? = some b→x.c.env.kindOf y = some (cond b .cell .local)
  len:m.cs.length = cv.length
theorem H.mono {α:Type} {m:Sem α} {k k':α→Sta→Prop} (h:H x m st k) (f:∀ v st,k v st→k' v st):H x m st k':=
  ⟨fun s hs=>wpAny_mono (h.run s hs) (fun _ _ ⟨st,hs,q⟩=>⟨st,hs,f _ _ q⟩) fun _ _ z=>z⟩
theorem H.on {α:Type} {m:Sem α} {k:α→Sta→Prop} {Q:α→Shared→Prop} (h:H x m st k) {s:Shared} (hs:SS x st s) (f:∀ v st s,SS x st s→k v st→Q v s):wpAny (model e.prog e.w) x.c.A m Q noE s:=
  wpAny_mono (h.run s hs) (fun _ _ ⟨_,hs,q⟩=>f _ _ _ hs q) fun _ _ z=>z
theorem upM {α:Type} {vs:List (Option Value)} {M I:Led} {s:Shared} {v:α} {k:α→Sta→Prop} (hs:St e x.c x.ns vs M I s) (h:k v ⟨vs,M,I⟩):up x k v s:=⟨⟨vs,M,I⟩,hs,h⟩
theorem nm_get {l:List Str} {i:Nat} (h:Nat.blt i l.length = true):l[i]? = some (nmAt l i):=by
  have h:=Nat.blt_eq.mp h
  unfold nmAt
  rw [List.getElem?_eq_getElem h]; rfl
theorem Fits.at {m:Nm} {cv:List Value} (F:Fits x cv m) {i:Nat} (h:Nat.blt i m.ns.length = true):x.ns[i]? = some (nmAt m.ns i):=by rw [← F.ns]; exact nm_get h
theorem look_get {y:Str} {K:Value→Prop}:∀ {vs:List (Option Value)} {i:Nat} {ns:List Str},look vs i K→ns[i]? = some y→∃ v,AtN ns vs y v∧K v
  | some v :: _,0,n :: _,h,q=>⟨v,Option.some.inj q ▸ .here,h⟩
  | _ :: r,i + 1,_ :: ns,h,q=>let ⟨v,a,k⟩:=look_get (vs:=r) (i:=i) (ns:=ns) h q; ⟨v,.there a,k⟩
theorem lookW_get {K:Value→Prop}:∀ {cv:List Value} {i:Nat},lookW cv i K→∃ v,cv[i]? = some v∧K v
  | v :: _,0,h=>⟨v,rfl,h⟩
  | _ :: r,i + 1,h=>lookW_get (cv:=r) (i:=i) h
theorem inR_set {y:Str} {v:Value} {P:Prop}:∀ {vs:List (Option Value)} {i:Nat} {ns:List Str},inR vs i P→ns[i]? = some y→SetN ns vs y v (vs.set i (some v))∧P
  | _ :: _,0,n :: _,h,q=>⟨Option.some.inj q ▸ .here,h⟩
  | _ :: r,i + 1,_ :: ns,h,q=>let ⟨a,k⟩:=inR_set (v:=v) (vs:=r) (i:=i) (ns:=ns) h q; ⟨.there a,k⟩
theorem inR_len {P:Prop}:∀ {vs:List (Option Value)} {i j:Nat} {v:Option Value},inR vs i P→inR (vs.set j v) i P
  | _ :: _,0,0,_,h=>h
  | _ :: _,0,_ + 1,_,h=>h
  | _ :: _,_ + 1,0,_,h=>h
  | _ :: r,i + 1,j + 1,_,h=>inR_len (vs:=r) (i:=i) (j:=j) h
theorem gl_mem (i:Nat):gl i ∈ allGs:=by
  unfold gl
  cases h:allGs[i]? with
  | none=>exact .head _
  | some p=>exact List.mem_of_getElem? h
theorem gs_mem {m:Nm} {cv:List Value} (F:Fits x cv m) {j:Nat} (h:m.gi.contains j = true):((gl j).1,(gl j).2) ∈ x.gs:=
  F.gs ▸ List.mem_map_of_mem (List.contains_iff_mem.mp h)
theorem gsOf_gl {l:List Nat}:∀ p ∈ gsOf l,Gl e p.1 p.2:=fun p hp=>by
  obtain ⟨j,_,rfl⟩:=List.mem_map.mp hp
  exact e.kf.gl _ (gl_mem j)
noncomputable def kpB (v:Value):Bool:=match v with
  | .builtin _=>true
  | .type _=>true
  | .ref a=>kpL.contains a
  | _=>false
theorem kp_ok {f:Value} (h:kpB f = true):Kp e f:=by
  cases f <;> first | exact kp_b | exact kp_t | exact kp_K (e.kf.kp _ (List.contains_iff_mem.mp h)) | exact absurd h Bool.false_ne_true
theorem any_of_all {α:Type} {p:α→Bool}:∀ {l:List α},l.all (fun x=>!p x) = true→l.any p = false
  | [],_=>rfl
  | x :: l,h=>by
    rw [List.all_cons] at h
    obtain ⟨h1,h2⟩:=Bool.and_eq_true_iff.mp h
    rw [List.any_cons,any_of_all h2,Bool.or_false]
    exact (Bool.not_eq_true' _).mp h1
end
structure Sh (y:PySem.Expr) (nc nd bs pl:Bool):Prop where
  star:∀ es env,starEach (y :: es) env = (false,eval y env) :: starEach es env
  set:∀ env v,foldedSetIterable y env v = pure v
  sub:∀ o i,subscripted y false o i = operate [o,i] (getItem o i)
  comp:nc = true→∀ tg l env,swapsWith y tg l env = pure false
  disp:nd = true→∀ ts k p env,swappedStores [.Tuple ts k p] y env = pure none
  base:bs = true→∀ n env w,attributeBase y n env w = w
  test:pl = true→∀ env w,isTrue y env w = (do let v ← w; standAt y.pos; holding [v] (truthy v))
structure XE (m:Nm) where
  ast:PySem.Expr
  vc:{e:E0}→Ctx e→List Value→Sta→(Value→Sta→Prop)→Prop
  ok:∀ {e:E0} {x:Ctx e} {cv st k},Fits x cv m→vc x cv st k→H x (eval ast x.c.env) st k
  nc:Bool
  nd:Bool
  bs:Bool
  pl:Bool
  sh:Sh ast nc nd bs pl
structure XA (m:Nm) where
  asts:List PySem.Expr
  n:Nat
  vc:{e:E0}→Ctx e→List Value→Sta→(List Value→Sta→Prop)→Prop
  ok:∀ {e:E0} {x:Ctx e} {cv st k pos},Fits x cv m→vc x cv st k→H x (spliced (backTo pos (starEach asts x.c.env))) st fun vs st=>vs.length = n∧k vs st
  len:asts.length = n
  nil0:asts = []→∀ {e:E0} {x:Ctx e} {cv st k},vc x cv st k→k [] st
  plain:∀ pos env,(backTo pos (starEach asts env)).all (fun p=>!p.1) = true
  head:∀ a r env,asts = a :: r→starEach asts env = (false,eval a env) :: starEach r env
structure XT (m:Nm) where
  ast:PySem.Expr
  vc:{e:E0}→Ctx e→List Value→Sta→(Bool→Sta→Prop)→Prop
  ok:∀ {e:E0} {x:Ctx e} {cv st k},Fits x cv m→vc x cv st k→H x (isTrue ast x.c.env (eval ast x.c.env)) st k
structure XL (m:Nm) (o:BoolOp) where
  asts:List PySem.Expr
  vc:{e:E0}→Ctx e→List Value→Sta→(Bool→Sta→Prop)→Prop
  ok:∀ {e:E0} {x:Ctx e} {cv st k},Fits x cv m→vc x cv st k→H x (allTrue o asts x.c.env) st k
structure XO (m:Nm) where
  ast:Option PySem.Expr
  vc:{e:E0}→Ctx e→List Value→Sta→(Value→Sta→Prop)→Prop
  ok:∀ {e:E0} {x:Ctx e} {cv st k},Fits x cv m→vc x cv st k→H x (evalPart ast x.c.env) st k
structure XG (m:Nm) where
  ast:PySem.Expr
  vc:Value→Sta→(Sta→Prop)→Prop
  ok:∀ {e:E0} {x:Ctx e} {cv st v k},Fits x cv m→vc v st k→H x (assign ast x.c.env v) st fun _ st=>k st
structure XI (m:Nm) where
  asts:List PySem.Expr
  vc:{e:E0}→Ctx e→List Value→Sta→(Bool→Sta→Prop)→Prop
  ok:∀ {e:E0} {x:Ctx e} {cv st k},Fits x cv m→vc x cv st k→∀ s,SS x st s→TestK (model e.prog e.w) x.c.A x.c.env asts (up x k) s
structure XS (m:Nm) where
  asts:List Stmt
  vc:{e:E0}→Ctx e→List Value→Sta→(Flow→Sta→Prop)→Prop
  ok:∀ {e:E0} {x:Ctx e} {cv st k},Fits x cv m→vc x cv st k→H x (execs asts x.c.env) st k
noncomputable def asInt:Value→Option Int
  | .int a _=>some a
  | _=>none
noncomputable def asBool:Value→Option Bool
  | .bool a=>some a
  | _=>none
noncomputable def cmpI:CmpOp→Int→Int→Option Bool
  | .Eq,a,b=>some (a == b)
  | .NotEq,a,b=>some (a != b)
  | .Lt,a,b=>some (decide (a < b))
  | .LtE,a,b=>some (decide (a ≤ b))
  | .Gt,a,b=>some (decide (a > b))
  | .GtE,a,b=>some (decide (a ≥ b))
  | _,_,_=>none
noncomputable def binI:Operator→Int→Int→Option Int
  | .Add,a,b=>some (a + b)
  | .Sub,a,b=>some (a - b)
  | _,_,_=>none
section
variable {e:E0} {x:Ctx e} {st:Sta}
def truB (x:Ctx e) (v:Value) (st:Sta) (k:Bool→Sta→Prop):Prop:=(asBool v).elim (H x (truthy v) st k) fun b=>k b st
def cmpB (x:Ctx e) (o:CmpOp) (v w:Value) (st:Sta) (k:Value→Sta→Prop):Prop:=
  (asInt v).elim (H x (compareOp o v w) st k) fun a=>(asInt w).elim (H x (compareOp o v w) st k) fun b=>(cmpI o a b).elim (H x (compareOp o v w) st k) fun r=>k (.bool r) st
def binB (x:Ctx e) (o:Operator) (v w:Value) (st:Sta) (k:Value→Sta→Prop):Prop:=
  (asInt v).elim (H x (binaryOp o v w) st k) fun a=>(asInt w).elim (H x (binaryOp o v w) st k) fun b=>(binI o a b).elim (H x (binaryOp o v w) st k) fun r=>∀ t,k (.int r t) st
theorem none_e {α:Type} {a:α} {P:Prop} (h:none = some a):P:=nomatch h
theorem asBool_is {v:Value} {b:Bool} (h:asBool v = some b):v = .bool b:=by
  cases v <;> first | exact congrArg Value.bool (Option.some.inj h) | exact none_e h
theorem asInt_is {v:Value} {a:Int} (h:asInt v = some a):∃ t,v = .int a t:=by
  cases v <;> first | exact ⟨_,congrArg (Value.int · _) (Option.some.inj h)⟩ | exact none_e h
theorem elim_case {α:Type} {o:Option α} {P R:Prop} {f:α→Prop} (h:o.elim P f) (h1:P→R) (h2:∀ a,o = some a→f a→R):R:=by
  cases o with
  | none=>exact h1 h
  | some a=>exact h2 a rfl h
theorem truB_H {v:Value} {k:Bool→Sta→Prop} (h:truB x v st k):H x (truthy v) st k:=
  elim_case h id fun b e q=>asBool_is e ▸ ⟨fun s hs=>t_bool ⟨st,hs,q⟩⟩
theorem cmpI_H {a b:Int} {t u:Tok} {r:Bool} {k:Value→Sta→Prop} (q:k (.bool r) st) {o:CmpOp} (h:cmpI o a b = some r):H x (compareOp o (.int a t) (.int b u)) st k:=by
  cases o with
  | Eq=>exact ⟨fun s hs=>c_eq (Option.some.inj h ▸ ⟨st,hs,q⟩)⟩
  | NotEq=>exact ⟨fun s hs=>c_ne (Option.some.inj h ▸ ⟨st,hs,q⟩)⟩
  | Lt=>exact ⟨fun s hs=>c_lt (Option.some.inj h ▸ ⟨st,hs,q⟩)⟩
  | LtE=>exact ⟨fun s hs=>c_le (Option.some.inj h ▸ ⟨st,hs,q⟩)⟩
  | Gt=>exact ⟨fun s hs=>c_gt (Option.some.inj h ▸ ⟨st,hs,q⟩)⟩
  | GtE=>exact ⟨fun s hs=>c_ge (Option.some.inj h ▸ ⟨st,hs,q⟩)⟩
  | _=>exact none_e h
theorem cmpB_H {o:CmpOp} {v w:Value} {k:Value→Sta→Prop} (h:cmpB x o v w st k):H x (compareOp o v w) st k:=
  elim_case h id fun a e1 h=>elim_case h id fun b e2 h=>elim_case h id fun r e3 q=>by
    obtain ⟨t,rfl⟩:=asInt_is e1
    obtain ⟨u,rfl⟩:=asInt_is e2
    exact cmpI_H q e3
theorem binI_H {a b:Int} {t u:Tok} {r:Int} {k:Value→Sta→Prop} (q:∀ t,k (.int r t) st) {o:Operator} (h:binI o a b = some r):H x (binaryOp o (.int a t) (.int b u)) st k:=by
  cases o with
  | Add=>exact ⟨fun s hs=>i_add hs fun t s' hs'=>Option.some.inj h ▸ ⟨st,hs',q t⟩⟩
  | Sub=>exact ⟨fun s hs=>i_sub hs fun t s' hs'=>Option.some.inj h ▸ ⟨st,hs',q t⟩⟩
  | _=>exact none_e h
theorem binB_H {o:Operator} {v w:Value} {k:Value→Sta→Prop} (h:binB x o v w st k):H x (binaryOp o v w) st k:=
  elim_case h id fun a e1 h=>elim_case h id fun b e2 h=>elim_case h id fun r e3 q=>by
    obtain ⟨t,rfl⟩:=asInt_is e1
    obtain ⟨u,rfl⟩:=asInt_is e2
    exact binI_H q e3
theorem ite_H {α:Type} {a b:Sem α} {k:α→Sta→Prop} {u:Bool} {s:Shared} (hs:SS x st s) (h1:u = true→H x a st k) (h2:u = false→H x b st k):iteK (model e.prog e.w) x.c.A a b (up x k) noE u s:=
  g_ite (fun h=>(h1 h).run s hs) fun h=>(h2 h).run s hs
end
end
section
variable {m:Nm} {e:E0}
def kTup (k:Value→Sta→Prop) (vs:List Value) (st:Sta):Prop:=∀ r,k (.ref r) (st.pI (r,tupO vs 0))
def kLst (k:Value→Sta→Prop) (vs:List Value) (st:Sta):Prop:=∀ r,k (.ref r) (st.pM (r,listO vs 0))
def kCall (f:Value) (x:Ctx e) (k:Value→Sta→Prop) (vs:List Value) (st:Sta):Prop:=H x (call f vs) st k
def kMth3 (x:Ctx e) (p:Value × List Value) (k:Value→Sta→Prop) (vs:List Value) (st:Sta):Prop:=H x (call p.1 (p.2 ++ vs)) st k
def kMth2 (a:XA m) (x:Ctx e) (cv:List Value) (k:Value→Sta→Prop) (p:Value × List Value) (st:Sta):Prop:=a.vc x cv st (kMth3 x p k)
def kMth1 (nm:Str) (a:XA m) (x:Ctx e) (cv:List Value) (k:Value→Sta→Prop) (o:Value) (st:Sta):Prop:=HM x o nm st (kMth2 a x cv k)
def kAttr (nm:Str) (x:Ctx e) (k:Value→Sta→Prop) (o:Value) (st:Sta):Prop:=H x (getAttr o nm true) st k
def kBin2 (o:Operator) (x:Ctx e) (v:Value) (k:Value→Sta→Prop) (w:Value) (st:Sta):Prop:=binB x o v w st k
def kBin1 (o:Operator) (b:XE m) (x:Ctx e) (cv:List Value) (k:Value→Sta→Prop) (v:Value) (st:Sta):Prop:=b.vc x cv st (kBin2 o x v k)
def kUn (o:UnaryOp) (x:Ctx e) (k:Value→Sta→Prop) (v:Value) (st:Sta):Prop:=H x (unaryOp o v) st k
def kCmp2 (o:CmpOp) (x:Ctx e) (v:Value) (k:Value→Sta→Prop) (w:Value) (st:Sta):Prop:=cmpB x o v w st k
def kCmp1 (o:CmpOp) (b:XE m) (x:Ctx e) (cv:List Value) (k:Value→Sta→Prop) (v:Value) (st:Sta):Prop:=b.vc x cv st (kCmp2 o x v k)
def kSub2 (x:Ctx e) (v:Value) (k:Value→Sta→Prop) (w:Value) (st:Sta):Prop:=HSub x v w st k
def kSub1 (b:XE m) (x:Ctx e) (cv:List Value) (k:Value→Sta→Prop) (v:Value) (st:Sta):Prop:=b.vc x cv st (kSub2 x v k)
def kSli3 (x:Ctx e) (v l:Value) (k:Value→Sta→Prop) (u:Value) (st:Sta):Prop:=∀ r,HSli x v (.ref r) (st.pI (r,slO l u)) k
def kSli2 (hi:XO m) (x:Ctx e) (cv:List Value) (v:Value) (k:Value→Sta→Prop) (l:Value) (st:Sta):Prop:=hi.vc x cv st (kSli3 x v l k)
def kSli1 (lo hi:XO m) (x:Ctx e) (cv:List Value) (k:Value→Sta→Prop) (v:Value) (st:Sta):Prop:=lo.vc x cv st (kSli2 hi x cv v k)
def kIfe (a b:XE m) (x:Ctx e) (cv:List Value) (k:Value→Sta→Prop) (y:Bool) (st:Sta):Prop:=cond y (a.vc x cv st k) (b.vc x cv st k)
def kA2 (v:Value) (k:List Value→Sta→Prop) (vs:List Value) (st:Sta):Prop:=k (v :: vs) st
def kA1 (r:XA m) (x:Ctx e) (cv:List Value) (k:List Value→Sta→Prop) (v:Value) (st:Sta):Prop:=r.vc x cv st (kA2 v k)
def kAnd (r:XL m .And) (x:Ctx e) (cv:List Value) (k:Bool→Sta→Prop) (b:Bool) (st:Sta):Prop:=cond b (r.vc x cv st k) (k false st)
def kOr (r:XL m .Or) (x:Ctx e) (cv:List Value) (k:Bool→Sta→Prop) (b:Bool) (st:Sta):Prop:=cond b (k true st) (r.vc x cv st k)
def kTr (x:Ctx e) (k:Bool→Sta→Prop) (v:Value) (st:Sta):Prop:=truB x v st k
def kNot (k:Bool→Sta→Prop) (b:Bool) (st:Sta):Prop:=k (!b) st
def kExp {α:Type} (r:XS m) (x:Ctx e) (cv:List Value) (k:Flow→Sta→Prop) (_:α) (st:Sta):Prop:=r.vc x cv st k
def kRet (k:Flow→Sta→Prop) (v:Value) (st:Sta):Prop:=k (.ret v) st
def kR (r:XS m) (x:Ctx e) (cv:List Value) (k:Flow→Sta→Prop) (st:Sta):Prop:=r.vc x cv st k
def kIfS (a b:XS m) (x:Ctx e) (cv:List Value) (k:Flow→Sta→Prop) (y:Bool) (st:Sta):Prop:=cond y (a.vc x cv st k) (b.vc x cv st k)
def kIfJ (t:XT m) (a b:XS m) (x:Ctx e) (cv:List Value) (st:Sta) (k:Flow→Sta→Prop):Prop:=t.vc x cv st (kIfS a b x cv k)
def kSet (i:Nat) (r:XS m) (x:Ctx e) (cv:List Value) (k:Flow→Sta→Prop) (v:Value) (st:Sta):Prop:=inR st.vs i (r.vc x cv (st.put i v) k)
def kUnp (g:XG m) (r:XS m) (x:Ctx e) (cv:List Value) (k:Flow→Sta→Prop) (v:Value) (st:Sta):Prop:=g.vc v st (kR r x cv k)
def kSts3 (r:XS m) (x:Ctx e) (cv:List Value) (u o:Value) (k:Flow→Sta→Prop) (i:Value) (st:Sta):Prop:=H x (setItem o i u) st (kExp r x cv k)
def kSts2 (i:XE m) (r:XS m) (x:Ctx e) (cv:List Value) (u:Value) (k:Flow→Sta→Prop) (o:Value) (st:Sta):Prop:=i.vc x cv st (kSts3 r x cv u o k)
def kSts1 (a i:XE m) (r:XS m) (x:Ctx e) (cv:List Value) (k:Flow→Sta→Prop) (u:Value) (st:Sta):Prop:=a.vc x cv st (kSts2 i r x cv u k)
def kSta2 (nm:Str) (r:XS m) (x:Ctx e) (cv:List Value) (u:Value) (k:Flow→Sta→Prop) (o:Value) (st:Sta):Prop:=H x (setAttr o nm u) st (kExp r x cv k)
def kSta1 (o:XE m) (nm:Str) (r:XS m) (x:Ctx e) (cv:List Value) (k:Flow→Sta→Prop) (u:Value) (st:Sta):Prop:=o.vc x cv st (kSta2 nm r x cv u k)
def kDls3 (r:XS m) (x:Ctx e) (cv:List Value) (v l:Value) (k:Flow→Sta→Prop) (u:Value) (st:Sta):Prop:=∀ z,H x (delItem v (.ref z)) (st.pI (z,slO l u)) (kExp r x cv k)
def kDls2 (hi:XO m) (r:XS m) (x:Ctx e) (cv:List Value) (v:Value) (k:Flow→Sta→Prop) (l:Value) (st:Sta):Prop:=hi.vc x cv st (kDls3 r x cv v l k)
def kDls1 (lo hi:XO m) (r:XS m) (x:Ctx e) (cv:List Value) (k:Flow→Sta→Prop) (v:Value) (st:Sta):Prop:=lo.vc x cv st (kDls2 hi r x cv v k)
def kL2b (i j:Nat) (r:XS m) (x:Ctx e) (cv:List Value) (v:Value) (k:Flow→Sta→Prop) (w:Value) (st:Sta):Prop:=∀ T,inR st.vs i (inR st.vs j (r.vc x cv (((st.pI (T,tupO [v,w] 0)).put i v).put j w) k))
def kL2a (i j:Nat) (b:XE m) (r:XS m) (x:Ctx e) (cv:List Value) (k:Flow→Sta→Prop) (v:Value) (st:Sta):Prop:=b.vc x cv st (kL2b i j r x cv v k)
def kL3c (i j l:Nat) (r:XS m) (x:Ctx e) (cv:List Value) (v w:Value) (k:Flow→Sta→Prop) (u:Value) (st:Sta):Prop:=∀ T,inR st.vs i (inR st.vs j (inR st.vs l (r.vc x cv ((((st.pI (T,tupO [v,w,u] 0)).put i v).put j w).put l u) k)))
def kL3b (i j l:Nat) (c:XE m) (r:XS m) (x:Ctx e) (cv:List Value) (v:Value) (k:Flow→Sta→Prop) (w:Value) (st:Sta):Prop:=c.vc x cv st (kL3c i j l r x cv v w k)
def kL3a (i j l:Nat) (b c:XE m) (r:XS m) (x:Ctx e) (cv:List Value) (k:Flow→Sta→Prop) (v:Value) (st:Sta):Prop:=b.vc x cv st (kL3b i j l c r x cv v k)
end
end
section
section
def andK (M:Model) (A:Around) (x:PySem.Expr) (env:Env) (Q:Value→Shared→Prop) (v:Value) (b:Bool) (s:Shared):Prop:=cond b (wpAny M A (eval x env) Q noE s) (Q v s)
def orK (M:Model) (A:Around) (x:PySem.Expr) (env:Env) (Q:Value→Shared→Prop) (v:Value) (b:Bool) (s:Shared):Prop:=cond b (Q v s) (wpAny M A (eval x env) Q noE s)
section
variable {M:Model} {A:Around} {s:Shared} {env:Env}
theorem eval_or {e₁ e₂ rest pos} {Q:Value→Shared→Prop} (h:wpAny M A (eval e₁ env) (fun v s₁=>wpAny M A (truthy v) (orK M A (.BoolOp .Or (e₂ :: rest) pos) env Q v) noE s₁) noE s):wpAny M A (eval (.BoolOp .Or (e₁ :: e₂ :: rest) pos) env) Q noE s:=
  BoolOp_or (wpAny_mono h (fun v s₁ h₁=>wpAny_mono h₁ (fun b s₂ h₂=>by cases b <;> exact h₂) fun _ _ x=>x) fun _ _ x=>x)
theorem eval_and {e₁ e₂ rest pos} {Q:Value→Shared→Prop} (h:wpAny M A (eval e₁ env) (fun v s₁=>wpAny M A (truthy v) (andK M A (.BoolOp .And (e₂ :: rest) pos) env Q v) noE s₁) noE s):wpAny M A (eval (.BoolOp .And (e₁ :: e₂ :: rest) pos) env) Q noE s:=
  BoolOp_and (wpAny_mono h (fun v s₁ h₁=>wpAny_mono h₁ (fun b s₂ h₂=>by cases b <;> exact h₂) fun _ _ x=>x) fun _ _ x=>x)
theorem cond_to {b:Bool} {P Q P' Q':Prop} (h:cond b P Q) (h1:P→P') (h2:Q→Q'):cond b P' Q':=by
  cases b
  · exact h2 h
  · exact h1 h
theorem sz16 {n:Nat} (h:Nat.ble n 16 = true):n ≤ sizeLine:=by
  have:=Nat.le_of_ble_eq_true h
  rw [sizeLine_eq]; lia
theorem sz_of {n:Nat} {l:List Value} (hl:l.length = n) (h:Nat.ble n 16 = true):l.length ≤ sizeLine:=by
  have:=Nat.le_of_ble_eq_true h
  rw [hl,sizeLine_eq]
  exact Nat.le_trans this (by decide)
end
theorem shName {a p}:Sh (.Name a p) true true true true:=⟨fun _ _=>rfl,fun _ _=>rfl,fun _ _=>rfl,fun _ _ _ _=>rfl,fun _ _ _ _ _=>rfl,fun _ _ _ _=>rfl,fun _ _ _=>rfl⟩
theorem shConst {a b p}:Sh (.Constant a b p) true true true true:=⟨fun _ _=>rfl,fun _ _=>rfl,fun _ _=>rfl,fun _ _ _ _=>rfl,fun _ _ _ _ _=>rfl,fun _ _ _ _=>rfl,fun _ _ _=>rfl⟩
theorem shAttr {a b p}:Sh (.Attribute a b p) true true true true:=⟨fun _ _=>rfl,fun _ _=>rfl,fun _ _=>rfl,fun _ _ _ _=>rfl,fun _ _ _ _ _=>rfl,fun _ _ _ _=>rfl,fun _ _ _=>rfl⟩
theorem shBin {a b c p}:Sh (.BinOp a b c p) true true true true:=⟨fun _ _=>rfl,fun _ _=>rfl,fun _ _=>rfl,fun _ _ _ _=>rfl,fun _ _ _ _ _=>rfl,fun _ _ _ _=>rfl,fun _ _ _=>rfl⟩
theorem shNeg {a p}:Sh (.UnaryOp .USub a p) true true true true:=⟨fun _ _=>rfl,fun _ _=>rfl,fun _ _=>rfl,fun _ _ _ _=>rfl,fun _ _ _ _ _=>rfl,fun _ _ _ _=>rfl,fun _ _ _=>rfl⟩
theorem shSub {a b p}:Sh (.Subscript a b p) true true true true:=⟨fun _ _=>rfl,fun _ _=>rfl,fun _ _=>rfl,fun _ _ _ _=>rfl,fun _ _ _ _ _=>rfl,fun _ _ _ _=>rfl,fun _ _ _=>rfl⟩
theorem shDict {a b p}:Sh (.Dict a b p) true true true true:=⟨fun _ _=>rfl,fun _ _=>rfl,fun _ _=>rfl,fun _ _ _ _=>rfl,fun _ _ _ _ _=>rfl,fun _ _ _ _=>rfl,fun _ _ _=>rfl⟩
theorem shTup {a k p}:Sh (.Tuple a k p) true false true true:=⟨fun _ _=>rfl,fun _ _=>rfl,fun _ _=>rfl,fun _ _ _ _=>rfl,(nomatch ·),fun _ _ _ _=>rfl,fun _ _ _=>rfl⟩
theorem shList {a p}:Sh (.List a p) true true true true:=⟨fun _ _=>rfl,fun _ _=>rfl,fun _ _=>rfl,fun _ _ _ _=>rfl,fun _ _ _ _ _=>rfl,fun _ _ _ _=>rfl,fun _ _ _=>rfl⟩
theorem shNot {a p}:Sh (.UnaryOp .Not a p) true true true false:=⟨fun _ _=>rfl,fun _ _=>rfl,fun _ _=>rfl,fun _ _ _ _=>rfl,fun _ _ _ _ _=>rfl,fun _ _ _ _=>rfl,(nomatch ·)⟩
theorem shCmp {a b c p}:Sh (.Compare a b c p) true true true false:=⟨fun _ _=>rfl,fun _ _=>rfl,fun _ _=>rfl,fun _ _ _ _=>rfl,fun _ _ _ _ _=>rfl,fun _ _ _ _=>rfl,(nomatch ·)⟩
theorem shIf {a b c p}:Sh (.IfExp a b c p) true true true false:=⟨fun _ _=>rfl,fun _ _=>rfl,fun _ _=>rfl,fun _ _ _ _=>rfl,fun _ _ _ _ _=>rfl,fun _ _ _ _=>rfl,(nomatch ·)⟩
theorem shBop {a b p}:Sh (.BoolOp a b p) true true true false:=⟨fun _ _=>rfl,fun _ _=>rfl,fun _ _=>rfl,fun _ _ _ _=>rfl,fun _ _ _ _ _=>rfl,fun _ _ _ _=>rfl,(nomatch ·)⟩
theorem shMeth {a b l p q}:Sh (.Call (.Attribute a b p) l [] q) true true true true:=⟨fun _ _=>rfl,fun _ _=>rfl,fun _ _=>rfl,fun _ _ _ _=>rfl,fun _ _ _ _ _=>rfl,fun _ _ _ _=>rfl,fun _ _ _=>rfl⟩
theorem shCall {a l p q n} (h:l.length = n):Sh (.Call (.Name a p) l [] q) true true (Nat.blt 0 n) true:=⟨fun _ _=>rfl,fun _ _=>rfl,fun _ _=>rfl,fun _ _ _ _=>rfl,fun _ _ _ _ _=>rfl,fun hb _ _ _=>by
  cases l with
  | nil=>subst h; cases hb
  | cons _ _=>rfl,fun _ _ _=>rfl⟩
theorem shComp {a b c p}:Sh (.ListComp a b c p) false true true true:=⟨fun _ _=>rfl,fun _ _=>rfl,fun _ _=>rfl,(nomatch ·),fun _ _ _ _ _=>rfl,fun _ _ _ _=>rfl,fun _ _ _=>rfl⟩
theorem callA {e:E0} {x:Ctx e} {cv st} {m:Nm} {a:XA m} {P:Pos} {f:Value} {first:List Value} {k:Value→Sta→Prop} {s:Shared} (hk:Kp e f) (F:Fits x cv m) (hs:SS x st s)
    (h:a.vc x cv st fun vs st=>H x (call f (first ++ vs)) st k):wpAny (model e.prog e.w) x.c.A (callWith P f first (backTo P (starEach a.asts x.c.env)) []) (up x k) noE s:=by
  cases hA:a.asts with
  | nil=>exact callWith_kp0 hk ⟨hs.kin x.ok.amb,(a.nil0 hA h).run s hs⟩
  | cons b bs=>
    have h1:=a.ok (pos:=P) F h
    have h2:=a.plain P x.c.env
    have h3:=a.head b bs x.c.env hA
    rw [hA] at h1 h2 h3
    exact callWith_kp hk (h1.on hs fun vs st s hs q=>⟨hs.kin x.ok.amb,q.2.run s hs⟩) (any_of_all h2) (fun q=>by cases q) fun b' bs' q=>by cases q; exact h3
variable {m:Nm}
namespace XE
noncomputable def v (i:Nat) (p:Pos) (h:Nat.blt i m.ns.length = true:=by exact tt):XE m where
  ast:=.Name (nmAt m.ns i) p
  vc:=fun _ _ st k=>look st.vs i fun v=>k v st
  ok:=fun {_ x _ st _} F h'=>⟨fun s hs=>let ⟨_,a,q⟩:=look_get h' (nm_get h); name_loc x.ok hs (F.ns ▸ a) ⟨st,hs,q⟩⟩
  nc:=true
  nd:=true
  bs:=true
  pl:=true
  sh:=shName
noncomputable def w (i:Nat) (p:Pos) (h:Nat.blt i m.cs.length = true:=by exact tt):XE m where
  ast:=.Name (nmAt m.cs i) p
  vc:=fun _ cv st k=>lookW cv i fun v=>k v st
  ok:=fun {_ x _ st _} F h'=>⟨fun s hs=>let ⟨v,a,q⟩:=lookW_get h'; name_fro x.ok hs (F.fro i _ v (nm_get h) a) ⟨st,hs,q⟩⟩
  nc:=true
  nd:=true
  bs:=true
  pl:=true
  sh:=shName
noncomputable def g {f:Value} {j:Nat} (p:Pos) (hf:(gl j).2 = f) (h:m.gi.contains j = true:=by exact tt):XE m where
  ast:=.Name (gl j).1 p
  vc:=fun _ _ st k=>k f st
  ok:=fun {_ x _ st _} F h'=>⟨fun s hs=>name_glob x.ok hs (gs_mem F h) (hf ▸ ⟨st,hs,h'⟩)⟩
  nc:=true
  nd:=true
  bs:=true
  pl:=true
  sh:=shName
noncomputable def i (n:Int) (p:Pos):XE m where
  ast:=.Constant (.int n) 0 p
  vc:=fun _ _ st k=>∀ t,k (.int n t) st
  ok:=fun {_ _ _ st _} _ h'=>⟨fun s hs=>const_int hs fun t s' hs'=>⟨st,hs',h' t⟩⟩
  nc:=true
  nd:=true
  bs:=true
  pl:=true
  sh:=shConst
noncomputable def s (y:Str) (p:Pos):XE m where
  ast:=.Constant (.str y) 0 p
  vc:=fun _ _ st k=>∀ t,k (.str y t) st
  ok:=fun {_ _ _ st _} _ h'=>⟨fun s hs=>const_str hs fun t s' hs'=>⟨st,hs',h' t⟩⟩
  nc:=true
  nd:=true
  bs:=true
  pl:=true
  sh:=shConst
noncomputable def n (p:Pos):XE m where
  ast:=.Constant .none 0 p
  vc:=fun _ _ st k=>k .none st
  ok:=fun {_ _ _ st _} _ h'=>⟨fun s hs=>const_none ⟨st,hs,h'⟩⟩
  nc:=true
  nd:=true
  bs:=true
  pl:=true
  sh:=shConst
noncomputable def b (y:Bool) (p:Pos):XE m where
  ast:=.Constant (.bool y) 0 p
  vc:=fun _ _ st k=>k (.bool y) st
  ok:=fun {_ _ _ st _} _ h'=>⟨fun s hs=>const_bool ⟨st,hs,h'⟩⟩
  nc:=true
  nd:=true
  bs:=true
  pl:=true
  sh:=shConst
noncomputable def dic (p:Pos):XE m where
  ast:=.Dict [] [] p
  vc:=fun {e} _ _ st k=>∀ d o,DO e d o []→k (.ref d) (st.pM (d,o))
  ok:=fun {_ x _ _ _} _ h'=>⟨fun s hs=>dict_new x.ok hs fun d o s' hd hs'=>upM hs' (h' d o hd)⟩
  nc:=true
  nd:=true
  bs:=true
  pl:=true
  sh:=shDict
noncomputable def tup (a:XA m) (p:Pos) (h:Nat.ble a.n 16 = true:=by exact tt) (kk:Nat:=0):XE m where
  ast:=.Tuple a.asts kk p
  vc:=fun x cv st k=>a.vc x cv st (kTup k)
  ok:=fun {_ _ _ _ _} F h'=>⟨fun s hs=>g_Tuple ((a.ok F h').on hs fun vs st s hs q=>new_tuple hs (sz_of q.1 h) fun r s' hs'=>upM hs' (q.2 r))⟩
  nc:=true
  nd:=false
  bs:=true
  pl:=true
  sh:=shTup
noncomputable def lst (a:XA m) (p:Pos) (h:Nat.ble a.n 16 = true:=by exact tt):XE m where
  ast:=.List a.asts p
  vc:=fun x cv st k=>a.vc x cv st (kLst k)
  ok:=fun {_ _ _ _ _} F h'=>⟨fun s hs=>g_List ((a.ok F h').on hs fun vs st s hs q=>new_list hs (sz_of q.1 h) fun r s' hs'=>upM hs' (q.2 r))⟩
  nc:=true
  nd:=true
  bs:=true
  pl:=true
  sh:=shList
noncomputable def call {f:Value} {j:Nat} (a:XA m) (p q:Pos) (hf:(gl j).2 = f) (h:m.gi.contains j = true:=by exact tt) (hk:kpB f = true:=by exact tt):XE m where
  ast:=.Call (.Name (gl j).1 p) a.asts [] q
  vc:=fun x cv st k=>a.vc x cv st (kCall f x k)
  ok:=fun {_ x _ _ _} F h'=>⟨fun s hs=>by
    show wpAny _ _ (do callWith _ (← eval (.Name _ _) x.c.env) [] _ _) _ _ _
    exact wpAny_bind (name_glob x.ok hs (gs_mem F h) (hf.symm ▸ callA (first:=[]) (kp_ok hk) F hs h'))⟩
  nc:=true
  nd:=true
  bs:=Nat.blt 0 a.n
  pl:=true
  sh:=shCall a.len
noncomputable def meth (o:XE m) (nm:Str) (a:XA m) (p q:Pos) (hb:o.bs = true:=by exact tt) (hl:(p.endLine == q.line) = true:=by exact tt) (ha:Nat.ble a.n 28 = true:=by exact tt):XE m where
  ast:=.Call (.Attribute o.ast nm p) a.asts [] q
  vc:=fun x cv st k=>o.vc x cv st (kMth1 nm a x cv k)
  ok:=fun {_ x _ _ _} F h'=>⟨fun s hs=>by
    refine call_m ((o.ok F h').on hs fun v st s hs q=>(q.run _).on hs fun p st s hs q=>callA q.1 F hs q.2) (o.sh.base hb _ _ _) ?_ hl
    unfold methodCallForm
    rw [a.plain,a.len]
    exact decide_eq_true (p:=a.n + 0 + 0 < 30) (Nat.lt_of_le_of_lt (Nat.le_of_ble_eq_true ha) (by decide))⟩
  nc:=true
  nd:=true
  bs:=true
  pl:=true
  sh:=shMeth
noncomputable def attr (o:XE m) (nm:Str) (p:Pos) (hb:o.bs = true:=by exact tt):XE m where
  ast:=.Attribute o.ast nm p
  vc:=fun x cv st k=>o.vc x cv st (kAttr nm x k)
  ok:=fun {_ _ _ _ _} F h'=>⟨fun s hs=>g_attr ((o.ok F h').on hs fun v st s hs q=>q.run s hs) (by
    show (do let o ← attributeBase _ _ _ _; _) = _
    rw [o.sh.base hb])⟩
  nc:=true
  nd:=true
  bs:=true
  pl:=true
  sh:=shAttr
noncomputable def bin (o:Operator) (a b:XE m) (p:Pos):XE m where
  ast:=.BinOp a.ast o b.ast p
  vc:=fun x cv st k=>a.vc x cv st (kBin1 o b x cv k)
  ok:=fun {_ _ _ _ _} F h'=>⟨fun s hs=>g_bin ((a.ok F h').on hs fun v st s hs q=>(b.ok F q).on hs fun w st s hs q=>(binB_H q).run s hs)⟩
  nc:=true
  nd:=true
  bs:=true
  pl:=true
  sh:=shBin
noncomputable def neg (a:XE m) (p:Pos):XE m where
  ast:=.UnaryOp .USub a.ast p
  vc:=fun x cv st k=>a.vc x cv st (kUn .USub x k)
  ok:=fun {_ _ _ _ _} F h'=>⟨fun s hs=>g_Unary ((a.ok F h').on hs fun v st s hs q=>q.run s hs)⟩
  nc:=true
  nd:=true
  bs:=true
  pl:=true
  sh:=shNeg
noncomputable def not (a:XE m) (p:Pos):XE m where
  ast:=.UnaryOp .Not a.ast p
  vc:=fun x cv st k=>a.vc x cv st (kUn .Not x k)
  ok:=fun {_ _ _ _ _} F h'=>⟨fun s hs=>g_Unary ((a.ok F h').on hs fun v st s hs q=>q.run s hs)⟩
  nc:=true
  nd:=true
  bs:=true
  pl:=false
  sh:=shNot
noncomputable def cmp (o:CmpOp) (a b:XE m) (p:Pos) (hm:behindInMarks o b.ast = false:=by exact ff):XE m where
  ast:=.Compare a.ast [o] [b.ast] p
  vc:=fun x cv st k=>a.vc x cv st (kCmp1 o b x cv k)
  ok:=fun {_ _ _ _ _} F h'=>⟨fun s hs=>g_cmp ((a.ok F h').on hs fun v st s hs q=>(b.ok F q).on hs fun w st s hs q=>(cmpB_H q).run s hs) hm⟩
  nc:=true
  nd:=true
  bs:=true
  pl:=false
  sh:=shCmp
noncomputable def sub (a b:XE m) (p:Pos):XE m where
  ast:=.Subscript a.ast b.ast p
  vc:=fun x cv st k=>a.vc x cv st (kSub1 b x cv k)
  ok:=fun {_ _ _ _ _} F h'=>⟨fun s hs=>g_sub ((a.ok F h').on hs fun v st s hs q=>(b.ok F q).on hs fun w st s hs q=>(q.run _ _ (b.sh.sub _ _)).run s hs)⟩
  nc:=true
  nd:=true
  bs:=true
  pl:=true
  sh:=shSub
noncomputable def sli (a:XE m) (lo hi:XO m) (p q:Pos):XE m where
  ast:=.Subscript a.ast (.Slice lo.ast hi.ast none p) q
  vc:=fun x cv st k=>a.vc x cv st (kSli1 lo hi x cv k)
  ok:=fun {_ _ _ _ _} F h'=>⟨fun s hs=>g_sub ((a.ok F h').on hs fun v st s hs q=>g_Slice ((lo.ok F q).on hs fun l st s hs q=>(hi.ok F q).on hs fun u st s hs q=>slk_in hs fun r s' hs'=>((q r).run _ _ rfl).run s' hs'))⟩
  nc:=true
  nd:=true
  bs:=true
  pl:=true
  sh:=shSub
noncomputable def ife (t:XT m) (a b:XE m) (p:Pos):XE m where
  ast:=.IfExp t.ast a.ast b.ast p
  vc:=fun x cv st k=>t.vc x cv st (kIfe a b x cv k)
  ok:=fun {_ _ _ _ _} F h'=>⟨fun s hs=>g_IfExp ((t.ok F h').on hs fun u st s hs q=>ite_H hs (fun hb=>a.ok F (by rw [hb] at q; exact q)) (fun hb=>b.ok F (by rw [hb] at q; exact q)))⟩
  nc:=true
  nd:=true
  bs:=true
  pl:=false
  sh:=shIf
end XE
namespace XA
noncomputable def nil:XA m where
  asts:=[]
  n:=0
  vc:=fun _ _ st k=>k [] st
  ok:=fun {_ _ _ st _ _} _ h'=>⟨fun s hs=>spl_nil ⟨st,hs,rfl,h'⟩⟩
  len:=rfl
  nil0:=fun _ {_ _ _ _ _} h=>h
  plain:=fun _ _=>rfl
  head:=fun _ _ _ h=>nomatch h
noncomputable def cons (a:XE m) (r:XA m):XA m where
  asts:=a.ast :: r.asts
  n:=r.n + 1
  vc:=fun x cv st k=>a.vc x cv st (kA1 r x cv k)
  ok:=fun {_ _ _ _ _ _} F h'=>⟨fun s hs=>spl_cons ((a.ok F h').on hs fun v st s hs q=>(r.ok F q).on hs fun vs st s hs q=>⟨st,hs,congrArg Nat.succ q.1,q.2⟩) (a.sh.star _ _)⟩
  len:=congrArg Nat.succ r.len
  nil0:=fun h=>nomatch h
  plain:=fun pos env=>by
    rw [a.sh.star]
    show (!false && (backTo pos (starEach _ env)).all (fun p=>!p.1)) = true
    rw [r.plain]; rfl
  head:=fun _ _ env h=>by cases h; exact a.sh.star _ _
end XA
namespace XL
noncomputable def nilA:XL m .And where
  asts:=[]
  vc:=fun _ _ st k=>k true st
  ok:=fun {_ _ _ st _} _ h'=>⟨fun s hs=>t_and0 ⟨st,hs,h'⟩⟩
noncomputable def nilO:XL m .Or where
  asts:=[]
  vc:=fun _ _ st k=>k false st
  ok:=fun {_ _ _ st _} _ h'=>⟨fun s hs=>t_or0 ⟨st,hs,h'⟩⟩
noncomputable def consA (t:XT m) (r:XL m .And):XL m .And where
  asts:=t.ast :: r.asts
  vc:=fun x cv st k=>t.vc x cv st (kAnd r x cv k)
  ok:=fun {_ _ _ _ _} F h'=>⟨fun s hs=>t_and1 ((t.ok F h').on hs fun u st s hs q=>ite_H hs (fun hb=>r.ok F (by rw [hb] at q; exact q)) (fun hb=>⟨fun s hs=>t_pure ⟨st,hs,(by rw [hb] at q; exact q)⟩⟩))⟩
noncomputable def consO (t:XT m) (r:XL m .Or):XL m .Or where
  asts:=t.ast :: r.asts
  vc:=fun x cv st k=>t.vc x cv st (kOr r x cv k)
  ok:=fun {_ _ _ _ _} F h'=>⟨fun s hs=>t_or1 ((t.ok F h').on hs fun u st s hs q=>ite_H hs (fun hb=>⟨fun s hs=>t_pure ⟨st,hs,(by rw [hb] at q; exact q)⟩⟩) (fun hb=>r.ok F (by rw [hb] at q; exact q)))⟩
end XL
namespace XT
noncomputable def e (a:XE m) (h:a.pl = true:=by exact tt):XT m where
  ast:=a.ast
  vc:=fun x cv st k=>a.vc x cv st (kTr x k)
  ok:=fun {_ _ _ _ _} F h'=>⟨fun s hs=>t_plain ((a.ok F h').on hs fun v st s hs q=>(truB_H q).run s hs) (a.sh.test h _ _)⟩
noncomputable def not (t:XT m) (p:Pos):XT m where
  ast:=.UnaryOp .Not t.ast p
  vc:=fun x cv st k=>t.vc x cv st (kNot k)
  ok:=fun {_ _ _ _ _} F h'=>⟨fun s hs=>t_not ((t.ok F h').run s hs)⟩
noncomputable def cmp (o:CmpOp) (a b:XE m) (p:Pos) (hm:behindInMarks o b.ast = false:=by exact ff):XT m where
  ast:=.Compare a.ast [o] [b.ast] p
  vc:=fun x cv st k=>a.vc x cv st (kCmp1 o b x cv (kTr x k))
  ok:=fun {_ _ _ _ _} F h'=>⟨fun s hs=>t_cmp ((a.ok F h').on hs fun v st s hs q=>(b.ok F q).on hs fun w st s hs q=>(cmpB_H q).on hs fun u st s hs q=>(truB_H q).run s hs) hm⟩
noncomputable def and (t:XT m) (r:XL m .And) (p:Pos):XT m where
  ast:=.BoolOp .And (t.ast :: r.asts) p
  vc:=fun x cv st k=>t.vc x cv st (kAnd r x cv k)
  ok:=fun {_ _ _ _ _} F h'=>⟨fun s hs=>t_and ((t.ok F h').on hs fun u st s hs q=>ite_H hs (fun hb=>r.ok F (by rw [hb] at q; exact q)) (fun hb=>⟨fun s hs=>t_pure ⟨st,hs,(by rw [hb] at q; exact q)⟩⟩))⟩
noncomputable def or (t:XT m) (r:XL m .Or) (p:Pos):XT m where
  ast:=.BoolOp .Or (t.ast :: r.asts) p
  vc:=fun x cv st k=>t.vc x cv st (kOr r x cv k)
  ok:=fun {_ _ _ _ _} F h'=>⟨fun s hs=>t_or ((t.ok F h').on hs fun u st s hs q=>ite_H hs (fun hb=>⟨fun s hs=>t_pure ⟨st,hs,(by rw [hb] at q; exact q)⟩⟩) (fun hb=>r.ok F (by rw [hb] at q; exact q)))⟩
end XT
noncomputable def XT.jn (a:XT m):XT m where
  ast:=a.ast
  vc:=fun x cv st k=>Jn (a.vc x cv st) k
  ok:=fun {_ _ _ _ _} F h'=>let ⟨_,h1,h2⟩:=h'.ex; (a.ok F h1).mono h2
structure XB (m:Nm) (o:BoolOp) where
  asts:List PySem.Expr
  vc:{e:E0}→Ctx e→List Value→Sta→(Value→Sta→Prop)→Prop
  ok:∀ {e:E0} {x:Ctx e} {cv st k pos},Fits x cv m→vc x cv st k→H x (eval (.BoolOp o asts pos) x.c.env) st k
  ne:∃ a r,asts = a :: r
namespace XB
def kA2 (r:XB m .And) {e:E0} (x:Ctx e) (cv:List Value) (v:Value) (k:Value→Sta→Prop) (u:Bool) (st:Sta):Prop:=cond u (r.vc x cv st k) (k v st)
def kA1 (r:XB m .And) {e:E0} (x:Ctx e) (cv:List Value) (k:Value→Sta→Prop) (v:Value) (st:Sta):Prop:=truB x v st (kA2 r x cv v k)
def kO2 (r:XB m .Or) {e:E0} (x:Ctx e) (cv:List Value) (v:Value) (k:Value→Sta→Prop) (u:Bool) (st:Sta):Prop:=cond u (k v st) (r.vc x cv st k)
def kO1 (r:XB m .Or) {e:E0} (x:Ctx e) (cv:List Value) (k:Value→Sta→Prop) (v:Value) (st:Sta):Prop:=truB x v st (kO2 r x cv v k)
noncomputable def one {o:BoolOp} (a:XE m):XB m o where
  asts:=[a.ast]
  vc:=a.vc
  ok:=fun {_ _ _ _ _ _} F h'=>⟨fun s hs=>BoolOp_one ((a.ok F h').run s hs)⟩
  ne:=⟨_,_,rfl⟩
noncomputable def consA (a:XE m) (r:XB m .And):XB m .And where
  asts:=a.ast :: r.asts
  vc:=fun x cv st k=>a.vc x cv st (kA1 r x cv k)
  ok:=fun {_ x cv _ k pos} F h'=>⟨fun s hs=>by
    have hr:∀ st,r.vc x cv st k→H x (eval (.BoolOp .And r.asts pos) x.c.env) st k:=fun _ q=>r.ok F q
    obtain ⟨b,l,hl⟩:=r.ne
    rw [hl] at hr ⊢
    exact eval_and ((a.ok F h').on hs fun v st s hs q=>(truB_H q).on hs fun u st s hs q=>cond_to q (fun q=>(hr _ q).run s hs) (fun q=>⟨st,hs,q⟩))⟩
  ne:=⟨_,_,rfl⟩
noncomputable def consO (a:XE m) (r:XB m .Or):XB m .Or where
  asts:=a.ast :: r.asts
  vc:=fun x cv st k=>a.vc x cv st (kO1 r x cv k)
  ok:=fun {_ x cv _ k pos} F h'=>⟨fun s hs=>by
    have hr:∀ st,r.vc x cv st k→H x (eval (.BoolOp .Or r.asts pos) x.c.env) st k:=fun _ q=>r.ok F q
    obtain ⟨b,l,hl⟩:=r.ne
    rw [hl] at hr ⊢
    exact eval_or ((a.ok F h').on hs fun v st s hs q=>(truB_H q).on hs fun u st s hs q=>cond_to q (fun q=>⟨st,hs,q⟩) (fun q=>(hr _ q).run s hs))⟩
  ne:=⟨_,_,rfl⟩
end XB
noncomputable def XE.bop {o:BoolOp} (a:XB m o) (p:Pos):XE m where
  ast:=.BoolOp o a.asts p
  vc:=a.vc
  ok:=a.ok
  nc:=true
  nd:=true
  bs:=true
  pl:=false
  sh:=shBop
noncomputable def XE.jn (a:XE m):XE m where
  ast:=a.ast
  vc:=fun x cv st k=>Jn (a.vc x cv st) k
  ok:=fun {_ _ _ _ _} F h'=>let ⟨_,h1,h2⟩:=h'.ex; (a.ok F h1).mono h2
  nc:=a.nc
  nd:=a.nd
  bs:=a.bs
  pl:=a.pl
  sh:=a.sh
noncomputable def XO.none:XO m where
  ast:=.none
  vc:=fun _ _ st k=>k .none st
  ok:=fun {_ _ _ st _} _ h'=>⟨fun s hs=>p_none ⟨st,hs,h'⟩⟩
noncomputable def XO.some (a:XE m):XO m where
  ast:=.some a.ast
  vc:=a.vc
  ok:=fun {_ _ _ _ _} F h'=>⟨fun s hs=>p_some ((a.ok F h').run s hs)⟩
noncomputable def XI.yes:XI m where
  asts:=[]
  vc:=fun _ _ st k=>k true st
  ok:=fun {_ _ _ st _} _ h' s hs=>⟨st,hs,h'⟩
noncomputable def XI.one (t:XT m):XI m where
  asts:=[t.ast]
  vc:=t.vc
  ok:=fun {_ _ _ _ _} F h' s hs=>(t.ok F h').run s hs
structure Asg2 (v:Value) (I:Led) (k:Value→Value→Prop):Prop where
  ex:∃ T a b n,v = .ref T∧(T,tupO [a,b] n) ∈ I∧k a b
structure Asg3 (v:Value) (I:Led) (k:Value→Value→Value→Prop):Prop where
  ex:∃ T a b c n,v = .ref T∧(T,tupO [a,b,c] n) ∈ I∧k a b c
namespace XG
noncomputable def n (i:Nat) (p:Pos) (h:Nat.blt i m.ns.length = true:=by exact tt):XG m where
  ast:=.Name (nmAt m.ns i) p
  vc:=fun v st k=>inR st.vs i (k (st.put i v))
  ok:=fun {_ x _ st v _} F h'=>⟨fun s hs=>let ⟨a,q⟩:=inR_set (v:=v) h' (F.at h); a_name (store x.ok hs a fun s' hs'=>⟨st.put i v,hs',q⟩)⟩
noncomputable def t2 (i j:Nat) (p q r:Pos) (h:Nat.blt i m.ns.length = true:=by exact tt) (h2:Nat.blt j m.ns.length = true:=by exact tt):XG m where
  ast:=.Tuple [.Name (nmAt m.ns i) p,.Name (nmAt m.ns j) q] 0 r
  vc:=fun v st k=>Asg2 v st.I fun a b=>inR st.vs i (inR st.vs j (k ((st.put i a).put j b)))
  ok:=fun {_ x _ st v _} F h'=>⟨fun s hs=>by
    obtain ⟨T,a,b,n,rfl,hT,q⟩:=h'.ex
    obtain ⟨s1,q⟩:=inR_set (v:=a) q (F.at h)
    obtain ⟨s2,q⟩:=inR_set (v:=b) (inR_len (j:=i) (v:=some a) q) (F.at h2)
    exact a_pair x.ok hs (hs.hasI hT) fun s' hs'=>store x.ok hs' s1 fun s' hs'=>store x.ok hs' s2 fun s' hs'=>⟨(st.put i a).put j b,hs',q⟩⟩
noncomputable def t3 (i j l:Nat) (p q r z:Pos) (h:Nat.blt i m.ns.length = true:=by exact tt) (h2:Nat.blt j m.ns.length = true:=by exact tt) (h3:Nat.blt l m.ns.length = true:=by exact tt):XG m where
  ast:=.Tuple [.Name (nmAt m.ns i) p,.Name (nmAt m.ns j) q,.Name (nmAt m.ns l) r] 0 z
  vc:=fun v st k=>Asg3 v st.I fun a b c=>inR st.vs i (inR st.vs j (inR st.vs l (k (((st.put i a).put j b).put l c))))
  ok:=fun {_ x _ st v _} F h'=>⟨fun s hs=>by
    obtain ⟨T,a,b,c,n,rfl,hT,q⟩:=h'.ex
    obtain ⟨s1,q⟩:=inR_set (v:=a) q (F.at h)
    obtain ⟨s2,q⟩:=inR_set (v:=b) (inR_len (j:=i) (v:=some a) q) (F.at h2)
    obtain ⟨s3,q⟩:=inR_set (v:=c) (inR_len (j:=j) (v:=some b) (inR_len (j:=i) (v:=some a) q)) (F.at h3)
    exact a_triple x.ok hs (hs.hasI hT) fun s' hs'=>store x.ok hs' s1 fun s' hs'=>store x.ok hs' s2 fun s' hs'=>store x.ok hs' s3 fun s' hs'=>⟨((st.put i a).put j b).put l c,hs',q⟩⟩
end XG
end
end
section
section
def Turn (kn kb:Sta→Prop) (kr:Value→Sta→Prop):Flow→Sta→Prop
  | .next,st=>kn st
  | .cont,st=>kn st
  | .brk,st=>kb st
  | .ret v,st=>kr v st
@[irreducible] noncomputable def Tw {δ:Type} (S:δ→Sta) (F:Nat→δ→Prop) (done:Sta→Prop) (kr:Value→Sta→Prop) (n:Nat):Flow→Sta→Prop:=Turn (fun st=>∃ m d,m < n∧Le st (S d)∧F m d) done kr
theorem Tw.out {δ:Type} {S:δ→Sta} {F:Nat→δ→Prop} {done:Sta→Prop} {kr:Value→Sta→Prop} {n:Nat} {f:Flow} {st:Sta} (h:Tw S F done kr n f st):Turn (fun st=>∃ m d,m < n∧Le st (S d)∧F m d) done kr f st:=by unfold Tw at h; exact h
inductive WhlH (T:Sta→(Bool→Sta→Prop)→Prop) (B:Sta→(Flow→Sta→Prop)→Prop) (done:Sta→Prop) (kr:Value→Sta→Prop) (st:Sta):Prop
  | mk (δ:Type) (S:δ→Sta) (F:Nat→δ→Prop) (n:Nat) (d:δ):Le st (S d)→F n d→(∀ n d,F n d→T (S d) fun b st'=>cond b (B st' (Tw S F done kr n)) (done st'))→WhlH T B done kr st
def SrcI (M I:Led) (Src:Heap→Prop):Prop:=∀ {e:E0} {c:Cx} {ns:List Str} {vs:List (Option Value)} {s:Shared},St e c ns vs M I s→Src s.heap
@[irreducible] noncomputable def Tn {δ:Type} (S:Nat→δ→Sta) (F:Nat→δ→Prop) (done:Sta→Prop) (kr:Value→Sta→Prop) (it:Addr) (o:Obj) (i:Nat):Flow→Sta→Prop:=
  Turn (fun st=>∃ d,Le st ⟨(S (i + 1) d).vs,(it,o) :: (S (i + 1) d).M,(S (i + 1) d).I⟩∧F (i + 1) d) done kr
theorem Tn.out {δ:Type} {S:Nat→δ→Sta} {F:Nat→δ→Prop} {done:Sta→Prop} {kr:Value→Sta→Prop} {it:Addr} {o:Obj} {i:Nat} {f:Flow} {st:Sta} (h:Tn S F done kr it o i f st):Turn (fun st=>∃ d,Le st ⟨(S (i + 1) d).vs,(it,o) :: (S (i + 1) d).M,(S (i + 1) d).I⟩∧F (i + 1) d) done kr f st:=by unfold Tn at h; exact h
inductive ForP {e:E0} (as:Value→Sta→(Sta→Prop)→Prop) (B:Sta→(Flow→Sta→Prop)→Prop) (done:Sta→Prop) (kr:Value→Sta→Prop) (w:Value) (st₁:Sta):Prop
  | mk (it:Addr) (o:Obj) (Io:Nat→Obj→Prop) (n:Nat) (X:Nat→Value→Prop) (Src:Heap→Prop) (δ:Type) (S:Nat→δ→Sta) (F:Nat→δ→Prop) (d0:δ) :
    w = .ref it→st₁ = ⟨(S 0 d0).vs,(it,o) :: (S 0 d0).M,(S 0 d0).I⟩→IterSpec e it Io n X Src→Io 0 o→F 0 d0→(∀ i d,F i d→SrcI (S i d).M (S i d).I Src)→
    (∀ i y d o,i < n→X i y→F i d→as y ⟨(S i d).vs,(it,o) :: (S i d).M,(S i d).I⟩ fun st₂=>B st₂ (Tn S F done kr it o i))→(∀ d,F n d→done (S n d))→ForP as B done kr w st₁
structure ForH {e:E0} (x:Ctx e) (as:Value→Sta→(Sta→Prop)→Prop) (B:Sta→(Flow→Sta→Prop)→Prop) (done:Sta→Prop) (kr:Value→Sta→Prop) (v:Value) (st:Sta):Prop where
  ex:H x (pyIter v) st (ForP (e:=e) as B done kr)
@[irreducible] noncomputable def Gn {δ:Type} (S:Nat→δ→Sta) (F:Nat→δ→Prop) (it:Addr) (o:Obj) (i:Nat) (f:Flow) (st:Sta):Prop:=f = .next∧∃ d,Le st ⟨(S (i + 1) d).vs,(it,o) :: (S (i + 1) d).M,(S (i + 1) d).I⟩∧F (i + 1) d
inductive GrowP (as:Value→Sta→(Sta→Prop)→Prop) (B:Sta→(Flow→Sta→Prop)→Prop) (done:Sta→Prop) (v:Value) (st:Sta):Prop
  | mk (l:Addr) (δ:Type) (S:Nat→δ→Sta) (L:δ→List Value) (F:Nat→δ→Prop) (b:Nat) (d0:δ):v = .ref l→st = S 0 d0→F 0 d0→(∀ i d,F i d→(∃ n,(l,listO (L d) n) ∈ (S i d).M)∧i ≤ (L d).length∧(L d).length ≤ b)→
    (∀ i d y it o,(L d)[i]? = some y→F i d→as y ⟨(S i d).vs,(it,o) :: (S i d).M,(S i d).I⟩ fun st₂=>B st₂ (Gn S F it o i))→(∀ d,F (L d).length d→done (S (L d).length d))→GrowP as B done v st
structure GrowH {e:E0} (x:Ctx e) (as:Value→Sta→(Sta→Prop)→Prop) (B:Sta→(Flow→Sta→Prop)→Prop) (done:Sta→Prop) (v:Value) (st:Sta):Prop where
  ex:GrowP as B done v st
noncomputable def lstN {α:Type} (a:Nat→α):Nat→List α
  | 0=>[]
  | n + 1=>a 0 :: lstN (fun i=>a (i + 1)) n
theorem lstN_of {α:Type} {b:α}:∀ l:List α,lstN (fun i=>(l[i]?).getD b) l.length = l
  | []=>rfl
  | v :: l=>congrArg (v :: ·) (lstN_of l)
@[irreducible] noncomputable def Ce {δ:Type} (S:Nat→δ→Led × Led) (F:Nat→List Value→δ→Prop) (nl:Nat) (it acc:Addr) (o:Obj) (ys:List Value) (i:Nat) (zs:List Value) (st:Sta):Prop:=
  st.vs.length = nl∧∃ d m,Le st ⟨st.vs,(it,o) :: (acc,listO ys m) :: (S (i + 1) d).1,(S (i + 1) d).2⟩∧F (i + 1) zs d
theorem Ce.out {δ:Type} {S:Nat→δ→Led × Led} {F:Nat→List Value→δ→Prop} {nl:Nat} {it acc:Addr} {o:Obj} {ys:List Value} {i:Nat} {zs:List Value} {st:Sta} (h:Ce S F nl it acc o ys i zs st):st.vs.length = nl∧∃ d m,Le st ⟨st.vs,(it,o) :: (acc,listO ys m) :: (S (i + 1) d).1,(S (i + 1) d).2⟩∧F (i + 1) zs d:=by unfold Ce at h; exact h
inductive CompP {e:E0} (x:Ctx e) (as:Value→Sta→(Sta→Prop)→Prop) (T:Ctx e→Sta→(Bool→Sta→Prop)→Prop) (El:Ctx e→Sta→(Value→Sta→Prop)→Prop) (nl:Nat) (vs:List (Option Value)) (k:Value→Sta→Prop) (w:Value) (st₁:Sta):Prop
  | mk (it:Addr) (o:Obj) (Io:Nat→Obj→Prop) (n:Nat) (X:Nat→Value→Prop) (Src:Heap→Prop) (δ:Type) (S:Nat→δ→Led × Led) (F:Nat→List Value→δ→Prop) (d0:δ) :
    w = .ref it→st₁ = ⟨vs,(it,o) :: (S 0 d0).1,(S 0 d0).2⟩→IterSpec e it Io n X Src→Io 0 o→F 0 [] d0→n ≤ sizeLine→(∀ i ys d,F i ys d→SrcI (S i d).1 (S i d).2 Src)→
    (∀ x':Ctx e,x'.c.room = x.c.room→∀ i y ys d o m acc u,i < n→X i y→F i ys d→as y ⟨lstN u nl,(it,o) :: (acc,listO ys m) :: (S i d).1,(S i d).2⟩ fun st₂=>T x' st₂ fun b st₃=>
      cond b (El x' st₃ fun v st₄=>Ce S F nl it acc o ys i (ys ++ [v]) st₄) (Ce S F nl it acc o ys i ys st₃))→
    (∀ acc ys d m,F n ys d→k (.ref acc) ⟨vs,(acc,listO ys m) :: (S n d).1,(S n d).2⟩)→CompP x as T El nl vs k w st₁
structure CompH {e:E0} (x:Ctx e) (as:Value→Sta→(Sta→Prop)→Prop) (T:Ctx e→Sta→(Bool→Sta→Prop)→Prop) (El:Ctx e→Sta→(Value→Sta→Prop)→Prop) (nl:Nat) (v:Value) (st:Sta) (k:Value→Sta→Prop):Prop where
  ex:H x (pyIter v) st (CompP x as T El nl st.vs k)
variable {m:Nm}
noncomputable def capName (m:Nm) (p:Bool × Nat):Str:=cond p.1 (nmAt m.ns p.2) (nmAt m.cs p.2)
noncomputable def capOkB (m:Nm) (p:Bool × Nat):Bool:=cond p.1 (Nat.blt p.2 m.ns.length && m.ck[p.2]? == some true) (Nat.blt p.2 m.cs.length)
noncomputable def compChk (m m':Nm) (cap:List (Bool × Nat)) (scope:Scope):Bool:=
  compOk scope m'.ns ((gsOf m'.gi).map (·.1)) && compPre scope && decide (frees scope = cap.map (capName m)) && decide (m'.cs = cap.map (capName m)) && cap.all (capOkB m) &&
  (m'.ns.zip m'.ck).all fun p=>scope.names.lookup p.1 == some (cond p.2 .cell .local)
structure CompChk (m m':Nm) (cap:List (Bool × Nat)) (scope:Scope):Prop where
  ok:compOk scope m'.ns ((gsOf m'.gi).map (·.1)) = true
  pre:compPre scope = true
  fr:frees scope = cap.map (capName m)
  cs:m'.cs = cap.map (capName m)
  all:cap.all (capOkB m) = true
  ck:∀ (i:Nat) y b,m'.ns[i]? = some y→m'.ck[i]? = some b→scope.names.lookup y = some (cond b .cell .local)
theorem zip_at {α β:Type} {l:List α} {r:List β} {i:Nat} {a:α} {b:β} (h:l[i]? = some a) (k:r[i]? = some b):(a,b) ∈ l.zip r:=
  List.mem_of_getElem? (i:=i) (List.getElem?_zip_eq_some.mpr ⟨h,k⟩)
theorem compChk_is {m m':Nm} {cap:List (Bool × Nat)} {scope:Scope} (h:compChk m m' cap scope = true):CompChk m m' cap scope:=by
  unfold compChk at h
  obtain ⟨h,h6⟩:=Bool.and_eq_true_iff.mp h
  obtain ⟨h,h5⟩:=Bool.and_eq_true_iff.mp h
  obtain ⟨h,h4⟩:=Bool.and_eq_true_iff.mp h
  obtain ⟨h,h3⟩:=Bool.and_eq_true_iff.mp h
  obtain ⟨h1,h2⟩:=Bool.and_eq_true_iff.mp h
  exact ⟨h1,h2,of_decide_eq_true h3,of_decide_eq_true h4,h5,fun i y b q1 q2=>eq_of_beq (List.all_eq_true.mp h6 _ (zip_at q1 q2))⟩
section
variable {e:E0} {x:Ctx e} {st:Sta}
theorem cap_get {cv:List Value} (F:Fits x cv m) {p:Bool × Nat} {K:Value→Prop} (h:capOkB m p = true) (q:cond p.1 (look st.vs p.2 K) (lookW cv p.2 K)):∃ v,CapOk x.c x.ns st.vs (capName m p) v∧K v:=by
  obtain ⟨b,i⟩:=p
  cases b with
  | true=>
    obtain ⟨h1,h2⟩:=Bool.and_eq_true_iff.mp (show (Nat.blt i m.ns.length && m.ck[i]? == some true) = true from h)
    obtain ⟨v,a,q⟩:=look_get q (F.at h1)
    exact ⟨v,⟨F.ck i _ true (nm_get h1) (eq_of_beq h2),.inl a⟩,q⟩
  | false=>
    obtain ⟨v,a,q⟩:=lookW_get q
    have:=F.fro i _ v (nm_get h) a
    exact ⟨v,⟨this.1,.inr this⟩,q⟩
theorem lookC_cons {vs:List (Option Value)} {cv:List Value} {p:Bool × Nat} {r:List (Bool × Nat)} {K:List Value→Prop} (h:lookC vs cv (p :: r) K):cond p.1 (look vs p.2 fun v=>lookC vs cv r fun l=>K (v :: l)) (lookW cv p.2 fun v=>lookC vs cv r fun l=>K (v :: l)):=by
  obtain ⟨b,i⟩:=p
  exact h
theorem lookC_get {cv:List Value} (F:Fits x cv m):∀ {cap:List (Bool × Nat)} {K:List Value→Prop},cap.all (capOkB m) = true→lookC st.vs cv cap K→
    ∃ l:List Value,l.length = cap.length∧K l∧∀ p ∈ (cap.map (capName m)).zip l,CapOk x.c x.ns st.vs p.1 p.2
  | [],K,_,h=>⟨[],rfl,h,fun p hp=>nomatch hp⟩
  | p :: r,K,hc,h=>by
    rw [List.all_cons] at hc
    obtain ⟨h1,h2⟩:=Bool.and_eq_true_iff.mp hc
    obtain ⟨v,a,q⟩:=cap_get F h1 (lookC_cons h)
    obtain ⟨l,e1,e2,e3⟩:=lookC_get F h2 q
    refine ⟨v :: l,congrArg Nat.succ e1,e2,fun p hp=>?_⟩
    rw [List.map_cons,List.zip_cons_cons] at hp
    rcases List.mem_cons.mp hp with rfl | hp
    · exact a
    · exact e3 p hp
theorem caps_some {cv:List Value} {cap:List (Bool × Nat)} (F:Fits x cv m) (h:cap.all (capOkB m) = true):∀ y ∈ cap.map (capName m),(x.c.env.cells.lookup y).isSome = true:=fun y hy=>by
  obtain ⟨⟨b,i⟩,hp,rfl⟩:=List.mem_map.mp hy
  have h1:=List.all_eq_true.mp h _ hp
  cases b with
  | true=>
    obtain ⟨h1,h2⟩:=Bool.and_eq_true_iff.mp (show (Nat.blt i m.ns.length && m.ck[i]? == some true) = true from h1)
    have hk:x.c.env.kindOf (nmAt m.ns i) = some .cell:=F.ck i _ true (nm_get h1) (eq_of_beq h2)
    rcases x.ok.loc _ (List.mem_of_getElem? (F.at h1)) with q | ⟨_,q⟩
    · rw [hk] at q; cases q
    · obtain ⟨a,ha⟩:=Option.isSome_iff_exists.mp q
      show (x.c.env.cells.lookup (nmAt m.ns i)).isSome = true
      rw [x.ok.hown _ _ ha]; rfl
  | false=>
    have h1:Nat.blt i m.cs.length = true:=h1
    obtain ⟨_,_,a,o,ha,_⟩:=F.fro i _ _ (nm_get h1) (List.getElem?_eq_getElem (F.len ▸ Nat.blt_eq.mp h1))
    show (x.c.env.cells.lookup (nmAt m.cs i)).isSome = true
    rw [ha]; rfl
end
inductive CompD {δ:Type} (S:Nat→δ→Led × Led) (F:Nat→List Value→δ→Prop) (nl i:Nat) (ys:List Value) (vs:List (Option Value)):Led→Led→Prop
  | mk (d:δ):vs.length = nl→F i ys d→CompD S F nl i ys vs (S i d).1 (S i d).2
structure XC (m:Nm) where
  it:XE m
  el:PySem.Expr
  tg:PySem.Expr
  ifs:List PySem.Expr
  scope:Scope
  pos:Pos
  vc:{e:E0}→Ctx e→List Value→Value→Sta→(Value→Sta→Prop)→Prop
  run:∀ {e:E0} {x:Ctx e} {cv st v k use} {Q:Value→Shared→Prop},Fits x cv m→vc x cv v st k→
    (∀ acc C oC mC ys M I n s,k (.ref acc) ⟨st.vs,(acc,listO ys n) :: M,I⟩→s.heap.Ns C mC→St e x.c x.ns st.vs ((acc,listO ys n) :: (C,oC) :: M) I s→compPost (model e.prog e.w) x.c.A noE use Q (.ref acc) C (.ok .next) s)→
    ∀ s,SS x st s→wpAny (model e.prog e.w) x.c.A (pyIter v) (CompK e x.c el tg it.ast ifs scope pos use Q noE) noE s
  fr:∀ {e:E0} {x:Ctx e} {cv},Fits x cv m→∀ y ∈ frees scope,(x.c.env.cells.lookup y).isSome = true
  pre:compPre scope = true
noncomputable def XC.of (it:XE m) (m':Nm) (cap:List (Bool × Nat)) (scope:Scope) (g:XG m') (t:XI m') (a:XE m') (pos:Pos) (h:compChk m m' cap scope = true):XC m where
  it:=it
  el:=a.ast
  tg:=g.ast
  ifs:=t.asts
  scope:=scope
  pos:=pos
  vc:=fun x cv v st k=>lookC st.vs cv cap fun cv'=>CompH x g.vc (fun x'=>t.vc x' cv') (fun x'=>a.vc x' cv') m'.ns.length v st k
  fr:=fun F=>(compChk_is h).fr ▸ caps_some F (compChk_is h).all
  pre:=(compChk_is h).pre
  run:=fun {e x cv st v k use Q} F h' fin s hs=>by
    have C:=compChk_is h
    obtain ⟨l,hl,⟨hH⟩,hz⟩:=lookC_get F C.all h'
    refine hH.on hs fun w st₁ s₁ hs₁ q=>?_
    obtain ⟨itA,o,Io,n,X,Src,δ,S,Fd,d0,rfl,rfl,sp,ho,h0,hn,hsrc,step,fi⟩:=q
    have hll:(cap.map (capName m)).length = l.length:=by rw [List.length_map,hl]
    refine comp_go (cap:=(cap.map (capName m)).zip l) (gs':=gsOf m'.gi) (CompD S Fd m'.ns.length) x.ok sp hs₁ ho C.ok gsOf_gl hz ?_ ⟨d0,List.length_map ..,h0⟩ hn ?_ ?_ ?_
    · rw [C.fr,zip_fst hll]
    · rintro c' i ys vs M I o mm acc s ⟨d,_,hP⟩ hIo hs
      exact hsrc i ys d hP ((hs.drop .head).drop .head)
    · rintro c' acc ok' fro hK hroom i y ys vs M I o mm s hi hX ⟨d,hv,hP⟩ hIo hs
      let x':Ctx e:=⟨c',m'.ns,gsOf m'.gi,ok'⟩
      have F':Fits x' l m':=by
        refine ⟨rfl,rfl,fun i y v hy hv=>fro (y,v) (zip_at (C.cs ▸ hy) hv),fun i y b hy hb=>hK y _ (C.ck i y b hy hb) (by cases b <;> exact fun q=>nomatch q),?_⟩
        rw [C.cs]; exact hll
      have st':=step x' hroom i y ys d o mm acc (fun i=>(vs[i]?).getD none) hi hX hP
      rw [← hv,lstN_of] at st'
      refine (g.ok F' st').on hs fun _ st₂ s₂ hs₂ q=>?_
      refine test_mono (t.ok F' q s₂ hs₂) fun b s₃ ⟨st₃,hs₃,q⟩=>?_
      cases b with
      | false=>
        obtain ⟨hl',d',m2,hle,hP'⟩:=q.out
        exact ⟨_,_,_,_,_,⟨d',hl'.trans hv,hP'⟩,hIo,hle hs₃⟩
      | true=>
        refine (a.ok F' q).on hs₃ fun v st₄ s₄ hs₄ q=>?_
        obtain ⟨hl',d',m2,hle,hP'⟩:=q.out
        exact ⟨_,_,_,_,_,⟨rfl,d',hl'.trans hv,hP'⟩,hIo,hle hs₄⟩
    · rintro acc C oC mC ys vs' M I m' s ⟨d,_,hP⟩ hN hs
      exact fin _ _ _ _ _ _ _ _ _ (fi acc ys d m' hP) hN hs
noncomputable def XE.comp (c:XC m):XE m where
  ast:=.ListComp c.el [⟨c.tg,c.it.ast,c.ifs,0⟩] c.scope c.pos
  vc:=fun x cv st k=>c.it.vc x cv st fun v st=>c.vc x cv v st k
  ok:=fun {_ _ _ _ _} F h'=>⟨fun s hs=>g_ListComp (c.fr F) c.pre ((c.it.ok F h').on hs fun v st s hs q=>c.run F q (fun acc C oC mC ys M I n s hk hN hs=>comp_post_none hN hs fun s' hs'=>upM hs' hk) s hs) (c.it.sh.set _)⟩
  nc:=false
  nd:=true
  bs:=true
  pl:=true
  sh:=shComp
def seqR (R:Sta→Prop) (k:Flow→Sta→Prop) (f:Flow) (st:Sta):Prop:=match f with
  | .next=>R st
  | f=>k f st
theorem seq_go {e:E0} {x:Ctx e} {st:Sta} {cv:List Value} {r:XS m} {k:Flow→Sta→Prop} (F:Fits x cv m):∀ {f:Flow} {s:Shared},SS x st s→seqR (kR r x cv k) k f st→seqK (model e.prog e.w) x.c.A r.asts x.c.env (up x k) noE f s
  | .next,s,hs,q=>(r.ok F q).run s hs
  | .cont,s,hs,q=>⟨st,hs,q⟩
  | .brk,s,hs,q=>⟨st,hs,q⟩
  | .ret v,s,hs,q=>⟨st,hs,q⟩
namespace XS
noncomputable def nil:XS m where
  asts:=[]
  vc:=fun _ _ st k=>k .next st
  ok:=fun {_ _ _ st _} _ h'=>⟨fun s hs=>g_nil ⟨st,hs,h'⟩⟩
noncomputable def exp (a:XE m) (p:Pos) (r:XS m) (h:a.nc = true:=by exact tt):XS m where
  asts:=.Expr a.ast p :: r.asts
  vc:=fun x cv st k=>a.vc x cv st (kExp r x cv k)
  ok:=fun {_ x _ _ _} F h'=>⟨fun s hs=>g_cons (exec_expr x.ok ((a.ok F h').on hs fun v st s hs q=>g_next ((r.ok F q).run s hs)) (a.sh.comp h _ _ _))⟩
noncomputable def ret (a:XE m) (p:Pos):XS m where
  asts:=[.Return (some a.ast) p]
  vc:=fun x cv st k=>a.vc x cv st (kRet k)
  ok:=fun {_ _ _ _ _} F h'=>⟨fun s hs=>g_cons (g_Return ((a.ok F h').on hs fun v st s hs q=>g_ret ⟨st,hs,q⟩))⟩
noncomputable def cont (p:Pos):XS m where
  asts:=[.Continue p]
  vc:=fun _ _ st k=>k .cont st
  ok:=fun {_ _ _ st _} _ h'=>⟨fun s hs=>g_cons (g_Continue (g_cont ⟨st,hs,h'⟩))⟩
noncomputable def ife (t:XT m) (a b:XS m) (p:Pos) (r:XS m):XS m where
  asts:=.If t.ast a.asts b.asts p :: r.asts
  vc:=fun x cv st k=>t.vc x cv st (kIfS a b x cv (seqR (kR r x cv k) k))
  ok:=fun {_ _ _ _ _} F h'=>⟨fun s hs=>g_cons (g_If ((t.ok F h').on hs fun u st s hs q=>g_ite (fun hb=>(a.ok F (by rw [hb] at q; exact q)).on hs fun f st s hs q=>seq_go F hs q) (fun hb=>(b.ok F (by rw [hb] at q; exact q)).on hs fun f st s hs q=>seq_go F hs q)))⟩
noncomputable def ifj (t:XT m) (a b:XS m) (p:Pos) (r:XS m):XS m where
  asts:=.If t.ast a.asts b.asts p :: r.asts
  vc:=fun x cv st k=>Jn (kIfJ t a b x cv st) (seqR (kR r x cv k) k)
  ok:=fun {_ _ _ _ _} F h'=>⟨fun s hs=>by
    obtain ⟨k',h1,h2⟩:=h'.ex
    exact g_cons (g_If ((t.ok F h1).on hs fun u st s hs q=>g_ite (fun hb=>(a.ok F (by rw [hb] at q; exact q)).on hs fun f st s hs q=>seq_go F hs (h2 _ _ q)) (fun hb=>(b.ok F (by rw [hb] at q; exact q)).on hs fun f st s hs q=>seq_go F hs (h2 _ _ q))))⟩
noncomputable def set (i:Nat) (p:Pos) (a:XE m) (q:Pos) (r:XS m) (h:Nat.blt i m.ns.length = true:=by exact tt) (hc:a.nc = true:=by exact tt):XS m where
  asts:=.Assign [.Name (nmAt m.ns i) p] a.ast q :: r.asts
  vc:=fun x cv st k=>a.vc x cv st (kSet i r x cv k)
  ok:=fun {_ x _ _ _} F h'=>⟨fun s hs=>g_cons (g_Assign ((a.ok F h').on hs fun v st s hs q=>by
    obtain ⟨h5,q⟩:=inR_set (v:=v) q (F.at h)
    exact store x.ok hs h5 fun s' hs'=>g_next ((r.ok F q).run s' hs')) (a.sh.comp hc _ _ _))⟩
noncomputable def setc (i:Nat) (p:Pos) (c:XC m) (q:Pos) (r:XS m) (h:Nat.blt i m.ns.length = true) (hk:m.ck[i]? = some false) (hl:(p.line == c.pos.line) = true) (hn:(c.scope.names.any fun q=>q.1 == nmAt m.ns i && (q.2 == .local || q.2 == .cell)) = false):XS m where
  asts:=.Assign [.Name (nmAt m.ns i) p] (.ListComp c.el [⟨c.tg,c.it.ast,c.ifs,0⟩] c.scope c.pos) q :: r.asts
  vc:=fun x cv st k=>c.it.vc x cv st fun v st=>c.vc x cv v st (kSet i r x cv k)
  ok:=fun {_ x _ _ _} F h'=>⟨fun s hs=>by
    have hsw:swapsWith (.ListComp c.el [⟨c.tg,c.it.ast,c.ifs,0⟩] c.scope c.pos) (some (.Name (nmAt m.ns i) p)) q.line x.c.env = pure true:=by
      show (pure (x.c.env.blockKind == .function && x.c.env.kindOf (nmAt m.ns i) == some .local && p.line == c.pos.line && !(c.scope.names.any fun q=>q.1 == nmAt m.ns i && (q.2 == .local || q.2 == .cell))):Sem Bool) = pure true
      have hb:(x.c.env.blockKind == .function) = true:=by unfold Env.blockKind; rw [x.ok.kf]; rfl
      rw [hb,F.ck i _ false (nm_get h) hk,hl,hn]; rfl
    exact g_cons (g_AssignComp (c.fr F) c.pre hsw ((c.it.ok F h').on hs fun v st s hs q=>c.run F q (fun acc C oC mC ys M I n s hk hN hs=>by
      obtain ⟨h5,q⟩:=inR_set (v:=.ref acc) hk (F.at h)
      exact comp_post_assign x.ok hN hs h5 fun s' hs'=>g_next ((r.ok F q).run s' hs')) s hs) (c.it.sh.set _))⟩
noncomputable def setk (i:Nat) (p:Pos) (c:XC m) (q:Pos) (r:XS m) (h:Nat.blt i m.ns.length = true) (hk:m.ck[i]? = some true):XS m where
  asts:=.Assign [.Name (nmAt m.ns i) p] (.ListComp c.el [⟨c.tg,c.it.ast,c.ifs,0⟩] c.scope c.pos) q :: r.asts
  vc:=fun x cv st k=>c.it.vc x cv st fun v st=>c.vc x cv v st (kSet i r x cv k)
  ok:=fun {_ x _ _ _} F h'=>⟨fun s hs=>by
    have hsw:swapsWith (.ListComp c.el [⟨c.tg,c.it.ast,c.ifs,0⟩] c.scope c.pos) (some (.Name (nmAt m.ns i) p)) q.line x.c.env = pure false:=by
      show (pure (x.c.env.blockKind == .function && x.c.env.kindOf (nmAt m.ns i) == some .local && p.line == c.pos.line && !(c.scope.names.any fun q=>q.1 == nmAt m.ns i && (q.2 == .local || q.2 == .cell))):Sem Bool) = pure false
      rw [F.ck i _ true (nm_get h) hk]
      rw [show ((some (cond true NameKind.cell .local):Option NameKind) == some .local) = false from rfl,Bool.and_false,Bool.false_and]; rfl
    exact g_cons (g_Assign (((XE.comp c).ok F h').on hs fun v st s hs q=>by
      obtain ⟨h5,q⟩:=inR_set (v:=v) q (F.at h)
      exact store x.ok hs h5 fun s' hs'=>g_next ((r.ok F q).run s' hs')) hsw)⟩
noncomputable def unp2 (i j:Nat) (p p2 p3:Pos) (a:XE m) (q:Pos) (r:XS m) (h:Nat.blt i m.ns.length = true:=by exact tt) (h2:Nat.blt j m.ns.length = true:=by exact tt) (hc:a.nc = true:=by exact tt) (hd:a.nd = true:=by exact tt):XS m where
  asts:=.Assign [(XG.t2 i j p p2 p3 h h2).ast] a.ast q :: r.asts
  vc:=fun x cv st k=>a.vc x cv st (kUnp (XG.t2 i j p p2 p3 h h2) r x cv k)
  ok:=fun {_ x _ _ _} F h'=>⟨fun s hs=>g_cons (g_AssignTup ((a.ok F h').on hs fun v st s hs q=>((XG.t2 i j p p2 p3 h h2).ok F q).on hs fun _ st s hs q=>g_next ((r.ok F q).run s hs)) (a.sh.comp hc (some (XG.t2 i j p p2 p3 h h2).ast) q.line x.c.env) (a.sh.disp hd _ _ _ _))⟩
noncomputable def unp3 (i j l:Nat) (p p2 p3 p4:Pos) (a:XE m) (q:Pos) (r:XS m) (h:Nat.blt i m.ns.length = true:=by exact tt) (h2:Nat.blt j m.ns.length = true:=by exact tt) (h3:Nat.blt l m.ns.length = true:=by exact tt) (hc:a.nc = true:=by exact tt) (hd:a.nd = true:=by exact tt):XS m where
  asts:=.Assign [(XG.t3 i j l p p2 p3 p4 h h2 h3).ast] a.ast q :: r.asts
  vc:=fun x cv st k=>a.vc x cv st (kUnp (XG.t3 i j l p p2 p3 p4 h h2 h3) r x cv k)
  ok:=fun {_ x _ _ _} F h'=>⟨fun s hs=>g_cons (g_AssignTup ((a.ok F h').on hs fun v st s hs q=>((XG.t3 i j l p p2 p3 p4 h h2 h3).ok F q).on hs fun _ st s hs q=>g_next ((r.ok F q).run s hs)) (a.sh.comp hc (some (XG.t3 i j l p p2 p3 p4 h h2 h3).ast) q.line x.c.env) (a.sh.disp hd _ _ _ _))⟩
noncomputable def sts (a i v:XE m) (p q:Pos) (r:XS m) (h:v.nc = true:=by exact tt):XS m where
  asts:=.Assign [.Subscript a.ast i.ast p] v.ast q :: r.asts
  vc:=fun x cv st k=>v.vc x cv st (kSts1 a i r x cv k)
  ok:=fun {_ _ _ _ _} F h'=>⟨fun s hs=>g_cons (g_AssignSub ((v.ok F h').on hs fun u st s hs q=>(a.ok F q).on hs fun ov st s hs q=>(i.ok F q).on hs fun iv st s hs q=>q.on hs fun _ st s hs q=>g_next ((r.ok F q).run s hs)) (v.sh.comp h _ _ _))⟩
noncomputable def sta (o:XE m) (nm:Str) (v:XE m) (p q:Pos) (r:XS m) (h:v.nc = true:=by exact tt):XS m where
  asts:=.Assign [.Attribute o.ast nm p] v.ast q :: r.asts
  vc:=fun x cv st k=>v.vc x cv st (kSta1 o nm r x cv k)
  ok:=fun {_ _ _ _ _} F h'=>⟨fun s hs=>g_cons (g_AssignAttr ((v.ok F h').on hs fun u st s hs q=>(o.ok F q).on hs fun ov st s hs q=>q.on hs fun _ st s hs q=>g_next ((r.ok F q).run s hs)) (v.sh.comp h _ _ _))⟩
noncomputable def auga (o:XE m) (nm:Str) (op:Operator) (a:XE m) (p q:Pos) (r:XS m):XS m where
  asts:=.AugAssign (.Attribute o.ast nm p) op a.ast q :: r.asts
  vc:=fun x cv st k=>o.vc x cv st fun ov st=>H x (getAttr ov nm true) st fun old st=>a.vc x cv st fun v st=>H x (inplaceOp op old v) st fun u st=>H x (setAttr ov nm u) st fun _ st=>r.vc x cv st k
  ok:=fun {_ _ _ _ _} F h'=>⟨fun s hs=>g_cons (g_AugAttr ((o.ok F h').on hs fun ov st s hs q=>q.on hs fun old st s hs q=>(a.ok F q).on hs fun v st s hs q=>q.on hs fun u st s hs q=>q.on hs fun _ st s hs q=>g_next ((r.ok F q).run s hs)))⟩
noncomputable def augn (i:Nat) (op:Operator) (a:XE m) (p q:Pos) (r:XS m) (h:Nat.blt i m.ns.length = true:=by exact tt):XS m where
  asts:=.AugAssign (.Name (nmAt m.ns i) p) op a.ast q :: r.asts
  vc:=fun x cv st k=>look st.vs i fun old=>a.vc x cv st fun v st=>H x (inplaceOp op old v) st fun u st=>inR st.vs i (r.vc x cv (st.put i u) k)
  ok:=fun {_ x _ _ _} F h'=>⟨fun s hs=>by
    obtain ⟨old,ha,q⟩:=look_get h' (F.at h)
    refine g_cons (g_AugName (load_loc x.ok hs ha ((a.ok F q).on hs fun v st s hs q=>q.on hs fun u st s hs q=>?_)))
    obtain ⟨hset,q⟩:=inR_set (v:=u) q (F.at h)
    exact store x.ok hs hset fun s' hs'=>g_next ((r.ok F q).run s' hs')⟩
noncomputable def dels (a:XE m) (lo hi:XO m) (ps p q:Pos) (r:XS m):XS m where
  asts:=.Delete [.Subscript a.ast (.Slice lo.ast hi.ast none ps) p] q :: r.asts
  vc:=fun x cv st k=>a.vc x cv st (kDls1 lo hi r x cv k)
  ok:=fun {_ _ _ _ _} F h'=>⟨fun s hs=>g_cons (g_Delete ((a.ok F h').on hs fun v st s hs q=>g_Slice ((lo.ok F q).on hs fun l st s hs q=>(hi.ok F q).on hs fun u st s hs q=>slk_in hs fun z s' hs'=>(q z).on hs' fun _ st s hs q=>g_next ((r.ok F q).run s hs))))⟩
noncomputable def for_ (g:XG m) (it:XE m) (b:XS m) (p:Pos) (r:XS m):XS m where
  asts:=.For g.ast it.ast b.asts [] p :: r.asts
  vc:=fun x cv st k=>it.vc x cv st (ForH x g.vc (b.vc x cv) (kR r x cv k) (kRet k))
  ok:=fun {e x cv _ k} F h'=>⟨fun s hs=>by
    refine g_cons (g_For ((it.ok F h').on hs fun v st s hs q=>q.ex.on hs fun w st₁ s hs q=>?_) (it.sh.set _))
    obtain ⟨itA,o,Io,n,X,Src,δ,S,Fd,d0,rfl,rfl,sp,ho,h0,hsrc,step,fin⟩:=q
    refine for_iter (fun i vs M I=>∃ d,S i d = ⟨vs,M,I⟩∧Fd i d) x.ok sp hs ho ⟨d0,rfl,h0⟩ ?_ ?_ ?_
    · rintro i vs M I o s ⟨d,q,hP⟩ hI hs
      have h2:SrcI (S i d).M (S i d).I Src:=hsrc i d hP
      rw [q] at h2
      exact h2 (hs.drop .head)
    · rintro i y vs M I o s hi hX ⟨d,q,hP⟩ hI hs
      have st':=step i y d o hi hX hP
      rw [q] at st'
      refine (g.ok F st').on hs fun _ st s hs q=>(b.ok F q).on hs fun f st s hs q=>?_
      have key:(∃ d,Le st ⟨(S (i + 1) d).vs,(itA,o) :: (S (i + 1) d).M,(S (i + 1) d).I⟩∧Fd (i + 1) d)→∃ vs M I o,(∃ d,S (i + 1) d = ⟨vs,M,I⟩∧Fd (i + 1) d)∧Io (i + 1) o∧St e x.c x.ns vs ((itA,o) :: M) I s:=fun ⟨d,hle,hP'⟩=>⟨_,_,_,_,⟨d,rfl,hP'⟩,hI,hle hs⟩
      cases f with
      | next=>exact key q.out
      | cont=>exact key q.out
      | brk=>exact (r.ok F q.out).run s hs
      | ret v=>exact ⟨st,hs,q.out⟩
    · rintro vs M I s ⟨d,q,hP⟩ hs
      have:=fin d hP
      rw [q] at this
      exact (r.ok F this).run s hs⟩
noncomputable def forg (g:XG m) (it:XE m) (b:XS m) (p:Pos) (r:XS m):XS m where
  asts:=.For g.ast it.ast b.asts [] p :: r.asts
  vc:=fun x cv st k=>it.vc x cv st (GrowH x g.vc (b.vc x cv) (kR r x cv k))
  ok:=fun {e x cv _ k} F h'=>⟨fun s hs=>by
    refine g_cons (g_For ((it.ok F h').on hs fun v st s hs q=>?_) (it.sh.set _))
    obtain ⟨l,δ,S,L,Fd,bd,d0,rfl,rfl,h0,hsrc,step,fin⟩:=q.ex
    obtain ⟨⟨n0,hm⟩,_⟩:=hsrc 0 d0 h0
    refine iter_list hs (St.has hs hm) fun itA o s' hio hs'=>?_
    refine for_grow (B:=bd) (fun i xs vs M I=>∃ d,S i d = ⟨vs,M,I⟩∧L d = xs∧Fd i d) x.ok hs' hio ⟨d0,rfl,rfl,h0⟩ ?_ ?_ ?_
    · rintro i xs vs M I ⟨d,q,rfl,hP⟩
      have h2:=hsrc i d hP
      rw [q] at h2
      exact h2
    · rintro i xs y vs M I o s hX ⟨d,q,rfl,hP⟩ hI hs
      have st':=step i d y itA o hX hP
      rw [q] at st'
      refine (g.ok F st').on hs fun _ st s hs q=>(b.ok F q).on hs fun f st s hs q=>?_
      unfold Gn at q
      obtain ⟨rfl,d2,hle,hP'⟩:=q
      exact grow_next (P:=fun i xs vs M I=>∃ d,S i d = ⟨vs,M,I⟩∧L d = xs∧Fd i d) (hle hs) hI ⟨d2,rfl,rfl,hP'⟩
    · rintro xs vs M I s ⟨d,q,rfl,hP⟩ hs
      have:=fin d hP
      rw [q] at this
      exact (r.ok F this).run s hs⟩
noncomputable def whl (t:XT m) (b:XS m) (p:Pos) (r:XS m):XS m where
  asts:=.While t.ast b.asts [] p :: r.asts
  vc:=fun x cv st k=>WhlH (t.vc x cv) (b.vc x cv) (kR r x cv k) (kRet k) st
  ok:=fun {e x cv st k} F h'=>⟨fun s hs=>by
    obtain ⟨δ,S,J,n,d,hle,hJ,hT⟩:=h'
    refine g_cons (while_start ?_)
    have all:∀ n d s,J n d→SS x (S d) s→WL e x.c t.ast b.asts (seqK (model e.prog e.w) x.c.A r.asts x.c.env (up x k) noE) s:=by
      intro n
      induction n using Nat.strongRecOn with
      | ind n ih=>
        intro d s hj hs
        refine while_turn ((t.ok F (hT n d hj)).on hs fun u st s hs q=>?_)
        cases u with
        | false=>exact (r.ok F q).run s hs
        | true=>
          refine (b.ok F q).on hs fun f st s hs q=>?_
          cases f with
          | next=>obtain ⟨m',d',hm,hle,hj'⟩:=q.out; exact ih m' hm d' s hj' (hle hs)
          | cont=>obtain ⟨m',d',hm,hle,hj'⟩:=q.out; exact ih m' hm d' s hj' (hle hs)
          | brk=>exact (r.ok F q.out).run s hs
          | ret v=>exact ⟨st,hs,q.out⟩
    exact all n d s hJ (hle hs)⟩
end XS
end
end
section
section
noncomputable def litOk (vs:List PySem.Expr):Bool:=!(vs.any fun | .Starred ..=>true | _=>false) && !(vs.all (foldedForSure 8)) && !(vs.all (constantsAlone 8))
section
variable {env:Env} {ts vs:List PySem.Expr} {k kv:Nat} {tp vp:Pos} {names:List Str}
noncomputable def stNames (env:Env) (ts:List PySem.Expr):List Str:=ts.filterMap fun
    | .Name id pos=>if env.kindOf id == some .local && pos.line == (ts.head?.map (·.pos.line)).getD 0 then some id else none
    | _=>none
theorem swap_yes (hb:(env.blockKind != .function) = false) (hn:(ts.length == 2 || ts.length == 3) = true) (hv:(vs.length != ts.length) = false) (hl:litOk vs = true) (h1:stNames env ts = names) (h2:(names.length != ts.length || names.eraseDups.length != names.length) = false) :
    swappedStores [.Tuple ts k tp] (.Tuple vs kv vp) env = pure (some names):=by
  obtain ⟨hl,h6⟩:=Bool.and_eq_true_iff.mp hl
  obtain ⟨h4,h5⟩:=Bool.and_eq_true_iff.mp hl
  rw [Bool.not_eq_true'] at h4 h5 h6
  subst h1
  unfold swappedStores
  refine (if_neg ?_).trans ((if_neg fun h=>absurd (h4.symm.trans h) Bool.false_ne_true).trans ((if_neg fun h=>absurd (h2.symm.trans h) Bool.false_ne_true).trans ((if_neg fun h=>absurd (h5.symm.trans h) Bool.false_ne_true).trans ((if_neg fun h=>absurd (h6.symm.trans h) Bool.false_ne_true).trans rfl))))
  rw [hn,hv,hb]; decide
theorem swap_no (hl:litOk vs = true) (h1:((stNames env ts).length != ts.length) = true) :
    swappedStores [.Tuple ts k tp] (.Tuple vs kv vp) env = pure none:=by
  obtain ⟨hl,h6⟩:=Bool.and_eq_true_iff.mp hl
  obtain ⟨h4,h5⟩:=Bool.and_eq_true_iff.mp hl
  rw [Bool.not_eq_true'] at h4
  unfold swappedStores
  refine ite_eq_left_iff.mpr fun _=>(if_neg fun h=>absurd (h4.symm.trans h) Bool.false_ne_true).trans ((if_pos ?_).trans rfl)
  exact (congrArg (· || _) h1).trans rfl
end
section
variable {e:E0} {x:Ctx e} {m:Nm} {cv:List Value}
theorem blk:(x.c.env.blockKind != .function) = false:=by unfold Env.blockKind; rw [x.ok.kf]; rfl
theorem nm_ne (F:Fits x cv m) {i j:Nat} (h:Nat.blt i m.ns.length = true) (h2:Nat.blt j m.ns.length = true) (hij:Nat.beq i j = false):(nmAt m.ns j == nmAt m.ns i) = false:=by
  refine beq_eq_false_iff_ne.mpr fun q=>Nat.ne_of_beq_eq_false hij ?_
  have h1:=F.at h
  rw [← q] at h1
  exact (List.getElem?_inj (List.getElem?_eq_some_iff.mp h1).1 x.ok.nd).mp (h1.trans (F.at h2).symm)
theorem swap2 (F:Fits x cv m) {i j:Nat} {p p2 p3 vp:Pos} {a b:PySem.Expr} {k:Nat} (h:Nat.blt i m.ns.length = true) (h2:Nat.blt j m.ns.length = true) (hij:Nat.beq i j = false) (ki:m.ck[i]? = some false) (kj:m.ck[j]? = some false) (hp:(p2.line == p.line) = true) (hl:litOk [a,b] = true) :
    swappedStores [.Tuple [.Name (nmAt m.ns i) p,.Name (nmAt m.ns j) p2] 0 p3] (.Tuple [a,b] k vp) x.c.env = pure (some [nmAt m.ns i,nmAt m.ns j]):=by
  have k1:=F.ck i _ false (nm_get h) ki
  have k2:=F.ck j _ false (nm_get h2) kj
  have hn:=nm_ne F h h2 hij
  refine swap_yes blk rfl rfl hl ?_ ?_
  · show (List.filterMap _ [_,_]) = _
    rw [List.filterMap_cons_some (b:=nmAt m.ns i),List.filterMap_cons_some (b:=nmAt m.ns j)]
    · rfl
    · refine if_pos ?_
      rw [k2]; exact hp
    · refine if_pos ?_
      rw [k1]; exact beq_self_eq_true p.line
  · rw [List.eraseDups_cons,List.filter_cons_of_pos (by rw [hn]; rfl),List.filter_nil]; rfl
theorem swap3 (F:Fits x cv m) {i j l:Nat} {p p2 p3 p4 vp:Pos} {a b c:PySem.Expr} {k:Nat} (h:Nat.blt i m.ns.length = true) (h2:Nat.blt j m.ns.length = true) (h3:Nat.blt l m.ns.length = true) (hij:Nat.beq i j = false) (hil:Nat.beq i l = false) (hjl:Nat.beq j l = false)
    (ki:m.ck[i]? = some false) (kj:m.ck[j]? = some false) (kl:m.ck[l]? = some false) (hp:(p2.line == p.line) = true) (hp2:(p3.line == p.line) = true) (hl:litOk [a,b,c] = true) :
    swappedStores [.Tuple [.Name (nmAt m.ns i) p,.Name (nmAt m.ns j) p2,.Name (nmAt m.ns l) p3] 0 p4] (.Tuple [a,b,c] k vp) x.c.env = pure (some [nmAt m.ns i,nmAt m.ns j,nmAt m.ns l]):=by
  have k1:=F.ck i _ false (nm_get h) ki
  have k2:=F.ck j _ false (nm_get h2) kj
  have k3:=F.ck l _ false (nm_get h3) kl
  have hn:=nm_ne F h h2 hij
  have hn2:=nm_ne F h h3 hil
  have hn3:=nm_ne F h2 h3 hjl
  refine swap_yes blk rfl rfl hl ?_ ?_
  · show (List.filterMap _ [_,_,_]) = _
    rw [List.filterMap_cons_some (b:=nmAt m.ns i),List.filterMap_cons_some (b:=nmAt m.ns j),List.filterMap_cons_some (b:=nmAt m.ns l)]
    · rfl
    · refine if_pos ?_
      rw [k3]; exact hp2
    · refine if_pos ?_
      rw [k2]; exact hp
    · refine if_pos ?_
      rw [k1]; exact beq_self_eq_true p.line
  · rw [List.eraseDups_cons,List.filter_cons_of_pos (by rw [hn]; rfl),List.filter_cons_of_pos (by rw [hn2]; rfl),List.filter_nil,List.eraseDups_cons,List.filter_cons_of_pos (by rw [hn3]; rfl),List.filter_nil]; rfl
theorem swapN (F:Fits x cv m) {i:Nat} {p p3 vp:Pos} {ts ts2 vs:List PySem.Expr} {k:Nat} (h:Nat.blt i m.ns.length = true) (ki:m.ck[i]? = some true) (hl:litOk vs = true) :
    swappedStores [.Tuple (ts ++ .Name (nmAt m.ns i) p :: ts2) 0 p3] (.Tuple vs k vp) x.c.env = pure none:=by
  have k1:=F.ck i _ true (nm_get h) ki
  refine swap_no hl ?_
  have h1:∀ (f:PySem.Expr→Option Str),f (.Name (nmAt m.ns i) p) = none→((ts ++ .Name (nmAt m.ns i) p :: ts2).filterMap f).length < (ts ++ .Name (nmAt m.ns i) p :: ts2).length:=fun f hf=>by
    rw [List.filterMap_append,List.filterMap_cons_none hf,List.length_append,List.length_append]
    have q1:=List.length_filterMap_le f ts
    have q2:=List.length_filterMap_le f ts2
    rw [List.length_cons]; lia
  refine bne_iff_ne.mpr (Nat.ne_of_lt (h1 _ ?_))
  refine if_neg ?_
  rw [k1]; exact fun q=>nomatch q
end
variable {m:Nm}
namespace XS
noncomputable def lit2 (i j:Nat) (p p2 p3:Pos) (a b:XE m) (q q':Pos) (r:XS m) (h:Nat.blt i m.ns.length = true) (h2:Nat.blt j m.ns.length = true) (hij:Nat.beq i j = false) (ki:m.ck[i]? = some false) (kj:m.ck[j]? = some false) (hp:(p2.line == p.line) = true) (hl:litOk [a.ast,b.ast] = true):XS m where
  asts:=.Assign [.Tuple [.Name (nmAt m.ns i) p,.Name (nmAt m.ns j) p2] 0 p3] (.Tuple [a.ast,b.ast] 0 q) q' :: r.asts
  vc:=fun x cv st k=>a.vc x cv st (kL2a i j b r x cv k)
  ok:=fun {_ x _ _ _} F h'=>⟨fun s hs=>by
    refine g_cons (Assign_Tuple_swapped (g_Tuple (spl_cons ((a.ok F h').on hs fun v st s hs q=>spl_cons ((b.ok F q).on hs fun w st s hs q=>spl_nil (new_tuple hs (sz16 rfl) fun T s' hs'=>?_)) (b.sh.star _ _)) (a.sh.star _ _))) rfl (swap2 F h h2 hij ki kj hp hl))
    refine PySem.wpAny_unpackItems_tuple (items:=[v,w].toArray) x.ok.hnd (isTu (hs'.hasI (.head _))) fun h₁ he₁=>?_
    obtain ⟨s1,q1⟩:=inR_set (v:=w) (inR_len (j:=i) (v:=some v) (inR_set (v:=v) (q T) (F.at h)).2) (F.at h2)
    obtain ⟨s3,_⟩:=inR_set (v:=w) (inR_set (v:=v) (q T) (F.at h)).2 (F.at h2)
    obtain ⟨s4,_⟩:=inR_set (v:=v) (inR_len (j:=j) (v:=some w) (q T)) (F.at h)
    rw [List.set_comm _ _ (Ne.symm (Nat.ne_of_beq_eq_false hij))] at s4
    show wpAny _ _ (assignInOrder [fun v=>bindName x.c.env (nmAt m.ns j) v,fun v=>bindName x.c.env (nmAt m.ns i) v] [w,v]) _ _ _
    refine assignInOrder_cons (wpAny_bindName (store x.ok (hs'.more (t:=s'.toks) he₁) s3 fun s' hs'=>?_))
    exact assignInOrder_cons (wpAny_bindName (store x.ok hs' s4 fun s' hs'=>assignInOrder_nil (g_next ((r.ok F q1).run s' hs'))))⟩
noncomputable def lit3 (i j l:Nat) (p p2 p3 p4:Pos) (a b c:XE m) (q q':Pos) (r:XS m) (h:Nat.blt i m.ns.length = true) (h2:Nat.blt j m.ns.length = true) (h3:Nat.blt l m.ns.length = true) (hij:Nat.beq i j = false) (hil:Nat.beq i l = false) (hjl:Nat.beq j l = false)
    (ki:m.ck[i]? = some false) (kj:m.ck[j]? = some false) (kl:m.ck[l]? = some false) (hp:(p2.line == p.line) = true) (hp2:(p3.line == p.line) = true) (hl:litOk [a.ast,b.ast,c.ast] = true):XS m where
  asts:=.Assign [.Tuple [.Name (nmAt m.ns i) p,.Name (nmAt m.ns j) p2,.Name (nmAt m.ns l) p3] 0 p4] (.Tuple [a.ast,b.ast,c.ast] 0 q) q' :: r.asts
  vc:=fun x cv st k=>a.vc x cv st (kL3a i j l b c r x cv k)
  ok:=fun {_ x _ _ _} F h'=>⟨fun s hs=>by
    refine g_cons (Assign_Tuple_swapped (g_Tuple (spl_cons ((a.ok F h').on hs fun v st s hs q=>spl_cons ((b.ok F q).on hs fun w st s hs q=>spl_cons ((c.ok F q).on hs fun u st s hs q=>spl_nil (new_tuple hs (sz16 rfl) fun T s' hs'=>?_)) (c.sh.star _ _)) (b.sh.star _ _)) (a.sh.star _ _))) rfl (swap3 F h h2 h3 hij hil hjl ki kj kl hp hp2 hl))
    refine PySem.wpAny_unpackItems_tuple (items:=[v,w,u].toArray) x.ok.hnd (isTu (hs'.hasI (.head _))) fun h₁ he₁=>?_
    have qi:=q T
    obtain ⟨_,qj⟩:=inR_set (v:=v) qi (F.at h)
    obtain ⟨s4,ql⟩:=inR_set (v:=w) qj (F.at h2)
    obtain ⟨s5,qr⟩:=inR_set (v:=u) ql (F.at h3)
    obtain ⟨s6,_⟩:=inR_set (v:=w) (inR_len (j:=l) (v:=some u) qj) (F.at h2)
    obtain ⟨s7,_⟩:=inR_set (v:=v) (inR_len (j:=j) (v:=some w) (inR_len (j:=l) (v:=some u) qi)) (F.at h)
    have e6:∀ A:List (Option Value),((A.set l (some u)).set j (some w)).set i (some v) = ((A.set i (some v)).set j (some w)).set l (some u):=fun A=>by
      rw [List.set_comm (some w) (some v) (Ne.symm (Nat.ne_of_beq_eq_false hij)),List.set_comm (some u) (some v) (Ne.symm (Nat.ne_of_beq_eq_false hil)),List.set_comm (some u) (some w) (Ne.symm (Nat.ne_of_beq_eq_false hjl))]
    rw [e6] at s7
    show wpAny _ _ (assignInOrder [fun v=>bindName x.c.env (nmAt m.ns l) v,fun v=>bindName x.c.env (nmAt m.ns j) v,fun v=>bindName x.c.env (nmAt m.ns i) v] [u,w,v]) _ _ _
    refine assignInOrder_cons (wpAny_bindName (store x.ok (hs'.more (t:=s'.toks) he₁) s5 fun s' hs'=>?_))
    refine assignInOrder_cons (wpAny_bindName (store x.ok hs' s6 fun s' hs'=>?_))
    exact assignInOrder_cons (wpAny_bindName (store x.ok hs' s7 fun s' hs'=>assignInOrder_nil (g_next ((r.ok F qr).run s' hs'))))⟩
noncomputable def lit2c (i j:Nat) (p p2 p3:Pos) (a b:XE m) (q q':Pos) (r:XS m) (h:Nat.blt i m.ns.length = true) (h2:Nat.blt j m.ns.length = true) (kj:m.ck[j]? = some true) (hl:litOk [a.ast,b.ast] = true):XS m where
  asts:=.Assign [(XG.t2 i j p p2 p3 h h2).ast] (.Tuple [a.ast,b.ast] 0 q) q' :: r.asts
  vc:=fun x cv st k=>a.vc x cv st (kL2a i j b r x cv k)
  ok:=fun {_ x _ _ _} F h'=>⟨fun s hs=>
    g_cons (g_AssignTup (g_Tuple (spl_cons ((a.ok F h').on hs fun v st s hs q=>spl_cons ((b.ok F q).on hs fun w st s hs q=>spl_nil (new_tuple hs (sz16 rfl) fun T s' hs'=>
      ((XG.t2 i j p p2 p3 h h2).ok (st:=⟨st.vs,st.M,(T,tupO [v,w] 0) :: st.I⟩) F ⟨T,v,w,0,rfl,.head _,q T⟩).on hs' fun _ st s hs q=>g_next ((r.ok F q).run s hs))) (b.sh.star _ _)) (a.sh.star _ _))) rfl (swapN (ts:=[_]) F h2 kj hl))⟩
noncomputable def lit3c (i j l:Nat) (p p2 p3 p4:Pos) (a b c:XE m) (q q':Pos) (r:XS m) (h:Nat.blt i m.ns.length = true) (h2:Nat.blt j m.ns.length = true) (h3:Nat.blt l m.ns.length = true) (kj:m.ck[j]? = some true) (hl:litOk [a.ast,b.ast,c.ast] = true):XS m where
  asts:=.Assign [(XG.t3 i j l p p2 p3 p4 h h2 h3).ast] (.Tuple [a.ast,b.ast,c.ast] 0 q) q' :: r.asts
  vc:=fun x cv st k=>a.vc x cv st (kL3a i j l b c r x cv k)
  ok:=fun {_ x _ _ _} F h'=>⟨fun s hs=>
    g_cons (g_AssignTup (g_Tuple (spl_cons ((a.ok F h').on hs fun v st s hs q=>spl_cons ((b.ok F q).on hs fun w st s hs q=>spl_cons ((c.ok F q).on hs fun u st s hs q=>spl_nil (new_tuple hs (sz16 rfl) fun T s' hs'=>
      ((XG.t3 i j l p p2 p3 p4 h h2 h3).ok (st:=⟨st.vs,st.M,(T,tupO [v,w,u] 0) :: st.I⟩) F ⟨T,v,w,u,0,rfl,.head _,q T⟩).on hs' fun _ st s hs q=>g_next ((r.ok F q).run s hs))) (c.sh.star _ _)) (b.sh.star _ _)) (a.sh.star _ _))) rfl (swapN (ts:=[_]) F h2 kj hl))⟩
end XS
end
end
section
section
noncomputable def q (l c d:Nat):Pos:=⟨l,c,l,d⟩
noncomputable def qq (l c l2 d:Nat):Pos:=⟨l,c,l2,d⟩
noncomputable def sc (l:List (Str × NameKind)):Scope:=⟨.function,l,false,false,[]⟩
noncomputable def retV (f:Flow):Value:=match f with
  | .ret v=>v
  | _=>.none
@[irreducible] noncomputable def retK (vs:List (Option Value)) (k:Value→Sta→Prop) (f:Flow) (st:Sta):Prop:=∃ st',Le ⟨vs,st.M,st.I⟩ st'∧k (retV f) st'
theorem retK.out {vs k f st} (h:retK vs k f st):∃ st',Le ⟨vs,st.M,st.I⟩ st'∧k (retV f) st':=by unfold retK at h; exact h
theorem retL {vs vs0 M I k v st'} (h:Le ⟨vs0,M,I⟩ st') (q:k v st'):retK vs0 k (.ret v) ⟨vs,M,I⟩:=by unfold retK; exact ⟨_,h,q⟩
theorem retN {vs vs0 M I k st'} (h:Le ⟨vs0,M,I⟩ st') (q:k .none st'):retK vs0 k .next ⟨vs,M,I⟩:=by unfold retK; exact ⟨_,h,q⟩
structure FnR (e:E0) (f:Addr) (ar nl:Nat) {m:Nm} (r:XS m):Prop where
  code:∀ {x:Ctx e} {args:List Value} {vs:List (Option Value)} {M I:Led} {n:Nat} {A':Around} {R:Result→Shared→Prop} {s:Shared} {k:Value→Sta→Prop},args.length = ar→SS x ⟨vs,M,I⟩ s→A'.depth + (n + 1) < recursionLimit→A'.units + 8 * (n + 1) < cLine→A'.handled = none→(∀ v st s,SS x st s→k v st→R (.ok (.ret v)) s)→
    (∀ x':Ctx e,n ≤ x'.c.room→r.vc x' [] ⟨args.map some ++ List.replicate nl none,M,I⟩ (retK vs k))→codeAny (model e.prog e.w) A' (.call (.ref f) ⟨args,[]⟩) R s
noncomputable def fnChk (i j ar nl:Nat) (m:Nm):Bool:=scopeOk (fd i j).2.2.2 m.ns ((gsOf m.gi).map (·.1)) (m.ns.take ar) && (m.ns.length == ar + nl && m.cs.isEmpty) && (m.ns.zip m.ck).all fun p=>(fd i j).2.2.2.names.lookup p.1 == some (cond p.2 .cell .local)
variable {e:E0}
theorem fnR {a:Addr} {i j:Nat} {d:Value} {m:Nm} {r:XS m} {ar nl:Nat} (h:FnP e.K a i j d) (hr:r.asts = (fd i j).2.2.1) (hc:fnChk i j ar nl m = true)
    (hb:∀ qual md tk cd s (g:Nat→Value),e.K.In s.heap→BindsTo s (fnOf (fd i j).1 qual (fd i j).2.1 (fd i j).2.2.1 (fd i j).2.2.2 d .none .none (.str md tk) none (.ref cd) .none) ⟨lstN g ar,[]⟩ ((m.ns.take ar).zip (lstN g ar))):FnR e a ar nl r:=by
  refine ⟨fun {x args vs M I n A' R s k} hl hs hd hu hh hk hv=>?_⟩
  obtain ⟨qual,md,tk,cd,ho,hcd⟩:=h.ex
  obtain ⟨hc,h4⟩:=Bool.and_eq_true_iff.mp hc
  obtain ⟨h1,hc⟩:=Bool.and_eq_true_iff.mp hc
  obtain ⟨h2,h3⟩:=Bool.and_eq_true_iff.mp hc
  have h2:=eq_of_beq h2
  have htd:m.ns.take ar ++ m.ns.drop ar = m.ns:=List.take_append_drop ..
  have ht:(m.ns.take ar).length = ar:=by rw [List.length_take,h2]; exact Nat.min_eq_left (Nat.le_add_right ..)
  have hdr:(m.ns.drop ar).length = nl:=by rw [List.length_drop,h2]; exact Nat.add_sub_cancel_left ..
  subst hl
  have hbs:=hb qual md tk cd s (fun i=>(args[i]?).getD Value.none) (hs.kin x.ok.amb)
  rw [lstN_of] at hbs
  refine call_co (gs':=gsOf m.gi) (ns':=m.ns) (vs0:=args.map some ++ List.replicate nl none) (ps:=m.ns.take args.length) (xs:=m.ns.drop args.length) x.ok hs ⟨ho,hcd,by rw [htd]; exact h1⟩ hd hu hh ht hbs htd.symm ?_ rfl gsOf_gl (Nat.le_add_left 1 n) fun c' s' ok' hK hroom hs'=>?_
  · rw [List.map_const',hdr]
  let x':Ctx e:=⟨c',m.ns,gsOf m.gi,ok'⟩
  have F:Fits x' [] m:=⟨rfl,rfl,fun i y v hy hv=>(by cases hv),fun i y b hy hb=>(hK y).trans (eq_of_beq (List.all_eq_true.mp h4 _ (zip_at hy hb))),congrArg List.length (List.isEmpty_iff.mp h3)⟩
  have hrun:=r.ok F (hv x' (Nat.le_of_eq (Nat.succ.inj hroom).symm))
  rw [hr] at hrun
  refine hrun.on hs' fun fl st s hs'' q=>?_
  obtain ⟨st',hle,q⟩:=q.out
  exact ⟨st.vs,st.M,st.I,hs'',fun hs3=>hk _ _ _ (hle hs3) q⟩
theorem fnS {n a i j:Nat} {d:Value} {m:Nm} {r:XS m} {ar nl:Nat} (h:fnL[n]? = some (a,i,j,d)) (hr:r.asts = (fd i j).2.2.1:=by exact rfl) (hc:fnChk i j ar nl m = true:=by decide +kernel)
    (hb:∀ qual md tk cd s (g:Nat→Value),e.K.In s.heap→BindsTo s (fnOf (fd i j).1 qual (fd i j).2.1 (fd i j).2.2.1 (fd i j).2.2.2 d .none .none (.str md tk) none (.ref cd) .none) ⟨lstN g ar,[]⟩ ((m.ns.take ar).zip (lstN g ar)):=by exact fun _ _ _ _ _ _ _=>.of_eq rfl):FnR e a ar nl r:=fnR (e.kf.fns _ (List.mem_of_getElem? h)) hr hc hb
section
variable {x:Ctx e} {vs:List (Option Value)} {M I:Led} {k:Value→Sta→Prop} {args:List Value} {n f ar nl:Nat} {m:Nm} {r:XS m}
theorem FnR.run (h:FnR e f ar nl r) (hl:args.length = ar) (hr:n + 1 ≤ x.c.room) (hv:∀ x':Ctx e,n ≤ x'.c.room→r.vc x' [] ⟨args.map some ++ List.replicate nl none,M,I⟩ (retK vs k)):H x (call (.ref f) args) ⟨vs,M,I⟩ k:=
  ⟨fun s hs=>wpAny_call (h.code hl hs (Nat.lt_of_le_of_lt (Nat.add_le_add_left hr _) x.ok.dep) (Nat.lt_of_le_of_lt (Nat.add_le_add_left (Nat.mul_le_mul_left 8 hr) _) x.ok.uni) x.ok.hnd (fun v st s hs q=>⟨st,hs,q⟩) hv)⟩
theorem mkR {C:Addr} (hc:ClsMake e.K C f) (h:FnR e f (ar + 1) nl r) (hl:args.length = ar) (hr:n + 2 ≤ x.c.room)
    (hv:∀ (x':Ctx e) y dx,n ≤ x'.c.room→r.vc x' [] ⟨some (.ref y) :: args.map some ++ List.replicate nl none,(y,instObj C dx) :: (dx,dictO [] 0) :: M,I⟩ (retK vs fun v st=>v = .none∧k (.ref y) st)):H x (call (.ref C) args) ⟨vs,M,I⟩ k:=by
  refine ⟨fun s hs=>mk_cls x.ok hs hc fun y dx s' hs'=>?_⟩
  have h1:=x.ok.dep
  have h2:=x.ok.uni
  have hun:(x.c.A.under (.builtin "type.__call__" ⟨.ref C :: args,[]⟩)).units ≤ x.c.A.units + 8:=Nat.add_le_add_left (show (1:Nat) ≤ 8 by decide) _
  refine h.code (x:=x) (vs:=vs) (M:=(y,instObj C dx) :: (dx,dictO [] 0) :: M) (I:=I) (k:=fun v st=>v = .none∧k (.ref y) st) (args:=.ref y :: args) (n:=n) (congrArg Nat.succ hl) hs' (show x.c.A.depth + 1 + (n + 1) < _ by lia) (by lia) x.ok.hnd (fun v st s hs q=>?_) fun x' hx=>hv x' y dx hx
  exact ⟨q.1,⟨st,hs,q.2⟩⟩
end
end
end
section
theorem g0:(gl 0).2 = (.ref 52):=rfl
theorem g1:(gl 1).2 = (.ref 94):=rfl
theorem g2:(gl 2).2 = (.ref 134):=rfl
theorem g3:(gl 3).2 = (.ref 176):=rfl
theorem g4:(gl 4).2 = (.ref 212):=rfl
theorem g5:(gl 5).2 = (.ref 252):=rfl
theorem g6:(gl 6).2 = (.ref 292):=rfl
theorem g7:(gl 7).2 = (.ref 360):=rfl
theorem g8:(gl 8).2 = (.ref 402):=rfl
theorem g9:(gl 9).2 = (.ref 510):=rfl
theorem g10:(gl 10).2 = (.ref 303):=rfl
theorem g11:(gl 11).2 = (.ref 310):=rfl
theorem g12:(gl 12).2 = (.ref 317):=rfl
theorem g13:(gl 13).2 = (.ref 371):=rfl
theorem g14:(gl 14).2 = (.ref 378):=rfl
theorem g15:(gl 15).2 = (.ref 413):=rfl
theorem g16:(gl 16).2 = (.ref 420):=rfl
theorem g17:(gl 17).2 = (.ref 427):=rfl
theorem g18:(gl 18).2 = (.ref 434):=rfl
theorem g19:(gl 19).2 = (.ref 439):=rfl
theorem g20:(gl 20).2 = (.ref 446):=rfl
theorem g21:(gl 21).2 = (.ref 453):=rfl
theorem g22:(gl 22).2 = (.ref 458):=rfl
theorem g23:(gl 23).2 = (.ref 463):=rfl
theorem g24:(gl 24).2 = (.ref 470):=rfl
theorem g25:(gl 25).2 = (.ref 477):=rfl
theorem g26:(gl 26).2 = (.ref 521):=rfl
theorem g27:(gl 27).2 = (.ref 528):=rfl
theorem g28:(gl 28).2 = (.ref 533):=rfl
theorem g29:(gl 29).2 = (.ref 540):=rfl
theorem g30:(gl 30).2 = (.ref 547):=rfl
theorem g31:(gl 31).2 = (.ref 554):=rfl
theorem g32:(gl 32).2 = (.ref 559):=rfl
theorem g33:(gl 33).2 = (.ref 566):=rfl
theorem g34:(gl 34).2 = (.ref 571):=rfl
theorem g35:(gl 35).2 = (.ref 578):=rfl
theorem g36:(gl 36).2 = (.ref 585):=rfl
theorem g37:(gl 37).2 = (.ref 590):=rfl
theorem g38:(gl 38).2 = (.ref 595):=rfl
theorem g39:(gl 39).2 = (.ref 602):=rfl
theorem g40:(gl 40).2 = (.ref 607):=rfl
theorem g41:(gl 41).2 = (.ref 614):=rfl
theorem g42:(gl 42).2 = (.ref 621):=rfl
theorem g43:(gl 43).2 = (.type "dict"):=rfl
theorem g44:(gl 44).2 = (.type "tuple"):=rfl
theorem g45:(gl 45).2 = (.type "range"):=rfl
theorem g46:(gl 46).2 = (.type "reversed"):=rfl
theorem g47:(gl 47).2 = (.type "list"):=rfl
theorem g48:(gl 48).2 = (.type "str"):=rfl
theorem g49:(gl 49).2 = (.type "int"):=rfl
theorem g50:(gl 50).2 = (.builtin "isinstance"):=rfl
theorem g51:(gl 51).2 = (.builtin "len"):=rfl
theorem g52:(gl 52).2 = (.builtin "sorted"):=rfl
theorem g53:(gl 53).2 = (.builtin "any"):=rfl
section
variable {e:E0}
noncomputable def m28:Nm:=⟨["self", "name"],[false,false],[],[]⟩
noncomputable def r28:XS m28:=(.sta (.v 0 (q 5 8 12)) "name" (.v 1 (q 5 20 24)) (q 5 8 17) (q 5 8 24) .nil)
theorem fr28:FnR e 28 2 0 r28:=fnS (n:=0) rfl
noncomputable def m35:Nm:=⟨["self"],[false],[],[]⟩
noncomputable def r35:XS m35:=(.ret (.lst .nil (q 8 15 17)) (q 8 8 17))
theorem fr35:FnR e 35 1 0 r35:=fnS (n:=1) rfl
noncomputable def m42:Nm:=⟨["self"],[false],[],[]⟩
noncomputable def r42:XS m42:=(.ret (.lst .nil (q 11 15 17)) (q 11 8 17))
theorem fr42:FnR e 42 1 0 r42:=fnS (n:=2) rfl
noncomputable def m70:Nm:=⟨["self", "kind", "value"],[false,false,false],[],[]⟩
noncomputable def r70:XS m70:=(.sta (.v 0 (q 18 8 12)) "kind" (.v 1 (q 18 20 24)) (q 18 8 17) (q 18 8 24) (.sta (.v 0 (q 19 8 12)) "value" (.v 2 (q 19 21 26)) (q 19 8 18) (q 19 8 26) .nil))
theorem fr70:FnR e 70 3 0 r70:=fnS (n:=4) rfl
noncomputable def m77:Nm:=⟨["self"],[false],[],[]⟩
noncomputable def r77:XS m77:=(.ret (.lst .nil (q 22 15 17)) (q 22 8 17))
theorem fr77:FnR e 77 1 0 r77:=fnS (n:=5) rfl
noncomputable def m84:Nm:=⟨["self"],[false],[],[]⟩
noncomputable def r84:XS m84:=(.ret (.lst .nil (q 25 15 17)) (q 25 8 17))
theorem fr84:FnR e 84 1 0 r84:=fnS (n:=6) rfl
noncomputable def m112:Nm:=⟨["self", "fun", "args"],[false,false,false],[],[]⟩
noncomputable def r112:XS m112:=(.sta (.v 0 (q 32 8 12)) "fun" (.v 1 (q 32 19 22)) (q 32 8 16) (q 32 8 22) (.sta (.v 0 (q 33 8 12)) "args" (.v 2 (q 33 20 24)) (q 33 8 17) (q 33 8 24) .nil))
theorem fr112:FnR e 112 3 0 r112:=fnS (n:=8) rfl
noncomputable def m119:Nm:=⟨["self"],[false],[],[]⟩
noncomputable def r119:XS m119:=(.ret (.lst .nil (q 36 15 17)) (q 36 8 17))
theorem fr119:FnR e 119 1 0 r119:=fnS (n:=9) rfl
noncomputable def m124:Nm:=⟨["self"],[false],[],[]⟩
noncomputable def r124:XS m124:=(.ret (.bin .Add (.lst (.cons (.tup (.cons (.attr (.v 0 (q 39 17 21)) "fun" (q 39 17 25)) (.cons (.tup .nil (q 39 27 29)) .nil)) (q 39 16 30)) .nil) (q 39 15 31)) (.comp (.of (.attr (.v 0 (q 39 56 60)) "args" (q 39 56 65)) ⟨["arg"],[false],[],[]⟩ [] (sc [(".0",.local),("arg",.local)]) (.n 0 (q 39 49 52)) .yes (.tup (.cons (.v 0 (q 39 36 39)) (.cons (.tup .nil (q 39 41 43)) .nil)) (q 39 35 44)) (q 39 34 66) (by decide +kernel))) (q 39 15 66)) (q 39 8 66))
theorem fr124:FnR e 124 1 0 r124:=fnS (n:=10) rfl
noncomputable def m131:Nm:=⟨["self", "groups", "parts"],[false,false,false],[2],[]⟩
noncomputable def r131:XS m131:=(.ret (.call (.cons (.sub (.v 2 (q 42 19 24)) (.i 0 (q 42 25 26)) (q 42 19 27)) (.cons (.sli (.v 2 (q 42 29 34)) (.some (.i 1 (q 42 35 36))) .none (q 42 35 37) (q 42 29 38)) .nil)) (q 42 15 18) (q 42 15 39) g2) (q 42 8 39))
theorem fr131:FnR e 131 3 0 r131:=fnS (n:=11) rfl
noncomputable def m152:Nm:=⟨["self", "params", "body"],[false,false,false],[],[]⟩
noncomputable def r152:XS m152:=(.sta (.v 0 (q 46 8 12)) "params" (.v 1 (q 46 22 28)) (q 46 8 19) (q 46 8 28) (.sta (.v 0 (q 47 8 12)) "body" (.v 2 (q 47 20 24)) (q 47 8 17) (q 47 8 24) .nil))
theorem fr152:FnR e 152 3 0 r152:=fnS (n:=12) rfl
noncomputable def m159:Nm:=⟨["self"],[false],[],[]⟩
noncomputable def r159:XS m159:=(.ret (.lst (.cons (.attr (.v 0 (q 50 16 20)) "params" (q 50 16 27)) .nil) (q 50 15 28)) (q 50 8 28))
theorem fr159:FnR e 159 1 0 r159:=fnS (n:=13) rfl
noncomputable def m166:Nm:=⟨["self"],[false],[],[]⟩
noncomputable def r166:XS m166:=(.ret (.lst (.cons (.tup (.cons (.attr (.v 0 (q 53 17 21)) "body" (q 53 17 26)) (.cons (.tup (.cons (.i 0 (q 53 29 30)) .nil) (q 53 28 32)) .nil)) (q 53 16 33)) .nil) (q 53 15 34)) (q 53 8 34))
theorem fr166:FnR e 166 1 0 r166:=fnS (n:=14) rfl
noncomputable def m173:Nm:=⟨["self", "groups", "parts"],[false,false,false],[3],[]⟩
noncomputable def r173:XS m173:=(.ret (.call (.cons (.sub (.v 1 (q 56 19 25)) (.i 0 (q 56 26 27)) (q 56 19 28)) (.cons (.sub (.v 2 (q 56 30 35)) (.i 0 (q 56 36 37)) (q 56 30 38)) .nil)) (q 56 15 18) (q 56 15 39) g3) (q 56 8 39))
theorem fr173:FnR e 173 3 0 r173:=fnS (n:=15) rfl
noncomputable def m194:Nm:=⟨["self", "binds", "body", "is_rec"],[false,false,false,false],[],[]⟩
noncomputable def r194:XS m194:=(.sta (.v 0 (q 60 8 12)) "binds" (.v 1 (q 60 21 26)) (q 60 8 18) (q 60 8 26) (.sta (.v 0 (q 61 8 12)) "body" (.v 2 (q 61 20 24)) (q 61 8 17) (q 61 8 24) (.sta (.v 0 (q 62 8 12)) "is_rec" (.v 3 (q 62 22 28)) (q 62 8 19) (q 62 8 28) .nil)))
theorem fr194:FnR e 194 4 0 r194:=fnS (n:=16) rfl
noncomputable def m199:Nm:=⟨["self"],[false],[],[]⟩
noncomputable def r199:XS m199:=(.ret (.lst (.cons (.comp (.of (.attr (.v 0 (q 65 40 44)) "binds" (q 65 40 50)) ⟨["name", "expr"],[false,false],[],[]⟩ [] (sc [(".0",.local),("name",.local),("expr",.local)]) (.t2 0 1 (q 65 26 30) (q 65 32 36) (q 65 26 36)) .yes (.v 0 (q 65 17 21)) (q 65 16 51) (by decide +kernel))) .nil) (q 65 15 52)) (q 65 8 52))
theorem fr199:FnR e 199 1 0 r199:=fnS (n:=17) rfl
noncomputable def m204:Nm:=⟨["self", "scope"],[false,true],[],[]⟩
noncomputable def r204:XS m204:=(.set 1 (q 68 8 13) (.jn (.ife (.e (.attr (.v 0 (q 68 24 28)) "is_rec" (q 68 24 35))) (.tup (.cons (.i 0 (q 68 17 18)) .nil) (q 68 16 20)) (.tup .nil (q 68 41 43)) (q 68 16 43))) (q 68 8 43) (.ret (.bin .Add (.comp (.of (.attr (.v 0 (q 69 48 52)) "binds" (q 69 48 58)) ⟨["name", "expr"],[false,false],[],["scope"]⟩ [(true,1)] (sc [(".0",.local),("name",.local),("expr",.local),("scope",.free)]) (.t2 0 1 (q 69 34 38) (q 69 40 44) (q 69 34 44)) .yes (.tup (.cons (.v 1 (q 69 17 21)) (.cons (.w 0 (q 69 23 28)) .nil)) (q 69 16 29)) (q 69 15 59) (by decide +kernel))) (.lst (.cons (.tup (.cons (.attr (.v 0 (q 69 64 68)) "body" (q 69 64 73)) (.cons (.tup (.cons (.i 0 (q 69 76 77)) .nil) (q 69 75 79)) .nil)) (q 69 63 80)) .nil) (q 69 62 81)) (q 69 15 81)) (q 69 8 81)))
theorem fr204:FnR e 204 1 1 r204:=fnS (n:=18) rfl
noncomputable def m209:Nm:=⟨["self", "groups", "parts", "binds"],[false,true,true,false],[45,51,4],[]⟩
noncomputable def r209:XS m209:=(.setc 3 (q 72 8 13) (.of (.call (.cons (.call (.cons (.attr (.v 0 (q 72 64 68)) "binds" (q 72 64 74)) .nil) (q 72 60 63) (q 72 60 75) g51) .nil) (q 72 54 59) (q 72 54 76) g45) ⟨["at"],[false],[],["groups", "parts"]⟩ [(true,1),(true,2)] (sc [(".0",.local),("at",.local),("groups",.free),("parts",.free)]) (.n 0 (q 72 48 50)) .yes (.tup (.cons (.sub (.sub (.w 0 (q 72 18 24)) (.i 0 (q 72 25 26)) (q 72 18 27)) (.v 0 (q 72 28 30)) (q 72 18 31)) (.cons (.sub (.w 1 (q 72 33 38)) (.v 0 (q 72 39 41)) (q 72 33 42)) .nil)) (q 72 17 43)) (q 72 16 77) (by decide +kernel)) (q 72 8 77) (.ret (.call (.cons (.v 3 (q 73 19 24)) (.cons (.sub (.v 2 (q 73 26 31)) (.neg (.i 1 (q 73 33 34)) (q 73 32 34)) (q 73 26 35)) (.cons (.attr (.v 0 (q 73 37 41)) "is_rec" (q 73 37 48)) .nil))) (q 73 15 18) (q 73 15 49) g4) (q 73 8 49)) tt cf tt (by decide +kernel))
theorem fr209:FnR e 209 3 1 r209:=fnS (n:=19) rfl
noncomputable def m230:Nm:=⟨["self", "name", "args"],[false,false,false],[],[]⟩
noncomputable def r230:XS m230:=(.sta (.v 0 (q 77 8 12)) "name" (.v 1 (q 77 20 24)) (q 77 8 17) (q 77 8 24) (.sta (.v 0 (q 78 8 12)) "args" (.v 2 (q 78 20 24)) (q 78 8 17) (q 78 8 24) .nil))
theorem fr230:FnR e 230 3 0 r230:=fnS (n:=20) rfl
noncomputable def m237:Nm:=⟨["self"],[false],[],[]⟩
noncomputable def r237:XS m237:=(.ret (.lst .nil (q 81 15 17)) (q 81 8 17))
theorem fr237:FnR e 237 1 0 r237:=fnS (n:=21) rfl
noncomputable def m242:Nm:=⟨["self"],[false],[],[]⟩
noncomputable def r242:XS m242:=(.ret (.comp (.of (.attr (.v 0 (q 84 37 41)) "args" (q 84 37 46)) ⟨["arg"],[false],[],[]⟩ [] (sc [(".0",.local),("arg",.local)]) (.n 0 (q 84 30 33)) .yes (.tup (.cons (.v 0 (q 84 17 20)) (.cons (.tup .nil (q 84 22 24)) .nil)) (q 84 16 25)) (q 84 15 47) (by decide +kernel))) (q 84 8 47))
theorem fr242:FnR e 242 1 0 r242:=fnS (n:=22) rfl
noncomputable def m249:Nm:=⟨["self", "groups", "parts"],[false,false,false],[5],[]⟩
noncomputable def r249:XS m249:=(.ret (.call (.cons (.attr (.v 0 (q 87 19 23)) "name" (q 87 19 28)) (.cons (.v 2 (q 87 30 35)) .nil)) (q 87 15 18) (q 87 15 36) g5) (q 87 8 36))
theorem fr249:FnR e 249 3 0 r249:=fnS (n:=23) rfl
noncomputable def m270:Nm:=⟨["self", "op", "args"],[false,false,false],[],[]⟩
noncomputable def r270:XS m270:=(.sta (.v 0 (q 91 8 12)) "op" (.v 1 (q 91 18 20)) (q 91 8 15) (q 91 8 20) (.sta (.v 0 (q 92 8 12)) "args" (.v 2 (q 92 20 24)) (q 92 8 17) (q 92 8 24) .nil))
theorem fr270:FnR e 270 3 0 r270:=fnS (n:=24) rfl
noncomputable def m277:Nm:=⟨["self"],[false],[],[]⟩
noncomputable def r277:XS m277:=(.ret (.lst .nil (q 95 15 17)) (q 95 8 17))
theorem fr277:FnR e 277 1 0 r277:=fnS (n:=25) rfl
noncomputable def m282:Nm:=⟨["self"],[false],[],[]⟩
noncomputable def r282:XS m282:=(.ret (.comp (.of (.attr (.v 0 (q 98 37 41)) "args" (q 98 37 46)) ⟨["arg"],[false],[],[]⟩ [] (sc [(".0",.local),("arg",.local)]) (.n 0 (q 98 30 33)) .yes (.tup (.cons (.v 0 (q 98 17 20)) (.cons (.tup .nil (q 98 22 24)) .nil)) (q 98 16 25)) (q 98 15 47) (by decide +kernel))) (q 98 8 47))
theorem fr282:FnR e 282 1 0 r282:=fnS (n:=26) rfl
noncomputable def m289:Nm:=⟨["self", "groups", "parts"],[false,false,false],[6],[]⟩
noncomputable def r289:XS m289:=(.ret (.call (.cons (.attr (.v 0 (q 101 20 24)) "op" (q 101 20 27)) (.cons (.v 2 (q 101 29 34)) .nil)) (q 101 15 19) (q 101 15 35) g6) (q 101 8 35))
theorem fr289:FnR e 289 3 0 r289:=fnS (n:=27) rfl
noncomputable def m303:Nm:=⟨["names", "groups", "scope", "found", "number", "name"],[false,false,false,false,false,false],[43],[]⟩
noncomputable def r303:XS m303:=(.ife (.cmp .Eq (.v 2 (q 104 7 12)) (.tup .nil (q 104 16 18)) (q 104 7 18)) (.ret (.v 0 (q 105 15 20)) (q 105 8 20)) .nil (qq 104 4 105 20) (.set 3 (q 106 4 9) (.call (.cons (.v 0 (q 106 17 22)) .nil) (q 106 12 16) (q 106 12 23) g43) (q 106 4 23) (.for_ (.n 4 (q 107 8 14)) (.v 2 (q 107 18 23)) (.for_ (.n 5 (q 108 12 16)) (.sub (.v 1 (q 108 20 26)) (.v 4 (q 108 27 33)) (q 108 20 34)) (.sts (.v 3 (q 109 12 17)) (.v 5 (q 109 18 22)) (.b true (q 109 26 30)) (q 109 12 23) (q 109 12 30) .nil) (qq 108 8 109 30) .nil) (qq 107 4 109 30) (.ret (.v 3 (q 110 11 16)) (q 110 4 16)))))
theorem fr303:FnR e 303 3 3 r303:=fnS (n:=38) rfl
noncomputable def m310:Nm:=⟨["expr", "found", "tasks", "node", "bound", "groups", "part", "scope"],[false,false,false,false,false,false,false,false],[50,0,10,52],[]⟩
noncomputable def r310:XS m310:=(.lit2 1 2 (q 112 4 9) (q 112 11 16) (q 112 4 16) (.dic (q 112 20 22)) (.lst (.cons (.tup (.cons (.v 0 (q 112 26 30)) (.cons (.dic (q 112 32 34)) .nil)) (q 112 25 35)) .nil) (q 112 24 36)) (q 112 19 37) (q 112 4 37) (.whl (.e (.v 2 (q 113 10 15))) (.unp2 3 4 (q 114 8 12) (q 114 14 19) (q 114 8 19) (.meth (.v 2 (q 114 22 27)) "pop" .nil (q 114 22 31) (q 114 22 33)) (q 114 8 33) (.ife (.e (.call (.cons (.v 3 (q 115 22 26)) (.cons (.g (q 115 28 31) g0) .nil)) (q 115 11 21) (q 115 11 32) g50)) (.ifj (.cmp .NotIn (.attr (.v 3 (q 116 15 19)) "name" (q 116 15 24)) (.v 4 (q 116 32 37)) (q 116 15 37)) (.sts (.v 1 (q 117 16 21)) (.attr (.v 3 (q 117 22 26)) "name" (q 117 22 31)) (.b true (q 117 35 39)) (q 117 16 32) (q 117 16 39) .nil) .nil (qq 116 12 117 39) (.cont (q 118 12 20))) .nil (qq 115 8 118 20) (.set 5 (q 119 8 14) (.meth (.v 3 (q 119 17 21)) "groups" .nil (q 119 17 28) (q 119 17 30)) (q 119 8 30) (.for_ (.t2 6 7 (q 120 12 16) (q 120 18 23) (q 120 12 23)) (.meth (.v 3 (q 120 27 31)) "parts" .nil (q 120 27 37) (q 120 27 39)) (.exp (.meth (.v 2 (q 121 12 17)) "append" (.cons (.tup (.cons (.v 6 (q 121 26 30)) (.cons (.call (.cons (.v 4 (q 121 39 44)) (.cons (.v 5 (q 121 46 52)) (.cons (.v 7 (q 121 54 59)) .nil))) (q 121 32 38) (q 121 32 60) g10) .nil)) (q 121 25 61)) .nil) (q 121 12 24) (q 121 12 62)) (q 121 12 62) .nil) (qq 120 8 121 62) .nil)))) (qq 113 4 121 62) (.ret (.call (.cons (.v 1 (q 122 18 23)) .nil) (q 122 11 17) (q 122 11 24) g52) (q 122 4 24))) tt tt ff cf cf tt (by decide +kernel))
theorem fr310:FnR e 310 1 7 r310:=fnS (n:=39) rfl
noncomputable def m317:Nm:=⟨["name", "expr"],[false,false],[11],[]⟩
noncomputable def r317:XS m317:=(.ret (.cmp .In (.v 0 (q 124 11 15)) (.call (.cons (.v 1 (q 124 30 34)) .nil) (q 124 19 29) (q 124 19 35) g11) (q 124 11 35)) (q 124 4 35))
theorem fr317:FnR e 317 2 0 r317:=fnS (n:=40) rfl
noncomputable def m331:Nm:=⟨["self", "fresh", "instead"],[false,false,false],[],[]⟩
noncomputable def r331:XS m331:=(.sta (.v 0 (q 128 8 12)) "fresh" (.v 1 (q 128 21 26)) (q 128 8 18) (q 128 8 26) (.sta (.v 0 (q 129 8 12)) "instead" (.v 2 (q 129 23 30)) (q 129 8 20) (q 129 8 30) .nil))
theorem fr331:FnR e 331 3 0 r331:=fnS (n:=28) rfl
noncomputable def m336:Nm:=⟨["self", "groups"],[true,false],[],[]⟩
noncomputable def r336:XS m336:=(.ret (.comp (.of (.v 1 (q 132 71 77)) ⟨["group"],[false],[],["self"]⟩ [(true,0)] (sc [(".0",.local),("group",.local),("self",.free)]) (.n 0 (q 132 62 67)) .yes (.comp (.of (.v 0 (q 132 51 56)) ⟨["name"],[false],[],["self"]⟩ [(false,0)] (sc [(".0",.local),("name",.local),("self",.free)]) (.n 0 (q 132 43 47)) .yes (.meth (.attr (.w 0 (q 132 17 21)) "fresh" (q 132 17 27)) "next" (.cons (.v 0 (q 132 33 37)) .nil) (q 132 17 32) (q 132 17 38)) (q 132 16 57) (by decide +kernel))) (q 132 15 78) (by decide +kernel))) (q 132 8 78))
theorem fr336:FnR e 336 2 0 r336:=fnS (n:=29) rfl
noncomputable def m343:Nm:=⟨["self", "names", "scope", "groups", "news", "found", "number", "at"],[false,false,false,false,false,false,false,false],[43,45,51],[]⟩
noncomputable def r343:XS m343:=(.ife (.cmp .Eq (.v 2 (q 135 11 16)) (.tup .nil (q 135 20 22)) (q 135 11 22)) (.ret (.v 1 (q 136 19 24)) (q 136 12 24)) .nil (qq 135 8 136 24) (.set 5 (q 137 8 13) (.call (.cons (.v 1 (q 137 21 26)) .nil) (q 137 16 20) (q 137 16 27) g43) (q 137 8 27) (.for_ (.n 6 (q 138 12 18)) (.v 2 (q 138 22 27)) (.for_ (.n 7 (q 139 16 18)) (.call (.cons (.call (.cons (.sub (.v 3 (q 139 32 38)) (.v 6 (q 139 39 45)) (q 139 32 46)) .nil) (q 139 28 31) (q 139 28 47) g51) .nil) (q 139 22 27) (q 139 22 48) g45) (.sts (.v 5 (q 140 16 21)) (.sub (.sub (.v 3 (q 140 22 28)) (.v 6 (q 140 29 35)) (q 140 22 36)) (.v 7 (q 140 37 39)) (q 140 22 40)) (.sub (.sub (.v 4 (q 140 44 48)) (.v 6 (q 140 49 55)) (q 140 44 56)) (.v 7 (q 140 57 59)) (q 140 44 60)) (q 140 16 41) (q 140 16 60) .nil) (qq 139 12 140 60) .nil) (qq 138 8 140 60) (.ret (.v 5 (q 141 15 20)) (q 141 8 20)))))
theorem fr343:FnR e 343 5 3 r343:=fnS (n:=30) rfl
noncomputable def m350:Nm:=⟨["self", "node", "names", "found"],[false,false,false,false],[50,0,7],[]⟩
noncomputable def r350:XS m350:=(.ife (.not (.e (.call (.cons (.v 1 (q 144 26 30)) (.cons (.g (q 144 32 35) g0) .nil)) (q 144 15 25) (q 144 15 36) g50)) (q 144 11 36)) (.ret (.v 1 (q 145 19 23)) (q 145 12 23)) .nil (qq 144 8 145 23) (.ife (.cmp .In (.attr (.v 1 (q 146 11 15)) "name" (q 146 11 20)) (.v 2 (q 146 24 29)) (q 146 11 29)) (.ret (.call (.cons (.sub (.v 2 (q 147 23 28)) (.attr (.v 1 (q 147 29 33)) "name" (q 147 29 38)) (q 147 23 39)) .nil) (q 147 19 22) (q 147 19 40) g0) (q 147 12 40)) .nil (qq 146 8 147 40) (.set 3 (q 148 8 13) (.meth (.attr (.v 0 (q 148 16 20)) "instead" (q 148 16 28)) "get" (.cons (.attr (.v 1 (q 148 33 37)) "name" (q 148 33 42)) .nil) (q 148 16 32) (q 148 16 43)) (q 148 8 43) (.ret (.ife (.cmp .Is (.v 3 (q 149 23 28)) (.n (q 149 32 36)) (q 149 23 36)) (.v 1 (q 149 15 19)) (.meth (.call (.cons (.attr (.v 0 (q 149 50 54)) "fresh" (q 149 50 60)) (.cons (.dic (q 149 62 64)) .nil)) (q 149 42 49) (q 149 42 65) g7) "run" (.cons (.v 3 (q 149 70 75)) .nil) (q 149 42 69) (q 149 42 76)) (q 149 15 76)) (q 149 8 76)))))
theorem fr350:FnR e 350 3 1 r350:=fnS (n:=31) rfl
noncomputable def m357:Nm:=⟨["self", "expr", "tasks", "done", "node", "names", "news", "parts", "groups", "part", "scope", "many", "found"],[false,false,false,false,false,false,false,false,false,false,false,false,false],[46,51],[]⟩
noncomputable def r357:XS m357:=(.lit2 2 3 (q 152 8 13) (q 152 15 19) (q 152 8 19) (.lst (.cons (.tup (.cons (.v 1 (q 152 25 29)) (.cons (.dic (q 152 31 33)) (.cons (.n (q 152 35 39)) .nil))) (q 152 24 40)) .nil) (q 152 23 41)) (.lst .nil (q 152 43 45)) (q 152 22 46) (q 152 8 46) (.whl (.e (.v 2 (q 153 14 19))) (.unp3 4 5 6 (q 154 12 16) (q 154 18 23) (q 154 25 29) (q 154 12 29) (.meth (.v 2 (q 154 32 37)) "pop" .nil (q 154 32 41) (q 154 32 43)) (q 154 12 43) (.set 7 (q 155 12 17) (.meth (.v 4 (q 155 20 24)) "parts" .nil (q 155 20 30) (q 155 20 32)) (q 155 12 32) (.ife (.cmp .Eq (.v 7 (q 156 15 20)) (.lst .nil (q 156 24 26)) (q 156 15 26)) (.exp (.meth (.v 3 (q 157 16 20)) "append" (.cons (.meth (.v 0 (q 157 28 32)) "leaf" (.cons (.v 4 (q 157 38 42)) (.cons (.v 5 (q 157 44 49)) .nil)) (q 157 28 37) (q 157 28 50)) .nil) (q 157 16 27) (q 157 16 51)) (q 157 16 51) .nil) (.ife (.cmp .Is (.v 6 (q 158 17 21)) (.n (q 158 25 29)) (q 158 17 29)) (.set 8 (q 159 16 22) (.meth (.v 4 (q 159 25 29)) "groups" .nil (q 159 25 36) (q 159 25 38)) (q 159 16 38) (.set 6 (q 160 16 20) (.meth (.v 0 (q 160 23 27)) "new_groups" (.cons (.v 8 (q 160 39 45)) .nil) (q 160 23 38) (q 160 23 46)) (q 160 16 46) (.exp (.meth (.v 2 (q 161 16 21)) "append" (.cons (.tup (.cons (.v 4 (q 161 30 34)) (.cons (.v 5 (q 161 36 41)) (.cons (.v 6 (q 161 43 47)) .nil))) (q 161 29 48)) .nil) (q 161 16 28) (q 161 16 49)) (q 161 16 49) (.for_ (.t2 9 10 (q 162 20 24) (q 162 26 31) (q 162 20 31)) (.call (.cons (.v 7 (q 162 44 49)) .nil) (q 162 35 43) (q 162 35 50) g46) (.exp (.meth (.v 2 (q 163 20 25)) "append" (.cons (.tup (.cons (.v 9 (q 163 34 38)) (.cons (.meth (.v 0 (q 163 40 44)) "inner" (.cons (.v 5 (q 163 51 56)) (.cons (.v 10 (q 163 58 63)) (.cons (.v 8 (q 163 65 71)) (.cons (.v 6 (q 163 73 77)) .nil)))) (q 163 40 50) (q 163 40 78)) (.cons (.n (q 163 80 84)) .nil))) (q 163 33 85)) .nil) (q 163 20 32) (q 163 20 86)) (q 163 20 86) .nil) (qq 162 16 163 86) .nil)))) (.set 11 (q 165 16 20) (.call (.cons (.v 7 (q 165 27 32)) .nil) (q 165 23 26) (q 165 23 33) g51) (q 165 16 33) (.set 12 (q 166 16 21) (.meth (.v 4 (q 166 24 28)) "rebuilt" (.cons (.v 6 (q 166 37 41)) (.cons (.sli (.v 3 (q 166 43 47)) (.some (.bin .Sub (.call (.cons (.v 3 (q 166 52 56)) .nil) (q 166 48 51) (q 166 48 57) g51) (.v 11 (q 166 60 64)) (q 166 48 64))) .none (q 166 48 65) (q 166 43 66)) .nil)) (q 166 24 36) (q 166 24 67)) (q 166 16 67) (.dels (.v 3 (q 167 20 24)) (.some (.bin .Sub (.call (.cons (.v 3 (q 167 29 33)) .nil) (q 167 25 28) (q 167 25 34) g51) (.v 11 (q 167 37 41)) (q 167 25 41))) .none (q 167 25 42) (q 167 20 43) (q 167 16 43) (.exp (.meth (.v 3 (q 168 16 20)) "append" (.cons (.v 12 (q 168 28 33)) .nil) (q 168 16 27) (q 168 16 34)) (q 168 16 34) .nil)))) (qq 158 12 168 34) .nil) (qq 156 12 168 34) .nil))) (qq 153 8 168 34) (.ret (.sub (.v 3 (q 169 15 19)) (.i 0 (q 169 20 21)) (q 169 15 22)) (q 169 8 22))) tt tt ff cf cf tt (by decide +kernel))
theorem fr357:FnR e 357 2 11 r357:=fnS (n:=32) rfl
noncomputable def m371:Nm:=⟨["expr", "fresh"],[false,false],[7],[]⟩
noncomputable def r371:XS m371:=(.ret (.meth (.call (.cons (.v 1 (q 171 19 24)) (.cons (.dic (q 171 26 28)) .nil)) (q 171 11 18) (q 171 11 29) g7) "run" (.cons (.v 0 (q 171 34 38)) .nil) (q 171 11 33) (q 171 11 39)) (q 171 4 39))
theorem fr371:FnR e 371 2 0 r371:=fnS (n:=41) rfl
noncomputable def m378:Nm:=⟨["expr", "instead", "fresh"],[false,false,false],[7],[]⟩
noncomputable def r378:XS m378:=(.ret (.meth (.call (.cons (.v 2 (q 173 19 24)) (.cons (.v 1 (q 173 26 33)) .nil)) (q 173 11 18) (q 173 11 34) g7) "run" (.cons (.v 0 (q 173 39 43)) .nil) (q 173 11 38) (q 173 11 44)) (q 173 4 44))
theorem fr378:FnR e 378 3 0 r378:=fnS (n:=42) rfl
noncomputable def m392:Nm:=⟨["self"],[false],[],[]⟩
noncomputable def r392:XS m392:=(.sta (.v 0 (q 178 8 12)) "many" (.i 0 (q 178 20 21)) (q 178 8 17) (q 178 8 21) (.sta (.v 0 (q 179 8 12)) "in_function" (.b false (q 179 27 32)) (q 179 8 24) (q 179 8 32) .nil))
theorem fr392:FnR e 392 1 0 r392:=fnS (n:=33) rfl
noncomputable def m399:Nm:=⟨["self", "in_function"],[false,false],[],[]⟩
noncomputable def r399:XS m399:=(.auga (.v 0 (q 182 8 12)) "many" .Add (.i 1 (q 182 21 22)) (q 182 8 17) (q 182 8 22) (.sta (.v 0 (q 183 8 12)) "in_function" (.bop (.consO (.attr (.v 0 (q 183 27 31)) "in_function" (q 183 27 43)) (.one (.v 1 (q 183 47 58)))) (q 183 27 58)) (q 183 8 24) (q 183 8 58) .nil))
theorem fr399:FnR e 399 2 0 r399:=fnS (n:=34) rfl
noncomputable def m413:Nm:=⟨["name", "expr", "found", "tasks", "node", "inside", "within", "part", "scope"],[false,false,false,false,false,false,false,false,false],[8,50,0,3],[]⟩
noncomputable def r413:XS m413:=(.lit2 2 3 (q 185 4 9) (q 185 11 16) (q 185 4 16) (.call .nil (q 185 20 24) (q 185 20 26) g8) (.lst (.cons (.tup (.cons (.v 1 (q 185 30 34)) (.cons (.b false (q 185 36 41)) .nil)) (q 185 29 42)) .nil) (q 185 28 43)) (q 185 19 44) (q 185 4 44) (.whl (.e (.v 3 (q 186 10 15))) (.unp2 4 5 (q 187 8 12) (q 187 14 20) (q 187 8 20) (.meth (.v 3 (q 187 23 28)) "pop" .nil (q 187 23 32) (q 187 23 34)) (q 187 8 34) (.ifj (.and (.e (.call (.cons (.v 4 (q 188 22 26)) (.cons (.g (q 188 28 31) g0) .nil)) (q 188 11 21) (q 188 11 32) g50)) (.consA (.cmp .Eq (.attr (.v 4 (q 188 37 41)) "name" (q 188 37 46)) (.v 0 (q 188 50 54)) (q 188 37 54)) .nilA) (q 188 11 54)) (.exp (.meth (.v 2 (q 189 12 17)) "note" (.cons (.v 5 (q 189 23 29)) .nil) (q 189 12 22) (q 189 12 30)) (q 189 12 30) .nil) .nil (qq 188 8 189 30) (.set 6 (q 190 8 14) (.jn (.bop (.consO (.v 5 (q 190 17 23)) (.one (.call (.cons (.v 4 (q 190 38 42)) (.cons (.g (q 190 44 47) g3) .nil)) (q 190 27 37) (q 190 27 48) g50))) (q 190 17 48))) (q 190 8 48) (.for_ (.t2 7 8 (q 191 12 16) (q 191 18 23) (q 191 12 23)) (.meth (.v 4 (q 191 27 31)) "parts" .nil (q 191 27 37) (q 191 27 39)) (.exp (.meth (.v 3 (q 192 12 17)) "append" (.cons (.tup (.cons (.v 7 (q 192 26 30)) (.cons (.v 6 (q 192 32 38)) .nil)) (q 192 25 39)) .nil) (q 192 12 24) (q 192 12 40)) (q 192 12 40) .nil) (qq 191 8 192 40) .nil)))) (qq 186 4 192 40) (.ret (.v 2 (q 193 11 16)) (q 193 4 16))) tt tt ff cf cf tt (by decide +kernel))
theorem fr413:FnR e 413 2 7 r413:=fnS (n:=43) rfl
noncomputable def m420:Nm:=⟨["expr"],[false],[50,0,1,5],[]⟩
noncomputable def r420:XS m420:=(.ret (.bop (.consO (.call (.cons (.v 0 (q 195 22 26)) (.cons (.tup (.cons (.g (q 195 29 32) g0) (.cons (.g (q 195 34 37) g1) .nil)) (q 195 28 38)) .nil)) (q 195 11 21) (q 195 11 39) g50) (.one (.bop (.consA (.call (.cons (.v 0 (q 195 55 59)) (.cons (.g (q 195 61 64) g5) .nil)) (q 195 44 54) (q 195 44 65) g50) (.one (.cmp .Eq (.attr (.v 0 (q 195 70 74)) "args" (q 195 70 79)) (.lst .nil (q 195 83 85)) (q 195 70 85)))) (q 195 44 85)))) (q 195 11 86)) (q 195 4 86))
theorem fr420:FnR e 420 1 0 r420:=fnS (n:=44) rfl
noncomputable def m427:Nm:=⟨["expr", "found", "tasks", "node", "part", "scope"],[false,false,false,false,false,false],[50,0],[]⟩
noncomputable def r427:XS m427:=(.lit2 1 2 (q 197 4 9) (q 197 11 16) (q 197 4 16) (.dic (q 197 20 22)) (.lst (.cons (.v 0 (q 197 25 29)) .nil) (q 197 24 30)) (q 197 19 31) (q 197 4 31) (.whl (.e (.v 2 (q 198 10 15))) (.set 3 (q 199 8 12) (.meth (.v 2 (q 199 15 20)) "pop" .nil (q 199 15 24) (q 199 15 26)) (q 199 8 26) (.ifj (.e (.call (.cons (.v 3 (q 200 22 26)) (.cons (.g (q 200 28 31) g0) .nil)) (q 200 11 21) (q 200 11 32) g50)) (.sts (.v 1 (q 201 12 17)) (.attr (.v 3 (q 201 18 22)) "name" (q 201 18 27)) (.b true (q 201 31 35)) (q 201 12 28) (q 201 12 35) .nil) .nil (qq 200 8 201 35) (.for_ (.t2 4 5 (q 202 12 16) (q 202 18 23) (q 202 12 23)) (.meth (.v 3 (q 202 27 31)) "parts" .nil (q 202 27 37) (q 202 27 39)) (.exp (.meth (.v 2 (q 203 12 17)) "append" (.cons (.v 4 (q 203 25 29)) .nil) (q 203 12 24) (q 203 12 30)) (q 203 12 30) .nil) (qq 202 8 203 30) .nil))) (qq 198 4 203 30) (.ret (.v 1 (q 204 11 16)) (q 204 4 16))) tt tt ff cf cf tt (by decide +kernel))
theorem fr427:FnR e 427 1 5 r427:=fnS (n:=45) rfl
noncomputable def m434:Nm:=⟨["expr", "fresh", "name", "bound", "inner"],[false,false,false,false,false],[50,4,51,13],[]⟩
noncomputable def r434:XS m434:=(.ife (.or (.not (.e (.call (.cons (.v 0 (q 207 22 26)) (.cons (.g (q 207 28 31) g4) .nil)) (q 207 11 21) (q 207 11 32) g50)) (q 207 7 32)) (.consO (.e (.attr (.v 0 (q 207 36 40)) "is_rec" (q 207 36 47))) (.consO (.cmp .NotEq (.call (.cons (.attr (.v 0 (q 207 55 59)) "binds" (q 207 55 65)) .nil) (q 207 51 54) (q 207 51 66) g51) (.i 1 (q 207 70 71)) (q 207 51 71)) .nilO)) (q 207 7 71)) (.ret (.v 0 (q 208 15 19)) (q 208 8 19)) .nil (qq 207 4 208 19) (.unp2 2 3 (q 209 4 8) (q 209 10 15) (q 209 4 15) (.sub (.attr (.v 0 (q 209 18 22)) "binds" (q 209 18 28)) (.i 0 (q 209 29 30)) (q 209 18 31)) (q 209 4 31) (.ife (.not (.e (.call (.cons (.v 3 (q 210 22 27)) (.cons (.g (q 210 29 32) g4) .nil)) (q 210 11 21) (q 210 11 33) g50)) (q 210 7 33)) (.ret (.v 0 (q 211 15 19)) (q 211 8 19)) .nil (qq 210 4 211 19) (.set 4 (q 212 4 9) (.call (.cons (.v 3 (q 212 20 25)) (.cons (.v 1 (q 212 27 32)) .nil)) (q 212 12 19) (q 212 12 33) g13) (q 212 4 33) (.ret (.call (.cons (.attr (.v 4 (q 213 15 20)) "binds" (q 213 15 26)) (.cons (.call (.cons (.lst (.cons (.tup (.cons (.v 2 (q 213 34 38)) (.cons (.attr (.v 4 (q 213 40 45)) "body" (q 213 40 50)) .nil)) (q 213 33 51)) .nil) (q 213 32 52)) (.cons (.attr (.v 0 (q 213 54 58)) "body" (q 213 54 63)) (.cons (.b false (q 213 65 70)) .nil))) (q 213 28 31) (q 213 28 71) g4) (.cons (.attr (.v 4 (q 213 73 78)) "is_rec" (q 213 73 85)) .nil))) (q 213 11 14) (q 213 11 86) g4) (q 213 4 86))))))
theorem fr434:FnR e 434 2 3 r434:=fnS (n:=46) rfl
noncomputable def m439:Nm:=⟨["expr", "name", "bound", "names", "at", "body"],[false,false,false,true,true,false],[50,4,51,45,53,11,46],[]⟩
noncomputable def r439:XS m439:=(.ife (.or (.not (.e (.call (.cons (.v 0 (q 215 22 26)) (.cons (.g (q 215 28 31) g4) .nil)) (q 215 11 21) (q 215 11 32) g50)) (q 215 7 32)) (.consO (.e (.attr (.v 0 (q 215 36 40)) "is_rec" (q 215 36 47))) (.consO (.cmp .Lt (.call (.cons (.attr (.v 0 (q 215 55 59)) "binds" (q 215 55 65)) .nil) (q 215 51 54) (q 215 51 66) g51) (.i 2 (q 215 69 70)) (q 215 51 70)) .nilO)) (q 215 7 70)) (.ret (.v 0 (q 216 15 19)) (q 216 8 19)) .nil (qq 215 4 216 19) (.setk 3 (q 217 4 9) (.of (.attr (.v 0 (q 217 37 41)) "binds" (q 217 37 47)) ⟨["name", "bound"],[false,false],[],[]⟩ [] (sc [(".0",.local),("name",.local),("bound",.local)]) (.t2 0 1 (q 217 22 26) (q 217 28 33) (q 217 22 33)) .yes (.v 0 (q 217 13 17)) (q 217 12 48) (by decide +kernel)) (q 217 4 48) (.for_ (.n 4 (q 218 8 10)) (.call (.cons (.i 1 (q 218 20 21)) (.cons (.call (.cons (.attr (.v 0 (q 218 27 31)) "binds" (q 218 27 37)) .nil) (q 218 23 26) (q 218 23 38) g51) .nil)) (q 218 14 19) (q 218 14 39) g45) (.ife (.e (.call (.cons (.comp (.of (.call (.cons (.sub (.sub (.attr (.v 0 (q 219 58 62)) "binds" (q 219 58 68)) (.v 4 (q 219 69 71)) (q 219 58 72)) (.i 1 (q 219 73 74)) (q 219 58 75)) .nil) (q 219 47 57) (q 219 47 76) g11) ⟨["name"],[false],[],["at", "names"]⟩ [(true,4),(true,3)] (sc [(".0",.local),("name",.local),("at",.free),("names",.free)]) (.n 0 (q 219 39 43)) .yes (.cmp .In (.v 0 (q 219 16 20)) (.sli (.w 1 (q 219 24 29)) .none (.some (.w 0 (q 219 31 33))) (q 219 30 33) (q 219 24 34)) (q 219 16 34)) (q 219 15 77) (by decide +kernel))) .nil) (q 219 11 14) (q 219 11 78) g53)) (.ret (.v 0 (q 220 19 23)) (q 220 12 23)) .nil (qq 219 8 220 23) .nil) (qq 218 4 220 23) (.set 5 (q 221 4 8) (.attr (.v 0 (q 221 11 15)) "body" (q 221 11 20)) (q 221 4 20) (.for_ (.t2 1 2 (q 222 8 12) (q 222 14 19) (q 222 8 19)) (.call (.cons (.attr (.v 0 (q 222 32 36)) "binds" (q 222 32 42)) .nil) (q 222 23 31) (q 222 23 43) g46) (.set 5 (q 223 8 12) (.call (.cons (.lst (.cons (.tup (.cons (.v 1 (q 223 21 25)) (.cons (.v 2 (q 223 27 32)) .nil)) (q 223 20 33)) .nil) (q 223 19 34)) (.cons (.v 5 (q 223 36 40)) (.cons (.b false (q 223 42 47)) .nil))) (q 223 15 18) (q 223 15 48) g4) (q 223 8 48) .nil) (qq 222 4 223 48) (.ret (.v 5 (q 224 11 15)) (q 224 4 15))))) tt ct))
theorem fr439:FnR e 439 1 5 r439:=fnS (n:=47) rfl
noncomputable def m446:Nm:=⟨["exprs", "fresh", "at", "let"],[false,false,false,false],[45,51,50,4,13,47],[]⟩
noncomputable def r446:XS m446:=(.for_ (.n 2 (q 226 8 10)) (.call (.cons (.call (.cons (.v 0 (q 226 24 29)) .nil) (q 226 20 23) (q 226 20 30) g51) .nil) (q 226 14 19) (q 226 14 31) g45) (.ife (.e (.call (.cons (.sub (.v 0 (q 227 22 27)) (.v 2 (q 227 28 30)) (q 227 22 31)) (.cons (.g (q 227 33 36) g4) .nil)) (q 227 11 21) (q 227 11 37) g50)) (.set 3 (q 228 12 15) (.call (.cons (.sub (.v 0 (q 228 26 31)) (.v 2 (q 228 32 34)) (q 228 26 35)) (.cons (.v 1 (q 228 37 42)) .nil)) (q 228 18 25) (q 228 18 43) g13) (q 228 12 43) (.ret (.tup (.cons (.v 3 (q 229 20 23)) (.cons (.bin .Add (.bin .Add (.call (.cons (.sli (.v 0 (q 229 30 35)) .none (.some (.v 2 (q 229 37 39))) (q 229 36 39) (q 229 30 40)) .nil) (q 229 25 29) (q 229 25 41) g47) (.lst (.cons (.attr (.v 3 (q 229 45 48)) "body" (q 229 45 53)) .nil) (q 229 44 54)) (q 229 25 54)) (.call (.cons (.sli (.v 0 (q 229 62 67)) (.some (.bin .Add (.v 2 (q 229 68 70)) (.i 1 (q 229 73 74)) (q 229 68 74))) .none (q 229 68 75) (q 229 62 76)) .nil) (q 229 57 61) (q 229 57 77) g47) (q 229 25 77)) .nil)) (q 229 19 78)) (q 229 12 78))) .nil (qq 227 8 229 78) .nil) (qq 226 4 229 78) (.ret (.tup (.cons (.n (q 230 12 16)) (.cons (.v 0 (q 230 18 23)) .nil)) (q 230 11 24)) (q 230 4 24)))
theorem fr446:FnR e 446 2 2 r446:=fnS (n:=48) rfl
noncomputable def m453:Nm:=⟨["expr", "fresh", "let", "args"],[false,false,false,false],[50,5,20,4,6],[]⟩
noncomputable def r453:XS m453:=(.ife (.e (.call (.cons (.v 0 (q 232 18 22)) (.cons (.g (q 232 24 27) g5) .nil)) (q 232 7 17) (q 232 7 28) g50)) (.unp2 2 3 (q 233 8 11) (q 233 13 17) (q 233 8 17) (.call (.cons (.attr (.v 0 (q 233 33 37)) "args" (q 233 33 42)) (.cons (.v 1 (q 233 44 49)) .nil)) (q 233 20 32) (q 233 20 50) g20) (q 233 8 50) (.ret (.ife (.cmp .Is (.v 2 (q 234 23 26)) (.n (q 234 30 34)) (q 234 23 34)) (.v 0 (q 234 15 19)) (.call (.cons (.attr (.v 2 (q 234 44 47)) "binds" (q 234 44 53)) (.cons (.call (.cons (.attr (.v 0 (q 234 59 63)) "name" (q 234 59 68)) (.cons (.v 3 (q 234 70 74)) .nil)) (q 234 55 58) (q 234 55 75) g5) (.cons (.attr (.v 2 (q 234 77 80)) "is_rec" (q 234 77 87)) .nil))) (q 234 40 43) (q 234 40 88) g4) (q 234 15 88)) (q 234 8 88))) .nil (qq 232 4 234 88) (.ife (.and (.e (.call (.cons (.v 0 (q 235 18 22)) (.cons (.g (q 235 24 28) g6) .nil)) (q 235 7 17) (q 235 7 29) g50)) (.consA (.cmp .NotEq (.attr (.v 0 (q 235 34 38)) "args" (q 235 34 43)) (.lst .nil (q 235 47 49)) (q 235 34 49)) (.consA (.e (.call (.cons (.sub (.attr (.v 0 (q 235 65 69)) "args" (q 235 65 74)) (.i 0 (q 235 75 76)) (q 235 65 77)) (.cons (.g (q 235 79 82) g4) .nil)) (q 235 54 64) (q 235 54 83) g50)) .nilA)) (q 235 7 83)) (.unp2 2 3 (q 236 8 11) (q 236 13 17) (q 236 8 17) (.call (.cons (.attr (.v 0 (q 236 33 37)) "args" (q 236 33 42)) (.cons (.v 1 (q 236 44 49)) .nil)) (q 236 20 32) (q 236 20 50) g20) (q 236 8 50) (.ret (.call (.cons (.attr (.v 2 (q 237 19 22)) "binds" (q 237 19 28)) (.cons (.call (.cons (.attr (.v 0 (q 237 35 39)) "op" (q 237 35 42)) (.cons (.v 3 (q 237 44 48)) .nil)) (q 237 30 34) (q 237 30 49) g6) (.cons (.attr (.v 2 (q 237 51 54)) "is_rec" (q 237 51 61)) .nil))) (q 237 15 18) (q 237 15 62) g4) (q 237 8 62))) .nil (qq 235 4 237 62) (.ret (.v 0 (q 238 11 15)) (q 238 4 15))))
theorem fr453:FnR e 453 2 2 r453:=fnS (n:=49) rfl
noncomputable def m458:Nm:=⟨["binds", "names", "exprs", "wanted", "tasks", "name", "expr"],[false,false,false,true,false,false,false],[52,17],[]⟩
noncomputable def r458:XS m458:=(.lit3c 2 3 4 (q 240 4 9) (q 240 11 17) (q 240 19 24) (q 240 4 24) (.dic (q 240 28 30)) (.dic (q 240 32 34)) (.call (.cons (.v 1 (q 240 43 48)) .nil) (q 240 36 42) (q 240 36 49) g52) (q 240 27 50) (q 240 4 50) (.for_ (.t2 5 6 (q 241 8 12) (q 241 14 18) (q 241 8 18)) (.v 0 (q 241 22 27)) (.sts (.v 2 (q 242 8 13)) (.v 5 (q 242 14 18)) (.v 6 (q 242 22 26)) (q 242 8 19) (q 242 8 26) .nil) (qq 241 4 242 26) (.whl (.e (.v 4 (q 243 10 15))) (.set 5 (q 244 8 12) (.meth (.v 4 (q 244 15 20)) "pop" .nil (q 244 15 24) (q 244 15 26)) (q 244 8 26) (.ife (.and (.cmp .In (.v 5 (q 245 11 15)) (.v 2 (q 245 19 24)) (q 245 11 24)) (.consA (.cmp .NotIn (.v 5 (q 245 29 33)) (.v 3 (q 245 41 47)) (q 245 29 47)) .nilA) (q 245 11 47)) (.sts (.v 3 (q 246 12 18)) (.v 5 (q 246 19 23)) (.b true (q 246 27 31)) (q 246 12 24) (q 246 12 31) (.exp (.meth (.v 4 (q 247 12 17)) "extend" (.cons (.call (.cons (.call (.cons (.sub (.v 2 (q 247 43 48)) (.v 5 (q 247 49 53)) (q 247 43 54)) .nil) (q 247 32 42) (q 247 32 55) g17) .nil) (q 247 25 31) (q 247 25 56) g52) .nil) (q 247 12 24) (q 247 12 57)) (q 247 12 57) .nil)) .nil (qq 245 8 247 57) .nil)) (qq 243 4 247 57) (.ret (.comp (.of (.v 0 (q 248 43 48)) ⟨["name", "expr"],[false,false],[],["wanted"]⟩ [(true,3)] (sc [(".0",.local),("name",.local),("expr",.local),("wanted",.free)]) (.t2 0 1 (q 248 29 33) (q 248 35 39) (q 248 29 39)) (.one (.cmp .In (.v 0 (q 248 52 56)) (.w 0 (q 248 60 66)) (q 248 52 66))) (.tup (.cons (.v 0 (q 248 13 17)) (.cons (.v 1 (q 248 19 23)) .nil)) (q 248 12 24)) (q 248 11 67) (by decide +kernel))) (q 248 4 67)))) tt tt tt ct (by decide +kernel))
theorem fr458:FnR e 458 2 5 r458:=fnS (n:=50) rfl
noncomputable def m463:Nm:=⟨["expr", "used", "kept"],[false,true,false],[50,4,11,22],[]⟩
noncomputable def r463:XS m463:=(.ife (.not (.e (.call (.cons (.v 0 (q 250 22 26)) (.cons (.g (q 250 28 31) g4) .nil)) (q 250 11 21) (q 250 11 32) g50)) (q 250 7 32)) (.ret (.v 0 (q 251 15 19)) (q 251 8 19)) .nil (qq 250 4 251 19) (.set 1 (q 252 4 8) (.call (.cons (.attr (.v 0 (q 252 22 26)) "body" (q 252 22 31)) .nil) (q 252 11 21) (q 252 11 32) g11) (q 252 4 32) (.ifj (.e (.attr (.v 0 (q 253 7 11)) "is_rec" (q 253 7 18))) (.set 2 (q 254 8 12) (.call (.cons (.attr (.v 0 (q 254 23 27)) "binds" (q 254 23 33)) (.cons (.v 1 (q 254 35 39)) .nil)) (q 254 15 22) (q 254 15 40) g22) (q 254 8 40) .nil) (.setc 2 (q 256 8 12) (.of (.attr (.v 0 (q 256 49 53)) "binds" (q 256 49 59)) ⟨["name", "bound"],[false,false],[],["used"]⟩ [(true,1)] (sc [(".0",.local),("name",.local),("bound",.local),("used",.free)]) (.t2 0 1 (q 256 34 38) (q 256 40 45) (q 256 34 45)) (.one (.cmp .In (.v 0 (q 256 63 67)) (.w 0 (q 256 71 75)) (q 256 63 75))) (.tup (.cons (.v 0 (q 256 17 21)) (.cons (.v 1 (q 256 23 28)) .nil)) (q 256 16 29)) (q 256 15 76) (by decide +kernel)) (q 256 8 76) .nil tt cf tt (by decide +kernel)) (qq 253 4 256 76) (.ret (.ife (.cmp .Eq (.v 2 (q 257 24 28)) (.lst .nil (q 257 32 34)) (q 257 24 34)) (.attr (.v 0 (q 257 11 15)) "body" (q 257 11 20)) (.call (.cons (.v 2 (q 257 44 48)) (.cons (.attr (.v 0 (q 257 50 54)) "body" (q 257 50 59)) (.cons (.attr (.v 0 (q 257 61 65)) "is_rec" (q 257 61 72)) .nil))) (q 257 40 43) (q 257 40 73) g4) (q 257 11 73)) (q 257 4 73)))))
theorem fr463:FnR e 463 1 2 r463:=fnS (n:=51) rfl
noncomputable def m470:Nm:=⟨["expr", "name", "bound"],[false,false,false],[50,4,51,11],[]⟩
noncomputable def r470:XS m470:=(.ifj (.and (.e (.call (.cons (.v 0 (q 259 18 22)) (.cons (.g (q 259 24 27) g4) .nil)) (q 259 7 17) (q 259 7 28) g50)) (.consA (.e (.attr (.v 0 (q 259 33 37)) "is_rec" (q 259 33 44))) (.consA (.cmp .Eq (.call (.cons (.attr (.v 0 (q 259 54 58)) "binds" (q 259 54 64)) .nil) (q 259 50 53) (q 259 50 65) g51) (.i 1 (q 259 69 70)) (q 259 50 70)) .nilA)) (q 259 7 71)) (.unp2 1 2 (q 260 8 12) (q 260 14 19) (q 260 8 19) (.sub (.attr (.v 0 (q 260 22 26)) "binds" (q 260 22 32)) (.i 0 (q 260 33 34)) (q 260 22 35)) (q 260 8 35) (.ife (.cmp .NotIn (.v 1 (q 261 11 15)) (.call (.cons (.v 2 (q 261 34 39)) .nil) (q 261 23 33) (q 261 23 40) g11) (q 261 11 40)) (.ret (.call (.cons (.attr (.v 0 (q 262 23 27)) "binds" (q 262 23 33)) (.cons (.attr (.v 0 (q 262 35 39)) "body" (q 262 35 44)) (.cons (.b false (q 262 46 51)) .nil))) (q 262 19 22) (q 262 19 52) g4) (q 262 12 52)) .nil (qq 261 8 262 52) .nil)) .nil (qq 259 4 262 52) (.ret (.v 0 (q 263 11 15)) (q 263 4 15)))
theorem fr470:FnR e 470 1 2 r470:=fnS (n:=52) rfl
noncomputable def m477:Nm:=⟨["name", "at"],[false,false],[],[]⟩
noncomputable def r477:XS m477:=(.set 1 (q 266 4 6) (.meth (.v 0 (q 266 9 13)) "rfind" (.cons (.s "." (q 266 20 23)) .nil) (q 266 9 19) (q 266 9 24)) (q 266 4 24) (.ret (.ife (.and (.cmp .Gt (.v 1 (q 267 24 26)) (.i 0 (q 267 29 30)) (q 267 24 30)) (.consA (.e (.meth (.sli (.v 0 (q 267 35 39)) (.some (.bin .Add (.v 1 (q 267 40 42)) (.i 1 (q 267 45 46)) (q 267 40 46))) .none (q 267 40 47) (q 267 35 48)) "isdigit" .nil (q 267 35 56) (q 267 35 58))) .nilA) (q 267 24 58)) (.sli (.v 0 (q 267 11 15)) .none (.some (.v 1 (q 267 17 19))) (q 267 16 19) (q 267 11 20)) (.v 0 (q 267 64 68)) (q 267 11 68)) (q 267 4 68)))
theorem fr477:FnR e 477 1 1 r477:=fnS (n:=53) rfl
noncomputable def m493:Nm:=⟨["self", "avoided"],[false,false],[],[]⟩
noncomputable def r493:XS m493:=(.sta (.v 0 (q 271 8 12)) "avoided" (.dic (q 271 23 25)) (q 271 8 20) (q 271 8 25) (.sta (.v 0 (q 272 8 12)) "numbers" (.dic (q 272 23 25)) (q 272 8 20) (q 272 8 25) (.exp (.meth (.v 0 (q 273 8 12)) "avoid" (.cons (.v 1 (q 273 19 26)) .nil) (q 273 8 18) (q 273 8 27)) (q 273 8 27) .nil)))
theorem fr493:FnR e 493 2 0 r493:=fnR (i:=30) (j:=0) (d:=.ref 486) (e.kf.fns _ (List.mem_of_getElem? (i:=35) rfl)) rfl (by decide +kernel) (fun _ _ _ _ _ _ X=>let ⟨_,_,h1,h2⟩:=e.kf.dfl; binds_K X rfl h1 h2 rfl rfl)
noncomputable def m500:Nm:=⟨["self", "names", "name"],[false,false,false],[],[]⟩
noncomputable def r500:XS m500:=(.for_ (.n 2 (q 276 12 16)) (.v 1 (q 276 20 25)) (.sts (.attr (.v 0 (q 277 12 16)) "avoided" (q 277 12 24)) (.v 2 (q 277 25 29)) (.b true (q 277 33 37)) (q 277 12 30) (q 277 12 37) .nil) (qq 276 8 277 37) .nil)
theorem fr500:FnR e 500 2 1 r500:=fnS (n:=36) rfl
noncomputable def m507:Nm:=⟨["self", "base", "told", "number"],[false,false,false,false],[25,48],[]⟩
noncomputable def r507:XS m507:=(.set 2 (q 280 8 12) (.call (.cons (.v 1 (q 280 23 27)) .nil) (q 280 15 22) (q 280 15 28) g25) (q 280 8 28) (.set 3 (q 281 8 14) (.bin .Add (.meth (.attr (.v 0 (q 281 17 21)) "numbers" (q 281 17 29)) "get" (.cons (.v 2 (q 281 34 38)) (.cons (.i 0 (q 281 40 41)) .nil)) (q 281 17 33) (q 281 17 42)) (.i 1 (q 281 45 46)) (q 281 17 46)) (q 281 8 46) (.whl (.cmp .In (.bin .Add (.bin .Add (.v 2 (q 282 14 18)) (.s "." (q 282 21 24)) (q 282 14 24)) (.call (.cons (.v 3 (q 282 31 37)) .nil) (q 282 27 30) (q 282 27 38) g48) (q 282 14 38)) (.attr (.v 0 (q 282 42 46)) "avoided" (q 282 42 54)) (q 282 14 54)) (.augn 3 .Add (.i 1 (q 283 22 23)) (q 283 12 18) (q 283 12 23) .nil) (qq 282 8 283 23) (.sts (.attr (.v 0 (q 284 8 12)) "numbers" (q 284 8 20)) (.v 2 (q 284 21 25)) (.v 3 (q 284 29 35)) (q 284 8 26) (q 284 8 35) (.ret (.bin .Add (.bin .Add (.v 2 (q 285 15 19)) (.s "." (q 285 22 25)) (q 285 15 25)) (.call (.cons (.v 3 (q 285 32 38)) .nil) (q 285 28 31) (q 285 28 39) g48) (q 285 15 39)) (q 285 8 39))))))
theorem fr507:FnR e 507 2 2 r507:=fnS (n:=37) rfl
noncomputable def m521:Nm:=⟨["expr", "most", "many", "tasks", "node", "part", "scope"],[false,false,false,false,false,false,false],[],[]⟩
noncomputable def r521:XS m521:=(.lit2 2 3 (q 288 4 8) (q 288 10 15) (q 288 4 15) (.i 0 (q 288 19 20)) (.lst (.cons (.v 0 (q 288 23 27)) .nil) (q 288 22 28)) (q 288 18 29) (q 288 4 29) (.whl (.and (.e (.v 3 (q 289 10 15))) (.consA (.cmp .LtE (.v 2 (q 289 20 24)) (.v 1 (q 289 28 32)) (q 289 20 32)) .nilA) (q 289 10 32)) (.set 4 (q 290 8 12) (.meth (.v 3 (q 290 15 20)) "pop" .nil (q 290 15 24) (q 290 15 26)) (q 290 8 26) (.augn 2 .Add (.i 1 (q 291 16 17)) (q 291 8 12) (q 291 8 17) (.for_ (.t2 5 6 (q 292 12 16) (q 292 18 23) (q 292 12 23)) (.meth (.v 4 (q 292 27 31)) "parts" .nil (q 292 27 37) (q 292 27 39)) (.exp (.meth (.v 3 (q 293 12 17)) "append" (.cons (.v 5 (q 293 25 29)) .nil) (q 293 12 24) (q 293 12 30)) (q 293 12 30) .nil) (qq 292 8 293 30) .nil))) (qq 289 4 293 30) (.ret (.ife (.not (.e (.v 3 (q 294 23 28))) (q 294 19 28)) (.v 2 (q 294 11 15)) (.bin .Add (.v 1 (q 294 34 38)) (.i 1 (q 294 41 42)) (q 294 34 42)) (q 294 11 42)) (q 294 4 42))) tt tt ff cf cf tt (by decide +kernel))
theorem fr521:FnR e 521 2 5 r521:=fnS (n:=54) rfl
noncomputable def m528:Nm:=⟨["name", "bound", "body", "most", "uses"],[false,false,false,false,false],[16,15,50,3,26],[]⟩
noncomputable def r528:XS m528:=(.ife (.e (.call (.cons (.v 1 (q 297 15 20)) .nil) (q 297 7 14) (q 297 7 21) g16)) (.ret (.b true (q 298 15 19)) (q 298 8 19)) .nil (qq 297 4 298 19) (.set 4 (q 299 4 8) (.call (.cons (.v 0 (q 299 19 23)) (.cons (.v 2 (q 299 25 29)) .nil)) (q 299 11 18) (q 299 11 30) g15) (q 299 4 30) (.ife (.jn (.and (.cmp .Eq (.attr (.v 4 (q 300 7 11)) "many" (q 300 7 16)) (.i 1 (q 300 20 21)) (q 300 7 21)) (.consA (.or (.not (.e (.attr (.v 4 (q 300 31 35)) "in_function" (q 300 31 47))) (q 300 27 47)) (.consO (.e (.call (.cons (.v 1 (q 300 62 67)) (.cons (.g (q 300 69 72) g3) .nil)) (q 300 51 61) (q 300 51 73) g50)) .nilO) (q 300 27 73)) .nilA) (q 300 7 74))) (.ret (.b true (q 301 15 19)) (q 301 8 19)) .nil (qq 300 4 301 19) (.ret (.bop (.consA (.call (.cons (.v 1 (q 302 22 27)) (.cons (.g (q 302 29 32) g3) .nil)) (q 302 11 21) (q 302 11 33) g50) (.one (.cmp .LtE (.call (.cons (.v 1 (q 302 46 51)) (.cons (.v 3 (q 302 53 57)) .nil)) (q 302 38 45) (q 302 38 58) g26) (.v 3 (q 302 62 66)) (q 302 38 66)))) (q 302 11 66)) (q 302 4 66)))))
theorem fr528:FnR e 528 4 1 r528:=fnS (n:=55) rfl
noncomputable def m533:Nm:=⟨["expr", "fresh", "most", "taken", "kept", "name", "bound", "news", "instead"],[false,false,false,false,false,false,false,true,false],[50,4,27,14,43,0],[]⟩
noncomputable def r533:XS m533:=(.ife (.or (.not (.e (.call (.cons (.v 0 (q 304 22 26)) (.cons (.g (q 304 28 31) g4) .nil)) (q 304 11 21) (q 304 11 32) g50)) (q 304 7 32)) (.consO (.e (.attr (.v 0 (q 304 36 40)) "is_rec" (q 304 36 47))) .nilO) (q 304 7 47)) (.ret (.v 0 (q 305 15 19)) (q 305 8 19)) .nil (qq 304 4 305 19) (.lit2 3 4 (q 306 4 9) (q 306 11 15) (q 306 4 15) (.dic (q 306 19 21)) (.lst .nil (q 306 23 25)) (q 306 18 26) (q 306 4 26) (.for_ (.t2 5 6 (q 307 8 12) (q 307 14 19) (q 307 8 19)) (.attr (.v 0 (q 307 23 27)) "binds" (q 307 23 33)) (.ife (.e (.call (.cons (.v 5 (q 308 20 24)) (.cons (.v 6 (q 308 26 31)) (.cons (.attr (.v 0 (q 308 33 37)) "body" (q 308 33 42)) (.cons (.v 2 (q 308 44 48)) .nil)))) (q 308 11 19) (q 308 11 49) g27)) (.sts (.v 3 (q 309 12 17)) (.v 5 (q 309 18 22)) (.v 6 (q 309 26 31)) (q 309 12 23) (q 309 12 31) .nil) (.exp (.meth (.v 4 (q 311 12 16)) "append" (.cons (.tup (.cons (.v 5 (q 311 25 29)) (.cons (.v 6 (q 311 31 36)) .nil)) (q 311 24 37)) .nil) (q 311 12 23) (q 311 12 38)) (q 311 12 38) .nil) (qq 308 8 311 38) .nil) (qq 307 4 311 38) (.ife (.cmp .Eq (.v 3 (q 312 7 12)) (.dic (q 312 16 18)) (q 312 7 18)) (.ret (.v 0 (q 313 15 19)) (q 313 8 19)) .nil (qq 312 4 313 19) (.ife (.cmp .Eq (.v 4 (q 314 7 11)) (.lst .nil (q 314 15 17)) (q 314 7 17)) (.ret (.call (.cons (.attr (.v 0 (q 315 27 31)) "body" (q 315 27 36)) (.cons (.v 3 (q 315 38 43)) (.cons (.v 1 (q 315 45 50)) .nil))) (q 315 15 26) (q 315 15 51) g14) (q 315 8 51)) .nil (qq 314 4 315 51) (.set 7 (q 316 4 8) (.dic (q 316 11 13)) (q 316 4 13) (.for_ (.t2 5 6 (q 317 8 12) (q 317 14 19) (q 317 8 19)) (.v 4 (q 317 23 27)) (.sts (.v 7 (q 318 8 12)) (.v 5 (q 318 13 17)) (.meth (.v 1 (q 318 21 26)) "next" (.cons (.v 5 (q 318 32 36)) .nil) (q 318 21 31) (q 318 21 37)) (q 318 8 18) (q 318 8 37) .nil) (qq 317 4 318 37) (.set 8 (q 319 4 11) (.call (.cons (.v 3 (q 319 19 24)) .nil) (q 319 14 18) (q 319 14 25) g43) (q 319 4 25) (.for_ (.n 5 (q 320 8 12)) (.v 7 (q 320 16 20)) (.sts (.v 8 (q 321 8 15)) (.v 5 (q 321 16 20)) (.call (.cons (.sub (.v 7 (q 321 28 32)) (.v 5 (q 321 33 37)) (q 321 28 38)) .nil) (q 321 24 27) (q 321 24 39) g0) (q 321 8 21) (q 321 8 39) .nil) (qq 320 4 321 39) (.ret (.call (.cons (.comp (.of (.v 4 (q 322 55 59)) ⟨["name", "bound"],[false,false],[],["news"]⟩ [(true,7)] (sc [(".0",.local),("name",.local),("bound",.local),("news",.free)]) (.t2 0 1 (q 322 40 44) (q 322 46 51) (q 322 40 51)) .yes (.tup (.cons (.sub (.w 0 (q 322 17 21)) (.v 0 (q 322 22 26)) (q 322 17 27)) (.cons (.v 1 (q 322 29 34)) .nil)) (q 322 16 35)) (q 322 15 60) (by decide +kernel))) (.cons (.call (.cons (.attr (.v 0 (q 322 74 78)) "body" (q 322 74 83)) (.cons (.v 8 (q 322 85 92)) (.cons (.v 1 (q 322 94 99)) .nil))) (q 322 62 73) (q 322 62 100) g14) (.cons (.b false (q 322 102 107)) .nil))) (q 322 11 14) (q 322 11 108) g4) (q 322 4 108))))))))) tt tt ff cf cf tt (by decide +kernel)))
theorem fr533:FnR e 533 3 6 r533:=fnS (n:=56) rfl
noncomputable def m540:Nm:=⟨["hand", "many", "figure"],[false,false,false],[],[]⟩
noncomputable def r540:XS m540:=(.ife (.cmp .Gt (.sub (.v 0 (q 325 7 11)) (.i 0 (q 325 12 13)) (q 325 7 14)) (.i 0 (q 325 17 18)) (q 325 7 18)) (.set 2 (q 326 8 14) (.bin .Mod (.sub (.v 0 (q 326 17 21)) (.i 0 (q 326 22 23)) (q 326 17 24)) (.v 1 (q 326 27 31)) (q 326 17 31)) (q 326 8 31) (.sts (.v 0 (q 327 8 12)) (.i 0 (q 327 13 14)) (.bin .FloorDiv (.sub (.v 0 (q 327 18 22)) (.i 0 (q 327 23 24)) (q 327 18 25)) (.v 1 (q 327 29 33)) (q 327 18 33)) (q 327 8 15) (q 327 8 33) (.ret (.v 2 (q 328 15 21)) (q 328 8 21)))) .nil (qq 325 4 328 21) (.sts (.v 0 (q 329 4 8)) (.i 1 (q 329 9 10)) (.bin .Mod (.bin .Add (.bin .Mult (.sub (.v 0 (q 329 15 19)) (.i 1 (q 329 20 21)) (q 329 15 22)) (.i 40699 (q 329 25 30)) (q 329 15 30)) (.i 977 (q 329 33 36)) (q 329 15 36)) (.i 2147483629 (q 329 40 50)) (q 329 14 50)) (q 329 4 11) (q 329 4 50) (.ret (.bin .Mod (.bin .FloorDiv (.bin .Mult (.sub (.v 0 (q 330 11 15)) (.i 1 (q 330 16 17)) (q 330 11 18)) (.i 3 (q 330 21 22)) (q 330 11 22)) (.i 97 (q 330 26 28)) (q 330 11 28)) (.v 1 (q 330 31 35)) (q 330 11 35)) (q 330 4 35))))
theorem fr540:FnR e 540 2 1 r540:=fnS (n:=57) rfl
noncomputable def m547:Nm:=⟨["script", "number", "size"],[false,false,false],[49],[]⟩
noncomputable def r547:XS m547:=(.set 1 (q 332 4 10) (.jn (.ife (.cmp .NotEq (.v 0 (q 332 26 32)) (.lst .nil (q 332 36 38)) (q 332 26 38)) (.sub (.v 0 (q 332 13 19)) (.i 0 (q 332 20 21)) (q 332 13 22)) (.i 0 (q 332 44 45)) (q 332 13 45))) (q 332 4 45) (.set 2 (q 333 4 8) (.jn (.ife (.cmp .GtE (.v 1 (q 333 21 27)) (.i 0 (q 333 31 32)) (q 333 21 32)) (.v 1 (q 333 11 17)) (.bin .Sub (.neg (.i 1 (q 333 39 40)) (q 333 38 40)) (.v 1 (q 333 43 49)) (q 333 38 49)) (q 333 11 49))) (q 333 4 49) (.ret (.lst (.cons (.jn (.ife (.cmp .GtE (.v 2 (q 334 20 24)) (.bin .Pow (.i 10 (q 334 28 30)) (.i 16 (q 334 34 36)) (q 334 28 36)) (q 334 20 36)) (.v 2 (q 334 12 16)) (.i 0 (q 334 42 43)) (q 334 12 43))) (.cons (.bin .Add (.bin .Mod (.bin .Add (.bin .Mult (.i 2 (q 334 46 47)) (.v 2 (q 334 50 54)) (q 334 46 54)) (.call (.cons (.cmp .Lt (.v 1 (q 334 61 67)) (.i 0 (q 334 70 71)) (q 334 61 71)) .nil) (q 334 57 60) (q 334 57 72) g49) (q 334 46 72)) (.i 1000003 (q 334 76 83)) (q 334 45 83)) (.i 11 (q 334 86 88)) (q 334 45 88)) .nil)) (q 334 11 89)) (q 334 4 89))))
theorem fr547:FnR e 547 1 2 r547:=fnS (n:=58) rfl
noncomputable def m554:Nm:=⟨["hand", "names", "way"],[false,false,false],[29,1,6,5,0,51],[]⟩
noncomputable def r554:XS m554:=(.set 2 (q 336 4 7) (.call (.cons (.v 0 (q 336 19 23)) (.cons (.i 7 (q 336 25 26)) .nil)) (q 336 10 18) (q 336 10 27) g29) (q 336 4 27) (.ife (.cmp .Eq (.v 2 (q 337 7 10)) (.i 0 (q 337 14 15)) (q 337 7 15)) (.ret (.call (.cons (.s "int" (q 338 19 24)) (.cons (.call (.cons (.v 0 (q 338 35 39)) (.cons (.i 5 (q 338 41 42)) .nil)) (q 338 26 34) (q 338 26 43) g29) .nil)) (q 338 15 18) (q 338 15 44) g1) (q 338 8 44)) .nil (qq 337 4 338 44) (.ife (.cmp .Eq (.v 2 (q 339 7 10)) (.i 1 (q 339 14 15)) (q 339 7 15)) (.ret (.call (.cons (.s "error" (q 340 20 27)) (.cons (.lst .nil (q 340 29 31)) .nil)) (q 340 15 19) (q 340 15 32) g6) (q 340 8 32)) .nil (qq 339 4 340 32) (.ife (.cmp .Lt (.v 2 (q 341 7 10)) (.i 4 (q 341 13 14)) (q 341 7 14)) (.ret (.call (.cons (.s "K" (q 342 19 22)) (.cons (.lst (.cons (.call (.cons (.sub (.v 1 (q 342 29 34)) (.call (.cons (.v 0 (q 342 44 48)) (.cons (.call (.cons (.v 1 (q 342 54 59)) .nil) (q 342 50 53) (q 342 50 60) g51) .nil)) (q 342 35 43) (q 342 35 61) g29) (q 342 29 62)) .nil) (q 342 25 28) (q 342 25 63) g0) (.cons (.call (.cons (.s "int" (q 342 69 74)) (.cons (.i 3 (q 342 76 77)) .nil)) (q 342 65 68) (q 342 65 78) g1) .nil)) (q 342 24 79)) .nil)) (q 342 15 18) (q 342 15 80) g5) (q 342 8 80)) .nil (qq 341 4 342 80) (.ret (.call (.cons (.sub (.v 1 (q 343 15 20)) (.call (.cons (.v 0 (q 343 30 34)) (.cons (.call (.cons (.v 1 (q 343 40 45)) .nil) (q 343 36 39) (q 343 36 46) g51) .nil)) (q 343 21 29) (q 343 21 47) g29) (q 343 15 48)) .nil) (q 343 11 14) (q 343 11 49) g0) (q 343 4 49))))))
theorem fr554:FnR e 554 2 1 r554:=fnS (n:=59) rfl
noncomputable def m559:Nm:=⟨["hand", "names"],[true,true],[5,45],[]⟩
noncomputable def r559:XS m559:=(.ret (.call (.cons (.s "T" (q 345 15 18)) (.cons (.comp (.of (.call (.cons (.i 3 (q 345 62 63)) .nil) (q 345 56 61) (q 345 56 64) g45) ⟨["turn"],[false],[31],["hand", "names"]⟩ [(true,0),(true,1)] (sc [(".0",.local),("turn",.local),("_law_part",.globalImplicit),("hand",.free),("names",.free)]) (.n 0 (q 345 48 52)) .yes (.call (.cons (.w 0 (q 345 31 35)) (.cons (.w 1 (q 345 37 42)) .nil)) (q 345 21 30) (q 345 21 43) g31) (q 345 20 65) (by decide +kernel))) .nil)) (q 345 11 14) (q 345 11 66) g5) (q 345 4 66))
theorem fr559:FnR e 559 2 0 r559:=fnS (n:=60) rfl
noncomputable def m566:Nm:=⟨["expr", "env"],[false,false],[50,0],[]⟩
noncomputable def r566:XS m566:=(.whl (.and (.e (.call (.cons (.v 0 (q 347 21 25)) (.cons (.g (q 347 27 30) g0) .nil)) (q 347 10 20) (q 347 10 31) g50)) (.consA (.cmp .In (.attr (.v 0 (q 347 36 40)) "name" (q 347 36 45)) (.v 1 (q 347 49 52)) (q 347 36 52)) .nilA) (q 347 10 52)) (.unp2 0 1 (q 348 8 12) (q 348 14 17) (q 348 8 17) (.sub (.v 1 (q 348 20 23)) (.attr (.v 0 (q 348 24 28)) "name" (q 348 24 33)) (q 348 20 34)) (q 348 8 34) .nil) (qq 347 4 348 34) (.ret (.tup (.cons (.v 0 (q 349 12 16)) (.cons (.v 1 (q 349 18 21)) .nil)) (q 349 11 22)) (q 349 4 22)))
theorem fr566:FnR e 566 2 0 r566:=fnS (n:=61) rfl
noncomputable def m571:Nm:=⟨["start", "home", "deep", "expr", "env", "near", "name", "meant", "lam", "place", "inner"],[false,false,true,false,true,false,false,false,false,false,false],[33,50,0,1,5,44,43,4,34,3,2],[]⟩
noncomputable def r571:XS m571:=(.unp2 3 4 (q 351 4 8) (q 351 10 13) (q 351 4 13) (.call (.cons (.v 0 (q 351 27 32)) (.cons (.v 1 (q 351 34 38)) .nil)) (q 351 16 26) (q 351 16 39) g33) (q 351 4 39) (.ife (.e (.call (.cons (.v 3 (q 352 18 22)) (.cons (.g (q 352 24 27) g0) .nil)) (q 352 7 17) (q 352 7 28) g50)) (.ret (.tup (.cons (.s "from" (q 353 16 22)) (.cons (.attr (.v 3 (q 353 24 28)) "name" (q 353 24 33)) .nil)) (q 353 15 34)) (q 353 8 34)) .nil (qq 352 4 353 34) (.ife (.e (.call (.cons (.v 3 (q 354 18 22)) (.cons (.g (q 354 24 27) g1) .nil)) (q 354 7 17) (q 354 7 28) g50)) (.ret (.tup (.cons (.s "number" (q 355 16 24)) (.cons (.attr (.v 3 (q 355 26 30)) "value" (q 355 26 36)) .nil)) (q 355 15 37)) (q 355 8 37)) .nil (qq 354 4 355 37) (.ife (.e (.call (.cons (.v 3 (q 356 18 22)) (.cons (.g (q 356 24 27) g5) .nil)) (q 356 7 17) (q 356 7 28) g50)) (.ife (.cmp .Eq (.v 2 (q 357 11 15)) (.i 0 (q 357 19 20)) (q 357 11 20)) (.ret (.tup (.cons (.s ".." (q 358 20 24)) .nil) (q 358 19 26)) (q 358 12 26)) .nil (qq 357 8 358 26) (.ret (.bin .Add (.tup (.cons (.attr (.v 3 (q 359 16 20)) "name" (q 359 16 25)) .nil) (q 359 15 27)) (.call (.cons (.comp (.of (.attr (.v 3 (q 359 78 82)) "args" (q 359 78 87)) ⟨["arg"],[false],[34],["deep", "env"]⟩ [(true,2),(true,4)] (sc [(".0",.local),("arg",.local),("_law_seen",.globalImplicit),("deep",.free),("env",.free)]) (.n 0 (q 359 71 74)) .yes (.call (.cons (.v 0 (q 359 47 50)) (.cons (.w 1 (q 359 52 55)) (.cons (.bin .Sub (.w 0 (q 359 57 61)) (.i 1 (q 359 64 65)) (q 359 57 65)) .nil))) (q 359 37 46) (q 359 37 66) g34) (q 359 36 88) (by decide +kernel))) .nil) (q 359 30 35) (q 359 30 89) g44) (q 359 15 89)) (q 359 8 89))) .nil (qq 356 4 359 89) (.set 5 (q 360 4 8) (.call (.cons (.v 4 (q 360 16 19)) .nil) (q 360 11 15) (q 360 11 20) g43) (q 360 4 20) (.ife (.e (.call (.cons (.v 3 (q 361 18 22)) (.cons (.g (q 361 24 27) g4) .nil)) (q 361 7 17) (q 361 7 28) g50)) (.for_ (.t2 6 7 (q 362 12 16) (q 362 18 23) (q 362 12 23)) (.attr (.v 3 (q 362 27 31)) "binds" (q 362 27 37)) (.sts (.v 5 (q 363 12 16)) (.v 6 (q 363 17 21)) (.tup (.cons (.v 7 (q 363 26 31)) (.cons (.jn (.ife (.e (.attr (.v 3 (q 363 41 45)) "is_rec" (q 363 41 52))) (.v 5 (q 363 33 37)) (.v 4 (q 363 58 61)) (q 363 33 61))) .nil)) (q 363 25 62)) (q 363 12 22) (q 363 12 62) .nil) (qq 362 8 363 62) (.ret (.call (.cons (.attr (.v 3 (q 364 25 29)) "body" (q 364 25 34)) (.cons (.v 5 (q 364 36 40)) (.cons (.v 2 (q 364 42 46)) .nil))) (q 364 15 24) (q 364 15 47) g34) (q 364 8 47))) .nil (qq 361 4 364 47) (.ife (.e (.call (.cons (.v 3 (q 365 18 22)) (.cons (.g (q 365 24 27) g3) .nil)) (q 365 7 17) (q 365 7 28) g50)) (.sts (.v 5 (q 366 8 12)) (.sub (.attr (.v 3 (q 366 13 17)) "params" (q 366 13 24)) (.i 0 (q 366 25 26)) (q 366 13 27)) (.tup (.cons (.call (.cons (.s "#" (q 366 36 39)) .nil) (q 366 32 35) (q 366 32 40) g0) (.cons (.dic (q 366 42 44)) .nil)) (q 366 31 45)) (q 366 8 28) (q 366 8 45) (.ret (.tup (.cons (.s "function" (q 367 16 26)) (.cons (.call (.cons (.attr (.v 3 (q 367 38 42)) "body" (q 367 38 47)) (.cons (.v 5 (q 367 49 53)) (.cons (.v 2 (q 367 55 59)) .nil))) (q 367 28 37) (q 367 28 60) g34) .nil)) (q 367 15 61)) (q 367 8 61))) .nil (qq 365 4 367 61) (.ife (.e (.call (.cons (.v 3 (q 368 18 22)) (.cons (.g (q 368 24 27) g2) .nil)) (q 368 7 17) (q 368 7 28) g50)) (.unp2 8 9 (q 369 8 11) (q 369 13 18) (q 369 8 18) (.call (.cons (.attr (.v 3 (q 369 32 36)) "fun" (q 369 32 40)) (.cons (.v 4 (q 369 42 45)) .nil)) (q 369 21 31) (q 369 21 46) g33) (q 369 8 46) (.set 10 (q 370 8 13) (.call (.cons (.v 9 (q 370 21 26)) .nil) (q 370 16 20) (q 370 16 27) g43) (q 370 8 27) (.sts (.v 10 (q 371 8 13)) (.sub (.attr (.v 8 (q 371 14 17)) "params" (q 371 14 24)) (.i 0 (q 371 25 26)) (q 371 14 27)) (.tup (.cons (.sub (.attr (.v 3 (q 371 32 36)) "args" (q 371 32 41)) (.i 0 (q 371 42 43)) (q 371 32 44)) (.cons (.v 4 (q 371 46 49)) .nil)) (q 371 31 50)) (q 371 8 28) (q 371 8 50) (.ret (.call (.cons (.attr (.v 8 (q 372 25 28)) "body" (q 372 25 33)) (.cons (.v 10 (q 372 35 40)) (.cons (.v 2 (q 372 42 46)) .nil))) (q 372 15 24) (q 372 15 47) g34) (q 372 8 47))))) .nil (qq 368 4 372 47) (.ret (.bin .Add (.tup (.cons (.attr (.v 3 (q 373 12 16)) "op" (q 373 12 19)) .nil) (q 373 11 21)) (.call (.cons (.comp (.of (.attr (.v 3 (q 373 68 72)) "args" (q 373 68 77)) ⟨["arg"],[false],[34],["deep", "env"]⟩ [(true,2),(true,4)] (sc [(".0",.local),("arg",.local),("_law_seen",.globalImplicit),("deep",.free),("env",.free)]) (.n 0 (q 373 61 64)) .yes (.call (.cons (.v 0 (q 373 41 44)) (.cons (.w 1 (q 373 46 49)) (.cons (.w 0 (q 373 51 55)) .nil))) (q 373 31 40) (q 373 31 56) g34) (q 373 30 78) (by decide +kernel))) .nil) (q 373 24 29) (q 373 24 79) g44) (q 373 11 79)) (q 373 4 79))))))))))
theorem fr571:FnR e 571 3 8 r571:=fnS (n:=62) rfl
noncomputable def m578:Nm:=⟨["one", "other"],[false,false],[34],[]⟩
noncomputable def r578:XS m578:=(.ret (.cmp .Eq (.call (.cons (.v 0 (q 375 21 24)) (.cons (.dic (q 375 26 28)) (.cons (.i 3 (q 375 30 31)) .nil))) (q 375 11 20) (q 375 11 32) g34) (.call (.cons (.v 1 (q 375 46 51)) (.cons (.dic (q 375 53 55)) (.cons (.i 3 (q 375 57 58)) .nil))) (q 375 36 45) (q 375 36 59) g34) (q 375 11 59)) (q 375 4 59))
theorem fr578:FnR e 578 2 0 r578:=fnS (n:=63) rfl
noncomputable def m585:Nm:=⟨["hand", "fresh", "is_rec", "held", "inside", "expr", "told"],[false,false,false,false,false,false,false],[29,5,0,31,4,32,18,50,51,35],[]⟩
noncomputable def r585:XS m585:=(.set 2 (q 377 4 10) (.cmp .Eq (.call (.cons (.v 0 (q 377 22 26)) (.cons (.i 2 (q 377 28 29)) .nil)) (q 377 13 21) (q 377 13 30) g29) (.i 0 (q 377 34 35)) (q 377 13 35)) (q 377 4 35) (.set 3 (q 378 4 8) (.jn (.ife (.e (.v 2 (q 378 69 75))) (.call (.cons (.s "K" (q 378 15 18)) (.cons (.lst (.cons (.call (.cons (.s "y" (q 378 25 28)) .nil) (q 378 21 24) (q 378 21 29) g0) (.cons (.call (.cons (.v 0 (q 378 41 45)) (.cons (.lst (.cons (.s "x" (q 378 48 51)) (.cons (.s "y" (q 378 53 56)) (.cons (.s "z" (q 378 58 61)) .nil))) (q 378 47 62)) .nil)) (q 378 31 40) (q 378 31 63) g31) .nil)) (q 378 20 64)) .nil)) (q 378 11 14) (q 378 11 65) g5) (.call (.cons (.v 0 (q 378 91 95)) (.cons (.lst (.cons (.s "x" (q 378 98 101)) (.cons (.s "y" (q 378 103 106)) (.cons (.s "z" (q 378 108 111)) .nil))) (q 378 97 112)) .nil)) (q 378 81 90) (q 378 81 113) g31) (q 378 11 113))) (q 378 4 113) (.set 4 (q 379 4 10) (.call (.cons (.lst (.cons (.tup (.cons (.s "y" (q 379 19 22)) (.cons (.v 3 (q 379 24 28)) .nil)) (q 379 18 29)) .nil) (q 379 17 30)) (.cons (.call (.cons (.v 0 (q 379 42 46)) (.cons (.lst (.cons (.s "y" (q 379 49 52)) (.cons (.s "y" (q 379 54 57)) (.cons (.s "x" (q 379 59 62)) .nil))) (q 379 48 63)) .nil)) (q 379 32 41) (q 379 32 64) g32) (.cons (.v 2 (q 379 66 72)) .nil))) (q 379 13 16) (q 379 13 73) g4) (q 379 4 73) (.set 5 (q 380 4 8) (.call (.cons (.lst (.cons (.tup (.cons (.s "x" (q 380 17 20)) (.cons (.v 4 (q 380 22 28)) .nil)) (q 380 16 29)) .nil) (q 380 15 30)) (.cons (.call (.cons (.v 0 (q 380 42 46)) (.cons (.lst (.cons (.s "x" (q 380 49 52)) (.cons (.s "x" (q 380 54 57)) (.cons (.s "y" (q 380 59 62)) .nil))) (q 380 48 63)) .nil)) (q 380 32 41) (q 380 32 64) g32) (.cons (.b false (q 380 66 71)) .nil))) (q 380 11 14) (q 380 11 72) g4) (q 380 4 72) (.set 6 (q 381 4 8) (.call (.cons (.v 5 (q 381 22 26)) (.cons (.v 1 (q 381 28 33)) .nil)) (q 381 11 21) (q 381 11 34) g18) (q 381 4 34) (.ife (.or (.cmp .NotEq (.attr (.v 6 (q 382 7 11)) "is_rec" (q 382 7 18)) (.v 2 (q 382 22 28)) (q 382 7 28)) (.consO (.not (.e (.call (.cons (.attr (.v 6 (q 382 47 51)) "body" (q 382 47 56)) (.cons (.g (q 382 58 61) g4) .nil)) (q 382 36 46) (q 382 36 62) g50)) (q 382 32 62)) (.consO (.e (.attr (.attr (.v 6 (q 382 66 70)) "body" (q 382 66 75)) "is_rec" (q 382 66 82))) (.consO (.cmp .NotEq (.call (.cons (.attr (.attr (.v 6 (q 382 91 95)) "body" (q 382 91 100)) "binds" (q 382 91 106)) .nil) (q 382 87 90) (q 382 87 107) g51) (.i 1 (q 382 111 112)) (q 382 87 112)) .nilO))) (q 382 7 113)) (.ret (.b false (q 383 15 20)) (q 383 8 20)) .nil (qq 382 4 383 20) (.ret (.bop (.consA (.not (.call (.cons (.sub (.sub (.attr (.attr (.v 6 (q 384 26 30)) "body" (q 384 26 35)) "binds" (q 384 26 41)) (.i 0 (q 384 42 43)) (q 384 26 44)) (.i 1 (q 384 45 46)) (q 384 26 47)) (.cons (.g (q 384 49 52) g4) .nil)) (q 384 15 25) (q 384 15 53) g50) (q 384 11 53)) (.one (.call (.cons (.v 5 (q 384 68 72)) (.cons (.v 6 (q 384 74 78)) .nil)) (q 384 58 67) (q 384 58 79) g35))) (q 384 11 79)) (q 384 4 79))))))))
theorem fr585:FnR e 585 2 5 r585:=fnS (n:=64) rfl
noncomputable def m590:Nm:=⟨["hand", "many", "names", "name", "binds", "expr", "told", "later", "here", "meant"],[true,false,true,false,true,false,false,false,false,false],[29,4,32,19,45,50,35],[]⟩
noncomputable def r590:XS m590:=(.set 1 (q 386 4 8) (.bin .Add (.i 2 (q 386 11 12)) (.call (.cons (.v 0 (q 386 24 28)) (.cons (.i 2 (q 386 30 31)) .nil)) (q 386 15 23) (q 386 15 32) g29) (q 386 11 32)) (q 386 4 32) (.set 2 (q 387 4 9) (.sli (.lst (.cons (.s "x" (q 387 13 16)) (.cons (.s "y" (q 387 18 21)) (.cons (.s "z" (q 387 23 26)) .nil))) (q 387 12 27)) .none (.some (.v 1 (q 387 29 33))) (q 387 28 33) (q 387 12 34)) (q 387 4 34) (.setk 4 (q 388 4 9) (.of (.v 2 (q 388 76 81)) ⟨["name"],[false],[31],["hand"]⟩ [(true,0)] (sc [(".0",.local),("name",.local),("_law_part",.globalImplicit),("hand",.free)]) (.n 0 (q 388 68 72)) .yes (.tup (.cons (.v 0 (q 388 14 18)) (.cons (.call (.cons (.w 0 (q 388 30 34)) (.cons (.lst (.cons (.s "x" (q 388 37 40)) (.cons (.s "y" (q 388 42 45)) (.cons (.s "u" (q 388 47 50)) (.cons (.s "u" (q 388 52 55)) (.cons (.s "u" (q 388 57 60)) .nil))))) (q 388 36 61)) .nil)) (q 388 20 29) (q 388 20 62) g31) .nil)) (q 388 13 63)) (q 388 12 82) (by decide +kernel)) (q 388 4 82) (.set 5 (q 389 4 8) (.call (.cons (.v 4 (q 389 15 20)) (.cons (.call (.cons (.v 0 (q 389 32 36)) (.cons (.bin .Add (.v 2 (q 389 38 43)) (.lst (.cons (.s "u" (q 389 47 50)) .nil) (q 389 46 51)) (q 389 38 51)) .nil)) (q 389 22 31) (q 389 22 52) g32) (.cons (.b false (q 389 54 59)) .nil))) (q 389 11 14) (q 389 11 60) g4) (q 389 4 60) (.lit2 6 7 (q 390 4 8) (q 390 10 15) (q 390 4 15) (.call (.cons (.v 5 (q 390 26 30)) .nil) (q 390 19 25) (q 390 19 31) g19) (.comp (.of (.call (.cons (.v 1 (q 390 53 57)) .nil) (q 390 47 52) (q 390 47 58) g45) ⟨["at"],[true],[],["binds", "names"]⟩ [(true,4),(true,2)] (sc [(".0",.local),("at",.cell),("binds",.free),("names",.free)]) (.n 0 (q 390 41 43)) (.one (.cmp .NotEq (.comp (.of (.sli (.w 1 (q 390 80 85)) .none (.some (.v 0 (q 390 87 89))) (q 390 86 89) (q 390 80 90)) ⟨["name"],[false],[12],["at", "binds"]⟩ [(true,0),(false,0)] (sc [(".0",.local),("name",.local),("is_free",.globalImplicit),("at",.free),("binds",.free)]) (.n 0 (q 390 72 76)) (.one (.e (.call (.cons (.v 0 (q 390 102 106)) (.cons (.sub (.sub (.w 1 (q 390 108 113)) (.w 0 (q 390 114 116)) (q 390 108 117)) (.i 1 (q 390 118 119)) (q 390 108 120)) .nil)) (q 390 94 101) (q 390 94 121) g12))) (.v 0 (q 390 63 67)) (q 390 62 122) (by decide +kernel))) (.lst .nil (q 390 126 128)) (q 390 62 128))) (.v 0 (q 390 34 36)) (q 390 33 129) (by decide +kernel))) (q 390 18 130) (q 390 4 130) (.ife (.cmp .NotEq (.v 7 (q 391 7 12)) (.lst .nil (q 391 16 18)) (q 391 7 18)) (.ret (.cmp .Is (.v 6 (q 392 15 19)) (.v 5 (q 392 23 27)) (q 392 15 27)) (q 392 8 27)) .nil (qq 391 4 392 27) (.set 8 (q 393 4 8) (.v 6 (q 393 11 15)) (q 393 4 15) (.for_ (.t2 3 9 (q 394 8 12) (q 394 14 19) (q 394 8 19)) (.v 4 (q 394 23 28)) (.ife (.or (.not (.e (.call (.cons (.v 8 (q 395 26 30)) (.cons (.g (q 395 32 35) g4) .nil)) (q 395 15 25) (q 395 15 36) g50)) (q 395 11 36)) (.consO (.e (.attr (.v 8 (q 395 40 44)) "is_rec" (q 395 40 51))) (.consO (.cmp .NotEq (.attr (.v 8 (q 395 55 59)) "binds" (q 395 55 65)) (.lst (.cons (.tup (.cons (.v 3 (q 395 71 75)) (.cons (.v 9 (q 395 77 82)) .nil)) (q 395 70 83)) .nil) (q 395 69 84)) (q 395 55 84)) .nilO)) (q 395 11 84)) (.ret (.b false (q 396 19 24)) (q 396 12 24)) .nil (qq 395 8 396 24) (.set 8 (q 397 8 12) (.attr (.v 8 (q 397 15 19)) "body" (q 397 15 24)) (q 397 8 24) .nil)) (qq 394 4 397 24) (.ret (.bop (.consA (.cmp .Is (.v 8 (q 398 11 15)) (.attr (.v 5 (q 398 19 23)) "body" (q 398 19 28)) (q 398 11 28)) (.one (.call (.cons (.v 5 (q 398 43 47)) (.cons (.v 6 (q 398 49 53)) .nil)) (q 398 33 42) (q 398 33 54) g35))) (q 398 11 54)) (q 398 4 54))))) tt tt ff cf cf tt (by decide +kernel))) tt ct)))
theorem fr590:FnR e 590 1 9 r590:=fnS (n:=65) rfl
noncomputable def m595:Nm:=⟨["hand", "fresh", "parts", "turn", "one", "expr", "told", "lets", "is_moved"],[false,false,false,false,false,false,false,false,false],[45,31,29,4,32,5,6,21,50,35],[]⟩
noncomputable def r595:XS m595:=(.set 2 (q 400 4 9) (.lst .nil (q 400 12 14)) (q 400 4 14) (.for_ (.n 3 (q 401 8 12)) (.call (.cons (.i 2 (q 401 22 23)) .nil) (q 401 16 21) (q 401 16 24) g45) (.set 4 (q 402 8 11) (.call (.cons (.v 0 (q 402 24 28)) (.cons (.lst (.cons (.s "x" (q 402 31 34)) (.cons (.s "y" (q 402 36 39)) .nil)) (q 402 30 40)) .nil)) (q 402 14 23) (q 402 14 41) g31) (q 402 8 41) (.ifj (.cmp .Eq (.call (.cons (.v 0 (q 403 20 24)) (.cons (.i 2 (q 403 26 27)) .nil)) (q 403 11 19) (q 403 11 28) g29) (.i 0 (q 403 32 33)) (q 403 11 33)) (.set 4 (q 404 12 15) (.call (.cons (.lst (.cons (.tup (.cons (.s "x" (q 404 24 27)) (.cons (.call (.cons (.v 0 (q 404 39 43)) (.cons (.lst (.cons (.s "x" (q 404 46 49)) (.cons (.s "y" (q 404 51 54)) .nil)) (q 404 45 55)) .nil)) (q 404 29 38) (q 404 29 56) g31) .nil)) (q 404 23 57)) .nil) (q 404 22 58)) (.cons (.call (.cons (.v 0 (q 404 70 74)) (.cons (.lst (.cons (.s "x" (q 404 77 80)) (.cons (.s "y" (q 404 82 85)) .nil)) (q 404 76 86)) .nil)) (q 404 60 69) (q 404 60 87) g32) (.cons (.b false (q 404 89 94)) .nil))) (q 404 18 21) (q 404 18 95) g4) (q 404 12 95) .nil) .nil (qq 403 8 404 95) (.exp (.meth (.v 2 (q 405 8 13)) "append" (.cons (.v 4 (q 405 21 24)) .nil) (q 405 8 20) (q 405 8 25)) (q 405 8 25) .nil))) (qq 401 4 405 25) (.set 5 (q 406 4 8) (.jn (.ife (.cmp .Eq (.call (.cons (.v 0 (q 406 39 43)) (.cons (.i 2 (q 406 45 46)) .nil)) (q 406 30 38) (q 406 30 47) g29) (.i 0 (q 406 51 52)) (q 406 30 52)) (.call (.cons (.s "P" (q 406 15 18)) (.cons (.v 2 (q 406 20 25)) .nil)) (q 406 11 14) (q 406 11 26) g5) (.call (.cons (.s "intAdd" (q 406 63 71)) (.cons (.v 2 (q 406 73 78)) .nil)) (q 406 58 62) (q 406 58 79) g6) (q 406 11 79))) (q 406 4 79) (.set 6 (q 407 4 8) (.call (.cons (.v 5 (q 407 23 27)) (.cons (.v 1 (q 407 29 34)) .nil)) (q 407 11 22) (q 407 11 35) g21) (q 407 4 35) (.setc 7 (q 408 4 8) (.of (.v 2 (q 408 29 34)) ⟨["part"],[false],[50,4],[]⟩ [] (sc [(".0",.local),("part",.local),("isinstance",.globalImplicit),("Let",.globalImplicit)]) (.n 0 (q 408 21 25)) (.one (.e (.call (.cons (.v 0 (q 408 49 53)) (.cons (.g (q 408 55 58) g4) .nil)) (q 408 38 48) (q 408 38 59) g50))) (.v 0 (q 408 12 16)) (q 408 11 60) (by decide +kernel)) (q 408 4 60) (.set 8 (q 409 4 12) (.jn (.bop (.consA (.cmp .NotEq (.v 7 (q 409 15 19)) (.lst .nil (q 409 23 25)) (q 409 15 25)) (.one (.bop (.consO (.call (.cons (.v 5 (q 409 42 46)) (.cons (.g (q 409 48 51) g5) .nil)) (q 409 31 41) (q 409 31 52) g50) (.one (.cmp .Is (.sub (.v 2 (q 409 56 61)) (.i 0 (q 409 62 63)) (q 409 56 64)) (.sub (.v 7 (q 409 68 72)) (.i 0 (q 409 73 74)) (q 409 68 75)) (q 409 56 75)))) (q 409 31 75)))) (q 409 15 76))) (q 409 4 76) (.ife (.not (.e (.v 8 (q 410 11 19))) (q 410 7 19)) (.ret (.cmp .Is (.v 6 (q 411 15 19)) (.v 5 (q 411 23 27)) (q 411 15 27)) (q 411 8 27)) .nil (qq 410 4 411 27) (.ret (.bop (.consA (.call (.cons (.v 6 (q 412 22 26)) (.cons (.g (q 412 28 31) g4) .nil)) (q 412 11 21) (q 412 11 32) g50) (.consA (.not (.call (.cons (.attr (.v 6 (q 412 53 57)) "body" (q 412 53 62)) (.cons (.g (q 412 64 67) g4) .nil)) (q 412 42 52) (q 412 42 68) g50) (q 412 38 68)) (.one (.call (.cons (.v 5 (q 412 84 88)) (.cons (.v 6 (q 412 90 94)) .nil)) (q 412 74 83) (q 412 74 95) g35)))) (q 412 11 95)) (q 412 4 95)))) tt cf tt (by decide +kernel))))))
theorem fr595:FnR e 595 2 7 r595:=fnS (n:=66) rfl
noncomputable def m602:Nm:=⟨["hand", "held", "is_rec", "expr", "told"],[false,false,false,false,false],[5,31,1,29,4,32,24,12,35],[]⟩
noncomputable def r602:XS m602:=(.set 1 (q 414 4 8) (.call (.cons (.s "K" (q 414 15 18)) (.cons (.lst (.cons (.call (.cons (.v 0 (q 414 31 35)) (.cons (.lst (.cons (.s "x" (q 414 38 41)) (.cons (.s "y" (q 414 43 46)) (.cons (.s "y" (q 414 48 51)) .nil))) (q 414 37 52)) .nil)) (q 414 21 30) (q 414 21 53) g31) (.cons (.call (.cons (.s "int" (q 414 59 64)) (.cons (.i 2 (q 414 66 67)) .nil)) (q 414 55 58) (q 414 55 68) g1) .nil)) (q 414 20 69)) .nil)) (q 414 11 14) (q 414 11 70) g5) (q 414 4 70) (.set 2 (q 415 4 10) (.cmp .Gt (.call (.cons (.v 0 (q 415 22 26)) (.cons (.i 4 (q 415 28 29)) .nil)) (q 415 13 21) (q 415 13 30) g29) (.i 0 (q 415 33 34)) (q 415 13 34)) (q 415 4 34) (.set 3 (q 416 4 8) (.call (.cons (.lst (.cons (.tup (.cons (.s "x" (q 416 17 20)) (.cons (.v 1 (q 416 22 26)) .nil)) (q 416 16 27)) .nil) (q 416 15 28)) (.cons (.call (.cons (.v 0 (q 416 40 44)) (.cons (.lst (.cons (.s "x" (q 416 47 50)) (.cons (.s "y" (q 416 52 55)) .nil)) (q 416 46 56)) .nil)) (q 416 30 39) (q 416 30 57) g32) (.cons (.v 2 (q 416 59 65)) .nil))) (q 416 11 14) (q 416 11 66) g4) (q 416 4 66) (.set 4 (q 417 4 8) (.call (.cons (.v 3 (q 417 21 25)) .nil) (q 417 11 20) (q 417 11 26) g24) (q 417 4 26) (.ret (.bop (.consA (.cmp .Eq (.attr (.v 4 (q 418 11 15)) "is_rec" (q 418 11 22)) (.bop (.consA (.v 2 (q 418 27 33)) (.one (.call (.cons (.s "x" (q 418 46 49)) (.cons (.v 1 (q 418 51 55)) .nil)) (q 418 38 45) (q 418 38 56) g12))) (q 418 27 56)) (q 418 11 57)) (.consA (.bop (.consO (.cmp .Is (.v 4 (q 418 63 67)) (.v 3 (q 418 71 75)) (q 418 63 75)) (.one (.v 2 (q 418 79 85)))) (q 418 63 85)) (.one (.call (.cons (.v 3 (q 418 101 105)) (.cons (.v 4 (q 418 107 111)) .nil)) (q 418 91 100) (q 418 91 112) g35)))) (q 418 11 112)) (q 418 4 112))))))
theorem fr602:FnR e 602 1 4 r602:=fnS (n:=67) rfl
noncomputable def m607:Nm:=⟨["hand", "names", "is_rec", "binds", "name", "expr", "told", "wanted", "kept"],[false,false,false,true,true,true,false,true,false],[29,5,0,31,4,1,23,50,35],[]⟩
noncomputable def r607:XS m607:=(.lit2 1 2 (q 420 4 9) (q 420 11 17) (q 420 4 17) (.lst (.cons (.s "x" (q 420 22 25)) (.cons (.s "y" (q 420 27 30)) (.cons (.s "z" (q 420 32 35)) .nil))) (q 420 21 36)) (.cmp .Eq (.call (.cons (.v 0 (q 420 47 51)) (.cons (.i 2 (q 420 53 54)) .nil)) (q 420 38 46) (q 420 38 55) g29) (.i 0 (q 420 59 60)) (q 420 38 60)) (q 420 20 61) (q 420 4 61) (.set 3 (q 421 4 9) (.lst .nil (q 421 12 14)) (q 421 4 14) (.for_ (.n 4 (q 422 8 12)) (.v 1 (q 422 16 21)) (.exp (.meth (.v 3 (q 423 8 13)) "append" (.cons (.tup (.cons (.v 4 (q 423 22 26)) (.cons (.jn (.ife (.e (.v 2 (q 423 88 94))) (.call (.cons (.s "K" (q 423 32 35)) (.cons (.lst (.cons (.call (.cons (.sub (.bin .Add (.v 1 (q 423 43 48)) (.lst (.cons (.s "u" (q 423 52 55)) (.cons (.s "u" (q 423 57 60)) .nil)) (q 423 51 61)) (q 423 43 61)) (.call (.cons (.v 0 (q 423 72 76)) (.cons (.i 5 (q 423 78 79)) .nil)) (q 423 63 71) (q 423 63 80) g29) (q 423 42 81)) .nil) (q 423 38 41) (q 423 38 82) g0) .nil) (q 423 37 83)) .nil)) (q 423 28 31) (q 423 28 84) g5) (.call (.cons (.v 0 (q 423 110 114)) (.cons (.lst (.cons (.s "u" (q 423 117 120)) .nil) (q 423 116 121)) .nil)) (q 423 100 109) (q 423 100 122) g31) (q 423 28 122))) .nil)) (q 423 21 123)) .nil) (q 423 8 20) (q 423 8 124)) (q 423 8 124) .nil) (qq 422 4 423 124) (.set 5 (q 424 4 8) (.call (.cons (.v 3 (q 424 15 20)) (.cons (.call (.cons (.s "T" (q 424 26 29)) (.cons (.lst (.cons (.call (.cons (.sub (.bin .Add (.v 1 (q 424 37 42)) (.lst (.cons (.s "u" (q 424 46 49)) .nil) (q 424 45 50)) (q 424 37 50)) (.call (.cons (.v 0 (q 424 61 65)) (.cons (.i 4 (q 424 67 68)) .nil)) (q 424 52 60) (q 424 52 69) g29) (q 424 36 70)) .nil) (q 424 32 35) (q 424 32 71) g0) (.cons (.call (.cons (.s "int" (q 424 77 82)) (.cons (.i 1 (q 424 84 85)) .nil)) (q 424 73 76) (q 424 73 86) g1) .nil)) (q 424 31 87)) .nil)) (q 424 22 25) (q 424 22 88) g5) (.cons (.v 2 (q 424 90 96)) .nil))) (q 424 11 14) (q 424 11 97) g4) (q 424 4 97) (.lit2c 6 7 (q 425 4 8) (q 425 10 16) (q 425 4 16) (.call (.cons (.v 5 (q 425 33 37)) .nil) (q 425 20 32) (q 425 20 38) g23) (.comp (.of (.v 1 (q 425 58 63)) ⟨["name"],[false],[12],["expr"]⟩ [(true,5)] (sc [(".0",.local),("name",.local),("is_free",.globalImplicit),("expr",.free)]) (.n 0 (q 425 50 54)) (.one (.e (.call (.cons (.v 0 (q 425 75 79)) (.cons (.attr (.w 0 (q 425 81 85)) "body" (q 425 81 90)) .nil)) (q 425 67 74) (q 425 67 91) g12))) (.v 0 (q 425 41 45)) (q 425 40 92) (by decide +kernel))) (q 425 19 93) (q 425 4 93) (.ifj (.e (.v 2 (q 426 7 13))) (.forg (.n 4 (q 427 12 16)) (.v 7 (q 427 20 26)) (.exp (.meth (.v 7 (q 428 12 18)) "extend" (.cons (.comp (.of (.v 1 (q 428 46 51)) ⟨["other"],[false],[12,43],["binds", "name", "wanted"]⟩ [(true,3),(true,4),(true,7)] (sc [(".0",.local),("other",.local),("is_free",.globalImplicit),("dict",.globalImplicit),("binds",.free),("name",.free),("wanted",.free)]) (.n 0 (q 428 37 42)) (.one (.and (.cmp .NotIn (.v 0 (q 428 55 60)) (.w 2 (q 428 68 74)) (q 428 55 74)) (.consA (.e (.call (.cons (.v 0 (q 428 87 92)) (.cons (.sub (.call (.cons (.w 0 (q 428 99 104)) .nil) (q 428 94 98) (q 428 94 105) g43) (.w 1 (q 428 106 110)) (q 428 94 111)) .nil)) (q 428 79 86) (q 428 79 112) g12)) .nilA) (q 428 55 112))) (.v 0 (q 428 27 32)) (q 428 26 113) (by decide +kernel))) .nil) (q 428 12 25) (q 428 12 114)) (q 428 12 114) .nil) (qq 427 8 428 114) .nil) .nil (qq 426 4 428 114) (.set 8 (q 429 4 8) (.jn (.ife (.e (.call (.cons (.v 6 (q 429 62 66)) (.cons (.g (q 429 68 71) g4) .nil)) (q 429 51 61) (q 429 51 72) g50)) (.comp (.of (.attr (.v 6 (q 429 36 40)) "binds" (q 429 36 46)) ⟨["name", "meant"],[false,false],[],[]⟩ [] (sc [(".0",.local),("name",.local),("meant",.local)]) (.t2 0 1 (q 429 21 25) (q 429 27 32) (q 429 21 32)) .yes (.v 0 (q 429 12 16)) (q 429 11 47) (by decide +kernel))) (.lst .nil (q 429 78 80)) (q 429 11 80))) (q 429 4 80) (.ret (.bop (.consA (.cmp .Eq (.v 8 (q 430 11 15)) (.comp (.of (.v 1 (q 430 37 42)) ⟨["name"],[false],[],["wanted"]⟩ [(true,7)] (sc [(".0",.local),("name",.local),("wanted",.free)]) (.n 0 (q 430 29 33)) (.one (.cmp .In (.v 0 (q 430 46 50)) (.w 0 (q 430 54 60)) (q 430 46 60))) (.v 0 (q 430 20 24)) (q 430 19 61) (by decide +kernel))) (q 430 11 61)) (.one (.call (.cons (.v 5 (q 430 76 80)) (.cons (.v 6 (q 430 82 86)) .nil)) (q 430 66 75) (q 430 66 87) g35))) (q 430 11 87)) (q 430 4 87)))) tt tt ct (by decide +kernel))))) tt tt ff cf cf tt (by decide +kernel))
theorem fr607:FnR e 607 1 8 r607:=fnS (n:=68) rfl
noncomputable def m614:Nm:=⟨["name", "expr", "inside", "found", "part", "scope"],[false,false,false,false,false,false],[50,0,41,3],[]⟩
noncomputable def r614:XS m614:=(.ife (.e (.call (.cons (.v 1 (q 432 18 22)) (.cons (.g (q 432 24 27) g0) .nil)) (q 432 7 17) (q 432 7 28) g50)) (.ret (.ife (.cmp .Eq (.attr (.v 1 (q 433 27 31)) "name" (q 433 27 36)) (.v 0 (q 433 40 44)) (q 433 27 44)) (.lst (.cons (.v 2 (q 433 16 22)) .nil) (q 433 15 23)) (.lst .nil (q 433 50 52)) (q 433 15 52)) (q 433 8 52)) .nil (qq 432 4 433 52) (.set 3 (q 434 4 9) (.lst .nil (q 434 12 14)) (q 434 4 14) (.for_ (.t2 4 5 (q 435 8 12) (q 435 14 19) (q 435 8 19)) (.meth (.v 1 (q 435 23 27)) "parts" .nil (q 435 23 33) (q 435 23 35)) (.set 3 (q 436 8 13) (.bin .Add (.v 3 (q 436 16 21)) (.call (.cons (.v 0 (q 436 34 38)) (.cons (.v 4 (q 436 40 44)) (.cons (.bop (.consO (.v 2 (q 436 46 52)) (.one (.call (.cons (.v 1 (q 436 67 71)) (.cons (.g (q 436 73 76) g3) .nil)) (q 436 56 66) (q 436 56 77) g50))) (q 436 46 77)) .nil))) (q 436 24 33) (q 436 24 78) g41) (q 436 16 78)) (q 436 8 78) .nil) (qq 435 4 436 78) (.ret (.v 3 (q 437 11 16)) (q 437 4 16)))))
theorem fr614:FnR e 614 3 3 r614:=fnS (n:=69) rfl
noncomputable def m621:Nm:=⟨["hand", "fresh", "most", "binds", "parts", "name", "meant", "turn", "expr", "told", "kept", "uses", "is_lam", "is_atom_now", "is_once"],[false,false,false,false,false,false,false,false,false,false,false,false,false,false,false],[29,0,1,6,5,3,45,50,2,4,28,41,51,49,35],[]⟩
noncomputable def r621:XS m621:=(.lit3 2 3 4 (q 439 4 8) (q 439 10 15) (q 439 17 22) (q 439 4 22) (.sub (.lst (.cons (.i 0 (q 439 27 28)) (.cons (.i 4 (q 439 30 31)) .nil)) (q 439 26 32)) (.call (.cons (.v 0 (q 439 42 46)) (.cons (.i 2 (q 439 48 49)) .nil)) (q 439 33 41) (q 439 33 50) g29) (q 439 26 51)) (.lst .nil (q 439 53 55)) (.lst .nil (q 439 57 59)) (q 439 25 60) (q 439 4 60) (.for_ (.n 5 (q 440 8 12)) (.lst (.cons (.s "x" (q 440 17 20)) (.cons (.s "y" (q 440 22 25)) .nil)) (q 440 16 26)) (.set 6 (q 441 8 13) (.sub (.lst (.cons (.call (.cons (.s "u" (q 441 21 24)) .nil) (q 441 17 20) (q 441 17 25) g0) (.cons (.call (.cons (.s "int" (q 441 31 36)) (.cons (.i 4 (q 441 38 39)) .nil)) (q 441 27 30) (q 441 27 40) g1) (.cons (.call (.cons (.s "error" (q 441 47 54)) (.cons (.lst .nil (q 441 56 58)) .nil)) (q 441 42 46) (q 441 42 59) g6) (.cons (.call (.cons (.s "K" (q 441 65 68)) (.cons (.lst (.cons (.call (.cons (.s "u" (q 441 75 78)) .nil) (q 441 71 74) (q 441 71 79) g0) .nil) (q 441 70 80)) .nil)) (q 441 61 64) (q 441 61 81) g5) (.cons (.call (.cons (.s "N" (q 441 87 90)) (.cons (.lst .nil (q 441 92 94)) .nil)) (q 441 83 86) (q 441 83 95) g5) .nil))))) (q 441 16 96)) (.call (.cons (.v 0 (q 441 106 110)) (.cons (.i 5 (q 441 112 113)) .nil)) (q 441 97 105) (q 441 97 114) g29) (q 441 16 115)) (q 441 8 115) (.ifj (.cmp .Eq (.call (.cons (.v 0 (q 442 20 24)) (.cons (.i 3 (q 442 26 27)) .nil)) (q 442 11 19) (q 442 11 28) g29) (.i 0 (q 442 32 33)) (q 442 11 33)) (.set 6 (q 443 12 17) (.call (.cons (.lst (.cons (.s "v" (q 443 25 28)) .nil) (q 443 24 29)) (.cons (.call (.cons (.s "K" (q 443 35 38)) (.cons (.lst (.cons (.call (.cons (.s "v" (q 443 45 48)) .nil) (q 443 41 44) (q 443 41 49) g0) (.cons (.call (.cons (.s "u" (q 443 55 58)) .nil) (q 443 51 54) (q 443 51 59) g0) .nil)) (q 443 40 60)) .nil)) (q 443 31 34) (q 443 31 61) g5) .nil)) (q 443 20 23) (q 443 20 62) g3) (q 443 12 62) .nil) .nil (qq 442 8 443 62) (.exp (.meth (.v 3 (q 444 8 13)) "append" (.cons (.tup (.cons (.v 5 (q 444 22 26)) (.cons (.v 6 (q 444 28 33)) .nil)) (q 444 21 34)) .nil) (q 444 8 20) (q 444 8 35)) (q 444 8 35) (.for_ (.n 7 (q 445 12 16)) (.call (.cons (.call (.cons (.v 0 (q 445 35 39)) (.cons (.i 3 (q 445 41 42)) .nil)) (q 445 26 34) (q 445 26 43) g29) .nil) (q 445 20 25) (q 445 20 44) g45) (.exp (.meth (.v 4 (q 446 12 17)) "append" (.cons (.jn (.ife (.cmp .Eq (.call (.cons (.v 0 (q 446 81 85)) (.cons (.i 3 (q 446 87 88)) .nil)) (q 446 72 80) (q 446 72 89) g29) (.i 0 (q 446 93 94)) (q 446 72 94)) (.call (.cons (.lst (.cons (.s "u" (q 446 30 33)) .nil) (q 446 29 34)) (.cons (.call (.cons (.s "K" (q 446 40 43)) (.cons (.lst (.cons (.call (.cons (.s "u" (q 446 50 53)) .nil) (q 446 46 49) (q 446 46 54) g0) (.cons (.call (.cons (.v 5 (q 446 60 64)) .nil) (q 446 56 59) (q 446 56 65) g0) .nil)) (q 446 45 66)) .nil)) (q 446 36 39) (q 446 36 67) g5) .nil)) (q 446 25 28) (q 446 25 68) g3) (.call (.cons (.v 5 (q 446 104 108)) .nil) (q 446 100 103) (q 446 100 109) g0) (q 446 25 109))) .nil) (q 446 12 24) (q 446 12 110)) (q 446 12 110) .nil) (qq 445 8 446 110) (.ife (.and (.e (.call (.cons (.v 6 (q 447 22 27)) (.cons (.g (q 447 29 32) g3) .nil)) (q 447 11 21) (q 447 11 33) g50)) (.consA (.cmp .Eq (.call (.cons (.v 0 (q 447 47 51)) (.cons (.i 2 (q 447 53 54)) .nil)) (q 447 38 46) (q 447 38 55) g29) (.i 0 (q 447 59 60)) (q 447 38 60)) .nilA) (q 447 11 60)) (.exp (.meth (.v 4 (q 448 12 17)) "append" (.cons (.call (.cons (.call (.cons (.v 5 (q 448 33 37)) .nil) (q 448 29 32) (q 448 29 38) g0) (.cons (.lst (.cons (.call (.cons (.s "u" (q 448 45 48)) .nil) (q 448 41 44) (q 448 41 49) g0) .nil) (q 448 40 50)) .nil)) (q 448 25 28) (q 448 25 51) g2) .nil) (q 448 12 24) (q 448 12 52)) (q 448 12 52) .nil) .nil (qq 447 8 448 52) .nil))))) (qq 440 4 448 52) (.set 8 (q 449 4 8) (.call (.cons (.v 3 (q 449 15 20)) (.cons (.call (.cons (.s "T" (q 449 26 29)) (.cons (.v 4 (q 449 31 36)) .nil)) (q 449 22 25) (q 449 22 37) g5) (.cons (.b false (q 449 39 44)) .nil))) (q 449 11 14) (q 449 11 45) g4) (q 449 4 45) (.lit2 9 10 (q 450 4 8) (q 450 10 14) (q 450 4 14) (.call (.cons (.v 8 (q 450 26 30)) (.cons (.v 1 (q 450 32 37)) (.cons (.v 2 (q 450 39 43)) .nil))) (q 450 18 25) (q 450 18 44) g28) (.i 0 (q 450 46 47)) (q 450 17 48) (q 450 4 48) (.for_ (.t2 5 6 (q 451 8 12) (q 451 14 19) (q 451 8 19)) (.v 3 (q 451 23 28)) (.lit2 11 12 (q 452 8 12) (q 452 14 20) (q 452 8 20) (.call (.cons (.v 5 (q 452 34 38)) (.cons (.attr (.v 8 (q 452 40 44)) "body" (q 452 40 49)) (.cons (.b false (q 452 51 56)) .nil))) (q 452 24 33) (q 452 24 57) g41) (.call (.cons (.v 6 (q 452 70 75)) (.cons (.g (q 452 77 80) g3) .nil)) (q 452 59 69) (q 452 59 81) g50) (q 452 23 82) (q 452 8 82) (.set 13 (q 453 8 19) (.jn (.bop (.consO (.call (.cons (.v 6 (q 453 33 38)) (.cons (.tup (.cons (.g (q 453 41 44) g0) (.cons (.g (q 453 46 49) g1) .nil)) (q 453 40 50)) .nil)) (q 453 22 32) (q 453 22 51) g50) (.one (.bop (.consA (.call (.cons (.v 6 (q 453 67 72)) (.cons (.g (q 453 74 77) g5) .nil)) (q 453 56 66) (q 453 56 78) g50) (.one (.cmp .Eq (.attr (.v 6 (q 453 83 88)) "args" (q 453 83 93)) (.lst .nil (q 453 97 99)) (q 453 83 99)))) (q 453 56 99)))) (q 453 22 100))) (q 453 8 100) (.set 14 (q 454 8 15) (.jn (.bop (.consA (.cmp .Eq (.call (.cons (.v 11 (q 454 22 26)) .nil) (q 454 18 21) (q 454 18 27) g51) (.i 1 (q 454 31 32)) (q 454 18 32)) (.one (.bop (.consO (.v 12 (q 454 38 44)) (.one (.cmp .Eq (.v 11 (q 454 48 52)) (.lst (.cons (.b false (q 454 57 62)) .nil) (q 454 56 63)) (q 454 48 63)))) (q 454 38 63)))) (q 454 18 64))) (q 454 8 64) (.set 10 (q 455 8 12) (.bin .Add (.v 10 (q 455 15 19)) (.call (.cons (.not (.bop (.consO (.v 13 (q 455 31 42)) (.consO (.v 14 (q 455 46 53)) (.one (.bop (.consA (.v 12 (q 455 58 64)) (.one (.cmp .Eq (.v 2 (q 455 69 73)) (.i 4 (q 455 77 78)) (q 455 69 78)))) (q 455 58 78))))) (q 455 31 79)) (q 455 26 80)) .nil) (q 455 22 25) (q 455 22 81) g49) (q 455 15 81)) (q 455 8 81) .nil))) tt tt ff cf cf tt (by decide +kernel)) (qq 451 4 455 81) (.ret (.bop (.consA (.cmp .Eq (.jn (.ife (.e (.call (.cons (.v 9 (q 456 42 46)) (.cons (.g (q 456 48 51) g4) .nil)) (q 456 31 41) (q 456 31 52) g50)) (.call (.cons (.attr (.v 9 (q 456 16 20)) "binds" (q 456 16 26)) .nil) (q 456 12 15) (q 456 12 27) g51) (.i 0 (q 456 58 59)) (q 456 12 59))) (.v 10 (q 456 64 68)) (q 456 11 68)) (.one (.call (.cons (.v 8 (q 456 83 87)) (.cons (.v 9 (q 456 89 93)) .nil)) (q 456 73 82) (q 456 73 94) g35))) (q 456 11 94)) (q 456 4 94))) tt tt ff cf cf tt (by decide +kernel)))) tt tt tt ff ff ff cf cf cf tt tt (by decide +kernel))
theorem fr621:FnR e 621 2 13 r621:=fnS (n:=70) rfl
noncomputable def m628:Nm:=⟨["script", "hand", "fresh", "form"],[false,false,false,false],[30,9,29,36,37,38,39,40,42],[]⟩
noncomputable def r628:XS m628:=(.lit2 1 2 (q 458 4 8) (q 458 10 15) (q 458 4 15) (.call (.cons (.v 0 (q 458 29 35)) .nil) (q 458 19 28) (q 458 19 36) g30) (.call (.cons (.lst (.cons (.s "x" (q 458 45 48)) (.cons (.s "y" (q 458 50 53)) (.cons (.s "z" (q 458 55 58)) (.cons (.s "u" (q 458 60 63)) (.cons (.s "v" (q 458 65 68)) .nil))))) (q 458 44 69)) .nil) (q 458 38 43) (q 458 38 70) g9) (q 458 18 71) (q 458 4 71) (.set 3 (q 459 4 8) (.call (.cons (.v 1 (q 459 20 24)) (.cons (.i 6 (q 459 26 27)) .nil)) (q 459 11 19) (q 459 11 28) g29) (q 459 4 28) (.ife (.cmp .Eq (.v 3 (q 460 7 11)) (.i 0 (q 460 15 16)) (q 460 7 16)) (.ret (.call (.cons (.v 1 (q 461 37 41)) (.cons (.v 2 (q 461 43 48)) .nil)) (q 461 15 36) (q 461 15 49) g36) (q 461 8 49)) .nil (qq 460 4 461 49) (.ife (.cmp .Eq (.v 3 (q 462 7 11)) (.i 1 (q 462 15 16)) (q 462 7 16)) (.ret (.call (.cons (.v 1 (q 463 33 37)) .nil) (q 463 15 32) (q 463 15 38) g37) (q 463 8 38)) .nil (qq 462 4 463 38) (.ife (.cmp .Eq (.v 3 (q 464 7 11)) (.i 2 (q 464 15 16)) (q 464 7 16)) (.ret (.call (.cons (.v 1 (q 465 31 35)) (.cons (.v 2 (q 465 37 42)) .nil)) (q 465 15 30) (q 465 15 43) g38) (q 465 8 43)) .nil (qq 464 4 465 43) (.ife (.cmp .Eq (.v 3 (q 466 7 11)) (.i 3 (q 466 15 16)) (q 466 7 16)) (.ret (.call (.cons (.v 1 (q 467 32 36)) .nil) (q 467 15 31) (q 467 15 37) g39) (q 467 8 37)) .nil (qq 466 4 467 37) (.ret (.ife (.cmp .Eq (.v 3 (q 468 36 40)) (.i 4 (q 468 44 45)) (q 468 36 45)) (.call (.cons (.v 1 (q 468 27 31)) .nil) (q 468 11 26) (q 468 11 32) g40) (.call (.cons (.v 1 (q 468 70 74)) (.cons (.v 2 (q 468 76 81)) .nil)) (q 468 51 69) (q 468 51 82) g42) (q 468 11 82)) (q 468 4 82))))))) tt tt ff cf cf tt (by decide +kernel))
theorem a628:r628.asts = (fd 51 0).2.2.1:=rfl
end
end
section
set_option maxRecDepth 10000000
def Own (M I:Led) (d:Addr) (o:Obj):Prop:=(d,o) ∈ M∨(d,o) ∈ I
theorem szle {n:Nat} (h:n ≤ 10000000):n ≤ sizeLine:=by rw [sizeLine_eq]; lia
theorem szlt {n:Nat} (h:n ≤ 10000000):n < sizeLine:=by rw [sizeLine_eq]; lia
theorem rm {m n r:Nat} (h:n ≤ r) (k:Nat.ble m n = true):m ≤ r:=Nat.le_trans (Nat.le_of_ble_eq_true k) h
theorem cnd {b:Bool} {P Q:Prop} (h1:b = true→P) (h2:b = false→Q):cond b P Q:=by
  cases b
  · exact h2 rfl
  · exact h1 rfl
theorem cndT {b:Bool} {P Q:Prop} (h:b = true) (q:P):cond b P Q:=by subst h; exact q
theorem cndF {b:Bool} {P Q:Prop} (h:b = false) (q:Q):cond b P Q:=by subst h; exact q
section
variable {e:E0} {x:Ctx e} {vs:List (Option Value)} {M M' I:Led} {st:Sta}
theorem Own.at {d:Addr} {o:Obj} {s:Shared} {c:Cx} {ns:List Str} (h:Own M I d o) (hs:St e c ns vs M I s):s.heap.get? d = some o:=h.elim hs.has hs.hasI
theorem retI {vs0:List (Option Value)} {k:Value→Sta→Prop} {v:Value} (q:k v ⟨vs0,M,I⟩):retK vs0 k (.ret v) ⟨vs,M,I⟩:=retL Le.refl q
theorem retB {vs0:List (Option Value)} {k:Value→Sta→Prop} {b b':Bool} {st':Sta} (h:Le ⟨vs0,M,I⟩ st') (e:b = b') (q:k (.bool b') st'):retK vs0 k (.ret (.bool b)) ⟨vs,M,I⟩:=retL h (e ▸ q)
theorem units_lt (x:Ctx e) (h:2 ≤ x.c.room):x.c.A.units + 8 < cLine:=by
  have:=x.ok.uni
  lia
theorem H.freeze {α:Type} {p:Addr × Obj} {m:Sem α} {k:α→Sta→Prop} (h:Pick p M M') (q:H x m ⟨vs,M',p :: I⟩ k):H x m ⟨vs,M,I⟩ k:=⟨fun s hs=>q.run s (hs.freeze h)⟩
theorem HM.freeze {p:Addr × Obj} {o:Value} {m:Str} {k:Value × List Value→Sta→Prop} (h:Pick p M M') (q:HM x o m ⟨vs,M',p :: I⟩ k):HM x o m ⟨vs,M,I⟩ k:=⟨fun pl=>(q.run pl).freeze h⟩
theorem HM.drop {p:Addr × Obj} {o:Value} {m:Str} {k:Value × List Value→Sta→Prop} (h:Pick p M M') (q:HM x o m ⟨vs,M',I⟩ k):HM x o m ⟨vs,M,I⟩ k:=⟨fun pl=>⟨fun s hs=>(q.run pl).run s (hs.drop h)⟩⟩
theorem H.drop {α:Type} {p:Addr × Obj} {m:Sem α} {k:α→Sta→Prop} (h:Pick p M M') (q:H x m ⟨vs,M',I⟩ k):H x m ⟨vs,M,I⟩ k:=⟨fun s hs=>q.run s (hs.drop h)⟩
theorem getH {v:Value} {C:Addr} {fs:List (Str × Value)} {name:Str} {u:Value} {b:Bool} {k:Value→Sta→Prop} (h:Ins st.I v C fs) (hc:ClsGet e.K C name) (hl:lookS name fs = some u) (hu:NB u) (q:k u st) :
    H x (getAttr v name b) st k:=⟨fun _ hs=>get_ins x.ok hs h hc hl hu fun _ hs'=>⟨st,hs',q⟩⟩
theorem getMH {y dx C:Addr} {es:List DictEntry} {n:Nat} {fs:List (Str × Value)} {name:Str} {u:Value} {b:Bool} {k:Value→Sta→Prop} (h1:(y,instObj C dx) ∈ st.M) (h2:(dx,dictO es n) ∈ st.M) (hf:Flds es fs) (hc:ClsGet e.K C name)
    (hl:lookS name fs = some u) (hu:NB u) (q:k u st):H x (getAttr (.ref y) name b) st k:=⟨fun _ hs=>get_at x.ok hs (inst_M hs h1 h2) hf hc hl hu fun _ hs'=>⟨st,hs',q⟩⟩
theorem setH {y dx C:Addr} {es:List DictEntry} {n:Nat} {fs:List (Str × Value)} {name:Str} {u:Value} {k:Unit→Sta→Prop} {Mf:Obj→Led} (h1:(y,instObj C dx) ∈ M) (hp:∀ o',Put dx (dictO es n) o' M (Mf o')) (hf:Flds es fs) (hc:ClsSet e.K C name)
    (hz:fs.length ≤ 900) (q:∀ es' n',Flds es' (putF name u fs)→k () ⟨vs,Mf (dictO es' n'),I⟩):H x (setAttr (.ref y) name u) ⟨vs,M,I⟩ k:=⟨fun _ hs=>set_at x.ok hs h1 hp hf hc hz fun es' n' _ hf' hs'=>upM hs' (q es' n' hf')⟩
theorem methH {v:Value} {C f:Addr} {fs:List (Str × Value)} {name:Str} {k:Value × List Value→Sta→Prop} (h:Ins st.I v C fs) (hc:ClsMeth e.K C name f) (hk:kpL.contains f = true) (hl:lookS name fs = none) (q:k (.ref f,[v]) st) :
    HM x v name st k:=⟨fun _=>⟨fun _ hs=>meth_ins x.ok hs h hc hl ⟨st,hs,kp_ok (f:=.ref f) hk,q⟩⟩⟩
theorem methMH {y dx C f:Addr} {es:List DictEntry} {n:Nat} {fs:List (Str × Value)} {name:Str} {k:Value × List Value→Sta→Prop} (h1:(y,instObj C dx) ∈ st.M) (h2:(dx,dictO es n) ∈ st.M) (hf:Flds es fs) (hc:ClsMeth e.K C name f) (hk:kpL.contains f = true)
    (hl:lookS name fs = none) (q:k (.ref f,[.ref y]) st):HM x (.ref y) name st k:=⟨fun _=>⟨fun _ hs=>meth_at x.ok hs (inst_M hs h1 h2) hf hc hl ⟨st,hs,kp_ok (f:=.ref f) hk,q⟩⟩⟩
theorem notH {b:Bool} {k:Value→Sta→Prop} (q:k (.bool (!b)) st):H x (unaryOp .Not (.bool b)) st k:=
  ⟨fun _ hs=>by unfold unaryOp; exact wpAny_bind (wpAny_truthy_bool (wpAny_pure ⟨st,hs,q⟩))⟩
section
variable {d l b:Addr} {xs ys:List Value} {n m:Nat} {u:Tok} {y v:Value} {kv:Value→Sta→Prop}
theorem i63 {i:Nat} (h:i < 2 ^ 60):(0:Int) ≤ (i:Int)∧(i:Int) < 2 ^ 63:=by lia
theorem itemH {i:Nat} (ho:Own st.M st.I d (listO xs n)) (hi:i < 2 ^ 60) (hx:xs[i]? = some y) (q:kv y st):HSub x (.ref d) (.int i u) st kv:=
  ⟨fun _ slice hsl=>⟨fun _ hs=>item_at (ho.at hs) (i63 hi).1 (i63 hi).2 hx ⟨st,hs,q⟩ hsl⟩⟩
theorem itemTH {i:Nat} (ho:Own st.M st.I d (tupO xs n)) (hi:i < 2 ^ 60) (hx:xs[i]? = some y) (q:kv y st):HSub x (.ref d) (.int i u) st kv:=
  ⟨fun _ slice hsl=>⟨fun _ hs=>item_tup (ho.at hs) (i63 hi).1 (i63 hi).2 hx ⟨st,hs,q⟩ hsl⟩⟩
theorem itemNH {i:Int} (ho:Own st.M st.I d (listO xs n)) (h0:i < 0) (hk:-(2 ^ 63) ≤ i) (h1:-(xs.length:Int) ≤ i) (hx:xs[(i + xs.length).toNat]? = some y) (q:kv y st):HSub x (.ref d) (.int i u) st kv:=
  ⟨fun _ slice hsl=>⟨fun _ hs=>item_neg (ho.at hs) h0 hk h1 hx ⟨st,hs,q⟩ hsl⟩⟩
theorem lenH (ho:Own st.M st.I d (listO xs n)) (hl:xs.length ≤ 10000000) (q:∀ t,kv (.int xs.length t) st):H x (call (.builtin "len") [.ref d]) st kv:=
  ⟨fun _ hs=>len_at hs (ho.at hs) (szle hl) fun t _ hs'=>⟨st,hs',q t⟩⟩
theorem truH {kb:Bool→Sta→Prop} (ho:Own st.M st.I d (listO xs n)) (hl:xs.length ≤ 10000000) (q:kb (!xs.isEmpty) st):H x (truthy (.ref d)) st kb:=
  ⟨fun _ hs=>truthy_at hs (ho.at hs) (szle hl) fun _ hs'=>⟨st,hs',q⟩⟩
theorem popH {z:Value} (hp:Put d (listO (xs ++ [z]) n) (listO xs (n + 1)) M M') (hl:xs.length ≤ 10000000) (q:kv z ⟨vs,M',I⟩):H x (call (.builtin "list.pop") [.ref d]) ⟨vs,M,I⟩ kv:=
  ⟨fun _ hs=>list_pop hs hp (szlt hl) fun _ hs'=>upM hs' q⟩
theorem appendH {z:Value} (hp:Put d (listO xs n) (listO (xs ++ [z]) (n + 1)) M M') (hl:xs.length ≤ 10000000) (q:kv .none ⟨vs,M',I⟩):H x (call (.builtin "list.append") [.ref d,z]) ⟨vs,M,I⟩ kv:=
  ⟨fun _ hs=>list_append hs hp (szle hl) fun _ hs'=>upM hs' q⟩
theorem setLH {i:Int} {ku:Unit→Sta→Prop} (h0:0 ≤ i) (hf:i < 2 ^ 63) (hn:i < xs.length) (hp:Put d (listO xs n) (listO (xs.set i.toNat v) n) M M') (q:ku () ⟨vs,M',I⟩):H x (setItem (.ref d) (.int i u) v) ⟨vs,M,I⟩ ku:=
  ⟨fun _ hs=>setitem_list hs h0 hf hn hp fun _ hs'=>upM hs' q⟩
theorem mAppend {k:Value × List Value→Sta→Prop} (ho:Own st.M st.I d (listO xs n)) (q:k (.builtin "list.append",[.ref d]) st):HM x (.ref d) "append" st k:=⟨fun _=>⟨fun _ hs=>meth_append (ho.at hs) ⟨st,hs,kp_b,q⟩⟩⟩
theorem mPop {k:Value × List Value→Sta→Prop} (ho:Own st.M st.I d (listO xs n)) (q:k (.builtin "list.pop",[.ref d]) st):HM x (.ref d) "pop" st k:=⟨fun _=>⟨fun _ hs=>meth_pop (ho.at hs) ⟨st,hs,kp_b,q⟩⟩⟩
theorem mExtend {k:Value × List Value→Sta→Prop} (ho:Own st.M st.I d (listO xs n)) (q:k (.builtin "list.extend",[.ref d]) st):HM x (.ref d) "extend" st k:=⟨fun _=>⟨fun _ hs=>meth_extend (ho.at hs) ⟨st,hs,kp_b,q⟩⟩⟩
theorem addLH (ho:Own M I l (listO xs n)) (hb:Own M I b (listO ys m)) (hz:xs.length + ys.length ≤ 10000000) (q:∀ a,kv (.ref a) ⟨vs,(a,listO (xs ++ ys) 0) :: M,I⟩):H x (binaryOp .Add (.ref l) (.ref b)) ⟨vs,M,I⟩ kv:=
  ⟨fun _ hs=>add_list hs (ho.at hs) (hb.at hs) (szle hz) fun a _ hs'=>upM hs' (q a)⟩
theorem sliceH {sl:Addr} {vl vu:Value} {lo hi:Option Int} (ho:Own M I l (listO xs n)) (hsl:(sl,slO vl vu) ∈ I) (pl:IsPart vl lo) (pu:IsPart vu hi) (hz:xs.length ≤ 10000000) (q:∀ a,kv (.ref a) ⟨vs,(a,listO (kms_pick xs lo hi) 0) :: M,I⟩) :
    HSli x (.ref l) (.ref sl) ⟨vs,M,I⟩ kv:=⟨fun _ slice hb=>⟨fun _ hs=>slice_at hs (ho.at hs) hsl pl pu (szle hz) (fun a _ hs'=>upM hs' (q a)) hb⟩⟩
theorem tupOfH (ho:Own M I l (listO xs n)) (hz:xs.length ≤ 10000000) (q:∀ a,kv (.ref a) ⟨vs,M,(a,tupO xs 0) :: I⟩):H x (call (.type "tuple") [.ref l]) ⟨vs,M,I⟩ kv:=⟨fun _ hs=>tup_of_list hs (ho.at hs) (szle hz) fun a _ hs'=>upM hs' (q a)⟩
theorem listOfH (ho:Own M I l (listO xs n)) (hz:xs.length ≤ 10000000) (q:∀ a k,kv (.ref a) ⟨vs,(a,listO xs k) :: M,I⟩):H x (call (.type "list") [.ref l]) ⟨vs,M,I⟩ kv:=⟨fun _ hs=>list_of_list hs (ho.at hs) (szle hz) fun a k _ hs'=>upM hs' (q a k)⟩
end
section
variable {d a b:Addr} {o:Obj} {kvs:List (Str × Value)} {k:Str} {t u:Tok} {v:Value} {y z:Str} {kv:Value→Sta→Prop}
theorem dSet {Mf:Obj→Led} {ku:Unit→Sta→Prop} (hd:DO e d o kvs) (hp:∀ o',Put d o o' M (Mf o')) (hz:kvs.length ≤ 10000000) (q:∀ o',DO e d o' (stored kvs k v)→ku () ⟨vs,Mf o',I⟩):H x (setItem (.ref d) (.str k t) v) ⟨vs,M,I⟩ ku:=
  ⟨fun _ hs=>dict_set hs hd hp (szle hz) fun o' _ hd' hs'=>upM hs' (q o' hd')⟩
theorem dItem (ho:Own st.M st.I d o) (hd:DO e d o kvs) (hv:valueAt kvs k = some v) (q:kv v st):HSub x (.ref d) (.str k t) st kv:=
  ⟨fun _ slice hb=>⟨fun _ hs=>dict_item hs (ho.at hs) hd hv (fun _ hs'=>⟨st,hs',q⟩) hb⟩⟩
theorem dIn (ho:Own st.M st.I d o) (hd:DO e d o kvs) (q:kv (.bool (valueAt kvs k).isSome) st):H x (compareOp .In (.str k t) (.ref d)) st kv:=⟨fun _ hs=>dict_in hs (ho.at hs) hd fun _ hs'=>⟨st,hs',q⟩⟩
theorem dNotIn (ho:Own st.M st.I d o) (hd:DO e d o kvs) (q:kv (.bool (!(valueAt kvs k).isSome)) st):H x (compareOp .NotIn (.str k t) (.ref d)) st kv:=⟨fun _ hs=>dict_notin hs (ho.at hs) hd fun _ hs'=>⟨st,hs',q⟩⟩
theorem dGet1 (ho:Own st.M st.I d o) (hd:DO e d o kvs) (q:kv ((valueAt kvs k).getD .none) st):H x (call (.builtin "dict.get") [.ref d,.str k t]) st kv:=⟨fun _ hs=>dict_get1 hs (ho.at hs) hd fun _ hs'=>⟨st,hs',q⟩⟩
theorem dGet2 (ho:Own st.M st.I d o) (hd:DO e d o kvs) (q:kv ((valueAt kvs k).getD v) st):H x (call (.builtin "dict.get") [.ref d,.str k t,v]) st kv:=⟨fun _ hs=>dict_get2 hs (ho.at hs) hd fun _ hs'=>⟨st,hs',q⟩⟩
theorem dCopy (ho:Own M I d o) (hd:DO e d o kvs) (hz:kvs.length ≤ 10000000) (q:∀ a o',DO e a o' kvs→kv (.ref a) ⟨vs,(a,o') :: M,I⟩):H x (call (.type "dict") [.ref d]) ⟨vs,M,I⟩ kv:=
  ⟨fun _ hs=>dict_copy x.ok hs (ho.at hs) hd (szle hz) fun a o' _ hd' hs'=>upM hs' (q a o' hd')⟩
theorem mGet {km:Value × List Value→Sta→Prop} (ho:Own st.M st.I d o) (hd:DO e d o kvs) (q:km (.builtin "dict.get",[.ref d]) st):HM x (.ref d) "get" st km:=⟨fun _=>⟨fun _ hs=>meth_dict_get (ho.at hs) hd ⟨st,hs,kp_b,q⟩⟩⟩
theorem sEq (q:kv (.bool (decide (y = z))) st):H x (compareOp .Eq (.str y t) (.str z u)) st kv:=⟨fun _ hs=>c_eq_str ⟨st,hs,q⟩⟩
theorem inSH {l:Addr} {xs:List Value} {ss:List Str} {n:Nat} (ho:Own st.M st.I l (listO xs n)) (hS:StrsAre xs ss) (q:kv (.bool (decide (k ∈ ss))) st):H x (compareOp .In (.str k t) (.ref l)) st kv:=⟨fun _ hs=>in_strs (ho.at hs) hS ⟨st,hs,q⟩⟩
theorem ninSH {l:Addr} {xs:List Value} {ss:List Str} {n:Nat} (ho:Own st.M st.I l (listO xs n)) (hS:StrsAre xs ss) (q:kv (.bool (!decide (k ∈ ss))) st):H x (compareOp .NotIn (.str k t) (.ref l)) st kv:=⟨fun _ hs=>notin_strs (ho.at hs) hS ⟨st,hs,q⟩⟩
theorem unitsL (x:Ctx e):x.c.A.units < cLine:=Nat.lt_of_le_of_lt (Nat.le_add_right _ _) x.ok.uni
theorem eqT0 {xs:List Value} {n m:Nat} (ha:Own st.M st.I a (tupO xs n)) (hb:Own st.M st.I b (tupO [] m)) (q:kv (.bool xs.isEmpty) st):H x (compareOp .Eq (.ref a) (.ref b)) st kv:=⟨fun _ hs=>c_eq_tup0 (ha.at hs) (hb.at hs) (unitsL x) ⟨st,hs,q⟩⟩
theorem eqL0 {xs:List Value} {n m:Nat} (ha:Own st.M st.I a (listO xs n)) (hb:Own st.M st.I b (listO [] m)) (q:kv (.bool xs.isEmpty) st):H x (compareOp .Eq (.ref a) (.ref b)) st kv:=⟨fun _ hs=>c_eq_list0 (ha.at hs) (hb.at hs) (unitsL x) ⟨st,hs,q⟩⟩
theorem iaddH {a b:Int} {t u:Tok} {kv:Value→Sta→Prop} (q:∀ t,kv (.int (a + b) t) st):H x (inplaceOp .Add (.int a t) (.int b u)) st kv:=⟨fun _ hs=>i_aug hs fun t s' hs'=>⟨st,hs',q t⟩⟩
theorem isNoneR (q:kv (.bool false) st):H x (compareOp .Is (.ref a) .none) st kv:=⟨fun _ hs=>is_none_ref ⟨st,hs,q⟩⟩
theorem isNoneN (q:kv (.bool true) st):H x (compareOp .Is .none .none) st kv:=⟨fun _ hs=>is_none_none ⟨st,hs,q⟩⟩
theorem isSelf (q:kv (.bool true) st):H x (compareOp .Is (.ref a) (.ref a)) st kv:=⟨fun _ hs=>is_self ⟨st,hs,q⟩⟩
end
structure ItH (x:Ctx e) (v:Value) (vs:List (Option Value)) (M M₁ I:Led) (Io:Nat→Obj→Prop) (n:Nat) (X:Nat→Value→Prop) (Src:Heap→Prop):Prop where
  run:H x (pyIter v) ⟨vs,M,I⟩ fun w st=>∃ it o,w = .ref it∧st = ⟨vs,(it,o) :: M₁,I⟩∧Io 0 o
  spec:∀ it,IterSpec e it Io n X Src
section
variable {l:Addr} {xs:List Value} {n:Nat}
theorem itList (ho:Own M I l (listO xs n)):ItH x (.ref l) vs M M I (LIo l) xs.length (fun i y=>xs[i]? = some y) (fun h=>h.IsList l xs.toArray):=
  ⟨⟨fun _ hs=>iter_list hs (ho.at hs) fun it o _ hio hs'=>upM hs' ⟨it,o,rfl,rfl,hio⟩⟩,fun _=>spec_list⟩
theorem itTup (ho:Own M I l (tupO xs n)):ItH x (.ref l) vs M M I (TPo l) xs.length (fun i y=>xs[i]? = some y) (fun h=>h.IsTuple l xs.toArray):=
  ⟨⟨fun _ hs=>iter_tup hs (ho.at hs) fun it o _ hio hs'=>upM hs' ⟨it,o,rfl,rfl,hio⟩⟩,fun _=>spec_tup⟩
theorem itRev {it:Addr} {o:Obj} (ho:RVo l xs.length 0 o):ItH x (.ref it) vs ((it,o) :: M) M I (RVo l xs.length) xs.length (fun i y=>xs.reverse[i]? = some y) (fun h=>h.IsList l xs.toArray):=
  ⟨⟨fun _ hs=>iter_rev hs ho (upM hs ⟨it,o,rfl,rfl,ho⟩)⟩,fun _=>spec_rev⟩
theorem itRange {r:Addr} {o:Obj} {a b:Int} (ho:RngO a b o) (hz:0 ≤ a∧a < 2 ^ 60∧0 ≤ b∧b < 2 ^ 60):ItH x (.ref r) vs ((r,o) :: M) M I (RGo a (b - a).toNat) (b - a).toNat (fun i y=>∃ t,y = .int (a + i) t) (fun _=>True):=
  ⟨⟨fun _ hs=>iter_range hs ho hz fun it n o' _ hn hio hs'=>by subst hn; exact upM hs' ⟨it,o',rfl,rfl,hio⟩⟩,fun _=>spec_range⟩
theorem rangeH1 {n:Int} {t:Tok} {k:Value→Sta→Prop} (q:∀ r o,RngO 0 n o→k (.ref r) ⟨vs,(r,o) :: M,I⟩):H x (call (.type "range") [.int n t]) ⟨vs,M,I⟩ k:=⟨fun _ hs=>call_range1 hs fun r o _ ho hs'=>upM hs' (q r o ho)⟩
theorem rangeH2 {a n:Int} {t u:Tok} {k:Value→Sta→Prop} (q:∀ r o,RngO a n o→k (.ref r) ⟨vs,(r,o) :: M,I⟩):H x (call (.type "range") [.int a t,.int n u]) ⟨vs,M,I⟩ k:=⟨fun _ hs=>call_range2 hs fun r o _ ho hs'=>upM hs' (q r o ho)⟩
theorem revH {k:Value→Sta→Prop} (ho:Own M I l (listO xs n)) (q:∀ it o,RVo l xs.length 0 o→k (.ref it) ⟨vs,(it,o) :: M,I⟩):H x (call (.type "reversed") [.ref l]) ⟨vs,M,I⟩ k:=
  ⟨fun _ hs=>call_reversed hs (ho.at hs) fun it o _ h hs'=>upM hs' (q it o h)⟩
end
theorem srcL {l:Addr} {xs:List Value} {n:Nat} (ho:Own M I l (listO xs n)):SrcI M I fun h=>h.IsList l xs.toArray:=fun hs=>⟨_,ho.at hs,rfl,n,rfl⟩
theorem srcT {l:Addr} {xs:List Value} {n:Nat} (ho:Own M I l (tupO xs n)):SrcI M I fun h=>h.IsTuple l xs.toArray:=fun hs=>⟨_,ho.at hs,rfl,n,rfl⟩
theorem srcTrue:SrcI M I fun _=>True:=fun _=>trivial
section
variable {M₁:Led} {as:Value→Sta→(Sta→Prop)→Prop} {B:Sta→(Flow→Sta→Prop)→Prop} {done:Sta→Prop} {kr:Value→Sta→Prop} {δ:Type} {v:Value} {Io:Nat→Obj→Prop} {n:Nat} {X:Nat→Value→Prop} {Src:Heap→Prop}
def kWh (B:Sta→(Flow→Sta→Prop)→Prop) (done:Sta→Prop) (K:Flow→Sta→Prop) (b:Bool) (st:Sta):Prop:=cond b (B st K) (done st)
def kEv (ys:List Value) (K:List Value→Sta→Prop) (v:Value) (st:Sta):Prop:=K (ys ++ [v]) st
def kEl (El:Ctx e→Sta→(Value→Sta→Prop)→Prop) (x:Ctx e) (ys:List Value) (K:List Value→Sta→Prop) (b:Bool) (st:Sta):Prop:=cond b (El x st (kEv ys K)) (K ys st)
structure Via {α:Type} (P K:α→Sta→Prop):Prop where
  to:∀ v st,P v st→K v st
theorem Via.rf {α:Type} {P:α→Sta→Prop}:Via P P:=⟨fun _ _ h=>h⟩
theorem forH (S:Nat→δ→Sta) (F:Nat→δ→Prop) (d0:δ) (hi:ItH x v vs M M₁ I Io n X Src) (hS:S 0 d0 = ⟨vs,M₁,I⟩) (h0:F 0 d0) (hsrc:∀ i d,F i d→SrcI (S i d).M (S i d).I Src)
    (step:∀ i y d it o,i < n→X i y→F i d→∀ (K:Flow→Sta→Prop),Via (Tn S F done kr it o i) K→as y ⟨(S i d).vs,(it,o) :: (S i d).M,(S i d).I⟩ fun st₂=>B st₂ K) (fin:∀ d,F n d→done (S n d)):ForH x as B done kr v ⟨vs,M,I⟩:=by
  refine ⟨hi.run.mono fun w st ⟨it,o,e1,e2,h⟩=>?_⟩
  exact ⟨it,o,Io,n,X,Src,δ,S,F,d0,e1,by rw [e2,hS],hi.spec it,h,h0,hsrc,fun i y d o hi hX hF=>step i y d it o hi hX hF _ .rf,fin⟩
theorem compH {nl:Nat} {T:Ctx e→Sta→(Bool→Sta→Prop)→Prop} {El:Ctx e→Sta→(Value→Sta→Prop)→Prop} {k:Value→Sta→Prop}
    (S:Nat→δ→Led × Led) (F:Nat→List Value→δ→Prop) (d0:δ) (hi:ItH x v vs M M₁ I Io n X Src) (hS:S 0 d0 = (M₁,I)) (h0:F 0 [] d0) (hn:n ≤ 10000000) (hsrc:∀ i ys d,F i ys d→SrcI (S i d).1 (S i d).2 Src)
    (step:∀ x':Ctx e,x'.c.room = x.c.room→∀ i y ys d it o m acc u,i < n→X i y→F i ys d→∀ (K:List Value→Sta→Prop),Via (Ce S F nl it acc o ys i) K→as y ⟨lstN u nl,(it,o) :: (acc,listO ys m) :: (S i d).1,(S i d).2⟩ fun st₂=>T x' st₂ (kEl El x' ys K))
    (fin:∀ acc ys d m,F n ys d→k (.ref acc) ⟨vs,(acc,listO ys m) :: (S n d).1,(S n d).2⟩):CompH x as T El nl v ⟨vs,M,I⟩ k:=by
  refine ⟨hi.run.mono fun w st ⟨it,o,e1,e2,h⟩=>?_⟩
  exact ⟨it,o,Io,n,X,Src,δ,S,F,d0,e1,by rw [e2,hS],hi.spec it,h,h0,szle hn,hsrc,fun x' hr i y ys d o m acc u hi hX hF=>step x' hr i y ys d it o m acc u hi hX hF _ .rf,fin⟩
theorem whlH {T:Sta→(Bool→Sta→Prop)→Prop} (S:δ→Sta) (F:Nat→δ→Prop) (n:Nat) (d:δ) (hS:Le ⟨vs,M,I⟩ (S d)) (h0:F n d) (step:∀ n d,F n d→∀ (K:Flow→Sta→Prop),Via (Tw S F done kr n) K→T (S d) (kWh B done K)):WhlH T B done kr ⟨vs,M,I⟩:=
  ⟨δ,S,F,n,d,hS,h0,fun n d h=>step n d h _ .rf⟩
section
variable {S:δ→Sta} {F:Nat→δ→Prop} {n m:Nat} {st:Sta} {K:Flow→Sta→Prop}
theorem Via.wnext (V:Via (Tw S F done kr n) K) (d:δ) (hm:m < n) (h:F m d) (hl:Le st (S d)):K .next st:=V.to _ _ (by unfold Tw; exact ⟨m,d,hm,hl,h⟩)
theorem Via.wcont (V:Via (Tw S F done kr n) K) (d:δ) (hm:m < n) (h:F m d) (hl:Le st (S d)):K .cont st:=V.to _ _ (by unfold Tw; exact ⟨m,d,hm,hl,h⟩)
end
section
variable {S:Nat→δ→Sta} {F:Nat→δ→Prop} {it:Addr} {o:Obj} {i:Nat} {st:Sta} {K:Flow→Sta→Prop}
theorem Via.tnext (V:Via (Tn S F done kr it o i) K) (d:δ) (h:F (i + 1) d) (hl:Le st ⟨(S (i + 1) d).vs,(it,o) :: (S (i + 1) d).M,(S (i + 1) d).I⟩):K .next st:=V.to _ _ (by unfold Tn; exact ⟨d,hl,h⟩)
theorem Via.tret (V:Via (Tn S F done kr it o i) K) {v:Value} (h:kr v st):K (.ret v) st:=V.to _ _ (by unfold Tn; exact h)
end
theorem Via.ce {S:Nat→δ→Led × Led} {F:Nat→List Value→δ→Prop} {nl:Nat} {it acc:Addr} {o:Obj} {ys zs:List Value} {i m:Nat} {st:Sta} {K:List Value→Sta→Prop} (V:Via (Ce S F nl it acc o ys i) K) (d:δ) (h:F (i + 1) zs d) (hl:Le st ⟨st.vs,(it,o) :: (acc,listO ys m) :: (S (i + 1) d).1,(S (i + 1) d).2⟩) (hv:st.vs.length = nl):K zs st:=V.to _ _ (by unfold Ce; exact ⟨hv,d,m,hl,h⟩)
end
end
section
variable {e:E0} {x:Ctx e} {vs:List (Option Value)} {M M₁ I:Led} {as:Value→Sta→(Sta→Prop)→Prop} {B:Sta→(Flow→Sta→Prop)→Prop} {done:Sta→Prop} {kr:Value→Sta→Prop} {v:Value} {Io:Nat→Obj→Prop} {n:Nat} {X:Nat→Value→Prop} {Src:Heap→Prop}
theorem forH2 {A1 A2:Type} (S:Nat→A1 × A2→Sta) (F:Nat→A1 × A2→Prop) (d:A1 × A2) (hi:ItH x v vs M M₁ I Io n X Src) (hS:S 0 d = ⟨vs,M₁,I⟩) (h0:F 0 d) (hsrc:∀ i p q,F i (p,q)→SrcI (S i (p,q)).M (S i (p,q)).I Src)
    (step:∀ i y p q it o,i < n→X i y→F i (p,q)→∀ (K:Flow→Sta→Prop),Via (Tn S F done kr it o i) K→as y ⟨(S i (p,q)).vs,(it,o) :: (S i (p,q)).M,(S i (p,q)).I⟩ fun st₂=>B st₂ K) (fin:∀ p q,F n (p,q)→done (S n (p,q))):ForH x as B done kr v ⟨vs,M,I⟩:=
  forH S F d hi hS h0 (fun i ⟨p,q⟩=>hsrc i p q) (fun i y ⟨p,q⟩=>step i y p q) fun ⟨p,q⟩=>fin p q
theorem compH2 {A1 A2:Type} {nl:Nat} {T:Ctx e→Sta→(Bool→Sta→Prop)→Prop} {El:Ctx e→Sta→(Value→Sta→Prop)→Prop} {k:Value→Sta→Prop}
    (S:Nat→A1 × A2→Led × Led) (F:Nat→List Value→A1 × A2→Prop) (d:A1 × A2) (hi:ItH x v vs M M₁ I Io n X Src) (hS:S 0 d = (M₁,I)) (h0:F 0 [] d) (hn:n ≤ 10000000) (hsrc:∀ i ys p q,F i ys (p,q)→SrcI (S i (p,q)).1 (S i (p,q)).2 Src)
    (step:∀ x':Ctx e,x'.c.room = x.c.room→∀ i y ys p q it o m acc w,i < n→X i y→F i ys (p,q)→∀ (K:List Value→Sta→Prop),Via (Ce S F nl it acc o ys i) K→as y ⟨lstN w nl,(it,o) :: (acc,listO ys m) :: (S i (p,q)).1,(S i (p,q)).2⟩ fun st₂=>T x' st₂ (kEl El x' ys K))
    (fin:∀ acc ys p q m,F n ys (p,q)→k (.ref acc) ⟨vs,(acc,listO ys m) :: (S n (p,q)).1,(S n (p,q)).2⟩):CompH x as T El nl v ⟨vs,M,I⟩ k:=
  compH S F d hi hS h0 hn (fun i ys ⟨p,q⟩=>hsrc i ys p q) (fun x' hr i y ys ⟨p,q⟩=>step x' hr i y ys p q) fun acc ys ⟨p,q⟩=>fin acc ys p q
theorem forH3 {A1 A2 A3:Type} (S:Nat→A1 × A2 × A3→Sta) (F:Nat→A1 × A2 × A3→Prop) (d:A1 × A2 × A3) (hi:ItH x v vs M M₁ I Io n X Src) (hS:S 0 d = ⟨vs,M₁,I⟩) (h0:F 0 d) (hsrc:∀ i p q r,F i (p,q,r)→SrcI (S i (p,q,r)).M (S i (p,q,r)).I Src)
    (step:∀ i y p q r it o,i < n→X i y→F i (p,q,r)→∀ (K:Flow→Sta→Prop),Via (Tn S F done kr it o i) K→as y ⟨(S i (p,q,r)).vs,(it,o) :: (S i (p,q,r)).M,(S i (p,q,r)).I⟩ fun st₂=>B st₂ K) (fin:∀ p q r,F n (p,q,r)→done (S n (p,q,r))):ForH x as B done kr v ⟨vs,M,I⟩:=
  forH S F d hi hS h0 (fun i ⟨p,q,r⟩=>hsrc i p q r) (fun i y ⟨p,q,r⟩=>step i y p q r) fun ⟨p,q,r⟩=>fin p q r
theorem compH3 {A1 A2 A3:Type} {nl:Nat} {T:Ctx e→Sta→(Bool→Sta→Prop)→Prop} {El:Ctx e→Sta→(Value→Sta→Prop)→Prop} {k:Value→Sta→Prop}
    (S:Nat→A1 × A2 × A3→Led × Led) (F:Nat→List Value→A1 × A2 × A3→Prop) (d:A1 × A2 × A3) (hi:ItH x v vs M M₁ I Io n X Src) (hS:S 0 d = (M₁,I)) (h0:F 0 [] d) (hn:n ≤ 10000000) (hsrc:∀ i ys p q r,F i ys (p,q,r)→SrcI (S i (p,q,r)).1 (S i (p,q,r)).2 Src)
    (step:∀ x':Ctx e,x'.c.room = x.c.room→∀ i y ys p q r it o m acc w,i < n→X i y→F i ys (p,q,r)→∀ (K:List Value→Sta→Prop),Via (Ce S F nl it acc o ys i) K→as y ⟨lstN w nl,(it,o) :: (acc,listO ys m) :: (S i (p,q,r)).1,(S i (p,q,r)).2⟩ fun st₂=>T x' st₂ (kEl El x' ys K))
    (fin:∀ acc ys p q r m,F n ys (p,q,r)→k (.ref acc) ⟨vs,(acc,listO ys m) :: (S n (p,q,r)).1,(S n (p,q,r)).2⟩):CompH x as T El nl v ⟨vs,M,I⟩ k:=
  compH S F d hi hS h0 hn (fun i ys ⟨p,q,r⟩=>hsrc i ys p q r) (fun x' hr i y ys ⟨p,q,r⟩=>step x' hr i y ys p q r) fun acc ys ⟨p,q,r⟩=>fin acc ys p q r
theorem forH4 {A1 A2 A3 A4:Type} (S:Nat→A1 × A2 × A3 × A4→Sta) (F:Nat→A1 × A2 × A3 × A4→Prop) (d:A1 × A2 × A3 × A4) (hi:ItH x v vs M M₁ I Io n X Src) (hS:S 0 d = ⟨vs,M₁,I⟩) (h0:F 0 d) (hsrc:∀ i p q r t,F i (p,q,r,t)→SrcI (S i (p,q,r,t)).M (S i (p,q,r,t)).I Src)
    (step:∀ i y p q r t it o,i < n→X i y→F i (p,q,r,t)→∀ (K:Flow→Sta→Prop),Via (Tn S F done kr it o i) K→as y ⟨(S i (p,q,r,t)).vs,(it,o) :: (S i (p,q,r,t)).M,(S i (p,q,r,t)).I⟩ fun st₂=>B st₂ K) (fin:∀ p q r t,F n (p,q,r,t)→done (S n (p,q,r,t))):ForH x as B done kr v ⟨vs,M,I⟩:=
  forH S F d hi hS h0 (fun i ⟨p,q,r,t⟩=>hsrc i p q r t) (fun i y ⟨p,q,r,t⟩=>step i y p q r t) fun ⟨p,q,r,t⟩=>fin p q r t
theorem whlH4 {A1 A2 A3 A4:Type} {T:Sta→(Bool→Sta→Prop)→Prop} (S:A1 × A2 × A3 × A4→Sta) (F:Nat→A1 × A2 × A3 × A4→Prop) (n:Nat) (d:A1 × A2 × A3 × A4) (hS:Le ⟨vs,M,I⟩ (S d)) (h0:F n d)
    (step:∀ n p q r t,F n (p,q,r,t)→∀ (K:Flow→Sta→Prop),Via (Tw S F done kr n) K→T (S (p,q,r,t)) (kWh B done K)):WhlH T B done kr ⟨vs,M,I⟩:=
  whlH S F n d hS h0 fun n ⟨p,q,r,t⟩=>step n p q r t
theorem forH5 {A1 A2 A3 A4 A5:Type} (S:Nat→A1 × A2 × A3 × A4 × A5→Sta) (F:Nat→A1 × A2 × A3 × A4 × A5→Prop) (d:A1 × A2 × A3 × A4 × A5) (hi:ItH x v vs M M₁ I Io n X Src) (hS:S 0 d = ⟨vs,M₁,I⟩) (h0:F 0 d) (hsrc:∀ i p q r t u,F i (p,q,r,t,u)→SrcI (S i (p,q,r,t,u)).M (S i (p,q,r,t,u)).I Src)
    (step:∀ i y p q r t u it o,i < n→X i y→F i (p,q,r,t,u)→∀ (K:Flow→Sta→Prop),Via (Tn S F done kr it o i) K→as y ⟨(S i (p,q,r,t,u)).vs,(it,o) :: (S i (p,q,r,t,u)).M,(S i (p,q,r,t,u)).I⟩ fun st₂=>B st₂ K) (fin:∀ p q r t u,F n (p,q,r,t,u)→done (S n (p,q,r,t,u))):ForH x as B done kr v ⟨vs,M,I⟩:=
  forH S F d hi hS h0 (fun i ⟨p,q,r,t,u⟩=>hsrc i p q r t u) (fun i y ⟨p,q,r,t,u⟩=>step i y p q r t u) fun ⟨p,q,r,t,u⟩=>fin p q r t u
theorem forH6 {A1 A2 A3 A4 A5 A6:Type} (S:Nat→A1 × A2 × A3 × A4 × A5 × A6→Sta) (F:Nat→A1 × A2 × A3 × A4 × A5 × A6→Prop) (d:A1 × A2 × A3 × A4 × A5 × A6) (hi:ItH x v vs M M₁ I Io n X Src) (hS:S 0 d = ⟨vs,M₁,I⟩) (h0:F 0 d) (hsrc:∀ i p q r t u w,F i (p,q,r,t,u,w)→SrcI (S i (p,q,r,t,u,w)).M (S i (p,q,r,t,u,w)).I Src)
    (step:∀ i y p q r t u w it o,i < n→X i y→F i (p,q,r,t,u,w)→∀ (K:Flow→Sta→Prop),Via (Tn S F done kr it o i) K→as y ⟨(S i (p,q,r,t,u,w)).vs,(it,o) :: (S i (p,q,r,t,u,w)).M,(S i (p,q,r,t,u,w)).I⟩ fun st₂=>B st₂ K) (fin:∀ p q r t u w,F n (p,q,r,t,u,w)→done (S n (p,q,r,t,u,w))):ForH x as B done kr v ⟨vs,M,I⟩:=
  forH S F d hi hS h0 (fun i ⟨p,q,r,t,u,w⟩=>hsrc i p q r t u w) (fun i y ⟨p,q,r,t,u,w⟩=>step i y p q r t u w) fun ⟨p,q,r,t,u,w⟩=>fin p q r t u w
theorem forH7 {A1 A2 A3 A4 A5 A6 A7:Type} (S:Nat→A1 × A2 × A3 × A4 × A5 × A6 × A7→Sta) (F:Nat→A1 × A2 × A3 × A4 × A5 × A6 × A7→Prop) (d:A1 × A2 × A3 × A4 × A5 × A6 × A7) (hi:ItH x v vs M M₁ I Io n X Src) (hS:S 0 d = ⟨vs,M₁,I⟩) (h0:F 0 d) (hsrc:∀ i p q r t u w g,F i (p,q,r,t,u,w,g)→SrcI (S i (p,q,r,t,u,w,g)).M (S i (p,q,r,t,u,w,g)).I Src)
    (step:∀ i y p q r t u w g it o,i < n→X i y→F i (p,q,r,t,u,w,g)→∀ (K:Flow→Sta→Prop),Via (Tn S F done kr it o i) K→as y ⟨(S i (p,q,r,t,u,w,g)).vs,(it,o) :: (S i (p,q,r,t,u,w,g)).M,(S i (p,q,r,t,u,w,g)).I⟩ fun st₂=>B st₂ K) (fin:∀ p q r t u w g,F n (p,q,r,t,u,w,g)→done (S n (p,q,r,t,u,w,g))):ForH x as B done kr v ⟨vs,M,I⟩:=
  forH S F d hi hS h0 (fun i ⟨p,q,r,t,u,w,g⟩=>hsrc i p q r t u w g) (fun i y ⟨p,q,r,t,u,w,g⟩=>step i y p q r t u w g) fun ⟨p,q,r,t,u,w,g⟩=>fin p q r t u w g
theorem forH8 {A1 A2 A3 A4 A5 A6 A7 A8:Type} (S:Nat→A1 × A2 × A3 × A4 × A5 × A6 × A7 × A8→Sta) (F:Nat→A1 × A2 × A3 × A4 × A5 × A6 × A7 × A8→Prop) (d:A1 × A2 × A3 × A4 × A5 × A6 × A7 × A8) (hi:ItH x v vs M M₁ I Io n X Src) (hS:S 0 d = ⟨vs,M₁,I⟩) (h0:F 0 d) (hsrc:∀ i p q r t u w g z,F i (p,q,r,t,u,w,g,z)→SrcI (S i (p,q,r,t,u,w,g,z)).M (S i (p,q,r,t,u,w,g,z)).I Src)
    (step:∀ i y p q r t u w g z it o,i < n→X i y→F i (p,q,r,t,u,w,g,z)→∀ (K:Flow→Sta→Prop),Via (Tn S F done kr it o i) K→as y ⟨(S i (p,q,r,t,u,w,g,z)).vs,(it,o) :: (S i (p,q,r,t,u,w,g,z)).M,(S i (p,q,r,t,u,w,g,z)).I⟩ fun st₂=>B st₂ K) (fin:∀ p q r t u w g z,F n (p,q,r,t,u,w,g,z)→done (S n (p,q,r,t,u,w,g,z))):ForH x as B done kr v ⟨vs,M,I⟩:=
  forH S F d hi hS h0 (fun i ⟨p,q,r,t,u,w,g,z⟩=>hsrc i p q r t u w g z) (fun i y ⟨p,q,r,t,u,w,g,z⟩=>step i y p q r t u w g z) fun ⟨p,q,r,t,u,w,g,z⟩=>fin p q r t u w g z
theorem whlH8 {A1 A2 A3 A4 A5 A6 A7 A8:Type} {T:Sta→(Bool→Sta→Prop)→Prop} (S:A1 × A2 × A3 × A4 × A5 × A6 × A7 × A8→Sta) (F:Nat→A1 × A2 × A3 × A4 × A5 × A6 × A7 × A8→Prop) (n:Nat) (d:A1 × A2 × A3 × A4 × A5 × A6 × A7 × A8) (hS:Le ⟨vs,M,I⟩ (S d)) (h0:F n d)
    (step:∀ n p q r t u w g z,F n (p,q,r,t,u,w,g,z)→∀ (K:Flow→Sta→Prop),Via (Tw S F done kr n) K→T (S (p,q,r,t,u,w,g,z)) (kWh B done K)):WhlH T B done kr ⟨vs,M,I⟩:=
  whlH S F n d hS h0 fun n ⟨p,q,r,t,u,w,g,z⟩=>step n p q r t u w g z
theorem ForH.freeze {M':Led} {p:Addr × Obj} (h:Pick p M M') (q:ForH x as B done kr v ⟨vs,M',p :: I⟩):ForH x as B done kr v ⟨vs,M,I⟩:=⟨q.ex.freeze h⟩
theorem CompH.freeze {M':Led} {p:Addr × Obj} {nl:Nat} {T:Ctx e→Sta→(Bool→Sta→Prop)→Prop} {El:Ctx e→Sta→(Value→Sta→Prop)→Prop} {k:Value→Sta→Prop} (h:Pick p M M') (q:CompH x as T El nl v ⟨vs,M',p :: I⟩ k):CompH x as T El nl v ⟨vs,M,I⟩ k:=⟨q.ex.freeze h⟩
end
section
variable {δ:Type}
@[irreducible] noncomputable def Jf (S:δ→Sta) (F:δ→Prop) (f:Flow) (st:Sta):Prop:=f = .next∧∃ d,st = S d∧F d
theorem Via.jf {S:δ→Sta} {F:δ→Prop} {K:Flow→Sta→Prop} (V:Via (Jf S F) K) (d:δ) (h:F d):K .next (S d):=V.to _ _ (by unfold Jf; exact ⟨rfl,d,rfl,h⟩)
theorem joinF {A:(Flow→Sta→Prop)→Prop} {R:Sta→Prop} {k:Flow→Sta→Prop} (S:δ→Sta) (F:δ→Prop) (h:∀ (K:Flow→Sta→Prop),Via (Jf S F) K→A K) (g:∀ d,F d→R (S d)):Jn A (seqR R k):=
  join (Jf S F) (h _ .rf) fun f st h=>by
    unfold Jf at h
    obtain ⟨rfl,d,rfl,hF⟩:=h
    exact g d hF
@[irreducible] noncomputable def Jv {α:Type} (V:δ→α) (S:δ→Sta) (F:δ→Prop) (v:α) (st:Sta):Prop:=∃ d,v = V d∧st = S d∧F d
section
variable {α:Type} {V:δ→α} {S:δ→Sta} {F:δ→Prop} {K:α→Sta→Prop}
theorem Via.jv (J:Via (Jv V S F) K) (d:δ) (h:F d):K (V d) (S d):=J.to _ _ (by unfold Jv; exact ⟨d,rfl,rfl,h⟩)
theorem Via.jvE (J:Via (Jv V S F) K) {v:α} (d:δ) (h:F d) (e:v = V d):K v (S d):=J.to _ _ (by unfold Jv; exact ⟨d,e,rfl,h⟩)
end
theorem joinV {α:Type} {A:(α→Sta→Prop)→Prop} {k:α→Sta→Prop} (V:δ→α) (S:δ→Sta) (F:δ→Prop) (h:∀ (K:α→Sta→Prop),Via (Jv V S F) K→A K) (g:∀ d,F d→k (V d) (S d)):Jn A k:=
  join (Jv V S F) (h _ .rf) fun v st h=>by
    unfold Jv at h
    obtain ⟨d,rfl,rfl,hF⟩:=h
    exact g d hF
end
end
section
theorem strs_snoc {vs:List Value} {ss:List Str} {x:Str} {t:Tok} (h:StrsAre vs ss):StrsAre (vs ++ [.str x t]) (ss ++ [x]):=by
  induction h with
  | nil=>exact .cons _ _ .nil
  | cons _ _ _ ih=>exact .cons _ _ ih
theorem str_app_len (a b:Str):(a ++ b).length = a.length + b.length:=by
  show (a.cps ++ b.cps).size = a.cps.size + b.cps.size
  exact Array.size_append
inductive Hd
  | var (x:Str) | lit (k:Str) (n:Int) | app | lam (p:Str) | lett (xs:List Str) (r:Bool) | con (k:Str) | prim (op:Str)
inductive Tr
  | node (h:Hd) (ks:List Tr)
noncomputable def clsOf:Hd→Addr
  | .var _=>52 | .lit _ _=>94 | .app=>134 | .lam _=>176 | .lett _ _=>212 | .con _=>252 | .prim _=>292
inductive Binds (I:Led):List Value→List Str→List Value→Prop
  | nil:Binds I [] [] []
  | cons {p x t v ps xs vs}:TupI I p [.str x t,v]→Binds I ps xs vs→Binds I (p :: ps) (x :: xs) (v :: vs)
def RepH (I:Led) (h:Hd) (v:Value) (vs:List Value):Prop:=match h with
  | .var x=>vs = []∧∃ t,Ins I v 52 [("name",.str x t)]
  | .lit k n=>vs = []∧∃ t u,Ins I v 94 [("kind",.str k t),("value",.int n u)]
  | .app=>∃ f l as,vs = .ref f :: as∧Ins I v 134 [("fun",.ref f),("args",.ref l)]∧LisI I (.ref l) as
  | .lam p=>∃ b l t,vs = [.ref b]∧Ins I v 176 [("params",.ref l),("body",.ref b)]∧LisI I (.ref l) [.str p t]
  | .lett xs r=>∃ l ps bs b,vs = bs ++ [.ref b]∧Ins I v 212 [("binds",.ref l),("body",.ref b),("is_rec",.bool r)]∧LisI I (.ref l) ps∧Binds I ps xs bs
  | .con k=>∃ t l,Ins I v 252 [("name",.str k t),("args",.ref l)]∧LisI I (.ref l) vs
  | .prim k=>∃ t l,Ins I v 292 [("op",.str k t),("args",.ref l)]∧LisI I (.ref l) vs
theorem LisI.at {I:Led} {l:Addr} {xs:List Value} (h:LisI I (.ref l) xs):∃ n,(l,listO xs n) ∈ I:=let ⟨_,n,e,m⟩:=h; ⟨n,by cases e; exact m⟩
mutual
def Rep (I:Led):Tr→Value→Prop
  | .node h ks,v=>∃ vs,RepH I h v vs∧Reps I ks vs
def Reps (I:Led):List Tr→List Value→Prop
  | [],[]=>True
  | k :: ks,v :: vs=>Rep I k v∧Reps I ks vs
  | _,_=>False
end
theorem Binds.mono {I I' ps xs vs} (h:Binds I ps xs vs) (k:Sub I I'):Binds I' ps xs vs:=by
  induction h with
  | nil=>exact .nil
  | cons h _ ih=>exact .cons (h.mono k) ih
theorem Binds.len {I ps xs vs} (h:Binds I ps xs vs):ps.length = xs.length∧vs.length = xs.length:=by
  induction h with
  | nil=>exact ⟨rfl,rfl⟩
  | cons _ _ ih=>exact ⟨by simp [ih.1],by simp [ih.2]⟩
theorem RepH.mono {I I' h v vs} (x:RepH I h v vs) (k:Sub I I'):RepH I' h v vs:=by
  cases h with
  | var y=>obtain ⟨h1,t,h2⟩:=x; exact ⟨h1,t,h2.mono k⟩
  | lit y n=>obtain ⟨h1,t,u,h2⟩:=x; exact ⟨h1,t,u,h2.mono k⟩
  | app=>obtain ⟨f,l,as,h1,h2,h3⟩:=x; exact ⟨f,l,as,h1,h2.mono k,h3.mono k⟩
  | lam p=>obtain ⟨f,l,as,h1,h2,h3⟩:=x; exact ⟨f,l,as,h1,h2.mono k,h3.mono k⟩
  | lett xs r=>obtain ⟨l,ps,bs,b,h1,h2,h3,h4⟩:=x; exact ⟨l,ps,bs,b,h1,h2.mono k,h3.mono k,h4.mono k⟩
  | con p=>obtain ⟨t,l,h1,h2⟩:=x; exact ⟨t,l,h1.mono k,h2.mono k⟩
  | prim p=>obtain ⟨t,l,h1,h2⟩:=x; exact ⟨t,l,h1.mono k,h2.mono k⟩
mutual
theorem Rep.mono {I I':Led} (k:Sub I I'):∀ {t:Tr} {v:Value},Rep I t v→Rep I' t v
  | .node h ks,v,x=>by
    obtain ⟨vs,h1,h2⟩:=x
    exact ⟨vs,h1.mono k,Reps.mono k h2⟩
theorem Reps.mono {I I':Led} (k:Sub I I'):∀ {ts:List Tr} {vs:List Value},Reps I ts vs→Reps I' ts vs
  | [],[],_=>True.intro
  | _ :: _,_ :: _,x=>⟨Rep.mono k x.1,Reps.mono k x.2⟩
  | [],_ :: _,x=>x.elim
  | _ :: _,[],x=>x.elim
end
theorem Reps.len {I:Led}:∀ {ts:List Tr} {vs:List Value},Reps I ts vs→ts.length = vs.length
  | [],[],_=>rfl
  | _ :: _,_ :: _,x=>by simp [Reps.len x.2]
  | [],_ :: _,x=>x.elim
  | _ :: _,[],x=>x.elim
theorem RepH.ins {I h v vs} (x:RepH I h v vs):∃ fs,Ins I v (clsOf h) fs∧lookS "groups" fs = none∧lookS "parts" fs = none∧lookS "rebuilt" fs = none:=by
  cases h with
  | var y=>obtain ⟨h1,t,h2⟩:=x; exact ⟨_,h2,rfl,rfl,rfl⟩
  | lit y n=>obtain ⟨h1,t,u,h2⟩:=x; exact ⟨_,h2,rfl,rfl,rfl⟩
  | app=>obtain ⟨f,l,as,h1,h2,h3⟩:=x; exact ⟨_,h2,rfl,rfl,rfl⟩
  | lam p=>obtain ⟨f,l,as,h1,h2,h3⟩:=x; exact ⟨_,h2,rfl,rfl,rfl⟩
  | lett xs r=>obtain ⟨l,ps,bs,b,h1,h2,h3,h4⟩:=x; exact ⟨_,h2,rfl,rfl,rfl⟩
  | con p=>obtain ⟨t,l,h1,h2⟩:=x; exact ⟨_,h1,rfl,rfl,rfl⟩
  | prim p=>obtain ⟨t,l,h1,h2⟩:=x; exact ⟨_,h1,rfl,rfl,rfl⟩
theorem RepH.ref {I h v vs} (x:RepH I h v vs):∃ a,v = .ref a:=by
  obtain ⟨fs,⟨a,_,_,_,h,_⟩,_⟩:=x.ins
  exact ⟨a,h⟩
theorem Binds.at {I ps xs vs} (h:Binds I ps xs vs):∀ {i:Nat} {p:Value},ps[i]? = some p→∃ x t v,xs[i]? = some x∧vs[i]? = some v∧TupI I p [.str x t,v]:=by
  induction h with
  | nil=>intro i p h; simp at h
  | @cons p x t v ps xs vs hp _ ih=>
    intro i q h
    cases i with
    | zero=>simp at h; subst h; exact ⟨x,t,v,rfl,rfl,hp⟩
    | succ i=>simp at h; simpa using ih h
section
variable {e:E0} {x:Ctx e} {vs:List (Option Value)} {M I:Led}
theorem cls_mem:∀ {h:Hd},clsOf h ∈ isL7
  | .var _=>.head _
  | .lit _ _=>.tail _ (.head _)
  | .app=>.tail _ (.tail _ (.head _))
  | .lam _=>.tail _ (.tail _ (.tail _ (.head _)))
  | .lett _ _=>.tail _ (.tail _ (.tail _ (.tail _ (.head _))))
  | .con _=>.tail _ (.tail _ (.tail _ (.tail _ (.tail _ (.head _)))))
  | .prim _=>.tail _ (.tail _ (.tail _ (.tail _ (.tail _ (.tail _ (.head _))))))
theorem memL {α:Type} [BEq α] [LawfulBEq α] {a:α} {l:List α} (h:l.contains a = true):a ∈ l:=List.contains_iff_mem.mp h
theorem isiH {st:Sta} {h:Hd} {v:Value} {ws:List Value} {d:Addr} {k:Value→Sta→Prop} (r:RepH st.I h v ws) (hd:isL7.contains d = true) (q:k (.bool (clsOf h == d)) st):H x (call (.builtin "isinstance") [v,.ref d]) st k:=
  let ⟨_,hi,_⟩:=r.ins
  ⟨fun _ hs=>isi_ins x.ok hs hi (e.kf.is_ _ cls_mem) (e.kf.kit _ cls_mem _ (memL hd)) fun _ hs'=>⟨st,hs',q⟩⟩
theorem isi2H {st:Sta} {h:Hd} {v:Value} {ws:List Value} {d1 d2 tp:Addr} {n:Nat} {k:Value→Sta→Prop} (r:RepH st.I h v ws) (h1:isL7.contains d1 = true) (h2:isL7.contains d2 = true) (ht:(tp,tupO [.ref d1,.ref d2] n) ∈ st.I)
    (q:k (.bool (clsOf h == d1 || clsOf h == d2)) st):H x (call (.builtin "isinstance") [v,.ref tp]) st k:=by
  obtain ⟨fs,hi,_⟩:=r.ins
  refine ⟨fun _ hs=>isi_tup x.ok hs hi (e.kf.is_ _ cls_mem) ht ?_ fun _ hs'=>⟨st,hs',q⟩⟩
  have a1:=e.kf.kit _ (cls_mem (h:=h)) _ (memL h1)
  have a2:=e.kf.kit _ (cls_mem (h:=h)) _ (memL h2)
  unfold kitAny
  rw [a1]
  cases hb:clsOf h == d1
  · unfold kitAny
    rw [a2]
    cases hb2:clsOf h == d2
    · simp [kitAny]
    · simp
  · simp
end
end
section
mutual
theorem Tr.ind {P:Tr→Prop} (h:∀ hd ks,(∀ k ∈ ks,P k)→P (.node hd ks)):∀ t,P t
  | .node hd ks=>h hd ks (Tr.inds h ks)
theorem Tr.inds {P:Tr→Prop} (h:∀ hd ks,(∀ k ∈ ks,P k)→P (.node hd ks)):∀ ks:List Tr,∀ k ∈ ks,P k
  | [],_,hk=>by cases hk
  | t :: ts,k,hk=>by
    rcases List.mem_cons.mp hk with e | hk
    · rw [e]; exact Tr.ind h t
    · exact Tr.inds h ts k hk
end
mutual
def tsize:Tr→Nat
  | .node _ ks=>tsizes ks + 1
def tsizes:List Tr→Nat
  | []=>0
  | k :: ks=>tsize k + tsizes ks
end
theorem tsize_pos:∀ t,1 ≤ tsize t
  | .node _ ks=>by unfold tsize; lia
theorem tsizes_len:∀ ks:List Tr,ks.length ≤ tsizes ks
  | []=>Nat.le_refl _
  | k :: ks=>by
    have:=tsizes_len ks
    have h:=tsize_pos k
    unfold tsizes
    simp only [List.length_cons]; lia
section
variable {A C:Type}
mutual
def trav (eff:Hd→C→A→A) (ctx:Hd→C→Nat→List C):Tr→C→A→A
  | .node h ks,b,a=>travs eff ctx ks (ctx h b ks.length) (eff h b a)
def travs (eff:Hd→C→A→A) (ctx:Hd→C→Nat→List C):List Tr→List C→A→A
  | k :: ks,b :: bs,a=>trav eff ctx k b (travs eff ctx ks bs a)
  | _,_,a=>a
end
inductive TasksI (TaskOk:Led→Value→Tr→C→Prop) (I:Led):List Value→List Tr→List C→Prop
  | nil:TasksI TaskOk I [] [] []
  | cons {p t b ps ts bs}:TaskOk I p t b→TasksI TaskOk I ps ts bs→TasksI TaskOk I (p :: ps) (t :: ts) (b :: bs)
theorem TasksI.mono {TaskOk:Led→Value→Tr→C→Prop} {I I':Led} {ps ts bs} (mono:∀ {I I' p t b},Sub I I'→TaskOk I p t b→TaskOk I' p t b) (k:Sub I I') (h:TasksI TaskOk I ps ts bs):TasksI TaskOk I' ps ts bs:=by
  induction h with
  | nil=>exact .nil
  | cons a _ ih=>exact .cons (mono k a) ih
theorem TasksI.snoc {TaskOk:Led→Value→Tr→C→Prop} {I:Led} {ps ts bs p t b} (h:TasksI TaskOk I ps ts bs) (k:TaskOk I p t b):TasksI TaskOk I (ps ++ [p]) (ts ++ [t]) (bs ++ [b]):=by
  induction h with
  | nil=>exact .cons k .nil
  | cons a _ ih=>exact .cons a ih
theorem TasksI.len {TaskOk:Led→Value→Tr→C→Prop} {I:Led} {ps ts bs} (h:TasksI TaskOk I ps ts bs):ps.length = ts.length∧bs.length = ts.length:=by
  induction h with
  | nil=>exact ⟨rfl,rfl⟩
  | cons _ _ ih=>exact ⟨by simp [ih.1],by simp [ih.2]⟩
theorem TasksI.app {TaskOk:Led→Value→Tr→C→Prop} {I:Led} {ps ts bs ps' ts' bs'} (h:TasksI TaskOk I ps ts bs) (k:TasksI TaskOk I ps' ts' bs'):TasksI TaskOk I (ps ++ ps') (ts ++ ts') (bs ++ bs'):=by
  induction h with
  | nil=>exact k
  | cons a _ ih=>exact .cons a ih
theorem TasksI.app_nil {TaskOk:Led→Value→Tr→C→Prop} {I:Led} {ps ts bs} (h:TasksI TaskOk I ps ts bs):TasksI TaskOk I ps (ts ++ []) (bs ++ []):=by rw [List.append_nil,List.append_nil]; exact h
theorem TasksI.next {TaskOk:Led→Value→Tr→C→Prop} {I:Led} {L ts bs p t c} {ks:List Tr} {cs:List C} {i:Nat} (h:TasksI TaskOk I L (ts ++ ks.take i) (bs ++ cs.take i)) (hk:ks[i]? = some t) (hc:cs[i]? = some c) (k:TaskOk I p t c) :
    TasksI TaskOk I (L ++ [p]) (ts ++ ks.take (i + 1)) (bs ++ cs.take (i + 1)):=by
  rw [List.take_add_one,List.take_add_one,hk,hc,← List.append_assoc,← List.append_assoc]
  exact h.snoc k
theorem TasksI.whole {TaskOk:Led→Value→Tr→C→Prop} {I:Led} {L ts bs} {ks:List Tr} {cs:List C} {i:Nat} (h:TasksI TaskOk I L (ts ++ ks.take i) (bs ++ cs.take i)) (hk:ks.length ≤ i) (hc:cs.length ≤ i):TasksI TaskOk I L (ts ++ ks) (bs ++ cs):=by
  rw [List.take_of_length_le hk,List.take_of_length_le hc] at h; exact h
theorem TasksI.top {TaskOk:Led→Value→Tr→C→Prop} {I:Led} {ps ts bs} (h:TasksI TaskOk I ps ts bs) (hne:(!ps.isEmpty) = true):∃ ps' p ts' t bs' b,ps = ps' ++ [p]∧ts = ts' ++ [t]∧bs = bs' ++ [b]∧TaskOk I p t b∧TasksI TaskOk I ps' ts' bs':=by
  induction h with
  | nil=>cases hne
  | @cons p t b ps ts bs a r ih=>
    cases r with
    | nil=>exact ⟨[],p,[],t,[],b,rfl,rfl,rfl,a,.nil⟩
    | cons a' r'=>
      obtain ⟨ps',p',ts',t',bs',b',e1,e2,e3,h1,h2⟩:=ih rfl
      exact ⟨p :: ps',p',t :: ts',t',b :: bs',b',congrArg _ e1,congrArg _ e2,congrArg _ e3,h1,.cons a h2⟩
theorem travs_app {eff:Hd→C→A→A} {ctx:Hd→C→Nat→List C} {us:List Tr} {cs:List C} {a:A}:∀ {ks:List Tr} {bs:List C},bs.length = ks.length→travs eff ctx (ks ++ us) (bs ++ cs) a = travs eff ctx ks bs (travs eff ctx us cs a)
  | [],[],_=>rfl
  | k :: ks,b :: bs,h=>by
    show travs eff ctx (k :: (ks ++ us)) (b :: (bs ++ cs)) a = _
    rw [travs,travs,travs_app (Nat.succ.inj h)]
  | [],_ :: _,h=>nomatch h
  | _ :: _,[],h=>nomatch h
theorem travs_top {eff:Hd→C→A→A} {ctx:Hd→C→Nat→List C} {h:Hd} {us:List Tr} {b:C} {a:A} {ks:List Tr} {bs:List C} (hl:bs.length = ks.length):travs eff ctx (ks ++ [.node h us]) (bs ++ [b]) a = travs eff ctx (ks ++ us) (bs ++ ctx h b us.length) (eff h b a):=by
  rw [travs_app hl,travs_app hl]
  exact congrArg (travs eff ctx ks bs) (by rw [travs,travs,trav]; all_goals (intros; contradiction))
end
theorem tsizes_app:∀ {ks us:List Tr},tsizes (ks ++ us) = tsizes ks + tsizes us
  | [],us=>by rw [List.nil_append,tsizes,Nat.zero_add]
  | k :: ks,us=>by rw [List.cons_append,tsizes,tsizes,tsizes_app,Nat.add_assoc]
theorem tsizes_top {h:Hd} {us ks:List Tr}:tsizes (ks ++ [.node h us]) = tsizes (ks ++ us) + 1:=by
  rw [tsizes_app,tsizes_app,tsizes,tsizes,tsize]; rfl
theorem TasksI.len_le {C:Type} {TaskOk:Led→Value→Tr→C→Prop} {I:Led} {ps ts bs} (h:TasksI TaskOk I ps ts bs):ps.length ≤ tsizes ts:=Nat.le_trans (Nat.le_of_eq h.len.1) (tsizes_len ts)
@[elab_as_elim] theorem stack_e {A C:Type} {eff:Hd→C→A→A} {ctx:Hd→C→Nat→List C} {TaskOk:Led→Value→Tr→C→Prop} {I:Led} {P:List Value→Prop} {ps ts bs} {a R:A} {n:Nat} (h:TasksI TaskOk I ps ts bs) (hR:travs eff ctx ts bs a = R) (hn:n = tsizes ts) (hne:(!ps.isEmpty) = true)
    (q:∀ ps' p hd ks b ts' bs',TaskOk I p (.node hd ks) b→TasksI TaskOk I ps' ts' bs'→travs eff ctx (ts' ++ ks) (bs' ++ ctx hd b ks.length) (eff hd b a) = R→n = tsizes (ts' ++ ks) + 1→ps'.length + ks.length + 1 ≤ n→P (ps' ++ [p])):P ps:=by
  obtain ⟨ps',p,ts',t,bs',b,rfl,rfl,rfl,h1,h2⟩:=h.top hne
  obtain ⟨hd,ks⟩:=t
  rw [tsizes_top] at hn
  refine q ps' p hd ks b ts' bs' h1 h2 (travs_top h2.len.2 ▸ hR) hn ?_
  rw [hn,tsizes_app]
  exact Nat.succ_le_succ (Nat.add_le_add h2.len_le (tsizes_len ks))
theorem stack_end {A C:Type} {TaskOk:Led→Value→Tr→C→Prop} {I:Led} {ps:List Value} {eff:Hd→C→A→A} {ctx:Hd→C→Nat→List C} {a R:A} {ts:List Tr} {bs:List C} (h:TasksI TaskOk I ps ts bs) (he:(!ps.isEmpty) = false) (hR:travs eff ctx ts bs a = R):a = R:=by
  cases h with
  | nil=>rw [← hR,travs]; all_goals (intros; contradiction)
  | cons _ _=>cases he
theorem lt_of_succ {m n:Nat} (h:n = m + 1):m < n:=h ▸ Nat.lt_succ_self m
theorem stepz {a b c m n:Nat} (h:a ≤ b + 1) (k:b + n ≤ c) (e:n = m + 1):a + m ≤ c:=by lia
theorem valueAt_cons {k y:Str} {u:Value} {r:List (Str × Value)}:valueAt ((k,u) :: r) y = if k = y then some u else valueAt r y:=by
  unfold valueAt
  rw [List.find?_cons]
  by_cases h:k = y
  · simp [h]
  · simp [h]
theorem valueAt_stored (kvs:List (Str × Value)) (k:Str) (v:Value) (y:Str):valueAt (stored kvs k v) y = if y = k then some v else valueAt kvs y:=by
  have h1:∀ l:List (Str × Value),(l.any fun kv=>kv.1 = k) = true→valueAt (l.map fun kv=>if kv.1 = k then (kv.1,v) else kv) y = if y = k then some v else valueAt l y:=by
    intro l
    induction l with
    | nil=>intro h; cases h
    | cons p r ih=>
      obtain ⟨x,u⟩:=p
      intro h
      rw [List.map_cons]
      by_cases hx:x = k
      · subst hx
        simp only [if_true]
        rw [valueAt_cons,valueAt_cons]
        by_cases hy:y = x
        · subst hy; simp
        · have hy':¬ x = y:=fun q=>hy q.symm
          rw [if_neg hy',if_neg hy,if_neg hy']
          have:∀ l:List (Str × Value),valueAt (l.map fun kv=>if kv.1 = x then (kv.1,v) else kv) y = valueAt l y:=by
            intro l
            induction l with
            | nil=>rfl
            | cons q l ih2=>
              obtain ⟨z,w⟩:=q
              rw [List.map_cons]
              by_cases hz:z = x
              · simp only [hz,if_true]; rw [valueAt_cons,valueAt_cons,if_neg hy',if_neg hy']; exact ih2
              · simp only [hz,if_false]; rw [valueAt_cons,valueAt_cons]; rw [ih2]
          exact this r
      · simp only [hx,if_false]
        have h':(r.any fun kv=>kv.1 = k) = true:=by simpa [hx] using h
        rw [valueAt_cons,valueAt_cons,ih h']
        by_cases hy:y = k
        · subst hy; simp [hx]
        · simp [hy]
  unfold stored
  split
  · rename_i h; exact h1 kvs h
  · rename_i h
    have h2:∀ l:List (Str × Value),(l.any fun kv=>kv.1 = k) = false→valueAt (l ++ [(k,v)]) y = if y = k then some v else valueAt l y:=by
      intro l
      induction l with
      | nil=>
        intro _
        show valueAt [(k,v)] y = _
        rw [valueAt_cons]
        by_cases hy:y = k
        · subst hy; simp
        · have hy':¬ k = y:=fun q=>hy q.symm
          rw [if_neg hy,if_neg hy']
      | cons p r ih=>
        obtain ⟨x,u⟩:=p
        intro h
        have hx:x ≠ k:=by
          intro q; simp [q] at h
        have h':(r.any fun kv=>kv.1 = k) = false:=by simpa [hx] using h
        rw [List.cons_append,valueAt_cons,valueAt_cons,ih h']
        by_cases hy:y = k
        · subst hy; simp [hx]
        · simp [hy]
    exact h2 kvs (by cases q:(kvs.any fun kv=>kv.1 = k) with | false=>rfl | true=>exact absurd q h)
end
section
def Base (b:Str):Prop:=Txt.rfind b (Str.ofString ".") = -1∧1 ≤ b.length∧b.length ≤ 100
def NewName (b q:Str):Prop:=∃ d,q = b ++ Str.ofString "." ++ d
inductive News1:List Str→List Str→Prop
  | nil:News1 [] []
  | cons {x y xs ys}:NewName x y→News1 xs ys→News1 (x :: xs) (y :: ys)
inductive News2:List (List Str)→List (List Str)→Prop
  | nil:News2 [] []
  | cons {x y xs ys}:News1 x y→News2 xs ys→News2 (x :: xs) (y :: ys)
theorem News1.snoc {xs ys x y} (h:News1 xs ys) (k:NewName x y):News1 (xs ++ [x]) (ys ++ [y]):=by
  induction h with
  | nil=>exact .cons k .nil
  | cons a _ ih=>exact .cons a ih
theorem News2.snoc {xs ys x y} (h:News2 xs ys) (k:News1 x y):News2 (xs ++ [x]) (ys ++ [y]):=by
  induction h with
  | nil=>exact .cons k .nil
  | cons a _ ih=>exact .cons a ih
theorem News1.len {xs ys} (h:News1 xs ys):xs.length = ys.length:=by
  induction h with
  | nil=>rfl
  | cons _ _ ih=>simp [ih]
noncomputable def scs:Hd→Nat→List Bool
  | .lam _,n=>List.replicate n true
  | .lett xs r,_=>xs.map (fun _=>r) ++ [true]
  | _,n=>List.replicate n false
noncomputable def gps:Hd→List (List Str)
  | .lam p=>[[p]]
  | .lett xs _=>[xs]
  | _=>[]
noncomputable def updN (N:Str→Option Str):List Str→List Str→Str→Option Str
  | x :: xs,y :: ys=>updN (fun z=>if z = x then some y else N z) xs ys
  | _,_=>N
theorem updN_snoc {x y:Str}:∀ {xs ys:List Str} {N:Str→Option Str},xs.length = ys.length→updN N (xs ++ [x]) (ys ++ [y]) = fun z=>if z = x then some y else updN N xs ys z
  | [],[],_,_=>rfl
  | x0 :: xs,y0 :: ys,N,h=>updN_snoc (xs:=xs) (ys:=ys) (N:=fun z=>if z = x0 then some y0 else N z) (by simpa using h)
  | [],_ :: _,_,h=>by simp at h
  | _ :: _,[],_,h=>by simp at h
noncomputable def reHd:Hd→List (List Str)→Hd
  | .lam p,yss=>.lam (yss.flatten.headD p)
  | .lett _ r,yss=>.lett yss.flatten r
  | h,_=>h
noncomputable def ctxN (h:Hd) (N:Str→Option Str) (yss:List (List Str)) (n:Nat):List (Str→Option Str):=(scs h n).map fun f=>if f then updN N (gps h).flatten yss.flatten else N
mutual
inductive Ren:(Str→Option Tr)→(Str→Option Str)→Tr→Tr→Prop
  | var {i N x y}:N x = some y→Ren i N (.node (.var x) []) (.node (.var y) [])
  | keep {i N x}:N x = none→i x = none→Ren i N (.node (.var x) []) (.node (.var x) [])
  | inst {i N x t t'}:N x = none→i x = some t→Ren (fun _=>none) (fun _=>none) t t'→Ren i N (.node (.var x) []) t'
  | leaf {i N h}:(clsOf h == 52) = false→Ren i N (.node h []) (.node h [])
  | node {i N h k ks yss ks'}:News2 (gps h) yss→Rens i (ctxN h N yss (k :: ks).length) (k :: ks) ks'→Ren i N (.node h (k :: ks)) (.node (reHd h yss) ks')
inductive Rens:(Str→Option Tr)→List (Str→Option Str)→List Tr→List Tr→Prop
  | nil {i}:Rens i [] [] []
  | cons {i N Ns k ks k' ks'}:Ren i N k k'→Rens i Ns ks ks'→Rens i (N :: Ns) (k :: ks) (k' :: ks')
end
end
section
section
variable {e:E0} {x:Ctx e} {vs:List (Option Value)} {M I:Led}
theorem gAt (i:Nat) {p:Addr × Str} (h:getL[i]? = some p):ClsGet e.K p.1 p.2:=e.kf.get p (List.mem_of_getElem? h)
theorem sAt (i:Nat) {p:Addr × Str} (h:getL[i]? = some p):ClsSet e.K p.1 p.2:=e.kf.set p (List.mem_of_getElem? h)
theorem mAt (i:Nat) {p:Addr × Str × Addr} (h:methL[i]? = some p):ClsMeth e.K p.1 p.2.1 p.2.2:=e.kf.meth p (List.mem_of_getElem? h)
theorem mkAt (i:Nat) {p:Addr × Addr} (h:makeL[i]? = some p):ClsMake e.K p.1 p.2:=e.kf.make p (List.mem_of_getElem? h)
theorem g52_name:ClsGet e.K 52 "name":=gAt 0 rfl
theorem g94_value:ClsGet e.K 94 "value":=gAt 2 rfl
theorem g134_fun:ClsGet e.K 134 "fun":=gAt 3 rfl
theorem g134_args:ClsGet e.K 134 "args":=gAt 4 rfl
theorem g176_params:ClsGet e.K 176 "params":=gAt 5 rfl
theorem g176_body:ClsGet e.K 176 "body":=gAt 6 rfl
theorem g212_binds:ClsGet e.K 212 "binds":=gAt 7 rfl
theorem g212_body:ClsGet e.K 212 "body":=gAt 8 rfl
theorem g212_is_rec:ClsGet e.K 212 "is_rec":=gAt 9 rfl
theorem g252_name:ClsGet e.K 252 "name":=gAt 10 rfl
theorem g252_args:ClsGet e.K 252 "args":=gAt 11 rfl
theorem g292_op:ClsGet e.K 292 "op":=gAt 12 rfl
theorem g292_args:ClsGet e.K 292 "args":=gAt 13 rfl
theorem g360_fresh:ClsGet e.K 360 "fresh":=gAt 14 rfl
theorem g360_instead:ClsGet e.K 360 "instead":=gAt 15 rfl
theorem g402_many:ClsGet e.K 402 "many":=gAt 16 rfl
theorem g402_in_function:ClsGet e.K 402 "in_function":=gAt 17 rfl
theorem g510_avoided:ClsGet e.K 510 "avoided":=gAt 18 rfl
theorem g510_numbers:ClsGet e.K 510 "numbers":=gAt 19 rfl
theorem m52_groups:ClsMeth e.K 52 "groups" 35:=mAt 0 rfl
theorem m52_parts:ClsMeth e.K 52 "parts" 42:=mAt 1 rfl
theorem m52_rebuilt:ClsMeth e.K 52 "rebuilt" 49:=mAt 2 rfl
theorem m94_groups:ClsMeth e.K 94 "groups" 77:=mAt 3 rfl
theorem m94_parts:ClsMeth e.K 94 "parts" 84:=mAt 4 rfl
theorem m94_rebuilt:ClsMeth e.K 94 "rebuilt" 91:=mAt 5 rfl
theorem m134_groups:ClsMeth e.K 134 "groups" 119:=mAt 6 rfl
theorem m134_parts:ClsMeth e.K 134 "parts" 124:=mAt 7 rfl
theorem m134_rebuilt:ClsMeth e.K 134 "rebuilt" 131:=mAt 8 rfl
theorem m176_groups:ClsMeth e.K 176 "groups" 159:=mAt 9 rfl
theorem m176_parts:ClsMeth e.K 176 "parts" 166:=mAt 10 rfl
theorem m176_rebuilt:ClsMeth e.K 176 "rebuilt" 173:=mAt 11 rfl
theorem m212_groups:ClsMeth e.K 212 "groups" 199:=mAt 12 rfl
theorem m212_parts:ClsMeth e.K 212 "parts" 204:=mAt 13 rfl
theorem m212_rebuilt:ClsMeth e.K 212 "rebuilt" 209:=mAt 14 rfl
theorem m252_groups:ClsMeth e.K 252 "groups" 237:=mAt 15 rfl
theorem m252_parts:ClsMeth e.K 252 "parts" 242:=mAt 16 rfl
theorem m252_rebuilt:ClsMeth e.K 252 "rebuilt" 249:=mAt 17 rfl
theorem m292_groups:ClsMeth e.K 292 "groups" 277:=mAt 18 rfl
theorem m292_parts:ClsMeth e.K 292 "parts" 282:=mAt 19 rfl
theorem m292_rebuilt:ClsMeth e.K 292 "rebuilt" 289:=mAt 20 rfl
theorem m360_new_groups:ClsMeth e.K 360 "new_groups" 336:=mAt 21 rfl
theorem m360_inner:ClsMeth e.K 360 "inner" 343:=mAt 22 rfl
theorem m360_leaf:ClsMeth e.K 360 "leaf" 350:=mAt 23 rfl
theorem m360_run:ClsMeth e.K 360 "run" 357:=mAt 24 rfl
theorem m402_note:ClsMeth e.K 402 "note" 399:=mAt 25 rfl
theorem m510_avoid:ClsMeth e.K 510 "avoid" 500:=mAt 26 rfl
theorem m510_next:ClsMeth e.K 510 "next" 507:=mAt 27 rfl
theorem new52 {a0:Value} {k:Value→Sta→Prop} (hr:2 ≤ x.c.room) (q:∀ v I',Sub I I'→Ins I' (.ref v) 52 [("name",a0)]→k (.ref v) ⟨vs,M,I'⟩):H x (call (.ref 52) [a0]) ⟨vs,M,I⟩ k:=
  mkR (mkAt 0 rfl) fr28 rfl (n:=0) hr fun x' y dx _=>setH (.head _) (fun _=>.tail .head) .nil (sAt 0 rfl) (Nat.le_of_ble_eq_true rfl) fun _ _ h0=>retN (Le.freeze .head (Le.freeze .head Le.refl)) ⟨rfl,q y _ Sub.one.cons ⟨y,dx,_,_,rfl,.tail _ (.head _),.head _,h0⟩⟩
theorem new94 {a0 a1:Value} {k:Value→Sta→Prop} (hr:2 ≤ x.c.room) (q:∀ v I',Sub I I'→Ins I' (.ref v) 94 [("kind",a0),("value",a1)]→k (.ref v) ⟨vs,M,I'⟩):H x (call (.ref 94) [a0,a1]) ⟨vs,M,I⟩ k:=
  mkR (mkAt 1 rfl) fr70 rfl (n:=0) hr fun x' y dx _=>setH (.head _) (fun _=>.tail .head) .nil (sAt 1 rfl) (Nat.le_of_ble_eq_true rfl) fun _ _ h0=>setH (.head _) (fun _=>.tail .head) h0 (sAt 2 rfl) (Nat.le_of_ble_eq_true rfl) fun _ _ h1=>retN (Le.freeze .head (Le.freeze .head Le.refl)) ⟨rfl,q y _ Sub.one.cons ⟨y,dx,_,_,rfl,.tail _ (.head _),.head _,h1⟩⟩
theorem new134 {a0 a1:Value} {k:Value→Sta→Prop} (hr:2 ≤ x.c.room) (q:∀ v I',Sub I I'→Ins I' (.ref v) 134 [("fun",a0),("args",a1)]→k (.ref v) ⟨vs,M,I'⟩):H x (call (.ref 134) [a0,a1]) ⟨vs,M,I⟩ k:=
  mkR (mkAt 2 rfl) fr112 rfl (n:=0) hr fun x' y dx _=>setH (.head _) (fun _=>.tail .head) .nil (sAt 3 rfl) (Nat.le_of_ble_eq_true rfl) fun _ _ h0=>setH (.head _) (fun _=>.tail .head) h0 (sAt 4 rfl) (Nat.le_of_ble_eq_true rfl) fun _ _ h1=>retN (Le.freeze .head (Le.freeze .head Le.refl)) ⟨rfl,q y _ Sub.one.cons ⟨y,dx,_,_,rfl,.tail _ (.head _),.head _,h1⟩⟩
theorem new176 {a0 a1:Value} {k:Value→Sta→Prop} (hr:2 ≤ x.c.room) (q:∀ v I',Sub I I'→Ins I' (.ref v) 176 [("params",a0),("body",a1)]→k (.ref v) ⟨vs,M,I'⟩):H x (call (.ref 176) [a0,a1]) ⟨vs,M,I⟩ k:=
  mkR (mkAt 3 rfl) fr152 rfl (n:=0) hr fun x' y dx _=>setH (.head _) (fun _=>.tail .head) .nil (sAt 5 rfl) (Nat.le_of_ble_eq_true rfl) fun _ _ h0=>setH (.head _) (fun _=>.tail .head) h0 (sAt 6 rfl) (Nat.le_of_ble_eq_true rfl) fun _ _ h1=>retN (Le.freeze .head (Le.freeze .head Le.refl)) ⟨rfl,q y _ Sub.one.cons ⟨y,dx,_,_,rfl,.tail _ (.head _),.head _,h1⟩⟩
theorem new212 {a0 a1 a2:Value} {k:Value→Sta→Prop} (hr:2 ≤ x.c.room) (q:∀ v I',Sub I I'→Ins I' (.ref v) 212 [("binds",a0),("body",a1),("is_rec",a2)]→k (.ref v) ⟨vs,M,I'⟩):H x (call (.ref 212) [a0,a1,a2]) ⟨vs,M,I⟩ k:=
  mkR (mkAt 4 rfl) fr194 rfl (n:=0) hr fun x' y dx _=>setH (.head _) (fun _=>.tail .head) .nil (sAt 7 rfl) (Nat.le_of_ble_eq_true rfl) fun _ _ h0=>setH (.head _) (fun _=>.tail .head) h0 (sAt 8 rfl) (Nat.le_of_ble_eq_true rfl) fun _ _ h1=>setH (.head _) (fun _=>.tail .head) h1 (sAt 9 rfl) (Nat.le_of_ble_eq_true rfl) fun _ _ h2=>retN (Le.freeze .head (Le.freeze .head Le.refl)) ⟨rfl,q y _ Sub.one.cons ⟨y,dx,_,_,rfl,.tail _ (.head _),.head _,h2⟩⟩
theorem new252 {a0 a1:Value} {k:Value→Sta→Prop} (hr:2 ≤ x.c.room) (q:∀ v I',Sub I I'→Ins I' (.ref v) 252 [("name",a0),("args",a1)]→k (.ref v) ⟨vs,M,I'⟩):H x (call (.ref 252) [a0,a1]) ⟨vs,M,I⟩ k:=
  mkR (mkAt 5 rfl) fr230 rfl (n:=0) hr fun x' y dx _=>setH (.head _) (fun _=>.tail .head) .nil (sAt 10 rfl) (Nat.le_of_ble_eq_true rfl) fun _ _ h0=>setH (.head _) (fun _=>.tail .head) h0 (sAt 11 rfl) (Nat.le_of_ble_eq_true rfl) fun _ _ h1=>retN (Le.freeze .head (Le.freeze .head Le.refl)) ⟨rfl,q y _ Sub.one.cons ⟨y,dx,_,_,rfl,.tail _ (.head _),.head _,h1⟩⟩
theorem new292 {a0 a1:Value} {k:Value→Sta→Prop} (hr:2 ≤ x.c.room) (q:∀ v I',Sub I I'→Ins I' (.ref v) 292 [("op",a0),("args",a1)]→k (.ref v) ⟨vs,M,I'⟩):H x (call (.ref 292) [a0,a1]) ⟨vs,M,I⟩ k:=
  mkR (mkAt 6 rfl) fr270 rfl (n:=0) hr fun x' y dx _=>setH (.head _) (fun _=>.tail .head) .nil (sAt 12 rfl) (Nat.le_of_ble_eq_true rfl) fun _ _ h0=>setH (.head _) (fun _=>.tail .head) h0 (sAt 13 rfl) (Nat.le_of_ble_eq_true rfl) fun _ _ h1=>retN (Le.freeze .head (Le.freeze .head Le.refl)) ⟨rfl,q y _ Sub.one.cons ⟨y,dx,_,_,rfl,.tail _ (.head _),.head _,h1⟩⟩
theorem new360 {a0 a1:Value} {k:Value→Sta→Prop} (hr:2 ≤ x.c.room) (q:∀ v I',Sub I I'→Ins I' (.ref v) 360 [("fresh",a0),("instead",a1)]→k (.ref v) ⟨vs,M,I'⟩):H x (call (.ref 360) [a0,a1]) ⟨vs,M,I⟩ k:=
  mkR (mkAt 7 rfl) fr331 rfl (n:=0) hr fun x' y dx _=>setH (.head _) (fun _=>.tail .head) .nil (sAt 14 rfl) (Nat.le_of_ble_eq_true rfl) fun _ _ h0=>setH (.head _) (fun _=>.tail .head) h0 (sAt 15 rfl) (Nat.le_of_ble_eq_true rfl) fun _ _ h1=>retN (Le.freeze .head (Le.freeze .head Le.refl)) ⟨rfl,q y _ Sub.one.cons ⟨y,dx,_,_,rfl,.tail _ (.head _),.head _,h1⟩⟩
end
end
section
def ScopeI (I:Led) (sv:Value) (b:Bool):Prop:=cond b (∃ t,TupI I sv [.int 0 t]) (TupI I sv [])
inductive PartsI (I:Led):List Value→List Value→List Bool→Prop
  | nil:PartsI I [] [] []
  | cons {p v sv b ps vs bs}:TupI I p [v,sv]→ScopeI I sv b→PartsI I ps vs bs→PartsI I (p :: ps) (v :: vs) (b :: bs)
theorem ScopeI.mono {I I' sv} (k:Sub I I'):∀ {b},ScopeI I sv b→ScopeI I' sv b
  | true,⟨t,h⟩=>⟨t,h.mono k⟩
  | false,h=>TupI.mono h k
theorem PartsI.mono {I I' ps vs bs} (h:PartsI I ps vs bs) (k:Sub I I'):PartsI I' ps vs bs:=by
  induction h with
  | nil=>exact .nil
  | cons a b _ ih=>exact .cons (a.mono k) (b.mono k) ih
theorem PartsI.snoc {I ps vs bs p v sv b} (h:PartsI I ps vs bs) (h1:TupI I p [v,sv]) (h2:ScopeI I sv b):PartsI I (ps ++ [p]) (vs ++ [v]) (bs ++ [b]):=by
  induction h with
  | nil=>exact .cons h1 h2 .nil
  | cons a b _ ih=>exact .cons a b ih
theorem PartsI.len {I ps vs bs} (h:PartsI I ps vs bs):ps.length = vs.length∧bs.length = vs.length:=by
  induction h with
  | nil=>exact ⟨rfl,rfl⟩
  | cons _ _ _ ih=>exact ⟨congrArg Nat.succ ih.1,congrArg Nat.succ ih.2⟩
theorem PartsI.at {I ps vs bs} (h:PartsI I ps vs bs):∀ {i:Nat} {p:Value},ps[i]? = some p→∃ v sv b,vs[i]? = some v∧bs[i]? = some b∧TupI I p [v,sv]∧ScopeI I sv b:=by
  induction h with
  | nil=>intro i p h; cases h
  | @cons p v sv b ps vs bs h1 h2 _ ih=>
    intro i q h
    cases i with
    | zero=>cases h; exact ⟨v,sv,b,rfl,rfl,h1,h2⟩
    | succ i=>exact ih (i:=i) h
theorem take_next {α:Type} {l:List α} {i:Nat} {x:α} (h:l[i]? = some x):l.take (i + 1) = l.take i ++ [x]:=by rw [List.take_add_one,h]; rfl
noncomputable def fl (b:Bool) (ws:List Value):List Bool:=ws.map fun _=>b
theorem PartsI.next {I I' ps p v sv b} {ws:List Value} {i:Nat} (h:PartsI I ps (ws.take i) (fl b (ws.take i))) (k:Sub I I') (hv:ws[i]? = some v) (h1:TupI I' p [v,sv]) (h2:ScopeI I' sv b):PartsI I' (ps ++ [p]) (ws.take (i + 1)) (fl b (ws.take (i + 1))):=by
  rw [take_next hv]
  unfold fl
  rw [List.map_append]
  exact (h.mono k).snoc h1 h2
theorem PartsI.whole {I ps b} {ws:List Value} {n:Nat} (h:PartsI I ps (ws.take n) (fl b (ws.take n))) (hn:n = ws.length):PartsI I ps ws (fl b ws):=by
  rw [hn,List.take_length] at h; exact h
theorem asgB {I0 I:Led} {ps bs:List Value} {xs:List Str} {i:Nat} {y:Value} {k:Value→Value→Prop} (hB:Binds I0 ps xs bs) (hX:ps[i]? = some y) (hs:Sub I0 I) (q:∀ z t v,xs[i]? = some z→bs[i]? = some v→k (.str z t) v):Asg2 y I k:=
  let ⟨z,t,v,h1,h2,pa,pn,e,hp⟩:=hB.at hX
  ⟨pa,_,_,pn,e,hs _ hp,q z t v h1 h2⟩
theorem asgP {I0 I:Led} {ps ws:List Value} {bs:List Bool} {i:Nat} {y:Value} {k:Value→Value→Prop} (hP:PartsI I0 ps ws bs) (hX:ps[i]? = some y) (hs:Sub I0 I) (q:∀ w sv b,ws[i]? = some w→bs[i]? = some b→ScopeI I0 sv b→k w sv):Asg2 y I k:=
  let ⟨w,sv,b,h1,h2,⟨pa,pn,e,hp⟩,h3⟩:=hP.at hX
  ⟨pa,_,_,pn,e,hs _ hp,q w sv b h1 h2 h3⟩
theorem asg2 {I:Led} {T:Addr} {a b:Value} {n:Nat} {k:Value→Value→Prop} (h:(T,tupO [a,b] n) ∈ I) (q:k a b):Asg2 (.ref T) I k:=⟨T,a,b,n,rfl,h,q⟩
theorem asg2T {I:Led} {v a b:Value} {k:Value→Value→Prop} (h:TupI I v [a,b]) (q:k a b):Asg2 v I k:=let ⟨T,n,e,h⟩:=h; ⟨T,a,b,n,e,h,q⟩
section
variable {e:E0} {x:Ctx e} {vs:List (Option Value)} {M I:Led} {k:Value→Sta→Prop} {v:Value} {ws:List Value}
theorem argsComp {m':Nm} {cv:List Value} {p p1 p2 p3:Pos} {h h1 h2 h3} {la:Addr} {n:Nat} (ho:(la,listO ws n) ∈ I) (hz:ws.length ≤ 1000)
    (q:∀ acc ps m I',Sub I I'→PartsI I' ps ws (fl false ws)→k (.ref acc) ⟨vs,(acc,listO ps m) :: M,I'⟩) :
    CompH x (XG.n (m:=m') 0 p h).vc (fun x' st k=>XI.yes (m:=m').vc x' cv st k) (fun x' st k=>(XE.tup (m:=m') (.cons (.v 0 p1 h1) (.cons (.tup .nil p2 h2) .nil)) p3 h3).vc x' cv st k) 1 (.ref la) ⟨vs,M,I⟩ k:=
  compH (fun _ I'=>(M,I')) (fun i ys I'=>Sub I I'∧PartsI I' ys (ws.take i) (fl false (ws.take i))) I (itList (.inr ho)) rfl ⟨Sub.refl,.nil⟩ (Nat.le_trans hz (by decide)) (fun i ys I' h=>srcL (.inr (h.1 _ ho)))
    (fun x' hr i y ys I' it o m acc u hi hX h _ V9 r1 r2=>V9.ce _ ⟨h.1.trans Sub.one.cons,h.2.next Sub.one.cons hX ⟨_,_,rfl,.head _⟩ ⟨_,_,rfl,.tail _ (.head _)⟩⟩ Le.refl rfl)
    fun acc ys I' m h=>q acc ys m I' h.1 (h.2.whole rfl)
theorem parts242 {k0:Str} (r:RepH I (.con k0) v ws) (hr:1 ≤ x.c.room) (hz:ws.length ≤ 1000) (q:∀ l ps n I',Sub I I'→PartsI I' ps ws (fl false ws)→k (.ref l) ⟨vs,(l,listO ps n) :: M,I'⟩):H x (call (.ref 242) [v]) ⟨vs,M,I⟩ k:=
  let ⟨_,_,hi,hl⟩:=r
  let ⟨_,hm⟩:=hl.at
  fr242.run rfl hr fun x' _=>getH hi g252_args rfl trivial (argsComp hm hz fun acc ps m I' h1 h2=>retI (q acc ps m I' h1 h2))
theorem parts282 {k0:Str} (r:RepH I (.prim k0) v ws) (hr:1 ≤ x.c.room) (hz:ws.length ≤ 1000) (q:∀ l ps n I',Sub I I'→PartsI I' ps ws (fl false ws)→k (.ref l) ⟨vs,(l,listO ps n) :: M,I'⟩):H x (call (.ref 282) [v]) ⟨vs,M,I⟩ k:=
  let ⟨_,_,hi,hl⟩:=r
  let ⟨_,hm⟩:=hl.at
  fr282.run rfl hr fun x' _=>getH hi g292_args rfl trivial (argsComp hm hz fun acc ps m I' h1 h2=>retI (q acc ps m I' h1 h2))
theorem parts124 {ws0:List Value} (r:RepH I .app v ws0) (hr:1 ≤ x.c.room) (hz:ws0.length ≤ 1000) (q:∀ l ps n I',Sub I I'→PartsI I' ps ws0 (fl false ws0)→k (.ref l) ⟨vs,(l,listO ps n) :: M,I'⟩):H x (call (.ref 124) [v]) ⟨vs,M,I⟩ k:=by
  obtain ⟨f0,l,ws,rfl,hi,hl⟩:=r
  obtain ⟨_,hm⟩:=hl.at
  have hz:ws.length ≤ 1000:=Nat.le_of_succ_le hz
  refine fr124.run rfl hr fun x' _=>getH hi g134_fun rfl trivial fun t1 t2 a=>getH (hi.mono Sub.one.cons) g134_args rfl trivial (argsComp (.tail _ (.tail _ hm)) hz fun acc ps m I' h1 h2=>?_)
  refine addLH (.inl (.tail _ (.head _))) (.inl (.head _)) (Nat.le_trans (Nat.add_le_add_left (Nat.le_trans (Nat.le_of_eq h2.len.1) hz) 1) (by decide)) fun r=>retL (Le.drop (.tail .head) (Le.drop (.tail .head) Le.refl)) (q _ _ _ _ (Sub.one.cons.trans h1) ?_)
  exact .cons ⟨_,_,rfl,h1 _ (.head _)⟩ ⟨_,_,rfl,h1 _ (.tail _ (.head _))⟩ h2
theorem parts166 {p0:Str} {ws0:List Value} (r:RepH I (.lam p0) v ws0) (hr:1 ≤ x.c.room) (q:∀ l ps n I',Sub I I'→PartsI I' ps ws0 (fl true ws0)→k (.ref l) ⟨vs,(l,listO ps n) :: M,I'⟩):H x (call (.ref 166) [v]) ⟨vs,M,I⟩ k:=by
  obtain ⟨b0,l,t0,rfl,hi,hl⟩:=r
  exact fr166.run rfl hr fun x' _=>getH hi g176_body rfl trivial fun t1 t2 t3 a=>retI (q _ _ _ _ Sub.one.cons (.cons ⟨_,_,rfl,.head _⟩ ⟨_,_,_,rfl,.tail _ (.head _)⟩ .nil))
theorem groups159 {p0:Str} {ws0:List Value} (r:RepH I (.lam p0) v ws0) (hr:1 ≤ x.c.room) (q:∀ l g t,LisI I g [.str p0 t]→k (.ref l) ⟨vs,(l,listO [g] 0) :: M,I⟩):H x (call (.ref 159) [v]) ⟨vs,M,I⟩ k:=by
  obtain ⟨b0,l,t0,rfl,hi,hl⟩:=r
  exact fr159.run rfl hr fun x' _=>getH hi g176_params rfl trivial fun a=>retI (q _ _ _ hl)
theorem groups199 {xs:List Str} {r0:Bool} {ws0:List Value} (r:RepH I (.lett xs r0) v ws0) (hr:1 ≤ x.c.room) (hz:ws0.length ≤ 1000) (q:∀ l g ys I',Sub I I'→LisI I' g ys→StrsAre ys xs→k (.ref l) ⟨vs,(l,listO [g] 0) :: M,I'⟩):H x (call (.ref 199) [v]) ⟨vs,M,I⟩ k:=by
  obtain ⟨l,ps,bs,b0,rfl,hi,hl,hB⟩:=r
  obtain ⟨_,hm⟩:=hl.at
  have hlen:=hB.len
  have hz:ps.length ≤ 1000:=by rw [List.length_append] at hz; exact Nat.le_trans (Nat.le_of_eq (hlen.1.trans hlen.2.symm)) (Nat.le_of_succ_le hz)
  refine fr199.run rfl hr fun x' _=>getH hi g212_binds rfl trivial (compH (fun _ _=>(M,I)) (fun i ys (_:Unit)=>StrsAre ys (xs.take i)) () (itList (.inr hm)) rfl .nil (Nat.le_trans hz (by decide)) (fun _ _ _ _=>srcL (.inr hm)) (fun x' hr i y ys d it o m acc u hi' hX h _ V9=>?_) fun acc ys d m h a=>?_)
  · exact asgB hB hX Sub.refl fun z tz vz h1 h2=>V9.ce (m:=m) () (by rw [take_next h1]; exact strs_snoc h) Le.refl rfl
  · exact retL (Le.freeze (.tail .head) Le.refl) (q _ _ _ _ Sub.one ⟨_,_,rfl,.head _⟩ (by rw [hlen.1,List.take_length] at h; exact h))
theorem parts204 {xs:List Str} {r0:Bool} {ws0:List Value} (r:RepH I (.lett xs r0) v ws0) (hr:1 ≤ x.c.room) (hz:ws0.length ≤ 1000) (q:∀ l ps n I',Sub I I'→PartsI I' ps ws0 (xs.map (fun _=>r0) ++ [true])→k (.ref l) ⟨vs,(l,listO ps n) :: M,I'⟩):H x (call (.ref 204) [v]) ⟨vs,M,I⟩ k:=by
  obtain ⟨l,ps,bs,b0,rfl,hi,hl,hB⟩:=r
  obtain ⟨_,hm⟩:=hl.at
  have hlen:=hB.len
  have hz:bs.length ≤ 1000:=by rw [List.length_append] at hz; exact Nat.le_of_succ_le hz
  refine fr204.run rfl hr fun x' _=>join (fun sv st=>∃ I1,st = ⟨[some v,none],M,I1⟩∧Sub I I1∧ScopeI I1 sv r0)
    (getH hi g212_is_rec rfl trivial (cnd (fun h t r=>⟨_,rfl,Sub.one,by subst h; exact ⟨_,_,_,rfl,.head _⟩⟩) fun h r=>⟨_,rfl,Sub.one,by subst h; exact ⟨_,_,rfl,.head _⟩⟩)) fun sv st h=>?_
  obtain ⟨I1,rfl,hs1,hsv⟩:=h
  refine getH (hi.mono hs1) g212_binds rfl trivial (compH (fun _ I'=>(M,I')) (fun i ys I'=>Sub I1 I'∧PartsI I' ys (bs.take i) (fl r0 (bs.take i))) I1 (itList (.inr (hs1 _ hm))) rfl ⟨Sub.refl,.nil⟩ (Nat.le_trans (Nat.le_of_eq (hlen.1.trans hlen.2.symm)) (Nat.le_trans hz (by decide))) (fun _ _ _ h=>srcL (.inr (h.1 _ (hs1 _ hm))))
      (fun x' hr i y ys I' it o m acc u hi' hX h _ V9=>?_) fun acc ys I' m h=>getH (hi.mono (hs1.trans h.1)) g212_body rfl trivial fun t r1 r2 a=>?_)
  · exact asgB hB hX (hs1.trans h.1) fun z tz vz h1 h2 r=>V9.ce (m:=m) _ ⟨h.1.trans Sub.one,h.2.next Sub.one h2 ⟨_,_,rfl,.head _⟩ (hsv.mono (h.1.trans Sub.one))⟩ Le.refl rfl
  · have hP:=h.2.whole (hlen.1.trans hlen.2.symm)
    refine addLH (.inl (.tail _ (.head _))) (.inl (.head _)) (Nat.le_trans (Nat.add_le_add_right (Nat.le_trans (Nat.le_of_eq hP.len.1) hz) 1) (by decide)) fun r=>retL (Le.drop (.tail .head) (Le.drop (.tail .head) Le.refl)) (q _ _ _ _ (hs1.trans (h.1.trans Sub.one.cons)) ?_)
    have e1:xs.map (fun _=>r0) = fl r0 bs:=by
      unfold fl; rw [List.map_const',List.map_const',hlen.2]
    rw [e1]
    exact (hP.mono Sub.one.cons).snoc (b:=true) ⟨_,_,rfl,.head _⟩ ⟨_,_,_,rfl,.tail _ (.head _)⟩
theorem fl_rep {b:Bool}:fl b ws = List.replicate ws.length b:=List.map_const' ..
theorem PartsI.rep {I ps b} {ws:List Value} (h:PartsI I ps ws (fl b ws)):PartsI I ps ws (List.replicate ws.length b):=fl_rep (ws:=ws) ▸ h
theorem partsH {h:Hd} (r:RepH I h v ws) (hr:1 ≤ x.c.room) (hz:ws.length ≤ 1000) (q:∀ l ps n I',Sub I I'→PartsI I' ps ws (scs h ws.length)→k (.ref l) ⟨vs,(l,listO ps n) :: M,I'⟩) :
    HM x v "parts" ⟨vs,M,I⟩ fun p st=>H x (call p.1 (p.2 ++ [])) st k:=by
  obtain ⟨fs,hi,_,hl,_⟩:=r.ins
  cases h with
  | var y=>exact methH hi m52_parts rfl hl (fr42.run rfl hr fun x' _ l=>retI (q l [] 0 I Sub.refl (by rw [r.1]; exact .nil)))
  | lit y n=>exact methH hi m94_parts rfl hl (fr84.run rfl hr fun x' _ l=>retI (q l [] 0 I Sub.refl (by rw [r.1]; exact .nil)))
  | app=>exact methH hi m134_parts rfl hl (parts124 r hr hz fun l ps n I' h1 h2=>q l ps n I' h1 h2.rep)
  | lam p=>exact methH hi m176_parts rfl hl (parts166 r hr fun l ps n I' h1 h2=>q l ps n I' h1 h2.rep)
  | lett xs r0=>exact methH hi m212_parts rfl hl (parts204 r hr hz q)
  | con p=>exact methH hi m252_parts rfl hl (parts242 r hr hz fun l ps n I' h1 h2=>q l ps n I' h1 h2.rep)
  | prim p=>exact methH hi m292_parts rfl hl (parts282 r hr hz fun l ps n I' h1 h2=>q l ps n I' h1 h2.rep)
inductive GroupsI (I:Led):List Value→List (List Str)→Prop
  | nil:GroupsI I [] []
  | cons {g ys xs gs xss}:LisI I g ys→StrsAre ys xs→GroupsI I gs xss→GroupsI I (g :: gs) (xs :: xss)
theorem GroupsI.mono {I I' gs xss} (h:GroupsI I gs xss) (k:Sub I I'):GroupsI I' gs xss:=by
  induction h with
  | nil=>exact .nil
  | cons a b _ ih=>exact .cons (a.mono k) b ih
theorem groupsH {h:Hd} (r:RepH I h v ws) (hr:1 ≤ x.c.room) (hz:ws.length ≤ 1000) (q:∀ l gv n I',Sub I I'→GroupsI I' gv (gps h)→k (.ref l) ⟨vs,(l,listO gv n) :: M,I'⟩) :
    HM x v "groups" ⟨vs,M,I⟩ fun p st=>H x (call p.1 (p.2 ++ [])) st k:=by
  obtain ⟨fs,hi,hl,_⟩:=r.ins
  cases h with
  | var y=>exact methH hi m52_groups rfl hl (fr35.run rfl hr fun x' _ l=>retI (q l [] 0 I Sub.refl .nil))
  | lit y n=>exact methH hi m94_groups rfl hl (fr77.run rfl hr fun x' _ l=>retI (q l [] 0 I Sub.refl .nil))
  | app=>exact methH hi m134_groups rfl hl (fr119.run rfl hr fun x' _ l=>retI (q l [] 0 I Sub.refl .nil))
  | lam p=>exact methH hi m176_groups rfl hl (groups159 r hr fun l g t h1=>q l [g] 0 I Sub.refl (.cons h1 (.cons _ _ .nil) .nil))
  | lett xs r0=>exact methH hi m212_groups rfl hl (groups199 r hr hz fun l g ys I' h0 h1 h2=>q l [g] 0 I' h0 (.cons h1 h2 .nil))
  | con p=>exact methH hi m252_groups rfl hl (fr237.run rfl hr fun x' _ l=>retI (q l [] 0 I Sub.refl .nil))
  | prim p=>exact methH hi m292_groups rfl hl (fr277.run rfl hr fun x' _ l=>retI (q l [] 0 I Sub.refl .nil))
end
end
section
set_option maxRecDepth 10000000
noncomputable def effU:Hd→Unit→List (Str × Value)→List (Str × Value)
  | .var x,_,kvs=>stored kvs x (.bool true)
  | _,_,kvs=>kvs
noncomputable def ctxU:Hd→Unit→Nat→List Unit:=fun _ _ n=>List.replicate n ()
def TaskU (I:Led) (p:Value) (t:Tr) (_:Unit):Prop:=Rep I t p
theorem TaskU.mono {I I' p t b} (k:Sub I I') (h:TaskU I p t b):TaskU I' p t b:=Rep.mono k h
theorem effU_len (h:Hd) (b:Unit) (kvs:List (Str × Value)):(effU h b kvs).length ≤ kvs.length + 1:=by
  cases h <;> first | exact stored_length_le _ _ _ | exact Nat.le_succ _
theorem var_of {h:Hd} (hb:(clsOf h == 52) = true):∃ x,h = .var x:=by
  cases h <;> first | exact ⟨_,rfl⟩ | (cases hb)
theorem effU_not {h:Hd} {b:Unit} {kvs:List (Str × Value)} (hb:(clsOf h == 52) = false):effU h b kvs = kvs:=by
  cases h <;> first | rfl | (cases hb)
theorem tasks_reps {I:Led}:∀ {ks:List Tr} {ws:List Value},Reps I ks ws→TasksI TaskU I ws ks (List.replicate ks.length ())
  | [],[],_=>.nil
  | _ :: _,_ :: _,x=>.cons x.1 (tasks_reps x.2)
  | [],_ :: _,x=>x.elim
  | _ :: _,[],x=>x.elim
theorem take_app {ps L ws:List Value} {i:Nat} {u:Value} (h:L = ps ++ ws.take i) (k:ws[i]? = some u):L ++ [u] = ps ++ ws.take (i + 1):=by rw [take_next k,h,List.append_assoc]
theorem app_whole {ps L ws:List Value} {i:Nat} (h:L = ps ++ ws.take i) (k:i = ws.length):ps ++ ws = L:=by rw [h,k,List.take_length]
theorem app_take {ps ws:List Value} {ks:List Tr} {i n:Nat} (h:ps.length + ks.length ≤ n) (k:ks.length = ws.length):(ps ++ ws.take i).length ≤ n:=by
  rw [List.length_append,List.length_take]
  exact Nat.le_trans (Nat.add_le_add_left (Nat.le_trans (Nat.min_le_right _ _) (Nat.le_of_eq k.symm)) _) h
section
variable {e:E0} {x:Ctx e} {vs:List (Option Value)} {M I:Led} {k:Value→Sta→Prop} {v:Value} {ws:List Value}
theorem le100 {n:Nat} (h:n ≤ 1000):n ≤ 10000000:=Nat.le_trans h (by decide)
noncomputable def S427 (v:Value) (d tl:Addr) (M:Led):List Value × List Tr × List Unit × List (Str × Value) × Obj × Led × Nat × Option Value × Option Value × Option Value→Sta
  | (ps,_,_,_,o,I,n,u1,u2,u3)=>⟨[some v,some (.ref d),some (.ref tl),u1,u2,u3],(tl,listO ps n) :: (d,o) :: M,I⟩
def F427 (e:E0) (d:Addr) (I0:Led) (R:List (Str × Value)) (n:Nat):List Value × List Tr × List Unit × List (Str × Value) × Obj × Led × Nat × Option Value × Option Value × Option Value→Prop
  | (ps,ts,bs,kvs,o,I,_)=>TasksI TaskU I ps ts bs∧Sub I0 I∧DO e d o kvs∧travs effU ctxU ts bs kvs = R∧n = tsizes ts∧kvs.length + n ≤ 1000
noncomputable def S427b (v p:Value) (d tl:Addr) (M I:Led) (_:Nat):List Value × Nat × Obj × Option Value × Option Value→Sta
  | (L,n,o,u1,u2)=>⟨[some v,some (.ref d),some (.ref tl),some p,u1,u2],(tl,listO L n) :: (d,o) :: M,I⟩
def F427b (e:E0) (d:Addr) (ps ws:List Value) (kvs:List (Str × Value)) (i:Nat):List Value × Nat × Obj × Option Value × Option Value→Prop
  | (L,_,o,_)=>L = ps ++ ws.take i∧DO e d o kvs
theorem tot {a b n:Nat} (h:a + b ≤ n):b ≤ n:=Nat.le_trans (Nat.le_add_left _ _) h
theorem tot' {a b n:Nat} (h:a + b ≤ n):a ≤ n:=Nat.le_trans (Nat.le_add_right _ _) h
theorem TaskU.open {P:Prop} {I:Led} {p:Value} {hd:Hd} {ks:List Tr} {b:Unit} (h:TaskU I p (.node hd ks) b) (q:∀ ws,RepH I hd p ws→Reps I ks ws→P):P:=let ⟨ws,h1,h2⟩:=h; q ws h1 h2
noncomputable def nmOf (h:Hd):Str:=match h with
  | .var y=>y
  | _=>""
def FldI (I:Led) (v:Value) (C:Addr) (name:Str) (u:Value):Prop:=∃ fs,Ins I v C fs∧lookS name fs = some u∧NB u
def FldS (I:Led) (v:Value) (C:Addr) (name y:Str):Prop:=∃ t,FldI I v C name (.str y t)
theorem FldI.mono {I I' v C n u} (h:FldI I v C n u) (k:Sub I I'):FldI I' v C n u:=let ⟨fs,a,b⟩:=h; ⟨fs,a.mono k,b⟩
theorem getF {st:Sta} {u:Value} {C:Addr} {name:Str} {b:Bool} (h:FldI st.I v C name u) (hc:ClsGet e.K C name) (q:k u st):H x (getAttr v name b) st k:=let ⟨_,a,b,c⟩:=h; getH a hc b c q
theorem getFS {st:Sta} {y:Str} {C:Addr} {name:Str} {b:Bool} (h:FldS st.I v C name y) (hc:ClsGet e.K C name) (q:∀ t,k (.str y t) st):H x (getAttr v name b) st k:=let ⟨t,h⟩:=h; getF h hc (q t)
theorem var_name {h:Hd} (r:RepH I h v ws) (hb:(clsOf h == 52) = true):FldS I v 52 "name" (nmOf h):=by
  obtain ⟨y,rfl⟩:=var_of hb
  obtain ⟨_,t,hi⟩:=r
  exact ⟨t,_,hi,rfl,trivial⟩
theorem var_effU {h:Hd} {kvs:List (Str × Value)} (hb:(clsOf h == 52) = true):effU h () kvs = stored kvs (nmOf h) (.bool true):=by
  obtain ⟨y,rfl⟩:=var_of hb
  rfl
theorem used_namesH {t:Tr} (r:Rep I t v) (hr:2 ≤ x.c.room) (hz:tsize t ≤ 900) (q:∀ d o I',Sub I I'→DO e d o (trav effU ctxU t () [])→k (.ref d) ⟨vs,(d,o) :: M,I'⟩):H x (call (.ref 427) [v]) ⟨vs,M,I⟩ k:=by
  refine fr427.run rfl hr fun x' hx d o hd tl T=>whlH8 (S427 v d tl M) (F427 e d I (trav effU ctxU t () [])) (tsizes [t]) ([v],[t],[()],[],o,_,0,none,none,none) Le.refl ⟨.cons (r.mono Sub.one) .nil,Sub.one,hd,rfl,rfl,Nat.le_trans (Nat.le_of_eq (Nat.zero_add _)) (Nat.le_trans hz (by decide))⟩ fun n ps ts bs kvs o I1 m u h _ V9=>?_
  refine truH (.inl (.head _)) (le100 (Nat.le_trans h.1.len_le (h.2.2.2.2.1 ▸ tot h.2.2.2.2.2))) (cnd (fun hne=>stack_e h.1 h.2.2.2.1 h.2.2.2.2.1 hne fun ps p hd ks b ts bs hT hTs hR hn hl=>hT.open fun ws rH rK=>?step) fun he=>retL (Le.drop .head Le.refl) (q d o I1 h.2.1 (stack_end h.1 he h.2.2.2.1 ▸ h.2.2.1)))
  case step=>
    have hl:=Nat.le_of_succ_le (Nat.le_trans hl (tot h.2.2.2.2.2))
    refine mPop (.inl (.head _)) (popH .head (le100 (tot' hl)) (joinF (fun o=>S427b v p d tl M I1 0 (ps,m + 1,o,u.2)) (fun o=>DO e d o (effU hd () kvs))
      (fun _ J9=>isiH rH rfl (cnd (fun hb=>getFS (var_name rH hb) g52_name fun ty=>dSet h.2.2.1 (fun _=>.tail .head) (le100 (tot' h.2.2.2.2.2)) fun o' ho'=>J9.jf o' (var_effU hb ▸ ho')) fun hb=>J9.jf o (effU_not hb ▸ h.2.2.1))) fun o2 ho2=>
      partsH rH (rm hx rfl) (rK.len ▸ tot hl) fun l pp n2 I2 h1 hps=>ForH.freeze .head (forH5 (S427b v p d tl M ((l,listO pp n2) :: I2)) (F427b e d ps ws (effU hd () kvs)) (ps,m + 1,o2,u.2) (itList (.inr (.head _))) rfl ⟨(List.append_nil _).symm,ho2⟩ (fun _ _ _ _ _ _ _=>srcL (.inr (.head _)))
        (fun i y L n o u1 u2 it io hi hX hL _ V9=>asgP hps hX Sub.one fun u sv b hw hb hsc=>mAppend (.inl (.tail _ (.head _))) (appendH (.tail .head) (le100 (hL.1 ▸ app_take hl rK.len)) (V9.tnext (L ++ [u],n + 1,o,some u,some sv) ⟨take_app hL.1 hw,hL.2⟩ Le.refl)))
        fun L n o u1 u2 hL=>V9.wnext (m:=tsizes (ts ++ ks)) (L,ts ++ ks,bs ++ ctxU hd b ks.length,effU hd () kvs,o,(l,listO pp n2) :: I2,n,some p,u1,u2) (lt_of_succ hn) ⟨app_whole hL.1 hps.len.1 ▸ (TasksI.mono (TaskOk:=TaskU) TaskU.mono (h1.trans Sub.one) hTs).app (tasks_reps (rK.mono (h1.trans Sub.one))),h.2.1.trans (h1.trans Sub.one),hL.2,hR,rfl,stepz (effU_len hd () kvs) h.2.2.2.2.2 hn⟩ Le.refl)))
end
end
section
def SetI (e:E0) (I:Led) (v:Value) (B:Str→Bool) (n:Nat):Prop:=∃ kvs,DicI e I v kvs∧(∀ x,(valueAt kvs x).isSome = B x)∧kvs.length ≤ n
theorem SetI.mono {e I I' v B n} (h:SetI e I v B n) (k:Sub I I'):SetI e I' v B n:=let ⟨kvs,h1,h2,h3⟩:=h; ⟨kvs,h1.mono k,h2,h3⟩
theorem isSome_stored {kvs:List (Str × Value)} {k y:Str} {v:Value}:(valueAt (stored kvs k v) y).isSome = ((valueAt kvs y).isSome || decide (y = k)):=by
  have h1:=valueAt_stored kvs k v y
  rw [h1]
  by_cases h:y = k
  · subst h; simp
  · simp [h]
theorem strs_at {ys:List Value} {xs:List Str} (h:StrsAre ys xs):∀ {j:Nat} {v:Value},ys[j]? = some v→∃ x t,v = .str x t∧xs[j]? = some x:=by
  induction h with
  | nil=>intro j v h; simp at h
  | cons y t _ ih=>
    intro j v h
    cases j with
    | zero=>simp at h; exact ⟨y,t,h.symm,rfl⟩
    | succ j=>simp at h; simpa using ih h
theorem strs_len {ys:List Value} {xs:List Str} (h:StrsAre ys xs):ys.length = xs.length:=by
  induction h with
  | nil=>rfl
  | cons _ _ _ ih=>simp [ih]
noncomputable def addAll (B:Str→Bool) (xs:List Str):Str→Bool:=fun y=>B y || decide (y ∈ xs)
abbrev CB:=(Str→Bool) × Nat
noncomputable def effF:Hd→CB→List (Str × Value)→List (Str × Value)
  | .var x,b,kvs=>if b.1 x then kvs else stored kvs x (.bool true)
  | _,_,kvs=>kvs
noncomputable def ctxF (h:Hd) (b:CB) (n:Nat):List CB:=(scs h n).map fun f=>(if f then addAll b.1 (gps h).flatten else b.1,b.2 + 1000)
def TaskF (e:E0) (I:Led) (p:Value) (t:Tr) (b:CB):Prop:=∃ v bd,TupI I p [v,bd]∧Rep I t v∧SetI e I bd b.1 b.2∧b.2 + 1000 * tsize t ≤ 1000000
theorem effF_len (h:Hd) (b:CB) (kvs:List (Str × Value)):(effF h b kvs).length ≤ kvs.length + 1:=by
  cases h with
  | var x=>
    show (if b.1 x then kvs else stored kvs x (.bool true)).length ≤ _
    by_cases hx:b.1 x = true
    · rw [if_pos hx]; exact Nat.le_succ _
    · rw [if_neg hx]; exact stored_length_le _ _ _
  | _=>exact Nat.le_succ _
theorem effF_not {h:Hd} {b:CB} {kvs:List (Str × Value)} (hb:(clsOf h == 52) = false):effF h b kvs = kvs:=by
  cases h <;> first | rfl | (cases hb)
theorem TaskF.mono {e:E0} {I I':Led} {p:Value} {t:Tr} {b:CB} (k:Sub I I') (h:TaskF e I p t b):TaskF e I' p t b:=by
  obtain ⟨v,bd,h1,h2,h3,h4⟩:=h
  exact ⟨v,bd,h1.mono k,h2.mono k,h3.mono k,h4⟩
theorem Reps.at {I:Led}:∀ {ks:List Tr} {ws:List Value},Reps I ks ws→∀ {i:Nat} {w:Value},ws[i]? = some w→∃ t,ks[i]? = some t∧Rep I t w
  | _ :: _,_ :: _,x,0,w,h=>by simp at h; subst h; exact ⟨_,rfl,x.1⟩
  | _ :: _,_ :: _,x,i + 1,w,h=>by simp at h; simpa using Reps.at x.2 h
  | [],[],_,i,w,h=>by simp at h
  | [],_ :: _,x,_,_,_=>x.elim
  | _ :: _,[],x,_,_,_=>x.elim
theorem tsize_at {ks:List Tr} {i:Nat} {t:Tr} (h:ks[i]? = some t):tsize t ≤ tsizes ks:=by
  induction ks generalizing i with
  | nil=>simp at h
  | cons k ks ih=>
    unfold tsizes
    cases i with
    | zero=>simp at h; subst h; lia
    | succ i=>simp at h; have:=ih h; lia
theorem gps_of {I h v ws} (r:RepH I h v ws):∀ b ∈ scs h ws.length,b = true→∃ xs,gps h = [xs]∧xs.length ≤ ws.length:=by
  intro b hb hbt
  cases h with
  | var x=>simp [scs] at hb; rw [hb.2] at hbt; cases hbt
  | lit x n=>simp [scs] at hb; rw [hb.2] at hbt; cases hbt
  | app=>simp [scs] at hb; rw [hb.2] at hbt; cases hbt
  | lam p=>obtain ⟨_,_,_,rfl,_⟩:=r; exact ⟨[p],rfl,by simp⟩
  | lett xs r0=>
    obtain ⟨_,_,bs,_,rfl,_,_,hB⟩:=r
    exact ⟨xs,rfl,by have:=hB.len.2; simp; lia⟩
  | con x=>simp [scs] at hb; rw [hb.2] at hbt; cases hbt
  | prim x=>simp [scs] at hb; rw [hb.2] at hbt; cases hbt
theorem scs_len {I h v ws} (r:RepH I h v ws):(scs h ws.length).length = ws.length:=by
  cases h with
  | lett xs r0=>
    obtain ⟨_,_,bs,_,rfl,_,_,hB⟩:=r
    have:=hB.len.2
    simp [scs,this]
  | _=>simp [scs]
theorem add_next {B:Str→Bool} {xs:List Str} {z:Str} {kvs:List (Str × Value)} {j:Nat} (h:∀ x,(valueAt kvs x).isSome = addAll B (xs.take j) x) (hz:xs[j]? = some z) (x:Str):(valueAt (stored kvs z (.bool true)) x).isSome = addAll B (xs.take (j + 1)) x:=by
  rw [isSome_stored,h x,take_next hz]
  simp [addAll,Bool.or_assoc]
theorem add0 {B:Str→Bool} {xs:List Str} {c:Nat} {x:Str}:addAll B (xs.take (0 * c)) x = B x:=by rw [Nat.zero_mul]; exact Bool.or_false _
theorem add1 {B:Str→Bool} {xs:List Str} {x:Str}:addAll B (xs.take (1 * xs.length)) x = (if true = true then addAll B [xs].flatten else B) x:=by rw [Nat.one_mul,List.take_length]; simp
theorem leaf_ks {I:Led} {h:Hd} {v:Value} {ws:List Value} {ks:List Tr} (r:RepH I h v ws) (hb:(clsOf h == 52) = true) (k:Reps I ks ws):ks = []:=by
  obtain ⟨y,rfl⟩:=var_of hb
  obtain ⟨rfl,_⟩:=r
  exact List.eq_nil_of_length_eq_zero k.len
theorem TasksI.leaf {C:Type} {TaskOk:Led→Value→Tr→C→Prop} {I:Led} {ps ts bs} {ks:List Tr} {cs:List C} (h:TasksI TaskOk I ps ts bs) (hk:ks = []) (hc:cs.length = ks.length):TasksI TaskOk I ps (ts ++ ks) (bs ++ cs):=by
  subst hk
  rw [List.eq_nil_of_length_eq_zero hc]
  exact h.app_nil
theorem ctxF_len {I:Led} {h:Hd} {v:Value} {ws:List Value} {ks:List Tr} {b:CB} (r:RepH I h v ws) (k:Reps I ks ws):(ctxF h b ks.length).length = ks.length:=by
  unfold ctxF; rw [List.length_map,k.len,scs_len r]
theorem ctxF_at {I:Led} {h:Hd} {ws:List Value} {ks:List Tr} {b:CB} {i:Nat} {f:Bool} (k:Reps I ks ws) (hf:(scs h ws.length)[i]? = some f):(ctxF h b ks.length)[i]? = some (if f then addAll b.1 (gps h).flatten else b.1,b.2 + 1000):=by
  unfold ctxF
  rw [List.getElem?_map,k.len,hf]; rfl
theorem bndF {b s S N:Nat} (h:b + (1000 * S + 1000) ≤ N) (k:s ≤ S):b + 1000 + 1000 * s ≤ N:=by lia
theorem TaskF.open {e:E0} {P:Prop} {I:Led} {p:Value} {hd:Hd} {ks:List Tr} {b:CB} (h:TaskF e I p (.node hd ks) b) (q:∀ pv bd ws,TupI I p [pv,bd]→RepH I hd pv ws→Reps I ks ws→SetI e I bd b.1 b.2→b.2 + (1000 * tsizes ks + 1000) ≤ 1000000→P):P:=
  let ⟨v,bd,h1,⟨ws,h2,h3⟩,h4,h5⟩:=h
  q v bd ws h1 h2 h3 h4 h5
theorem var_effF {h:Hd} {b:CB} {kvs:List (Str × Value)} (hb:(clsOf h == 52) = true):effF h b kvs = if b.1 (nmOf h) then kvs else stored kvs (nmOf h) (.bool true):=by
  obtain ⟨y,rfl⟩:=var_of hb
  rfl
theorem effF_yes {h:Hd} {b:CB} {kvs:List (Str × Value)} (hb:(clsOf h == 52) = true) (k:(!b.1 (nmOf h)) = true):effF h b kvs = stored kvs (nmOf h) (.bool true):=by
  have k:b.1 (nmOf h) = false:=by
    cases q:b.1 (nmOf h)
    · rfl
    · rw [q] at k; cases k
  rw [var_effF hb,k]; rfl
theorem effF_no {h:Hd} {b:CB} {kvs:List (Str × Value)} (hb:(clsOf h == 52) = true) (k:(!b.1 (nmOf h)) = false):effF h b kvs = kvs:=by
  have k:b.1 (nmOf h) = true:=by
    cases q:b.1 (nmOf h)
    · rw [q] at k; cases k
    · rfl
  rw [var_effF hb,k]; rfl
theorem at_lt {α:Type} {l:List α} {i n:Nat} {y:α} (h:l[i]? = some y) (k:l.length = n):i < n:=k ▸ (List.getElem?_eq_some_iff.mp h).1
theorem TasksI.len_take {C:Type} {TaskOk:Led→Value→Tr→C→Prop} {I:Led} {L:List Value} {ts ks:List Tr} {bs:List C} {i n m:Nat} (h:TasksI TaskOk I L (ts ++ ks.take i) bs) (k:m + ks.length ≤ n) (hm:m = ts.length):L.length ≤ n:=by
  rw [h.len.1,List.length_append,List.length_take,← hm]
  exact Nat.le_trans (Nat.add_le_add_left (Nat.min_le_right _ _) _) k
noncomputable def S303 (da ga sa fd:Addr) (M I:Led) (_:Nat):Obj × List (Str × Value) × Option Value × Option Value→Sta
  | (o,_,u,w)=>⟨[some (.ref da),some (.ref ga),some (.ref sa),some (.ref fd),u,w],(fd,o) :: M,I⟩
noncomputable def S303b (da ga sa fd:Addr) (z:Value) (it:Addr) (io:Obj) (M I:Led) (_:Nat):Obj × List (Str × Value) × Option Value→Sta
  | (o,_,w)=>⟨[some (.ref da),some (.ref ga),some (.ref sa),some (.ref fd),some z,w],(it,io) :: (fd,o) :: M,I⟩
def F303 {α:Type} (e:E0) (fd:Addr) (B:Str→Bool) (xs:List Str) (n:Nat) (f:Nat→Nat) (i:Nat):Obj × List (Str × Value) × α→Prop
  | (o,kvs,_)=>DO e fd o kvs∧(∀ x,(valueAt kvs x).isSome = addAll B (xs.take (f i)) x)∧kvs.length ≤ n + f i
section
variable {e:E0} {x:Ctx e} {vs:List (Option Value)} {M I:Led} {k:Value→Sta→Prop} {v:Value} {ws:List Value}
theorem notInS {bd:Value} {B:Str→Bool} {n:Nat} {y:Str} {t:Tok} (h:SetI e I bd B n) (q:k (.bool (!B y)) ⟨vs,M,I⟩):H x (compareOp .NotIn (.str y t) bd) ⟨vs,M,I⟩ k:=by
  obtain ⟨kvs,⟨da,od,rfl,hdm,hd⟩,hB,hlen⟩:=h
  exact dNotIn (.inr hdm) hd (by rw [hB y]; exact q)
theorem scopedH {bd gl sv:Value} {B:Str→Bool} {n:Nat} {gv:List Value} {xss:List (List Str)} {b:Bool} (hbd:SetI e I bd B n) (hgl:LisI I gl gv) (hg:GroupsI I gv xss) (hsv:ScopeI I sv b)
    (hb:b = true→∃ xs,xss = [xs]∧xs.length ≤ 1000) (hn:n ≤ 1000000) (hr:1 ≤ x.c.room) (q:∀ v I',Sub I I'→SetI e I' v (if b then addAll B xss.flatten else B) (n + 1000)→k v ⟨vs,M,I'⟩):H x (call (.ref 303) [bd,gl,sv]) ⟨vs,M,I⟩ k:=by
  obtain ⟨kvs,⟨da,od,rfl,hdm,hd⟩,hB,hlen⟩:=hbd
  obtain ⟨ga,gn,rfl,hgm⟩:=hgl
  cases b with
  | false=>
    obtain ⟨sa,sn,rfl,hsm⟩:=hsv
    exact fr303.run rfl hr fun x' _ r=>eqT0 (.inr (.tail _ hsm)) (.inr (.head _)) (retI (q _ _ Sub.one ⟨kvs,⟨da,od,rfl,.tail _ hdm,hd⟩,hB,Nat.le_trans hlen (Nat.le_add_right _ _)⟩))
  | true=>
    obtain ⟨st,sa,sn,rfl,hsm⟩:=hsv
    obtain ⟨xs,rfl,hxl⟩:=hb rfl
    cases hg with
    | @cons g ys _ _ _ hgg hyx hnil=>
    cases hnil
    obtain ⟨g0,g0n,rfl,hg0⟩:=hgg
    have hyl:=strs_len hyx
    have hn2:∀ {m c:Nat},m ≤ n + c→c ≤ xs.length→m ≤ 10000000:=fun h1 h2=>Nat.le_trans h1 (Nat.le_trans (Nat.add_le_add hn (Nat.le_trans h2 hxl)) (by decide))
    refine fr303.run rfl hr fun x' _ r=>eqT0 (.inr (.tail _ hsm)) (.inr (.head _)) (dCopy (.inr (.tail _ hdm)) hd (Nat.le_trans hlen (Nat.le_trans hn (by decide))) fun fd o hd2=>
      forH4 (S303 da ga sa fd M ((r,tupO [] 0) :: I)) (F303 e fd B xs n fun i=>i * xs.length) (o,kvs,none,none) (itTup (xs:=[.int 0 st]) (.inr (.tail _ hsm))) rfl ⟨hd2,fun x=>?h0,Nat.le_trans hlen (Nat.le_add_right _ _)⟩ (fun _ _ _ _ _ _=>srcT (.inr (.tail _ hsm)))
        (fun i y o kvs2 u w it io hi hX h _ V9=>?step) fun o kvs2 u w h=>retL (Le.freeze .head Le.refl) (q _ _ Sub.one.cons ⟨kvs2,⟨fd,o,rfl,.head _,h.1⟩,fun x=>(h.2.1 x).trans ?hx,Nat.le_trans h.2.2 ?hz⟩))
    case h0=>exact (hB x).trans add0.symm
    case hx=>exact add1
    case hz=>exact Nat.add_le_add_left (Nat.le_trans (Nat.le_of_eq (Nat.one_mul _)) hxl) _
    case step=>
      obtain rfl:i = 0:=Nat.lt_one_iff.mp hi
      obtain rfl:=Option.some.inj hX
      refine itemH (i:=0) (.inr (.tail _ hgm)) (by decide) rfl (forH3 (S303b da ga sa fd (.int 0 st) it io M ((r,tupO [] 0) :: I)) (F303 e fd B xs n id) (o,kvs2,w) (itList (.inr (.tail _ hg0))) rfl ⟨h.1,fun x=>(h.2.1 x).trans (add0.trans (Bool.or_false _).symm),Nat.le_trans h.2.2 (Nat.le_of_eq (congrArg (n + ·) (Nat.zero_mul _)))⟩ (fun _ _ _ _ _=>srcL (.inr (.tail _ hg0)))
        (fun j y o3 kvs3 w it2 io2 hj hX h3 _ V9=>?_) fun o3 kvs3 w h3=>V9.tnext (o3,kvs3,some (.int 0 st),w) ⟨h3.1,fun x=>(h3.2.1 x).trans (congrArg (fun c=>addAll B (xs.take c) x) (hyl.trans (Nat.one_mul _).symm)),Nat.le_trans h3.2.2 (Nat.le_of_eq (congrArg (n + ·) (hyl.trans (Nat.one_mul _).symm)))⟩ Le.refl)
      obtain ⟨z,tz,rfl,hz⟩:=strs_at hyx hX
      exact dSet h3.1 (fun o'=>.tail (.tail .head)) (hn2 h3.2.2 (hyl ▸ Nat.le_of_lt hj)) fun o4 hd5=>V9.tnext (o4,stored kvs3 z (.bool true),some (.str z tz)) ⟨hd5,add_next h3.2.1 hz,Nat.le_trans (stored_length_le kvs3 z (.bool true)) (Nat.succ_le_succ h3.2.2)⟩ Le.refl
noncomputable def S310 (v:Value) (d tl:Addr) (M:Led):List Value × List Tr × List CB × List (Str × Value) × Obj × Led × Nat × Option Value × Option Value × Option Value × Option Value × Option Value→Sta
  | (ps,_,_,_,o,I,n,u1,u2,u3,u4,u5)=>⟨[some v,some (.ref d),some (.ref tl),u1,u2,u3,u4,u5],(tl,listO ps n) :: (d,o) :: M,I⟩
def F310 (e:E0) (d:Addr) (I0:Led) (R:List (Str × Value)) (n:Nat):List Value × List Tr × List CB × List (Str × Value) × Obj × Led × Nat × Option Value × Option Value × Option Value × Option Value × Option Value→Prop
  | (ps,ts,bs,kvs,o,I,_)=>TasksI (TaskF e) I ps ts bs∧Sub I0 I∧DO e d o kvs∧travs effF ctxF ts bs kvs = R∧n = tsizes ts∧kvs.length + n ≤ 60
noncomputable def S310b (v nd bd g:Value) (d tl:Addr) (M:Led) (_:Nat):List Value × Nat × Obj × Led × Option Value × Option Value→Sta
  | (L,n,o,I,u4,u5)=>⟨[some v,some (.ref d),some (.ref tl),some nd,some bd,some g,u4,u5],(tl,listO L n) :: (d,o) :: M,I⟩
def F310b (e:E0) (d:Addr) (I0:Led) (ts ks:List Tr) (bs cs:List CB) (kvs:List (Str × Value)) (i:Nat):List Value × Nat × Obj × Led × Option Value × Option Value→Prop
  | (L,_,o,I,_)=>TasksI (TaskF e) I L (ts ++ ks.take i) (bs ++ cs.take i)∧Sub I0 I∧DO e d o kvs
theorem free_namesH {t:Tr} (r:Rep I t v) (hr:3 ≤ x.c.room) (hz:tsize t ≤ 60)
    (q:∀ a out ss n I',Sub I I'→StrsAre out ss→ss.Perm ((trav effF ctxF t (fun _=>false,0) []).map (·.1))→k (.ref a) ⟨vs,(a,listO out n) :: M,I'⟩):H x (call (.ref 310) [v]) ⟨vs,M,I⟩ k:=by
  refine fr310.run rfl hr fun x' hx d o hd d0 o0 hd0 t1 tl T=>whlH8 (S310 v d tl M) (F310 e d I (trav effF ctxF t (fun _=>false,0) [])) (tsizes [t]) ([.ref t1],[t],[(fun _=>false,0)],[],o,_,0,none,none,none,none,none) (Le.freeze (.tail .head) Le.refl)
    ⟨.cons ⟨v,.ref d0,⟨t1,0,rfl,.tail _ (.tail _ (.head _))⟩,r.mono Sub.one.cons.cons,⟨[],⟨d0,o0,rfl,.head _,hd0⟩,fun _=>rfl,Nat.le_refl _⟩,?hb⟩ .nil,Sub.one.cons.cons,hd,rfl,rfl,Nat.le_trans (Nat.le_of_eq (Nat.zero_add _)) hz⟩ fun n ps ts bs kvs o I1 m u h _ V9=>?_
  case hb=>exact Nat.le_trans (Nat.le_of_eq (Nat.zero_add _)) (Nat.le_trans (Nat.mul_le_mul_left 1000 hz) (by decide))
  refine truH (.inl (.head _)) (Nat.le_trans (Nat.le_trans h.1.len_le (h.2.2.2.2.1 ▸ tot h.2.2.2.2.2)) (by decide)) (cnd (fun hne=>stack_e h.1 h.2.2.2.1 h.2.2.2.2.1 hne fun ps p hd ks b ts bs hT hTs hR hn hl=>hT.open fun pv bd ws hp rH rK hbd hbz=>?step) fun he=>?fin)
  case fin=>
    have e1:=stack_end h.1 he h.2.2.2.1
    exact ⟨fun s hs=>sorted_dict x'.ok (hs.drop .head) ((hs.drop .head).has (.head _)) h.2.2.1 (Nat.lt_of_le_of_lt (tot' h.2.2.2.2.2) (by decide)) fun sa out ss sn s' h1 h2 hs'=>upM (hs'.drop (.tail .head)) (retI (q _ _ _ _ _ h.2.1 h1 (e1 ▸ h2)))⟩
  case step=>
    have hl:=Nat.le_of_succ_le (Nat.le_trans hl (tot h.2.2.2.2.2))
    have hwl:ws.length ≤ 1000:=rK.len ▸ Nat.le_trans (tot hl) (by decide)
    refine mPop (.inl (.head _)) (popH .head (Nat.le_trans (tot' hl) (by decide)) (asg2T hp (isiH rH rfl (cnd (fun hb=>?var) fun hb=>?nod))))
    case var=>
      refine joinF (fun o=>S310 v d tl M (ps,[],[],[],o,I1,m + 1,some pv,some bd,u.2.2)) (fun o=>DO e d o (effF hd b kvs)) (fun _ J9=>getFS (var_name rH hb) g52_name fun ty=>notInS hbd (cnd (fun h1=>getFS (var_name rH hb) g52_name fun ty=>dSet h.2.2.1 (fun _=>.tail .head) (Nat.le_trans (tot' h.2.2.2.2.2) (by decide)) fun o' ho'=>J9.jf o' (effF_yes hb h1 ▸ ho'))
        fun h1=>J9.jf o (effF_no hb h1 ▸ h.2.2.1))) fun o2 ho2=>V9.wcont (m:=tsizes (ts ++ ks)) (ps,ts ++ ks,bs ++ ctxF hd b ks.length,effF hd b kvs,o2,I1,m + 1,some pv,some bd,u.2.2) (lt_of_succ hn) ⟨hTs.leaf (leaf_ks rH hb rK) (ctxF_len rH rK),h.2.1,ho2,hR,rfl,stepz (effF_len hd b kvs) h.2.2.2.2.2 hn⟩ Le.refl
    case nod=>
      refine groupsH rH (rm hx rfl) hwl fun gl gv gn I2 h1 hgv=>HM.freeze .head (partsH (rH.mono (h1.trans Sub.one)) (rm hx rfl) hwl fun l pp n2 I3 h3 hps=>?_)
      have hs3:Sub I1 ((l,listO pp n2) :: I3):=h1.trans (Sub.one.trans (h3.trans Sub.one))
      refine ForH.freeze .head (forH6 (S310b v pv bd (.ref gl) d tl M) (F310b e d ((l,listO pp n2) :: I3) ts ks bs (ctxF hd b ks.length) (effF hd b kvs)) (ps,m + 1,o,_,u.2.2.2) (itList (.inr (.head _))) rfl ⟨(TasksI.mono (TaskOk:=TaskF e) TaskF.mono hs3 hTs).app_nil,Sub.refl,effF_not hb ▸ h.2.2.1⟩ (fun _ _ _ _ _ _ _ h=>srcL (.inr (h.2.1 _ (.head _))))
        (fun i y L n o I' u1 u2 it io hi hX hL _ V9=>asgP hps hX (Sub.one.trans hL.2.1) fun z sv f hz hf hsc=>mAppend (.inl (.tail _ (.head _))) (scopedH (hbd.mono (hs3.trans hL.2.1)) ⟨gl,gn,rfl,hL.2.1 _ (.tail _ (h3 _ (.head _)))⟩ (hgv.mono (Sub.one.trans (h3.trans (Sub.one.trans hL.2.1)))) (hsc.mono (Sub.one.trans hL.2.1)) (fun hft=>?gp) (tot' hbz) (rm hx rfl) fun bd2 I5 h5 hb2 r=>?ap))
        fun L n o I' u1 u2 hL=>V9.wnext (m:=tsizes (ts ++ ks)) (L,ts ++ ks,bs ++ ctxF hd b ks.length,effF hd b kvs,o,I',n,some pv,some bd,some (.ref gl),u1,u2) (lt_of_succ hn) ⟨hL.1.whole (Nat.le_of_eq (rK.len.trans hps.len.1.symm)) (Nat.le_of_eq ((ctxF_len rH rK).trans (rK.len.trans hps.len.1.symm))),h.2.1.trans (hs3.trans hL.2.1),hL.2.2,hR,rfl,stepz (effF_len hd b kvs) h.2.2.2.2.2 hn⟩ Le.refl)
      case gp=>
        obtain ⟨xs,h1,h2⟩:=gps_of rH f (List.mem_of_getElem? hf) hft
        exact ⟨xs,h1,Nat.le_trans h2 hwl⟩
      case ap=>
        obtain ⟨tk,htk,hrep⟩:=rK.at hz
        exact appendH (.tail .head) (Nat.le_trans (hL.1.len_take hl hTs.len.1) (by decide)) (V9.tnext (L ++ [.ref r],n + 1,o,(r,tupO [z,bd2] 0) :: I5,some z,some sv) ⟨TasksI.next (TasksI.mono (TaskOk:=TaskF e) TaskF.mono (h5.trans Sub.one) hL.1) htk (ctxF_at rK hf) ⟨z,bd2,⟨r,0,rfl,.head _⟩,hrep.mono (hs3.trans (hL.2.1.trans (h5.trans Sub.one))),hb2.mono Sub.one,bndF hbz (tsize_at htk)⟩,hL.2.1.trans (h5.trans Sub.one),hL.2.2⟩ Le.refl)
end
end
section
noncomputable def isLam:Hd→Bool
  | .lam _=>true
  | _=>false
theorem isLam_eq (h:Hd):(clsOf h == 176) = isLam h:=by cases h <;> rfl
noncomputable def effO (x:Str):Hd→Bool→Int × Bool→Int × Bool
  | .var y,b,a=>if y = x then (a.1 + 1,a.2 || b) else a
  | _,_,a=>a
noncomputable def ctxO (h:Hd) (b:Bool) (n:Nat):List Bool:=List.replicate n (b || isLam h)
def TaskO (I:Led) (p:Value) (t:Tr) (b:Bool):Prop:=∃ v,TupI I p [v,.bool b]∧Rep I t v
theorem TaskO.mono {I I':Led} {p:Value} {t:Tr} {b:Bool} (k:Sub I I') (h:TaskO I p t b):TaskO I' p t b:=by
  obtain ⟨v,h1,h2⟩:=h
  exact ⟨v,h1.mono k,h2.mono k⟩
theorem effO_not {x:Str} {h:Hd} {b:Bool} {a:Int × Bool} (hb:(clsOf h == 52) = false):effO x h b a = a:=by
  cases h <;> first | rfl | (cases hb)
theorem var_effO {x:Str} {h:Hd} {b:Bool} {a:Int × Bool} (hb:(clsOf h == 52) = true):effO x h b a = if nmOf h = x then (a.1 + 1,a.2 || b) else a:=by
  obtain ⟨y,rfl⟩:=var_of hb
  rfl
theorem effO_yes {x:Str} {h:Hd} {b:Bool} {a:Int × Bool} (hb:(clsOf h == 52) = true) (k:nmOf h = x):effO x h b a = (a.1 + 1,a.2 || b):=(var_effO hb).trans (if_pos k)
theorem effO_no {x:Str} {h:Hd} {b:Bool} {a:Int × Bool} (hb:(clsOf h == 52) = true) (k:¬ nmOf h = x):effO x h b a = a:=(var_effO hb).trans (if_neg k)
def UsesF (es:List DictEntry) (a:Int × Bool):Prop:=∃ t,Flds es [("many",.int a.1 t),("in_function",.bool a.2)]
section
variable {e:E0} {x:Ctx e} {vs:List (Option Value)} {M I:Led} {k:Value→Sta→Prop} {v:Value} {ws:List Value}
theorem new402 (hr:2 ≤ x.c.room) (q:∀ v dx es n,UsesF es (0,false)→k (.ref v) ⟨vs,(v,instObj 402 dx) :: (dx,dictO es n) :: M,I⟩):H x (call (.ref 402) []) ⟨vs,M,I⟩ k:=
  mkR (mkAt 8 rfl) fr392 rfl (n:=0) hr fun x' y dx _ t=>setH (.head _) (fun _=>.tail .head) .nil (sAt 16 rfl) (Nat.le_of_ble_eq_true rfl) fun _ _ h0=>setH (.head _) (fun _=>.tail .head) h0 (sAt 17 rfl) (Nat.le_of_ble_eq_true rfl) fun _ _ h1=>retN Le.refl ⟨rfl,q y dx _ _ ⟨t,h1⟩⟩
theorem noteH {y dx:Addr} {es:List DictEntry} {n:Nat} {a:Int × Bool} {b:Bool} {Mf:Obj→Led} (h1:(y,instObj 402 dx) ∈ M) (hp:∀ o',Put dx (dictO es n) o' M (Mf o')) (h1':∀ o',(y,instObj 402 dx) ∈ Mf o') (hp':∀ o1 o2,Put dx o1 o2 (Mf o1) (Mf o2)) (hf:UsesF es a) (hr:1 ≤ x.c.room)
    (q:∀ es' n',UsesF es' (a.1 + 1,a.2 || b)→k .none ⟨vs,Mf (dictO es' n'),I⟩):H x (call (.ref 399) [.ref y,.bool b]) ⟨vs,M,I⟩ k:=by
  obtain ⟨t,hf⟩:=hf
  refine fr399.run rfl hr fun x' _=>getMH h1 (hp default).mem hf g402_many rfl trivial fun t1=>iaddH fun t2=>setH h1 hp hf (sAt 16 rfl) (Nat.le_of_ble_eq_true rfl) fun es1 n1 hf1=>getMH (h1' _) (hp' _ default).mem hf1 g402_in_function rfl trivial ?_
  cases hb:a.2
  · exact setH (h1' _) (fun o'=>hp' _ o') hf1 (sAt 17 rfl) (Nat.le_of_ble_eq_true rfl) fun es2 n2 hf2=>retN Le.refl (q _ _ ⟨t2,by rw [hb]; exact hf2⟩)
  · exact setH (h1' _) (fun o'=>hp' _ o') hf1 (sAt 17 rfl) (Nat.le_of_ble_eq_true rfl) fun es2 n2 hf2=>retN Le.refl (q _ _ ⟨t2,by rw [hb]; rw [hb] at hf2; exact hf2⟩)
theorem mNote {y dx:Addr} {es:List DictEntry} {n:Nat} {a:Int × Bool} {km:Value × List Value→Sta→Prop} (h1:(y,instObj 402 dx) ∈ M) (h2:(dx,dictO es n) ∈ M) (hf:UsesF es a) (q:km (.ref 399,[.ref y]) ⟨vs,M,I⟩):HM x (.ref y) "note" ⟨vs,M,I⟩ km:=let ⟨_,hf⟩:=hf; methMH h1 h2 hf m402_note rfl rfl q
theorem TaskO.open {P:Prop} {p:Value} {hd:Hd} {ks:List Tr} {b:Bool} (h:TaskO I p (.node hd ks) b) (q:∀ v ws,TupI I p [v,.bool b]→RepH I hd v ws→Reps I ks ws→P):P:=let ⟨v,h0,ws,h1,h2⟩:=h; q v ws h0 h1 h2
noncomputable def S413 (x0 v:Value) (ua ud tl:Addr) (M:Led):List Value × List Tr × List Bool × (Int × Bool) × (List DictEntry × Nat) × Led × Nat × Option Value × Option Value × Option Value × Option Value × Option Value→Sta
  | (ps,_,_,_,(es,nn),I,n,u1,u2,u3,u4,u5)=>⟨[some x0,some v,some (.ref ua),some (.ref tl),u1,u2,u3,u4,u5],(tl,listO ps n) :: (ua,instObj 402 ud) :: (ud,dictO es nn) :: M,I⟩
def F413 (x0:Str) (I0:Led) (R:Int × Bool) (n:Nat):List Value × List Tr × List Bool × (Int × Bool) × (List DictEntry × Nat) × Led × Nat × Option Value × Option Value × Option Value × Option Value × Option Value→Prop
  | (ps,ts,bs,a,(es,_),I,_)=>TasksI TaskO I ps ts bs∧Sub I0 I∧UsesF es a∧travs (effO x0) ctxO ts bs a = R∧n = tsizes ts∧n ≤ 1000
noncomputable def S413b (x0 v nd b w:Value) (ua ud tl:Addr) (M:Led) (es:List DictEntry) (nn:Nat) (_:Nat):List Value × Nat × Led × Option Value × Option Value→Sta
  | (L,n,I,u4,u5)=>⟨[some x0,some v,some (.ref ua),some (.ref tl),some nd,some b,some w,u4,u5],(tl,listO L n) :: (ua,instObj 402 ud) :: (ud,dictO es nn) :: M,I⟩
def F413b (I0:Led) (ts ks:List Tr) (bs cs:List Bool) (i:Nat):List Value × Nat × Led × Option Value × Option Value→Prop
  | (L,_,I,_)=>TasksI TaskO I L (ts ++ ks.take i) (bs ++ cs.take i)∧Sub I0 I
theorem rep_at {α:Type} {b:α} {n i:Nat} (h:i < n):(List.replicate n b)[i]? = some b:=by rw [List.getElem?_replicate,if_pos h]
theorem uses_ofH {x0:Str} {t0:Tok} {t:Tr} (r:Rep I t v) (hr:3 ≤ x.c.room) (hz:tsize t ≤ 900)
    (q:∀ a I' (tk:Tok),Sub I I'→Ins I' (.ref a) 402 [("many",.int (trav (effO x0) ctxO t false (0,false)).1 tk),("in_function",.bool (trav (effO x0) ctxO t false (0,false)).2)]→k (.ref a) ⟨vs,M,I'⟩):H x (call (.ref 413) [.str x0 t0,v]) ⟨vs,M,I⟩ k:=by
  refine fr413.run rfl hr fun x' hx=>new402 (rm hx rfl) fun ua ud ue un huf t1 tl T=>whlH8 (S413 (.str x0 t0) v ua ud tl M) (F413 x0 I (trav (effO x0) ctxO t false (0,false))) (tsizes [t]) ([.ref t1],[t],[false],(0,false),(ue,un),_,0,none,none,none,none,none) Le.refl
    ⟨.cons ⟨v,⟨t1,0,rfl,.tail _ (.head _)⟩,r.mono Sub.one.cons⟩ .nil,Sub.one.cons,huf,rfl,rfl,Nat.le_trans hz (by decide)⟩ fun n ps ts bs a (es,nn) I1 m u h _ V9=>?_
  refine truH (.inl (.head _)) (le100 (Nat.le_trans h.1.len_le (h.2.2.2.2.1 ▸ h.2.2.2.2.2))) (cnd (fun hne=>stack_e h.1 h.2.2.2.1 h.2.2.2.2.1 hne fun ps p hd ks b ts bs hT hTs hR hn hl=>hT.open fun nd ws hp rH rK=>?step) fun he=>?fin)
  case fin=>
    have e1:=stack_end h.1 he h.2.2.2.1
    obtain ⟨tk,hf⟩:=h.2.2.1
    rw [e1] at hf
    exact retL (Le.drop .head (Le.freeze .head (Le.freeze .head Le.refl))) (q ua _ tk (h.2.1.trans Sub.one.cons) ⟨ua,ud,es,nn,rfl,.tail _ (.head _),.head _,hf⟩)
  case step=>
    have hl:=Nat.le_of_succ_le (Nat.le_trans hl h.2.2.2.2.2)
    refine mPop (.inl (.head _)) (popH .head (le100 (tot' hl)) (asg2T hp (joinF (fun es=>S413 (.str x0 t0) v ua ud tl M (ps,[],[],(0,false),es,I1,m + 1,some nd,some (.bool b),u.2.2)) (fun es=>UsesF es.1 (effO x0 hd b a)) (fun _ J9=>?_) fun es2 hu2=>?_)))
    · exact isiH rH rfl (cnd (fun hb=>getFS (var_name rH hb) g52_name fun ty=>sEq (cnd (fun h1=>mNote (.tail _ (.head _)) (.tail _ (.tail _ (.head _))) h.2.2.1 (noteH (.tail _ (.head _)) (fun o'=>.tail (.tail .head)) (fun _=>.tail _ (.head _)) (fun _ _=>.tail (.tail .head)) h.2.2.1 (rm hx rfl) fun es' n' hu=>J9.jf (es',n') (effO_yes hb (of_decide_eq_true h1) ▸ hu))) fun h1=>J9.jf (es,nn) (effO_no hb (of_decide_eq_false h1) ▸ h.2.2.1))) fun hb=>J9.jf (es,nn) (effO_not hb ▸ h.2.2.1))
    · refine joinV (fun _:Unit=>.bool (b || isLam hd)) (fun _=>S413 (.str x0 t0) v ua ud tl M (ps,[],[],(0,false),es2,I1,m + 1,some nd,some (.bool b),u.2.2)) (fun _=>True) (fun _ J9=>cnd (fun h1=>J9.jvE () trivial (by rw [h1]; rfl)) fun h1=>isiH rH rfl (J9.jvE () trivial (by rw [h1,isLam_eq]; rfl))) fun _ _=>?_
      refine partsH rH (rm hx rfl) (rK.len ▸ tot hl) fun l pp n2 I2 h1 hps=>ForH.freeze .head (forH5 (S413b (.str x0 t0) v nd (.bool b) (.bool (b || isLam hd)) ua ud tl M es2.1 es2.2) (F413b ((l,listO pp n2) :: I2) ts ks bs (ctxO hd b ks.length)) (ps,m + 1,_,u.2.2.2) (itList (.inr (.head _))) rfl ⟨(TasksI.mono (TaskOk:=TaskO) TaskO.mono (h1.trans Sub.one) hTs).app_nil,Sub.refl⟩ (fun _ _ _ _ _ _ h=>srcL (.inr (h.2 _ (.head _))))
        (fun i y L n I' u4 u5 it io hi hX hL _ V9=>asgP hps hX (Sub.one.trans hL.2) fun z sv f hz hf hsc=>mAppend (.inl (.tail _ (.head _))) fun r=>?ap) fun L n I' u4 u5 hL=>?fi)
      case ap=>
        obtain ⟨tk,htk,hrep⟩:=rK.at hz
        exact appendH (.tail .head) (le100 (hL.1.len_take hl hTs.len.1)) (V9.tnext (L ++ [.ref r],n + 1,(r,tupO [z,.bool (b || isLam hd)] 0) :: I',some z,some sv) ⟨TasksI.next (TasksI.mono (TaskOk:=TaskO) TaskO.mono Sub.one hL.1) htk (rep_at (at_lt hz rK.len.symm)) ⟨z,⟨r,0,rfl,.head _⟩,hrep.mono (h1.trans (Sub.one.trans (hL.2.trans Sub.one)))⟩,hL.2.trans Sub.one⟩ Le.refl)
      case fi=>
        exact V9.wnext (m:=tsizes (ts ++ ks)) (L,ts ++ ks,bs ++ ctxO hd b ks.length,effO x0 hd b a,es2,I',n,some nd,some (.bool b),some (.bool (b || isLam hd)),u4,u5) (lt_of_succ hn) ⟨hL.1.whole (Nat.le_of_eq (rK.len.trans hps.len.1.symm)) (Nat.le_of_eq ((List.length_replicate ..).trans (rK.len.trans hps.len.1.symm))),h.2.1.trans (h1.trans (Sub.one.trans hL.2)),hu2,hR,rfl,Nat.le_trans (Nat.le_of_lt (lt_of_succ hn)) h.2.2.2.2.2⟩ Le.refl
end
end
section
noncomputable def fvOf (t:Tr):List Str:=(trav effF ctxF t (fun _=>false,0) []).map (·.1)
noncomputable def atomT:Tr→Bool
  | .node (.var _) _=>true
  | .node (.lit _ _) _=>true
  | .node (.con _) []=>true
  | _=>false
theorem con_of {h:Hd} (hb:(clsOf h == 252) = true):∃ x,h = .con x:=by
  cases h <;> first | exact ⟨_,rfl⟩ | (cases hb)
theorem let_of {h:Hd} (hb:(clsOf h == 212) = true):∃ xs r,h = .lett xs r:=by
  cases h <;> first | exact ⟨_,_,rfl⟩ | (cases hb)
theorem lam_of {h:Hd} (hb:(clsOf h == 176) = true):∃ p,h = .lam p:=by
  cases h <;> first | exact ⟨_,rfl⟩ | (cases hb)
noncomputable def lamT:Tr→Bool
  | .node h _=>clsOf h == 176
noncomputable def takenT (x:Str) (bd body:Tr) (most:Int):Bool:=
  atomT bd || ((trav (effO x) ctxO body false (0,false)).1 == 1 && (!(trav (effO x) ctxO body false (0,false)).2 || lamT bd)) || (lamT bd && decide ((tsize bd:Int) ≤ most))
theorem atom1 {h:Hd} {ks:List Tr} (hb:(clsOf h == 52 || clsOf h == 94) = true):(clsOf h == 52 || clsOf h == 94) = atomT (.node h ks):=by
  rw [hb]
  cases h with
  | var x=>rfl
  | lit x n=>rfl
  | _=>exact absurd hb Bool.noConfusion
theorem atom2 {h:Hd} {ks:List Tr} {ws:List Value} (hc:(clsOf h == 252) = true) (k:ks.length = ws.length):ws.isEmpty = atomT (.node h ks):=by
  obtain ⟨k0,rfl⟩:=con_of hc
  cases ks <;> cases ws <;> first | rfl | cases k
theorem atom3 {h:Hd} {ks:List Tr} (hb:(clsOf h == 52 || clsOf h == 94) = false) (hc:(clsOf h == 252) = false):(clsOf h == 252) = atomT (.node h ks):=by
  rw [hc]
  cases h with
  | var x=>exact absurd hb Bool.noConfusion
  | lit x n=>exact absurd hb Bool.noConfusion
  | con x=>exact absurd hc Bool.noConfusion
  | _=>rfl
section
variable {e:E0} {x:Ctx e} {vs:List (Option Value)} {M I:Led} {k:Value→Sta→Prop} {v:Value} {ws:List Value}
theorem Rep.open {P:Prop} {t:Tr} (r:Rep I t v) (q:∀ h ks ws,t = .node h ks→RepH I h v ws→Reps I ks ws→P):P:=by
  obtain ⟨h,ks⟩:=t
  obtain ⟨ws,h1,h2⟩:=r
  exact q h ks ws rfl h1 h2
theorem RepH.con_e {P:Prop} {h:Hd} (r:RepH I h v ws) (hc:(clsOf h == 252) = true) (q:∀ la n,FldI I v 252 "args" (.ref la)→(la,listO ws n) ∈ I→P):P:=by
  obtain ⟨k0,rfl⟩:=con_of hc
  obtain ⟨t,l,hi,hl⟩:=r
  obtain ⟨n,hm⟩:=hl.at
  exact q l n ⟨_,hi,rfl,trivial⟩ hm
theorem is_freeH {x0:Str} {t0:Tok} {t:Tr} (r:Rep I t v) (hr:5 ≤ x.c.room) (hz:tsize t ≤ 60) (q:∀ I',Sub I I'→k (.bool (decide (x0 ∈ fvOf t))) ⟨vs,M,I'⟩):H x (call (.ref 317) [.str x0 t0,v]) ⟨vs,M,I⟩ k:=
  fr317.run rfl hr fun x' hx=>free_namesH r (rm hx rfl) hz fun a out ss n I' h1 h2 h3=>inSH (.inl (.head _)) h2 (retB (Le.drop .head Le.refl) (decide_eq_decide.mpr h3.mem_iff) (q I' h1))
theorem is_atomH {t:Tr} (r:Rep I t v) (hr:2 ≤ x.c.room) (q:∀ I',Sub I I'→k (.bool (atomT t)) ⟨vs,M,I'⟩):H x (call (.ref 420) [v]) ⟨vs,M,I⟩ k:=by
  obtain ⟨h,ks⟩:=t
  obtain ⟨ws,rH,rK⟩:=r
  exact fr420.run rfl hr fun x' hx r=>isi2H (rH.mono Sub.one) rfl rfl (.head _) (cnd (fun hb=>retB Le.refl (atom1 hb) (q _ Sub.one)) fun hb=>isiH (rH.mono Sub.one) rfl (cnd
    (fun hc=>rH.con_e hc fun la n hf hm=>getF (hf.mono Sub.one) g252_args fun r2=>eqL0 (.inr (.tail _ hm)) (.inl (.head _)) (retB (Le.drop .head Le.refl) (atom2 hc rK.len) (q _ Sub.one))) fun hc=>retB Le.refl (atom3 hb hc) (q _ Sub.one)))
noncomputable def S521 (v:Value) (most:Int) (tm:Tok) (tl:Addr) (M:Led):List Value × List Tr × List Unit × Nat × Tok × Led × Nat × Option Value × Option Value × Option Value→Sta
  | (ps,_,_,many,tk,I,n,u1,u2,u3)=>⟨[some v,some (.int most tm),some (.int (many:Int) tk),some (.ref tl),u1,u2,u3],(tl,listO ps n) :: M,I⟩
def F521 (I0:Led) (R:Nat) (n:Nat):List Value × List Tr × List Unit × Nat × Tok × Led × Nat × Option Value × Option Value × Option Value→Prop
  | (ps,ts,bs,many,_,I,_)=>TasksI TaskU I ps ts bs∧Sub I0 I∧n = tsizes ts∧many + n = R∧n ≤ 1000
noncomputable def S521b (v p:Value) (most:Int) (tm:Tok) (many:Int) (tk:Tok) (tl:Addr) (M I:Led) (_:Nat):List Value × Nat × Option Value × Option Value→Sta
  | (L,n,u2,u3)=>⟨[some v,some (.int most tm),some (.int many tk),some (.ref tl),some p,u2,u3],(tl,listO L n) :: M,I⟩
def F521b (ps ws:List Value) (i:Nat):List Value × Nat × Option Value × Option Value→Prop
  | (L,_)=>L = ps ++ ws.take i
theorem sz_gt {m n s:Nat} {k:Int} (h:decide ((m:Int) ≤ k) = false) (e:m + n = s):k + 1 ≤ k ↔ (s:Int) ≤ k:=⟨fun q=>absurd q (Int.not_le.mpr (Int.lt_succ k)),fun q=>absurd (Int.le_trans (Int.ofNat_le.mpr (e ▸ Nat.le_add_right m n)) q) (of_decide_eq_false h)⟩
theorem sz_step {m n n' s:Nat} (h:m + n = s) (e:n = n' + 1):m + 1 + n' = s:=by rw [← h,e,Nat.add_assoc,Nat.add_comm 1 n']
theorem size_ofH {tr:Tr} {most:Int} {tm:Tok} (r:Rep I tr v) (hr:2 ≤ x.c.room) (hz:tsize tr ≤ 900) (q:∀ (m:Int) tk I',(m ≤ most ↔ (tsize tr:Int) ≤ most)→Sub I I'→k (.int m tk) ⟨vs,M,I'⟩):H x (call (.ref 521) [v,.int most tm]) ⟨vs,M,I⟩ k:=by
  refine fr521.run rfl hr fun x' hx t0 tl T=>whlH8 (S521 v most tm tl M) (F521 I (tsize tr)) (tsizes [tr]) ([v],[tr],[()],0,t0,_,0,none,none,none) Le.refl ⟨.cons (r.mono Sub.one) .nil,Sub.one,rfl,Nat.zero_add _,Nat.le_trans hz (by decide)⟩ fun n ps ts bs many tk I1 m u h _ V9=>?_
  have hps:ps.length ≤ 10000000:=le100 (Nat.le_trans h.1.len_le (h.2.2.1 ▸ h.2.2.2.2))
  refine truH (.inl (.head _)) hps (cnd (fun hne=>cnd (fun hle=>stack_e (eff:=fun _ _ (_:Unit)=>()) (ctx:=ctxU) (a:=()) (R:=()) h.1 rfl h.2.2.1 hne fun ps p hd ks b ts bs hT hTs hR hn hl=>hT.open fun ws rH rK=>?step) fun hgt=>?f1) fun he=>?f2)
  case f1=>exact truH (.inl (.head _)) hps (cndF (by rw [hne]; rfl) fun t2 t3=>retL (Le.drop .head Le.refl) (q _ _ _ (sz_gt hgt h.2.2.2.1) h.2.1))
  case f2=>
    have h0:n = 0:=by
      rw [h.2.2.1]
      have e1:=h.1
      revert e1 he
      clear h hps
      intro he e1
      cases e1 with
      | nil=>rfl
      | cons _ _=>cases he
    exact truH (.inl (.head _)) hps (cndT (by rw [he]; rfl) (retL (Le.drop .head Le.refl) (q _ _ _ (by have:=h.2.2.2.1; rw [h0] at this; rw [← this]; exact Iff.rfl) h.2.1)))
  case step=>
    have hl:=Nat.le_of_succ_le (Nat.le_trans hl h.2.2.2.2)
    exact mPop (.inl (.head _)) (popH .head (le100 (tot' hl)) fun t1=>iaddH fun t2=>partsH rH (rm hx rfl) (rK.len ▸ tot hl) fun l pp n2 I2 h1 hps=>ForH.freeze .head (forH4 (S521b v p most tm (many + 1) t2 tl M ((l,listO pp n2) :: I2)) (F521b ps ws) (ps,m + 1,u.2.1,u.2.2) (itList (.inr (.head _))) rfl (List.append_nil _).symm (fun _ _ _ _ _ _=>srcL (.inr (.head _)))
        (fun i y L n u1 u2 it io hi hX hL _ V9=>asgP hps hX Sub.one fun u sv b hw hb hsc=>mAppend (.inl (.tail _ (.head _))) (appendH (.tail .head) (le100 (hL ▸ app_take hl rK.len)) (V9.tnext (L ++ [u],n + 1,some u,some sv) (take_app hL hw) Le.refl)))
        fun L n u1 u2 hL=>V9.wnext (m:=tsizes (ts ++ ks)) (L,ts ++ ks,bs ++ ctxU hd b ks.length,many + 1,t2,(l,listO pp n2) :: I2,n,some p,u1,u2) (lt_of_succ hn) ⟨app_whole hL hps.len.1 ▸ (TasksI.mono (TaskOk:=TaskU) TaskU.mono (h1.trans Sub.one) hTs).app (tasks_reps (rK.mono (h1.trans Sub.one))),h.2.1.trans (h1.trans Sub.one),rfl,sz_step h.2.2.2.1 hn,Nat.le_trans (Nat.le_of_lt (lt_of_succ hn)) h.2.2.2.2⟩ Le.refl))
theorem taken1 {x0:Str} {bd body:Tr} {most:Int} (h:atomT bd = true):true = takenT x0 bd body most:=by unfold takenT; rw [h]; rfl
theorem taken2 {x0:Str} {h:Hd} {ks:List Tr} {body:Tr} {most:Int} (q:((trav (effO x0) ctxO body false (0,false)).1 == 1 && (!(trav (effO x0) ctxO body false (0,false)).2 || clsOf h == 176)) = true):true = takenT x0 (.node h ks) body most:=by
  unfold takenT lamT; rw [q,Bool.or_true]; rfl
theorem taken3 {x0:Str} {h:Hd} {ks:List Tr} {body:Tr} {most:Int} (h0:atomT (.node h ks) = false) (q:((trav (effO x0) ctxO body false (0,false)).1 == 1 && (!(trav (effO x0) ctxO body false (0,false)).2 || clsOf h == 176)) = false) :
    takenT x0 (.node h ks) body most = (clsOf h == 176 && decide ((tsize (.node h ks):Int) ≤ most)):=by
  unfold takenT lamT; rw [h0,q]; rfl
theorem is_takenH {x0:Str} {t0:Tok} {bd body:Tr} {w:Value} {most:Int} {tm:Tok} (r:Rep I bd v) (rb:Rep I body w) (hr:5 ≤ x.c.room) (hz:tsize bd ≤ 900) (hzb:tsize body ≤ 900)
    (q:∀ I',Sub I I'→k (.bool (takenT x0 bd body most)) ⟨vs,M,I'⟩):H x (call (.ref 528) [.str x0 t0,v,w,.int most tm]) ⟨vs,M,I⟩ k:=by
  obtain ⟨h,ks⟩:=bd
  refine fr528.run rfl hr fun x' hx=>is_atomH r (rm hx rfl) fun I1 h1=>cnd (fun hb=>retB Le.refl (taken1 hb) (q I1 h1)) fun hb=>uses_ofH (rb.mono h1) (rm hx rfl) hzb fun ua I2 tk h2 hi=>?_
  obtain ⟨ws,rH,rK⟩:=id r
  have hall:=h1.trans h2
  have rH2:=rH.mono hall
  refine joinV (fun _:Unit=>(trav (effO x0) ctxO body false (0,false)).1 == 1 && (!(trav (effO x0) ctxO body false (0,false)).2 || clsOf h == 176)) (fun _=>⟨[some (.str x0 t0),some v,some w,some (.int most tm),some (.ref ua)],M,I2⟩) (fun _=>True)
    (fun _ J9=>getH hi g402_many rfl trivial fun t1=>cnd (fun a1=>getH hi g402_in_function rfl trivial (cnd (fun a2=>J9.jvE () trivial (by rw [a1,a2]; rfl)) fun a2=>isiH rH2 rfl (cnd (fun a3=>J9.jvE () trivial (by rw [a1,a2,a3]; rfl)) fun a3=>J9.jvE () trivial (by rw [a1,a2,a3]; rfl)))) fun a1=>J9.jvE () trivial (by rw [a1]; rfl)) fun _ _=>cnd (fun a=>retB Le.refl (taken2 a) (q I2 hall)) fun a=>isiH rH2 rfl (cnd (fun b1=>size_ofH (r.mono hall) (rm hx rfl) hz fun m tk2 I3 hiff h3=>retB Le.refl (by rw [taken3 hb a,b1]; exact decide_eq_decide.mpr hiff) (q I3 (hall.trans h3)))
      fun b1=>retB Le.refl (by rw [taken3 hb a,b1]; rfl) (q I2 hall))
end
end
section
def NumsO (e:E0) (nb:Addr) (o:Obj) (K:Nat):Prop:=∃ kvs,DO e nb o kvs∧kvs.length ≤ K∧∀ y u,valueAt kvs y = some u→∃ (i:Int) (t:Tok),u = .int i t∧0 ≤ i∧i ≤ K
def FreshI (e:E0) (I:Led) (v:Value) (nb:Addr):Prop:=∃ av avk,Ins I v 510 [("avoided",.ref av),("numbers",.ref nb)]∧DicI e I (.ref av) avk∧∀ y:Str,2 ≤ y.length→valueAt avk y = none
theorem FreshI.mono {e I I' v nb} (h:FreshI e I v nb) (k:Sub I I'):FreshI e I' v nb:=let ⟨av,avk,h1,h2,h3⟩:=h; ⟨av,avk,h1.mono k,h2.mono k,h3⟩
theorem NumsO.le {e nb o K K'} (h:NumsO e nb o K) (k:K ≤ K'):NumsO e nb o K':=
  let ⟨kvs,h1,h2,h3⟩:=h
  ⟨kvs,h1,Nat.le_trans h2 k,fun y u hy=>let ⟨i,t,a,b,c⟩:=h3 y u hy; ⟨i,t,a,b,Int.le_trans c (Int.ofNat_le.mpr k)⟩⟩
theorem dot1:(Str.ofString ".").length = 1:=by decide +kernel
theorem NewName.len {b q:Str} (h:NewName b q):b.length + 1 ≤ q.length:=by
  obtain ⟨d,rfl⟩:=h
  rw [str_app_len,str_app_len,dot1]
  exact Nat.le_add_right _ _
theorem NumsO.get {e nb o K} {b:Str} {t:Tok} (h:NumsO e nb o K):∃ kvs,DO e nb o kvs∧∃ (i:Int) (u:Tok),(valueAt kvs b).getD (.int 0 t) = .int i u∧0 ≤ i∧i ≤ K:=by
  obtain ⟨kvs,hd,hl,hv⟩:=h
  refine ⟨kvs,hd,?_⟩
  cases hb:valueAt kvs b with
  | none=>exact ⟨0,t,rfl,Int.le_refl _,Int.natCast_nonneg _⟩
  | some u=>obtain ⟨i,ti,rfl,h1,h2⟩:=hv b u hb; exact ⟨i,ti,rfl,h1,h2⟩
theorem NumsO.put {e:E0} {nb:Addr} {o':Obj} {K:Nat} {kvs} {b:Str} {i:Int} {t:Tok} (hl:kvs.length ≤ K) (hv:∀ y u,valueAt kvs y = some u→∃ (i:Int) (t:Tok),u = .int i t∧0 ≤ i∧i ≤ K) (hd':DO e nb o' (stored kvs b (.int (i + 1) t))) (h0:0 ≤ i) (h1:i ≤ K):NumsO e nb o' (K + 1):=by
  refine ⟨_,hd',Nat.le_trans (stored_length_le _ _ _) (Nat.succ_le_succ hl),fun y u hy=>?_⟩
  rw [valueAt_stored] at hy
  by_cases hyb:y = b
  · rw [if_pos hyb] at hy; cases hy; exact ⟨_,_,rfl,by lia,by lia⟩
  · rw [if_neg hyb] at hy
    obtain ⟨i2,t2,h1,h2,h3⟩:=hv y u hy
    exact ⟨i2,t2,h1,h2,by lia⟩
set_option exponentiation.threshold 2000
section
variable {e:E0} {x:Ctx e} {vs:List (Option Value)} {M I:Led} {k:Value→Sta→Prop} {v:Value} {ws:List Value} {st:Sta}
theorem addStrH {a b:Str} {t u:Tok} (hz:a.length + b.length ≤ 10000000) (q:∀ t,k (.str (a ++ b) t) st):H x (binaryOp .Add (.str a t) (.str b u)) st k:=⟨fun _ hs=>add_str hs (szle hz) fun t _ hs'=>⟨st,hs',q t⟩⟩
theorem strIntH {a:Int} {t:Tok} (ha:a.natAbs < 2 ^ 1900) (q:∀ t,k (.str (toString a) t) st):H x (call (.type "str") [.int a t]) st k:=⟨fun _ hs=>str_int hs ha fun t _ hs'=>⟨st,hs',q t⟩⟩
theorem mRfind {a:Str} {t:Tok} {k:Value × List Value→Sta→Prop} (q:k (.builtin "str.rfind",[.str a t]) st):HM x (.str a t) "rfind" st k:=⟨fun _=>⟨fun _ hs=>meth_rfind ⟨st,hs,kp_b,q⟩⟩⟩
theorem rfindH {a b:Str} {t u:Tok} {i:Int} (h:Txt.rfind a b = i) (q:∀ t,k (.int i t) st):H x (call (.builtin "str.rfind") [.str a t,.str b u]) st k:=⟨fun _ hs=>str_rfind hs fun t _ hs'=>⟨st,hs',h ▸ q t⟩⟩
theorem base_ofH {b:Str} {tb:Tok} (hb:Base b) (hr:1 ≤ x.c.room) (q:k (.str b tb) ⟨vs,M,I⟩):H x (call (.ref 477) [.str b tb]) ⟨vs,M,I⟩ k:=
  fr477.run rfl hr fun x' _=>mRfind fun t1=>rfindH hb.1 fun t2 t3=>retI q
theorem nGet {nb:Addr} {o:Obj} {K:Nat} {k:Value × List Value→Sta→Prop} (h:NumsO e nb o K) (ho:Own M I nb o) (q:k (.builtin "dict.get",[.ref nb]) ⟨vs,M,I⟩):HM x (.ref nb) "get" ⟨vs,M,I⟩ k:=let ⟨_,hd,_⟩:=h; mGet ho hd q
theorem numGet {nb:Addr} {o:Obj} {K:Nat} {b:Str} {t u:Tok} (h:NumsO e nb o K) (ho:Own M I nb o) (q:∀ (i:Int) u,0 ≤ i→i ≤ K→k (.int i u) ⟨vs,M,I⟩):H x (call (.builtin "dict.get") [.ref nb,.str b t,.int 0 u]) ⟨vs,M,I⟩ k:=by
  obtain ⟨kvs,hd,i,u,h1,h2,h3⟩:=h.get (b:=b) (t:=u)
  exact dGet2 ho hd (h1 ▸ q i u h2 h3)
theorem numSet {nb:Addr} {o:Obj} {K:Nat} {b:Str} {t u:Tok} {i:Int} {Mf:Obj→Led} {k:Unit→Sta→Prop} (h:NumsO e nb o K) (hK:K ≤ 10000000) (hp:∀ o',Put nb o o' M (Mf o')) (h0:0 ≤ i) (h1:i ≤ K) (q:∀ o',NumsO e nb o' (K + 1)→k () ⟨vs,Mf o',I⟩) :
    H x (setItem (.ref nb) (.str b t) (.int (i + 1) u)) ⟨vs,M,I⟩ k:=by
  obtain ⟨kvs,hd,hl,hv⟩:=h
  exact dSet hd hp (Nat.le_trans hl hK) fun o' hd'=>q o' (NumsO.put hl hv hd' h0 h1)
theorem num_small {i:Int} {K:Nat} (h0:0 ≤ i) (h1:i ≤ K) (hK:K ≤ 10000000):(i + 1).natAbs < 2 ^ 1900∧(Str.ofString (toString (i + 1))).length ≤ 8:=
  ⟨Nat.lt_of_lt_of_le (by lia:(i + 1).natAbs < 2 ^ 24) (Nat.pow_le_pow_right (by decide) (by decide)),toString_length_le (by lia) (by decide) (by lia)⟩
theorem new_len {b c:Str} (h:b.length ≤ 100) (k:c.length ≤ 8):b.length + (Str.ofString ".").length ≤ 10000000∧(b ++ Str.ofString ".").length + c.length ≤ 10000000:=by
  rw [str_app_len,dot1]; lia
theorem nextH {b:Str} {tb:Tok} {fv:Value} {nb:Addr} {o:Obj} {K:Nat} {Mf:Obj→Led} (hb:Base b) (hf:FreshI e I fv nb) (hn:NumsO e nb o K) (hK0:K ≤ 10000000) (hp:∀ o',Put nb o o' M (Mf o')) (hr:2 ≤ x.c.room)
    (q:∀ y t o',NewName b y→NumsO e nb o' (K + 1)→k (.str y t) ⟨vs,Mf o',I⟩):H x (call (.ref 507) [fv,.str b tb]) ⟨vs,M,I⟩ k:=by
  obtain ⟨av,avk,hi,⟨_,oav,e0,ham,had⟩,hav⟩:=hf
  cases e0
  refine fr507.run rfl hr fun x' hx=>base_ofH hb (rm hx rfl) (getH hi g510_numbers rfl trivial (nGet hn (.inl (hp default).mem) fun t1=>numGet hn (.inl (hp default).mem) fun i t2 h0 h1 t3 t4=>?_))
  have hs:=num_small h0 h1 hK0
  have hl:=new_len hb.2.2 hs.2
  have hnew:NewName b (b ++ Str.ofString "." ++ Str.ofString (toString (i + 1))):=⟨_,rfl⟩
  have hnn:=hav _ (Nat.le_trans (Nat.succ_le_succ hb.2.1) hnew.len)
  refine whlH (δ:=Unit) (fun _=>⟨[some fv,some (.str b tb),some (.str b tb),some (.int (i + 1) t4)],M,I⟩) (fun _ _=>True) 0 () Le.refl trivial fun _ _ _ _ V9 u1=>addStrH hl.1 fun u2=>strIntH hs.1 fun u3=>addStrH hl.2 fun u4=>getH hi g510_avoided rfl trivial (dIn (.inr ham) had (cndF (by rw [hnn]; rfl) ?_))
  exact getH hi g510_numbers rfl trivial (numSet hn hK0 hp h0 h1 fun o' ho' u1=>addStrH hl.1 fun u2=>strIntH hs.1 fun u3=>addStrH hl.2 fun u4=>retI (q _ _ _ hnew ho'))
end
end
section
def MapO (N:Str→Option Str) (kvs:List (Str × Value)):Prop:=∀ x,match N x with | none=>valueAt kvs x = none | some y=>∃ t,valueAt kvs x = some (.str y t)
def MapI (e:E0) (I:Led) (v:Value) (N:Str→Option Str) (n:Nat):Prop:=∃ kvs,DicI e I v kvs∧kvs.length ≤ n∧MapO N kvs
theorem MapI.mono {e I I' v N n} (h:MapI e I v N n) (k:Sub I I'):MapI e I' v N n:=let ⟨kvs,h1,h2,h3⟩:=h; ⟨kvs,h1.mono k,h2,h3⟩
def InstI (e:E0) (I:Led) (v:Value) (inst:Str→Option Tr):Prop:=∃ kvs,DicI e I v kvs∧∀ x,match inst x with | none=>valueAt kvs x = none | some t=>∃ u,valueAt kvs x = some u∧Rep I t u
theorem InstI.mono {e I I' v i} (h:InstI e I v i) (k:Sub I I'):InstI e I' v i:=by
  obtain ⟨kvs,h1,h2⟩:=h
  refine ⟨kvs,h1.mono k,fun x=>?_⟩
  have:=h2 x
  cases hx:i x with
  | none=>rw [hx] at this; exact this
  | some t=>rw [hx] at this; obtain ⟨u,h3,h4⟩:=this; exact ⟨u,h3,h4.mono k⟩
def RenI (I:Led) (rv fv iv:Value):Prop:=∃ fa ia,fv = .ref fa∧iv = .ref ia∧Ins I rv 360 [("fresh",fv),("instead",iv)]
theorem GroupsI.at {I gv xss} (h:GroupsI I gv xss):∀ {i:Nat} {g:Value},gv[i]? = some g→∃ xs ys,xss[i]? = some xs∧LisI I g ys∧StrsAre ys xs:=by
  induction h with
  | nil=>intro i g h; cases h
  | @cons g ys xs gs xss h1 h2 _ ih=>
    intro i q h
    cases i with
    | zero=>cases h; exact ⟨xs,ys,rfl,h1,h2⟩
    | succ i=>exact ih (i:=i) h
theorem GroupsI.len {I gv xss} (h:GroupsI I gv xss):gv.length = xss.length:=by
  induction h with
  | nil=>rfl
  | cons _ _ _ ih=>exact congrArg Nat.succ ih
theorem GroupsI.snoc {I gv xss g ys xs} (h:GroupsI I gv xss) (h1:LisI I g ys) (h2:StrsAre ys xs):GroupsI I (gv ++ [g]) (xss ++ [xs]):=by
  induction h with
  | nil=>exact .cons h1 h2 .nil
  | cons a b _ ih=>exact .cons a b ih
noncomputable def S336 (Mf:Obj→Led) (_:Nat):Obj × Led × List (List Str)→Led × Led
  | (o,I,_)=>(Mf o,I)
def F336 (e:E0) (nb:Addr) (I0:Led) (xss:List (List Str)) (K:Nat) (i:Nat) (nv:List Value):Obj × Led × List (List Str)→Prop
  | (o,I,yss)=>Sub I0 I∧GroupsI I nv yss∧News2 (xss.take i) yss∧NumsO e nb o (K + i * 1000)
noncomputable def S336b (Mf:Obj→Led) (it acc:Addr) (io ao:Obj) (I:Led) (_:Nat):Obj × List Str→Led × Led
  | (o,_)=>((it,io) :: (acc,ao) :: Mf o,I)
def F336b (e:E0) (nb:Addr) (xs:List Str) (K:Nat) (j:Nat) (zs:List Value):Obj × List Str→Prop
  | (o,qs)=>StrsAre zs qs∧News1 (xs.take j) qs∧NumsO e nb o (K + j)
theorem k_lt {K i j n:Nat} (hK:K + n * 1000 ≤ 10000000) (hi:i < n) (hj:j ≤ 1000):K + i * 1000 + j ≤ 10000000:=by
  have:(i + 1) * 1000 ≤ n * 1000:=Nat.mul_le_mul_right _ hi
  rw [Nat.add_mul] at this
  lia
theorem k_le {K i j:Nat} (hj:j ≤ 1000):K + i * 1000 + j ≤ K + (i + 1) * 1000:=by rw [Nat.add_mul]; lia
theorem GroupsI.e {I gv xss} {P:Prop} {i:Nat} {g:Value} (h:GroupsI I gv xss) (hg:gv[i]? = some g) (q:∀ xs ys ya yn,g = .ref ya→xss[i]? = some xs→i < xss.length→xs ∈ xss→(ya,listO ys yn) ∈ I→StrsAre ys xs→P):P:=
  let ⟨xs,ys,h1,⟨ya,yn,h2,h3⟩,h4⟩:=h.at hg
  q xs ys ya yn h2 h1 (List.getElem?_eq_some_iff.mp h1).1 (List.mem_of_getElem? h1) h3 h4
theorem strs_e {ys:List Value} {xs:List Str} {P:Prop} {j:Nat} {v:Value} (h:StrsAre ys xs) (hv:ys[j]? = some v) (q:∀ z t,v = .str z t→xs[j]? = some z→z ∈ xs→P):P:=
  let ⟨z,t,h1,h2⟩:=strs_at h hv
  q z t h1 h2 (List.mem_of_getElem? h2)
theorem MapO.next {N:Str→Option Str} {xs ys:List Str} {kvs:List (Str × Value)} {j:Nat} {a b:Str} {t:Tok} (h:MapO (updN N (xs.take j) (ys.take j)) kvs) (hx:xs[j]? = some a) (hy:ys[j]? = some b) :
    MapO (updN N (xs.take (j + 1)) (ys.take (j + 1))) (stored kvs a (.str b t)):=fun z=>by
  have h1:=(List.getElem?_eq_some_iff.mp hx).1
  have h2:=(List.getElem?_eq_some_iff.mp hy).1
  rw [take_next hx,take_next hy,updN_snoc (by rw [List.length_take,List.length_take]; lia),valueAt_stored]
  by_cases hz1:z = a
  · simp only [hz1,if_true]
    exact ⟨_,rfl⟩
  · simp only [hz1,if_false]
    exact h z
theorem MapO.t0 {N:Str→Option Str} {xs ys:List Str} {kvs:List (Str × Value)} {c:Nat}:MapO (updN N (xs.take (0 * c)) (ys.take (0 * c))) kvs ↔ MapO N kvs:=by rw [Nat.zero_mul]; rfl
theorem MapO.t1 {N:Str→Option Str} {xs ys:List Str} {kvs:List (Str × Value)} {c:Nat} (hc:c = xs.length) (hl:xs.length = ys.length) (h:MapO (updN N (xs.take c) (ys.take c)) kvs):MapO (updN N [xs].flatten [ys].flatten) kvs:=by
  rw [hc,List.take_length,hl,List.take_length] at h
  rw [List.flatten_cons,List.flatten_nil,List.append_nil,List.flatten_cons,List.flatten_nil,List.append_nil]
  exact h
theorem MapO.t2 {N:Str→Option Str} {xs ys:List Str} {kvs:List (Str × Value)} {c d:Nat} (hc:c = d) (h:MapO (updN N (xs.take c) (ys.take c)) kvs):MapO (updN N (xs.take d) (ys.take d)) kvs:=hc ▸ h
noncomputable def S343 (rv:Value) (da sa ga na fd:Addr) (M I:Led) (_:Nat):Obj × List (Str × Value) × Option Value × Option Value→Sta
  | (o,_,u,w)=>⟨[some rv,some (.ref da),some (.ref sa),some (.ref ga),some (.ref na),some (.ref fd),u,w],(fd,o) :: M,I⟩
noncomputable def S343b (rv:Value) (da sa ga na fd:Addr) (z:Value) (it:Addr) (io:Obj) (M I:Led) (_:Nat):Obj × List (Str × Value) × Option Value→Sta
  | (o,_,w)=>⟨[some rv,some (.ref da),some (.ref sa),some (.ref ga),some (.ref na),some (.ref fd),some z,w],(it,io) :: (fd,o) :: M,I⟩
def F343 {α:Type} (e:E0) (fd:Addr) (N:Str→Option Str) (xs ys:List Str) (n:Nat) (f:Nat→Nat) (i:Nat):Obj × List (Str × Value) × α→Prop
  | (o,kvs,_)=>DO e fd o kvs∧MapO (updN N (xs.take (f i)) (ys.take (f i))) kvs∧kvs.length ≤ n + f i
theorem pair_e {zs ws:List Value} {xs ys:List Str} {P:Prop} {j:Nat} (hz:StrsAre zs xs) (hw:StrsAre ws ys) (hl:xs.length = ys.length) (hj:j < xs.length)
    (q:∀ a ta b tb,zs[j]? = some (.str a ta)→ws[j]? = some (.str b tb)→xs[j]? = some a→ys[j]? = some b→P):P:=by
  have h1:=strs_len hz
  have h2:=strs_len hw
  have hx:zs[j]? = some (zs[j]'(by lia)):=List.getElem?_eq_getElem _
  have hy:ws[j]? = some (ws[j]'(by lia)):=List.getElem?_eq_getElem _
  obtain ⟨a,ta,e1,h3⟩:=strs_at hz hx
  obtain ⟨b,tb,e2,h4⟩:=strs_at hw hy
  exact q a ta b tb (hx.trans (congrArg some e1)) (hy.trans (congrArg some e2)) h3 h4
theorem int0 {n:Nat}:((n:Int) - 0).toNat = n:=by lia
theorem News2.one {xs yss} (h:News2 [xs] yss):∃ ys,yss = [ys]∧News1 xs ys:=by
  cases h with | cons a b=>cases b; exact ⟨_,rfl,a⟩
theorem GroupsI.one {I gv xs} (h:GroupsI I gv [xs]):∃ ga gn zs,gv = [.ref ga]∧(ga,listO zs gn) ∈ I∧StrsAre zs xs:=by
  cases h with | cons a b c=>cases c; obtain ⟨ga,gn,rfl,h⟩:=a; exact ⟨_,_,_,rfl,h,b⟩
section
variable {e:E0} {x:Ctx e} {vs:List (Option Value)} {M I:Led} {k:Value→Sta→Prop} {v:Value} {ws:List Value}
theorem new_groupsH {rv fv iv:Value} {nb:Addr} {o:Obj} {K:Nat} {Mf:Obj→Led} {gl:Value} {gv:List Value} {xss:List (List Str)} (hr0:RenI I rv fv iv)
    (hf:FreshI e I fv nb) (hn:NumsO e nb o K) (hK0:K + xss.length * 1000 ≤ 10000000) (hM0:M = Mf o) (hp2:∀ o1 o2,Put nb o1 o2 (Mf o1) (Mf o2)) (hgl:LisI I gl gv) (hg:GroupsI I gv xss)
    (hb:∀ xs ∈ xss,xs.length ≤ 1000∧∀ x ∈ xs,Base x) (hr:3 ≤ x.c.room)
    (q:∀ l nv n yss o' I',Sub I I'→GroupsI I' nv yss→News2 xss yss→NumsO e nb o' (K + xss.length * 1000)→k (.ref l) ⟨vs,(l,listO nv n) :: Mf o',I'⟩):H x (call (.ref 336) [rv,gl]) ⟨vs,M,I⟩ k:=by
  obtain ⟨fa,ia,rfl,rfl,hi⟩:=hr0
  obtain ⟨ga,gn,rfl,hgm⟩:=hgl
  cases hM0
  have hgvl:=hg.len
  refine fr336.run rfl hr fun x' hx=>compH3 (S336 Mf) (F336 e nb I xss K) (o,I,[]) (itList (.inr hgm)) rfl ⟨Sub.refl,.nil,.nil,hn⟩ (hgvl ▸ Nat.le_trans (Nat.le_trans (Nat.le_mul_of_pos_right _ (by decide)) (Nat.le_add_left _ _)) hK0) (fun i ys o I' yss h=>srcL (.inr (h.1 _ hgm)))
    (fun x2 hr2 i y ys o1 I1 yss it io m acc u hi' hX h _ V9=>hg.e hX fun xs zs ya yn ey hxs hil hxm hym hyx=>?_) fun acc ys o1 I1 yss m h=>retI (q acc ys m yss o1 I1 h.1 h.2.1 ?f1 ?f2)
  case f1=>have:=h.2.2.1; rw [hgvl,List.take_length] at this; exact this
  case f2=>have:=h.2.2.2; rw [hgvl] at this; exact this
  cases ey
  have hxl:=(hb xs hxm).1
  have hzl:=strs_len hyx
  refine compH2 (S336b Mf it acc io (listO ys m) I1) (F336b e nb xs (K + i * 1000)) (o1,[]) (itList (.inr (h.1 _ hym))) rfl ⟨.nil,.nil,h.2.2.2⟩ (hzl ▸ Nat.le_trans hxl (by decide)) (fun _ _ _ _ _=>srcL (.inr (h.1 _ hym)))
    (fun x3 hr3 j y2 zs2 o2 qs it2 io2 m2 acc2 u2 hj hX2 h2 _ V9=>strs_e hyx hX2 fun z tz ez hz hzm=>?_) fun acc2 zs2 o2 qs m2 h2=>V9.ce (o2,_,yss ++ [qs]) ⟨h.1.trans Sub.one,(h.2.1.mono Sub.one).snoc ⟨_,_,rfl,.head _⟩ h2.1,?g1,h2.2.2.le (k_le (hzl ▸ hxl))⟩ (Le.freeze .head Le.refl) rfl
  case g1=>
    have:=h2.2.1
    rw [hzl,List.take_length] at this
    rw [take_next hxs]; exact h.2.2.1.snoc this
  cases ez
  obtain ⟨av,avk,hfi,hfr⟩:=hf.mono h.1
  refine getH (hi.mono h.1) g360_fresh rfl trivial (methH hfi m510_next rfl rfl (nextH ((hb xs hxm).2 z hzm) ⟨av,avk,hfi,hfr⟩ h2.2.2 (k_lt hK0 hil (Nat.le_trans (Nat.le_of_lt (hzl ▸ hj)) hxl)) (fun o'=>.tail (.tail (.tail (.tail (hp2 o2 o'))))) ?_ fun y t o' hy ho'=>V9.ce (o',qs ++ [y]) ⟨strs_snoc h2.1,?g2,ho'⟩ Le.refl rfl))
  case g2=>rw [take_next hz]; exact h2.2.1.snoc hy
  rw [hr3,hr2]; exact rm hx rfl
theorem itRange0 {r:Addr} {o:Obj} {n:Nat} (ho:RngO 0 n o) (hz:n ≤ 10000000):ItH x (.ref r) vs ((r,o) :: M) M I (RGo 0 n) n (fun i y=>∃ t,y = .int i t) (fun _=>True):=by
  have h:=itRange (x:=x) (vs:=vs) (M:=M) (I:=I) (r:=r) ho ⟨by lia,by lia,by lia,by lia⟩
  rw [int0] at h
  simpa only [Int.zero_add] using h
theorem innerH {rv nd gl sv nl:Value} {N:Str→Option Str} {n:Nat} {gv nv:List Value} {xss yss:List (List Str)} {b:Bool} (hnd:MapI e I nd N n) (hgl:LisI I gl gv) (hg:GroupsI I gv xss)
    (hnl:LisI I nl nv) (hnv:GroupsI I nv yss) (hN:News2 xss yss) (hsv:ScopeI I sv b) (hb:b = true→∃ xs,xss = [xs]∧xs.length ≤ 1000) (hn:n ≤ 1000000) (hr:1 ≤ x.c.room)
    (q:∀ v I',Sub I I'→MapI e I' v (if b then updN N xss.flatten yss.flatten else N) (n + 1000)→k v ⟨vs,M,I'⟩):H x (call (.ref 343) [rv,nd,sv,gl,nl]) ⟨vs,M,I⟩ k:=by
  obtain ⟨kvs,⟨da,od,rfl,hdm,hd⟩,hlen,hB⟩:=hnd
  obtain ⟨ga,gn,rfl,hgm⟩:=hgl
  obtain ⟨na,nn,rfl,hnm⟩:=hnl
  cases b with
  | false=>
    obtain ⟨sa,sn,rfl,hsm⟩:=hsv
    exact fr343.run rfl hr fun x' _ r=>eqT0 (.inr (.tail _ hsm)) (.inr (.head _)) (retI (q _ _ Sub.one ⟨kvs,⟨da,od,rfl,.tail _ hdm,hd⟩,Nat.le_trans hlen (Nat.le_add_right _ _),hB⟩))
  | true=>
    obtain ⟨st,sa,sn,rfl,hsm⟩:=hsv
    obtain ⟨xs,rfl,hxl⟩:=hb rfl
    obtain ⟨ys,rfl,hxy⟩:=hN.one
    obtain ⟨g0,g0n,zs,rfl,hg0,hzx⟩:=hg.one
    obtain ⟨h0,h0n,ws,rfl,hh0,hwy⟩:=hnv.one
    have hzl:=strs_len hzx
    have hn2:∀ {m c:Nat},m ≤ n + c→c ≤ xs.length→m ≤ 10000000:=fun h1 h2=>Nat.le_trans h1 (Nat.le_trans (Nat.add_le_add hn (Nat.le_trans h2 hxl)) (by decide))
    refine fr343.run rfl hr fun x' _ r=>eqT0 (.inr (.tail _ hsm)) (.inr (.head _)) (dCopy (.inr (.tail _ hdm)) hd (Nat.le_trans hlen (Nat.le_trans hn (by decide))) fun fd o hd2=>
      forH4 (S343 rv da sa ga na fd M ((r,tupO [] 0) :: I)) (F343 e fd N xs ys n fun i=>i * xs.length) (o,kvs,none,none) (itTup (xs:=[.int 0 st]) (.inr (.tail _ hsm))) rfl ⟨hd2,?h0,Nat.le_trans hlen (Nat.le_add_right _ _)⟩ (fun _ _ _ _ _ _=>srcT (.inr (.tail _ hsm)))
        (fun i y o kvs2 u w it io hi hX h _ V9=>?step) fun o kvs2 u w h=>retL (Le.freeze .head Le.refl) (q _ _ Sub.one.cons ⟨kvs2,⟨fd,o,rfl,.head _,h.1⟩,Nat.le_trans h.2.2 ?hz,?hx⟩))
    case h0=>exact MapO.t0.mpr hB
    case hx=>exact MapO.t1 (Nat.one_mul _) hxy.len h.2.1
    case hz=>exact Nat.add_le_add_left (Nat.le_trans (Nat.le_of_eq (Nat.one_mul _)) hxl) _
    case step=>
      obtain rfl:i = 0:=Nat.lt_one_iff.mp hi
      obtain rfl:=Option.some.inj hX
      refine itemH (i:=0) (.inr (.tail _ hgm)) (by decide) rfl (lenH (.inr (.tail _ hg0)) (hzl ▸ Nat.le_trans hxl (by decide)) fun t1=>rangeH1 fun rg ro hrg=>forH3 (S343b rv da sa ga na fd (.int 0 st) it io M ((r,tupO [] 0) :: I)) (F343 e fd N xs ys n id) (o,kvs2,w) (itRange0 hrg (hzl ▸ Nat.le_trans hxl (by decide))) rfl ⟨h.1,?m0,Nat.le_trans h.2.2 (Nat.le_of_eq (congrArg (n + ·) (Nat.zero_mul _)))⟩ (fun _ _ _ _ _=>srcTrue)
        (fun j y o3 kvs3 w it2 io2 hj hX h3 _ V9=>pair_e hzx hwy hxy.len (hzl ▸ hj) fun a ta b tb e1 e2 e3 e4=>?_) fun o3 kvs3 w h3=>V9.tnext (o3,kvs3,some (.int 0 st),w) ⟨h3.1,?m1,Nat.le_trans h3.2.2 (Nat.le_of_eq (congrArg (n + ·) (hzl.trans (Nat.one_mul _).symm)))⟩ Le.refl)
      case m0=>exact MapO.t0.mp h.2.1
      case m1=>exact h3.2.1.t2 (hzl.trans (Nat.one_mul _).symm)
      obtain ⟨tj,rfl⟩:=hX
      have hj60:j < 2 ^ 60:=Nat.lt_trans (Nat.lt_of_lt_of_le (hzl ▸ hj) hxl) (by decide)
      exact itemH (i:=0) (.inr (.tail _ hnm)) (by decide) rfl (itemH (.inr (.tail _ hh0)) hj60 e2 (itemH (i:=0) (.inr (.tail _ hgm)) (by decide) rfl (itemH (.inr (.tail _ hg0)) hj60 e1 (dSet h3.1 (fun o'=>.tail (.tail .head)) (hn2 h3.2.2 (hzl ▸ Nat.le_of_lt hj)) fun o4 hd5=>
        V9.tnext (o4,stored kvs3 a (.str b tb),some (.int j tj)) ⟨hd5,h3.2.1.next e3 e4,Nat.le_trans (stored_length_le _ _ _) (Nat.succ_le_succ h3.2.2)⟩ Le.refl))))
end
end
section
noncomputable def rebuiltOf:Hd→Addr
  | .var _=>49 | .lit _ _=>91 | .app=>131 | .lam _=>173 | .lett _ _=>209 | .con _=>249 | .prim _=>289
theorem Binds.snoc {I ps xs vs p x t v} (h:Binds I ps xs vs) (k:TupI I p [.str x t,v]):Binds I (ps ++ [p]) (xs ++ [x]) (vs ++ [v]):=by
  induction h with
  | nil=>exact .cons k .nil
  | cons a _ ih=>exact .cons a ih
theorem Binds.next {I I' ps p t v} {ys:List Str} {y:Str} {bs:List Value} {i:Nat} (h:Binds I ps (ys.take i) (bs.take i)) (k:Sub I I') (hy:ys[i]? = some y) (hb:bs[i]? = some v) (h1:TupI I' p [.str y t,v]):Binds I' (ps ++ [p]) (ys.take (i + 1)) (bs.take (i + 1)):=by
  rw [take_next hy,take_next hb]
  exact (h.mono k).snoc h1
theorem Binds.whole {I ps} {ys:List Str} {bs:List Value} {n:Nat} (h:Binds I ps (ys.take n) (bs.take n)) (h1:n = ys.length) (h2:n = bs.length):Binds I ps ys bs:=by
  rw [List.take_of_length_le (Nat.le_of_eq h1.symm),List.take_of_length_le (Nat.le_of_eq h2.symm)] at h; exact h
theorem pick_tail {f:Value} {as:List Value}:kms_pick (f :: as) (some 1) none = as:=by simp [kms_pick,kms_lo,kms_hi]
theorem neg1_len {bs:List Value} {w:Value}:(bs ++ [w])[((-1:Int) + (bs ++ [w]).length).toNat]? = some w:=by
  have e1:(-1 + ((bs ++ [w]).length:Int)).toNat = bs.length:=by simp only [List.length_append,List.length_singleton]; lia
  rw [e1]; simp
theorem at_e {xs:List Value} {P:Prop} {i:Nat} (h:i < xs.length) (q:∀ w,xs[i]? = some w→P):P:=q _ (List.getElem?_eq_getElem h)
theorem lett_e {ys:List Str} {zs bs:List Value} {P:Prop} {i:Nat} (hz:StrsAre zs ys) (hb:bs.length = ys.length) (hi:i < ys.length) (q:∀ y t w,zs[i]? = some (.str y t)→bs[i]? = some w→ys[i]? = some y→P):P:=
  at_e (i:=i) (xs:=zs) (strs_len hz ▸ hi) fun z hz'=>at_e (i:=i) (xs:=bs) (hb ▸ hi) fun w hw=>let ⟨y,t,e,hy⟩:=strs_at hz hz'; q y t w (e ▸ hz') hw hy
section
variable {e:E0} {x:Ctx e} {vs:List (Option Value)} {M I:Led} {k:Value→Sta→Prop} {v:Value} {ws:List Value} {st:Sta}
theorem mRebuilt {h:Hd} {k:Value × List Value→Sta→Prop} (r:RepH I h v ws) (q:k (.ref (rebuiltOf h),[v]) ⟨vs,M,I⟩):HM x v "rebuilt" ⟨vs,M,I⟩ k:=by
  obtain ⟨fs,hi,hl⟩:=r.ins
  have hl:=hl.2.2
  cases h with
  | var x=>exact methH hi m52_rebuilt rfl hl q
  | lit x n=>exact methH hi m94_rebuilt rfl hl q
  | app=>exact methH hi m134_rebuilt rfl hl q
  | lam p=>exact methH hi m176_rebuilt rfl hl q
  | lett xs r0=>exact methH hi m212_rebuilt rfl hl q
  | con p=>exact methH hi m252_rebuilt rfl hl q
  | prim p=>exact methH hi m292_rebuilt rfl hl q
theorem negH {a:Int} {t:Tok} (q:∀ t,k (.int (-a) t) st):H x (unaryOp .USub (.int a t)) st k:=⟨fun _ hs=>i_neg hs fun t _ hs'=>⟨st,hs',q t⟩⟩
theorem rebuilt252 {k0:Str} {nl:Value} {pa:Addr} {pn:Nat} {ws':List Value} (r:RepH I (.con k0) v ws) (hpm:(pa,listO ws' pn) ∈ I) (hr:3 ≤ x.c.room)
    (q:∀ v' I',Sub I I'→RepH I' (.con k0) v' ws'→k v' ⟨vs,M,I'⟩):H x (call (.ref 249) [v,nl,.ref pa]) ⟨vs,M,I⟩ k:=
  let ⟨_,_,hi,_⟩:=r
  fr249.run rfl hr fun x' hx=>getH hi g252_name rfl trivial (new252 hx fun v' I' h1 h2=>retI (q _ _ h1 ⟨_,_,h2,⟨pa,pn,rfl,h1 _ hpm⟩⟩))
theorem rebuilt292 {k0:Str} {nl:Value} {pa:Addr} {pn:Nat} {ws':List Value} (r:RepH I (.prim k0) v ws) (hpm:(pa,listO ws' pn) ∈ I) (hr:3 ≤ x.c.room)
    (q:∀ v' I',Sub I I'→RepH I' (.prim k0) v' ws'→k v' ⟨vs,M,I'⟩):H x (call (.ref 289) [v,nl,.ref pa]) ⟨vs,M,I⟩ k:=
  let ⟨_,_,hi,_⟩:=r
  fr289.run rfl hr fun x' hx=>getH hi g292_op rfl trivial (new292 hx fun v' I' h1 h2=>retI (q _ _ h1 ⟨_,_,h2,⟨pa,pn,rfl,h1 _ hpm⟩⟩))
theorem rebuilt173 {y:Str} {ty:Tok} {na ga pa b:Addr} {nn gn pn:Nat} (hnm:(na,listO [.ref ga] nn) ∈ I) (hgm:(ga,listO [.str y ty] gn) ∈ I) (hpm:(pa,listO [.ref b] pn) ∈ I) (hr:3 ≤ x.c.room)
    (q:∀ v' I',Sub I I'→RepH I' (.lam y) v' [.ref b]→k v' ⟨vs,M,I'⟩):H x (call (.ref 173) [v,.ref na,.ref pa]) ⟨vs,M,I⟩ k:=
  fr173.run rfl hr fun x' hx t1=>itemH (i:=0) (.inr hnm) (by decide) rfl fun t2=>itemH (i:=0) (.inr hpm) (by decide) rfl (new176 hx fun v' I' h1 h2=>retI (q _ _ h1 ⟨b,ga,ty,rfl,h2,⟨_,gn,rfl,h1 _ hgm⟩⟩))
theorem rebuilt131 {nl:Value} {pa f:Addr} {pn:Nat} {as:List Value} (hpm:(pa,listO (.ref f :: as) pn) ∈ I) (hz:as.length ≤ 1000) (hr:3 ≤ x.c.room)
    (q:∀ v' I',Sub I I'→RepH I' .app v' (.ref f :: as)→k v' ⟨vs,M,I'⟩):H x (call (.ref 131) [v,nl,.ref pa]) ⟨vs,M,I⟩ k:=
  fr131.run rfl hr fun x' hx t1=>itemH (i:=0) (.inr hpm) (by decide) rfl fun t2 r=>sliceH (.inr (.tail _ hpm)) (.head _) (.int 1 _) .none (Nat.le_trans (Nat.succ_le_succ hz) (by decide)) fun la=>
    pick_tail.symm ▸ H.freeze .head (new134 hx fun v' I' h1 h2=>retI (q _ _ (Sub.one.cons.trans h1) ⟨f,la,as,rfl,h2,⟨_,0,rfl,h1 _ (.head _)⟩⟩))
theorem rebuilt209 {xs ys:List Str} {r0:Bool} {bs zs:List Value} {na ga pa b:Addr} {nn gn pn:Nat} (r:RepH I (.lett xs r0) v ws) (hnm:(na,listO [.ref ga] nn) ∈ I) (hgm:(ga,listO zs gn) ∈ I) (hzx:StrsAre zs ys) (hxy:xs.length = ys.length)
    (hpm:(pa,listO (bs ++ [.ref b]) pn) ∈ I) (hbl:bs.length = ys.length) (hz:ys.length ≤ 1000) (hr:3 ≤ x.c.room)
    (q:∀ v' I',Sub I I'→RepH I' (.lett ys r0) v' (bs ++ [.ref b])→k v' ⟨vs,M,I'⟩):H x (call (.ref 209) [v,.ref na,.ref pa]) ⟨vs,M,I⟩ k:=by
  obtain ⟨l,ps,bs0,b0,_,hi,⟨_,ln,e0,hlm⟩,hB⟩:=r
  cases e0
  have hlen:ps.length = ys.length:=hB.len.1.trans hxy
  have hz7:ys.length ≤ 10000000:=Nat.le_trans hz (by decide)
  refine fr209.run rfl hr fun x' hx=>getH hi g212_binds rfl trivial (lenH (.inr hlm) (hlen ▸ hz7) fun t1=>rangeH1 fun rg ro hrg=>compH (fun _ I'=>(M,I')) (fun i ps' I'=>Sub I I'∧Binds I' ps' (ys.take i) (bs.take i)) I (itRange0 hrg (hlen ▸ hz7)) rfl ⟨Sub.refl,.nil⟩ (hlen ▸ hz7) (fun _ _ _ _=>srcTrue)
    (fun x2 hr2 i y ps' I' it o m acc u hi' hX h _ V9=>lett_e hzx hbl (hlen ▸ hi') fun y2 ty w e1 e2 e3=>?_) fun acc ps' I' m h=>?_)
  · obtain ⟨tj,rfl⟩:=hX
    have hi60:i < 2 ^ 60:=Nat.lt_trans (Nat.lt_of_lt_of_le (hlen ▸ hi') hz) (by decide)
    exact fun t2=>itemH (i:=0) (.inr (h.1 _ hnm)) (by decide) rfl (itemH (.inr (h.1 _ hgm)) hi60 e1 (itemH (.inr (h.1 _ hpm)) hi60 ((List.getElem?_append_left (hbl ▸ hlen ▸ hi')).trans e2) fun r=>V9.ce (m:=m) _ ⟨h.1.trans Sub.one,h.2.next Sub.one e3 e2 ⟨_,_,rfl,.head _⟩⟩ Le.refl rfl))
  · have hP:=h.2.whole hlen (hlen.trans hbl.symm)
    have hs:=h.1.trans (Sub.one (p:=(acc,listO ps' m)))
    exact fun t3=>H.freeze .head (negH fun t4=>itemNH (.inr (hs _ hpm)) (by decide) (by decide) (by rw [List.length_append,List.length_singleton]; lia) neg1_len (getH (hi.mono hs) g212_is_rec rfl trivial (new212 hx fun v' I2 h1 h2=>retI (q _ _ (hs.trans h1) ⟨acc,ps',bs,b,rfl,h2,⟨_,m,rfl,h1 _ (.head _)⟩,(hP.mono Sub.one).mono h1⟩))))
end
end
section
theorem one_e {ws ws':List Value} {P:Prop} {b:Value} (hl:ws'.length = ws.length) (hw:ws = [b]) (href:∀ w ∈ ws',∃ a,w = .ref a) (q:∀ f,ws' = [.ref f]→P):P:=by
  obtain ⟨w,rfl⟩:=List.length_eq_one_iff.mp (hl.trans (congrArg List.length hw))
  obtain ⟨f,rfl⟩:=href w (.head _)
  exact q f rfl
theorem cons_e {ws':List Value} {P:Prop} (hne:ws' ≠ []) (href:∀ w ∈ ws',∃ a,w = .ref a) (q:∀ f as,ws' = .ref f :: as→P):P:=by
  cases ws' with
  | nil=>exact absurd rfl hne
  | cons w as=>obtain ⟨f,rfl⟩:=href w (.head _); exact q f as rfl
theorem snoc_e {ws':List Value} {P:Prop} (hne:ws' ≠ []) (href:∀ w ∈ ws',∃ a,w = .ref a) (q:∀ f as,ws' = as ++ [.ref f]→P):P:=by
  have h:=(List.dropLast_concat_getLast hne).symm
  obtain ⟨f,e⟩:=href _ (List.getLast_mem hne)
  rw [e] at h
  exact q f _ h
section
variable {e:E0} {x:Ctx e} {vs:List (Option Value)} {M I:Led} {k:Value→Sta→Prop} {v:Value} {ws:List Value} {st:Sta}
theorem rebuiltH {h:Hd} {nl pa:Addr} {nn pn:Nat} {ws' nv:List Value} {yss:List (List Str)} (r:RepH I h v ws) (hl:ws'.length = ws.length) (hne:ws' ≠ []) (href:∀ w ∈ ws',∃ a,w = .ref a)
    (hN:News2 (gps h) yss) (hnl:(nl,listO nv nn) ∈ I) (hnv:GroupsI I nv yss) (hp:(pa,listO ws' pn) ∈ I) (hz:ws.length ≤ 1000) (hr:3 ≤ x.c.room)
    (q:∀ v' I',Sub I I'→RepH I' (reHd h yss) v' ws'→k v' ⟨vs,M,I'⟩):H x (call (.ref (rebuiltOf h)) [v,.ref nl,.ref pa]) ⟨vs,M,I⟩ k:=by
  cases h with
  | var x=>rw [r.1] at hl; exact absurd (List.length_eq_zero_iff.mp hl) hne
  | lit x n=>rw [r.1] at hl; exact absurd (List.length_eq_zero_iff.mp hl) hne
  | con x=>exact rebuilt252 r hp hr q
  | prim x=>exact rebuilt292 r hp hr q
  | app=>
    refine cons_e hne href fun f as e1=>?_
    subst e1
    exact rebuilt131 hp (Nat.le_of_succ_le (Nat.le_trans (Nat.le_of_eq hl) hz)) hr q
  | lam p=>
    obtain ⟨b,l,t,e0,_⟩:=r
    obtain ⟨ys,rfl,h1⟩:=hN.one
    cases h1 with | cons h3 h4=>
    cases h4
    obtain ⟨ga,gn,zs,rfl,hg,hzx⟩:=hnv.one
    refine one_e hl e0 href fun f e1=>?_
    subst e1
    cases hzx with | cons=>cases ‹StrsAre _ []›; exact rebuilt173 hnl hg hp hr q
  | lett xs r0=>
    obtain ⟨ys,rfl,h1⟩:=hN.one
    obtain ⟨ga,gn,zs,rfl,hg,hzx⟩:=hnv.one
    obtain ⟨l,ps,bs,b,e1,hi,hl2,hB⟩:=id r
    have hbl:=hB.len
    have hxy:=h1.len
    refine snoc_e hne href fun f as e2=>?_
    subst e2
    rw [e1] at hl hz
    simp only [List.length_append,List.length_singleton] at hl hz
    have e2:reHd (.lett xs r0) [ys] = .lett ys r0:=by simp [reHd]
    rw [e2] at q
    exact rebuilt209 r hnl hg hzx hxy hp (by lia) (by lia) hr q
end
mutual
def GoodT:Tr→Prop
  | .node h ks=>(∀ xs ∈ gps h,xs.length ≤ 1000∧∀ x ∈ xs,Base x)∧GoodTs ks
def GoodTs:List Tr→Prop
  | []=>True
  | k :: ks=>GoodT k∧GoodTs ks
end
noncomputable abbrev noI:Str→Option Tr:=fun _=>none
noncomputable abbrev noN:Str→Option Str:=fun _=>none
def RunC (e:E0) (fv:Value) (nb:Addr) (inst:Str→Option Tr) (F R:Nat):Prop:=
  ∀ {x:Ctx e} {vs:List (Option Value)} {M I:Led} {Mf:Obj→Led} {o:Obj} {K:Nat} {t:Tr} {v rv iv:Value} {k:Value→Sta→Prop},
    Rep I t v→RenI I rv fv iv→InstI e I iv inst→FreshI e I fv nb→NumsO e nb o K→M = Mf o→(∀ o1 o2,Put nb o1 o2 (Mf o1) (Mf o2))→GoodT t→tsize t ≤ 60→K + F * tsize t ≤ 9000000→R ≤ x.c.room→
    (∀ t' v' o' I',Ren inst noN t t'→Rep I' t' v'→Sub I I'→NumsO e nb o' (K + F * tsize t)→k v' ⟨vs,Mf o',I'⟩)→H x (call (.ref 357) [rv,v]) ⟨vs,M,I⟩ k
def RecOk (e:E0) (fv:Value) (nb:Addr) (inst:Str→Option Tr) (F R:Nat):Prop:=∀ x t,inst x = some t→RunC e fv nb noI 1000 8∧GoodT t∧tsize t ≤ 60∧60000 ≤ F∧11 ≤ R
theorem mapO_e {N:Str→Option Str} {kvs:List (Str × Value)} {P:Prop} (h:MapO N kvs) (x:Str) (h1:∀ y t,N x = some y→valueAt kvs x = some (.str y t)→P) (h2:N x = none→valueAt kvs x = none→P):P:=by
  have hx:=h x
  cases e1:N x with
  | none=>rw [e1] at hx; exact h2 e1 hx
  | some y=>rw [e1] at hx; obtain ⟨t,ht⟩:=hx; exact h1 y t e1 ht
theorem Rep.ref {I t v} (h:Rep I t v):∃ a,v = .ref a:=by
  cases t with | node hh kk=>obtain ⟨ws,hH,_⟩:=h; exact hH.ref
theorem InstI.e {e:E0} {I:Led} {ia:Addr} {inst:Str→Option Tr} {P:Prop} (h:InstI e I (.ref ia) inst) (x:Str) (q:∀ io ikvs,(ia,io) ∈ I→DO e ia io ikvs→(inst x = none→valueAt ikvs x = none→P)∧(∀ t a,inst x = some t→valueAt ikvs x = some (.ref a)→Rep I t (.ref a)→P)):P:=by
  obtain ⟨ikvs,⟨ia',io,q',him,hid⟩,hI⟩:=h
  cases q'
  have hx:=hI x
  obtain ⟨h1,h2⟩:=q io ikvs him hid
  cases e1:inst x with
  | none=>rw [e1] at hx; exact h1 e1 hx
  | some t=>rw [e1] at hx; obtain ⟨u,hv,hu⟩:=hx; obtain ⟨a,rfl⟩:=hu.ref; exact h2 t a e1 hv hu
section
variable {e:E0} {x:Ctx e} {vs:List (Option Value)} {M I:Led} {k:Value→Sta→Prop} {v:Value} {ws:List Value} {st:Sta}
theorem dGet1E {d:Addr} {o:Obj} {kvs:List (Str × Value)} {y:Str} {t:Tok} {u:Option Value} {w:Value} (ho:Own M I d o) (hd:DO e d o kvs) (hv:valueAt kvs y = u) (hw:u.getD .none = w) (q:k w ⟨vs,M,I⟩):H x (call (.builtin "dict.get") [.ref d,.str y t]) ⟨vs,M,I⟩ k:=dGet1 ho hd (by rw [hv,hw]; exact q)
theorem renNew {km:Value × List Value→Sta→Prop} {fa:Addr} {nb:Addr} {o:Obj} {K:Nat} {Mf:Obj→Led} {t:Tr} {v:Value} (hrun:RunC e (.ref fa) nb noI 1000 8) (hf:FreshI e I (.ref fa) nb) (hn:NumsO e nb o K) (hp2:∀ o1 o2,Put nb o1 o2 (Mf o1) (Mf o2)) (r:Rep I t v) (hg:GoodT t) (hts:tsize t ≤ 60) (hK:K + 1000 * tsize t ≤ 9000000) (hr:8 ≤ x.c.room)
    (q:∀ t' v' o' I',Ren noI noN t t'→Rep I' t' v'→Sub I I'→NumsO e nb o' (K + 1000 * tsize t)→k v' ⟨vs,Mf o',I'⟩) {d:Addr} {o0:Obj} (hd0:DO e d o0 []) (hk:∀ w I',H x (call (.ref 357) [w,v]) ⟨vs,Mf o,I'⟩ k→km (.ref 357,[w]) ⟨vs,Mf o,I'⟩):H x (call (.ref 360) [.ref fa,.ref d]) ⟨vs,(d,o0) :: Mf o,I⟩ fun w st=>HM x w "run" st km:=
  H.freeze .head (new360 (rm hr rfl) fun v' I' h1 h2=>methH h2 m360_run rfl rfl (hk _ _ (hrun (r.mono (Sub.one.trans h1)) ⟨fa,d,rfl,rfl,h2⟩ ⟨[],⟨d,o0,rfl,h1 _ (.head _),hd0⟩,fun _=>rfl⟩ (hf.mono (Sub.one.trans h1)) hn rfl hp2 hg hts hK hr
    fun t' v2 o' I2 hR hRep hsub2 hno=>q t' v2 o' I2 hR hRep ((Sub.one.trans h1).trans hsub2) hno)))
theorem leafH {rv fv iv nd:Value} {nb:Addr} {o:Obj} {K F R:Nat} {Mf:Obj→Led} {inst:Str→Option Tr} {N:Str→Option Str} {n:Nat} {h:Hd} (hr0:RenI I rv fv iv) (hin:InstI e I iv inst)
    (hf:FreshI e I fv nb) (hn:NumsO e nb o K) (hM0:M = Mf o) (hp2:∀ o1 o2,Put nb o1 o2 (Mf o1) (Mf o2)) (r:Rep I (.node h []) v) (hnd:MapI e I nd N n)
    (hrec:RecOk e fv nb inst F R) (h3:3 ≤ R) (hr:R + 1 ≤ x.c.room) (hK:K + F ≤ 9000000)
    (q:∀ t' v' o' I',Ren inst N (.node h []) t'→Rep I' t' v'→Sub I I'→NumsO e nb o' (K + F)→k v' ⟨vs,Mf o',I'⟩):H x (call (.ref 350) [rv,v,nd]) ⟨vs,M,I⟩ k:=by
  obtain ⟨fa,ia,rfl,rfl,hi⟩:=hr0
  obtain ⟨ws,rH,rK⟩:=id r
  obtain ⟨kvs,⟨na,no,rfl,hnm,hnd⟩,hnl,hN⟩:=hnd
  cases hM0
  have hno:=hn.le (Nat.le_add_right K F)
  refine fr350.run rfl hr fun x' hx=>isiH rH rfl (cnd (fun hb=>retI (q _ _ _ _ (.leaf ((Bool.not_eq_true' _).mp hb)) r Sub.refl hno)) fun hb=>?_)
  obtain ⟨y,rfl⟩:=var_of ((Bool.not_eq_false' _).mp hb)
  obtain ⟨hws,ty,hi2⟩:=rH
  refine getH hi2 g52_name rfl trivial (mapO_e hN y (fun z tz e1 e2=>dIn (.inr hnm) hnd (cndT (by rw [e2]; rfl) (getH hi2 g52_name rfl trivial (dItem (.inr hnm) hnd e2 (new52 (Nat.le_trans (Nat.le_of_succ_le h3) hx) fun v' I' h1 h2=>retI (q (.node (.var z) []) _ _ _ (.var e1) ⟨[],⟨rfl,_,h2⟩,True.intro⟩ h1 hno))))))
    fun e1 e2=>dIn (.inr hnm) hnd (cndF (by rw [e2]; rfl) (getH hi g360_instead rfl trivial (hin.e y fun io ikvs him hid=>⟨fun e3 e4=>mGet (.inr him) hid (getH hi2 g52_name rfl trivial (dGet1E (.inr him) hid e4 rfl (isNoneN (retI (q _ _ _ _ (.keep e1 e3) r Sub.refl hno))))),
      fun t a e3 e4 e5=>mGet (.inr him) hid (getH hi2 g52_name rfl trivial (dGet1E (.inr him) hid e4 rfl (isNoneR (getH hi g360_fresh rfl trivial fun d o0 hd0=>?_))))⟩))))
  obtain ⟨hrun,hgt,hts,hF,h11⟩:=hrec y t e3
  exact renNew (x:=x') hrun hf hn hp2 e5 hgt hts (by lia) (by lia) (fun t' v' o' I' hR hRep hs ho'=>retI (q _ _ _ _ (.inst e1 e3 hR) hRep hs (ho'.le (by lia)))) hd0 fun _ _ h=>h
end
end
section
inductive Item
  | new (t:Tr) (N:Str→Option Str)
  | reb (h:Hd) (m:Nat) (yss:List (List Str))
def Exec (inst:Str→Option Tr):List Item→List Tr→Tr→Prop
  | [],D,r=>D = [r]
  | .new t N :: its,D,r=>∃ t',Ren inst N t t'∧Exec inst its (D ++ [t']) r
  | .reb h m yss :: its,D,r=>∃ D' ks',D = D' ++ ks'∧ks'.length = m∧Exec inst its (D' ++ [.node (reHd h yss) ks']) r
def Fit:List Item→Nat→Prop
  | [],n=>n = 1
  | .new _ _ :: its,n=>Fit its (n + 1)
  | .reb _ m _ :: its,n=>∃ n',n = n' + m∧Fit its (n' + 1)
noncomputable def nsz:List Item→Nat
  | []=>0
  | .new t _ :: its=>tsize t + nsz its
  | .reb _ _ _ :: its=>nsz its
noncomputable def wgt:List Item→Nat
  | []=>0
  | .new t _ :: its=>2 * tsize t + wgt its
  | .reb _ _ _ :: its=>wgt its + 1
noncomputable def news (ks:List Tr) (Ns:List (Str→Option Str)):List Item:=List.zipWith Item.new ks Ns
theorem wgt_len:∀ its:List Item,its.length ≤ wgt its
  | []=>Nat.le_refl _
  | .new t _ :: its=>by have:=wgt_len its; have:=tsize_pos t; rw [wgt,List.length_cons]; lia
  | .reb _ _ _ :: its=>by have:=wgt_len its; rw [wgt,List.length_cons]; lia
theorem wgt_news {its:List Item}:∀ {ks:List Tr} {Ns:List (Str→Option Str)},Ns.length = ks.length→wgt (news ks Ns ++ its) = 2 * tsizes ks + wgt its
  | [],[],_=>by rw [tsizes]; exact (Nat.zero_add _).symm
  | k :: ks,N :: Ns,h=>by
    show wgt (.new k N :: (news ks Ns ++ its)) = _
    rw [wgt,wgt_news (Nat.succ.inj h),tsizes]; lia
  | [],_ :: _,h=>nomatch h
  | _ :: _,[],h=>nomatch h
theorem nsz_news {its:List Item}:∀ {ks:List Tr} {Ns:List (Str→Option Str)},Ns.length = ks.length→nsz (news ks Ns ++ its) = tsizes ks + nsz its
  | [],[],_=>by rw [tsizes]; exact (Nat.zero_add _).symm
  | k :: ks,N :: Ns,h=>by
    show nsz (.new k N :: (news ks Ns ++ its)) = _
    rw [nsz,nsz_news (Nat.succ.inj h),tsizes]; lia
  | [],_ :: _,h=>nomatch h
  | _ :: _,[],h=>nomatch h
theorem fit_news {its:List Item}:∀ {ks:List Tr} {Ns:List (Str→Option Str)} {n:Nat},Ns.length = ks.length→Fit its (n + ks.length)→Fit (news ks Ns ++ its) n
  | [],[],_,_,h=>h
  | k :: ks,N :: Ns,n,h,f=>by
    show Fit (news ks Ns ++ its) (n + 1)
    exact fit_news (Nat.succ.inj h) (by rw [Nat.add_assoc,Nat.add_comm 1]; exact f)
  | [],_ :: _,_,h,_=>nomatch h
  | _ :: _,[],_,h,_=>nomatch h
theorem exec_news {inst:Str→Option Tr} {its:List Item} {r:Tr}:∀ {ks:List Tr} {Ns:List (Str→Option Str)} {D:List Tr},Ns.length = ks.length→Exec inst (news ks Ns ++ its) D r→∃ ks',Rens inst Ns ks ks'∧ks'.length = ks.length∧Exec inst its (D ++ ks') r
  | [],[],D,_,h=>⟨[],.nil,rfl,by rw [List.append_nil]; exact h⟩
  | k :: ks,N :: Ns,D,hl,h=>by
    obtain ⟨t',h1,h2⟩:Exec inst (.new k N :: (news ks Ns ++ its)) D r:=h
    obtain ⟨ks',h3,h4,h5⟩:=exec_news (Nat.succ.inj hl) h2
    exact ⟨t' :: ks',.cons h1 h3,congrArg Nat.succ h4,by rw [List.append_assoc] at h5; exact h5⟩
  | [],_ :: _,_,h,_=>nomatch h
  | _ :: _,[],_,h,_=>nomatch h
structure RunP (inst:Str→Option Tr) (F:Nat) (P:Tr→Prop) (KM:Nat) (its:List Item) (D:List Tr) (K:Nat):Prop where
  ex:∀ r,Exec inst its D r→P r
  fit:Fit its D.length
  k:K + F * nsz its ≤ KM
  d:D.length + nsz its ≤ 60
  w:wgt its ≤ 121
section
variable {inst:Str→Option Tr} {F:Nat} {P:Tr→Prop} {KM:Nat} {its:List Item} {D:List Tr} {K:Nat}
theorem RunP.leaf {h:Hd} {N:Str→Option Str} {t':Tr} (g:RunP inst F P KM (.new (.node h []) N :: its) D K) (hR:Ren inst N (.node h []) t'):RunP inst F P KM its (D ++ [t']) (K + F) where
  ex r hr:=g.ex r ⟨t',hR,hr⟩
  fit:=by have:=g.fit; rw [Fit] at this; rw [List.length_append]; exact this
  k:=by have:=g.k; rw [nsz,tsize,tsizes,Nat.mul_add] at this; lia
  d:=by have:=g.d; rw [nsz,tsize,tsizes] at this; rw [List.length_append]; exact Nat.le_trans (by show _ + 1 + _ ≤ _; lia) this
  w:=by have:=g.w; rw [wgt] at this; lia
theorem RunP.open {h:Hd} {N:Str→Option Str} {k:Tr} {ks:List Tr} {Ns:List (Str→Option Str)} {yss:List (List Str)} (g:RunP inst F P KM (.new (.node h (k :: ks)) N :: its) D K) (hN:News2 (gps h) yss) (he:Ns = ctxN h N yss (k :: ks).length) (hl:Ns.length = (k :: ks).length) :
    RunP inst F P KM (news (k :: ks) Ns ++ .reb h (k :: ks).length yss :: its) D (K + F) where
  ex r hr:=by
    obtain ⟨ks',h1,h2,D',ks2,e1,e2,h3⟩:=exec_news hl hr
    obtain ⟨rfl,rfl⟩:=List.append_inj' e1 (h2.trans e2.symm)
    exact g.ex r ⟨_,.node hN (he ▸ h1),h3⟩
  fit:=fit_news hl ⟨D.length,rfl,by have:=g.fit; rw [Fit] at this; exact this⟩
  k:=by have:=g.k; rw [nsz,tsize] at this; rw [nsz_news hl,nsz]; rw [Nat.mul_add,Nat.mul_add,Nat.mul_one] at this; rw [Nat.mul_add]; lia
  d:=by have:=g.d; rw [nsz,tsize] at this; rw [nsz_news hl,nsz]; lia
  w:=by have:=g.w; rw [wgt,tsize] at this; rw [wgt_news hl,wgt]; lia
theorem RunP.close {h:Hd} {m:Nat} {yss:List (List Str)} {D' ks':List Tr} (g:RunP inst F P KM (.reb h m yss :: its) (D' ++ ks') K) (hm:ks'.length = m) (h1:1 ≤ m):RunP inst F P KM its (D' ++ [.node (reHd h yss) ks']) K where
  ex r hr:=g.ex r ⟨D',ks',rfl,hm,hr⟩
  fit:=by
    obtain ⟨n',e1,e2⟩:∃ n',(D' ++ ks').length = n' + m∧Fit its (n' + 1):=g.fit
    rw [List.length_append,hm] at e1
    rw [List.length_append,Nat.add_right_cancel e1]; exact e2
  k:=g.k
  d:=by have:=g.d; rw [List.length_append,nsz] at this; rw [List.length_append]; exact Nat.le_trans (by show _ + 1 + _ ≤ _; lia) this
  w:=by have:=g.w; rw [wgt] at this; lia
theorem RunP.split {h:Hd} {m:Nat} {yss:List (List Str)} (g:RunP inst F P KM (.reb h m yss :: its) D K):∃ D' ks',D = D' ++ ks'∧ks'.length = m:=by
  obtain ⟨n',e1,e2⟩:∃ n',D.length = n' + m∧Fit its (n' + 1):=g.fit
  exact ⟨D.take n',D.drop n',(List.take_append_drop _ _).symm,by rw [List.length_drop,e1]; lia⟩
end
end
section
theorem Reps.snoc {I:Led} {t:Tr} {v:Value} (h:Rep I t v):∀ {ts:List Tr} {vs:List Value},Reps I ts vs→Reps I (ts ++ [t]) (vs ++ [v])
  | [],[],_=>⟨h,True.intro⟩
  | _ :: ts,_ :: vs,r=>⟨r.1,Reps.snoc h (ts:=ts) (vs:=vs) r.2⟩
  | [],_ :: _,r=>r.elim
  | _ :: _,[],r=>r.elim
theorem Reps.split {I:Led}:∀ {a b:List Tr} {vs:List Value},Reps I (a ++ b) vs→∃ us ws,vs = us ++ ws∧Reps I a us∧Reps I b ws
  | [],b,vs,r=>⟨[],vs,rfl,True.intro,r⟩
  | t :: a,b,v :: vs,r=>let ⟨us,ws,e,h1,h2⟩:=Reps.split (a:=a) (b:=b) (vs:=vs) r.2; ⟨v :: us,ws,congrArg _ e,⟨r.1,h1⟩,h2⟩
  | _ :: _,_,[],r=>r.elim
theorem Reps.refs {I:Led}:∀ {ts:List Tr} {vs:List Value},Reps I ts vs→∀ w ∈ vs,∃ a,w = .ref a
  | [],[],_,w,hw=>nomatch hw
  | t :: ts,v :: vs,r,w,hw=>by
    cases hw with
    | head=>exact r.1.ref
    | tail _ hw=>exact Reps.refs (ts:=ts) (vs:=vs) r.2 w hw
  | [],_ :: _,r,_,_=>r.elim
  | _ :: _,[],r,_,_=>r.elim
theorem GoodTs.at:∀ {ks:List Tr},GoodTs ks→∀ {i:Nat} {t:Tr},ks[i]? = some t→GoodT t
  | [],_,i,t,hi=>nomatch hi
  | k :: ks,h,0,t,hi=>Option.some.inj hi ▸ h.1
  | k :: ks,h,i + 1,t,hi=>GoodTs.at (ks:=ks) h.2 (i:=i) hi
def ItemI (e:E0) (I:Led) (p:Value):Item→Prop
  | .new t N=>∃ v nd n,TupI I p [v,nd,.none]∧Rep I t v∧GoodT t∧MapI e I nd N n∧n + 1000 * tsize t ≤ 1000000
  | .reb h m yss=>∃ v nd nl nv nn ws,TupI I p [v,nd,.ref nl]∧RepH I h v ws∧ws.length = m∧1 ≤ m∧m ≤ 1000∧(nl,listO nv nn) ∈ I∧GroupsI I nv yss∧News2 (gps h) yss
theorem ItemI.mono {e:E0} {I I':Led} {p:Value} (k:Sub I I') {it:Item} (h:ItemI e I p it):ItemI e I' p it:=by
  cases it with
  | new _ _=>obtain ⟨v,nd,n,h1,h2,h3,h4,h5⟩:=h; exact ⟨v,nd,n,h1.mono k,h2.mono k,h3,h4.mono k,h5⟩
  | reb _ _ _=>obtain ⟨v,nd,nl,nv,nn,ws,h1,h2,h3,h3',h3'',h4,h5,h6⟩:=h; exact ⟨v,nd,nl,nv,nn,ws,h1.mono k,h2.mono k,h3,h3',h3'',k _ h4,h5.mono k,h6⟩
inductive StkI (e:E0) (I:Led):List Value→List Item→Prop
  | nil:StkI e I [] []
  | snoc {p it ps its}:ItemI e I p it→StkI e I ps its→StkI e I (ps ++ [p]) (it :: its)
theorem StkI.mono {e:E0} {I I':Led} {ps its} (h:StkI e I ps its) (k:Sub I I'):StkI e I' ps its:=by
  induction h with
  | nil=>exact .nil
  | snoc a _ ih=>exact .snoc (a.mono k) ih
theorem StkI.len {e:E0} {I:Led} {ps its} (h:StkI e I ps its):ps.length = its.length:=by
  induction h with
  | nil=>rfl
  | snoc a _ ih=>rw [List.length_append,ih]; rfl
theorem len_ar {a b n m:Nat} (h1:2 * (a + 1) + b ≤ 121) (h2:m ≤ a) (h3:n ≤ b):m + (n + 1) ≤ 200:=by lia
section
variable {e:E0} {I:Led} {inst:Str→Option Tr} {F:Nat} {R:Tr→Prop} {KM K n:Nat} {its:List Item} {D:List Tr} {ps ds:List Value}
@[elab_as_elim] theorem stk_e {P:List Value→Prop} (h:StkI e I ps its) (hg:RunP inst F R KM its D K) (hn:n = wgt its) (hne:(!ps.isEmpty) = true)
    (q1:∀ ps' p hd ks N its',ItemI e I p (.new (.node hd ks) N)→StkI e I ps' its'→RunP inst F R KM (.new (.node hd ks) N :: its') D K→n = wgt (.new (.node hd ks) N :: its')→P (ps' ++ [p]))
    (q2:∀ ps' p hd m yss its',ItemI e I p (.reb hd m yss)→StkI e I ps' its'→RunP inst F R KM (.reb hd m yss :: its') D K→n = wgt (.reb hd m yss :: its')→P (ps' ++ [p])):P ps:=by
  cases h with
  | nil=>cases hne
  | @snoc p it ps' its' h1 h2=>
    cases it with
    | new t N=>cases t with | node hd ks=>exact q1 _ _ _ _ _ _ h1 h2 hg hn
    | reb hd m yss=>exact q2 _ _ _ _ _ _ h1 h2 hg hn
theorem stk_end {P:Prop} {I:Led} (h:StkI e I ps its) (hg:RunP inst F R KM its D K) (hr:Reps I D ds) (he:(!ps.isEmpty) = false) (q:∀ t' v',R t'→ds[0]? = some v'→Rep I t' v'→K ≤ KM→P):P:=by
  cases h with
  | nil=>
    have hf:D.length = 1:=hg.fit
    match D,ds,hf,hr with
    | [t'],v' :: _,_,hr=>exact q t' v' (hg.ex t' rfl) rfl hr.1 hg.k
  | @snoc p it ps' its' h1 h2=>cases ps' <;> cases he
@[elab_as_elim] theorem close_e {P:List Value→Prop} {hd:Hd} {m:Nat} {yss:List (List Str)} (hg:RunP inst F R KM (.reb hd m yss :: its) D K) (hr:Reps I D ds) (h1:1 ≤ m)
    (q:∀ D' ks' ds' ws',Reps I D' ds'→Reps I ks' ws'→ws'.length = m→RunP inst F R KM its (D' ++ [.node (reHd hd yss) ks']) K→ds'.length + ws'.length ≤ 60→P (ds' ++ ws')):P ds:=by
  obtain ⟨D',ks',rfl,hm⟩:=hg.split
  have hd:=hg.d
  have hl:=hr.len
  obtain ⟨us,ws,rfl,h2,h3⟩:=hr.split
  rw [hl,List.length_append] at hd
  exact q D' ks' us ws h2 h3 (h3.len ▸ hm) (hg.close hm h1) (Nat.le_trans (Nat.le_add_right _ _) hd)
theorem RunP.ps_le (hg:RunP inst F R KM its D K) (h:StkI e I ps its):ps.length ≤ 121:=h.len ▸ Nat.le_trans (wgt_len its) hg.w
theorem RunP.ds_le (hg:RunP inst F R KM its D K) (h:Reps I D ds):ds.length ≤ 60:=h.len ▸ Nat.le_trans (Nat.le_add_right _ _) hg.d
theorem RunP.k_le {t:Tr} {N:Str→Option Str} (hg:RunP inst F R KM (.new t N :: its) D K) (hK:KM ≤ 9000000):K + F ≤ 9000000:=by
  have h1:=hg.k
  have h2:=Nat.mul_le_mul_left F (tsize_pos t)
  rw [nsz,Nat.mul_add] at h1
  lia
theorem RunP.sz {hd:Hd} {ks:List Tr} {N:Str→Option Str} (hg:RunP inst F R KM (.new (.node hd ks) N :: its) D K):ks.length ≤ 60:=by
  have h1:=hg.d
  have h2:=tsizes_len ks
  rw [nsz,tsize] at h1
  lia
theorem StkI.len_le {hd:Hd} {ks:List Tr} {N:Str→Option Str} {a m:Nat} {yss:List (List Str)} {Ns:List (Str→Option Str)} {I':Led} {L:List Value} (h:StkI e I' L (news (ks.drop a) Ns ++ .reb hd m yss :: its)) (hg:RunP inst F R KM (.new (.node hd ks) N :: its) D K):L.length ≤ 200:=by
  have h1:=hg.w
  have h2:=tsizes_len ks
  have h3:=wgt_len its
  rw [wgt,tsize] at h1
  rw [h.len,news,List.length_append,List.length_zipWith,List.length_drop,List.length_cons]
  exact len_ar h1 (Nat.le_trans (Nat.min_le_left _ _) (Nat.le_trans (Nat.sub_le _ _) h2)) h3
end
theorem drop_cons_of {α:Type} {l:List α} {j:Nat} {x:α} (h:l[j]? = some x):l.drop j = x :: l.drop (j + 1):=by
  obtain ⟨hj,rfl⟩:=List.getElem?_eq_some_iff.mp h
  exact List.drop_eq_getElem_cons hj
theorem StkI.next {e:E0} {I I':Led} {L:List Value} {p:Value} {ks:List Tr} {Ns:List (Str→Option Str)} {rest:List Item} {t:Tr} {N:Str→Option Str} {n i:Nat} (h:StkI e I L (news (ks.drop (n - i)) (Ns.drop (n - i)) ++ rest)) (k:Sub I I') (hi:i < n) (hk:ks[n - 1 - i]? = some t) (hN:Ns[n - 1 - i]? = some N) (hp:ItemI e I' p (.new t N)) :
    StkI e I' (L ++ [p]) (news (ks.drop (n - (i + 1))) (Ns.drop (n - (i + 1))) ++ rest):=by
  have e1:n - (i + 1) = n - 1 - i:=by lia
  have e2:n - i = n - 1 - i + 1:=by lia
  rw [e2] at h
  rw [e1,drop_cons_of hk,drop_cons_of hN]
  exact .snoc hp (h.mono k)
theorem StkI.whole {e:E0} {I:Led} {L:List Value} {ks:List Tr} {Ns:List (Str→Option Str)} {rest:List Item} {n:Nat} (h:StkI e I L (news (ks.drop (n - n)) (Ns.drop (n - n)) ++ rest)):StkI e I L (news ks Ns ++ rest):=by rw [Nat.sub_self] at h; exact h
theorem StkI.start {e:E0} {I:Led} {L:List Value} {ks:List Tr} {Ns:List (Str→Option Str)} {rest:List Item} {n:Nat} (h:StkI e I L rest) (hn:n = ks.length):StkI e I L (news (ks.drop (n - 0)) (Ns.drop (n - 0)) ++ rest):=by
  rw [hn,Nat.sub_zero,List.drop_of_length_le (Nat.le_refl _)]; exact h
theorem revAt {α:Type} {l:List α} {i:Nat} {y:α} (hi:i < l.length) (h:l.reverse[i]? = some y):l[l.length - 1 - i]? = some y:=(List.getElem?_reverse hi).symm.trans h
theorem ctxN_at {h:Hd} {ws:List Value} {N:Str→Option Str} {yss:List (List Str)} {j n:Nat} {f:Bool} (hn:n = ws.length) (hf:(scs h ws.length)[j]? = some f):(ctxN h N yss n)[j]? = some (if f then updN N (gps h).flatten yss.flatten else N):=by
  unfold ctxN
  rw [hn,List.getElem?_map,hf]; rfl
theorem ctxN_len {I:Led} {h:Hd} {v:Value} {ws:List Value} {N:Str→Option Str} {yss:List (List Str)} {n:Nat} (r:RepH I h v ws) (hn:n = ws.length):(ctxN h N yss n).length = n:=by
  unfold ctxN
  rw [List.length_map,hn]; exact scs_len r
theorem asg3T {I:Led} {v a b c:Value} {k:Value→Value→Value→Prop} (h:TupI I v [a,b,c]) (q:k a b c):Asg3 v I k:=let ⟨T,n,e,h⟩:=h; ⟨⟨T,a,b,c,n,e,h,q⟩⟩
theorem pick_end {ds' ws':List Value} {n:Nat} (h:ws'.length = n):kms_pick (ds' ++ ws') (some (((ds' ++ ws').length:Int) - (n:Int))) none = ws':=by
  have hm:((ds' ++ ws').length:Int) - (n:Int) = ((ds'.length:Nat):Int):=by rw [List.length_append]; lia
  have h1:¬ (((ds'.length:Nat):Int) < 0):=by lia
  rw [hm]
  simp only [kms_pick,kms_lo,kms_hi,if_neg h1,Int.toNat_natCast,List.length_append]
  rw [Nat.min_eq_left (by lia),List.drop_left,List.take_of_length_le (by lia)]
section
variable {e:E0} {x:Ctx e} {vs:List (Option Value)} {M I:Led} {v:Value} {ws:List Value} {st:Sta}
theorem delEnd {l sl:Addr} {xs ys:List Value} {m n:Nat} {ta:Tok} {Mf:Nat→Led} {k:Unit→Sta→Prop} (hy:ys.length = n) (hz:xs.length + ys.length ≤ 100000) (hp:∀ n',Put l (listO (xs ++ ys) m) (listO xs n') M (Mf n')) (hsl:(sl,slO (.int (((xs ++ ys).length:Int) - (n:Int)) ta) .none) ∈ I) (q:∀ n',k () ⟨vs,Mf n',I⟩) :
    H x (delItem (.ref l) (.ref sl)) ⟨vs,M,I⟩ k:=by
  have hm:((xs ++ ys).length:Int) - (n:Int) = ((xs.length:Nat):Int):=by rw [List.length_append]; lia
  rw [hm] at hsl
  exact ⟨fun _ hs=>del_tail hs (a:=xs.length) (fun n'=>by rw [List.take_left]; exact hp n') hsl (by rw [List.length_append]; exact Nat.le_add_right _ _) (by rw [List.length_append]; exact hz) fun n' _ hs'=>upM hs' (q n')⟩
end
end
section
abbrev OV:=Option Value
noncomputable def S357 (rv v:Value) (tl dl:Addr) (Mf:Obj→Led):List Value × List Item × List Tr × List Value × Obj × Nat × Led × (Nat × Nat) × OV × OV × OV × OV × OV × OV × OV × OV × OV→Sta
  | (ps,_,_,ds,o,_,I,nn,u1,u2,u3,u4,u5,u6,u7,u8,u9)=>⟨[some rv,some v,some (.ref tl),some (.ref dl),u1,u2,u3,u4,u5,u6,u7,u8,u9],(dl,listO ds nn.2) :: (tl,listO ps nn.1) :: Mf o,I⟩
def F357 (e:E0) (nb:Addr) (inst:Str→Option Tr) (F:Nat) (I0:Led) (P:Tr→Prop) (KM:Nat) (w:Nat):List Value × List Item × List Tr × List Value × Obj × Nat × Led × (Nat × Nat) × OV × OV × OV × OV × OV × OV × OV × OV × OV→Prop
  | (ps,its,D,ds,o,K,I,_)=>StkI e I ps its∧RunP inst F P KM its D K∧Reps I D ds∧NumsO e nb o K∧Sub I0 I∧w = wgt its
noncomputable def S357b (rv v:Value) (tl dl:Addr) (M:Led) (ds:Obj) (a b c d f:Value) (u8 u9:OV) (_:Nat):List Value × Nat × Led × OV × OV→Sta
  | (L,n,I,u6,u7)=>⟨[some rv,some v,some (.ref tl),some (.ref dl),some a,some b,some c,some d,some f,u6,u7,u8,u9],(dl,ds) :: (tl,listO L n) :: M,I⟩
def F357b (e:E0) (I0:Led) (ks:List Tr) (Ns:List (Str→Option Str)) (rest:List Item) (n:Nat) (i:Nat):List Value × Nat × Led × OV × OV→Prop
  | (L,_,I,_)=>Sub I0 I∧StkI e I L (news (ks.drop (n - i)) (Ns.drop (n - i)) ++ rest)
theorem gps_one (h:Hd):(gps h).length ≤ 1:=by cases h <;> simp [gps]
theorem kF {K F n:Nat} (hn:n ≤ 1) (hF:1000 ≤ F):K + n * 1000 ≤ K + F:=by lia
theorem StkI.one {e:E0} {I:Led} {p v nd:Value} {t:Tr} {N:Str→Option Str} {n:Nat} (h1:TupI I p [v,nd,.none]) (h2:Rep I t v) (h3:GoodT t) (h4:MapI e I nd N n) (h5:n + 1000 * tsize t ≤ 1000000):StkI e I [p] [.new t N]:=.snoc (p:=p) (it:=.new t N) (ps:=[]) ⟨v,nd,n,h1,h2,h3,h4,h5⟩ .nil
theorem RunP.start {inst:Str→Option Tr} {t:Tr} {F K:Nat} (h:tsize t ≤ 60):RunP inst F (Ren inst noN t) (K + F * tsize t) [.new t noN] [] K:=
  ⟨fun r ⟨t',h1,h2⟩=>by cases h2; exact h1,rfl,Nat.le_refl _,(by show 0 + (tsize t + 0) ≤ 60; lia),(by show 2 * tsize t + 0 ≤ 121; lia)⟩
theorem Rep.mk {I:Led} {h:Hd} {ks:List Tr} {v:Value} {ws:List Value} (h1:RepH I h v ws) (h2:Reps I ks ws):Rep I (.node h ks) v:=⟨ws,h1,h2⟩
theorem wlt1 {w:Nat} {t:Tr} {N:Str→Option Str} {its:List Item} (h:w = wgt (.new t N :: its)):wgt its < w:=by
  have:=tsize_pos t
  rw [h,wgt]; lia
theorem wlt2 {w:Nat} {hd:Hd} {ks:List Tr} {N:Str→Option Str} {its:List Item} {Ns:List (Str→Option Str)} {m:Nat} {yss:List (List Str)} (h:w = wgt (.new (.node hd ks) N :: its)) (hl:Ns.length = ks.length):wgt (news ks Ns ++ .reb hd m yss :: its) < w:=by
  rw [h,wgt_news hl,wgt,wgt,tsize]; lia
theorem RunP.opn {inst:Str→Option Tr} {F:Nat} {P:Tr→Prop} {KM:Nat} {its:List Item} {D:List Tr} {K:Nat} {h:Hd} {N:Str→Option Str} {ks:List Tr} {yss:List (List Str)} (g:RunP inst F P KM (.new (.node h ks) N :: its) D K) (h1:1 ≤ ks.length) (hN:News2 (gps h) yss) (hl:(ctxN h N yss ks.length).length = ks.length) :
    RunP inst F P KM (news ks (ctxN h N yss ks.length) ++ .reb h ks.length yss :: its) D (K + F):=by
  cases ks with
  | nil=>cases h1
  | cons k ks=>exact g.open hN rfl hl
theorem isEmpty_nil {α:Type} {l:List α} (h:l.isEmpty = true):l = []:=by cases l <;> first | rfl | cases h
theorem isEmpty_pos {α:Type} {l:List α} (h:l.isEmpty = false):1 ≤ l.length:=by cases l <;> first | exact Nat.succ_le_succ (Nat.zero_le _) | cases h
theorem isEmpty_not {α:Type} {l:List α} (h:1 ≤ l.length):l.isEmpty = false:=by cases l <;> first | rfl | cases h
theorem GoodT.gps {h:Hd} {ks:List Tr} (g:GoodT (.node h ks)):(∀ xs ∈ gps h,xs.length ≤ 1000∧∀ x ∈ xs,Base x)∧GoodTs ks:=by unfold GoodT at g; exact g
theorem mn_ok {mn:Nat} {h:Hd} {ks:List Tr} {i:Nat} {t:Tr} (hm:mn + 1000 * tsize (.node h ks) ≤ 1000000) (hk:ks[i]? = some t):mn + 1000 + 1000 * tsize t ≤ 1000000:=by
  have:=tsize_at hk
  rw [tsize] at hm; lia
section
variable {e:E0} {x:Ctx e} {vs:List (Option Value)} {M I:Led}
theorem sliceE {l sl:Addr} {xs ys:List Value} {n:Nat} {vl vu:Value} {lo hi:Option Int} {kv:Value→Sta→Prop} (ho:Own M I l (listO xs n)) (hsl:(sl,slO vl vu) ∈ I) (pl:IsPart vl lo) (pu:IsPart vu hi) (hz:xs.length ≤ 10000000) (hp:kms_pick xs lo hi = ys) (q:∀ a,kv (.ref a) ⟨vs,(a,listO ys 0) :: M,I⟩) :
    HSli x (.ref l) (.ref sl) ⟨vs,M,I⟩ kv:=sliceH ho hsl pl pu hz (hp ▸ q)
end
set_option maxHeartbeats 1000000
theorem runH {fv:Value} {nb:Addr} {inst:Str→Option Tr} {F R:Nat} {e:E0} (hrec:RecOk e fv nb inst F R) (hF:1000 ≤ F) (hR:6 ≤ R):RunC e fv nb inst F (R + 2):=by
  intro x vs M I Mf o K t v rv iv k r hr0 hin hf hn hM0 hp2 hG hts hK hr q
  obtain ⟨fa,ia,rfl,rfl,hi⟩:=hr0
  cases hM0
  refine fr357.run rfl hr fun x' hx d0 o0 hd0 t1 tl dl T=>whlH8 (S357 rv v tl dl Mf) (F357 e nb inst F I (Ren inst noN t) (K + F * tsize t)) (wgt [.new t noN]) ([.ref t1],[.new t noN],[],[],o,K,_,(0,0),none,none,none,none,none,none,none,none,none) (Le.freeze (.tail (.tail .head)) Le.refl)
    ⟨.one ⟨t1,0,rfl,.tail _ (.tail _ (.head _))⟩ (r.mono Sub.one.cons.cons) hG ⟨[],⟨d0,o0,rfl,.head _,hd0⟩,Nat.le_refl _,fun _=>rfl⟩ ?z1,.start hts,True.intro,hn,Sub.one.cons.cons,rfl⟩ fun w ps its D ds o K I1 z h _ V9=>?_
  case z1=>exact Nat.le_trans (Nat.le_of_eq (Nat.zero_add _)) (Nat.le_trans (Nat.mul_le_mul_left 1000 hts) (by decide))
  obtain ⟨hst,hg,hds,hn,hsub,hw⟩:=h
  have hdl:=hg.ds_le hds
  refine truH (.inl (.tail _ (.head _))) (Nat.le_trans (hg.ps_le hst) (by decide)) (cnd (fun hne=>stk_e hst hg hw hne (fun ps p hd ks N its hT hst hg hw=>?new) fun ps p hd m yss its hT hst hg hw=>?reb) fun he=>stk_end hst hg hds he fun t' v' h1 h2 h3 h4=>?fin)
  case fin=>exact fun t5=>itemH (i:=0) (.inl (.head _)) (by decide) h2 (retL (Le.drop .head (Le.drop .head Le.refl)) (q t' v' o I1 h1 h3 hsub (hn.le h4)))
  case new=>
    obtain ⟨pv,nd,mn,hpT,hr,hgt,hnd,hmn⟩:=hT
    obtain ⟨ws,rH,rK⟩:=id hr
    have hwl:ws.length ≤ 60:=rK.len ▸ hg.sz
    have hwl3:=Nat.le_trans hwl (by decide:60 ≤ 1000)
    have hpl:=hg.ps_le (.snoc ⟨pv,nd,mn,hpT,hr,hgt,hnd,hmn⟩ hst)
    rw [List.length_append] at hpl
    have hpl2:ps.length ≤ 10000000:=Nat.le_trans (Nat.le_of_succ_le hpl) (by decide)
    have hKF:=hg.k_le hK
    have hR3:3 ≤ x'.c.room:=Nat.le_trans (by decide:3 ≤ 6) (Nat.le_trans hR (Nat.le_of_succ_le hx))
    have hp3:∀ {a b:Addr × Obj} o1 o2,Put nb o1 o2 (a :: b :: Mf o1) (a :: b :: Mf o2):=fun o1 o2=>.tail (.tail (hp2 o1 o2))
    refine mPop (.inl (.tail _ (.head _))) (popH (.tail .head) hpl2 (asg3T hpT (partsH rH (rm hR3 rfl) hwl3 fun l pp n2 I2 s1 hps a=>H.freeze (.tail .head) (eqL0 (.inr (.head _)) (.inl (.head _)) (cnd (fun hb=>HM.drop .head ?leaf) fun hb=>H.drop .head ?opn)))))
    case leaf=>
      have h0:ks = []:=List.length_eq_zero_iff.mp (rK.len.trans (hps.len.1.symm.trans (congrArg List.length (isEmpty_nil hb))))
      have s2:Sub I1 ((l,listO pp n2) :: I2):=s1.trans Sub.one
      have sA:=hsub.trans s2
      exact mAppend (.inl (.head _)) (methH (hi.mono sA) m360_leaf rfl rfl (leafH ⟨fa,ia,rfl,rfl,hi.mono sA⟩ (hin.mono sA) (hf.mono sA) hn rfl hp3 (h0 ▸ hr.mono s2) (hnd.mono s2) hrec (rm hR rfl) hx hKF fun t' v' o' I3 hRen hRep s3 hno=>
        appendH .head (Nat.le_trans hdl (by decide)) (V9.wnext (m:=wgt its) (ps,its,D ++ [t'],ds ++ [v'],o',K + F,I3,(z.1.1 + 1,z.1.2 + 1),some pv,some nd,some .none,some (.ref l),z.2.2.2.2.2) (wlt1 hw) ⟨hst.mono (s2.trans s3),(h0 ▸ hg:RunP inst F _ _ (.new (.node hd []) N :: its) D K).leaf hRen,(hds.mono (s2.trans s3)).snoc hRep,hno,sA.trans s3,rfl⟩ Le.refl)))
    case opn=>
      have hks1:1 ≤ ks.length:=rK.len.trans hps.len.1.symm ▸ isEmpty_pos hb
      have s2:Sub I1 ((l,listO pp n2) :: I2):=s1.trans Sub.one
      refine isNoneN (groupsH (rH.mono s2) (rm hR3 rfl) hwl3 fun gl gv gn I3 s3 hgv=>HM.freeze .head ?ng)
      have s3':Sub _ ((gl,listO gv gn) :: I3):=s3.trans Sub.one
      have sA:=hsub.trans (s2.trans s3')
      have hng:K + (gps hd).length * 1000 ≤ K + F:=kF (gps_one hd) hF
      refine methH (hi.mono sA) m360_new_groups rfl rfl (new_groupsH ⟨fa,ia,rfl,rfl,hi.mono sA⟩ (hf.mono sA) hn (Nat.le_trans hng (Nat.le_trans hKF (by decide))) rfl hp3 ⟨gl,gn,rfl,.head _⟩ (hgv.mono Sub.one) hgt.gps.1 hR3 fun nl nv nn yss o' I4 s4 hnv hN2 hno=>HM.freeze .head (mAppend (.inl (.tail _ (.head _))) fun r=>appendH (.tail .head) hpl2 ?loop))
      have s4':Sub _ ((nl,listO nv nn) :: I4):=s4.trans Sub.one
      have s34:Sub _ ((r,tupO [pv,nd,.ref nl] 0) :: (nl,listO nv nn) :: I4):=s3'.trans (s4'.trans Sub.one)
      have s5:=s2.trans s34
      have hcl:=ctxN_len (N:=N) (yss:=yss) rH rK.len
      refine revH (.inr (s34 _ (.head _))) fun it0 oi hio=>forH5 (S357b rv v tl dl (Mf o') (listO ds z.1.2) pv nd (.ref nl) (.ref l) (.ref gl) z.2.2.2.2.2.2.2.2.1 z.2.2.2.2.2.2.2.2.2) (F357b e ((r,tupO [pv,nd,.ref nl] 0) :: (nl,listO nv nn) :: I4) ks (ctxN hd N yss ks.length) (.reb hd ks.length yss :: its) pp.length)
        (ps ++ [.ref r],z.1.1 + 2,_,z.2.2.2.2.2.2.1,z.2.2.2.2.2.2.2.1) (itRev hio) rfl ⟨Sub.refl,.start (.snoc ⟨pv,nd,nl,nv,nn,ws,⟨r,0,rfl,.head _⟩,rH.mono s5,rK.len.symm,hks1,rK.len ▸ hwl3,.tail _ (.head _),hnv.mono Sub.one.cons,hN2⟩ (hst.mono s5)) (hps.len.1.trans rK.len.symm)⟩ (fun _ _ _ _ _ _ h=>srcL (.inr (h.1 _ (s34 _ (.head _)))))
        (fun i y L n I6 u6 u7 it io hi' hX hF _ V9=>asgP hps (revAt hi' hX) ((Sub.one.trans s34).trans hF.1) fun w sv f hw hf hsc=>mAppend (.inl (.tail _ (.tail _ (.head _)))) ?inn)
        fun L n I6 u6 u7 hF=>V9.wnext (m:=wgt (news ks (ctxN hd N yss ks.length) ++ .reb hd ks.length yss :: its)) (L,news ks (ctxN hd N yss ks.length) ++ .reb hd ks.length yss :: its,D,ds,o',K + F,I6,(n,z.1.2),some pv,some nd,some (.ref nl),some (.ref l),some (.ref gl),u6,u7,z.2.2.2.2.2.2.2.2) (wlt2 hw hcl) ⟨hF.2.whole,hg.opn hks1 hN2 hcl,hds.mono (s5.trans hF.1),hno.le hng,hsub.trans (s5.trans hF.1),rfl⟩ Le.refl
      case inn=>
        have sB:=Sub.one.trans hF.1
        refine methH (hi.mono (sA.trans (s4'.trans sB))) m360_inner rfl rfl (innerH (hnd.mono (s5.trans hF.1)) ⟨gl,gn,rfl,sB _ (s4' _ (.head _))⟩ (hgv.mono (Sub.one.trans (s4'.trans sB))) ⟨nl,nn,rfl,sB _ (.head _)⟩ (hnv.mono (Sub.one.trans sB)) hN2 (hsc.mono ((Sub.one.trans s34).trans hF.1)) (fun hft=>?gp) (Nat.le_trans (Nat.le_add_right _ _) hmn) (rm hR3 rfl) fun nd2 I7 s7 hnd2 r2=>
          appendH (.tail (.tail .head)) (Nat.le_trans (hF.2.len_le hg) (by decide)) ?ap)
        case gp=>
          obtain ⟨xs,h1,h2⟩:=gps_of rH f (List.mem_of_getElem? hf) hft
          exact ⟨xs,h1,Nat.le_trans h2 hwl3⟩
        case ap=>
          obtain ⟨kj,hkj,hrep⟩:=rK.at hw
          exact V9.tnext (L ++ [.ref r2],n + 1,(r2,tupO [w,nd2,.none] 0) :: I7,some w,some sv) ⟨hF.1.trans (s7.trans Sub.one),hF.2.next (s7.trans Sub.one) hi' hkj (ctxN_at rK.len hf) ⟨w,nd2,mn + 1000,⟨r2,0,rfl,.head _⟩,hrep.mono ((s5.trans hF.1).trans (s7.trans Sub.one)),hgt.gps.2.at hkj,hnd2.mono Sub.one,mn_ok hmn hkj⟩⟩ Le.refl
  case reb=>
    have hpl:=hg.ps_le (.snoc hT hst)
    rw [List.length_append] at hpl
    have hpl2:ps.length ≤ 10000000:=Nat.le_trans (Nat.le_of_succ_le hpl) (by decide)
    obtain ⟨pv,nd,nl,nv,nn,ws,hpT,rH,hwl,hm1,hm2,hnl,hnv,hN2⟩:=hT
    have hR3:3 ≤ x'.c.room:=Nat.le_trans (by decide:3 ≤ 6) (Nat.le_trans hR (Nat.le_of_succ_le hx))
    refine close_e hg hds hm1 fun D' ks' ds' ws' r1 r2 hwl' hg' h60=>?cls
    have hl3:(ds' ++ ws').length ≤ 60:=List.length_append ▸ h60
    have hl7:(ds' ++ ws').length ≤ 10000000:=Nat.le_trans hl3 (by decide)
    refine mPop (.inl (.tail _ (.head _))) (popH (.tail .head) hpl2 (asg3T hpT (partsH rH (rm hR3 rfl) (hwl ▸ hm2) fun l pp n2 I2 s1 hps a=>H.freeze (.tail .head) (eqL0 (.inr (.head _)) (.inl (.head _)) (cndF ?emp (H.drop .head (isNoneR ?r2)))))))
    case emp=>exact isEmpty_not (hps.len.1.trans hwl ▸ hm1)
    have s2:Sub I1 ((l,listO pp n2) :: I2):=s1.trans Sub.one
    have hwp:ws'.length = pp.length:=hwl'.trans (hps.len.1.trans hwl).symm
    refine lenH (.inr (.head _)) (hwp ▸ Nat.le_trans (Nat.le_trans (Nat.le_add_left _ _) h60) (by decide)) fun t5=>mRebuilt (rH.mono s2) (lenH (.inl (.head _)) hl7 fun t6 t7 r=>sliceE (.inl (.head _)) (.head _) (.int _ _) .none hl7 (pick_end hwp) fun sl=>H.freeze .head (rebuiltH (rH.mono (s2.trans Sub.one.cons)) (hwl'.trans hwl.symm) ?ne (r2.mono s2).refs hN2 (Sub.one _ (Sub.one _ (s2 _ hnl))) (hnv.mono (s2.trans Sub.one.cons)) (.head _) (hwl ▸ hm2) hR3 fun v' I3 s3 hH=>?del))
    case ne=>exact fun q=>absurd (Nat.le_trans hm1 (Nat.le_of_eq (hwl'.symm.trans (congrArg List.length q)))) (by decide)
    have s23:=s2.trans (Sub.one.cons.trans s3)
    exact lenH (.inl (.head _)) hl7 fun t8 t9 y=>delEnd hwp (Nat.le_trans h60 (by decide)) (fun n'=>.head) (.head _) fun n'=>mAppend (.inl (.head _)) (appendH .head (Nat.le_trans (Nat.le_trans (Nat.le_add_right _ _) h60) (by decide)) (V9.wnext (m:=wgt its) (ps,its,D' ++ [.node (reHd hd yss) ks'],ds' ++ [v'],o,K,(y,_) :: I3,(z.1.1 + 1,n' + 1),some pv,some nd,some (.ref nl),some (.ref l),z.2.2.2.2.2.1,z.2.2.2.2.2.2.1,z.2.2.2.2.2.2.2.1,some (.int pp.length t5),some v') (by rw [hw,wgt]; exact Nat.lt_succ_self _)
      ⟨hst.mono (s23.trans Sub.one),hg',(r1.mono (s23.trans Sub.one)).snoc (Rep.mk (hH.mono Sub.one) (r2.mono (s23.trans Sub.one))),hn,hsub.trans (s23.trans Sub.one),rfl⟩ Le.refl))
end
section
section
variable {e:E0} {x:Ctx e} {vs:List (Option Value)} {M I:Led} {k:Value→Sta→Prop} {v:Value}
theorem rec0 {fv:Value} {nb:Addr} {F R:Nat}:RecOk e fv nb noI F R:=fun _ _ h=>nomatch h
theorem run0 {fv:Value} {nb:Addr}:RunC e fv nb noI 1000 8:=runH (R:=6) rec0 (Nat.le_refl _) (Nat.le_refl _)
theorem renamedH {fv:Value} {nb:Addr} {o:Obj} {K:Nat} {Mf:Obj→Led} {t:Tr} (r:Rep I t v) (hfr:∃ fa,fv = .ref fa) (hf:FreshI e I fv nb) (hn:NumsO e nb o K) (hM0:M = Mf o) (hp2:∀ o1 o2,Put nb o1 o2 (Mf o1) (Mf o2)) (hG:GoodT t) (hts:tsize t ≤ 60) (hK:K + 1000 * tsize t ≤ 9000000) (hr:10 ≤ x.c.room)
    (q:∀ t' v' o' I',Ren noI noN t t'→Rep I' t' v'→Sub I I'→NumsO e nb o' (K + 1000 * tsize t)→k v' ⟨vs,Mf o',I'⟩):H x (call (.ref 371) [v,fv]) ⟨vs,M,I⟩ k:=by
  obtain ⟨fa,rfl⟩:=hfr
  cases hM0
  exact fr371.run rfl hr fun x' hx d o0 hd0=>renNew run0 hf hn hp2 r hG hts hK (rm hx rfl) (fun t' v' o' I' h1 h2 h3 h4=>retI (q t' v' o' I' h1 h2 h3 h4)) hd0 fun _ _ h=>h
theorem substitutedH {fv iv:Value} {nb:Addr} {o:Obj} {K:Nat} {Mf:Obj→Led} {t:Tr} {inst:Str→Option Tr} (r:Rep I t v) (hfr:∃ fa,fv = .ref fa) (hir:∃ ia,iv = .ref ia) (hin:InstI e I iv inst)
    (hit:∀ x t,inst x = some t→GoodT t∧tsize t ≤ 60) (hf:FreshI e I fv nb) (hn:NumsO e nb o K) (hM0:M = Mf o) (hp2:∀ o1 o2,Put nb o1 o2 (Mf o1) (Mf o2)) (hG:GoodT t) (hts:tsize t ≤ 60) (hK:K + 60000 * tsize t ≤ 9000000) (hr:15 ≤ x.c.room)
    (q:∀ t' v' o' I',Ren inst noN t t'→Rep I' t' v'→Sub I I'→NumsO e nb o' (K + 60000 * tsize t)→k v' ⟨vs,Mf o',I'⟩):H x (call (.ref 378) [v,iv,fv]) ⟨vs,M,I⟩ k:=by
  obtain ⟨fa,rfl⟩:=hfr
  obtain ⟨ia,rfl⟩:=hir
  cases hM0
  exact fr378.run rfl hr fun x' hx=>new360 (rm hx rfl) fun w I1 s1 hw=>methH hw m360_run rfl rfl (runH (R:=11) (fun x t h=>⟨run0,(hit x t h).1,(hit x t h).2,Nat.le_refl _,Nat.le_refl _⟩) (by decide) (by decide) (r.mono s1) ⟨fa,ia,rfl,rfl,hw⟩ (hin.mono s1) (hf.mono s1) hn rfl hp2 hG hts hK (rm hx rfl)
    fun t' v' o' I' h1 h2 h3 h4=>retI (q t' v' o' I' h1 h2 (s1.trans h3) h4))
end
end
section
theorem Reps.app {I:Led}:∀ {ks ks':List Tr} {ws ws':List Value},Reps I ks ws→Reps I ks' ws'→Reps I (ks ++ ks') (ws ++ ws')
  | [],_,[],_,_,h=>h
  | _ :: _,_,_ :: _,_,x,h=>⟨x.1,Reps.app x.2 h⟩
  | [],_,_ :: _,_,x,_=>x.elim
  | _ :: _,_,[],_,x,_=>x.elim
theorem Reps.last {I:Led} {b:Value}:∀ {ks:List Tr} {bs:List Value},Reps I ks (bs ++ [b])→∃ ks' kb,ks = ks' ++ [kb]∧Reps I ks' bs∧Rep I kb b
  | [k],[],h=>⟨[],k,rfl,True.intro,h.1⟩
  | k :: ks,w :: bs,h=>let ⟨ks',kb,e,h1,h2⟩:=Reps.last (ks:=ks) (bs:=bs) h.2; ⟨k :: ks',kb,congrArg _ e,⟨h.1,h1⟩,h2⟩
  | [],[],h=>h.elim
  | [],_ :: _,h=>h.elim
  | _ :: _ :: _,[],h=>h.2.elim
section
variable {e:E0} {x:Ctx e} {vs:List (Option Value)} {M I:Led} {st:Sta}
structure LetV (I:Led) (v:Value) (xs:List Str) (r:Bool) (l b:Addr) (ps bs:List Value):Prop where
  ins:Ins I v 212 [("binds",.ref l),("body",.ref b),("is_rec",.bool r)]
  lis:∃ n,(l,listO ps n) ∈ I
  bnd:Binds I ps xs bs
theorem LetV.mono {I I':Led} {v:Value} {xs:List Str} {r:Bool} {l b:Addr} {ps bs:List Value} (h:LetV I v xs r l b ps bs) (k:Sub I I'):LetV I' v xs r l b ps bs:=
  ⟨h.ins.mono k,h.lis.elim fun n q=>⟨n,k _ q⟩,h.bnd.mono k⟩
section
variable {v:Value} {xs:List Str} {r:Bool} {l b:Addr} {ps bs:List Value}
theorem LetV.binds (h:LetV I v xs r l b ps bs):FldI I v 212 "binds" (.ref l):=⟨_,h.ins,rfl,True.intro⟩
theorem LetV.body (h:LetV I v xs r l b ps bs):FldI I v 212 "body" (.ref b):=⟨_,h.ins,rfl,True.intro⟩
theorem LetV.is_rec (h:LetV I v xs r l b ps bs):FldI I v 212 "is_rec" (.bool r):=⟨_,h.ins,rfl,True.intro⟩
end
theorem let_elim {P:Prop} {v:Value} {xs:List Str} {r:Bool} {ks:List Tr} (h:Rep I (.node (.lett xs r) ks) v) (q:∀ l b ps bs ks' kb,ks = ks' ++ [kb]→LetV I v xs r l b ps bs→Reps I ks' bs→Rep I kb (.ref b)→P):P:=by
  obtain ⟨ws,⟨l,ps,bs,b,rfl,hi,⟨la,ln,e1,hlm⟩,hB⟩,K⟩:=h
  cases e1
  obtain ⟨ks',kb,e2,K1,K2⟩:=K.last
  exact q l b ps bs ks' kb e2 ⟨hi,⟨ln,hlm⟩,hB⟩ K1 K2
theorem let1_elim {P:Prop} {v:Value} {y:Str} {r:Bool} {k1 eb:Tr} (h:Rep I (.node (.lett [y] r) [k1,eb]) v) (q:∀ l b pa pn bv tx,LetV I v [y] r l b [.ref pa] [bv]→(pa,tupO [.str y tx,bv] pn) ∈ I→Rep I k1 bv→Rep I eb (.ref b)→P):P:=by
  refine let_elim h fun l b ps bs ks' kb e1 L R1 R2=>?_
  have B:=L.bnd
  cases B with
  | @cons p _ tx bv ps' _ _ hp0 hnil=>
  cases hnil
  obtain ⟨pa,pn,rfl,hpm⟩:=hp0
  cases ks' with
  | nil=>exact R1.elim
  | cons k ks'=>
    cases ks' with
    | nil=>
      cases e1
      exact q l b pa pn bv tx L hpm R1.1 R2
    | cons _ _=>exact R1.2.elim
theorem isiR {st:Sta} {h:Hd} {ks:List Tr} {v:Value} {d:Addr} {k:Value→Sta→Prop} (r:Rep st.I (.node h ks) v) (hd:isL7.contains d = true) (q:k (.bool (clsOf h == d)) st):H x (call (.builtin "isinstance") [v,.ref d]) st k:=by
  obtain ⟨ws,rH,_⟩:=r
  exact isiH rH hd q
theorem lenL {v:Value} {xs:List Str} {r:Bool} {l b:Addr} {ps bs:List Value} {k:Value→Sta→Prop} (h:LetV I v xs r l b ps bs) (hl:ps.length ≤ 16) (q:∀ t,k (.int ps.length t) ⟨vs,M,I⟩):H x (call (.builtin "len") [.ref l]) ⟨vs,M,I⟩ k:=by
  obtain ⟨n,hn⟩:=h.lis
  exact lenH (.inr hn) (Nat.le_trans hl (by decide)) q
theorem itemL {v:Value} {xs:List Str} {r:Bool} {l b:Addr} {ps bs:List Value} {i:Nat} {u:Tok} {y:Value} {k:Value→Sta→Prop} (h:LetV I v xs r l b ps bs) (hx:ps[i]? = some y) (hi:i < 1000) (q:k y ⟨vs,M,I⟩):HSub x (.ref l) (.int i u) ⟨vs,M,I⟩ k:=by
  obtain ⟨n,hn⟩:=h.lis
  exact itemH (.inr hn) (Nat.lt_trans hi (by decide)) hx q
theorem ren_let {P:Prop} {I':Led} {xs:List Str} {r0:Bool} {bks:List Tr} {t':Tr} {v v':Value} (hR:Ren noI noN (.node (.lett xs r0) bks) t') (r:Rep I (.node (.lett xs r0) bks) v) (r':Rep I' t' v')
    (q:∀ ys ks' kb l b ps bs,Ren noI noN (.node (.lett xs r0) bks) (.node (.lett ys r0) (ks' ++ [kb]))→LetV I' v' ys r0 l b ps bs→Reps I' ks' bs→Rep I' kb (.ref b)→P):P:=by
  have hR0:=hR
  obtain ⟨bws,bH,bK⟩:=r
  cases bks with
  | nil=>
    obtain ⟨_,_,bs0,b0,rfl,_⟩:=bH
    cases bs0 <;> exact bK.elim
  | cons bk bks=>
  cases hR with
  | @node _ _ _ _ _ yss ks' hN hRs=>
  refine let_elim r' fun l b ps bs ks1 kb e1 L R1 R2=>?_
  subst e1
  exact q _ ks1 kb l b ps bs hR0 L R1 R2
theorem let_new {xs:List Str} {r:Bool} {l b:Addr} {ps bs:List Value} {ks:List Tr} {kb:Tr} {v:Value} (h:LetV I v xs r l b ps bs) (h1:Reps I ks bs) (h2:Rep I kb (.ref b)):Rep I (.node (.lett xs r) (ks ++ [kb])) v:=by
  obtain ⟨n,hn⟩:=h.lis
  exact ⟨bs ++ [.ref b],⟨l,ps,bs,b,rfl,h.ins,⟨l,n,rfl,hn⟩,h.bnd⟩,Reps.app h1 ⟨h2,True.intro⟩⟩
theorem let1_new {y:Str} {r:Bool} {l b p:Addr} {tx:Tok} {bv:Value} {k1 kb:Tr} {v:Value} {n1 n2:Nat} (hi:Ins I v 212 [("binds",.ref l),("body",.ref b),("is_rec",.bool r)]) (hl:(l,listO [.ref p] n1) ∈ I) (hp:(p,tupO [.str y tx,bv] n2) ∈ I) (h1:Rep I k1 bv) (h2:Rep I kb (.ref b)) :
    Rep I (.node (.lett [y] r) [k1,kb]) v:=⟨[bv,.ref b],⟨l,[.ref p],[bv],b,rfl,hi,⟨l,n1,rfl,hl⟩,.cons ⟨p,n2,rfl,hp⟩ .nil⟩,h1,h2,True.intro⟩
theorem let_of_letH {fv v:Value} {nb:Addr} {o:Obj} {K:Nat} {Mf:Obj→Led} {y:Str} {xs:List Str} {r0:Bool} {bks:List Tr} {eb:Tr} {kk:Value→Sta→Prop}
    (r:Rep I (.node (.lett [y] false) [.node (.lett xs r0) bks,eb]) v) (hfr:∃ fa,fv = .ref fa) (hf:FreshI e I fv nb) (hn:NumsO e nb o K)
    (hM0:M = Mf o) (hp2:∀ o1 o2,Put nb o1 o2 (Mf o1) (Mf o2)) (hG:GoodT (.node (.lett xs r0) bks)) (hts:tsize (.node (.lett xs r0) bks) ≤ 60) (hK:K ≤ 1000000) (hr:14 ≤ x.c.room)
    (k:∀ ys ks' kb v' o' I',Ren noI noN (.node (.lett xs r0) bks) (.node (.lett ys r0) (ks' ++ [kb]))→Rep I' (.node (.lett ys r0) (ks' ++ [.node (.lett [y] false) [kb,eb]])) v'→Sub I I'→NumsO e nb o' (K + 60000)→kk v' ⟨vs,Mf o',I'⟩) :
    H x (call (.ref 434) [v,fv]) ⟨vs,M,I⟩ kk:=by
  refine let1_elim r fun l b pa pn bv tx L hpm rB rE=>fr434.run rfl hr fun x' hx=>isiR r rfl (getF L.is_rec g212_is_rec (getF L.binds g212_binds (lenL L (Nat.le_of_ble_eq_true rfl) fun t t2=>getF L.binds g212_binds fun t3=>itemL L (i:=0) rfl (by decide) (asg2 hpm (isiR rB rfl
    (renamedH rB hfr hf hn hM0 hp2 hG hts ?z1 (rm hx rfl) fun t' v' o' I' hR hRep hs2 hno=>ren_let hR rB hRep fun ys ks' kb l' b' ps' bs' hR' L' R1 R2=>getF L'.binds g212_binds (getF L'.body g212_body fun r1 r2=>getF ((L.mono hs2).body.mono Sub.one) g212_body (H.freeze .head (new212 (rm hx rfl) fun v2 I3 s3 hv2=>?fin)))))))))
  case z1=>have:=hts; lia
  have h3:Sub I' I3:=Sub.one.cons.trans s3
  refine getF (L'.mono h3).is_rec g212_is_rec (new212 (rm hx rfl) fun v3 I4 s4 hv3=>retI ?_)
  have h4:=h3.trans s4
  have hall:=hs2.trans h4
  have L4:=L'.mono h4
  exact k _ ks' kb _ _ _ hR' (let_new ⟨hv3,L4.lis,L4.bnd⟩ (R1.mono h4) (let1_new (hv2.mono s4) (s4 _ (s3 _ (.head _))) (s4 _ (s3 _ (.tail _ (.head _)))) (R2.mono h4) (rE.mono hall))) hall (hno.le (by have:=hts; lia))
end
end
section
inductive Dt
  | str (s:Str) | int (n:Int) | tup (l:List Dt)
inductive En
  | nil
  | one (x:Str) (t:Tr) (home rest:En)
  | recs (xs:List Str) (ts:List Tr) (rest:En)
noncomputable def esize:En→Nat
  | .nil=>0
  | .one _ _ _ rest=>esize rest + 1
  | .recs xs _ rest=>esize rest + xs.length
noncomputable def lookT:List Str→List Tr→Str→Option Tr
  | x :: xs,t :: ts,y=>match lookT xs ts y with
    | some u=>some u
    | none=>if y = x then some t else none
  | _,_,_=>none
noncomputable def lookE:En→Str→Option (Tr × En)
  | .nil,_=>none
  | .one x t h rest,y=>if y = x then some (t,h) else lookE rest y
  | .recs xs ts rest,y=>match lookT xs ts y with
    | some t=>some (t,.recs xs ts rest)
    | none=>lookE rest y
noncomputable def ones (env:En):En→List Str→List Tr→En
  | acc,x :: xs,t :: ts=>ones env (.one x t env acc) xs ts
  | acc,_,_=>acc
noncomputable def foundF:Nat→Tr→En→Option (Tr × En)
  | 0,_,_=>none
  | n + 1,t,E=>match t with
    | .node (.var x) _=>match lookE E x with
      | some (t',E')=>foundF n t' E'
      | none=>some (t,E)
    | _=>some (t,E)
noncomputable def hashT:Tr:=.node (.var (Str.ofString "#")) []
noncomputable def hdOf:Tr→Hd
  | .node h _=>h
noncomputable def ksOf:Tr→List Tr
  | .node _ ks=>ks
noncomputable def oneL:List Tr→Option Tr
  | [b]=>some b
  | _=>none
noncomputable def twoL:List Tr→Option (Tr × Tr)
  | f :: a :: _=>some (f,a)
  | _=>none
noncomputable def lamL (t:Tr):Option (Str × Tr):=match hdOf t with
  | .lam q=>(oneL (ksOf t)).map fun b=>(q,b)
  | _=>none
noncomputable def sm {α:Type} (n:Nat) (a:Option α):Option α:=cond (Nat.ble n 1000) a none
noncomputable def seenG (f:Tr→En→Nat→Option Dt) (E:En) (deep:Nat):Hd→List Tr→Option Dt
  | .var x,_=>some (.tup [.str (Str.ofString "from"),.str x])
  | .lit _ n,_=>some (.tup [.str (Str.ofString "number"),.int n])
  | .con k,ks=>match deep with
    | 0=>some (.tup [.str (Str.ofString "..")])
    | d + 1=>sm ks.length ((ks.mapM fun t=>f t E d).map fun l=>.tup (.str k :: l))
  | .lett xs r,ks=>sm ks.length (cond xs.isEmpty none (ks.getLast?.bind fun b=>f b (if r then .recs xs ks.dropLast E else ones E E xs ks.dropLast) deep))
  | .lam p,ks=>(oneL ks).bind fun b=>(f b (.one p hashT .nil E) deep).map fun r=>.tup [.str (Str.ofString "function"),r]
  | .app,ks=>(twoL ks).bind fun p=>(foundF 60 p.1 E).bind fun q=>(lamL q.1).bind fun l=>sm (esize q.2) (f l.2 (.one l.1 p.2 E q.2) deep)
  | .prim op,ks=>sm ks.length ((ks.mapM fun t=>f t E deep).map fun l=>.tup (.str op :: l))
noncomputable def seenF:Nat→Tr→En→Nat→Option Dt
  | 0=>fun _ _ _=>none
  | f + 1=>fun t E deep=>(foundF 60 t E).bind fun p=>sm (esize p.2) (seenG (seenF f) p.2 deep (hdOf p.1) (ksOf p.1))
section
variable {α β:Type} {n:Nat} {a:Option α} {r:α}
theorem sm_y (h:n ≤ 1000):sm n a = a:=by unfold sm; rw [Nat.ble_eq.mpr h]; rfl
theorem sm_e (h:sm n a = some r):n ≤ 1000∧a = some r:=by
  unfold sm at h
  cases hb:Nat.ble n 1000 with
  | true=>rw [hb] at h; exact ⟨Nat.le_of_ble_eq_true hb,h⟩
  | false=>rw [hb] at h; cases h
theorem omap_e {o:Option β} {f:β→α} (h:o.map f = some r):∃ b,o = some b∧f b = r:=Option.map_eq_some_iff.mp h
theorem obind_e {o:Option β} {f:β→Option α} (h:o.bind f = some r):∃ b,o = some b∧f b = some r:=Option.bind_eq_some_iff.mp h
theorem map_mono {f:β→α} {x y:Option β} (h:∀ a,x = some a→y = some a) (q:x.map f = some r):y.map f = some r:=by
  obtain ⟨b,h1,h2⟩:=omap_e q
  rw [h b h1]; exact congrArg some h2
theorem bind_mono {o:Option β} {f g:β→Option α} (q:o.bind f = some r) (h:∀ b,f b = some r→g b = some r):o.bind g = some r:=by
  obtain ⟨b,h1,h2⟩:=obind_e q
  rw [h1]; exact h b h2
theorem sm_mono {b:Option α} (q:sm n a = some r) (h:a = some r→b = some r):sm n b = some r:=(sm_y (sm_e q).1).trans (h (sm_e q).2)
end
theorem mapM_mono {α β:Type} {f g:α→Option β} (h:∀ a b,f a = some b→g a = some b):∀ {l:List α} {r:List β},l.mapM f = some r→l.mapM g = some r:=by
  intro l
  induction l with
  | nil=>exact fun q=>q
  | cons a l ih=>
    intro r q
    rw [List.mapM_cons] at q ⊢
    obtain ⟨b,h1,h2⟩:=obind_e q
    obtain ⟨bs,h3,h4⟩:=obind_e h2
    rw [h a b h1,ih h3]; exact h4
theorem seenG_mono {f g:Tr→En→Nat→Option Dt} (hm:∀ {t E d r},f t E d = some r→g t E d = some r) {E:En} {d:Nat} {hd:Hd} {ks:List Tr} {r:Dt} (h:seenG f E d hd ks = some r):seenG g E d hd ks = some r:=by
  cases hd with
  | var x=>exact h
  | lit k n=>exact h
  | con k=>cases d with
    | zero=>exact h
    | succ d=>exact sm_mono h fun h=>map_mono (fun a q=>mapM_mono (fun _ _ q=>hm q) q) h
  | lett xs r0=>
    refine sm_mono h fun h=>?_
    cases xs with
    | nil=>exact h
    | cons _ _=>exact bind_mono h fun b q=>hm q
  | lam p=>exact bind_mono h fun b q=>map_mono (fun _ q=>hm q) q
  | app=>exact bind_mono h fun p q=>bind_mono q fun p q=>bind_mono q fun p q=>sm_mono q hm
  | prim k=>exact sm_mono h fun h=>map_mono (fun a q=>mapM_mono (fun _ _ q=>hm q) q) h
theorem seenF_at {f:Nat} {t:Tr} {E E':En} {d:Nat} {h:Hd} {ks:List Tr} {r:Dt} (hf:seenF (f + 1) t E d = some r) (hfd:foundF 60 t E = some (.node h ks,E')):esize E' ≤ 1000∧seenG (seenF f) E' d h ks = some r:=by
  obtain ⟨p,h1,h2⟩:=obind_e (show (foundF 60 t E).bind (fun p=>sm (esize p.2) (seenG (seenF f) p.2 d (hdOf p.1) (ksOf p.1))) = some r from hf)
  have e:=Option.some.inj (h1.symm.trans hfd)
  rw [e] at h2
  exact sm_e h2
mutual
def DatI (I:Led):Dt→Value→Prop
  | .str s,v=>∃ t,v = .str s t
  | .int n,v=>∃ t,v = .int n t
  | .tup l,v=>∃ vs,TupI I v vs∧DatIs I l vs
def DatIs (I:Led):List Dt→List Value→Prop
  | [],[]=>True
  | d :: ds,v :: vs=>DatI I d v∧DatIs I ds vs
  | _,_=>False
end
mutual
theorem DatI.mono {I I':Led} (k:Sub I I'):∀ {d:Dt} {v:Value},DatI I d v→DatI I' d v
  | .str s,v,x=>by unfold DatI at *; exact x
  | .int n,v,x=>by unfold DatI at *; exact x
  | .tup l,v,x=>by
    unfold DatI at *
    obtain ⟨vs,h1,h2⟩:=x
    exact ⟨vs,h1.mono k,DatIs.mono k h2⟩
theorem DatIs.mono {I I':Led} (k:Sub I I'):∀ {ds:List Dt} {vs:List Value},DatIs I ds vs→DatIs I' ds vs
  | [],[],_=>by unfold DatIs; trivial
  | _ :: _,_ :: _,x=>by unfold DatIs at *; exact ⟨DatI.mono k x.1,DatIs.mono k x.2⟩
  | [],_ :: _,x=>by unfold DatIs at x; exact x.elim
  | _ :: _,[],x=>by unfold DatIs at x; exact x.elim
end
def EntI (e:E0) (I:Led):En→Value→List (Str × Value)→Prop
  | .nil,_,kvs=>∀ y,valueAt kvs y = none
  | .one x t h rest,_,kvs=>(∃ p vt vh kh,valueAt kvs x = some p∧TupI I p [vt,vh]∧Rep I t vt∧DicI e I vh kh∧EntI e I h vh kh∧kh.length ≤ esize h)∧∃ self' kvs',EntI e I rest self' kvs'∧∀ y,y ≠ x→valueAt kvs y = valueAt kvs' y
  | .recs xs ts rest,self,kvs=>DicI e I self kvs∧kvs.length ≤ esize (.recs xs ts rest)∧(∀ y t,lookT xs ts y = some t→∃ p vt,valueAt kvs y = some p∧TupI I p [vt,self]∧Rep I t vt)∧∃ self' kvs',EntI e I rest self' kvs'∧∀ y,lookT xs ts y = none→valueAt kvs y = valueAt kvs' y
def EnvI (e:E0) (I:Led) (E:En) (v:Value):Prop:=∃ kvs,DicI e I v kvs∧EntI e I E v kvs∧kvs.length ≤ esize E
theorem EntI.mono {e:E0} {I I':Led} (k:Sub I I'):∀ {E:En} {v:Value} {kvs:List (Str × Value)},EntI e I E v kvs→EntI e I' E v kvs:=by
  intro E
  induction E with
  | nil=>intro v kvs h; exact h
  | one x t h rest ih1 ih2=>
    intro v kvs hh
    obtain ⟨⟨p,vt,vh,kh,a1,a2,a3,a4,a5,a6⟩,self',kvs',b1,b2⟩:=hh
    exact ⟨⟨p,vt,vh,kh,a1,a2.mono k,a3.mono k,a4.mono k,ih1 a5,a6⟩,self',kvs',ih2 b1,b2⟩
  | recs xs ts rest ih=>
    intro v kvs hh
    obtain ⟨a0,a1,a,self',kvs',b1,b2⟩:=hh
    refine ⟨a0.mono k,a1,fun y t hy=>?_,self',kvs',ih b1,b2⟩
    obtain ⟨p,vt,c1,c2,c3⟩:=a y t hy
    exact ⟨p,vt,c1,c2.mono k,c3.mono k⟩
theorem EnvI.mono {e:E0} {I I':Led} {E:En} {v:Value} (k:Sub I I') (h:EnvI e I E v):EnvI e I' E v:=by
  obtain ⟨kvs,h1,h2,h3⟩:=h
  exact ⟨kvs,h1.mono k,h2.mono k,h3⟩
theorem EntI.look {e:E0} {I:Led} {x:Str}:∀ {E:En} {self:Value} {kvs:List (Str × Value)},EntI e I E self kvs→
    (∀ t E',Mine.lookE E x = some (t,E')→∃ p vt vh,valueAt kvs x = some p∧TupI I p [vt,vh]∧Rep I t vt∧EnvI e I E' vh)∧(Mine.lookE E x = none→valueAt kvs x = none):=by
  intro E
  induction E with
  | nil=>
    intro self kvs h
    exact ⟨fun t E' q=>(by cases q),fun _=>h x⟩
  | one x0 t0 h0 rest ih1 ih2=>
    intro self kvs hh
    obtain ⟨⟨p,vt,vh,kh,a1,a2,a3,a4,a5,a6⟩,self',kvs',b1,b2⟩:=hh
    unfold Mine.lookE
    by_cases hx:x = x0
    · rw [if_pos hx]
      refine ⟨fun t E' q=>?_,fun q=>by cases q⟩
      cases q
      exact ⟨p,vt,vh,by rw [hx]; exact a1,a2,a3,kh,a4,a5,a6⟩
    · rw [if_neg hx,b2 x hx]
      exact ih2 b1
  | recs xs ts rest ih=>
    intro self kvs hh
    obtain ⟨a0,a1,a,self',kvs',b1,b2⟩:=id hh
    unfold Mine.lookE
    cases hl:lookT xs ts x with
    | some t0=>
      refine ⟨fun t E' q=>?_,fun q=>by cases q⟩
      cases q
      obtain ⟨p,vt,c1,c2,c3⟩:=a x t0 hl
      exact ⟨p,vt,self,c1,c2,c3,kvs,a0,hh,a1⟩
    | none=>
      rw [b2 x hl]
      exact ih b1
theorem EnvI.nil {e:E0} {I:Led} {v:Value} (h:DicI e I v []):EnvI e I .nil v:=⟨[],h,fun _=>rfl,Nat.le_refl _⟩
end
section
abbrev dFrom (x:Str):Dt:=.tup [.str (Str.ofString "from"),.str x]
abbrev dNum (n:Int):Dt:=.tup [.str (Str.ofString "number"),.int n]
abbrev dDots:Dt:=.tup [.str (Str.ofString "..")]
noncomputable def varE:Tr→En→Option (Tr × En)
  | .node (.var x) _,E=>lookE E x
  | _,_=>none
noncomputable def sn:Nat→Tr→En→Nat→Option Dt
  | 0=>fun _ _ _=>none
  | n + 1=>fun t E d=>(varE t E).elim (sm (esize E) (seenG (sn n) E d (hdOf t) (ksOf t))) fun p=>sn n p.1 p.2 d
section
variable {n:Nat} {t:Tr} {E:En} {d:Nat} {p:Tr × En} {r:Dt}
theorem foundF_go (h:varE t E = some p):foundF (n + 1) t E = foundF n p.1 p.2:=by
  obtain ⟨hd,ks⟩:=t
  cases hd with
  | var x=>
    show (match lookE E x with | some (t',E')=>foundF n t' E' | none=>some (.node (.var x) ks,E)) = _
    rw [show lookE E x = some p from h]
  | _=>exact none_e h
theorem foundF_stop (h:varE t E = none):foundF (n + 1) t E = some (t,E):=by
  obtain ⟨hd,ks⟩:=t
  cases hd with
  | var x=>
    show (match lookE E x with | some (t',E')=>foundF n t' E' | none=>some (.node (.var x) ks,E)) = _
    rw [show lookE E x = none from h]
  | _=>rfl
theorem sn_go (h:varE t E = some p):sn (n + 1) t E d = sn n p.1 p.2 d:=by
  show (varE t E).elim _ _ = _
  rw [h]; rfl
theorem sn_none (h:varE t E = none):sn (n + 1) t E d = sm (esize E) (seenG (sn n) E d (hdOf t) (ksOf t)):=by
  show (varE t E).elim _ _ = _
  rw [h]; rfl
theorem sn_stop (h:varE t E = none) (hz:esize E ≤ 1000):sn (n + 1) t E d = seenG (sn n) E d (hdOf t) (ksOf t):=(sn_none h).trans (sm_y hz)
end
theorem sn_var {n x ks E d t E1} (l:lookE E x = some (t,E1)):sn (n + 1) (.node (.var x) ks) E d = sn n t E1 d:=sn_go (t:=.node (.var x) ks) (p:=(t,E1)) l
theorem foundF_mono {m:Nat}:∀ {n:Nat} {t:Tr} {E:En} {r:Tr × En},foundF n t E = some r→n ≤ m→foundF m t E = some r:=by
  induction m with
  | zero=>intro n t E r h hn; exact Nat.le_zero.mp hn ▸ h
  | succ m ih=>
    intro n t E r h hn
    cases n with
    | zero=>exact none_e h
    | succ n=>
      cases hv:varE t E with
      | some p=>exact (foundF_go hv).trans (ih ((foundF_go hv).symm.trans h) (Nat.le_of_succ_le_succ hn))
      | none=>exact (foundF_stop hv).trans ((foundF_stop hv).symm.trans h)
theorem sn_mono {m:Nat}:∀ {n:Nat} {t:Tr} {E:En} {d:Nat} {r:Dt},sn n t E d = some r→n ≤ m→sn m t E d = some r:=by
  induction m with
  | zero=>intro n t E d r h hn; exact Nat.le_zero.mp hn ▸ h
  | succ m ih=>
    intro n t E d r h hn
    cases n with
    | zero=>exact none_e h
    | succ n=>
      cases hv:varE t E with
      | some p=>exact (sn_go hv).trans (ih ((sn_go hv).symm.trans h) (Nat.le_of_succ_le_succ hn))
      | none=>exact (sn_none hv).trans (sm_mono ((sn_none hv).symm.trans h) (seenG_mono fun q=>ih q (Nat.le_of_succ_le_succ hn)))
theorem sn_core:∀ {n:Nat} {t:Tr} {E:En} {d:Nat} {r:Dt},sn n t E d = some r→n ≤ 60→∃ p,foundF n t E = some p∧∀ f,n ≤ f + 1→sm (esize p.2) (seenG (seenF f) p.2 d (hdOf p.1) (ksOf p.1)) = some r:=by
  intro n
  induction n with
  | zero=>intro t E d r h; exact none_e h
  | succ n ih=>
    intro t E d r h hn
    have hn:=Nat.le_of_succ_le hn
    have hs:∀ {f t E d r},n ≤ f→sn n t E d = some r→seenF f t E d = some r:=by
      intro f t E d r hf h
      obtain ⟨p,h1,h2⟩:=ih h hn
      cases f with
      | zero=>exact none_e ((congrArg (fun n=>sn n t E d) (Nat.le_zero.mp hf)).symm.trans h)
      | succ f=>
        show (foundF 60 t E).bind _ = _
        rw [foundF_mono h1 hn]
        exact h2 f hf
    cases hv:varE t E with
    | some p=>
      obtain ⟨p',h1,h2⟩:=ih ((sn_go hv).symm.trans h) hn
      exact ⟨p',(foundF_go hv).trans h1,fun f hf=>h2 f (Nat.le_of_succ_le hf)⟩
    | none=>exact ⟨(t,E),foundF_stop hv,fun f hf=>sm_mono ((sn_none hv).symm.trans h) (seenG_mono fun q=>hs (Nat.le_of_succ_le_succ hf) q)⟩
theorem sn_seen {n:Nat} {t:Tr} {E:En} {d:Nat} {r:Dt} (h:sn n t E d = some r) (hn:n ≤ 60):seenF n t E d = some r:=by
  obtain ⟨p,h1,h2⟩:=sn_core h hn
  cases n with
  | zero=>exact none_e h
  | succ n=>
    show (foundF 60 t E).bind _ = _
    rw [foundF_mono h1 hn]
    exact h2 n (Nat.le_refl _)
def Same (n:Nat) (t:Tr) (E:En) (t':Tr) (E':En) (d:Nat):Prop:=∃ r,sn n t E d = some r∧sn n t' E' d = some r
theorem Same.mono {n m t E t' E' d} (h:Same n t E t' E' d) (k:n ≤ m):Same m t E t' E' d:=by
  obtain ⟨r,h1,h2⟩:=h
  exact ⟨r,sn_mono h1 k,sn_mono h2 k⟩
inductive PartR (P:Str→Str→Prop):Tr→Tr→Prop
  | lit (n:Int):PartR P (.node (.lit (Str.ofString "int") n) []) (.node (.lit (Str.ofString "int") n) [])
  | err:PartR P (.node (.prim (Str.ofString "error")) []) (.node (.prim (Str.ofString "error")) [])
  | con (x y:Str):P x y→PartR P (.node (.con (Str.ofString "K")) [.node (.var x) [],.node (.lit (Str.ofString "int") 3) []]) (.node (.con (Str.ofString "K")) [.node (.var y) [],.node (.lit (Str.ofString "int") 3) []])
  | var (x y:Str):P x y→PartR P (.node (.var x) []) (.node (.var y) [])
inductive BodyR (P:Str→Str→Prop):Tr→Tr→Prop
  | mk {p q r p' q' r'}:PartR P p p'→PartR P q q'→PartR P r r'→BodyR P (.node (.con (Str.ofString "T")) [p,q,r]) (.node (.con (Str.ofString "T")) [p',q',r'])
theorem sn_lit {n k m ks E d} (h:esize E ≤ 1000):sn (n + 1) (.node (.lit k m) ks) E d = some (dNum m):=sn_stop rfl h
theorem mapM_two {f g:Tr→Option Dt}:∀ {ks ks':List Tr},ks.length = ks'.length→(∀ (i:Nat) (a b:Tr),ks[i]? = some a→ks'[i]? = some b→∃ r,f a = some r∧g b = some r)→∃ l,ks.mapM f = some l∧ks'.mapM g = some l:=by
  intro ks
  induction ks with
  | nil=>intro ks' hl _; rw [List.eq_nil_of_length_eq_zero hl.symm]; exact ⟨[],rfl,rfl⟩
  | cons a ks ih=>
    intro ks' hl hk
    cases ks' with
    | nil=>cases hl
    | cons b ks'=>
      obtain ⟨r,h1,h2⟩:=hk 0 a b rfl rfl
      obtain ⟨l,h3,h4⟩:=ih (Nat.succ.inj hl) fun i a b p q=>hk (i + 1) a b p q
      exact ⟨r :: l,by rw [List.mapM_cons,h1,h3]; rfl,by rw [List.mapM_cons,h2,h4]; rfl⟩
theorem same_con {n k E E' d} {ks ks':List Tr} (h:esize E ≤ 1000) (h':esize E' ≤ 1000) (hl:ks.length ≤ 1000) (hl':ks.length = ks'.length)
    (hk:∀ d',d = d' + 1→∀ (i:Nat) (a b:Tr),ks[i]? = some a→ks'[i]? = some b→Same n a E b E' d'):Same (n + 1) (.node (.con k) ks) E (.node (.con k) ks') E' d:=by
  cases d with
  | zero=>exact ⟨dDots,sn_stop rfl h,sn_stop rfl h'⟩
  | succ d=>
    obtain ⟨l,h1,h2⟩:=mapM_two hl' (hk d rfl)
    exact ⟨.tup (.str k :: l),(sn_stop rfl h).trans ((sm_y hl).trans (congrArg (Option.map _) h1)),(sn_stop rfl h').trans ((sm_y (hl' ▸ hl)).trans (congrArg (Option.map _) h2))⟩
theorem same_prim {n k E E' d} {ks ks':List Tr} (h:esize E ≤ 1000) (h':esize E' ≤ 1000) (hl:ks.length ≤ 1000) (hl':ks.length = ks'.length)
    (hk:∀ (i:Nat) (a b:Tr),ks[i]? = some a→ks'[i]? = some b→Same n a E b E' d):Same (n + 1) (.node (.prim k) ks) E (.node (.prim k) ks') E' d:=by
  obtain ⟨l,h1,h2⟩:=mapM_two hl' hk
  exact ⟨.tup (.str k :: l),(sn_stop rfl h).trans ((sm_y hl).trans (congrArg (Option.map _) h1)),(sn_stop rfl h').trans ((sm_y (hl' ▸ hl)).trans (congrArg (Option.map _) h2))⟩
theorem same_lit {n k m ks ks' E E' d} (h:esize E ≤ 1000) (h':esize E' ≤ 1000):Same (n + 1) (.node (.lit k m) ks) E (.node (.lit k m) ks') E' d:=⟨_,sn_lit h,sn_lit h'⟩
theorem same_part {n P E E' d p p'} (h:esize E ≤ 1000) (h':esize E' ≤ 1000) (hp:PartR P p p') (hv:∀ x y,P x y→∀ d',d' ≤ d→Same (n + 1) (.node (.var x) []) E (.node (.var y) []) E' d'):Same (n + 2) p E p' E' d:=by
  cases hp with
  | lit m=>exact same_lit h h'
  | err=>exact same_prim h h' (by decide) rfl fun i a b p q=>by simp at p
  | con x y q=>
    refine same_con h h' (by simp) rfl fun d' hd i a b p q'=>?_
    match i,p,q' with
    | 0,p,q'=>cases p; cases q'; exact hv x y q d' (by lia)
    | 1,p,q'=>cases p; cases q'; exact same_lit h h'
    | i + 2,p,q'=>simp at p
  | var x y q=>exact (hv x y q d (Nat.le_refl _)).mono (by lia)
theorem same_body {n P E E' d p p'} (h:esize E ≤ 1000) (h':esize E' ≤ 1000) (hp:BodyR P p p') (hv:∀ x y,P x y→∀ d',d' + 1 ≤ d→Same (n + 1) (.node (.var x) []) E (.node (.var y) []) E' d'):Same (n + 3) p E p' E' d:=by
  cases hp with
  | mk h1 h2 h3=>
    refine same_con h h' (by simp) rfl fun d' hd i a b p q'=>?_
    have go:∀ {p p'},PartR P p p'→Same (n + 2) p E p' E' d':=fun hp=>same_part h h' hp fun x y q d2 hd2=>hv x y q d2 (by lia)
    match i,p,q' with
    | 0,p,q'=>cases p; cases q'; exact go h1
    | 1,p,q'=>cases p; cases q'; exact go h2
    | 2,p,q'=>cases p; cases q'; exact go h3
    | i + 3,p,q'=>simp at p
theorem same_free {n x ks ks' E E' d} (h:esize E ≤ 1000) (h':esize E' ≤ 1000) (l:lookE E x = none) (l':lookE E' x = none):Same (n + 1) (.node (.var x) ks) E (.node (.var x) ks') E' d:=
  ⟨dFrom x,sn_stop l h,sn_stop l' h'⟩
theorem same_look {n x y ks ks' E E' d t t' E1 E1'} (l:lookE E x = some (t,E1)) (l':lookE E' y = some (t',E1')) (h:Same n t E1 t' E1' d):Same (n + 1) (.node (.var x) ks) E (.node (.var y) ks') E' d:=
  let ⟨r,h1,h2⟩:=h
  ⟨r,(sn_var l).trans h1,(sn_var l').trans h2⟩
theorem sn_let {n xs r0 ks b E d} (h:esize E ≤ 1000) (hl:ks.length < 1000) (hx:xs.isEmpty = false):sn (n + 1) (.node (.lett xs r0) (ks ++ [b])) E d = sn n b (if r0 then .recs xs ks E else ones E E xs ks) d:=by
  refine (sn_stop rfl h).trans ((sm_y ?_).trans ?_)
  · rw [ksOf,List.length_append]; exact hl
  · rw [hx,ksOf,List.getLast?_concat,List.dropLast_concat]; rfl
theorem same_letL {n xs r0 ks b E d t' E'} (h:esize E ≤ 1000) (hl:ks.length < 1000) (hx:xs.isEmpty = false) (k:Same n b (if r0 then .recs xs ks E else ones E E xs ks) t' E' d):Same (n + 1) (.node (.lett xs r0) (ks ++ [b])) E t' E' d:=by
  obtain ⟨r,h1,h2⟩:=k
  exact ⟨r,by rw [sn_let h hl hx]; exact h1,sn_mono h2 (by lia)⟩
theorem same_letR {n xs r0 ks b E d t' E'} (h:esize E ≤ 1000) (hl:ks.length < 1000) (hx:xs.isEmpty = false) (k:Same n t' E' b (if r0 then .recs xs ks E else ones E E xs ks) d):Same (n + 1) t' E' (.node (.lett xs r0) (ks ++ [b])) E d:=by
  obtain ⟨r,h1,h2⟩:=k
  exact ⟨r,sn_mono h1 (by lia),by rw [sn_let h hl hx]; exact h2⟩
end
section
inductive PartT (xs:List Str):Tr→Prop
  | lit (n:Int):PartT xs (.node (.lit "int" n) [])
  | err:PartT xs (.node (.prim "error") [])
  | con (x:Str):x ∈ xs→PartT xs (.node (.con "K") [.node (.var x) [],.node (.lit "int" 3) []])
  | var (x:Str):x ∈ xs→PartT xs (.node (.var x) [])
inductive BodyT (xs:List Str):Tr→Prop
  | mk {p q r}:PartT xs p→PartT xs q→PartT xs r→BodyT xs (.node (.con "T") [p,q,r])
def HandO (o:Obj):Prop:=∃ (a b:Int) (ta tb:Tok) (n:Nat),o = listO [.int a ta,.int b tb] n
theorem HandO.mk {a b:Int} {ta tb:Tok} {n:Nat}:HandO (listO [.int a ta,.int b tb] n):=⟨a,b,ta,tb,n,rfl⟩
theorem two0 {u v:Value}:(0:Int) < ([u,v]:List Value).length:=by show (0:Int) < 2; decide
theorem two1 {u v:Value}:(1:Int) < ([u,v]:List Value).length:=by show (1:Int) < 2; decide
theorem fmod_in {a m:Int} (h:0 < m):0 ≤ a.fmod m∧a.fmod m < m:=⟨Int.fmod_nonneg_of_pos _ h,Int.fmod_lt_of_pos _ h⟩
theorem Rep.var {I:Led} {x:Str} {v:Value} {t:Tok} (h:Ins I v 52 [("name",.str x t)]):Rep I (.node (.var x) []) v:=⟨[],⟨rfl,t,h⟩,True.intro⟩
theorem Rep.lit {I:Led} {k:Str} {n:Int} {v:Value} {t u:Tok} (h:Ins I v 94 [("kind",.str k t),("value",.int n u)]):Rep I (.node (.lit k n) []) v:=⟨[],⟨rfl,t,u,h⟩,True.intro⟩
theorem Rep.con {I:Led} {k:Str} {v:Value} {t:Tok} {l:Addr} {n:Nat} {ks:List Tr} {ws:List Value} (h:Ins I v 252 [("name",.str k t),("args",.ref l)]) (hl:(l,listO ws n) ∈ I) (hk:Reps I ks ws):Rep I (.node (.con k) ks) v:=⟨ws,⟨t,l,h,l,n,rfl,hl⟩,hk⟩
theorem Rep.prim {I:Led} {k:Str} {v:Value} {t:Tok} {l:Addr} {n:Nat} {ks:List Tr} {ws:List Value} (h:Ins I v 292 [("op",.str k t),("args",.ref l)]) (hl:(l,listO ws n) ∈ I) (hk:Reps I ks ws):Rep I (.node (.prim k) ks) v:=⟨ws,⟨t,l,h,l,n,rfl,hl⟩,hk⟩
theorem pick_str {P:Prop} {ys:List Value} {xs:List Str} {g:Int} (hyx:StrsAre ys xs) (hz:xs.length < 100) (h:0 ≤ g∧g < (ys.length:Int)) (q:∀ x t,ys[g.toNat]? = some (.str x t)→x ∈ xs→0 ≤ g→g < 2 ^ 63→P):P:=by
  have hyl:=strs_len hyx
  have hg:g.toNat < ys.length:=by lia
  obtain ⟨x,t,e1,e2⟩:=strs_at hyx (List.getElem?_eq_getElem hg)
  exact q x t (by rw [List.getElem?_eq_getElem hg,e1]) (List.mem_of_getElem? e2) h.1 (by lia)
section
variable {e:E0} {x:Ctx e} {vs:List (Option Value)} {M I:Led} {st:Sta} {k:Value→Sta→Prop}
theorem mulH {a b:Int} {t u:Tok} (hb:Nat.ble (Builtin.Int.intBits b) 64 = true) (q:∀ t,k (.int (a * b) t) st):H x (binaryOp .Mult (.int a t) (.int b u)) st k:=⟨fun _ hs=>i_mul hs (mulok_r (Nat.le_of_ble_eq_true hb)) fun t _ hs'=>⟨st,hs',q t⟩⟩
theorem modH {a b:Int} {t u:Tok} (hb:b ≠ 0) (q:∀ t,k (.int (a.fmod b) t) st):H x (binaryOp .Mod (.int a t) (.int b u)) st k:=⟨fun _ hs=>i_mod hs hb fun t _ hs'=>⟨st,hs',q t⟩⟩
theorem fdivH {a b:Int} {t u:Tok} (hb:b ≠ 0∧b.natAbs < 1073741824) (q:∀ t,k (.int (a.fdiv b) t) st):H x (binaryOp .FloorDiv (.int a t) (.int b u)) st k:=⟨fun _ hs=>i_fdiv hs hb fun t _ hs'=>⟨st,hs',q t⟩⟩
theorem itemZ {d:Addr} {xs:List Value} {n:Nat} {i:Int} {u:Tok} {y:Value} (ho:Own M I d (listO xs n)) (h0:0 ≤ i) (hi:i < 2 ^ 63) (hx:xs[i.toNat]? = some y) (q:k y ⟨vs,M,I⟩):HSub x (.ref d) (.int i u) ⟨vs,M,I⟩ k:=
  ⟨fun _ slice hsl=>⟨fun _ hs=>item_at (ho.at hs) h0 hi hx (upM hs q) hsl⟩⟩
theorem mixH {h:Addr} {o:Obj} {Mf:Obj→Led} {many:Int} {tm:Tok} (hh:HandO o) (hM0:M = Mf o) (hp2:∀ o1 o2,Put h o1 o2 (Mf o1) (Mf o2)) (hm:0 < many∧many < 100) (hr:1 ≤ x.c.room)
    (q:∀ o' f t,HandO o'→0 ≤ f∧f < many→k (.int f t) ⟨vs,Mf o',I⟩):H x (call (.ref 540) [.ref h,.int many tm]) ⟨vs,M,I⟩ k:=by
  obtain ⟨a,b,ta,tb,n,rfl⟩:=hh
  cases hM0
  have hm0:many ≠ 0:=Int.ne_of_gt hm.1
  have hma:many.natAbs < 1073741824:=by lia
  have ho:∀ {o},Own (Mf o) I h o:=.inl (hp2 _ default).mem
  exact fr540.run rfl hr fun x' _ t1=>itemH (i:=0) ho (by decide) rfl fun t2=>cnd (fun h1 t3=>itemH (i:=0) ho (by decide) rfl (modH hm0 fun t4 t5=>itemH (i:=0) ho (by decide) rfl (fdivH ⟨hm0,hma⟩ fun t6 t7=>setLH (Int.le_refl _) (by decide) two0 (hp2 _ _) (retI (q _ _ _ .mk (fmod_in hm.1))))))
    fun h1 t3=>itemH (i:=1) ho (by decide) rfl fun t4=>mulH (by decide +kernel) fun t5 t6 t7 t8=>modH (by decide) fun t9 t10=>setLH (by decide) (by decide) two1 (hp2 _ _) fun t11=>itemH (i:=1) ho (by decide) rfl fun t12=>mulH (by decide +kernel) fun t13 t14=>fdivH (by decide) fun t15=>modH hm0 fun t16=>retI (q _ _ _ .mk (fmod_in hm.1))
theorem partH {h:Addr} {o:Obj} {Mf:Obj→Led} {nl:Value} {ys:List Value} {xs:List Str} (hh:HandO o) (hM0:M = Mf o) (hp2:∀ o1 o2,Put h o1 o2 (Mf o1) (Mf o2))
    (hnl:LisI I nl ys) (hyx:StrsAre ys xs) (hx:0 < xs.length∧xs.length < 100) (hr:4 ≤ x.c.room)
    (q:∀ t v o' I',PartT xs t→Rep I' t v→Sub I I'→HandO o'→k v ⟨vs,Mf o',I'⟩):H x (call (.ref 554) [.ref h,nl]) ⟨vs,M,I⟩ k:=by
  obtain ⟨na,nn,rfl,hnm⟩:=hnl
  cases hM0
  have hyl:=strs_len hyx
  have hz:ys.length ≤ 10000000:=hyl ▸ Nat.le_trans (Nat.le_of_lt hx.2) (by decide)
  have hm:0 < (ys.length:Int)∧(ys.length:Int) < 100:=by lia
  refine fr554.run rfl hr fun x' hx' t1=>mixH hh rfl hp2 (by decide) (rm hx' rfl) fun o1 f tf hh1 _ t2=>cnd (fun _ t3 t4=>mixH hh1 rfl hp2 (by decide) (rm hx' rfl) fun o2 g tg hh2 _=>new94 (rm hx' rfl) fun v I' h2 h3=>retI (q _ _ _ _ (.lit _) (.lit h3) h2 hh2))
    fun _ t3=>cnd (fun _ t4 a=>H.freeze .head (new292 (rm hx' rfl) fun v I' h2 h3=>retI (q _ _ _ _ .err (.prim h3 (h2 _ (.head _)) (ks:=[]) True.intro) (Sub.one.trans h2) hh1)))
    fun _ t4=>cnd (fun _ t5=>lenH (.inr hnm) hz fun t6=>mixH hh1 rfl hp2 hm (rm hx' rfl) fun o2 g tg hh2 hg=>pick_str hyx hx.2 hg fun y ty e1 e2 g0 g1=>itemZ (.inr hnm) g0 g1 e1 (new52 (rm hx' rfl) fun v1 I1 h4 h5 t7 t8=>new94 (rm hx' rfl) fun v2 I2 h6 h7 a=>H.freeze .head (new252 (rm hx' rfl) fun v3 I3 h8 h9=>
      retI (q _ _ _ _ (.con y e2) (.con h9 (h8 _ (.head _)) ⟨.var (h5.mono (h6.trans (Sub.one.trans h8))),.lit (h7.mono (Sub.one.trans h8)),True.intro⟩) (h4.trans (h6.trans (Sub.one.trans h8))) hh2))))
    fun _=>lenH (.inr hnm) hz fun t6=>mixH hh1 rfl hp2 hm (rm hx' rfl) fun o2 g tg hh2 hg=>pick_str hyx hx.2 hg fun y ty e1 e2 g0 g1=>itemZ (.inr hnm) g0 g1 e1 (new52 (rm hx' rfl) fun v1 I1 h4 h5=>retI (q _ _ _ _ (.var y e2) (.var h5) h4 hh2))
theorem len2_e {α:Type} {l:List α} (h:l.length = 2):∃ a b,l = [a,b]:=by
  cases l with
  | nil=>cases h
  | cons a l=>obtain ⟨b,rfl⟩:=List.length_eq_one_iff.mp (Nat.succ.inj h); exact ⟨a,b,rfl⟩
theorem len3_e {α:Type} {l:List α} (h:l.length = 3):∃ a b c,l = [a,b,c]:=by
  cases l with
  | nil=>cases h
  | cons a l=>obtain ⟨b,c,rfl⟩:=len2_e (Nat.succ.inj h); exact ⟨a,b,c,rfl⟩
theorem bodyH {h:Addr} {o:Obj} {Mf:Obj→Led} {nl:Value} {ys:List Value} {xs:List Str} (hh:HandO o) (hM0:M = Mf o) (hp2:∀ o1 o2,Put h o1 o2 (Mf o1) (Mf o2))
    (hnl:LisI I nl ys) (hyx:StrsAre ys xs) (hx:0 < xs.length∧xs.length < 100) (hr:5 ≤ x.c.room)
    (q:∀ t v o' I',BodyT xs t→Rep I' t v→Sub I I'→HandO o'→k v ⟨vs,Mf o',I'⟩):H x (call (.ref 559) [.ref h,nl]) ⟨vs,M,I⟩ k:=by
  obtain ⟨na,nn,rfl,hnm⟩:=hnl
  cases hM0
  refine fr559.run rfl hr fun x' hx' tT t1=>rangeH1 fun rg ro hrg=>compH3 (fun _ p=>(Mf p.1,p.2.1)) (fun i zs p=>HandO p.1∧Sub I p.2.1∧Reps p.2.1 p.2.2 zs∧p.2.2.length = i∧∀ t ∈ p.2.2,PartT xs t) (o,I,[]) (itRange0 (n:=3) hrg (by decide)) rfl ⟨hh,Sub.refl,True.intro,rfl,fun t ht=>nomatch ht⟩ (by decide) (fun _ _ _ _ _ _=>srcTrue)
    (fun x2 hr2 i y zs o1 I1 ts it io m acc u hi' hX h _ V9=>partH h.1 rfl (fun o1 o2=>.tail (.tail (hp2 o1 o2))) ⟨na,nn,rfl,h.2.1 _ hnm⟩ hyx hx (hr2 ▸ hx') fun t v o2 I2 hpt hrep hs hh2=>V9.ce (o2,I2,ts ++ [t]) ⟨hh2,h.2.1.trans hs,(h.2.2.1.mono hs).snoc hrep,?l,?p⟩ Le.refl rfl)
    fun acc zs o1 I1 ts m h=>H.freeze .head (new252 (rm hx' rfl) fun v I2 h8 h9=>retI ?fin)
  case l=>rw [List.length_append,h.2.2.2.1]; rfl
  case p=>
    intro t' ht'
    cases List.mem_append.mp ht' with
    | inl z=>exact h.2.2.2.2 t' z
    | inr z=>rw [List.mem_singleton.mp z]; exact hpt
  obtain ⟨hh1,hs,hR,htl,hts⟩:=h
  obtain ⟨a,b,c,rfl⟩:=len3_e htl
  exact q _ _ _ _ (.mk (hts a (.head _)) (hts b (.tail _ (.head _))) (hts c (.tail _ (.tail _ (.head _))))) (.con h9 (h8 _ (.head _)) (Reps.mono (Sub.one.trans h8) hR)) (hs.trans (Sub.one.trans h8)) hh1
end
end
section
theorem mapM_all {α β:Type} {f:α→Option β}:∀ {ks:List α} {ds:List β},ks.mapM f = some ds→ds.length = ks.length∧∀ (i:Nat) (k:α),ks[i]? = some k→∃ d,ds[i]? = some d∧f k = some d
  | [],ds,h=>by
    simp at h; subst h; exact ⟨rfl,fun i k q=>by simp at q⟩
  | k :: ks,ds,h=>by
    rw [List.mapM_cons] at h
    cases hk:f k with
    | none=>rw [hk] at h; cases h
    | some d=>
      cases hks:ks.mapM f with
      | none=>rw [hk,hks] at h; cases h
      | some ds'=>
        rw [hk,hks] at h
        cases h
        have ih:=mapM_all hks
        refine ⟨by simp [ih.1],fun i k' q=>?_⟩
        cases i with
        | zero=>simp at q; subst q; exact ⟨d,rfl,hk⟩
        | succ i=>simp at q; simpa using ih.2 i k' q
theorem DatIs.len {I:Led}:∀ {ds:List Dt} {vs:List Value},DatIs I ds vs→ds.length = vs.length
  | [],[],_=>rfl
  | _ :: _,_ :: _,h=>by unfold DatIs at h; simp [DatIs.len h.2]
  | [],_ :: _,h=>by unfold DatIs at h; exact h.elim
  | _ :: _,[],h=>by unfold DatIs at h; exact h.elim
theorem DatIs.snoc {I:Led}:∀ {ds:List Dt} {vs:List Value} {d:Dt} {v:Value},DatIs I ds vs→DatI I d v→DatIs I (ds ++ [d]) (vs ++ [v])
  | [],[],d,v,_,k=>by show DatIs I [d] [v]; unfold DatIs; exact ⟨k,by unfold DatIs; trivial⟩
  | _ :: _,_ :: _,d,v,h,k=>by unfold DatIs at h; show DatIs I (_ :: (_ ++ [d])) (_ :: (_ ++ [v])); unfold DatIs; exact ⟨h.1,DatIs.snoc h.2 k⟩
  | [],_ :: _,_,_,h,_=>by unfold DatIs at h; exact h.elim
  | _ :: _,[],_,_,h,_=>by unfold DatIs at h; exact h.elim
theorem lookT_snoc {x y:Str} {t:Tr}:∀ {xs:List Str} {ts:List Tr},xs.length = ts.length→lookT (xs ++ [x]) (ts ++ [t]) y = if y = x then some t else lookT xs ts y
  | [],[],_=>by simp [lookT]
  | a :: xs,b :: ts,h=>by
    have:=lookT_snoc (x:=x) (y:=y) (t:=t) (xs:=xs) (ts:=ts) (by simpa using h)
    show (match lookT (xs ++ [x]) (ts ++ [t]) y with | some u=>some u | none=>if y = a then some b else none) = _
    rw [this]
    by_cases hy:y = x
    · rw [if_pos hy,if_pos hy]
    · rw [if_neg hy,if_neg hy]; rfl
  | [],_ :: _,h=>by simp at h
  | _ :: _,[],h=>by simp at h
theorem ones_snoc {env:En} {x:Str} {t:Tr}:∀ {xs:List Str} {ts:List Tr} {acc:En},xs.length = ts.length→ones env acc (xs ++ [x]) (ts ++ [t]) = .one x t env (ones env acc xs ts)
  | [],[],_,_=>rfl
  | _ :: xs,_ :: ts,acc,h=>ones_snoc (xs:=xs) (ts:=ts) (by simpa using h)
  | [],_ :: _,_,h=>by simp at h
  | _ :: _,[],_,h=>by simp at h
theorem ones_size {env:En}:∀ {xs:List Str} {ts:List Tr} {acc:En},xs.length = ts.length→esize (ones env acc xs ts) = esize acc + xs.length
  | [],[],_,_=>rfl
  | _ :: xs,_ :: ts,acc,h=>by
    show esize (ones env (.one _ _ env acc) xs ts) = _
    rw [ones_size (xs:=xs) (ts:=ts) (by simpa using h)]
    show esize acc + 1 + xs.length = esize acc + (xs.length + 1)
    lia
  | [],_ :: _,_,h=>by simp at h
  | _ :: _,[],_,h=>by simp at h
def LetP (e:E0) (I:Led) (r:Bool) (E':En) (dv:Value) (ekvs:List (Str × Value)) (self:Value) (xs:List Str) (ts:List Tr) (kvs:List (Str × Value)):Prop:=
  match r with
  | true=>(∀ y t,lookT xs ts y = some t→∃ p vt,valueAt kvs y = some p∧TupI I p [vt,self]∧Rep I t vt)∧∀ y,lookT xs ts y = none→valueAt kvs y = valueAt ekvs y
  | false=>∃ self',EntI e I (ones E' E' xs ts) self' kvs
theorem LetP.start {e:E0} {I:Led} {r:Bool} {E':En} {dv self:Value} {ekvs:List (Str × Value)} (h:EntI e I E' dv ekvs):LetP e I r E' dv ekvs self [] [] ekvs:=by
  cases r with
  | true=>exact ⟨fun y t q=>by simp [lookT] at q,fun y _=>rfl⟩
  | false=>exact ⟨dv,h⟩
theorem LetP.mono {e:E0} {I I':Led} {r:Bool} {E':En} {dv self:Value} {ekvs kvs:List (Str × Value)} {xs:List Str} {ts:List Tr} (h:LetP e I r E' dv ekvs self xs ts kvs) (k:Sub I I'):LetP e I' r E' dv ekvs self xs ts kvs:=by
  cases r with
  | true=>
    refine ⟨fun y t q=>?_,h.2⟩
    obtain ⟨p,vt,h1,h2,h3⟩:=h.1 y t q
    exact ⟨p,vt,h1,h2.mono k,h3.mono k⟩
  | false=>
    obtain ⟨s',h⟩:=h
    exact ⟨s',h.mono k⟩
theorem LetP.step {e:E0} {I:Led} {r:Bool} {E':En} {dv self p vt:Value} {ekvs kvs:List (Str × Value)} {xs:List Str} {ts:List Tr} {x:Str} {t:Tr} (h:LetP e I r E' dv ekvs self xs ts kvs) (hl:xs.length = ts.length)
    (hp:TupI I p [vt,match r with | true=>self | false=>dv]) (ht:Rep I t vt) (hD:DicI e I dv ekvs) (hE:EntI e I E' dv ekvs) (hz:ekvs.length ≤ esize E'):LetP e I r E' dv ekvs self (xs ++ [x]) (ts ++ [t]) (stored kvs x p):=by
  cases r with
  | true=>
    refine ⟨fun y u q=>?_,fun y q=>?_⟩
    · rw [lookT_snoc hl] at q
      rw [valueAt_stored]
      by_cases hy:y = x
      · rw [if_pos hy] at q; cases q
        rw [if_pos hy]
        exact ⟨p,vt,rfl,hp,ht⟩
      · rw [if_neg hy] at q
        rw [if_neg hy]
        exact h.1 y u q
    · rw [lookT_snoc hl] at q
      rw [valueAt_stored]
      by_cases hy:y = x
      · rw [if_pos hy] at q; cases q
      · rw [if_neg hy] at q
        rw [if_neg hy]
        exact h.2 y q
  | false=>
    obtain ⟨s',h⟩:=h
    refine ⟨s',?_⟩
    rw [ones_snoc hl]
    exact ⟨⟨p,vt,dv,ekvs,by rw [valueAt_stored,if_pos rfl],hp,ht,hD,hE,hz⟩,s',kvs,h,fun y hy=>by rw [valueAt_stored,if_neg hy]⟩
theorem LetP.fin {e:E0} {I:Led} {r:Bool} {E':En} {dv self:Value} {ekvs kvs:List (Str × Value)} {xs:List Str} {ts:List Tr} (h:LetP e I r E' dv ekvs self xs ts kvs) (hx:xs ≠ []) (hl:xs.length = ts.length)
    (hs:DicI e I self kvs) (hk:kvs.length ≤ esize E' + xs.length) (hE:EntI e I E' dv ekvs):EnvI e I (if r then .recs xs ts E' else ones E' E' xs ts) self:=by
  cases r with
  | true=>exact ⟨kvs,hs,⟨hs,hk,h.1,dv,ekvs,hE,h.2⟩,hk⟩
  | false=>
    obtain ⟨s',h⟩:=h
    refine ⟨kvs,hs,?_,by rw [show (if false = true then En.recs xs ts E' else ones E' E' xs ts) = ones E' E' xs ts from rfl,ones_size hl]; exact hk⟩
    show EntI e I (ones E' E' xs ts) self kvs
    obtain ⟨xs',x,rfl⟩:∃ xs' x,xs = xs' ++ [x]:=⟨_,_,(List.dropLast_concat_getLast hx).symm⟩
    obtain ⟨ts',t,rfl⟩:∃ ts' t,ts = ts' ++ [t]:=⟨_,_,(List.dropLast_concat_getLast (l:=ts) (fun q=>by rw [q] at hl; simp at hl)).symm⟩
    rw [ones_snoc (by simpa using hl)] at h ⊢
    exact h
theorem dat1 {I:Led} {r:Addr} {n:Nat} {a:Dt} {v:Value} (h:(r,tupO [v] n) ∈ I) (h1:DatI I a v):DatI I (.tup [a]) (.ref r):=by unfold DatI; exact ⟨_,⟨r,n,rfl,h⟩,by unfold DatIs DatIs; exact ⟨h1,trivial⟩⟩
theorem dat2 {I:Led} {r:Addr} {n:Nat} {a b:Dt} {v w:Value} (h:(r,tupO [v,w] n) ∈ I) (h1:DatI I a v) (h2:DatI I b w):DatI I (.tup [a,b]) (.ref r):=by unfold DatI; exact ⟨_,⟨r,n,rfl,h⟩,by unfold DatIs DatIs DatIs; exact ⟨h1,h2,trivial⟩⟩
theorem datC {I:Led} {r:Addr} {n:Nat} {a:Dt} {v:Value} {l:List Dt} {ws:List Value} (h:(r,tupO (v :: ws) n) ∈ I) (h1:DatI I a v) (h2:DatIs I l ws):DatI I (.tup (a :: l)) (.ref r):=by unfold DatI; exact ⟨_,⟨r,n,rfl,h⟩,by unfold DatIs; exact ⟨h1,h2⟩⟩
theorem datS {I:Led} {s:Str} {t:Tok}:DatI I (.str s) (.str s t):=by unfold DatI; exact ⟨t,rfl⟩
theorem datN {I:Led} {n:Int} {t:Tok}:DatI I (.int n) (.int n t):=by unfold DatI; exact ⟨t,rfl⟩
theorem dats0 {I:Led}:DatIs I [] []:=by unfold DatIs; trivial
theorem foundF_var {n:Nat} {x:Str} {ks:List Tr} {E:En}:foundF (n + 1) (.node (.var x) ks) E = match lookE E x with | some (t',E')=>foundF n t' E' | none=>some (.node (.var x) ks,E):=rfl
theorem found_v {e:E0} {I:Led} {P:Prop} {n:Nat} {hd:Hd} {ks:List Tr} {E En':En} {t':Tr} {v d:Value} (hf:foundF n (.node hd ks) E = some (t',En')) (hb:(clsOf hd == 52) = true) (r:Rep I (.node hd ks) v) (hE:EnvI e I E d)
    (q1:∀ kvs,DicI e I d kvs→(valueAt kvs (nmOf hd)).isSome = false→Rep I t' v→EnvI e I En' d→P)
    (q2:∀ kvs m p vt vh t2 E2,DicI e I d kvs→(valueAt kvs (nmOf hd)).isSome = true→valueAt kvs (nmOf hd) = some p→TupI I p [vt,vh]→Rep I t2 vt→EnvI e I E2 vh→foundF m t2 E2 = some (t',En')→m < n→P):P:=by
  obtain ⟨x,rfl⟩:=var_of hb
  obtain ⟨kvs,hd,hent,hlen⟩:=id hE
  have hl:=hent.look (x:=x)
  cases n with
  | zero=>cases hf
  | succ n=>
    rw [foundF_var] at hf
    cases hx:lookE E x with
    | none=>
      rw [hx] at hf
      cases hf
      exact q1 kvs hd (by show (valueAt kvs x).isSome = false; rw [hl.2 hx]; rfl) r hE
    | some z=>
      obtain ⟨t2,E2⟩:=z
      rw [hx] at hf
      obtain ⟨p,vt,vh,hv,hp,h2,h3⟩:=hl.1 t2 E2 hx
      exact q2 kvs n p vt vh t2 E2 hd (by show (valueAt kvs x).isSome = true; rw [hv]; rfl) hv hp h2 h3 hf (Nat.lt_succ_self n)
theorem found_n {e:E0} {I:Led} {P:Prop} {n:Nat} {hd:Hd} {ks:List Tr} {E En':En} {t':Tr} {v d:Value} (hf:foundF n (.node hd ks) E = some (t',En')) (hb:(clsOf hd == 52) = false) (r:Rep I (.node hd ks) v) (hE:EnvI e I E d) (q:Rep I t' v→EnvI e I En' d→P):P:=by
  cases n with
  | zero=>cases hf
  | succ n=>
    have hf':(t',En') = (.node hd ks,E):=by
      unfold foundF at hf
      cases hd with
      | var x=>exact absurd hb Bool.noConfusion
      | _=>simpa using hf.symm
    cases hf'
    exact q r hE
noncomputable def S566 (M I:Led):Tr × En × Value × Value→Sta
  | (_,_,v,d)=>⟨[some v,some d],M,I⟩
def F566 (e:E0) (I:Led) (t':Tr) (En':En) (n:Nat):Tr × En × Value × Value→Prop
  | (t,E,v,d)=>foundF n t E = some (t',En')∧Rep I t v∧EnvI e I E d
section
variable {e:E0} {x:Ctx e} {vs:List (Option Value)} {M I:Led} {st:Sta} {k:Value→Sta→Prop}
theorem dInD {d:Value} {kvs:List (Str × Value)} {y:Str} {t:Tok} {b:Bool} (h:DicI e I d kvs) (hb:(valueAt kvs y).isSome = b) (q:k (.bool b) ⟨vs,M,I⟩):H x (compareOp .In (.str y t) d) ⟨vs,M,I⟩ k:=by
  obtain ⟨a,o,rfl,h1,h2⟩:=h
  exact dIn (.inr h1) h2 (by rw [hb]; exact q)
theorem dItemD {d u:Value} {kvs:List (Str × Value)} {y:Str} {t:Tok} (h:DicI e I d kvs) (hv:valueAt kvs y = some u) (q:k u ⟨vs,M,I⟩):HSub x d (.str y t) ⟨vs,M,I⟩ k:=by
  obtain ⟨a,o,rfl,h1,h2⟩:=h
  exact dItem (.inr h1) h2 hv q
theorem dCopyD {d:Value} {kvs:List (Str × Value)} (h:DicI e I d kvs) (hz:kvs.length ≤ 10000000) (q:∀ a o',DO e a o' kvs→k (.ref a) ⟨vs,(a,o') :: M,I⟩):H x (call (.type "dict") [d]) ⟨vs,M,I⟩ k:=by
  obtain ⟨a,o,rfl,h1,h2⟩:=h
  exact dCopy (.inr h1) h2 hz q
theorem foundH {n:Nat} {t t':Tr} {En0 En':En} {v d:Value} (hf:foundF n t En0 = some (t',En')) (r:Rep I t v) (hE:EnvI e I En0 d) (hr:2 ≤ x.c.room)
    (q:∀ a v' d' I',Sub I I'→TupI I' (.ref a) [v',d']→Rep I' t' v'→EnvI e I' En' d'→k (.ref a) ⟨vs,M,I'⟩):H x (call (.ref 566) [v,d]) ⟨vs,M,I⟩ k:=by
  refine fr566.run rfl hr fun x' _=>whlH4 (S566 M I) (F566 e I t' En') n (t,En0,v,d) Le.refl ⟨hf,r,hE⟩ fun n t E v d h _ V9=>h.2.1.open fun hd ks ws et rH rK=>?_
  cases et
  have fin:∀ {v d:Value},Rep I t' v→EnvI e I En' d→∀ a,k (.ref a) ⟨vs,M,(a,tupO [v,d] 0) :: I⟩:=fun h1 h2 a=>q a _ _ _ Sub.one ⟨a,0,rfl,.head _⟩ (h1.mono Sub.one) (h2.mono Sub.one)
  exact isiH rH rfl (cnd (fun hb=>getFS (var_name rH hb) g52_name fun tx=>found_v h.1 hb h.2.1 h.2.2 (fun kvs hd hn h1 h2=>dInD hd hn fun a=>retI (fin h1 h2 a)) fun kvs m p vt vh t2 E2 hd hs hv hp h1 h2 h3 hm=>dInD hd hs (getFS (var_name rH hb) g52_name fun tx=>dItemD hd hv (asg2T hp (V9.wnext (m:=m) (t2,E2,vt,vh) hm ⟨h3,h1,h2⟩ Le.refl))))
    fun hb=>found_n h.1 hb h.2.1 h.2.2 fun h1 h2 a=>retI (fin h1 h2 a))
end
end
section
theorem twoL_e {ks:List Tr} {a b:Tr} (h:twoL ks = some (a,b)):∃ r,ks = a :: b :: r:=by
  cases ks with
  | nil=>exact none_e h
  | cons a' ks=>cases ks with
    | nil=>exact none_e h
    | cons b' r=>cases h; exact ⟨r,rfl⟩
theorem oneL_e {ks:List Tr} {b:Tr} (h:oneL ks = some b):ks = [b]:=by
  cases ks with
  | nil=>exact none_e h
  | cons a' ks=>cases ks with
    | nil=>cases h; rfl
    | cons _ _=>exact none_e h
theorem lamL_e {t:Tr} {x:Str} {b:Tr} (h:lamL t = some (x,b)):t = .node (.lam x) [b]:=by
  obtain ⟨hd,ks⟩:=t
  cases hd with
  | lam y=>
    obtain ⟨b',h1,h2⟩:=omap_e h
    cases h2
    exact congrArg (Tr.node (.lam _)) (oneL_e (ks:=ks) h1)
  | _=>exact none_e h
section
variable {I:Led} {P:Prop} {f deep:Nat} {t0:Tr} {En0 E':En} {r:Dt} {h:Hd} {ks:List Tr} {ws:List Value} {v:Value}
theorem seen_found (hf:seenF (f + 1) t0 En0 deep = some r) (q:∀ h ks E',foundF 60 t0 En0 = some (.node h ks,E')→esize E' ≤ 1000→P):P:=by
  obtain ⟨⟨⟨h,ks⟩,E'⟩,h1,h2⟩:=obind_e (show (foundF 60 t0 En0).bind (fun p=>sm (esize p.2) (seenG (seenF f) p.2 deep (hdOf p.1) (ksOf p.1))) = some r from hf)
  exact q h ks E' h1 (sm_e h2).1
theorem seen_var (hf:seenF (f + 1) t0 En0 deep = some r) (hfd:foundF 60 t0 En0 = some (.node h ks,E')) (hz:esize E' ≤ 1000) (hb:(clsOf h == 52) = true):r = .tup [.str "from",.str (nmOf h)]:=by
  obtain ⟨x,rfl⟩:=var_of hb
  exact (Option.some.inj (seenF_at hf hfd).2).symm
theorem seen_lit (hf:seenF (f + 1) t0 En0 deep = some r) (hfd:foundF 60 t0 En0 = some (.node h ks,E')) (hz:esize E' ≤ 1000) (hb:(clsOf h == 94) = true) (rH:RepH I h v ws) (q:∀ n tn,FldI I v 94 "value" (.int n tn)→r = .tup [.str "number",.int n]→P):P:=by
  obtain ⟨lk,ln,rfl⟩:∃ lk ln,h = .lit lk ln:=by cases h <;> first | exact ⟨_,_,rfl⟩ | exact absurd hb Bool.noConfusion
  obtain ⟨_,t,u,hi⟩:=rH
  exact q ln u ⟨_,hi,rfl,trivial⟩ (Option.some.inj (seenF_at hf hfd).2).symm
def AllS (f:Nat) (E':En) (deep:Nat) (ks:List Tr) (ds:List Dt):Prop:=ds.length = ks.length∧ks.length ≤ 1000∧∀ (i:Nat) (k:Tr),ks[i]? = some k→∃ d,ds[i]? = some d∧seenF f k E' deep = some d
theorem seen_con {di:Int} (hf:seenF (f + 1) t0 En0 deep = some r) (hfd:foundF 60 t0 En0 = some (.node h ks,E')) (hz:esize E' ≤ 1000) (hb:(clsOf h == 252) = true) (hdi:di = (deep:Int)) (rH:RepH I h v ws)
    (q:∀ ck la ln,FldS I v 252 "name" ck→FldI I v 252 "args" (.ref la)→(la,listO ws ln) ∈ I→((di == 0) = true→r = .tup [.str ".."])→((di == 0) = false→∃ (dp:Nat) (ds:List Dt),di - 1 = (dp:Int)∧AllS f E' dp ks ds∧r = .tup (.str ck :: ds))→P):P:=by
  obtain ⟨ck,rfl⟩:=con_of hb
  have hf:=(seenF_at hf hfd).2
  obtain ⟨t,l,hi,⟨la,ln,e0,hlm⟩⟩:=rH
  cases e0
  refine q ck l ln ⟨t,_,hi,rfl,trivial⟩ ⟨_,hi,rfl,trivial⟩ hlm (fun h0=>?_) fun h0=>?_
  · have hdz:deep = 0:=Int.ofNat.inj (hdi.symm.trans (eq_of_beq h0))
    rw [hdz] at hf
    exact (Option.some.inj hf).symm
  · cases deep with
    | zero=>rw [hdi] at h0; cases h0
    | succ dp=>
      obtain ⟨hkl,hf⟩:=sm_e hf
      obtain ⟨dall,hm,rfl⟩:=omap_e hf
      have ha:=mapM_all hm
      exact ⟨dp,dall,by rw [hdi]; exact Int.add_sub_cancel (dp:Int) 1,⟨ha.1,hkl,ha.2⟩,rfl⟩
theorem seen_prim (hf:seenF (f + 1) t0 En0 deep = some r) (hfd:foundF 60 t0 En0 = some (.node h ks,E')) (hz:esize E' ≤ 1000) (hb:(clsOf h == 52) = false) (hb2:(clsOf h == 94) = false) (hb3:(clsOf h == 252) = false) (hb4:(clsOf h == 212) = false) (hb5:(clsOf h == 176) = false) (hb6:(clsOf h == 134) = false) (rH:RepH I h v ws)
    (q:∀ ck la ln,FldS I v 292 "op" ck→FldI I v 292 "args" (.ref la)→(la,listO ws ln) ∈ I→∀ ds,AllS f E' deep ks ds→r = .tup (.str ck :: ds)→P):P:=by
  obtain ⟨ck,rfl⟩:∃ ck,h = .prim ck:=by
    cases h with
    | prim ck=>exact ⟨ck,rfl⟩
    | var x=>exact absurd hb Bool.noConfusion
    | lit x n=>exact absurd hb2 Bool.noConfusion
    | con x=>exact absurd hb3 Bool.noConfusion
    | lett xs r=>exact absurd hb4 Bool.noConfusion
    | lam x=>exact absurd hb5 Bool.noConfusion
    | app=>exact absurd hb6 Bool.noConfusion
  obtain ⟨t,l,hi,⟨la,ln,e0,hlm⟩⟩:=rH
  cases e0
  obtain ⟨hkl,hf⟩:=sm_e (seenF_at hf hfd).2
  obtain ⟨dall,hm,rfl⟩:=omap_e hf
  have ha:=mapM_all hm
  exact q ck l ln ⟨t,_,hi,rfl,trivial⟩ ⟨_,hi,rfl,trivial⟩ hlm dall ⟨ha.1,hkl,ha.2⟩ rfl
theorem seen_let (hf:seenF (f + 1) t0 En0 deep = some r) (hfd:foundF 60 t0 En0 = some (.node h ks,E')) (hz:esize E' ≤ 1000) (hb:(clsOf h == 212) = true) (rH:RepH I h v ws) (rK:Reps I ks ws)
    (q:∀ xs r0 l b ps bs bks kb,LetV I v xs r0 l b ps bs→Reps I bks bs→Rep I kb (.ref b)→xs ≠ []→ps.length ≤ 1000→seenF f kb (if r0 then .recs xs bks E' else ones E' E' xs bks) deep = some r→P):P:=by
  obtain ⟨xs,r0,rfl⟩:=let_of hb
  refine let_elim ⟨ws,rH,rK⟩ fun l b ps bs bks kb e0 L r1 r2=>?_
  subst e0
  obtain ⟨hkl,hf⟩:=sm_e (seenF_at hf hfd).2
  cases xs with
  | nil=>exact none_e hf
  | cons x0 xs=>
    rw [List.getLast?_concat,List.dropLast_concat] at hf
    rw [List.length_append] at hkl
    exact q (x0 :: xs) r0 l b ps bs bks kb L r1 r2 (fun q=>nomatch q) (Nat.le_trans (Nat.le_of_eq (L.bnd.len.1.trans (L.bnd.len.2.symm.trans r1.len.symm))) (Nat.le_of_succ_le hkl)) hf
theorem lam_e {y:Str} {b:Tr} (rT:Rep I (.node (.lam y) [b]) v) (q:∀ l ln tp bb,FldI I v 176 "params" (.ref l)→(l,listO [.str y tp] ln) ∈ I→FldI I v 176 "body" (.ref bb)→Rep I b (.ref bb)→P):P:=by
  obtain ⟨ws,⟨b0,l,tp,rfl,hi,⟨la,ln,e0,hlm⟩⟩,rK⟩:=rT
  cases e0
  exact q l ln tp b0 ⟨_,hi,rfl,trivial⟩ hlm ⟨_,hi,rfl,trivial⟩ rK.1
theorem seen_lam (hf:seenF (f + 1) t0 En0 deep = some r) (hfd:foundF 60 t0 En0 = some (.node h ks,E')) (hz:esize E' ≤ 1000) (hb:(clsOf h == 176) = true) (rH:RepH I h v ws) (rK:Reps I ks ws)
    (q:∀ y bt l ln tp bb rd,FldI I v 176 "params" (.ref l)→(l,listO [.str y tp] ln) ∈ I→FldI I v 176 "body" (.ref bb)→Rep I bt (.ref bb)→seenF f bt (.one y hashT .nil E') deep = some rd→r = .tup [.str "function",rd]→P):P:=by
  obtain ⟨y,rfl⟩:=lam_of hb
  obtain ⟨bt,rfl⟩:∃ bt,ks = [bt]:=by
    obtain ⟨b0,l,tp,rfl,_⟩:=rH
    have h1:=rK.len
    exact List.length_eq_one_iff.mp h1
  obtain ⟨rd,h1,rfl⟩:=omap_e (seenF_at hf hfd).2
  exact lam_e ⟨ws,rH,rK⟩ fun l ln tp bb h2 h3 h4 h5=>q y bt l ln tp bb rd h2 h3 h4 h5 h1 rfl
theorem seen_app (hf:seenF (f + 1) t0 En0 deep = some r) (hfd:foundF 60 t0 En0 = some (.node h ks,E')) (hz:esize E' ≤ 1000) (hb:(clsOf h == 134) = true) (rH:RepH I h v ws) (rK:Reps I ks ws)
    (q:∀ fa l ln aw as fn arg lq lb place,FldI I v 134 "fun" (.ref fa)→FldI I v 134 "args" (.ref l)→(l,listO (aw :: as) ln) ∈ I→Rep I fn (.ref fa)→Rep I arg aw→foundF 60 fn E' = some (.node (.lam lq) [lb],place)→esize place ≤ 1000→seenF f lb (.one lq arg E' place) deep = some r→P):P:=by
  have happ:h = .app:=by
    cases h with
    | app=>rfl
    | _=>exact absurd hb Bool.noConfusion
  subst happ
  obtain ⟨fa,l,as,rfl,hi,⟨la,ln,e0,hlm⟩⟩:=rH
  cases e0
  obtain ⟨⟨fn,arg⟩,h1,hf⟩:=obind_e (seenF_at hf hfd).2
  obtain ⟨⟨lt,place⟩,hfd2,hf⟩:=obind_e hf
  obtain ⟨⟨lq,b⟩,h2,hf⟩:=obind_e hf
  obtain ⟨hpz,hf⟩:=sm_e hf
  obtain ⟨ks,rfl⟩:=twoL_e h1
  have hfd2:foundF 60 fn E' = some (.node (.lam lq) [b],place):=lamL_e h2 ▸ hfd2
  cases as with
  | nil=>exact rK.2.elim
  | cons aw as=>exact q fa l ln aw as fn arg lq b place ⟨_,hi,rfl,trivial⟩ ⟨_,hi,rfl,trivial⟩ hlm rK.1 rK.2.1 hfd2 hpz hf
end
theorem DatIs.next {I I':Led} {dall:List Dt} {zs:List Value} {d:Dt} {v:Value} {i:Nat} (h:DatIs I (dall.take i) zs) (k:Sub I I') (hd:dall[i]? = some d) (hv:DatI I' d v):DatIs I' (dall.take (i + 1)) (zs ++ [v]):=by
  rw [take_next hd]
  exact (h.mono k).snoc hv
theorem DatIs.whole {I:Led} {dall:List Dt} {zs:List Value} {n:Nat} (h:DatIs I (dall.take n) zs) (hn:n = dall.length):DatIs I dall zs:=by
  rw [hn,List.take_length] at h; exact h
theorem DatIs.start {I:Led} {dall:List Dt}:DatIs I (dall.take 0) []:=dats0
theorem kid_e {I:Led} {P:Prop} {f deep i:Nat} {E':En} {ks:List Tr} {ws:List Value} {ds:List Dt} {y:Value} (rK:Reps I ks ws) (h:AllS f E' deep ks ds) (hX:ws[i]? = some y) (q:∀ kt dt,Rep I kt y→ds[i]? = some dt→seenF f kt E' deep = some dt→P):P:=
  let ⟨kt,h1,h2⟩:=rK.at hX
  let ⟨dt,h3,h4⟩:=h.2.2 i kt h1
  q kt dt h2 h3 h4
theorem AllS.len {I:Led} {f deep:Nat} {E':En} {ks:List Tr} {ws:List Value} {ds:List Dt} (h:AllS f E' deep ks ds) (rK:Reps I ks ws):ws.length = ds.length∧ds.length ≤ 1000:=⟨(h.1.trans rK.len).symm,h.1 ▸ h.2.1⟩
theorem EnvI.one {e:E0} {I:Led} {y:Str} {t:Tr} {home rest:En} {na:Addr} {no:Obj} {p vt vh self:Value} {kvs kh:List (Str × Value)} (hn:(na,no) ∈ I) (hd:DO e na no (stored kvs y p)) (hp:TupI I p [vt,vh]) (ht:Rep I t vt) (hD:DicI e I vh kh) (hE:EntI e I home vh kh) (hz:kh.length ≤ esize home)
    (hr:EntI e I rest self kvs) (hk:kvs.length ≤ esize rest):EnvI e I (.one y t home rest) (.ref na):=
  ⟨_,⟨na,no,rfl,hn,hd⟩,⟨⟨p,vt,vh,kh,by rw [valueAt_stored,if_pos rfl],hp,ht,hD,hE,hz⟩,self,kvs,hr,fun y hy=>by rw [valueAt_stored,if_neg hy]⟩,Nat.le_trans (stored_length_le _ _ _) (Nat.succ_le_succ hk)⟩
theorem LetP.next {e:E0} {I I':Led} {r:Bool} {E':En} {dv self p vt:Value} {ekvs kvs:List (Str × Value)} {xs:List Str} {ts:List Tr} {x:Str} {t:Tr} {i:Nat} (h:LetP e I r E' dv ekvs self (xs.take i) (ts.take i) kvs) (k:Sub I I') (hx:xs[i]? = some x) (ht:ts[i]? = some t)
    (hp:TupI I' p [vt,cond r self dv]) (hr:Rep I' t vt) (hD:DicI e I' dv ekvs) (hE:EntI e I' E' dv ekvs) (hz:ekvs.length ≤ esize E'):LetP e I' r E' dv ekvs self (xs.take (i + 1)) (ts.take (i + 1)) (stored kvs x p):=by
  have h1:=(List.getElem?_eq_some_iff.mp hx).1
  have h2:=(List.getElem?_eq_some_iff.mp ht).1
  rw [take_next hx,take_next ht]
  exact (h.mono k).step (by rw [List.length_take,List.length_take]; lia) (by cases r <;> exact hp) hr hD hE hz
theorem LetP.whole {e:E0} {I:Led} {r:Bool} {E':En} {dv self:Value} {ekvs kvs:List (Str × Value)} {xs:List Str} {ts:List Tr} {n:Nat} (h:LetP e I r E' dv ekvs self (xs.take n) (ts.take n) kvs) (h1:n = xs.length) (h2:n = ts.length) (hx:xs ≠ [])
    (hs:DicI e I self kvs) (hk:kvs.length ≤ esize E' + n) (hE:EntI e I E' dv ekvs):EnvI e I (if r then .recs xs ts E' else ones E' E' xs ts) self:=by
  rw [List.take_of_length_le (Nat.le_of_eq h1.symm),List.take_of_length_le (Nat.le_of_eq h2.symm)] at h
  exact h.fin hx (h1.symm.trans h2) hs (h1 ▸ hk) hE
section
variable {e:E0} {x:Ctx e} {vs:List (Option Value)} {M I:Led} {k:Value→Sta→Prop}
theorem addTH {l b:Addr} {xs ys:List Value} {n m:Nat} (ho:(l,tupO xs n) ∈ I) (hb:(b,tupO ys m) ∈ I) (hz:xs.length + ys.length ≤ 10000000) (q:∀ a n' I',Sub I I'→(a,tupO (xs ++ ys) n') ∈ I'→k (.ref a) ⟨vs,M,I'⟩):H x (binaryOp .Add (.ref l) (.ref b)) ⟨vs,M,I⟩ k:=
  ⟨fun _ hs=>add_tup hs ho hb (szle hz) fun a n' I' _ h1 h2 hs'=>upM hs' (q a n' I' h1 h2)⟩
end
end
section
def SeenC (e:E0) (f:Nat):Prop:=
  ∀ {t:Tr} {En0:En} {deep:Nat} {r:Dt},seenF f t En0 deep = some r→
    ∀ {x:Ctx e} {vs:List (Option Value)} {M I:Led} {v d:Value} {di:Int} {td:Tok} {k:Value→Sta→Prop},
      di = (deep:Int)→Rep I t v→EnvI e I En0 d→f + 6 ≤ x.c.room→(∀ v' I',Sub I I'→DatI I' r v'→k v' ⟨vs,M,I'⟩)→H x (call (.ref 571) [v,d,.int di td]) ⟨vs,M,I⟩ k
noncomputable def S571c (M:Led) (_:Nat) (I:Led):Led × Led:=(M,I)
def F571c (I0:Led) (ds:List Dt) (i:Nat) (zs:List Value) (I:Led):Prop:=Sub I0 I∧DatIs I (ds.take i) zs
noncomputable def S571 (a b c d f:Value) (na:Addr) (M:Led) (_:Nat):Led × Obj × List (Str × Value) × Option Value × Option Value→Sta
  | (I,o,_,u1,u2)=>⟨[some a,some b,some c,some d,some f,some (.ref na),u1,u2,none,none,none],(na,o) :: M,I⟩
def F571 (e:E0) (I0:Led) (r:Bool) (E':En) (d:Value) (ekvs:List (Str × Value)) (na:Addr) (xs:List Str) (ts:List Tr) (i:Nat):Led × Obj × List (Str × Value) × Option Value × Option Value→Prop
  | (I,o,kvs,_)=>Sub I0 I∧DO e na o kvs∧LetP e I r E' d ekvs (.ref na) (xs.take i) (ts.take i) kvs∧kvs.length ≤ esize E' + i
theorem EnvI.op {e:E0} {I:Led} {P:Prop} {E:En} {d:Value} (h:EnvI e I E d) (q:∀ kvs,DicI e I d kvs→EntI e I E d kvs→kvs.length ≤ esize E→P):P:=let ⟨kvs,h1,h2,h3⟩:=h; q kvs h1 h2 h3
theorem Rep.op {I:Led} {P:Prop} {h:Hd} {ks:List Tr} {v:Value} (r:Rep I (.node h ks) v) (q:∀ ws,RepH I h v ws→Reps I ks ws→P):P:=let ⟨ws,h1,h2⟩:=r; q ws h1 h2
theorem LetV.li {I:Led} {P:Prop} {v:Value} {xs:List Str} {r:Bool} {l b:Addr} {ps bs:List Value} (h:LetV I v xs r l b ps bs) (q:∀ n,(l,listO ps n) ∈ I→P):P:=let ⟨n,hn⟩:=h.lis; q n hn
theorem rep_i {I:Led} {P:Prop} {ks:List Tr} {ws:List Value} {i:Nat} {w:Value} (r:Reps I ks ws) (h:ws[i]? = some w) (q:∀ t,ks[i]? = some t→Rep I t w→P):P:=let ⟨t,h1,h2⟩:=r.at h; q t h1 h2
theorem le7 {n m:Nat} (h:n ≤ 1000) (k:m ≤ 1000):n + m ≤ 10000000:=Nat.le_trans (Nat.add_le_add h k) (by decide)
section
variable {e:E0}
set_option maxHeartbeats 1000000
theorem seenH (f:Nat):SeenC e f:=by
  induction f with
  | zero=>intro _ _ _ _ h; cases h
  | succ f ih=>
    intro t0 En0 deep r hf x vs M I v d di td k hdi rT hE hr q
    refine fr571.run rfl hr fun x' hx=>seen_found hf fun h ks E' hfd hez=>foundH hfd rT hE (Nat.le_trans (Nat.le_trans (by decide:2 ≤ 6) (Nat.le_add_left 6 f)) hx) fun a v' d' I1 s1 hta rT' hE'=>asg2T hta (rT'.op fun ws rH rK=>?_)
    have h2:2 ≤ x'.c.room:=Nat.le_trans (Nat.le_trans (by decide:2 ≤ 6) (Nat.le_add_left 6 f)) hx
    refine isiH rH rfl (cnd (fun hb tS=>getFS (var_name rH hb) g52_name fun tn r1=>retI (q _ _ (s1.trans Sub.one) (seen_var hf hfd hez hb ▸ dat2 (.head _) datS datS))) fun hb1=>isiH rH rfl (cnd (fun hb tS=>seen_lit hf hfd hez hb rH fun n tn hv er=>getF hv g94_value fun r1=>retI (q _ _ (s1.trans Sub.one) (er ▸ dat2 (.head _) datS datN)))
      fun hb2=>isiH rH rfl (cnd (fun hb=>seen_con hf hfd hez hb hdi rH fun ck la ln hn ha hlm hq0 hq1=>fun t1=>cnd (fun h0 tS r1=>retI (q _ _ (s1.trans Sub.one) (hq0 h0 ▸ dat1 (.head _) datS))) fun h0=>getFS hn g252_name fun tn r1=>getF (ha.mono Sub.one) g252_args ?con)
      fun hb3=>hE'.op fun ekvs hD hent hel=>dCopyD hD (Nat.le_trans (Nat.le_trans hel hez) (by decide)) fun na no hnd=>isiH rH rfl (cnd (fun hb=>seen_let hf hfd hez hb rH rK fun xs r0 l b ps bs bks kb L rBs rB hxne hpl hsn=>L.li fun ln hlm=>getF L.binds g212_binds ?lett)
      fun hb4=>isiH rH rfl (cnd (fun hb=>seen_lam hf hfd hez hb rH rK fun y bt l ln tp bb rd hpar hlm hbd rB hsn er tH=>new52 h2 fun hv I2 s2 hhv ed eo hed r1=>H.freeze .head (getF ((hpar.mono s2).mono Sub.one.cons) g176_params ?lam))
      fun hb5=>isiH rH rfl (cnd (fun hb=>seen_app hf hfd hez hb rH rK fun fa l ln aw as fn arg lq lb place hfn har hlm rF rA hfd2 hpz hsn=>getF hfn g134_fun (foundH hfd2 rF hE' h2 fun tb vl vd I2 s2 htb rL hEp=>asg2T htb (hEp.op fun pkvs pD pent pel=>dCopyD pD (Nat.le_trans (Nat.le_trans pel hpz) (by decide)) fun ina ino hind=>getF (har.mono s2) g134_args ?app)))
      fun hb6=>seen_prim hf hfd hez hb1 hb2 hb3 hb4 hb5 hb6 rH fun ck la ln hn ha hlm ds hds er=>getFS hn g292_op fun tn r1=>getF (ha.mono Sub.one) g292_args ?prim))))))
    case con=>
      obtain ⟨dp,ds,hdp,hds,er⟩:=hq1 h0
      have hl:=hds.len rK
      refine compH (S571c M) (F571c _ ds) _ (itList (.inr (.tail _ hlm))) rfl ⟨Sub.refl,.start⟩ (Nat.le_trans (Nat.le_trans (Nat.le_of_eq hl.1) hl.2) (by decide)) (fun i ys I2 h=>srcL (.inr (h.1 _ (.tail _ hlm))))
        (fun x2 hr2 i y zs I2 it o m acc u hi hX h _ V9=>kid_e rK hds hX fun kt dt hrep hdt hsn t2 t3=>ih hsn hdp (hrep.mono (Sub.one.trans h.1)) (hE'.mono (Sub.one.trans h.1)) (hr2 ▸ hx) fun v2 I3 s3 hdat=>V9.ce (S:=S571c M) I3 ⟨h.1.trans s3,h.2.next s3 hdt hdat⟩ Le.refl rfl)
        fun acc zs I2 m h=>tupOfH (.inl (.head _)) ?z fun ta=>addTH (.tail _ (h.1 _ (.head _))) (.head _) ?z2 fun ra rn I3 s3 hra=>retL (Le.drop .head Le.refl) (q _ _ (s1.trans (Sub.one.trans (h.1.trans (Sub.one.trans s3)))) (er ▸ datC hra datS ((h.2.whole hl.1).mono (Sub.one.trans s3))))
      case z=>exact Nat.le_trans (Nat.le_trans (Nat.le_of_eq (h.2.whole hl.1).len.symm) hl.2) (by decide)
      case z2=>exact le7 (by decide:1 ≤ 1000) (Nat.le_trans (Nat.le_of_eq (h.2.whole hl.1).len.symm) hl.2)
    case prim=>
      have hl:=hds.len rK
      refine compH (S571c ((na,no) :: M)) (F571c _ ds) _ (itList (.inr (.tail _ hlm))) rfl ⟨Sub.refl,.start⟩ (Nat.le_trans (Nat.le_trans (Nat.le_of_eq hl.1) hl.2) (by decide)) (fun i ys I2 h=>srcL (.inr (h.1 _ (.tail _ hlm))))
        (fun x2 hr2 i y zs I2 it o m acc u hi hX h _ V9=>kid_e rK hds hX fun kt dt hrep hdt hsn=>ih hsn hdi (hrep.mono (Sub.one.trans h.1)) (hE'.mono (Sub.one.trans h.1)) (hr2 ▸ hx) fun v2 I3 s3 hdat=>V9.ce (S:=S571c ((na,no) :: M)) I3 ⟨h.1.trans s3,h.2.next s3 hdt hdat⟩ Le.refl rfl)
        fun acc zs I2 m h=>tupOfH (.inl (.head _)) ?z3 fun ta=>addTH (.tail _ (h.1 _ (.head _))) (.head _) ?z4 fun ra rn I3 s3 hra=>retL (Le.drop .head (Le.drop .head Le.refl)) (q _ _ (s1.trans (Sub.one.trans (h.1.trans (Sub.one.trans s3)))) (er ▸ datC hra datS ((h.2.whole hl.1).mono (Sub.one.trans s3))))
      case z3=>exact Nat.le_trans (Nat.le_trans (Nat.le_of_eq (h.2.whole hl.1).len.symm) hl.2) (by decide)
      case z4=>exact le7 (by decide:1 ≤ 1000) (Nat.le_trans (Nat.le_of_eq (h.2.whole hl.1).len.symm) hl.2)
    case lett=>
      have hB:=L.bnd
      have hbl:=hB.len
      have hkl:=rBs.len
      have hps:∀ {i n m},n ≤ esize E' + i→i ≤ ps.length→m ≤ n→m ≤ 10000000:=fun a b c=>Nat.le_trans c (Nat.le_trans a (le7 hez (Nat.le_trans b hpl)))
      refine forH5 (S571 v d (.int di td) v' d' na M) (F571 e I1 r0 E' d' ekvs na xs bks) (I1,no,ekvs,none,none) (itList (.inr hlm)) rfl ⟨Sub.refl,hnd,LetP.start hent,hel⟩ (fun _ _ _ _ _ _ h=>srcL (.inr (h.1 _ hlm)))
        (fun i y I2 o2 kvs u1 u2 it io hi hX h _ V9=>asgB hB hX h.1 fun z tz w hz hw=>rep_i rBs hw fun bt hbt hrep=>joinV (fun _:Unit=>cond r0 (.ref na) d') (fun _=>_) (fun _=>True) (fun _ J9=>getF ((L.mono h.1).is_rec) g212_is_rec (cnd (fun a=>J9.jvE () trivial (by rw [a]; rfl)) fun a=>J9.jvE () trivial (by rw [a]; rfl))) fun _ _ r1=>?set)
        fun I2 o2 kvs u1 u2 h=>getF ((L.mono h.1).body) g212_body (H.freeze .head (ih hsn hdi (rB.mono (h.1.trans Sub.one)) ?env hx fun v2 I3 s3 hdat=>retI (q _ _ (s1.trans (h.1.trans (Sub.one.trans s3))) hdat)))
      case set=>
        exact dSet h.2.1 (fun o'=>.tail .head) (hps h.2.2.2 (Nat.le_of_lt hi) (Nat.le_refl _)) fun o3 hd3=>V9.tnext (_,o3,_,_,_) ⟨h.1.trans Sub.one,hd3,h.2.2.1.next Sub.one hz hbt ⟨r1,0,rfl,.head _⟩ (hrep.mono (h.1.trans Sub.one)) (hD.mono (h.1.trans Sub.one)) (hent.mono (h.1.trans Sub.one)) hel,Nat.le_trans (stored_length_le _ _ _) (Nat.succ_le_succ h.2.2.2)⟩ Le.refl
      case env=>exact (h.2.2.1.mono Sub.one).whole hbl.1 (hbl.1.trans (hbl.2.symm.trans hkl.symm)) hxne ⟨na,o2,rfl,.head _,h.2.1⟩ h.2.2.2 (hent.mono (h.1.trans Sub.one))
    case lam=>
      have hek:=Nat.le_trans hel hez
      refine fun t1=>itemH (i:=0) (.inr (.tail _ (.tail _ (s2 _ hlm)))) (by decide) rfl (dSet hnd (fun o'=>.head) (Nat.le_trans hek (by decide)) fun no2 hd2 tS=>getF ((hbd.mono s2).mono Sub.one.cons) g176_body (H.freeze .head (ih hsn hdi ?rep ?env hx fun v2 I3 s3 hdat r2=>retI (q _ _ (s1.trans (s2.trans (Sub.one.cons.cons.trans (s3.trans Sub.one)))) (er ▸ dat2 (.head _) datS (hdat.mono Sub.one))))))
      case rep=>exact (rB.mono s2).mono Sub.one.cons.cons
      case env=>exact EnvI.one (.head _) hd2 ⟨r1,0,rfl,.tail _ (.tail _ (.head _))⟩ (.var (hhv.mono Sub.one.cons.cons)) ⟨ed,eo,rfl,.tail _ (.head _),hed⟩ (fun _=>rfl) (Nat.le_refl _) (hent.mono (s2.trans Sub.one.cons.cons)) hel
    case app=>
      have hpk:=Nat.le_trans pel hpz
      refine fun t1=>itemH (i:=0) (.inr (s2 _ hlm)) (by decide) rfl fun r1=>lam_e rL fun l2 ln2 tp bb hpar hlm2 hbd rLb=>getF (hpar.mono Sub.one) g176_params fun t2=>itemH (i:=0) (.inr (.tail _ hlm2)) (by decide) rfl (dSet hind (fun o'=>.head) (Nat.le_trans hpk (by decide)) fun no2 hd2=>getF (hbd.mono Sub.one) g176_body (H.freeze .head (ih hsn hdi (rLb.mono Sub.one.cons) ?env2 hx fun v2 I3 s3 hdat=>
        retL (Le.drop .head Le.refl) (q _ _ (s1.trans (s2.trans (Sub.one.cons.trans s3))) hdat))))
      case env2=>exact EnvI.one (.head _) hd2 ⟨r1,0,rfl,.tail _ (.head _)⟩ (rA.mono (s2.trans Sub.one.cons)) (hD.mono (s2.trans Sub.one.cons)) (hent.mono (s2.trans Sub.one.cons)) hel (pent.mono Sub.one.cons) pel
end
end
section
section
variable {s:Shared}
mutual
noncomputable def dh:Dt→Nat
  | .str _=>0
  | .int _=>0
  | .tup l=>1 + dhs l
noncomputable def dhs:List Dt→Nat
  | []=>0
  | d :: l=>max (dh d) (dhs l)
end
theorem dhs_le {k:Nat}:∀ {l:List Dt},(∀ d ∈ l,dh d ≤ k)→dhs l ≤ k
  | [],_=>by unfold dhs; lia
  | d :: l,h=>by
    unfold dhs
    exact Nat.max_le.mpr ⟨h d (.head _),dhs_le fun d hd=>h d (.tail _ hd)⟩
theorem mapM_mem {α β:Type} {f:α→Option β} {ks:List α} {ds:List β} (h:ks.mapM f = some ds):∀ d ∈ ds,∃ k ∈ ks,f k = some d:=by
  obtain ⟨hl,ha⟩:=mapM_all h
  intro d hd
  obtain ⟨i,hi,rfl⟩:=List.mem_iff_getElem.mp hd
  have hk:ks[i]? = some ks[i]:=List.getElem?_eq_getElem (by lia)
  obtain ⟨d',h1,h2⟩:=ha i _ hk
  rw [List.getElem?_eq_getElem hi] at h1
  cases h1
  exact ⟨_,List.getElem_mem _,h2⟩
theorem dh_tup1 {s:Str} {l:List Dt} {f:Nat} (h:dhs l ≤ f):dh (.tup (.str s :: l)) ≤ f + 1:=by
  rw [dh,dhs,dh,Nat.zero_max,Nat.add_comm]
  exact Nat.succ_le_succ h
theorem dhs0:dhs [] = 0:=by rw [dhs]
theorem dhs1 {d:Dt}:dhs [d] = dh d:=by rw [dhs,dhs0,Nat.max_zero]
theorem seenG_dh {g:Tr→En→Nat→Option Dt} {f:Nat} (ih:∀ {t E d r},g t E d = some r→dh r ≤ f) {E:En} {d:Nat} {hd:Hd} {ks:List Tr} {r:Dt} (h:seenG g E d hd ks = some r):dh r ≤ f + 1:=by
  have all:∀ {E d l s},ks.mapM (fun t=>g t E d) = some l→dh (.tup (.str s :: l)) ≤ f + 1:=fun hm=>dh_tup1 (dhs_le fun d hd=>let ⟨_,_,hk⟩:=mapM_mem hm d hd; ih hk)
  have z:∀ {n:Int},dhs [.int n] ≤ f:=fun {n}=>by rw [dhs1,dh]; exact Nat.zero_le _
  have z2:∀ {s:Str},dhs [.str s] ≤ f:=fun {s}=>by rw [dhs1,dh]; exact Nat.zero_le _
  cases hd with
  | var x=>exact Option.some.inj h ▸ dh_tup1 z2
  | lit k n=>exact Option.some.inj h ▸ dh_tup1 z
  | con k=>cases d with
    | zero=>exact Option.some.inj h ▸ dh_tup1 (by rw [dhs0]; exact Nat.zero_le _)
    | succ d=>
      obtain ⟨l,h1,rfl⟩:=omap_e (sm_e h).2
      exact all h1
  | lett xs r0=>
    have h:=(sm_e h).2
    cases xs with
    | nil=>exact none_e h
    | cons _ _=>
      obtain ⟨b,_,h⟩:=obind_e h
      exact Nat.le_succ_of_le (ih h)
  | lam p=>
    obtain ⟨b,_,h⟩:=obind_e h
    obtain ⟨r',h1,rfl⟩:=omap_e h
    exact dh_tup1 (by rw [dhs1]; exact ih h1)
  | app=>
    obtain ⟨_,_,h⟩:=obind_e h
    obtain ⟨_,_,h⟩:=obind_e h
    obtain ⟨_,_,h⟩:=obind_e h
    exact Nat.le_succ_of_le (ih (sm_e h).2)
  | prim k=>
    obtain ⟨l,h1,rfl⟩:=omap_e (sm_e h).2
    exact all h1
theorem seenG_tup {g:Tr→En→Nat→Option Dt} (ih:∀ {t E d r},g t E d = some r→∃ l,r = .tup l) {E:En} {d:Nat} {hd:Hd} {ks:List Tr} {r:Dt} (h:seenG g E d hd ks = some r):∃ l,r = .tup l:=by
  cases hd with
  | var x=>exact ⟨_,(Option.some.inj h).symm⟩
  | lit k n=>exact ⟨_,(Option.some.inj h).symm⟩
  | con k=>cases d with
    | zero=>exact ⟨_,(Option.some.inj h).symm⟩
    | succ d=>exact let ⟨_,_,h⟩:=omap_e (sm_e h).2; ⟨_,h.symm⟩
  | lett xs r0=>
    have h:=(sm_e h).2
    cases xs with
    | nil=>exact none_e h
    | cons _ _=>exact let ⟨_,_,h⟩:=obind_e h; ih h
  | lam p=>exact let ⟨_,_,h⟩:=obind_e h; let ⟨_,_,h⟩:=omap_e h; ⟨_,h.symm⟩
  | app=>exact let ⟨_,_,h⟩:=obind_e h; let ⟨_,_,h⟩:=obind_e h; let ⟨_,_,h⟩:=obind_e h; ih (sm_e h).2
  | prim k=>exact let ⟨_,_,h⟩:=omap_e (sm_e h).2; ⟨_,h.symm⟩
theorem seenF_dh:∀ {f:Nat} {t:Tr} {E:En} {d:Nat} {r:Dt},seenF f t E d = some r→dh r ≤ f:=by
  intro f
  induction f with
  | zero=>intro t E d r h; cases h
  | succ f ih=>
    intro t E d r h
    obtain ⟨p,_,h⟩:=obind_e (show (foundF 60 t E).bind (fun p=>sm (esize p.2) (seenG (seenF f) p.2 d (hdOf p.1) (ksOf p.1))) = some r from h)
    exact seenG_dh ih (sm_e h).2
theorem DatIs.at {I:Led}:∀ {ds:List Dt} {vs:List Value},DatIs I ds vs→∀ {i:Nat} {v:Value},vs[i]? = some v→∃ d,ds[i]? = some d∧DatI I d v
  | [],[],_,i,v,q=>by simp at q
  | d :: _,_ :: _,h,i,v,q=>by
    unfold DatIs at h
    cases i with
    | zero=>simp at q; subst q; exact ⟨d,rfl,h.1⟩
    | succ i=>simp at q; simpa using DatIs.at h.2 q
  | [],_ :: _,h,_,_,_=>by unfold DatIs at h; exact h.elim
  | _ :: _,[],h,_,_,_=>by unfold DatIs at h; exact h.elim
theorem dh_mem {d:Dt}:∀ {l:List Dt},d ∈ l→dh d ≤ dhs l
  | e :: l,h=>by
    unfold dhs
    rcases List.mem_cons.mp h with rfl | h
    · exact Nat.le_max_left _ _
    · exact Nat.le_trans (dh_mem h) (Nat.le_max_right _ _)
theorem DatI.eqAt {I:Led} (hI:∀ p ∈ I,s.heap.get? p.1 = some p.2):∀ (k:Nat) {A:Around} {d:Dt} {v w:Value},dh d ≤ k→A.units + k < cLine→DatI I d v→DatI I d w→SeqAt.EqAt A s v w true:=by
  intro k
  induction k with
  | zero=>
    intro A d v w hd hu h1 h2
    cases d with
    | str x=>unfold DatI at h1 h2; obtain ⟨t,rfl⟩:=h1; obtain ⟨u,rfl⟩:=h2; simpa using e_str (A:=A) (s:=s) (x:=x) (y:=x) (t:=t) (u:=u)
    | int x=>unfold DatI at h1 h2; obtain ⟨t,rfl⟩:=h1; obtain ⟨u,rfl⟩:=h2; simpa using e_int (A:=A) (s:=s) (a:=x) (b:=x) (t:=t) (u:=u)
    | tup l=>unfold dh at hd; lia
  | succ k ih=>
    intro A d v w hd hu h1 h2
    cases d with
    | str x=>unfold DatI at h1 h2; obtain ⟨t,rfl⟩:=h1; obtain ⟨u,rfl⟩:=h2; simpa using e_str (A:=A) (s:=s) (x:=x) (y:=x) (t:=t) (u:=u)
    | int x=>unfold DatI at h1 h2; obtain ⟨t,rfl⟩:=h1; obtain ⟨u,rfl⟩:=h2; simpa using e_int (A:=A) (s:=s) (a:=x) (b:=x) (t:=t) (u:=u)
    | tup l=>
      unfold DatI at h1 h2
      obtain ⟨xs,⟨a,n,rfl,ha⟩,h1⟩:=h1
      obtain ⟨ys,⟨b,m,rfl,hb⟩,h2⟩:=h2
      refine e_tup (hI _ ha) (hI _ hb) (by rw [← h1.len,← h2.len]) (by lia) fun j x y q1 q2=>?_
      obtain ⟨dx,e1,e2⟩:=h1.at q1
      obtain ⟨dy,e3,e4⟩:=h2.at q2
      rw [e1] at e3; cases e3
      refine ih ?_ ?_ e2 e4
      · unfold dh at hd
        have:=dh_mem (List.mem_of_getElem? e1)
        lia
      · show A.units + 1 + k < cLine
        lia
theorem seenF_tup:∀ {f:Nat} {t:Tr} {E:En} {d:Nat} {r:Dt},seenF f t E d = some r→∃ l,r = .tup l:=by
  intro f
  induction f with
  | zero=>intro t E d r h; cases h
  | succ f ih=>
    intro t E d r h
    obtain ⟨p,_,h⟩:=obind_e (show (foundF 60 t E).bind (fun p=>sm (esize p.2) (seenG (seenF f) p.2 d (hdOf p.1) (ksOf p.1))) = some r from h)
    exact seenG_tup ih (sm_e h).2
end
section
variable {e:E0} {x:Ctx e} {vs:List (Option Value)} {M I:Led} {k:Value→Sta→Prop} {st:Sta}
theorem eqDat {l:List Dt} {v w:Value} (h1:DatI I (.tup l) v) (h2:DatI I (.tup l) w) (hd:dh (.tup l) ≤ 60) (hr:60 ≤ x.c.room) (q:k (.bool true) ⟨vs,M,I⟩):cmpB x .Eq v w ⟨vs,M,I⟩ k:=by
  have hun:=x.ok.uni
  unfold DatI at h1 h2
  obtain ⟨xs,⟨a,n1,rfl,ha⟩,hx⟩:=h1
  obtain ⟨ys,⟨b,n2,rfl,hb⟩,hy⟩:=h2
  show H x (compareOp .Eq (.ref a) (.ref b)) ⟨vs,M,I⟩ k
  refine ⟨fun s hs=>c_eq_tup (St.hasI hs ha) (St.hasI hs hb) (by rw [← hx.len,← hy.len]) (by lia) (fun j x y q1 q2=>?_) (upM hs q)⟩
  obtain ⟨dx,e1,e2⟩:=hx.at q1
  obtain ⟨dy,e3,e4⟩:=hy.at q2
  rw [e1] at e3; cases e3
  unfold dh at hd
  have:=dh_mem (List.mem_of_getElem? e1)
  exact DatI.eqAt (fun p hp=>St.hasI hs hp) 60 (by lia) (by show _ + 1 + 60 < cLine; lia) e2 e4
theorem sameH {t t':Tr} {v v':Value} {n:Nat} (r:Rep I t v) (r':Rep I t' v') (h:Same n t .nil t' .nil 3) (hn:n ≤ 60) (hr:70 ≤ x.c.room) (q:∀ I',Sub I I'→k (.bool true) ⟨vs,M,I'⟩):H x (call (.ref 578) [v,v']) ⟨vs,M,I⟩ k:=by
  obtain ⟨d,h1,h2⟩:=h
  have h1:=sn_seen h1 hn
  have h2:=sn_seen h2 hn
  obtain ⟨l,rfl⟩:=seenF_tup h1
  have hdh:=Nat.le_trans (seenF_dh h1) hn
  refine fr578.run rfl hr fun x' hx d1 o1 hd1 t1=>H.freeze .head (seenH n h1 rfl (r.mono Sub.one) (.nil ⟨d1,o1,rfl,.head _,hd1⟩) (Nat.le_trans (Nat.add_le_add_right hn 6) (Nat.le_trans (by decide) hx)) fun w1 I1 s1 a1 d2 o2 hd2 t2=>H.freeze .head (seenH n h2 rfl ?r2 (.nil ⟨d2,o2,rfl,.head _,hd2⟩) (Nat.le_trans (Nat.add_le_add_right hn 6) (Nat.le_trans (by decide) hx)) fun w2 I2 s2 a2=>
    eqDat (a1.mono (Sub.one.trans s2)) a2 hdh (rm hx rfl) (retI (q _ (Sub.one.trans (s1.trans (Sub.one.trans s2)))))))
  case r2=>exact r'.mono (Sub.one.trans (s1.trans Sub.one))
end
end
section
section
variable {e:E0} {x:Ctx e} {vs:List (Option Value)} {M I:Led} {k:Value→Sta→Prop} {st:Sta}
theorem neH0 {l a:Addr} {xs:List Value} {m:Nat} (hl:e.H0.IsList l xs.toArray) (q:k (.bool (!xs.isEmpty)) ⟨vs,M,I⟩):H x (compareOp .NotEq (.ref l) (.ref a)) ⟨vs,(a,listO [] m) :: M,I⟩ k:=
  ⟨fun s hs=>by
    have ha:s.heap.get? a = some (listO [] m):=St.has hs (.head _)
    have q:=upM (St.drop hs .head) q
    have hun:=unitsL x
    obtain ⟨o,h1,h2⟩:=hl
    have hL:s.heap.IsList l xs.toArray:=⟨o,St.keep hs l o h1,h2⟩
    cases xs with
    | nil=>exact SeqAt.RcNeAt.lists (A:=x.c.A) (e:=fun _=>true) hL (isL ha) rfl hun (fun j h1 h2=>absurd h2 (by simp)) e.prog e.w _ _ q
    | cons y ys=>exact SeqAt.RcNeAt.lists_lengths (A:=x.c.A) hL (isL ha) (by simp) hun e.prog e.w _ _ q⟩
theorem itemH0 {l:Addr} {xs:List Value} {i:Nat} {u:Tok} {y:Value} (hl:e.H0.IsList l xs.toArray) (hi:i < 2 ^ 60) (hx:xs[i]? = some y) (q:k y ⟨vs,M,I⟩):HSub x (.ref l) (.int i u) ⟨vs,M,I⟩ k:=
  ⟨fun _ slice hsl=>⟨fun s hs=>by
    obtain ⟨o,h1,h2⟩:=hl
    have hL:s.heap.IsList l xs.toArray:=⟨o,St.keep hs l o h1,h2⟩
    exact tail_any hL.typeIs slot_list_getitem.lookup (wpAny_getItem_list hL (i63 hi).1 (i63 hi).2 (by simpa using hx) (upM hs q)) hsl⟩⟩
theorem powH {a n:Int} {t u:Tok} (hn:0 ≤ n) (hz:(Builtin.Int.intBits a:Int) * n ≤ 2 ^ 27) (q:∀ t,k (.int (a ^ n.toNat) t) st):H x (binaryOp .Pow (.int a t) (.int n u)) st k:=⟨fun _ hs=>i_pow hs hn hz fun t _ hs'=>⟨st,hs',q t⟩⟩
theorem mulL {a b:Int} {t u:Tok} (hb:Nat.ble (Builtin.Int.intBits a) 64 = true) (q:∀ t,k (.int (a * b) t) st):H x (binaryOp .Mult (.int a t) (.int b u)) st k:=⟨fun _ hs=>i_mul hs (mulok_l (Nat.le_of_ble_eq_true hb)) fun t _ hs'=>⟨st,hs',q t⟩⟩
theorem intBH {b:Bool} (q:∀ t,k (.int (if b then 1 else 0) t) st):H x (call (.type "int") [.bool b]) st k:=⟨fun _ hs=>int_of_bool hs fun t _ hs'=>⟨st,hs',q t⟩⟩
theorem ints_e {P:Prop} {xs:List Value} {zs:List Int} (hz:IntsAre xs zs) (h1:xs.isEmpty = true→P) (h2:∀ n t,xs.isEmpty = false→xs[0]? = some (.int n t)→P):P:=by
  cases hz with
  | nil=>exact h1 rfl
  | cons n t h=>exact h2 n t rfl rfl
theorem handH {l:Addr} {xs:List Value} {zs:List Int} (hl:e.H0.IsList l xs.toArray) (hz:IntsAre xs zs) (hr:2 ≤ x.c.room) (q:∀ a o,HandO o→k (.ref a) ⟨vs,(a,o) :: M,I⟩):H x (call (.ref 547) [.ref l]) ⟨vs,M,I⟩ k:=
  fr547.run rfl hr fun x' _=>joinV (fun p:Int × Tok=>.int p.1 p.2) (fun _=>⟨[some (.ref l),none,none],M,I⟩) (fun _=>True)
    (fun _ J9 a=>neH0 hl (ints_e hz (fun h1=>cndF (by rw [h1]; rfl) fun t=>J9.jv (0,t) trivial) fun n t h1 h2=>cndT (by rw [h1]; rfl) fun t1=>itemH0 (i:=0) hl (by decide) h2 (J9.jv (n,t) trivial))) fun p _=>
    joinV (fun p:Int × Tok=>.int p.1 p.2) (fun _=>⟨[some (.ref l),some (.int p.1 p.2),none],M,I⟩) (fun _=>True) (fun _ J9 t1=>cnd (fun h1=>J9.jv (p.1,p.2) trivial) fun h1 t2=>negH fun t3 t4=>J9.jv (_,t4) trivial) fun p2 _=>
    joinV (fun p:Int × Tok=>.int p.1 p.2) (fun _=>⟨[some (.ref l),some (.int p.1 p.2),some (.int p2.1 p2.2)],M,I⟩) (fun _=>True) (fun _ J9 t1 t2=>powH (by decide) (by decide +kernel) fun t3=>cnd (fun h1=>J9.jv (p2.1,p2.2) trivial) fun h1 t4=>J9.jv (0,t4) trivial) fun p3 _=>
    fun t1=>mulL (by decide +kernel) fun t2 t3=>intBH fun t4 t5 t6=>modH (by decide) fun t7 t8 t9 a=>retI (q a _ .mk)
end
noncomputable def S500 (v:Value) (na:Addr) (Mf:Obj→Led) (I:Led) (_:Nat):Obj × List (Str × Value) × Option Value→Sta
  | (o,_,u)=>⟨[some v,some (.ref na),u],Mf o,I⟩
def F500 (e:E0) (av:Addr) (xs:List Str) (i:Nat):Obj × List (Str × Value) × Option Value→Prop
  | (o,kvs,_)=>DO e av o kvs∧kvs.length ≤ i∧∀ y,y ∉ xs→valueAt kvs y = none
section
variable {e:E0} {x:Ctx e} {vs:List (Option Value)} {M I:Led} {k:Value→Sta→Prop}
theorem avoidH {v:Value} {av:Addr} {o:Obj} {u:Value} {Mf:Obj→Led} {nl:Value} {ys:List Value} {xs:List Str} (hi:Ins I v 510 [("avoided",.ref av),("numbers",u)])
    (ho:DO e av o []) (hM0:M = Mf o) (hp2:∀ o1 o2,Put av o1 o2 (Mf o1) (Mf o2)) (hnl:LisI I nl ys) (hyx:StrsAre ys xs) (hx:xs.length ≤ 100) (hr:1 ≤ x.c.room)
    (q:∀ o' kvs,DO e av o' kvs→(∀ y,y ∉ xs→valueAt kvs y = none)→k .none ⟨vs,Mf o',I⟩):H x (call (.ref 500) [v,nl]) ⟨vs,M,I⟩ k:=by
  obtain ⟨na,nn,rfl,hnm⟩:=hnl
  cases hM0
  have hyl:=strs_len hyx
  refine fr500.run rfl hr fun x' _=>forH3 (S500 v na Mf I) (F500 e av xs) (o,[],none) (itList (.inr hnm)) rfl ⟨ho,Nat.le_refl _,fun _ _=>rfl⟩ (fun _ _ _ _ _=>srcL (.inr hnm))
    (fun i y o kvs u it io hi' hX h _ V9=>strs_e hyx hX fun z tz ez hz hzm=>?_) fun o' kvs u h=>retN Le.refl (q o' kvs h.1 h.2.2)
  cases ez
  refine getH hi g510_avoided rfl trivial (dSet h.1 (fun o'=>.tail (hp2 o o')) (Nat.le_trans h.2.1 (Nat.le_trans (Nat.le_of_lt (hyl ▸ hi')) (Nat.le_trans hx (by decide)))) fun o3 hd3=>V9.tnext (o3,stored kvs z (.bool true),some (.str z tz)) ⟨hd3,Nat.le_trans (stored_length_le _ _ _) (Nat.succ_le_succ h.2.1),fun y hy=>?_⟩ Le.refl)
  rw [valueAt_stored,if_neg (fun q=>hy (by rw [q]; exact hzm))]
  exact h.2.2 y hy
theorem freshH {nl:Value} {ys:List Value} {xs:List Str} (hnl:LisI I nl ys) (hyx:StrsAre ys xs) (hx:xs.length ≤ 100) (hx1:∀ x ∈ xs,x.length ≤ 1) (hr:3 ≤ x.c.room)
    (q:∀ fa nb o I',Sub I I'→FreshI e I' (.ref fa) nb→NumsO e nb o 0→k (.ref fa) ⟨vs,(nb,o) :: M,I'⟩):H x (call (.ref 510) [nl]) ⟨vs,M,I⟩ k:=
  mkR (mkAt 9 rfl) fr493 rfl (n:=1) hr fun x' y dx hx' d1 o1 hd1=>setH (.tail _ (.head _)) (fun _=>.tail (.tail .head)) .nil (sAt 18 rfl) (Nat.le_of_ble_eq_true rfl) fun _ _ f0 d2 o2 hd2=>setH (.tail _ (.tail _ (.head _))) (fun _=>.tail (.tail (.tail .head))) f0 (sAt 19 rfl) (Nat.le_of_ble_eq_true rfl) fun _ _ f1=>
    HM.freeze (.tail (.tail .head)) (HM.freeze (.tail (.tail .head)) (methH ⟨y,dx,_,_,rfl,.tail _ (.head _),.head _,f1⟩ m510_avoid rfl rfl (avoidH ⟨y,dx,_,_,rfl,.tail _ (.head _),.head _,f1⟩ hd1 (Mf:=fun o=>(d2,o2) :: (d1,o) :: M) rfl (fun _ _=>.tail .head) (LisI.mono hnl Sub.one.cons) hyx hx hx' fun o' kvs hd hkv=>
      retN (Le.freeze (.tail .head) Le.refl) ⟨rfl,q y d2 o2 _ (Sub.one.cons.trans Sub.one) ⟨d1,kvs,⟨y,dx,_,_,rfl,.tail _ (.tail _ (.head _)),.tail _ (.head _),f1⟩,⟨d1,o',rfl,.head _,hd⟩,fun z hz=>hkv z fun w=>absurd (Nat.le_trans hz (hx1 z w)) (by decide)⟩ ⟨[],hd2,Nat.le_refl _,fun _ _ w=>nomatch w⟩⟩)))
end
end
section
inductive NestI (I:Led) (b:Addr):Value→List Str→List Value→Prop
  | nil:NestI I b (.ref b) [] []
  | cons {v v' l p n m x t xv xs bs}:Ins I (.ref v) 212 [("binds",.ref l),("body",v'),("is_rec",.bool false)]→(l,listO [.ref p] n) ∈ I→(p,tupO [.str x t,xv] m) ∈ I→NestI I b v' xs bs→NestI I b (.ref v) (x :: xs) (xv :: bs)
theorem NestI.mono {I I' b v xs bs} (h:NestI I b v xs bs) (k:Sub I I'):NestI I' b v xs bs:=by
  induction h with
  | nil=>exact .nil
  | cons h1 h2 h3 _ ih=>exact .cons (h1.mono k) (k _ h2) (k _ h3) ih
theorem NestI.ref {I:Led} {b:Addr} {v:Value} {xs:List Str} {bs:List Value} (h:NestI I b v xs bs):∃ a,v = .ref a:=by
  cases h with
  | nil=>exact ⟨_,rfl⟩
  | cons=>exact ⟨_,rfl⟩
noncomputable def nestT:List Str→List Tr→Tr→Tr
  | x :: xs,t :: ts,b=>.node (.lett [x] false) [t,nestT xs ts b]
  | _,_,b=>b
theorem NestI.rep {I b v xs bs kb} (h:NestI I b v xs bs) (hb:Rep I kb (.ref b)):∀ {ts:List Tr},Reps I ts bs→Rep I (nestT xs ts kb) v:=by
  induction h with
  | nil=>
    intro ts hr
    cases ts with
    | nil=>exact hb
    | cons _ _=>exact hr.elim
  | @cons v v' l p n m x t xv xs bs h1 h2 h3 h4 ih=>
    intro ts hr
    obtain ⟨a,rfl⟩:=h4.ref
    cases ts with
    | nil=>exact hr.elim
    | cons k ts=>
      exact ⟨[xv,.ref a],⟨l,[.ref p],[xv],a,rfl,h1,⟨l,n,rfl,h2⟩,.cons ⟨p,m,rfl,h3⟩ .nil⟩,hr.1,ih hr.2,True.intro⟩
def Clash (xs:List Str) (ts:List Tr):Prop:=∃ (i:Nat) (t:Tr) (y:Str),1 ≤ i∧ts[i]? = some t∧y ∈ fvOf t∧y ∈ xs.take i
theorem pick_take {xs:List Value} {n:Nat} (h:n ≤ xs.length):kms_pick xs none (some (n:Int)) = xs.take n:=by
  have:¬ ((n:Int) < 0):=by lia
  simp [kms_pick,kms_lo,kms_hi,this,Nat.min_eq_left h]
theorem pick_drop {xs:List Value} {n:Nat} (h:n ≤ xs.length):kms_pick xs (some (n:Int)) none = xs.drop n:=by
  have:¬ ((n:Int) < 0):=by lia
  simp [kms_pick,kms_lo,kms_hi,this,Nat.min_eq_left h]
  exact List.take_of_length_le (by simp)
theorem strs_take {vs:List Value} {ss:List Str} (h:StrsAre vs ss) (n:Nat):StrsAre (vs.take n) (ss.take n):=by
  induction h generalizing n with
  | nil=>rw [List.take_nil,List.take_nil]; exact .nil
  | cons x t _ ih=>
    cases n with
    | zero=>exact .nil
    | succ n=>exact .cons x t (ih n)
theorem strs_next {ys:List Value} {xs:List Str} {z:Str} {t:Tok} {i:Nat} (h:StrsAre ys (xs.take i)) (hx:xs[i]? = some z):StrsAre (ys ++ [.str z t]) (xs.take (i + 1)):=by rw [take_next hx]; exact strs_snoc h
theorem bind_e {I:Led} {P:Prop} {ps bs:List Value} {xs:List Str} {j:Nat} (h:Binds I ps xs bs) (hj:j < ps.length) (q:∀ pa pn z tz w,ps[j]? = some (.ref pa)→(pa,tupO [.str z tz,w] pn) ∈ I→xs[j]? = some z→bs[j]? = some w→P):P:=by
  have hp:ps[j]? = some ps[j]:=List.getElem?_eq_getElem hj
  obtain ⟨z,t,v,h1,h2,pa,pn,e,hm⟩:=h.at hp
  exact q pa pn z t v (hp.trans (congrArg some e)) hm h1 h2
section
variable {A C:Type}
theorem trav_grow {eff:Hd→C→A→A} {ctx:Hd→C→Nat→List C} {m:A→Nat} (hm:∀ h b a,m (eff h b a) ≤ m a + 1):∀ t b a,m (trav eff ctx t b a) ≤ m a + tsize t:=by
  intro t
  induction t using Tr.ind with
  | h hd ks ih=>
    intro b a
    have key:∀ (ks:List Tr) (bs:List C) (a:A),(∀ k ∈ ks,∀ b a,m (trav eff ctx k b a) ≤ m a + tsize k)→m (travs eff ctx ks bs a) ≤ m a + tsizes ks:=by
      intro ks
      induction ks with
      | nil=>intro bs a _; unfold travs; simp
      | cons k ks ih2=>
        intro bs a h
        cases bs with
        | nil=>unfold travs; lia
        | cons b bs=>
          unfold travs tsizes
          have h1:=h k (.head _) b (travs eff ctx ks bs a)
          have h2:=ih2 bs a fun k' hk=>h k' (.tail _ hk)
          lia
    unfold trav tsize
    have h1:=key ks (ctx hd b ks.length) (eff hd b a) ih
    have h2:=hm hd b a
    lia
end
theorem fv_len {t:Tr} {ss:List Str} (h:ss.Perm (fvOf t)) (hz:tsize t ≤ 60):ss.length ≤ 60:=by
  have h1:=trav_grow (ctx:=ctxF) effF_len t (fun _=>false,0) []
  have h3:([]:List (Str × Value)).length = 0:=rfl
  rw [h.length_eq]
  unfold fvOf
  rw [List.length_map]
  lia
theorem clash_yes {xs:List Str} {ts:List Tr} {tk:Tr} {ss:List Str} {j n:Nat} (hb:(((ss.take n).map fun y=>decide (y ∈ xs.take j)).any id) = true) (hn:n = ss.length) (hp:ss.Perm (fvOf tk)) (hj:1 ≤ j) (hk:ts[j]? = some tk):Clash xs ts:=by
  rw [hn,List.take_length,List.any_map,List.any_eq_true] at hb
  obtain ⟨y,hy1,hy2⟩:=hb
  exact ⟨j,tk,y,hj,hk,hp.mem_iff.mp hy1,of_decide_eq_true hy2⟩
def NoC (xs:List Str) (ts:List Tr) (i:Nat):Prop:=∀ (j:Nat) (t:Tr) (y:Str),1 ≤ j→j < 1 + i→ts[j]? = some t→y ∈ fvOf t→y ∉ xs.take j
theorem NoC.next {xs:List Str} {ts:List Tr} {tk:Tr} {ss:List Str} {i n:Nat} (h:NoC xs ts i) (hb:(((ss.take n).map fun y=>decide (y ∈ xs.take (1 + i))).any id) = false) (hn:n = ss.length) (hp:ss.Perm (fvOf tk)) (hk:ts[1 + i]? = some tk):NoC xs ts (i + 1):=fun j t y h1 h2 h3 h4 h5=>by
  by_cases hj:j = 1 + i
  · subst hj
    rw [hk] at h3; cases h3
    rw [hn,List.take_length,List.any_map,List.any_eq_false] at hb
    exact hb y (hp.mem_iff.mpr h4) (decide_eq_true h5)
  · exact h j t y h1 (by lia) h3 h4 h5
theorem NoC.fin {xs:List Str} {ts:List Tr} {n:Nat} (h:NoC xs ts n) (hn:ts.length ≤ 1 + n):¬ Clash xs ts:=by
  rintro ⟨j,t,y,h1,h2,h3,h4⟩
  have:=(List.getElem?_eq_some_iff.mp h2).1
  exact h j t y h1 (by lia) h2 h3 h4
theorem NestI.next {I I':Led} {b a l p:Addr} {n m k i:Nat} {x:Str} {t:Tok} {xv bv:Value} {xs:List Str} {bs:List Value} (h:NestI I b bv (xs.drop (k - i)) (bs.drop (k - i))) (s:Sub I I') (hi:i < k) (hx:xs[k - 1 - i]? = some x) (hb:bs[k - 1 - i]? = some xv)
    (h1:Ins I' (.ref a) 212 [("binds",.ref l),("body",bv),("is_rec",.bool false)]) (h2:(l,listO [.ref p] n) ∈ I') (h3:(p,tupO [.str x t,xv] m) ∈ I'):NestI I' b (.ref a) (xs.drop (k - (i + 1))) (bs.drop (k - (i + 1))):=by
  have e1:k - (i + 1) = k - 1 - i:=by lia
  have e2:k - i = k - 1 - i + 1:=by lia
  rw [e2] at h
  rw [e1,drop_cons_of hx,drop_cons_of hb]
  exact .cons h1 h2 h3 (h.mono s)
theorem NestI.start {I:Led} {b:Addr} {xs:List Str} {bs:List Value} {n:Nat} (h1:n = xs.length) (h2:n = bs.length):NestI I b (.ref b) (xs.drop (n - 0)) (bs.drop (n - 0)):=by
  rw [Nat.sub_zero,List.drop_of_length_le (Nat.le_of_eq h1.symm),List.drop_of_length_le (Nat.le_of_eq h2.symm)]; exact .nil
theorem NestI.whole {I:Led} {b:Addr} {v:Value} {xs:List Str} {bs:List Value} {n:Nat} (h:NestI I b v (xs.drop (n - n)) (bs.drop (n - n))):NestI I b v xs bs:=by rw [Nat.sub_self] at h; exact h
theorem bools_next {ss:List Str} {f:Str→Bool} {k:Nat} {y:Str} {zs:List Value} (h:zs = ((ss.take k).map f).map Value.bool) (hy:ss[k]? = some y):zs ++ [.bool (f y)] = ((ss.take (k + 1)).map f).map Value.bool:=by
  rw [take_next hy,List.map_append,List.map_append,h]; rfl
section
variable {e:E0} {x:Ctx e} {vs:List (Option Value)} {M I:Led} {k:Value→Sta→Prop}
theorem anyH {l:Addr} {zs:List Value} {bs:List Bool} {n:Nat} (ho:Own M I l (listO zs n)) (hz:zs = bs.map Value.bool) (q:k (.bool (bs.any id)) ⟨vs,M,I⟩):H x (call (.builtin "any") [.ref l]) ⟨vs,M,I⟩ k:=
  ⟨fun s hs=>any_list x.ok hs (hz ▸ ho.at hs) fun s' hs'=>upM hs' q⟩
theorem itRange1 {r:Addr} {o:Obj} {n:Nat} (ho:RngO 1 n o) (hz:n ≤ 10000000):ItH x (.ref r) vs ((r,o) :: M) M I (RGo 1 (n - 1)) (n - 1) (fun i y=>∃ t,y = .int ((1 + i:Nat):Int) t) (fun _=>True):=by
  have h:=itRange (x:=x) (vs:=vs) (M:=M) (I:=I) (r:=r) ho ⟨by lia,by lia,by lia,by lia⟩
  have e1:((n:Int) - 1).toNat = n - 1:=Int.toNat_sub n 1
  rw [e1] at h
  have e2:(fun (i:Nat) (y:Value)=>∃ t,y = .int ((1 + i:Nat):Int) t) = fun i y=>∃ t,y = .int (1 + (i:Int)) t:=by
    funext i y
    rw [Int.natCast_add]; rfl
  rw [e2]; exact h
theorem LetV.repH {v:Value} {xs:List Str} {r:Bool} {l b:Addr} {ps bs:List Value} (L:LetV I v xs r l b ps bs):RepH I (.lett xs r) v (bs ++ [.ref b]):=
  let ⟨n,hn⟩:=L.lis
  ⟨l,ps,bs,b,rfl,L.ins,⟨l,n,rfl,hn⟩,L.bnd⟩
end
end
section
noncomputable def S439 (v:Value) (acc:Addr) (M:Led) (_:Nat):Led × Option Value→Sta
  | (I,u)=>⟨[some v,none,none,some (.ref acc),u,none],M,I⟩
def F439 (I0:Led) (xs:List Str) (ts:List Tr) (i:Nat):Led × Option Value→Prop
  | (I,_)=>Sub I0 I∧NoC xs ts i
noncomputable def S439c (M:Led) (_:Nat) (I:Led):Led × Led:=(M,I)
def F439c (I0:Led) (ss:List Str) (f:Str→Bool) (k:Nat) (zs:List Value) (I:Led):Prop:=Sub I0 I∧zs = ((ss.take k).map f).map Value.bool
noncomputable def S439r (v:Value) (acc:Addr) (u:Option Value) (M:Led) (_:Nat):Led × Option Value × Option Value × Value→Sta
  | (I,u1,u2,bv)=>⟨[some v,u1,u2,some (.ref acc),u,some bv],M,I⟩
def F439r (I0:Led) (b:Addr) (xs:List Str) (bs:List Value) (n:Nat) (i:Nat):Led × Option Value × Option Value × Value→Prop
  | (I,_,_,bv)=>Sub I0 I∧NestI I b bv (xs.drop (n - i)) (bs.drop (n - i))
section
variable {e:E0} {x:Ctx e} {vs:List (Option Value)} {M I:Led} {k:Value→Sta→Prop}
theorem partedH {v:Value} {l:Addr} {ps bs:List Value} {b:Addr} {xs:List Str} {ts:List Tr} (L:LetV I v xs false l b ps bs) (hT:Reps I ts bs) (hn:2 ≤ xs.length∧xs.length ≤ 10) (hts:∀ t ∈ ts,tsize t ≤ 60) (hr:6 ≤ x.c.room)
    (k1:Clash xs ts→∀ I',Sub I I'→k v ⟨vs,M,I'⟩) (k2:¬ Clash xs ts→∀ v' I',Sub I I'→NestI I' b v' xs bs→k v' ⟨vs,M,I'⟩):H x (call (.ref 439) [v]) ⟨vs,M,I⟩ k:=by
  obtain ⟨ln,hlm⟩:=L.lis
  have hB:=L.bnd
  have hlen:=hB.len
  have htl:=hT.len
  have hpl:ps.length ≤ 10:=hlen.1 ▸ hn.2
  have hpz:ps.length ≤ 10000000:=Nat.le_trans hpl (by decide)
  refine fr439.run rfl hr fun x' hx=>isiH L.repH rfl (getF L.is_rec g212_is_rec (getF L.binds g212_binds (lenH (.inr hlm) hpz fun t1 t2=>cndF ?two (getF L.binds g212_binds (compH (fun _ _=>(M,I)) (fun i ys (_:Unit)=>StrsAre ys (xs.take i)) () (itList (.inr hlm)) rfl .nil hpz (fun _ _ _ _=>srcL (.inr hlm))
    (fun x2 hr2 i y ys d it o m acc u hi hX h _ V9=>asgB hB hX Sub.refl fun z tz w h1 h2=>V9.ce (m:=m) () (strs_next h h1) Le.refl rfl) fun acc ys d m h t3=>H.freeze .head (getF (L.mono Sub.one).binds g212_binds (lenH (.inr (.tail _ hlm)) hpz fun t4=>rangeH2 fun rg ro hrg=>?loop)))))))
  case two=>exact decide_eq_false (Int.not_lt.mpr ((Int.ofNat_le (m:=2)).mpr (hlen.1 ▸ hn.1)))
  have hys:StrsAre ys xs:=by rw [hlen.1,List.take_length] at h; exact h
  refine forH2 (S439 v acc M) (F439 ((acc,listO ys m) :: I) xs ts) ((acc,listO ys m) :: I,none) (itRange1 hrg hpz) rfl ⟨Sub.refl,fun j t y h1 h2=>absurd h2 (Nat.not_lt.mpr h1)⟩ (fun _ _ _ _=>srcTrue)
    (fun i y I2 u it io hi hX h _ V9=>?step) fun I2 u h=>?fin
  case step=>
    obtain ⟨tj,rfl⟩:=hX
    have hs:=Sub.one.trans h.1
    have hj:1 + i < ps.length:=Nat.add_comm i 1 ▸ Nat.add_lt_of_lt_sub hi
    refine getF (L.mono hs).binds g212_binds (bind_e hB hj fun pa pn z tz w e1 hp hz hw=>rep_i hT hw fun tk htk hrep=>itemH (.inr (hs _ hlm)) (Nat.lt_trans hj (Nat.lt_of_le_of_lt hpl (by decide))) e1 fun t5=>itemTH (i:=1) (.inr (hs _ hp)) (by decide) rfl (free_namesH (hrep.mono hs) (rm hx rfl) (hts _ (List.mem_of_getElem? htk)) fun fa out ss fn I3 s3 hso hperm=>CompH.freeze .head ?cmp))
    have hss:=fv_len hperm (hts _ (List.mem_of_getElem? htk))
    have hol:=strs_len hso
    have hoz:out.length ≤ 10000000:=hol ▸ Nat.le_trans hss (by decide)
    have hyl:1 + i ≤ ys.length:=(strs_len hys).symm ▸ hlen.1 ▸ Nat.le_of_lt hj
    refine compH (S439c ((it,io) :: M)) (F439c ((fa,listO out fn) :: I3) ss fun y=>decide (y ∈ xs.take (1 + i))) _ (itList (.inr (.head _))) rfl ⟨Sub.refl,rfl⟩ hoz (fun _ _ _ h=>srcL (.inr (h.1 _ (.head _))))
      (fun x2 hr2 k y zs I4 it2 io2 m2 acc2 u2 hk hX h4 _ V9=>strs_e hso hX fun y' ty ey hy hym=>?el) fun acc2 zs I4 m2 h4=>anyH (.inl (.head _)) h4.2 (cnd (fun hb=>V9.tret (retL (Le.drop .head (Le.drop .head Le.refl)) (k1 (clash_yes hb hol hperm (Nat.le_add_right 1 i) htk) _ (hs.trans (s3.trans (Sub.one.trans h4.1))))))
        fun hb=>V9.tnext (I4,some (.int ((1 + i:Nat):Int) tj)) ⟨h.1.trans (s3.trans (Sub.one.trans h4.1)),h.2.next hb hol hperm htk⟩ (Le.drop .head Le.refl))
    case el=>
      cases ey
      exact fun r=>sliceE (.inr (.tail _ (h4.1 _ (.tail _ (s3 _ (h.1 _ (.head _))))))) (.head _) .none (.int _ _) (strs_len hys ▸ hlen.1 ▸ hpz) (pick_take hyl) fun sa=>inSH (.inl (.head _)) (strs_take hys (1 + i)) (V9.ce (S:=S439c ((it,io) :: M)) _ ⟨h4.1.trans Sub.one,bools_next h4.2 hy⟩ (Le.drop .head Le.refl) rfl)
  case fin=>
    have hs:=Sub.one.trans h.1
    have hnc:=h.2.fin (by rw [htl,hlen.2,← hlen.1]; exact Nat.sub_le_iff_le_add'.mp (Nat.le_refl _))
    refine getF (L.mono hs).body g212_body (getF (L.mono hs).binds g212_binds (revH (.inr (hs _ hlm)) fun it0 o0 ho0=>forH4 (S439r v acc u M) (F439r I2 b xs bs ps.length) (I2,none,none,.ref b) (itRev ho0) rfl ⟨Sub.refl,.start hlen.1 (hlen.1.trans hlen.2.symm)⟩ (fun _ _ _ _ _ h=>srcL (.inr (h.1 _ (hs _ hlm))))
      (fun i y I4 u1 u2 bv it io hi hX h4 _ V9=>asgB hB (revAt hi hX) (hs.trans h4.1) fun z tz w h1 h2 r1 a=>H.freeze .head (new212 (rm hx rfl) fun v2 I5 s5 hv2=>V9.tnext (I5,some (.str z tz),some w,.ref v2) ⟨h4.1.trans (Sub.one.cons.trans s5),h4.2.next (Sub.one.cons.trans s5) hi h1 h2 hv2 (s5 _ (.head _)) (s5 _ (.tail _ (.head _)))⟩ Le.refl))
      fun I4 u1 u2 bv h4=>retI (k2 hnc _ _ (hs.trans h4.1) h4.2.whole)))
end
end
section
noncomputable def headLet:Tr→Bool
  | .node h _=>clsOf h == 212
structure Flt (I:Led) (ks:List Tr) (letv:Value) (aa:Addr) (pre:List Tr) (tl:Tr) (post:List Tr) (ys:List Str) (r:Bool) (ks':List Tr) (kb:Tr) (l b:Addr) (ps bs' ws':List Value) (an:Nat):Prop where
  e:ks = pre ++ tl :: post
  pr:∀ u ∈ pre,headLet u = false
  hd:headLet tl = true
  ren:Ren noI noN tl (.node (.lett ys r) (ks' ++ [kb]))
  rf:∃ a,letv = .ref a
  lv:LetV I letv ys r l b ps bs'
  rk:Reps I ks' bs'
  ar:(aa,listO ws' an) ∈ I
  ra:Reps I (pre ++ kb :: post) ws'
theorem Reps.take {I:Led}:∀ {ks:List Tr} {ws:List Value} (n:Nat),Reps I ks ws→Reps I (ks.take n) (ws.take n)
  | [],[],n,_=>by rw [List.take_nil,List.take_nil]; exact True.intro
  | _ :: _,_ :: _,0,_=>True.intro
  | _ :: _,_ :: _,n + 1,h=>⟨h.1,Reps.take n h.2⟩
  | [],_ :: _,_,h=>h.elim
  | _ :: _,[],_,h=>h.elim
theorem Reps.drop {I:Led}:∀ {ks:List Tr} {ws:List Value} (n:Nat),Reps I ks ws→Reps I (ks.drop n) (ws.drop n)
  | [],[],n,_=>by rw [List.drop_nil,List.drop_nil]; exact True.intro
  | _ :: _,_ :: _,0,h=>h
  | _ :: _,_ :: _,n + 1,h=>Reps.drop n h.2
  | [],_ :: _,_,h=>h.elim
  | _ :: _,[],_,h=>h.elim
theorem split_at {α:Type} {l:List α} {j:Nat} {x:α} (h:l[j]? = some x):l = l.take j ++ x :: l.drop (j + 1):=by rw [← drop_cons_of h,List.take_append_drop]
theorem pick_drop1 {xs:List Value} {n:Nat} (h:n + 1 ≤ xs.length):kms_pick xs (some ((n:Int) + 1)) none = xs.drop (n + 1):=pick_drop h
theorem take_all {p:Tr→Bool} {ks:List Tr} {i:Nat} (h:∀ (j:Nat) (t:Tr),j < i→ks[j]? = some t→p t = false):∀ u ∈ ks.take i,p u = false:=fun u hu=>by
  obtain ⟨j,hj,rfl⟩:=List.mem_iff_getElem.mp hu
  rw [List.length_take] at hj
  rw [List.getElem_take]
  exact h j _ (Nat.lt_of_lt_of_le hj (Nat.min_le_left _ _)) (List.getElem?_eq_getElem (Nat.lt_of_lt_of_le hj (Nat.min_le_right _ _)))
theorem Reps.mid {I:Led} {ks:List Tr} {ws:List Value} {kb:Tr} {w:Value} {i:Nat} (h:Reps I ks ws) (hb:Rep I kb w):Reps I (ks.take i ++ kb :: ks.drop (i + 1)) (ws.take i ++ [w] ++ ws.drop (i + 1)):=by
  rw [List.append_assoc]
  exact Reps.app (h.take i) ⟨hb,h.drop (i + 1)⟩
noncomputable def S446 (l:Addr) (fv:Value) (M I:Led) (_:Nat) (u:Option Value):Sta:=⟨[some (.ref l),some fv,u,none],M,I⟩
def F446 (ks:List Tr) (i:Nat) (_:Option Value):Prop:=∀ (j:Nat) (t:Tr),j < i→ks[j]? = some t→headLet t = false
theorem F446.next {ks:List Tr} {i:Nat} {u w:Option Value} {t:Tr} (h:F446 ks i u) (hk:ks[i]? = some t) (hb:headLet t = false):F446 ks (i + 1) w:=fun j t' h1 h2=>by
  by_cases hj:j = i
  · subst hj
    rw [hk] at h2; cases h2
    exact hb
  · exact h j t' (by lia) h2
theorem F446.all {ks:List Tr} {i:Nat} {u:Option Value} (h:F446 ks i u) (hn:ks.length ≤ i):∀ t ∈ ks,headLet t = false:=fun t ht=>by
  obtain ⟨j,hj,rfl⟩:=List.mem_iff_getElem.mp ht
  exact h j _ (by lia) (List.getElem?_eq_getElem hj)
theorem ren_head {P:Prop} {I I':Led} {t t':Tr} {v v':Value} (hb:headLet t = true) (hR:Ren noI noN t t') (r:Rep I t v) (r':Rep I' t' v')
    (q:∀ ys r0 ks' kb l b ps bs,Ren noI noN t (.node (.lett ys r0) (ks' ++ [kb]))→LetV I' v' ys r0 l b ps bs→Reps I' ks' bs→Rep I' kb (.ref b)→P):P:=by
  obtain ⟨h,ks⟩:=t
  obtain ⟨xs,r0,rfl⟩:=let_of hb
  exact ren_let hR r r' fun ys ks' kb l b ps bs h1 h2 h3 h4=>q ys r0 ks' kb l b ps bs h1 h2 h3 h4
section
variable {e:E0} {x:Ctx e} {vs:List (Option Value)} {M I:Led} {k:Value→Sta→Prop} {st:Sta}
theorem isiL {t:Tr} {v:Value} (r:Rep st.I t v) (q:k (.bool (headLet t)) st):H x (call (.builtin "isinstance") [v,.ref 212]) st k:=by
  obtain ⟨h,ks⟩:=t
  exact isiR r rfl q
theorem isNoneV {v:Value} (h:∃ a,v = .ref a) (q:k (.bool false) st):cmpB x .Is v .none st k:=by
  obtain ⟨a,rfl⟩:=h
  exact isNoneR q
theorem plain_letH {y:Str} {r0:Bool} {hd0 bd:Tr} {v:Value} (r:Rep I (.node (.lett [y] r0) [hd0,bd]) v) (hz:tsize hd0 ≤ 60) (hr:6 ≤ x.c.room)
    (k1:(r0 = false∨y ∈ fvOf hd0)→∀ I',Sub I I'→k v ⟨vs,M,I'⟩)
    (k2:r0 = true→y ∉ fvOf hd0→∀ v' I',Sub I I'→Rep I' (.node (.lett [y] false) [hd0,bd]) (.ref v')→k (.ref v') ⟨vs,M,I'⟩):H x (call (.ref 470) [v]) ⟨vs,M,I⟩ k:=by
  refine let1_elim r fun l b pa pn bv tx L hpm rB rE=>fr470.run rfl hr fun x' hx=>jn (isiR r rfl (getF L.is_rec g212_is_rec (cnd (fun h1=>getF L.binds g212_binds (lenL L (Nat.le_of_ble_eq_true rfl) fun t t2=>getF L.binds g212_binds fun t3=>itemL L (i:=0) rfl (by decide) (asg2 hpm (free_namesH rB (rm hx rfl) hz fun fa out ss fn I1 s1 hso hperm=>
    ninSH (.inl (.head _)) hso (cnd (fun h2=>getF (L.mono s1).binds g212_binds (getF (L.mono s1).body g212_body (new212 (rm hx rfl) fun v2 I3 s3 hv2=>retL (Le.drop .head Le.refl) (k2 h1 ?n _ _ (s1.trans s3) ?rep)))) fun h2=>retL (Le.drop .head Le.refl) (k1 (.inr ?y) _ s1)))))) fun h1=>retI (k1 (.inl h1) _ Sub.refl))))
  case n=>exact fun q=>absurd (hperm.mem_iff.mpr q) (by simpa using h2)
  case y=>exact hperm.mem_iff.mp (by simpa using h2)
  case rep=>
    obtain ⟨n,hn⟩:=L.lis
    have hall:=s1.trans s3
    exact let1_new hv2 (hall _ hn) (hall _ hpm) (rB.mono hall) (rE.mono hall)
end
end
section
def Moved (h:Hd) (ks:List Tr):Prop:=(∃ t ∈ ks,headLet t = true)∧(clsOf h = 252∨∃ t ts,ks = t :: ts∧headLet t = true)
section
variable {e:E0} {x:Ctx e} {vs:List (Option Value)} {M I:Led} {k:Value→Sta→Prop} {st:Sta}
theorem neL0 {a b:Addr} {xs:List Value} {n m:Nat} (hr:2 ≤ x.c.room) (ha:Own st.M st.I a (listO xs n)) (hb:Own st.M st.I b (listO [] m)) (q:k (.bool (!xs.isEmpty)) st):H x (compareOp .NotEq (.ref a) (.ref b)) st k:=⟨fun _ hs=>c_ne_list0 (ha.at hs) (hb.at hs) (units_lt x hr) ⟨st,hs,q⟩⟩
theorem floatedH {fv:Value} {nb:Addr} {o:Obj} {K:Nat} {Mf:Obj→Led} {l:Addr} {ln:Nat} {ws:List Value} {ks:List Tr}
    (hlm:(l,listO ws ln) ∈ I) (hR:Reps I ks ws) (hfr:∃ fa,fv = .ref fa) (hf:FreshI e I fv nb) (hn:NumsO e nb o K)
    (hM0:M = Mf o) (hp2:∀ o1 o2,Put nb o1 o2 (Mf o1) (Mf o2)) (hG:∀ t ∈ ks,GoodT t∧tsize t ≤ 60) (hkl:ks.length ≤ 100) (hK:K ≤ 1000000) (hr:12 ≤ x.c.room)
    (k1:(∀ t ∈ ks,headLet t = false)→∀ a I',Sub I I'→TupI I' (.ref a) [.none,.ref l]→k (.ref a) ⟨vs,M,I'⟩)
    (k2:∀ a letv aa pre tl post ys r ks' kb l b ps bs' ws' an o' I',Sub I I'→TupI I' (.ref a) [letv,.ref aa]→Flt I' ks letv aa pre tl post ys r ks' kb l b ps bs' ws' an→NumsO e nb o' (K + 60000)→k (.ref a) ⟨vs,Mf o',I'⟩):H x (call (.ref 446) [.ref l,fv]) ⟨vs,M,I⟩ k:=by
  cases hM0
  have hlen:=hR.len
  have hwl:ws.length ≤ 100:=hlen ▸ hkl
  have hwz:ws.length ≤ 10000000:=Nat.le_trans hwl (by decide)
  refine fr446.run rfl hr fun x' hx=>lenH (.inr hlm) hwz fun t1=>rangeH1 fun rg ro hrg=>forH (S446 l fv (Mf o) I) (F446 ks) none (itRange0 hrg hwz) rfl (fun j t h1=>absurd h1 (Nat.not_lt_zero _)) (fun _ _ _=>srcTrue)
    (fun i y u it io hi hX h _ V9=>at_e hi fun w hw=>rep_i hR hw fun t htk hrep=>?step) fun u h a=>retI (k1 (h.all (Nat.le_of_eq hlen)) a _ Sub.one ⟨a,0,rfl,.head _⟩)
  obtain ⟨tj,rfl⟩:=hX
  have hi60:i < 2 ^ 60:=Nat.lt_trans (Nat.lt_of_lt_of_le hi hwl) (by decide)
  have hG':=hG _ (List.mem_of_getElem? htk)
  refine itemH (.inr hlm) hi60 hw (isiL hrep (cnd (fun hb=>itemH (.inr hlm) hi60 hw (renamedH (Mf:=fun o=>(it,io) :: Mf o) hrep hfr hf hn rfl (fun o1 o2=>.tail (hp2 o1 o2)) hG'.1 hG'.2 ?z1 (rm hx rfl) fun t' v' o1 I1 hRen hRep s1 hno1=>ren_head hb hRen hrep hRep fun ys r0 ks' kb l' b' ps' bs' hR' L' rK rb r1=>?fl))
    fun hb=>V9.tnext (some (.int i tj)) (h.next htk hb) Le.refl))
  case z1=>exact Nat.le_trans (Nat.add_le_add hK (Nat.mul_le_mul_left 1000 hG'.2)) (by decide)
  have hlm1:=s1 _ hlm
  have hz:∀ {n m:Nat},n ≤ ws.length→m ≤ ws.length→n + m ≤ 10000000:=fun a b=>le7 (Nat.le_trans a (Nat.le_trans hwl (by decide))) (Nat.le_trans b (Nat.le_trans hwl (by decide)))
  have htl:(ws.take i).length ≤ ws.length:=by rw [List.length_take]; exact Nat.min_le_right _ _
  have hdl:(ws.drop (i + 1)).length ≤ ws.length:=by rw [List.length_drop]; exact Nat.sub_le _ _
  refine sliceE (.inr (.tail _ hlm1)) (.head _) .none (.int _ _) hwz (pick_take (Nat.le_of_lt hi)) fun sa=>listOfH (.inl (.head _)) (Nat.le_trans htl hwz) fun sb sbn=>getF (L'.mono Sub.one).body g212_body fun c=>addLH (.inl (.tail _ (.head _))) (.inl (.head _)) (hz htl (Nat.succ_le_of_lt (Nat.lt_of_le_of_lt (Nat.zero_le _) hi))) fun sc t2 t3 r2=>
    sliceE (.inr (.tail _ (.tail _ hlm1))) (.head _) (.int _ _) .none hwz (pick_drop1 hi) fun sd=>listOfH (.inl (.head _)) (Nat.le_trans hdl hwz) fun se sen=>addLH (.inl (.tail _ (.tail _ (.head _)))) (.inl (.head _)) ?zz fun sf r3=>V9.tret (retL (Le.freeze .head (Le.drop .head (Le.drop .head (Le.drop .head (Le.drop .head (Le.drop .head (Le.drop .head (Le.drop .head Le.refl))))))))
      (k2 r3 v' sf (ks.take i) t (ks.drop (i + 1)) ys r0 ks' kb l' b' ps' bs' (ws.take i ++ [.ref b'] ++ ws.drop (i + 1)) 0 o1 _ (s1.trans ?sub) ⟨r3,0,rfl,.tail _ (.head _)⟩ ?flt (hno1.le ?z2)))
  case zz=>rw [List.length_append,List.length_take,List.length_drop,List.length_singleton]; exact Nat.le_trans (Nat.add_le_add (Nat.add_le_add_right (Nat.le_trans (Nat.min_le_right _ _) hwl) 1) (Nat.le_trans (Nat.sub_le _ _) hwl)) (by decide)
  case sub=>exact Sub.one.cons.cons.cons
  case z2=>exact Nat.add_le_add_left (Nat.le_trans (Nat.mul_le_mul_left 1000 hG'.2) (by decide)) K
  case flt=>
    have hall:Sub I1 ((sf,listO (ws.take i ++ [.ref b'] ++ ws.drop (i + 1)) 0) :: (r3,tupO [v',.ref sf] 0) :: (r2,slO (.int ((i:Int) + 1) t3) .none) :: (r1,slO .none (.int i tj)) :: I1):=Sub.one.cons.cons.cons
    exact ⟨split_at htk,take_all h,hb,hR',hRep.ref,L'.mono hall,rK.mono hall,.head _,Reps.mid (hR.mono (s1.trans hall)) (rb.mono hall)⟩
theorem Flt.con {ks:List Tr} {letv:Value} {aa:Addr} {pre:List Tr} {tl:Tr} {post:List Tr} {ys:List Str} {r0:Bool} {ks':List Tr} {kb:Tr} {l b:Addr} {ps bs' ws':List Value} {an:Nat} {h:Hd} {a3 a4:Addr} {I':Led} (F:Flt I ks letv aa pre tl post ys r0 ks' kb l b ps bs' ws' an) (hs:Sub I I')
    (h3:RepH I' h (.ref a3) ws') (h4:Ins I' (.ref a4) 212 [("binds",.ref l),("body",.ref a3),("is_rec",.bool r0)]):Rep I' (.node (.lett ys r0) (ks' ++ [.node h (pre ++ kb :: post)])) (.ref a4):=
  let ⟨n,hn⟩:=F.lv.lis
  let_new ⟨h4,⟨n,hs _ hn⟩,F.lv.bnd.mono hs⟩ (F.rk.mono hs) ⟨ws',h3,F.ra.mono hs⟩
theorem let_of_argsH {fv v:Value} {nb:Addr} {o:Obj} {K:Nat} {Mf:Obj→Led} {h:Hd} {ks:List Tr}
    (r:Rep I (.node h ks) v) (hh:(∃ k,h = .con k)∨∃ k,h = .prim k) (hne:ks ≠ []) (hfr:∃ fa,fv = .ref fa) (hf:FreshI e I fv nb) (hn:NumsO e nb o K)
    (hM0:M = Mf o) (hp2:∀ o1 o2,Put nb o1 o2 (Mf o1) (Mf o2)) (hG:∀ t ∈ ks,GoodT t∧tsize t ≤ 60) (hkl:ks.length ≤ 100) (hKK:K ≤ 1000000) (hr:15 ≤ x.c.room)
    (k1:¬ Moved h ks→∀ o' I',Sub I I'→k v ⟨vs,Mf o',I'⟩)
    (k2:Moved h ks→∀ pre tl post ys r0 ks' kb v' o' I',ks = pre ++ tl :: post→(∀ u ∈ pre,headLet u = false)→headLet tl = true→Ren noI noN tl (.node (.lett ys r0) (ks' ++ [kb]))→
      Rep I' (.node (.lett ys r0) (ks' ++ [.node h (pre ++ kb :: post)])) v'→Sub I I'→k v' ⟨vs,Mf o',I'⟩):H x (call (.ref 453) [v,fv]) ⟨vs,M,I⟩ k:=by
  cases hM0
  obtain ⟨ws,rH,rK⟩:=id r
  rcases hh with ⟨kk,rfl⟩ | ⟨kk,rfl⟩
  · obtain ⟨tk,l,hi,⟨_,ln,e0,hlm⟩⟩:=id rH
    cases e0
    refine fr453.run rfl hr fun x' hx=>isiH rH rfl (getH hi g252_args rfl trivial (floatedH hlm rK hfr hf hn rfl hp2 hG hkl hKK (rm hx rfl) (fun hno a I1 s1 ht=>asg2T ht (isNoneN (retI (k1 (fun q=>?no) o I1 s1))))
      fun a letv aa pre tl post ys r ks' kb l b ps bs' ws' an o' I1 s1 ht F hno=>asg2T ht (isNoneV F.rf (getF F.lv.binds g212_binds (getH (hi.mono s1) g252_name rfl trivial (new252 (rm hx rfl) fun a3 I3 s3 hv3=>getF (F.lv.mono s3).is_rec g212_is_rec (new212 (rm hx rfl) fun a4 I4 s4 hv4=>
        retI (k2 ⟨⟨tl,F.e ▸ List.mem_append.mpr (.inr (.head _)),F.hd⟩,.inl rfl⟩ pre tl post ys r ks' kb _ o' I4 F.e F.pr F.hd F.ren (F.con (s3.trans s4) ⟨tk,aa,hv3.mono s4,⟨aa,an,rfl,(s3.trans s4) _ F.ar⟩⟩ hv4) (s1.trans (s3.trans s4))))))))))
    obtain ⟨⟨t,ht,ht2⟩,_⟩:=q
    exact absurd ((hno t ht).symm.trans ht2) Bool.noConfusion
  · obtain ⟨tk,l,hi,⟨_,ln,e0,hlm⟩⟩:=id rH
    cases e0
    cases ks with
    | nil=>exact absurd rfl hne
    | cons t0 ts=>
    cases ws with
    | nil=>exact rK.elim
    | cons w0 ws=>
    have hdec:Moved (.prim kk) (t0 :: ts) ↔ headLet t0 = true:=by
      constructor
      · rintro ⟨_,q | ⟨t,ts',q,h2⟩⟩
        · cases q
        · cases q; exact h2
      · intro q
        exact ⟨⟨_,.head _,q⟩,.inr ⟨_,_,rfl,q⟩⟩
    exact fr453.run rfl hr fun x' hx=>isiH rH rfl (isiH rH rfl (getH hi g292_args rfl trivial fun a=>neL0 (rm hx rfl) (.inr hlm) (.inl (.head _)) (H.drop .head (getH hi g292_args rfl trivial fun t1=>itemH (i:=0) (.inr hlm) (by decide) rfl (isiL rK.1 (cnd (fun hb=>getH hi g292_args rfl trivial (floatedH hlm rK hfr hf hn rfl hp2 hG hkl hKK (rm hx rfl) (fun hno=>absurd ((hno t0 (.head _)).symm.trans hb) Bool.noConfusion)
      fun a letv aa pre tl post ys r ks' kb l b ps bs' ws' an o' I1 s1 ht F hno=>asg2T ht (getF F.lv.binds g212_binds (getH (hi.mono s1) g292_op rfl trivial (new292 (rm hx rfl) fun a3 I3 s3 hv3=>getF (F.lv.mono s3).is_rec g212_is_rec (new212 (rm hx rfl) fun a4 I4 s4 hv4=>
        retI (k2 (hdec.mpr hb) pre tl post ys r ks' kb _ o' I4 F.e F.pr F.hd F.ren (F.con (s3.trans s4) ⟨tk,aa,hv3.mono s4,⟨aa,an,rfl,(s3.trans s4) _ F.ar⟩⟩ hv4) (s1.trans (s3.trans s4)))))))))
      fun hb=>retI (k1 (fun q=>absurd ((hdec.mp q).symm.trans hb) Bool.noConfusion) o I Sub.refl)))))))
end
end
section
noncomputable def sel {α:Type} (w:Str→Bool):List Str→List α→List α
  | x :: xs,b :: bs=>if w x then b :: sel w xs bs else sel w xs bs
  | _,_=>[]
theorem sel_snoc {α:Type} {w:Str→Bool} {x:Str} {b:α}:∀ {xs:List Str} {bs:List α},xs.length = bs.length→sel w (xs ++ [x]) (bs ++ [b]) = sel w xs bs ++ if w x then [b] else []
  | [],[],_=>by simp [sel]
  | y :: xs,d :: bs,h=>by
    have ih:=sel_snoc (w:=w) (x:=x) (b:=b) (xs:=xs) (bs:=bs) (by simpa using h)
    show sel w (y :: (xs ++ [x])) (d :: (bs ++ [b])) = _
    simp only [sel]
    cases w y
    · simpa using ih
    · simpa using ih
  | [],_ :: _,h=>by simp at h
  | _ :: _,[],h=>by simp at h
theorem sel_len {α:Type} {w:Str→Bool}:∀ {xs:List Str} {bs:List α},xs.length = bs.length→(sel w xs bs).length = (xs.filter w).length
  | [],[],_=>rfl
  | y :: xs,d :: bs,h=>by
    have ih:=sel_len (w:=w) (xs:=xs) (bs:=bs) (by simpa using h)
    simp only [sel,List.filter_cons]
    cases w y
    · simpa using ih
    · simpa using ih
  | [],_ :: _,h=>by simp at h
  | _ :: _,[],h=>by simp at h
theorem Reps.sel {I:Led} {w:Str→Bool}:∀ {xs:List Str} {ts:List Tr} {bs:List Value},Reps I ts bs→xs.length = bs.length→Reps I (sel w xs ts) (sel w xs bs)
  | [],[],[],_,_=>True.intro
  | y :: xs,t :: ts,b :: bs,h,q=>by
    have ih:=Reps.sel (w:=w) (xs:=xs) h.2 (by simpa using q)
    simp only [Mine.sel]
    cases w y
    · simpa using ih
    · exact ⟨h.1,ih⟩
  | [],_ :: _,_,_,_=>by simp [Mine.sel,Reps]
  | _ :: _,[],[],_,_=>by simp [Mine.sel,Reps]
  | _,[],_ :: _,h,_=>h.elim
  | _ :: _,_ :: _,[],h,_=>h.elim
theorem strs_snoc_inv {ys:List Value} {xs:List Str} {x:Str} (h:StrsAre ys (xs ++ [x])):∃ zs t,ys = zs ++ [.str x t]∧StrsAre zs xs:=by
  induction xs generalizing ys with
  | nil=>
    cases h with
    | cons _ _ h=>cases h; exact ⟨[],_,rfl,.nil⟩
  | cons y xs ih=>
    cases h with
    | cons _ _ h=>
      obtain ⟨zs,t,rfl,h2⟩:=ih h
      exact ⟨_ :: zs,t,rfl,.cons _ _ h2⟩
theorem strs_app {ys ys':List Value} {xs xs':List Str} (h:StrsAre ys xs) (k:StrsAre ys' xs'):StrsAre (ys ++ ys') (xs ++ xs'):=by
  induction h with
  | nil=>exact k
  | cons _ _ _ ih=>exact .cons _ _ ih
noncomputable def usOf (t:Tr):List Str:=(trav effU ctxU t () []).map (·.1)
inductive ReachT (xs:List Str) (ts:List Tr) (S:List Str):Str→Prop
  | base {x:Str}:x ∈ S→ReachT xs ts S x
  | step {x y:Str} {i:Nat} {t:Tr}:ReachT xs ts S x→xs[i]? = some x→ts[i]? = some t→y ∈ usOf t→ReachT xs ts S y
noncomputable def left (xs:List Str) (kvs:List (Str × Value)):Nat:=(xs.filter fun x=>(valueAt kvs x).isNone).length
theorem left_le (xs kvs):left xs kvs ≤ xs.length:=List.length_filter_le _ _
theorem left_lt {x:Str} {v:Value} {kvs:List (Str × Value)} {xs:List Str} (h:x ∈ xs) (hn:valueAt kvs x = none):left xs (stored kvs x v) < left xs kvs:=by
  unfold left
  have hle:∀ l:List Str,(l.filter fun y=>(valueAt (stored kvs x v) y).isNone).length ≤ (l.filter fun y=>(valueAt kvs y).isNone).length:=by
    intro l
    induction l with
    | nil=>exact Nat.le_refl _
    | cons y l ih=>
      rw [List.filter_cons,List.filter_cons,valueAt_stored]
      by_cases hy:y = x
      · subst hy
        simp only [if_true,Option.isNone_some,Bool.false_eq_true,if_false,hn,Option.isNone_none,List.length_cons]
        lia
      · simp only [hy,if_false]
        split
        · simp only [List.length_cons]; lia
        · exact ih
  induction xs with
  | nil=>cases h
  | cons y l ih=>
    rw [List.filter_cons,List.filter_cons,valueAt_stored]
    by_cases hy:y = x
    · subst hy
      simp only [if_true,Option.isNone_some,Bool.false_eq_true,if_false,hn,Option.isNone_none,List.length_cons]
      have:=hle l
      lia
    · simp only [hy,if_false]
      have h':x ∈ l:=by
        rcases List.mem_cons.mp h with q | q
        · exact absurd q.symm hy
        · exact q
      have:=ih h'
      split
      · simp only [List.length_cons]; lia
      · exact this
structure RchI (xs:List Str) (ts:List Tr) (ss:List Str) (W:List (Str × Value)) (T:List Str) (n:Nat):Prop where
  sz:100 * left xs W + T.length = n
  wl:W.length + n ≤ 2000
  w:∀ y u,valueAt W y = some u→y ∈ xs∧ReachT xs ts ss y
  t:∀ y ∈ T,ReachT xs ts ss y
  s:∀ y ∈ ss,y ∈ xs→(valueAt W y).isSome = true∨y ∈ T
  c:∀ (x:Str) (i:Nat) (t:Tr) (y:Str),(valueAt W x).isSome = true→xs[i]? = some x→ts[i]? = some t→y ∈ usOf t→y ∈ xs→(valueAt W y).isSome = true∨y ∈ T
section
variable {xs:List Str} {ts:List Tr} {ss:List Str} {W:List (Str × Value)} {T:List Str} {n:Nat} {y:Str}
theorem RchI.start {T0:List Str} (hp:T0.Perm ss) (hx:xs.length ≤ 10) (hs:ss.length ≤ 60):RchI xs ts ss [] T0 (100 * left xs [] + T0.length) where
  sz:=rfl
  wl:=by have h1:=left_le xs []; have h2:=hp.length_eq; show 0 + _ ≤ _; lia
  w:=fun y u q=>nomatch q
  t:=fun y hy=>.base (hp.mem_iff.mp hy)
  s:=fun y hy _=>.inr (hp.mem_iff.mpr hy)
  c:=fun x i t y q=>nomatch q
theorem mem_last {α:Type} {T:List α} {y z:α} (h:z ∈ T ++ [y]):z ∈ T∨z = y:=(List.mem_append.mp h).imp id List.mem_singleton.mp
theorem RchI.skip (g:RchI xs ts ss W (T ++ [y]) n) (h:y ∈ xs→(valueAt W y).isSome = true):RchI xs ts ss W T (n - 1) where
  sz:=by have:=g.sz; rw [List.length_append,List.length_singleton] at this; lia
  wl:=by have:=g.wl; lia
  w:=g.w
  t:=fun z hz=>g.t z (List.mem_append.mpr (.inl hz))
  s:=fun z h3 h4=>(g.s z h3 h4).elim .inl fun q=>(mem_last q).elim .inr fun q=>.inl (q ▸ h (q ▸ h4))
  c:=fun x j t z h3 h4 h5 h6 h7=>(g.c x j t z h3 h4 h5 h6 h7).elim .inl fun q=>(mem_last q).elim .inr fun q=>.inl (q ▸ h (q ▸ h7))
theorem pos_ar {a b n:Nat} (h:a + (b + 1) = n):n - 1 < n:=by subst h; exact Nat.sub_lt (Nat.succ_pos _) (by decide)
theorem RchI.pos (g:RchI xs ts ss W (T ++ [y]) n):n - 1 < n:=by
  have h:=g.sz
  rw [List.length_append] at h
  exact pos_ar h
theorem stored_some {W:List (Str × Value)} {z y:Str} {v:Value} (h:z ≠ y→(valueAt W z).isSome = true):(valueAt (stored W y v) z).isSome = true:=by
  rw [valueAt_stored]
  by_cases q:z = y
  · rw [if_pos q]; rfl
  · rw [if_neg q]; exact h q
theorem RchI.take {us:List Str} {i:Nat} {ti:Tr} (g:RchI xs ts ss W (T ++ [y]) n) (hnd:xs.Nodup) (hW:valueAt W y = none) (hx:xs[i]? = some y) (ht:ts[i]? = some ti) (hsp:us.Perm (usOf ti)) (hul:us.length ≤ 60) :
    RchI xs ts ss (stored W y (.bool true)) (T ++ us) (100 * left xs (stored W y (.bool true)) + (T ++ us).length)∧100 * left xs (stored W y (.bool true)) + (T ++ us).length < n:=by
  have hyx:=List.mem_of_getElem? hx
  have hlt:=left_lt (v:=Value.bool true) hyx hW
  have hn:=g.sz
  have hwl:=g.wl
  have hsl:=stored_length_le W y (.bool true)
  rw [List.length_append,List.length_singleton] at hn
  refine ⟨⟨rfl,?_,fun z u hz=>?_,fun z hz=>?_,fun z h3 h4=>?_,fun x j t z h3 h4 h5 h6 h7=>?_⟩,?_⟩
  · rw [List.length_append]; lia
  · rw [valueAt_stored] at hz
    by_cases q:z = y
    · subst q; exact ⟨hyx,g.t _ (List.mem_append.mpr (.inr (.head _)))⟩
    · rw [if_neg q] at hz; exact g.w z u hz
  · rcases List.mem_append.mp hz with q | q
    · exact g.t z (List.mem_append.mpr (.inl q))
    · exact .step (g.t y (List.mem_append.mpr (.inr (.head _)))) hx ht (hsp.mem_iff.mp q)
  · by_cases q:z = y
    · exact .inl (stored_some fun w=>absurd q w)
    · exact (g.s z h3 h4).elim (fun q2=>.inl (stored_some fun _=>q2)) fun q2=>.inr (List.mem_append.mpr (.inl ((mem_last q2).elim id fun w=>absurd w q)))
  · by_cases q:z = y
    · exact .inl (stored_some fun w=>absurd q w)
    · rw [valueAt_stored] at h3
      by_cases q2:x = y
      · subst q2
        have hij:j = i:=(List.getElem?_inj (List.getElem?_eq_some_iff.mp h4).1 hnd).mp (h4.trans hx.symm)
        subst hij
        rw [ht] at h5; cases h5
        exact .inr (List.mem_append.mpr (.inr (hsp.mem_iff.mpr h6)))
      · rw [if_neg q2] at h3
        exact (g.c x j t z h3 h4 h5 h6 h7).elim (fun q2=>.inl (stored_some fun _=>q2)) fun q2=>.inr (List.mem_append.mpr (.inl ((mem_last q2).elim id fun w=>absurd w q)))
  · rw [List.length_append]; lia
theorem RchI.fin (g:RchI xs ts ss W [] n):∀ x,x ∈ xs→((valueAt W x).isSome = true ↔ ReachT xs ts ss x):=fun x hx=>by
  refine ⟨fun q=>?_,fun q=>?_⟩
  · obtain ⟨u,hu⟩:=Option.isSome_iff_exists.mp q
    exact (g.w x u hu).2
  · have all:∀ z,ReachT xs ts ss z→z ∈ xs→(valueAt W z).isSome = true:=by
      intro z hz
      induction hz with
      | base h=>intro h2; rcases g.s _ h h2 with q | q; exact q; cases q
      | step _ h1 h2 h3 ih2=>intro h4; rcases g.c _ _ _ _ (ih2 (List.mem_of_getElem? h1)) h1 h2 h3 h4 with q | q; exact q; cases q
    exact all x q hx
end
structure ExI (xs:List Str) (bs:List Value) (i:Nat) (kvs:List (Str × Value)):Prop where
  l:kvs.length ≤ i
  v:∀ (j:Nat) (x:Str) (b:Value),j < i→xs[j]? = some x→bs[j]? = some b→valueAt kvs x = some b
  n:∀ y,y ∉ xs.take i→valueAt kvs y = none
theorem ExI.next {xs:List Str} {bs:List Value} {i:Nat} {kvs:List (Str × Value)} {y:Str} {b:Value} (h:ExI xs bs i kvs) (hnd:xs.Nodup) (hy:xs[i]? = some y) (hb:bs[i]? = some b):ExI xs bs (i + 1) (stored kvs y b) where
  l:=Nat.le_trans (stored_length_le _ _ _) (Nat.succ_le_succ h.l)
  v j x b' hj hx' hb':=by
    rw [valueAt_stored]
    by_cases hji:j = i
    · subst hji
      rw [hy] at hx'; cases hx'
      rw [hb] at hb'; cases hb'
      rw [if_pos rfl]
    · rw [if_neg,h.v j x b' (by lia) hx' hb']
      intro q
      subst q
      have h1:=(List.getElem?_eq_some_iff.mp hx').1
      exact hji ((List.getElem?_inj h1 hnd).mp (hx'.trans hy.symm))
  n z hz:=by
    rw [take_next hy] at hz
    rw [valueAt_stored,if_neg (fun q=>hz (List.mem_append.mpr (.inr (List.mem_singleton.mpr q))))]
    exact h.n z fun q=>hz (List.mem_append.mpr (.inl q))
theorem ExI.e {P:Prop} {I:Led} {xs:List Str} {bs:List Value} {ts:List Tr} {n:Nat} {kvs:List (Str × Value)} {y:Str} (h:ExI xs bs n kvs) (hn:n = xs.length) (hl:bs.length = xs.length) (hT:Reps I ts bs) (hy:(valueAt kvs y).isSome = true) (q:∀ (i:Nat) (b:Value) (t:Tr),xs[i]? = some y→valueAt kvs y = some b→ts[i]? = some t→Rep I t b→P):P:=by
  by_cases hm:y ∈ xs
  · obtain ⟨i,hi,hxi⟩:=List.mem_iff_getElem.mp hm
    have hx:xs[i]? = some y:=by rw [List.getElem?_eq_getElem hi,hxi]
    have hb:bs[i]? = some (bs[i]'(hl ▸ hi)):=List.getElem?_eq_getElem _
    obtain ⟨t,ht,hr⟩:=hT.at hb
    exact q i _ t hx (h.v i y _ (hn ▸ hi) hx hb) ht hr
  · rw [h.n y fun w=>hm (List.mem_of_mem_take w)] at hy; cases hy
theorem ExI.no {xs:List Str} {bs:List Value} {n:Nat} {kvs:List (Str × Value)} {y:Str} (h:ExI xs bs n kvs) (hn:n = xs.length) (hl:bs.length = xs.length) (hy:(valueAt kvs y).isSome = false) (hm:y ∈ xs):False:=by
  obtain ⟨i,hi,hxi⟩:=List.mem_iff_getElem.mp hm
  have h1:=h.v i y (bs[i]'(hl ▸ hi)) (hn ▸ hi) (by rw [List.getElem?_eq_getElem hi,hxi]) (List.getElem?_eq_getElem _)
  rw [h1] at hy; cases hy
@[elab_as_elim] theorem strs_top {P:List Value→Prop} {Tv:List Value} {T:List Str} {xs:List Str} {ts:List Tr} {ss:List Str} {W:List (Str × Value)} {n:Nat} (h:StrsAre Tv T) (g:RchI xs ts ss W T n) (hne:(!Tv.isEmpty) = true) (q:∀ Tv' T' y t,StrsAre Tv' T'→RchI xs ts ss W (T' ++ [y]) n→P (Tv' ++ [.str y t])):P Tv:=by
  rcases List.eq_nil_or_concat T with rfl | ⟨T',y,rfl⟩
  · cases h; cases hne
  · rw [List.concat_eq_append] at h g
    obtain ⟨Tv',t,rfl,h'⟩:=strs_snoc_inv h
    exact q Tv' T' y t h' g
theorem strs_nil {Tv:List Value} {T:List Str} (h:StrsAre Tv T) (he:(!Tv.isEmpty) = false):T = []:=by
  cases h with
  | nil=>rfl
  | cons=>cases he
theorem Binds.sel1 {I I':Led} {zs bs:List Value} {xs:List Str} {w:Str→Bool} {i:Nat} {p v:Value} {x:Str} {t:Tok} (h:Binds I zs ((xs.take i).filter w) (sel w (xs.take i) (bs.take i))) (k:Sub I I') (hx:xs[i]? = some x) (hb:bs[i]? = some v) (hl:bs.length = xs.length) (hw:w x = true) (h1:TupI I' p [.str x t,v]) :
    Binds I' (zs ++ [p]) ((xs.take (i + 1)).filter w) (sel w (xs.take (i + 1)) (bs.take (i + 1))):=by
  rw [take_next hx,take_next hb,sel_snoc (by rw [List.length_take,List.length_take,hl]),List.filter_append,hw]
  have e1:[x].filter w = [x]:=by rw [List.filter_cons,hw]; rfl
  rw [e1]
  exact (h.mono k).snoc h1
theorem Binds.sel0 {I:Led} {zs bs:List Value} {xs:List Str} {w:Str→Bool} {i:Nat} {v:Value} {x:Str} (h:Binds I zs ((xs.take i).filter w) (sel w (xs.take i) (bs.take i))) (hx:xs[i]? = some x) (hb:bs[i]? = some v) (hl:bs.length = xs.length) (hw:w x = false) :
    Binds I zs ((xs.take (i + 1)).filter w) (sel w (xs.take (i + 1)) (bs.take (i + 1))):=by
  rw [take_next hx,take_next hb,sel_snoc (by rw [List.length_take,List.length_take,hl]),List.filter_append,hw]
  have e1:[x].filter w = []:=by rw [List.filter_cons,hw]; rfl
  rw [e1,List.append_nil]
  exact (List.append_nil (sel w (xs.take i) (bs.take i))).symm ▸ h
theorem Binds.selW {I:Led} {zs bs:List Value} {xs:List Str} {w:Str→Bool} {n:Nat} (h:Binds I zs ((xs.take n).filter w) (sel w (xs.take n) (bs.take n))) (h1:n = xs.length) (h2:n = bs.length):Binds I zs (xs.filter w) (sel w xs bs):=by
  rw [List.take_of_length_le (Nat.le_of_eq h1.symm),List.take_of_length_le (Nat.le_of_eq h2.symm)] at h; exact h
end
section
noncomputable def S458a (bl nl:Value) (ed wd tl:Addr) (wo tlo:Obj) (M I:Led) (_:Nat):Obj × List (Str × Value) × Option Value × Option Value→Sta
  | (o,_,u1,u2)=>⟨[some bl,some nl,some (.ref ed),some (.ref wd),some (.ref tl),u1,u2],(tl,tlo) :: (wd,wo) :: (ed,o) :: M,I⟩
def F458a (e:E0) (ed:Addr) (xs:List Str) (bs:List Value) (i:Nat):Obj × List (Str × Value) × Option Value × Option Value→Prop
  | (o,kvs,_)=>DO e ed o kvs∧ExI xs bs i kvs
noncomputable def S458 (bl nl:Value) (ed wd tl:Addr) (eo:Obj) (M:Led):List Value × List Str × List (Str × Value) × Obj × Led × Nat × Option Value × Option Value→Sta
  | (Tv,_,_,o,I,n,u1,u2)=>⟨[some bl,some nl,some (.ref ed),some (.ref wd),some (.ref tl),u1,u2],(tl,listO Tv n) :: (wd,o) :: (ed,eo) :: M,I⟩
def F458 (e:E0) (wd:Addr) (I0:Led) (xs:List Str) (ts:List Tr) (ss:List Str) (n:Nat):List Value × List Str × List (Str × Value) × Obj × Led × Nat × Option Value × Option Value→Prop
  | (Tv,T,W,o,I,_)=>StrsAre Tv T∧RchI xs ts ss W T n∧DO e wd o W∧Sub I0 I
noncomputable def S458c (M:Led) (_:Nat) (I:Led):Led × Led:=(M,I)
def F458c (I0:Led) (xs:List Str) (bs:List Value) (w:Str→Bool) (i:Nat) (zs:List Value) (I:Led):Prop:=Sub I0 I∧Binds I zs ((xs.take i).filter w) (sel w (xs.take i) (bs.take i))
section
variable {e:E0} {x:Ctx e} {vs:List (Option Value)} {M I:Led} {k:Value→Sta→Prop}
theorem sortedLH {l:Addr} {xs:List Value} {ss:List Str} {n:Nat} (ho:Own M I l (listO xs n)) (hS:StrsAre xs ss) (h:xs.length < 64) (q:∀ a out ss' n,StrsAre out ss'→ss'.Perm ss→k (.ref a) ⟨vs,(a,listO out n) :: M,I⟩):H x (call (.builtin "sorted") [.ref l]) ⟨vs,M,I⟩ k:=
  ⟨fun _ hs=>sorted_list hs (ho.at hs) hS h fun a out ss' n _ h1 h2 hs'=>upM hs' (q a out ss' n h1 h2)⟩
theorem sortedDH {d:Addr} {o:Obj} {kvs:List (Str × Value)} (ho:Own M I d o) (hd:DO e d o kvs) (h:kvs.length < 64) (q:∀ a out ss' n,StrsAre out ss'→ss'.Perm (kvs.map (·.1))→k (.ref a) ⟨vs,(a,listO out n) :: M,I⟩):H x (call (.builtin "sorted") [.ref d]) ⟨vs,M,I⟩ k:=
  ⟨fun _ hs=>sorted_dict x.ok hs (ho.at hs) hd h fun a out ss' n _ h1 h2 hs'=>upM hs' (q a out ss' n h1 h2)⟩
theorem extendH {l b:Addr} {xs ys:List Value} {n m:Nat} {Mf:Nat→Led} (hp:∀ n',Put l (listO xs n) (listO (xs ++ ys) n') M (Mf n')) (hb:Own M I b (listO ys m)) (hz:xs.length + ys.length ≤ 100000) (q:∀ n',k .none ⟨vs,Mf n',I⟩):H x (call (.builtin "list.extend") [.ref l,.ref b]) ⟨vs,M,I⟩ k:=
  ⟨fun _ hs=>list_extend hs hp (hb.at hs) hz fun n' _ hs'=>upM hs' (q n')⟩
theorem us_len {t:Tr} {us:List Str} (h:us.Perm (usOf t)) (hz:tsize t ≤ 60):us.length ≤ 60∧(trav effU ctxU t () []).length < 64:=by
  have h1:=trav_grow (ctx:=ctxU) (m:=List.length) effU_len t () []
  have h2:=h.length_eq
  unfold usOf at h2
  rw [List.length_map] at h2
  have h4:=Nat.le_trans h1 (Nat.le_trans (Nat.le_of_eq (Nat.zero_add _)) hz)
  exact ⟨Nat.le_trans (Nat.le_of_eq h2) h4,Nat.lt_of_le_of_lt h4 (by decide)⟩
theorem reachedH {bl nl:Value} {ps bs ys:List Value} {xs ss:List Str} {ts:List Tr}
    (hl:LisI I bl ps) (hB:Binds I ps xs bs) (hT:Reps I ts bs) (hnd:xs.Nodup) (hxl:xs.length ≤ 10) (hts:∀ t ∈ ts,tsize t ≤ 60) (hnl:LisI I nl ys) (hyx:StrsAre ys ss) (hsl:ss.length ≤ 60) (hr:5 ≤ x.c.room)
    (q:∀ (w:Str→Bool) a out n I',(∀ x,x ∈ xs→(w x = true ↔ ReachT xs ts ss x))→Sub I I'→Binds I' out (xs.filter w) (sel w xs bs)→k (.ref a) ⟨vs,(a,listO out n) :: M,I'⟩):H x (call (.ref 458) [bl,nl]) ⟨vs,M,I⟩ k:=by
  obtain ⟨la,ln,rfl,hlm⟩:=hl
  obtain ⟨na,nn,rfl,hnm⟩:=hnl
  have hlen:=hB.len
  have hpl:ps.length = xs.length:=hlen.1
  have hpb:ps.length = bs.length:=hlen.1.trans hlen.2.symm
  have hpz:ps.length ≤ 10000000:=Nat.le_trans (hpl ▸ hxl) (by decide)
  refine fr458.run rfl hr fun x' hx ed eo hed wd wo hwd=>sortedLH (.inr hnm) hyx (Nat.lt_of_le_of_lt (strs_len hyx ▸ hsl) (by decide)) fun tl T0v T0 tn hT0 hperm T=>forH4 (S458a (.ref la) (.ref na) ed wd tl wo (listO T0v tn) M _) (F458a e ed xs bs) (eo,[],none,none) (itList (.inr (.tail _ hlm))) rfl ⟨hed,Nat.le_refl _,fun j x b h=>absurd h (Nat.not_lt_zero _),fun _ _=>rfl⟩ (fun _ _ _ _ _ _=>srcL (.inr (.tail _ hlm)))
    (fun i y o kvs u1 u2 it io hi hX h _ V9=>asgB hB hX Sub.one fun z tz w h1 h2=>dSet h.1 (fun o'=>.tail (.tail (.tail .head))) (Nat.le_trans h.2.l (Nat.le_trans (Nat.le_of_lt hi) hpz)) fun o3 hd3=>V9.tnext (o3,stored kvs z w,some (.str z tz),some w) ⟨hd3,h.2.next hnd h1 h2⟩ Le.refl)
    fun o kvs u1 u2 h=>whlH8 (S458 (.ref la) (.ref na) ed wd tl o M) (F458 e wd _ xs ts ss) (100 * left xs [] + T0.length) (T0v,T0,[],wo,_,tn,u1,u2) Le.refl ⟨hT0,.start hperm hxl hsl,hwd,Sub.refl⟩ fun n Tv T W wo' I2 m v1 v2 h2 _ V9=>?_
  have hs2:Sub I I2:=Sub.one.trans h2.2.2.2
  have hTl:Tv.length ≤ 2000:=(strs_len h2.1).symm ▸ Nat.le_trans (Nat.le_add_left _ _) (h2.2.1.sz ▸ Nat.le_trans (Nat.le_add_left _ _) h2.2.1.wl)
  refine truH (.inl (.head _)) (Nat.le_trans hTl (by decide)) (cnd (fun hne=>strs_top h2.1 h2.2.1 hne fun Tv' T' y ty hTv g=>?body) fun he=>?fin)
  case fin=>
    have g:=h2.2.1
    rw [strs_nil h2.1 he] at g
    exact compH (S458c ((tl,listO Tv m) :: (wd,wo') :: (ed,o) :: M)) (F458c I2 xs bs fun x=>(valueAt W x).isSome) I2 (itList (.inr (hs2 _ hlm))) rfl ⟨Sub.refl,.nil⟩ hpz (fun _ _ _ h=>srcL (.inr (h.1 _ (hs2 _ hlm))))
      (fun x2 hr2 i p zs I4 it io m2 acc u3 hi hX h4 _ V9=>asgB hB hX (hs2.trans h4.1) fun z tz w h1 hb=>dIn (.inl (.tail _ (.tail _ (.tail _ (.head _))))) h2.2.2.1 (cnd (fun hw r=>V9.ce (S:=S458c _) _ ⟨h4.1.trans Sub.one,h4.2.sel1 Sub.one h1 hb hlen.2 hw ⟨r,0,rfl,.head _⟩⟩ Le.refl rfl) fun hw=>V9.ce (m:=m2) (S:=S458c _) I4 ⟨h4.1,h4.2.sel0 h1 hb hlen.2 hw⟩ Le.refl rfl))
      fun acc zs I4 m2 h4=>retL (Le.drop (.tail .head) (Le.drop (.tail .head) (Le.drop (.tail .head) Le.refl))) (q _ acc zs m2 I4 g.fin (hs2.trans h4.1) (h4.2.selW hpl hpb))
  case body=>
    have hl1:Tv'.length ≤ 2000:=by
      have h3:=strs_len hTv
      have h4:=g.sz
      have h5:=g.wl
      rw [List.length_append] at h4
      exact Nat.le_trans (Nat.le_of_eq h3) (Nat.le_trans (Nat.le_trans (Nat.le_add_right _ _) (Nat.le_trans (Nat.le_add_left _ _) (Nat.le_of_eq h4))) (Nat.le_trans (Nat.le_add_left _ _) h5))
    have hWl:W.length ≤ 10000000:=Nat.le_trans (Nat.le_trans (Nat.le_add_right _ _) g.wl) (by decide)
    refine mPop (.inl (.head _)) (popH .head (Nat.le_trans hl1 (by decide)) (dIn (.inl (.tail _ (.tail _ (.head _)))) h.1 (cnd (fun h3=>dNotIn (.inl (.tail _ (.head _))) h2.2.2.1 (cnd (fun h4=>h.2.e hpl hlen.2 hT h3 fun i b t hxi hvb hti hrep=>?take) fun h4=>?skip1)) fun h3=>?skip2)))
    case skip1=>exact V9.wnext (m:=n - 1) (Tv',T',W,wo',I2,m + 1,some (.str y ty),v2) g.pos ⟨hTv,g.skip fun _=>(Bool.not_eq_false' _).mp h4,h2.2.2.1,h2.2.2.2⟩ Le.refl
    case skip2=>exact V9.wnext (m:=n - 1) (Tv',T',W,wo',I2,m + 1,some (.str y ty),v2) g.pos ⟨hTv,g.skip fun w=>(h.2.no hpl hlen.2 h3 w).elim,h2.2.2.1,h2.2.2.2⟩ Le.refl
    case take=>
      have htz:=hts t (List.mem_of_getElem? hti)
      have hul:(trav effU ctxU t () []).length < 64:=(us_len (List.Perm.refl _) htz).2
      refine dSet h2.2.2.1 (fun o'=>.tail .head) hWl fun wo2 hwd3=>mExtend (.inl (.head _)) (dItem (.inl (.tail _ (.tail _ (.head _)))) h.1 hvb (used_namesH (hrep.mono hs2) (rm hx rfl) (Nat.le_trans htz (by decide)) fun ud uo I3 s3 hud=>sortedDH (.inl (.head _)) hud hul fun sl so us sm hso hsp=>
        extendH (Mf:=fun n'=>(sl,listO so sm) :: (ud,uo) :: (tl,listO (Tv' ++ so) n') :: (wd,wo2) :: (ed,o) :: M) (fun n'=>.tail (.tail .head)) (.inl (.head _)) ?z fun m2=>?nx))
      case z=>exact Nat.le_trans (Nat.add_le_add hl1 ((strs_len hso).symm ▸ (us_len hsp htz).1)) (by decide)
      case nx=>
        have hWn:valueAt W y = none:=Option.isNone_iff_eq_none.mp (Option.not_isSome _ ▸ h4)
        have gt:=g.take hnd hWn hxi hti hsp (us_len hsp htz).1
        exact V9.wnext (m:=100 * left xs (stored W y (.bool true)) + (T' ++ us).length) (Tv' ++ so,T' ++ us,stored W y (.bool true),wo2,I3,m2,some (.str y ty),v2) gt.2 ⟨strs_app hTv hso,gt.1,hwd3,h2.2.2.2.trans s3⟩ (Le.drop .head (Le.drop .head Le.refl))
end
end
section
theorem ReachT.congr {xs:List Str} {ts:List Tr} {S S':List Str} (h:∀ y,y ∈ S→y ∈ S') {x:Str} (k:ReachT xs ts S x):ReachT xs ts S' x:=by
  induction k with
  | base q=>exact .base (h _ q)
  | step _ h1 h2 h3 ih=>exact .step ih h1 h2 h3
def Kept (xs:List Str) (ts:List Tr) (r0:Bool) (bd:Tr) (w:Str→Bool):Prop:=∀ x,x ∈ xs→(w x = true ↔ match r0 with | true=>ReachT xs ts (fvOf bd) x | false=>x ∈ fvOf bd)
theorem Kept.t {xs:List Str} {ts:List Tr} {r0:Bool} {bd:Tr} {w:Str→Bool} {ss:List Str} (hr:r0 = true) (hp:ss.Perm (fvOf bd)) (h:∀ x,x ∈ xs→(w x = true ↔ ReachT xs ts ss x)):Kept xs ts r0 bd w:=by
  subst hr
  exact fun x hx=>(h x hx).trans ⟨fun q=>q.congr fun y=>hp.mem_iff.mp,fun q=>q.congr fun y=>hp.mem_iff.mpr⟩
theorem Kept.f {xs:List Str} {ts:List Tr} {r0:Bool} {bd:Tr} {ss:List Str} (hr:r0 = false) (hp:ss.Perm (fvOf bd)):Kept xs ts r0 bd fun x=>decide (x ∈ ss):=by
  subst hr
  exact fun x hx=>decide_eq_true_iff.trans hp.mem_iff
noncomputable def S463 (v:Value) (fa:Addr) (M:Led):(Str→Bool) × Addr × List Value × Nat × Led→Sta
  | (_,a,out,n,I)=>⟨[some v,some (.ref fa),some (.ref a)],(a,listO out n) :: M,I⟩
def F463 (I0:Led) (xs:List Str) (ts:List Tr) (bs:List Value) (r0:Bool) (bd:Tr):(Str→Bool) × Addr × List Value × Nat × Led→Prop
  | (w,_,out,_,I)=>Kept xs ts r0 bd w∧Sub I0 I∧Binds I out (xs.filter w) (sel w xs bs)
section
variable {e:E0} {x:Ctx e} {vs:List (Option Value)} {M I:Led} {k:Value→Sta→Prop}
theorem without_deadH {v:Value} {xs:List Str} {ts:List Tr} {bd:Tr} {r0:Bool} (r:Rep I (.node (.lett xs r0) (ts ++ [bd])) v)
    (hnd:xs.Nodup) (hxl:xs.length ≤ 10) (hts:∀ t ∈ ts,tsize t ≤ 60) (hz:tsize bd ≤ 60) (hr:8 ≤ x.c.room)
    (k1:∀ w,Kept xs ts r0 bd w→xs.filter w = []→∀ v' I',Sub I I'→Rep I' bd v'→k v' ⟨vs,M,I'⟩)
    (k2:∀ w,Kept xs ts r0 bd w→xs.filter w ≠ []→∀ v' I',Sub I I'→Rep I' (.node (.lett (xs.filter w) r0) (sel w xs ts ++ [bd])) v'→k v' ⟨vs,M,I'⟩):H x (call (.ref 463) [v]) ⟨vs,M,I⟩ k:=by
  refine let_elim r fun l b ps bs ks' kb e0 L hT hbd=>?_
  obtain ⟨rfl,e1⟩:=List.append_inj' e0 rfl
  cases e1
  obtain ⟨ln,hlm⟩:=L.lis
  have hB:=L.bnd
  have hlen:=hB.len
  have hpz:ps.length ≤ 10000000:=Nat.le_trans (hlen.1 ▸ hxl) (by decide)
  refine fr463.run rfl hr fun x' hx=>isiR r rfl (getF L.body g212_body (free_namesH hbd (rm hx rfl) hz fun fa out ss fn I1 s1 hso hperm=>joinF (S463 v fa M) (F463 ((fa,listO out fn) :: I1) xs ts bs r0 bd) (fun _ J9=>H.freeze .head (getF (L.mono (s1.trans Sub.one)).is_rec g212_is_rec (cnd (fun h1=>getF (L.mono (s1.trans Sub.one)).binds g212_binds
      (reachedH ⟨l,ln,rfl,.tail _ (s1 _ hlm)⟩ (hB.mono (s1.trans Sub.one)) (hT.mono (s1.trans Sub.one)) hnd hxl hts ⟨fa,fn,rfl,.head _⟩ hso (fv_len hperm hz) (rm hx rfl) fun w a out' n I2 hw s2 hB2=>J9.jf (w,a,out',n,I2) ⟨.t h1 hperm hw,s2,hB2⟩))
      fun h1=>getF (L.mono (s1.trans Sub.one)).binds g212_binds (compH (S458c M) (F458c ((fa,listO out fn) :: I1) xs bs fun x=>decide (x ∈ ss)) _ (itList (.inr (.tail _ (s1 _ hlm)))) rfl ⟨Sub.refl,.nil⟩ hpz (fun _ _ _ h=>srcL (.inr (h.1 _ (.tail _ (s1 _ hlm)))))
        (fun x2 hr2 i p zs I4 it io m2 acc u3 hi hX h4 _ V9=>asgB hB hX ((s1.trans Sub.one).trans h4.1) fun z tz w h1 hb=>inSH (.inr (h4.1 _ (.head _))) hso (cnd (fun hw r=>V9.ce (S:=S458c M) _ ⟨h4.1.trans Sub.one,h4.2.sel1 Sub.one h1 hb hlen.2 hw ⟨r,0,rfl,.head _⟩⟩ Le.refl rfl) fun hw=>V9.ce (m:=m2) (S:=S458c M) I4 ⟨h4.1,h4.2.sel0 h1 hb hlen.2 hw⟩ Le.refl rfl))
        fun acc zs I4 m2 h4=>J9.jf (_,acc,zs,m2,I4) ⟨.f h1 hperm,h4.1,h4.2.selW hlen.1 (hlen.1.trans hlen.2.symm)⟩)))) fun d hd=>?rest))
  obtain ⟨w,a,out',n,I2⟩:=d
  have hall:=(s1.trans Sub.one).trans hd.2.1
  have hol:=hd.2.2.len
  refine fun c=>eqL0 (.inl (.tail _ (.head _))) (.inl (.head _)) (cnd (fun h1=>H.drop .head (getF (L.mono hall).body g212_body (retL (Le.drop .head Le.refl) (k1 w hd.1 ?e _ I2 hall (hbd.mono hall)))))
    fun h1=>H.drop .head (H.freeze .head (getF (L.mono (hall.trans Sub.one)).body g212_body (getF (L.mono (hall.trans Sub.one)).is_rec g212_is_rec (new212 (rm hx rfl) fun v3 I3 s3 hv3=>retI (k2 w hd.1 ?ne _ I3 (hall.trans (Sub.one.trans s3)) ?rep))))))
  case e=>
    have:=List.isEmpty_iff.mp h1
    subst this
    exact List.length_eq_zero_iff.mp hol.1.symm
  case ne=>
    intro q
    rw [q] at hol
    have:out' = []:=List.length_eq_zero_iff.mp hol.1
    subst this
    cases h1
  case rep=>
    have h3:=hall.trans (Sub.one.trans s3)
    exact let_new ⟨hv3,⟨n,s3 _ (.head _)⟩,hd.2.2.mono (Sub.one.trans s3)⟩ ((hT.sel (hlen.2.symm)).mono h3) (hbd.mono h3)
end
end
section
theorem lookT_off {y:Str}:∀ {xs:List Str} {ts:List Tr},y ∉ xs→lookT xs ts y = none
  | [],_,_=>by unfold lookT; rfl
  | _ :: _,[],_=>by unfold lookT; rfl
  | x :: xs,t :: ts,h=>by
    unfold lookT
    rw [lookT_off (fun q=>h (.tail _ q)),if_neg (fun q=>h (by rw [q]; exact .head _))]
theorem lookT_at {y:Str} {t:Tr}:∀ {xs:List Str} {ts:List Tr} {i:Nat},xs.Nodup→xs[i]? = some y→ts[i]? = some t→lookT xs ts y = some t
  | x :: xs,u :: ts,0,nd,h1,h2=>by
    simp at h1 h2
    subst h1 h2
    unfold lookT
    rw [lookT_off (List.nodup_cons.mp nd).1,if_pos rfl]
  | x :: xs,u :: ts,i + 1,nd,h1,h2=>by
    simp at h1 h2
    unfold lookT
    rw [lookT_at (List.nodup_cons.mp nd).2 h1 h2]
  | [],_,_,_,h1,_=>by simp at h1
  | _ :: _,[],_,_,_,h2=>by simp at h2
theorem updN_off {x:Str}:∀ {xs ys:List Str} {N:Str→Option Str},x ∉ xs→updN N xs ys x = N x
  | [],_,_,_=>by unfold updN; rfl
  | _ :: _,[],_,_=>by unfold updN; rfl
  | a :: xs,b :: ys,N,h=>by
    unfold updN
    rw [updN_off (fun q=>h (.tail _ q)),if_neg (fun q=>h (by rw [q]; exact .head _))]
theorem updN_at {x y:Str}:∀ {xs ys:List Str} {N:Str→Option Str} {i:Nat},xs.Nodup→xs[i]? = some x→ys[i]? = some y→updN N xs ys x = some y
  | a :: xs,b :: ys,N,0,nd,h1,h2=>by
    simp at h1 h2
    subst h1 h2
    unfold updN
    rw [updN_off (List.nodup_cons.mp nd).1,if_pos rfl]
  | a :: xs,b :: ys,N,i + 1,nd,h1,h2=>by
    simp at h1 h2
    unfold updN
    exact updN_at (List.nodup_cons.mp nd).2 h1 h2
  | [],_,_,_,_,h1,_=>by simp at h1
  | _ :: _,[],_,_,_,_,h2=>by simp at h2
theorem valueAt_mem {k:Str} {v:Value}:∀ {kvs:List (Str × Value)},(kvs.map (·.1)).Nodup→(k,v) ∈ kvs→valueAt kvs k = some v
  | (a,b) :: r,nd,h=>by
    have nd':=List.nodup_cons.mp nd
    rw [valueAt_cons]
    rcases List.mem_cons.mp h with q | q
    · cases q; rw [if_pos rfl]
    · rw [if_neg (fun q2:a = k=>nd'.1 (by show a ∈ _; rw [q2]; exact List.mem_map_of_mem (f:=(·.1)) q))]
      exact valueAt_mem nd'.2 q
theorem valueAt_none {k:Str}:∀ {kvs:List (Str × Value)},k ∉ kvs.map (·.1) ↔ valueAt kvs k = none
  | []=>⟨fun _=>rfl,fun _ q=>by cases q⟩
  | (a,b) :: r=>by
    rw [valueAt_cons,List.map_cons,List.mem_cons]
    by_cases h:a = k
    · subst h; simp
    · have h':¬ k = a:=fun q=>h q.symm
      rw [if_neg h,← valueAt_none (kvs:=r)]
      simp [h']
noncomputable def instOf (w:Str→Bool) (xs:List Str) (ts:List Tr) (qs:List Str) (x:Str):Option Tr:=
  match updN noN (xs.filter fun x=>!w x) qs x with
  | some q=>some (.node (.var q) [])
  | none=>if w x then lookT xs ts x else none
def TakenW (xs:List Str) (ts:List Tr) (bd:Tr) (most:Int) (w:Str→Bool):Prop:=∀ (i:Nat) (x:Str) (t:Tr),xs[i]? = some x→ts[i]? = some t→w x = takenT x t bd most
structure Tkn (xs:List Str) (ts:List Tr) (bd:Tr) (most:Int) (w:Str→Bool):Prop where
  tw:TakenW xs ts bd most w
  off:∀ x,x ∉ xs→w x = false
theorem taken_w {xs:List Str} {ts:List Tr} {bd:Tr} {most:Int} (hnd:xs.Nodup):∃ w,Tkn xs ts bd most w:=by
  refine ⟨fun x=>match lookT xs ts x with | some t=>takenT x t bd most | none=>false,fun i x t h1 h2=>?_,fun x h=>?_⟩
  · show (match lookT xs ts x with | some t=>takenT x t bd most | none=>false) = _
    rw [lookT_at hnd h1 h2]
  · show (match lookT xs ts x with | some t=>takenT x t bd most | none=>false) = _
    rw [lookT_off h]
structure TakI (xs:List Str) (bs:List Value) (w:Str→Bool) (i:Nat) (T:List (Str × Value)):Prop where
  l:T.length ≤ i
  v:∀ (j:Nat) (x:Str) (b:Value),j < i→xs[j]? = some x→bs[j]? = some b→w x = true→valueAt T x = some b
  n:∀ y u,valueAt T y = some u→y ∈ xs∧w y = true
section
variable {xs:List Str} {bs:List Value} {w:Str→Bool} {i:Nat} {T:List (Str × Value)} {y:Str} {b:Value}
theorem TakI.start:TakI xs bs w 0 []:=⟨Nat.le_refl _,fun j x b h=>absurd h (Nat.not_lt_zero _),fun y u q=>nomatch q⟩
theorem TakI.yes (h:TakI xs bs w i T) (hnd:xs.Nodup) (hy:xs[i]? = some y) (hb:bs[i]? = some b) (hw:w y = true):TakI xs bs w (i + 1) (stored T y b) where
  l:=Nat.le_trans (stored_length_le _ _ _) (Nat.succ_le_succ h.l)
  v j x b' hj hx' hb' hw':=by
    rw [valueAt_stored]
    by_cases hji:j = i
    · subst hji
      rw [hy] at hx'; cases hx'
      rw [hb] at hb'; cases hb'
      rw [if_pos rfl]
    · rw [if_neg,h.v j x b' (by lia) hx' hb' hw']
      intro q
      subst q
      exact hji ((List.getElem?_inj (List.getElem?_eq_some_iff.mp hx').1 hnd).mp (hx'.trans hy.symm))
  n z u hz:=by
    rw [valueAt_stored] at hz
    by_cases q:z = y
    · subst q; exact ⟨List.mem_of_getElem? hy,hw⟩
    · rw [if_neg q] at hz; exact h.n z u hz
theorem TakI.no (h:TakI xs bs w i T) (hy:xs[i]? = some y) (hw:w y = false):TakI xs bs w (i + 1) T where
  l:=Nat.le_succ_of_le h.l
  v j x b' hj hx' hb' hw':=by
    by_cases hji:j = i
    · subst hji
      rw [hy] at hx'; cases hx'
      rw [hw] at hw'; cases hw'
    · exact h.v j x b' (by lia) hx' hb' hw'
  n:=h.n
theorem TakI.noneT {n:Nat} (h:TakI xs bs w n T) (hn:n = xs.length) (hl:bs.length = xs.length) (he:T.isEmpty = true):∀ x ∈ xs,w x = false:=fun x hx=>by
  obtain ⟨i,hi',hxi⟩:=List.mem_iff_getElem.mp hx
  cases hwx:w x with
  | false=>rfl
  | true=>
    have:=h.v i x (bs[i]'(hl ▸ hi')) (hn ▸ hi') (by rw [List.getElem?_eq_getElem hi',hxi]) (List.getElem?_eq_getElem _) hwx
    rw [List.isEmpty_iff.mp he] at this
    cases this
theorem TakI.someT {n:Nat} (h:TakI xs bs w n T) (he:T.isEmpty = false):∃ x,x ∈ xs∧w x = true:=by
  cases T with
  | nil=>cases he
  | cons p T=>
    obtain ⟨y0,u0⟩:=p
    exact ⟨y0,h.n y0 u0 (by rw [valueAt_cons,if_pos rfl])⟩
end
section
variable {I:Led} {xs:List Str} {ts:List Tr} {bs:List Value} {bd:Tr} {most:Int} {w:Str→Bool} {n:Nat} {T:List (Str × Value)}
theorem TakI.at (h:TakI xs bs w n T) (g:Tkn xs ts bd most w) (hn:n = xs.length) (hl:bs.length = xs.length) (hnd:xs.Nodup) (hT:Reps I ts bs):∀ x,match (if w x then lookT xs ts x else none) with | none=>valueAt T x = none | some t=>∃ u,valueAt T x = some u∧Rep I t u:=fun x=>by
  by_cases hx:x ∈ xs
  · obtain ⟨i,hi',hxi⟩:=List.mem_iff_getElem.mp hx
    have e1:xs[i]? = some x:=by rw [List.getElem?_eq_getElem hi',hxi]
    have e2:bs[i]? = some (bs[i]'(hl ▸ hi')):=List.getElem?_eq_getElem _
    obtain ⟨tk,htk,hrep⟩:=hT.at e2
    cases hwx:w x with
    | false=>
      simp only [Bool.false_eq_true,if_false]
      cases q:valueAt T x with
      | none=>rfl
      | some u=>have:=(h.n x u q).2; rw [hwx] at this; cases this
    | true=>
      simp only [if_true]
      rw [lookT_at hnd e1 htk]
      exact ⟨_,h.v i x _ (hn ▸ hi') e1 e2 hwx,hrep⟩
  · rw [g.off x hx]
    simp only [Bool.false_eq_true,if_false]
    cases q:valueAt T x with
    | none=>rfl
    | some u=>exact absurd (h.n x u q).1 hx
theorem Tkn.good (g:Tkn xs ts bd most w) (hl:ts.length = xs.length) (hnd:xs.Nodup) (hts:∀ t ∈ ts,GoodT t∧tsize t ≤ 60):∀ x t,(if w x then lookT xs ts x else none) = some t→GoodT t∧tsize t ≤ 60:=fun x t h=>by
  by_cases hx:x ∈ xs
  · obtain ⟨i,hi',hxi⟩:=List.mem_iff_getElem.mp hx
    have e1:xs[i]? = some x:=by rw [List.getElem?_eq_getElem hi',hxi]
    have e2:ts[i]? = some (ts[i]'(hl ▸ hi')):=List.getElem?_eq_getElem _
    rw [lookT_at hnd e1 e2] at h
    split at h
    · cases h; exact hts _ (List.mem_of_getElem? e2)
    · cases h
  · rw [g.off x hx] at h; cases h
theorem Tkn.goodI (g:Tkn xs ts bd most w) (hl:ts.length = xs.length) (hnd:xs.Nodup) (hts:∀ t ∈ ts,GoodT t∧tsize t ≤ 60) (qs:List Str):∀ x t,instOf w xs ts qs x = some t→GoodT t∧tsize t ≤ 60:=fun x t h=>by
  unfold instOf at h
  cases hq:updN noN (xs.filter fun x=>!w x) qs x with
  | some q=>
    rw [hq] at h
    cases h
    exact ⟨by unfold GoodT; exact ⟨fun xs hx=>(by cases hx),(by unfold GoodTs; trivial)⟩,by simp [tsize,tsizes]⟩
  | none=>
    rw [hq] at h
    exact g.good hl hnd hts x t h
theorem TakI.inst {e:E0} {I':Led} {td:Addr} {o:Obj} (h:TakI xs bs w n T) (g:Tkn xs ts bd most w) (hn:n = xs.length) (hl:bs.length = xs.length) (hnd:xs.Nodup) (hT:Reps I ts bs) (k:Sub I I') (hm:(td,o) ∈ I') (hd:DO e td o T) (he:xs.filter (fun x=>!w x) = []):InstI e I' (.ref td) (instOf w xs ts []):=by
  refine ⟨T,⟨td,o,rfl,hm,hd⟩,fun x=>?_⟩
  have:=h.at g hn hl hnd hT x
  unfold instOf
  rw [he]
  show match (if w x then lookT xs ts x else none) with | none=>valueAt T x = none | some t=>∃ u,valueAt T x = some u∧Rep _ t u
  revert this
  cases (if w x then lookT xs ts x else none) with
  | none=>exact id
  | some t=>rintro ⟨u,a1,a2⟩; exact ⟨u,a1,a2.mono k⟩
structure NwI (yl:List Str) (i:Nat) (Nk:List (Str × Value)) (qs:List Str):Prop where
  l:Nk.length ≤ i
  n:News1 (yl.take i) qs
  m:MapO (updN noN (yl.take i) qs) Nk
theorem NwI.next {yl:List Str} {i:Nat} {Nk:List (Str × Value)} {qs:List Str} {y q:Str} {t:Tok} (h:NwI yl i Nk qs) (hy:yl[i]? = some y) (hq:NewName y q):NwI yl (i + 1) (stored Nk y (.str q t)) (qs ++ [q]) where
  l:=Nat.le_trans (stored_length_le _ _ _) (Nat.succ_le_succ h.l)
  n:=by rw [take_next hy]; exact h.n.snoc hq
  m z:=by
    rw [take_next hy,updN_snoc h.n.len,valueAt_stored]
    by_cases hz:z = y
    · simp only [hz,if_true]
      exact ⟨t,rfl⟩
    · simp only [hz,if_false]
      exact h.m z
theorem NwI.whole {yl:List Str} {n:Nat} {Nk:List (Str × Value)} {qs:List Str} (h:NwI yl n Nk qs) (hn:n = yl.length):NwI yl n Nk qs∧News1 yl qs∧MapO (updN noN yl qs) Nk:=by
  have h2:=h.n
  have h3:=h.m
  rw [hn,List.take_length] at h2 h3
  exact ⟨h,h2,h3⟩
structure JI (I:Led) (yl qs:List Str) (T Nk:List (Str × Value)) (i:Nat) (J:List (Str × Value)):Prop where
  l:J.length ≤ T.length + i
  v:∀ x,if x ∈ (Nk.take i).map (·.1) then ∃ q u,updN noN yl qs x = some q∧valueAt J x = some u∧Rep I (.node (.var q) []) u else valueAt J x = valueAt T x
theorem JI.start {yl qs:List Str} {T Nk:List (Str × Value)}:JI I yl qs T Nk 0 T:=⟨Nat.le_refl _,fun x=>by simp⟩
theorem JI.next {I':Led} {yl qs:List Str} {T Nk J:List (Str × Value)} {i:Nat} {k q:Str} {t:Tok} {v:Addr} (h:JI I yl qs T Nk i J) (hs:Sub I I') (hk:Nk[i]? = some (k,.str q t)) (hq:updN noN yl qs k = some q) (hv:Ins I' (.ref v) 52 [("name",.str q t)]):JI I' yl qs T Nk (i + 1) (stored J k (.ref v)) where
  l:=Nat.le_trans (stored_length_le _ _ _) (Nat.succ_le_succ h.l)
  v z:=by
    rw [take_next hk,List.map_append,valueAt_stored]
    have:=h.v z
    by_cases hz:z = k
    · subst hz
      rw [if_pos (show z ∈ List.map (fun x=>x.fst) (List.take i Nk) ++ List.map (fun x=>x.fst) [(z,Value.str q t)] from List.mem_append.mpr (.inr (.head _)))]
      exact ⟨q,_,hq,by rw [if_pos rfl],.var hv⟩
    · rw [if_neg hz]
      by_cases hm:z ∈ (Nk.take i).map (·.1)
      · rw [if_pos hm] at this
        rw [if_pos (List.mem_append.mpr (.inl hm))]
        obtain ⟨q',u',a1,a2,a3⟩:=this
        exact ⟨q',u',a1,a2,a3.mono hs⟩
      · rw [if_neg hm] at this
        rw [if_neg (fun q=>by
          rcases List.mem_append.mp q with q | q
          · exact hm q
          · exact hz (List.mem_singleton.mp q))]
        exact this
theorem JI.inst {e:E0} {I0 I':Led} {jd:Addr} {o:Obj} {qs:List Str} {Nk J:List (Str × Value)} {m:Nat} (hJ:JI I0 (xs.filter fun x=>!w x) qs T Nk m J) (hm:m = Nk.length) (hN:MapO (updN noN (xs.filter fun x=>!w x) qs) Nk) (h:TakI xs bs w n T) (g:Tkn xs ts bd most w) (hn:n = xs.length) (hl:bs.length = xs.length) (hnd:xs.Nodup) (hT:Reps I ts bs) (k0:Sub I0 I') (k:Sub I I') (hjm:(jd,o) ∈ I') (hd:DO e jd o J):InstI e I' (.ref jd) (instOf w xs ts qs):=by
  refine ⟨J,⟨jd,o,rfl,hjm,hd⟩,fun x=>?_⟩
  have h1:=hJ.v x
  have h2:=hN x
  rw [hm,List.take_length] at h1
  unfold instOf
  by_cases hm:x ∈ Nk.map (·.1)
  · rw [if_pos hm] at h1
    obtain ⟨q,u,a1,a2,a3⟩:=h1
    rw [a1]
    exact ⟨u,a2,a3.mono k0⟩
  · rw [if_neg hm] at h1
    cases hq:updN noN (xs.filter fun x=>!w x) qs x with
    | some q=>
      rw [hq] at h2
      obtain ⟨t,ht⟩:=h2
      rw [valueAt_none.mp hm] at ht; cases ht
    | none=>
      rw [h1]
      have h3:=h.at g hn hl hnd hT x
      show match (if w x then lookT xs ts x else none) with | none=>valueAt T x = none | some t=>∃ u,valueAt T x = some u∧Rep _ t u
      revert h3
      cases (if w x then lookT xs ts x else none) with
      | none=>exact id
      | some t=>rintro ⟨u,a1,a2⟩; exact ⟨u,a1,a2.mono k⟩
end
end
section
noncomputable def S533 (v fv mv:Value) (td kl:Addr) (M:Led) (_:Nat):Obj × List (Str × Value) × List Value × Nat × Led × OV × OV→Sta
  | (o,_,kv,m,I,u1,u2)=>⟨[some v,some fv,some mv,some (.ref td),some (.ref kl),u1,u2,none,none],(kl,listO kv m) :: (td,o) :: M,I⟩
def F533 (e:E0) (td:Addr) (I0:Led) (xs:List Str) (bs:List Value) (w:Str→Bool) (i:Nat):Obj × List (Str × Value) × List Value × Nat × Led × OV × OV→Prop
  | (o,T,kv,_,I,_)=>DO e td o T∧TakI xs bs w i T∧Binds I kv ((xs.take i).filter fun x=>!w x) (sel (fun x=>!w x) (xs.take i) (bs.take i))∧Sub I0 I
noncomputable def S533b (v fv mv:Value) (td kl wd:Addr) (Mf:Obj→Led) (I:Led) (_:Nat):Obj × Obj × List (Str × Value) × List Str × OV × OV→Sta
  | (o,wo,_,_,u1,u2)=>⟨[some v,some fv,some mv,some (.ref td),some (.ref kl),u1,u2,some (.ref wd),none],(wd,wo) :: Mf o,I⟩
def F533b (e:E0) (wd nb:Addr) (yl:List Str) (K:Nat) (i:Nat):Obj × Obj × List (Str × Value) × List Str × OV × OV→Prop
  | (o,wo,Nk,qs,_)=>DO e wd wo Nk∧NwI yl i Nk qs∧NumsO e nb o (K + i)
noncomputable def S533c (v fv mv:Value) (td kl wd jd:Addr) (M:Led) (_:Nat):Obj × List (Str × Value) × Led × OV × OV→Sta
  | (o,_,I,u1,u2)=>⟨[some v,some fv,some mv,some (.ref td),some (.ref kl),u1,u2,some (.ref wd),some (.ref jd)],(jd,o) :: M,I⟩
def F533c (e:E0) (jd:Addr) (I0:Led) (yl qs:List Str) (T Nk:List (Str × Value)) (i:Nat):Obj × List (Str × Value) × Led × OV × OV→Prop
  | (o,J,I,_)=>DO e jd o J∧JI I yl qs T Nk i J∧Sub I0 I
noncomputable def S533d (M:Led) (_:Nat) (I:Led):Led × Led:=(M,I)
def F533d (I0:Led) (qs:List Str) (bl:List Value) (i:Nat) (zs:List Value) (I:Led):Prop:=Sub I0 I∧Binds I zs (qs.take i) (bl.take i)
theorem key_e {P:Prop} {N:Str→Option Str} {Nk:List (Str × Value)} {i:Nat} {y:Value} (hN:MapO N Nk) (nd:(Nk.map (·.1)).Nodup) (hX:∃ k v t,Nk[i]? = some (k,v)∧y = .str k t) (q:∀ k tk q tq,y = .str k tk→Nk[i]? = some (k,.str q tq)→valueAt Nk k = some (.str q tq)→N k = some q→P):P:=by
  obtain ⟨k,vv,tk,hk,rfl⟩:=hX
  have hv:=valueAt_mem nd (List.mem_of_getElem? hk)
  have:=hN k
  cases h:N k with
  | none=>rw [h] at this; rw [hv] at this; cases this
  | some z=>
    rw [h] at this
    obtain ⟨t,ht⟩:=this
    rw [hv] at ht
    cases ht
    exact q k tk z t rfl hk hv h
theorem new_at {P:Prop} {yl qs:List Str} {Nk:List (Str × Value)} {i:Nat} {z:Str} (h:News1 yl qs) (hN:MapO (updN noN yl qs) Nk) (hnd:yl.Nodup) (hz:yl[i]? = some z) (q:∀ y t,qs[i]? = some y→valueAt Nk z = some (.str y t)→P):P:=by
  have hi:=(List.getElem?_eq_some_iff.mp hz).1
  have hq:qs[i]? = some (qs[i]'(h.len ▸ hi)):=List.getElem?_eq_getElem _
  have h2:=hN z
  rw [updN_at hnd hz hq] at h2
  obtain ⟨t,ht⟩:=h2
  exact q _ t hq ht
section
variable {e:E0} {x:Ctx e} {vs:List (Option Value)} {M I:Led} {k:Value→Sta→Prop}
theorem eqD0 {a b:Addr} {oa ob:Obj} {kvs:List (Str × Value)} (ha:Own M I a oa) (da:DO e a oa kvs) (hb:Own M I b ob) (db:DO e b ob []) (q:k (.bool kvs.isEmpty) ⟨vs,M,I⟩):H x (compareOp .Eq (.ref a) (.ref b)) ⟨vs,M,I⟩ k:=
  ⟨fun s hs=>by
    refine keq_eq (r:=true) da.1 db.1 (da.at (ha.at hs)) (db.at (hb.at hs)) (unitsL x) (fun q=>?_) ?_
    · have:kvs = []:=List.length_eq_zero_iff.mp q
      subst this; exact .nil
    · have q2:=upM hs q
      cases kvs <;> exact q2⟩
theorem forKeys {as:Value→Sta→(Sta→Prop)→Prop} {B:Sta→(Flow→Sta→Prop)→Prop} {done:Sta→Prop} {kr:Value→Sta→Prop} {d:Addr} {o:Obj} {kvs:List (Str × Value)} (ho:Own M I d o) (hd:DO e d o kvs)
    (q:∀ ep,(kvs.map (·.1)).Nodup→ItH x (.ref d) vs M M I (KYo d kvs.length ep) kvs.length (fun i y=>∃ k v t,kvs[i]? = some (k,v)∧y = .str k t) (fun h=>h.DictAt (PySem.strKind e.prog e.w) d kvs ep)→(∀ {M' I'},Own M' I' d o→SrcI M' I' fun h=>h.DictAt (PySem.strKind e.prog e.w) d kvs ep)→ForH x as B done kr (.ref d) ⟨vs,M,I⟩) :
    ForH x as B done kr (.ref d) ⟨vs,M,I⟩:=
  ⟨⟨fun s hs=>by
    have h0:=ho.at hs
    obtain ⟨ep,hm⟩:=(hd.at h0).dictAt
    have hall:∀ h:Heap,h.get? d = some o→h.DictAt (PySem.strKind e.prog e.w) d kvs ep:=fun h he=>hm.at' fun o' ho'=>by rw [h0] at ho'; cases ho'; exact he
    exact (q ep hm.nodup ⟨⟨fun s' hs'=>wpAny_pyIter_dict hd.1 (hall _ (ho.at hs')) (upM (St.push hs' rfl s'.toks) ⟨_,_,rfl,rfl,⟨rfl,rfl⟩⟩)⟩,fun _=>spec_keys⟩ fun hw=>fun hs'=>hall _ (hw.at hs')).ex.run s hs⟩⟩
end
end
section
section
variable {e:E0} {x:Ctx e} {vs:List (Option Value)} {M I:Led} {k:Value→Sta→Prop}
theorem ForH.drop {as:Value→Sta→(Sta→Prop)→Prop} {B:Sta→(Flow→Sta→Prop)→Prop} {done:Sta→Prop} {kr:Value→Sta→Prop} {v:Value} {M':Led} {p:Addr × Obj} (h:Pick p M M') (q:ForH x as B done kr v ⟨vs,M',I⟩):ForH x as B done kr v ⟨vs,M,I⟩:=⟨q.ex.drop h⟩
set_option maxHeartbeats 1000000
theorem inlinedH {fv v:Value} {nb:Addr} {o:Obj} {K:Nat} {Mf:Obj→Led} {xs:List Str} {ts:List Tr} {bd:Tr} {most:Int} {tm:Tok}
    (r:Rep I (.node (.lett xs false) (ts ++ [bd])) v) (hnd:xs.Nodup) (hxl:xs.length ≤ 10) (hbs:∀ x ∈ xs,Base x) (hts:∀ t ∈ ts,GoodT t∧tsize t ≤ 60) (hG:GoodT bd) (hz:tsize bd ≤ 60)
    (hfr:∃ fa,fv = .ref fa) (hf:FreshI e I fv nb) (hn:NumsO e nb o K) (hM0:M = Mf o) (hp2:∀ o1 o2,Put nb o1 o2 (Mf o1) (Mf o2)) (hKK:K ≤ 1000000) (hr:20 ≤ x.c.room)
    (k1:∀ w,TakenW xs ts bd most w→(∀ x ∈ xs,w x = false)→∀ o' I',Sub I I'→k v ⟨vs,Mf o',I'⟩)
    (k2:∀ w,TakenW xs ts bd most w→xs.filter (fun x=>!w x) = []→∀ t' v' o' I',Ren (instOf w xs ts []) noN bd t'→Sub I I'→Rep I' t' v'→k v' ⟨vs,Mf o',I'⟩)
    (k3:∀ w,TakenW xs ts bd most w→xs.filter (fun x=>!w x) ≠ []→(∃ x,x ∈ xs∧w x = true)→∀ qs t' v' o' I',News1 (xs.filter fun x=>!w x) qs→Ren (instOf w xs ts qs) noN bd t'→Sub I I'→Rep I' (.node (.lett qs false) (sel (fun x=>!w x) xs ts ++ [t'])) v'→k v' ⟨vs,Mf o',I'⟩) :
    H x (call (.ref 533) [v,fv,.int most tm]) ⟨vs,M,I⟩ k:=by
  cases hM0
  refine let_elim r fun l b ps bs ks' kb e0 L hT hbd=>?_
  obtain ⟨rfl,e1⟩:=List.append_inj' e0 rfl
  cases e1
  obtain ⟨ln,hlm⟩:=L.lis
  have hB:=L.bnd
  have hlen:=hB.len
  have hpx:ps.length = xs.length:=hlen.1
  have hpl:ps.length ≤ 10:=hpx ▸ hxl
  have hpz:ps.length ≤ 10000000:=Nat.le_trans hpl (by decide)
  have htl:ts.length = xs.length:=hT.len.trans hlen.2
  obtain ⟨w,hw⟩:=taken_w (xs:=xs) (ts:=ts) (bd:=bd) (most:=most) hnd
  have hfl:∀ i,((xs.take i).filter fun x=>!w x).length ≤ 10:=fun i=>Nat.le_trans (List.length_filter_le _ _) (Nat.le_trans (by rw [List.length_take]; exact Nat.min_le_right _ _) hxl)
  refine fr533.run rfl hr fun x' hx=>isiR r rfl (getF L.is_rec g212_is_rec fun td to0 htd kl T=>getF (L.mono Sub.one).binds g212_binds (forH7 (S533 v fv (.int most tm) td kl (Mf o)) (F533 e td _ xs bs w) (to0,[],[],0,_,none,none) (itList (.inr (.tail _ hlm))) rfl ⟨htd,.start,.nil,Sub.refl⟩ (fun _ _ _ _ _ _ _ _ h=>srcL (.inr (h.2.2.2 _ (.tail _ hlm))))
    (fun i y o1 T1 kv m I2 u1 u2 it io hi hX h _ V9=>?step) fun o1 T1 kv m I2 u1 u2 h=>?rest))
  case step=>
    have hs:=Sub.one.trans h.2.2.2
    refine asgB hB hX hs fun z tz bv hz1 hb=>rep_i hT hb fun tk htk hrep=>getF (L.mono hs).body g212_body (is_takenH (hrep.mono hs) (hbd.mono hs) (rm hx rfl) (Nat.le_trans (hts tk (List.mem_of_getElem? htk)).2 (by decide)) (Nat.le_trans hz (by decide)) fun I3 s3=>cnd (fun h1=>?yes) fun h1=>?no)
    case yes=>
      have hwz:=(hw.tw i z tk hz1 htk).trans h1
      exact dSet h.1 (fun o'=>.tail (.tail .head)) (Nat.le_trans h.2.1.l (Nat.le_trans (Nat.le_of_lt hi) hpz)) fun o3 hd3=>V9.tnext (o3,stored T1 z bv,kv,m,I3,some (.str z tz),some bv) ⟨hd3,h.2.1.yes hnd hz1 hb hwz,(h.2.2.1.mono s3).sel0 hz1 hb hlen.2 (by rw [hwz]; rfl),h.2.2.2.trans s3⟩ Le.refl
    case no=>
      have hwz:=(hw.tw i z tk hz1 htk).trans h1
      exact mAppend (.inl (.tail _ (.head _))) fun r1=>appendH (.tail .head) (Nat.le_trans (Nat.le_of_eq h.2.2.1.len.1) (Nat.le_trans (hfl i) (by decide))) (V9.tnext (o1,T1,kv ++ [.ref r1],m + 1,(r1,tupO [.str z tz,bv] 0) :: I3,some (.str z tz),some bv) ⟨h.1,h.2.1.no hz1 hwz,h.2.2.1.sel1 (s3.trans Sub.one) hz1 hb hlen.2 (by rw [hwz]; rfl) ⟨r1,0,rfl,.head _⟩,h.2.2.2.trans (s3.trans Sub.one)⟩ Le.refl)
  case rest=>
    have hs:=Sub.one.trans h.2.2.2
    have hkv:=h.2.2.1.selW hpx (hpx.trans hlen.2.symm)
    have hkl:=hkv.len
    have hs2:Sub I ((td,o1) :: (kl,listO kv m) :: I2):=hs.trans Sub.one.cons
    refine fun ed eo hed=>eqD0 (.inl (.tail _ (.tail _ (.head _)))) h.1 (.inl (.head _)) hed (cnd (fun hTe=>retL (Le.drop .head (Le.drop .head (Le.drop .head Le.refl))) (k1 w hw.tw (h.2.1.noneT hpx hlen.2 hTe) o I2 hs)) fun hTe a=>H.drop (.tail .head) (H.freeze (.tail .head) (H.freeze (.tail .head) (eqL0 (.inr (.tail _ (.head _))) (.inl (.head _)) (cnd (fun hke=>H.drop .head ?all) fun hke=>?some)))))
    case all=>
      have hk0:xs.filter (fun x=>!w x) = []:=List.length_eq_zero_iff.mp (hkl.1.symm.trans (congrArg List.length (isEmpty_nil hke)))
      exact getF (L.mono hs2).body g212_body (substitutedH (hbd.mono hs2) hfr ⟨_,rfl⟩ (h.2.1.inst hw hpx hlen.2 hnd hT hs2 (.head _) h.1 hk0) (hw.goodI htl hnd hts []) (hf.mono hs2) hn rfl hp2 hG hz (Nat.le_trans (Nat.add_le_add hKK (Nat.mul_le_mul_left 60000 hz)) (by decide)) (rm hx rfl) fun t' v' o' I3 h1 h2 s3 h4=>retI (k2 w hw.tw hk0 t' v' o' I3 h1 (hs2.trans s3) h2))
    case some=>
      have hk0:xs.filter (fun x=>!w x) ≠ []:=fun q=>absurd (isEmpty_pos hke) (by rw [hkl.1,q]; decide)
      have hkv0:=hkv.mono (Sub.one.cons:Sub I2 ((td,o1) :: (kl,listO kv m) :: I2))
      have hkz:kv.length ≤ 10:=hkl.1 ▸ Nat.le_trans (List.length_filter_le _ _) hxl
      have hfnd:(xs.filter fun x=>!w x).Nodup:=hnd.filter _
      have hTl:T1.length ≤ 10:=Nat.le_trans h.2.1.l hpl
      obtain ⟨av,avk,hfi,hfr2⟩:=hf.mono hs2
      refine fun wd wo hwd=>ForH.drop (.tail .head) (forH6 (S533b v fv (.int most tm) td kl wd Mf _) (F533b e wd nb (xs.filter fun x=>!w x) K) (o,wo,[],[],u1,u2) (itList (.inr (.tail _ (.head _)))) rfl ⟨hwd,⟨Nat.le_refl _,.nil,fun _=>rfl⟩,hn⟩ (fun _ _ _ _ _ _ _ _=>srcL (.inr (.tail _ (.head _))))
        (fun i y o3 wo3 Nk qs u3 u4 it io hi hX h3 _ V9=>asgB hkv0 hX Sub.refl fun z tz bv hz1 hb=>methH hfi m510_next rfl rfl (nextH (hbs z (List.mem_filter.mp (List.mem_of_getElem? hz1)).1) ⟨av,avk,hfi,hfr2⟩ h3.2.2 ?kb (fun o'=>.tail (.tail (hp2 o3 o'))) (rm hx rfl) fun q tq o4 hq hno4=>
          dSet h3.1 (fun o'=>.tail .head) (Nat.le_trans h3.2.1.l (Nat.le_trans (Nat.le_of_lt hi) (Nat.le_trans hkz (by decide)))) fun wo4 hd4=>V9.tnext (o4,wo4,stored Nk z (.str q tq),qs ++ [q],some (.str z tz),some bv) ⟨hd4,h3.2.1.next hz1 hq,hno4⟩ Le.refl))
        fun o3 wo3 Nk qs u3 u4 h3=>H.freeze .head (dCopy (.inr (.tail _ (.head _))) h.1 (Nat.le_trans hTl (by decide)) fun jd jo hjd=>?two))
      case kb=>exact Nat.le_trans (Nat.add_le_add hKK (Nat.le_trans (Nat.le_of_lt hi) hkz)) (by decide)
      have hN:=h3.2.1.whole hkl.1
      have hkm:=h3.2.1.l
      refine forKeys (.inr (.head _)) h3.1 fun ep nd hI hsrc=>forH5 (S533c v fv (.int most tm) td kl wd jd (Mf o3)) (F533c e jd _ (xs.filter fun x=>!w x) qs T1 Nk) (jo,T1,_,u3,u4) hI rfl ⟨hjd,.start,Sub.refl⟩ (fun _ _ _ _ _ _ h5=>hsrc (.inr (h5.2.2 _ (.head _))))
        (fun i y jo2 J I5 u5 u6 it io hi hX h5 _ V9=>key_e hN.2.2 nd hX fun ky tk q tq ey hk hv hq=>?st3) fun jo2 J I5 u5 u6 h5=>CompH.freeze .head ?cmp
      case st3=>
        cases ey
        exact dItem (.inr (h5.2.2 _ (.head _))) h3.1 hv (new52 (rm hx rfl) fun v5 I6 s6 hv5=>dSet h5.1 (fun o'=>.tail .head) (Nat.le_trans h5.2.1.l (le7 (Nat.le_trans hTl (by decide)) (Nat.le_trans (Nat.le_of_lt hi) (Nat.le_trans hkm (Nat.le_trans hkz (by decide)))))) fun jo3 hd3=>V9.tnext (jo3,stored J ky (.ref v5),I6,some (.str ky tk),u6) ⟨hd3,h5.2.1.next s6 hk hq hv5,h5.2.2.trans s6⟩ Le.refl)
      have s5:Sub ((td,o1) :: (kl,listO kv m) :: I2) ((jd,jo2) :: I5):=Sub.one.trans (h5.2.2.trans Sub.one)
      refine compH (S533d (Mf o3)) (F533d ((jd,jo2) :: I5) qs (sel (fun x=>!w x) xs bs)) _ (itList (.inr (s5 _ (.tail _ (.head _))))) rfl ⟨Sub.refl,.nil⟩ (Nat.le_trans hkz (by decide)) (fun _ _ _ h6=>srcL (.inr (h6.1 _ (s5 _ (.tail _ (.head _))))))
        (fun x2 hr2 i p zs I6 it io m2 acc u7 hi hX h6 _ V9=>asgB hkv0 hX (s5.trans h6.1) fun z tz bv hz1 hb=>new_at hN.2.1 hN.2.2 hfnd hz1 fun y t hq hvv=>dItem (.inr (h6.1 _ (.tail _ (h5.2.2 _ (.head _))))) h3.1 hvv fun r=>V9.ce (S:=S533d (Mf o3)) _ ⟨h6.1.trans Sub.one,h6.2.next Sub.one hq hb ⟨r,0,rfl,.head _⟩⟩ Le.refl rfl)
        fun acc zs I6 m2 h6=>H.freeze .head (getF (L.mono ?s7).body g212_body (substitutedH (hbd.mono ?s7) hfr ⟨_,rfl⟩ (h5.2.1.inst rfl hN.2.2 h.2.1 hw hpx hlen.2 hnd hT ?sj ?s7 ?jm h5.1) (hw.goodI htl hnd hts qs) (hf.mono ?s7) (h3.2.2.le (K':=K + 10) (Nat.add_le_add_left hkz K)) rfl hp2 hG hz ?kz (rm hx rfl) fun t' v' o' I7 h7 h8 s8 h9=>new212 (rm hx rfl) fun v9 I8 s9 hv9=>
          retI (k3 w hw.tw hk0 (h.2.1.someT hTe) qs t' (.ref v9) o' I8 hN.2.1 h7 ?sA ?rep)))
      case s7=>exact hs2.trans (s5.trans (h6.1.trans Sub.one))
      case sj=>exact Sub.one.trans (h6.1.trans Sub.one)
      case jm=>exact .tail _ (h6.1 _ (.head _))
      case kz=>exact Nat.le_trans (Nat.add_le_add (Nat.add_le_add_right hKK 10) (Nat.mul_le_mul_left 60000 hz)) (by decide)
      case sA=>exact hs2.trans (s5.trans (h6.1.trans (Sub.one.trans (s8.trans s9))))
      case rep=>
        obtain ⟨va,rfl⟩:=h8.ref
        have sB:=(Sub.one:Sub I6 ((acc,listO zs m2) :: I6)).trans (s8.trans s9)
        have hql:=hN.2.1.len
        have hP:=h6.2.whole (hkl.1.trans hql) (hkl.1.trans hkl.2.symm)
        exact let_new ⟨hv9,⟨m2,(s8.trans s9) _ (.head _)⟩,hP.mono sB⟩ ((hT.sel hlen.2.symm).mono (hs2.trans (s5.trans (h6.1.trans sB)))) (h8.mono s9)
end
end
section
noncomputable abbrev tV (x:Str):Tr:=.node (.var x) []
noncomputable abbrev upd1 (N:Str→Option Str) (x y:Str):Str→Option Str:=fun z=>if z = x then some y else N z
theorem ren_leaf {i N h t'} (hh:(clsOf h == 52) = false) (r:Ren i N (.node h []) t'):t' = .node h []:=by
  cases r with
  | var _=>cases hh
  | keep _ _=>cases hh
  | inst _ _ _=>cases hh
  | leaf _=>rfl
@[elab_as_elim] theorem ren_var_e {i N x t'} {P:Tr→Prop} (r:Ren i N (tV x) t') (h1:∀ y,N x = some y→P (tV y)) (h2:N x = none→i x = none→P (tV x)) (h3:∀ t t',N x = none→i x = some t→Ren noI noN t t'→P t'):P t':=by
  cases r with
  | var h=>exact h1 _ h
  | keep h k=>exact h2 h k
  | inst h k q=>exact h3 _ _ h k q
  | leaf h=>cases h
theorem ren_var {i N x t'} (r:Ren i N (tV x) t'):(∃ y,N x = some y∧t' = tV y)∨(N x = none∧i x = none∧t' = tV x)∨(N x = none∧∃ t,i x = some t∧Ren noI noN t t'):=
  ren_var_e r (fun y h=>.inl ⟨y,h,rfl⟩) (fun h k=>.inr (.inl ⟨h,k,rfl⟩)) fun t t' h k q=>.inr (.inr ⟨h,t,k,q⟩)
theorem news2_nil {yss} (h:News2 [] yss):yss = []:=by cases h; rfl
@[elab_as_elim] theorem news2_one {P:List (List Str)→Prop} {x:Str} {yss} (h:News2 [[x]] yss) (q:∀ y,NewName x y→P [[y]]):P yss:=by
  cases h with
  | cons h1 h2=>
  cases h2
  cases h1 with
  | cons h1 h2=>
  cases h2
  exact q _ h1
section
variable {i:Str→Option Tr} {N:Str→Option Str} {h:Hd} {k a b c:Tr} {ks:List Tr}
@[elab_as_elim] theorem ren_node {P:Tr→Prop} {t'} (r:Ren i N (.node h (k :: ks)) t') (q:∀ yss ks',News2 (gps h) yss→Rens i (ctxN h N yss (k :: ks).length) (k :: ks) ks'→P (.node (reHd h yss) ks')):P t':=by
  cases r with
  | node h1 h2=>exact q _ _ h1 h2
@[elab_as_elim] theorem rens_cons {Ns} {P:List Tr→Prop} {ks'} (r:Rens i (N :: Ns) (k :: ks) ks') (q:∀ k' r',Ren i N k k'→Rens i Ns ks r'→P (k' :: r')):P ks':=by
  cases r with
  | cons h1 h2=>exact q _ _ h1 h2
@[elab_as_elim] theorem rens_nil {P:List Tr→Prop} {ks'} (r:Rens i [] [] ks') (q:P []):P ks':=by cases r; exact q
@[elab_as_elim] theorem rens_1 {P:List Tr→Prop} {ks'} (r:Rens i [N] [a] ks') (q:∀ a',Ren i N a a'→P [a']):P ks':=rens_cons r fun a' r' h1 h2=>rens_nil h2 (q a' h1)
@[elab_as_elim] theorem rens_2 {N2} {P:List Tr→Prop} {ks'} (r:Rens i [N,N2] [a,b] ks') (q:∀ a' b',Ren i N a a'→Ren i N2 b b'→P [a',b']):P ks':=rens_cons r fun a' r' h1 h2=>rens_1 h2 fun b' h2=>q a' b' h1 h2
@[elab_as_elim] theorem rens_3 {N2 N3} {P:List Tr→Prop} {ks'} (r:Rens i [N,N2,N3] [a,b,c] ks') (q:∀ a' b' c',Ren i N a a'→Ren i N2 b b'→Ren i N3 c c'→P [a',b',c']):P ks':=rens_cons r fun a' r' h1 h2=>rens_2 h2 fun b' c' h2 h3=>q a' b' c' h1 h2 h3
@[elab_as_elim] theorem ren_plain (hg:gps h = []) (hc:∀ n,scs h n = List.replicate n false) (hr:reHd h [] = h) {P:Tr→Prop} {t'} (r:Ren i N (.node h (k :: ks)) t') (q:∀ ks',Rens i (List.replicate (k :: ks).length N) (k :: ks) ks'→P (.node h ks')):P t':=
  ren_node r fun yss ks' h1 h2=>by
    rw [hg] at h1
    have e:=news2_nil h1
    subst e
    rw [hr]
    refine q ks' ?_
    unfold ctxN at h2
    rw [hc,List.map_replicate] at h2
    exact h2
variable {x:Str}
@[elab_as_elim] theorem ren_con1 {P:Tr→Prop} {t'} (r:Ren i N (.node (.con x) [a]) t') (q:∀ a',Ren i N a a'→P (.node (.con x) [a'])):P t':=ren_plain rfl (fun _=>rfl) rfl r fun ks' h=>rens_1 (P:=fun ks'=>P (.node (.con x) ks')) h q
@[elab_as_elim] theorem ren_con2 {P:Tr→Prop} {t'} (r:Ren i N (.node (.con x) [a,b]) t') (q:∀ a' b',Ren i N a a'→Ren i N b b'→P (.node (.con x) [a',b'])):P t':=ren_plain rfl (fun _=>rfl) rfl r fun ks' h=>rens_2 (P:=fun ks'=>P (.node (.con x) ks')) h q
@[elab_as_elim] theorem ren_con3 {P:Tr→Prop} {t'} (r:Ren i N (.node (.con x) [a,b,c]) t') (q:∀ a' b' c',Ren i N a a'→Ren i N b b'→Ren i N c c'→P (.node (.con x) [a',b',c'])):P t':=ren_plain rfl (fun _=>rfl) rfl r fun ks' h=>rens_3 (P:=fun ks'=>P (.node (.con x) ks')) h q
@[elab_as_elim] theorem ren_app2 {P:Tr→Prop} {t'} (r:Ren i N (.node .app [a,b]) t') (q:∀ a' b',Ren i N a a'→Ren i N b b'→P (.node .app [a',b'])):P t':=ren_plain rfl (fun _=>rfl) rfl r fun ks' h=>rens_2 (P:=fun ks'=>P (.node .app ks')) h q
theorem ren_con {t'} (r:Ren i N (.node (.con x) (k :: ks)) t'):∃ ks',t' = .node (.con x) ks'∧Rens i (List.replicate (k :: ks).length N) (k :: ks) ks':=ren_plain rfl (fun _=>rfl) rfl r fun ks' h=>⟨ks',rfl,h⟩
@[elab_as_elim] theorem ren_lam {P:Tr→Prop} {t'} (r:Ren i N (.node (.lam x) [b]) t') (q:∀ v b',NewName x v→Ren i (upd1 N x v) b b'→P (.node (.lam v) [b'])):P t':=
  ren_node r fun yss ks' h1=>news2_one (P:=fun yss=>Rens i (ctxN (.lam x) N yss 1) [b] ks'→P (.node (reHd (.lam x) yss) ks')) h1 fun y hy h2=>rens_1 (N:=upd1 N x y) (P:=fun ks'=>P (.node (.lam y) ks')) h2 fun b' hb=>q y b' hy hb
@[elab_as_elim] theorem ren_let1 {r0:Bool} {P:Tr→Prop} {t'} (r:Ren i N (.node (.lett [x] r0) [a,b]) t') (q:∀ y a' b',NewName x y→Ren i (if r0 then upd1 N x y else N) a a'→Ren i (upd1 N x y) b b'→P (.node (.lett [y] r0) [a',b'])):P t':=
  ren_node r fun yss ks' h1=>news2_one (P:=fun yss=>Rens i (ctxN (.lett [x] r0) N yss 2) [a,b] ks'→P (.node (reHd (.lett [x] r0) yss) ks')) h1 fun y hy h2=>rens_2 (N:=if r0 then upd1 N x y else N) (N2:=upd1 N x y) (P:=fun ks'=>P (.node (.lett [y] r0) ks')) h2 fun a' b' ha hb=>q y a' b' hy ha hb
end
theorem ren_let1_ex {i N x r0 h b t'} (r:Ren i N (.node (.lett [x] r0) [h,b]) t'):∃ y h' b',NewName x y∧t' = .node (.lett [y] r0) [h',b']∧Ren i (if r0 then upd1 N x y else N) h h'∧Ren i (upd1 N x y) b b':=ren_let1 r fun y h' b' h1 h2 h3=>⟨y,h',b',h1,rfl,h2,h3⟩
def RN (N:Str→Option Str) (x y:Str):Prop:=N x = some y∨(N x = none∧y = x)
@[elab_as_elim] theorem ren_varN {N x} {P:Tr→Prop} {t'} (r:Ren noI N (tV x) t') (q:∀ y,RN N x y→P (tV y)):P t':=by
  exact ren_var_e r (fun y h=>q y (.inl h)) (fun h _=>q x (.inr ⟨h,rfl⟩)) fun t t' _ h _=>nomatch h
theorem ren_part {N xs p p'} (h:PartT xs p) (r:Ren noI N p p'):PartR (fun x y=>x ∈ xs∧RN N x y) p p':=by
  cases h with
  | lit n=>rw [ren_leaf rfl r]; exact .lit n
  | err=>rw [ren_leaf rfl r]; exact .err
  | con x hx=>exact ren_con2 r fun a' b' k1 k2=>by rw [ren_leaf rfl k2]; exact ren_varN k1 fun y hy=>.con x y ⟨hx,hy⟩
  | var x hx=>exact ren_varN r fun y hy=>.var x y ⟨hx,hy⟩
theorem ren_body {N xs p p'} (h:BodyT xs p) (r:Ren noI N p p'):BodyR (fun x y=>x ∈ xs∧RN N x y) p p':=by
  cases h with
  | mk h1 h2 h3=>exact ren_con3 r fun a' b' c' k1 k2 k3=>.mk (ren_part h1 k1) (ren_part h2 k2) (ren_part h3 k3)
theorem part_refl {xs p} (h:PartT xs p):PartR (fun x y=>x ∈ xs∧y = x) p p:=by
  cases h with
  | lit n=>exact .lit n
  | err=>exact .err
  | con x hx=>exact .con x x ⟨hx,rfl⟩
  | var x hx=>exact .var x x ⟨hx,rfl⟩
theorem body_refl {xs p} (h:BodyT xs p):BodyR (fun x y=>x ∈ xs∧y = x) p p:=by
  cases h with
  | mk h1 h2 h3=>exact .mk (part_refl h1) (part_refl h2) (part_refl h3)
theorem RN.no {x y} (h:RN noN x y):y = x:=by
  rcases h with h | ⟨_,h⟩
  · cases h
  · exact h
theorem RN.upd {N x0 y0 x y} (h:RN (upd1 N x0 y0) x y):(x = x0∧y = y0)∨(x ≠ x0∧RN N x y):=by
  by_cases q:x = x0
  · subst q
    rcases h with h | ⟨h,_⟩
    · rw [show upd1 N x y0 x = some y0 from if_pos rfl] at h; cases h; exact .inl ⟨rfl,rfl⟩
    · rw [show upd1 N x y0 x = some y0 from if_pos rfl] at h; cases h
  · refine .inr ⟨q,?_⟩
    unfold RN at h
    simp only [upd1,if_neg q] at h
    exact h
theorem NewName.ne {b q x:Str} (h:NewName b q) (hb:1 ≤ b.length) (hx:x.length ≤ 1):x ≠ q:=by
  intro e
  subst e
  have:=h.len
  lia
noncomputable abbrev sx:Str:=Str.ofString "x"
noncomputable abbrev sy:Str:=Str.ofString "y"
noncomputable abbrev sz:Str:=Str.ofString "z"
noncomputable abbrev su:Str:=Str.ofString "u"
noncomputable abbrev sv:Str:=Str.ofString "v"
theorem letL1 {n x r0 h b E d t' E'} (hE:esize E ≤ 1000) (k:Same n b (if r0 then .recs [x] [h] E else .one x h E E) t' E' d):Same (n + 1) (.node (.lett [x] r0) [h,b]) E t' E' d:=
  same_letL (ks:=[h]) hE (by simp) rfl k
theorem letR1 {n x r0 h b E d t' E'} (hE:esize E ≤ 1000) (k:Same n t' E' b (if r0 then .recs [x] [h] E else .one x h E E) d):Same (n + 1) t' E' (.node (.lett [x] r0) [h,b]) E d:=
  same_letR (ks:=[h]) hE (by simp) rfl k
theorem look_one {x t h r y}:lookE (.one x t h r) y = if y = x then some (t,h) else lookE r y:=rfl
theorem look_rec1 {x t r y}:lookE (.recs [x] [t] r) y = if y = x then some (t,.recs [x] [t] r) else lookE r y:=by
  show (match lookT [x] [t] y with | some u=>some (u,En.recs [x] [t] r) | none=>lookE r y) = _
  by_cases h:y = x
  · simp [lookT,h]
  · simp [lookT,h]
inductive HeldT:Bool→Tr→Prop
  | non {p}:PartT [sx,sy,sz] p→HeldT false p
  | knot {p}:PartT [sx,sy,sz] p→HeldT true (.node (.con (Str.ofString "K")) [tV sy,p])
theorem len1 {x:Str} (h:x ∈ [sx,sy,sz,su,sv]):x.length = 1:=by
  have:∀ y ∈ [sx,sy,sz,su,sv],y.length = 1:=by decide +kernel
  exact this x h
theorem lenx:sx.length = 1:=len1 (by simp)
theorem leny:sy.length = 1:=len1 (by simp)
theorem mem3 {x:Str} (h:x ∈ [sx,sy,sz]):x.length = 1:=len1 (by simp at h ⊢; rcases h with h | h | h <;> simp [h])
theorem law_y {r0 held held' y'} (h:HeldT r0 held) (hy:NewName sy y') (r:Ren noI (if r0 then upd1 noN sy y' else noN) held held'):∀ d,Same (3 * d + 3) (tV sy) (if r0 then .recs [sy] [held] .nil else .one sy held .nil .nil) (tV y') (if r0 then .recs [y'] [held'] .nil else .one y' held' .nil .nil) d:=by
  cases h with
  | non hp=>
    intro d
    have r:Ren noI noN held held':=r
    refine same_look (n:=3 * d + 2) (t:=held) (t':=held') (E1:=.nil) (E1':=.nil) (by simp [look_one]) (by simp [look_one]) ?_
    refine same_part (n:=3 * d) (by simp [esize]) (by simp [esize]) (ren_part hp r) fun x y q d' _=>?_
    have:=q.2.no
    subst this
    exact same_free (by simp [esize]) (by simp [esize]) rfl rfl
  | @knot p hp=>
    have r:Ren noI (upd1 noN sy y') _ held':=r
    refine ren_con2 r fun a' b' k1 k2=>ren_varN k1 fun y hy1=>?_
    have hyy:y = y':=by
      rcases hy1.upd with ⟨_,q⟩ | ⟨q,_⟩
      · exact q
      · exact absurd rfl q
    subst hyy
    have hpr:=ren_part hp k2
    simp only [if_true]
    intro d
    induction d using Nat.strongRecOn with
    | ind d ih=>
    refine same_look (n:=3 * d + 2) (by rw [look_rec1,if_pos rfl]) (by rw [look_rec1,if_pos rfl]) ?_
    refine same_con (n:=3 * d + 1) (by simp [esize]) (by simp [esize]) (by simp) rfl fun d' hd i a b q1 q2=>?_
    subst hd
    match i,q1,q2 with
    | 0,q1,q2=>cases q1; cases q2; exact (ih d' (by lia)).mono (by lia)
    | 1,q1,q2=>
      cases q1; cases q2
      refine same_part (n:=3 * d' + 2) (by simp [esize]) (by simp [esize]) hpr fun x z q d2 hd2=>?_
      rcases q.2.upd with ⟨q1,q2⟩ | ⟨q1,q2⟩
      · subst q1 q2
        exact (ih d2 (by lia)).mono (by lia)
      · have:=q2.no
        subst this
        have hne:=hy.ne (by rw [leny]; lia) (Nat.le_of_eq (mem3 q.1))
        exact same_free (by simp [esize]) (by simp [esize]) (by rw [look_rec1,if_neg q1]; rfl) (by rw [look_rec1,if_neg hne]; rfl)
    | i + 2,q1,q2=>simp at q1
theorem law_let_of_let {r0 held b2 b1 ys ks' kb} (hh:HeldT r0 held) (h2:BodyT [sy,sy,sx] b2) (h1:BodyT [sx,sx,sy] b1) (r:Ren noI noN (.node (.lett [sy] r0) [held,b2]) (.node (.lett ys r0) (ks' ++ [kb]))) :
    Same 60 (.node (.lett [sx] false) [.node (.lett [sy] r0) [held,b2],b1]) .nil (.node (.lett ys r0) (ks' ++ [.node (.lett [sx] false) [kb,b1]])) .nil 3∧∃ k kks,kb = .node (.con k) kks:=by
  obtain ⟨y',held',b2',hy,e,rh,rb⟩:=ren_let1_ex r
  injection e with e1 e2
  injection e1 with e1 _
  subst e1
  have e3:ks' = [held']∧kb = b2':=(List.append_inj' (t₁:=[kb]) (s₂:=[held']) (t₂:=[b2']) e2 rfl).imp_right fun q=>(List.cons.inj q).1
  obtain ⟨rfl,rfl⟩:=e3
  have hA:=law_y hh hy rh
  have hb2:=ren_body h2 rb
  have hnx:=hy.ne (x:=sx) (by rw [leny]; lia) (by rw [lenx]; lia)
  have hny:=hy.ne (x:=sy) (by rw [leny]; lia) (by rw [leny]; lia)
  have hxy:sx ≠ sy:=by decide +kernel
  refine ⟨?_,?_⟩
  · refine Same.mono (n:=22) ?_ (by lia)
    refine letL1 (by simp [esize]) ?_
    refine letR1 (n:=20) (by simp [esize]) ?_
    refine letR1 (n:=19) (by cases r0 <;> simp [esize]) ?_
    simp only [Bool.false_eq_true,if_false]
    refine same_body (n:=16) (by simp [esize]) (by cases r0 <;> simp [esize]) (body_refl h1) fun x y q d' hd'=>?_
    obtain ⟨q1,q2⟩:=q
    subst q2
    by_cases hx:y = sx
    · subst hx
      refine same_look (n:=16) (by rw [look_one,if_pos rfl]) (by rw [look_one,if_pos rfl]) ?_
      refine letL1 (n:=15) (by simp [esize]) ?_
      refine (same_body (n:=12) (d:=d') (by cases r0 <;> simp [esize]) (by cases r0 <;> simp [esize]) hb2 fun x z q d2 hd2=>?_)
      rcases q.2.upd with ⟨q1,q2⟩ | ⟨q1,q2⟩
      · subst q1 q2
        exact (hA d2).mono (by lia)
      · have:=q2.no
        subst this
        have hzx:z = sx:=by
          have:=q.1
          simp at this
          rcases this with q | q
          · exact absurd q q1
          · exact q
        subst hzx
        refine same_free (by cases r0 <;> simp [esize]) (by cases r0 <;> simp [esize]) ?_ ?_
        · cases r0
          · simp only [Bool.false_eq_true,if_false]; rw [look_one,if_neg q1]; rfl
          · simp only [if_true]; rw [look_rec1,if_neg q1]; rfl
        · cases r0
          · simp only [Bool.false_eq_true,if_false]; rw [look_one,if_neg hnx]; rfl
          · simp only [if_true]; rw [look_rec1,if_neg hnx]; rfl
    · have hyy:y = sy:=by
        simp at q1
        rcases q1 with q | q
        · exact absurd q hx
        · exact q
      subst hyy
      refine same_free (by simp [esize]) (by cases r0 <;> simp [esize]) (by rw [look_one,if_neg hx]; rfl) ?_
      rw [look_one,if_neg hx]
      cases r0
      · simp only [Bool.false_eq_true,if_false]; rw [look_one,if_neg hny]; rfl
      · simp only [if_true]; rw [look_rec1,if_neg hny]; rfl
  · cases hb2 with
    | mk=>exact ⟨_,_,rfl⟩
end
section
theorem fv_var {x:Str}:fvOf (tV x) = [x]:=rfl
theorem fv_K {k k':Str} {n:Int} {x:Str}:fvOf (.node (.con k) [tV x,.node (.lit k' n) []]) = [x]:=rfl
theorem fv_K1 {k:Str} {x:Str}:fvOf (.node (.con k) [tV x]) = [x]:=rfl
theorem us_K1 {k:Str} {x:Str}:usOf (.node (.con k) [tV x]) = [x]:=rfl
theorem part_fv {xs p} (h:PartT xs p):PartR (fun x y=>x ∈ xs∧x ∈ fvOf p∧y = x) p p:=by
  cases h with
  | lit n=>exact .lit n
  | err=>exact .err
  | con x hx=>exact .con x x ⟨hx,(by rw [fv_K]; exact .head _),rfl⟩
  | var x hx=>exact .var x x ⟨hx,(by rw [fv_var]; exact .head _),rfl⟩
theorem same_part_free {n xs p E E' d} (h:PartT xs p) (hE:esize E ≤ 1000) (hE':esize E' ≤ 1000) (k:∀ x ∈ xs,x ∈ fvOf p→lookE E x = none∧lookE E' x = none):Same (n + 2) p E p E' d:=by
  refine same_part hE hE' (part_fv h) fun x y q d' _=>?_
  obtain ⟨q1,q2,q3⟩:=q
  subst q3
  exact same_free hE hE' (k _ q1 q2).1 (k _ q1 q2).2
theorem ne_xy:sx ≠ sy:=by decide +kernel
theorem ne_xu:sx ≠ su:=by decide +kernel
theorem ne_yu:sy ≠ su:=by decide +kernel
theorem law_parted2 {t1 t2 b} (h1:PartT [sx,sy,su,su,su] t1) (h2:PartT [sx,sy,su,su,su] t2) (hb:BodyT [sx,sy,su] b) (hc:¬ Clash [sx,sy] [t1,t2]) :
    Same 60 (.node (.lett [sx,sy] false) [t1,t2,b]) .nil (nestT [sx,sy] [t1,t2] b) .nil 3:=by
  have c2:sx ∉ fvOf t2:=fun q=>hc ⟨1,t2,sx,by lia,rfl,q,by simp⟩
  refine Same.mono (n:=22) ?_ (by lia)
  refine same_letL (n:=21) (ks:=[t1,t2]) (by simp [esize]) (by simp) rfl ?_
  refine letR1 (n:=20) (by simp [esize]) ?_
  refine letR1 (n:=19) (by simp [esize]) ?_
  simp only [Bool.false_eq_true,if_false,ones]
  refine same_body (n:=16) (by simp [esize]) (by simp [esize]) (body_refl hb) fun x y q d' hd'=>?_
  obtain ⟨q1,q2⟩:=q
  subst q2
  by_cases hy:y = sy
  · subst hy
    refine same_look (n:=16) (by rw [look_one,if_pos rfl]) (by rw [look_one,if_pos rfl]) ?_
    exact same_part_free (n:=14) h2 (by simp [esize]) (by simp [esize]) fun a _ ha=>⟨rfl,by rw [look_one,if_neg (fun q:a = sx=>c2 (q ▸ ha))]; rfl⟩
  · by_cases hx:y = sx
    · subst hx
      refine same_look (n:=16) (by rw [look_one,if_neg hy,look_one,if_pos rfl]) (by rw [look_one,if_neg hy,look_one,if_pos rfl]) ?_
      exact same_part_free (n:=14) h1 (by simp [esize]) (by simp [esize]) fun a _ ha=>⟨rfl,rfl⟩
    · exact same_free (by simp [esize]) (by simp [esize]) (by rw [look_one,if_neg hy,look_one,if_neg hx]; rfl) (by rw [look_one,if_neg hy,look_one,if_neg hx]; rfl)
theorem law_parted3 {t1 t2 t3 b} (h1:PartT [sx,sy,su,su,su] t1) (h2:PartT [sx,sy,su,su,su] t2) (h3:PartT [sx,sy,su,su,su] t3) (hb:BodyT [sx,sy,sz,su] b) (hc:¬ Clash [sx,sy,sz] [t1,t2,t3]) :
    Same 60 (.node (.lett [sx,sy,sz] false) [t1,t2,t3,b]) .nil (nestT [sx,sy,sz] [t1,t2,t3] b) .nil 3:=by
  have c2:sx ∉ fvOf t2:=fun q=>hc ⟨1,t2,sx,by lia,rfl,q,by simp⟩
  have c3:sx ∉ fvOf t3:=fun q=>hc ⟨2,t3,sx,by lia,rfl,q,by simp⟩
  have c4:sy ∉ fvOf t3:=fun q=>hc ⟨2,t3,sy,by lia,rfl,q,by simp⟩
  refine Same.mono (n:=23) ?_ (by lia)
  refine same_letL (n:=22) (ks:=[t1,t2,t3]) (by simp [esize]) (by simp) rfl ?_
  refine letR1 (n:=21) (by simp [esize]) ?_
  refine letR1 (n:=20) (by simp [esize]) ?_
  refine letR1 (n:=19) (by simp [esize]) ?_
  simp only [Bool.false_eq_true,if_false,ones]
  refine same_body (n:=16) (by simp [esize]) (by simp [esize]) (body_refl hb) fun x y q d' hd'=>?_
  obtain ⟨q1,q2⟩:=q
  subst q2
  by_cases hz:y = sz
  · subst hz
    refine same_look (n:=16) (by rw [look_one,if_pos rfl]) (by rw [look_one,if_pos rfl]) ?_
    exact same_part_free (n:=14) h3 (by simp [esize]) (by simp [esize]) fun a _ ha=>⟨rfl,by rw [look_one,if_neg (fun q:a = sy=>c4 (q ▸ ha)),look_one,if_neg (fun q:a = sx=>c3 (q ▸ ha))]; rfl⟩
  · by_cases hy:y = sy
    · subst hy
      refine same_look (n:=16) (by rw [look_one,if_neg hz,look_one,if_pos rfl]) (by rw [look_one,if_neg hz,look_one,if_pos rfl]) ?_
      exact same_part_free (n:=14) h2 (by simp [esize]) (by simp [esize]) fun a _ ha=>⟨rfl,by rw [look_one,if_neg (fun q:a = sx=>c2 (q ▸ ha))]; rfl⟩
    · by_cases hx:y = sx
      · subst hx
        refine same_look (n:=16) (by rw [look_one,if_neg hz,look_one,if_neg hy,look_one,if_pos rfl]) (by rw [look_one,if_neg hz,look_one,if_neg hy,look_one,if_pos rfl]) ?_
        exact same_part_free (n:=14) h1 (by simp [esize]) (by simp [esize]) fun a _ ha=>⟨rfl,rfl⟩
      · exact same_free (by simp [esize]) (by simp [esize]) (by rw [look_one,if_neg hz,look_one,if_neg hy,look_one,if_neg hx]; rfl) (by rw [look_one,if_neg hz,look_one,if_neg hy,look_one,if_neg hx]; rfl)
inductive ArgT:Tr→Prop
  | part {p}:PartT [sx,sy] p→ArgT p
  | lett {h b}:PartT [sx,sy] h→BodyT [sx,sy] b→ArgT (.node (.lett [sx] false) [h,b])
theorem mid_at {a b u v:Tr} {pre post:List Tr} {i:Nat} (h:(pre ++ a :: post)[i]? = some u) (k:(pre ++ b :: post)[i]? = some v):(u = a∧v = b)∨(u = v∧u ∈ pre ++ a :: post):=by
  induction pre generalizing i with
  | nil=>
    cases i with
    | zero=>simp at h k; exact .inl ⟨h.symm,k.symm⟩
    | succ i=>
      have h:post[i]? = some u:=h
      have k:post[i]? = some v:=k
      rw [h] at k; cases k
      exact .inr ⟨rfl,.tail _ (List.mem_of_getElem? h)⟩
  | cons p pre ih=>
    cases i with
    | zero=>simp at h k; subst h; exact .inr ⟨k,.head _⟩
    | succ i=>
      rcases ih (i:=i) h k with q | ⟨q,r⟩
      · exact .inl q
      · exact .inr ⟨q,.tail _ r⟩
theorem same_arg {u x' h' d} (hu:ArgT u) (hx:sx ≠ x') (hy:sy ≠ x'):Same 20 u .nil u (.one x' h' .nil .nil) d:=by
  cases hu with
  | part hp=>
    refine same_part_free (n:=18) hp (by simp [esize]) (by simp [esize]) fun a ha _=>⟨rfl,?_⟩
    rw [look_one,if_neg]
    · rfl
    · intro q
      simp at ha
      rcases ha with r | r
      · exact hx (r ▸ q)
      · exact hy (r ▸ q)
  | @lett h b hp hb=>
    refine letL1 (n:=19) (by simp [esize]) (letR1 (n:=18) (by simp [esize]) ?_)
    simp only [Bool.false_eq_true,if_false]
    refine same_body (n:=15) (by simp [esize]) (by simp [esize]) (body_refl hb) fun x y q d' hd'=>?_
    obtain ⟨q1,q2⟩:=q
    subst q2
    by_cases hyx:y = sx
    · subst hyx
      refine same_look (n:=15) (by rw [look_one,if_pos rfl]) (by rw [look_one,if_pos rfl]) ?_
      refine same_part_free (n:=13) hp (by simp [esize]) (by simp [esize]) fun a ha _=>⟨rfl,?_⟩
      rw [look_one,if_neg]
      · rfl
      · intro q
        simp at ha
        rcases ha with r | r
        · exact hx (r ▸ q)
        · exact hy (r ▸ q)
    · have hyy:y = sy:=by
        simp at q1
        rcases q1 with q | q
        · exact absurd q hyx
        · exact q
      subst hyy
      exact same_free (by simp [esize]) (by simp [esize]) (by rw [look_one,if_neg hyx]; rfl) (by rw [look_one,if_neg hyx,look_one,if_neg hy]; rfl)
theorem law_args {hd pre tl post ys r0 ks' kb} (hh:(∃ k,hd = Hd.con k)∨∃ k,hd = Hd.prim k) (hA:∀ u ∈ pre ++ tl :: post,ArgT u) (hl:(pre ++ tl :: post).length ≤ 1000) (ht:headLet tl = true) (r:Ren noI noN tl (.node (.lett ys r0) (ks' ++ [kb]))) :
    Same 60 (.node hd (pre ++ tl :: post)) .nil (.node (.lett ys r0) (ks' ++ [.node hd (pre ++ kb :: post)])) .nil 3:=by
  have htl:=hA tl (by simp)
  cases htl with
  | part hp=>cases hp <;> cases ht
  | @lett h b hp hb=>
  obtain ⟨x',h',b',hx',e,rh,rb⟩:=ren_let1_ex r
  injection e with e1 e2
  injection e1 with e1 e4
  subst e1 e4
  have e3:ks' = [h']∧kb = b':=(List.append_inj' (t₁:=[kb]) (s₂:=[h']) (t₂:=[b']) e2 rfl).imp_right fun q=>(List.cons.inj q).1
  obtain ⟨rfl,rfl⟩:=e3
  have hnx:=hx'.ne (x:=sx) (by rw [lenx]; lia) (by rw [lenx]; lia)
  have hny:=hx'.ne (x:=sy) (by rw [lenx]; lia) (by rw [leny]; lia)
  have rh:Ren noI noN h h':=rh
  refine Same.mono (n:=24) ?_ (by lia)
  refine letR1 (n:=23) (by simp [esize]) ?_
  simp only [Bool.false_eq_true,if_false]
  have kids:∀ d (i:Nat) (u v:Tr),(pre ++ Tr.node (.lett [sx] false) [h,b] :: post)[i]? = some u→(pre ++ kb :: post)[i]? = some v→Same 22 u .nil v (.one x' h' .nil .nil) d:=fun d i u v h1 h2=>by
    rcases mid_at h1 h2 with ⟨q1,q2⟩ | ⟨q1,q2⟩
    · subst q1 q2
      refine letL1 (n:=21) (by simp [esize]) ?_
      simp only [Bool.false_eq_true,if_false]
      refine same_body (n:=18) (by simp [esize]) (by simp [esize]) (ren_body hb rb) fun x y q d' hd'=>?_
      rcases q.2.upd with ⟨q1,q2⟩ | ⟨q1,q2⟩
      · subst q1 q2
        refine same_look (n:=18) (by rw [look_one,if_pos rfl]) (by rw [look_one,if_pos rfl]) ?_
        refine same_part (n:=16) (by simp [esize]) (by simp [esize]) (ren_part hp rh) fun a b q d' _=>?_
        have:=q.2.no
        subst this
        exact same_free (by simp [esize]) (by simp [esize]) rfl rfl
      · have:=q2.no
        subst this
        have hyy:y = sy:=by
          have:=q.1
          simp at this
          rcases this with q | q
          · exact absurd q q1
          · exact q
        subst hyy
        exact same_free (by simp [esize]) (by simp [esize]) (by rw [look_one,if_neg q1]; rfl) (by rw [look_one,if_neg hny]; rfl)
    · subst q1
      exact (same_arg (hA _ q2) hnx hny).mono (by lia)
  rcases hh with ⟨k,rfl⟩ | ⟨k,rfl⟩
  · exact same_con (n:=22) (by simp [esize]) (by simp [esize]) hl (by simp) fun d' _=>kids d'
  · exact same_prim (n:=22) (by simp [esize]) (by simp [esize]) hl (by simp) (kids 3)
theorem law_plain {p b r0 r1} (hp:PartT [sx,sy,sy] p) (hb:BodyT [sx,sy] b) (hr:r1 = r0∨sx ∉ fvOf (.node (.con (Str.ofString "K")) [p,.node (.lit (Str.ofString "int") 2) []])) :
    Same 60 (.node (.lett [sx] r0) [.node (.con (Str.ofString "K")) [p,.node (.lit (Str.ofString "int") 2) []],b]) .nil (.node (.lett [sx] r1) [.node (.con (Str.ofString "K")) [p,.node (.lit (Str.ofString "int") 2) []],b]) .nil 3:=by
  have hfv:fvOf (.node (.con (Str.ofString "K")) [p,.node (.lit (Str.ofString "int") 2) []]) = fvOf p:=by cases hp <;> rfl
  rw [hfv] at hr
  generalize hh:Tr.node (.con (Str.ofString "K")) [p,.node (.lit (Str.ofString "int") 2) []] = held
  have key:∀ r0 z,z ≠ sx→lookE (if r0 = true then En.recs [sx] [held] .nil else .one sx held .nil .nil) z = none:=fun r0 z hz=>by
    cases r0
    · simp only [Bool.false_eq_true,if_false]; rw [look_one,if_neg hz]; rfl
    · simp only [if_true]; rw [look_rec1,if_neg hz]; rfl
  have keyx:∀ r0:Bool,lookE (if r0 = true then En.recs [sx] [held] .nil else .one sx held .nil .nil) sx = some (held,if r0 = true then En.recs [sx] [held] .nil else .nil):=fun r0=>by
    cases r0
    · simp only [Bool.false_eq_true,if_false]; rw [look_one,if_pos rfl]
    · simp only [if_true]; rw [look_rec1,if_pos rfl]
  have hx:∀ d,Same (3 * d + 3) (tV sx) (if r0 = true then En.recs [sx] [held] .nil else .one sx held .nil .nil) (tV sx) (if r1 = true then En.recs [sx] [held] .nil else .one sx held .nil .nil) d:=by
    intro d
    induction d using Nat.strongRecOn with
    | ind d ih=>
    refine same_look (n:=3 * d + 2) (keyx r0) (keyx r1) ?_
    subst hh
    refine same_con (n:=3 * d + 1) (by cases r0 <;> simp [esize]) (by cases r1 <;> simp [esize]) (by simp) rfl fun d' hd i a b q1 q2=>?_
    subst hd
    match i,q1,q2 with
    | 0,q1,q2=>
      cases q1; cases q2
      refine same_part (n:=3 * d' + 2) (by cases r0 <;> simp [esize]) (by cases r1 <;> simp [esize]) (part_fv hp) fun x z q d2 hd2=>?_
      obtain ⟨q1,q2,q3⟩:=q
      subst q3
      have none':∀ r0:Bool,z ≠ sx→lookE (if r0 = true then En.recs [sx] [Tr.node (.con (Str.ofString "K")) [p,.node (.lit (Str.ofString "int") 2) []]] .nil else .nil) z = none:=fun r0 hz=>by
        cases r0
        · rfl
        · simp only [if_true]; rw [look_rec1,if_neg hz]; rfl
      by_cases hz:z = sx
      · subst hz
        rcases hr with hr | hr
        · subst hr
          cases r1 with
          | false=>exact same_free (by simp [esize]) (by simp [esize]) rfl rfl
          | true=>exact (ih d2 (by lia)).mono (by lia)
        · exact absurd q2 hr
      · exact same_free (by cases r0 <;> simp [esize]) (by cases r1 <;> simp [esize]) (none' r0 hz) (none' r1 hz)
    | 1,q1,q2=>cases q1; cases q2; exact same_lit (by cases r0 <;> simp [esize]) (by cases r1 <;> simp [esize])
    | i + 2,q1,q2=>simp at q1
  refine Same.mono (n:=20) ?_ (by lia)
  refine letL1 (n:=19) (by simp [esize]) (letR1 (n:=18) (by simp [esize]) ?_)
  refine same_body (n:=15) (by cases r0 <;> simp [esize]) (by cases r1 <;> simp [esize]) (body_refl hb) fun x y q d' hd'=>?_
  obtain ⟨q1,q2⟩:=q
  subst q2
  by_cases hyx:y = sx
  · subst hyx; exact (hx d').mono (by lia)
  · exact same_free (by cases r0 <;> simp [esize]) (by cases r1 <;> simp [esize]) (key r0 y hyx) (key r1 y hyx)
theorem lookT_sel {w:Str→Bool} {y:Str} (h:w y = true):∀ {xs:List Str} {ts:List Tr},xs.length = ts.length→lookT (xs.filter w) (sel w xs ts) y = lookT xs ts y
  | [],[],_=>rfl
  | x :: xs,t :: ts,q=>by
    have ih:=lookT_sel h (xs:=xs) (ts:=ts) (by simpa using q)
    simp only [List.filter_cons,sel]
    cases hx:w x with
    | true=>simp only [if_true]; unfold lookT; rw [ih]
    | false=>
      simp only [Bool.false_eq_true,if_false]
      have hne:y ≠ x:=fun q=>by rw [q,hx] at h; cases h
      rw [ih]
      conv=>rhs; unfold lookT
      cases lookT xs ts y with
      | some u=>rfl
      | none=>rw [if_neg hne]
  | [],_ :: _,q=>by simp at q
  | _ :: _,[],q=>by simp at q
theorem look_ones {env:En} {y:Str}:∀ {xs:List Str} {ts:List Tr} {acc:En},lookE (ones env acc xs ts) y = match lookT xs ts y with | some t=>some (t,env) | none=>lookE acc y
  | [],_,acc=>by unfold lookT ones; rfl
  | _ :: _,[],acc=>by unfold lookT ones; rfl
  | x :: xs,t :: ts,acc=>by
    unfold lookT ones
    rw [look_ones (xs:=xs) (ts:=ts)]
    cases lookT xs ts y with
    | some u=>rfl
    | none=>
      simp only
      rw [look_one]
      by_cases h:y = x
      · simp [h]
      · simp [h]
theorem look_recs {xs:List Str} {ts:List Tr} {r:En} {y:Str}:lookE (.recs xs ts r) y = match lookT xs ts y with | some t=>some (t,.recs xs ts r) | none=>lookE r y:=rfl
theorem ones_size' {env:En}:∀ {xs:List Str} {ts:List Tr} {acc:En},esize (ones env acc xs ts) ≤ esize acc + xs.length
  | [],_,_=>by unfold ones; lia
  | _ :: _,[],_=>by unfold ones; lia
  | x :: xs,t :: ts,acc=>by
    unfold ones
    have:=ones_size' (env:=env) (xs:=xs) (ts:=ts) (acc:=.one x t env acc)
    simp only [esize] at this
    simp only [List.length_cons]
    lia
noncomputable abbrev tK (m:Str):Tr:=.node (.con (Str.ofString "K")) [tV m]
noncomputable abbrev tT (m:Str):Tr:=.node (.con (Str.ofString "T")) [tV m,.node (.lit (Str.ofString "int") 1) []]
theorem fv_T {m:Str}:fvOf (tT m) = [m]:=rfl
inductive DeadT (xs:List Str):Bool→List Tr→Prop
  | non {ts:List Tr}:ts.length = xs.length→(∀ t ∈ ts,PartT [su] t)→DeadT xs false ts
  | knot {ts:List Tr}:ts.length = xs.length→(∀ t ∈ ts,∃ m,t = tK m)→DeadT xs true ts
theorem lookT_get {y:Str} {u:Tr}:∀ {xs:List Str} {ts:List Tr},lookT xs ts y = some u→∃ i:Nat,xs[i]? = some y∧ts[i]? = some u
  | [],_,h=>by unfold lookT at h; cases h
  | _ :: _,[],h=>by unfold lookT at h; cases h
  | x :: xs,t :: ts,h=>by
    unfold lookT at h
    cases hl:lookT xs ts y with
    | some v=>
      rw [hl] at h
      cases h
      obtain ⟨i,h1,h2⟩:=lookT_get hl
      exact ⟨i + 1,h1,h2⟩
    | none=>
      rw [hl] at h
      simp only at h
      split at h
      · rename_i q
        cases h
        exact ⟨0,by rw [q]; rfl,rfl⟩
      · cases h
theorem lookT_some {y:Str}:∀ {xs:List Str} {ts:List Tr},ts.length = xs.length→y ∈ xs→∃ u,lookT xs ts y = some u
  | x :: xs,t :: ts,hl,h=>by
    unfold lookT
    cases q:lookT xs ts y with
    | some v=>exact ⟨v,rfl⟩
    | none=>
      rcases List.mem_cons.mp h with e | e
      · exact ⟨t,by simp [e]⟩
      · obtain ⟨u,hu⟩:=lookT_some (xs:=xs) (ts:=ts) (by simpa using hl) e
        rw [q] at hu; cases hu
  | _ :: _,[],hl,_=>by simp at hl
theorem law_dead {xs:List Str} {ts:List Tr} {r0:Bool} {m:Str} {w:Str→Bool} (hx:xs.length ≤ 10) (hx1:1 ≤ xs.length) (hu:su ∉ xs) (hD:DeadT xs r0 ts) (hK:Kept xs ts r0 (tT m) w) :
    (xs.filter w = []→Same 60 (.node (.lett xs r0) (ts ++ [tT m])) .nil (tT m) .nil 3)∧(xs.filter w ≠ []→Same 60 (.node (.lett xs r0) (ts ++ [tT m])) .nil (.node (.lett (xs.filter w) r0) (sel w xs ts ++ [tT m])) .nil 3):=by
  have htl:ts.length = xs.length:=by cases hD <;> assumption
  have hsl:=sel_len (w:=w) htl.symm
  have hfl:(xs.filter w).length ≤ xs.length:=List.length_filter_le _ _
  have hm:m ∈ xs→w m = true:=fun q=>(hK m q).mpr (by
    cases r0 with
    | true=>exact .base (by rw [fv_T]; exact .head _)
    | false=>show m ∈ fvOf (tT m); rw [fv_T]; exact .head _)
  have hxe:xs.isEmpty = false:=by cases xs with | nil=>simp at hx1 | cons=>rfl
  have body:∀ {n E E'},esize E ≤ 1000→esize E' ≤ 1000→(∀ d,d ≤ 2→Same (n + 1) (tV m) E (tV m) E' d)→Same (n + 2) (tT m) E (tT m) E' 3:=fun h1 h2 h3=>by
    refine same_con h1 h2 (by simp) rfl fun d' hd i a b q1 q2=>?_
    match i,q1,q2 with
    | 0,q1,q2=>cases q1; cases q2; exact h3 d' (by lia)
    | 1,q1,q2=>cases q1; cases q2; exact same_lit h1 h2
    | i + 2,q1,q2=>simp at q1
  have szL:esize (if r0 then En.recs xs ts .nil else ones .nil .nil xs ts) ≤ 1000:=by
    cases r0
    · have:=ones_size' (env:=.nil) (xs:=xs) (ts:=ts) (acc:=.nil)
      simp only [esize] at this
      simp only [Bool.false_eq_true,if_false]; lia
    · simp only [if_true,esize]; lia
  constructor
  · intro hf
    have hmx:m ∉ xs:=fun q=>by
      have:m ∈ xs.filter w:=List.mem_filter.mpr ⟨q,hm q⟩
      rw [hf] at this; cases this
    refine Same.mono (n:=12) ?_ (by lia)
    refine same_letL (n:=11) (by simp [esize]) (by lia) hxe ?_
    refine body (n:=9) szL (by simp [esize]) fun d _=>same_free szL (by simp [esize]) ?_ rfl
    cases r0
    · simp only [Bool.false_eq_true,if_false]; rw [look_ones,lookT_off hmx]; rfl
    · simp only [if_true]; rw [look_recs,lookT_off hmx]; rfl
  · intro hf
    have szR:esize (if r0 then En.recs (xs.filter w) (sel w xs ts) .nil else ones .nil .nil (xs.filter w) (sel w xs ts)) ≤ 1000:=by
      cases r0
      · have:=ones_size' (env:=.nil) (xs:=xs.filter w) (ts:=sel w xs ts) (acc:=.nil)
        simp only [esize] at this
        simp only [Bool.false_eq_true,if_false]; lia
      · simp only [if_true,esize]; lia
    have hfe:(xs.filter w).isEmpty = false:=by
      cases q:xs.filter w with
      | nil=>exact absurd q hf
      | cons=>rfl
    have var:∀ d k,(k ∈ xs→w k = true)→Same (3 * d + 3) (tV k) (if r0 then En.recs xs ts .nil else ones .nil .nil xs ts) (tV k) (if r0 then En.recs (xs.filter w) (sel w xs ts) .nil else ones .nil .nil (xs.filter w) (sel w xs ts)) d:=by
      intro d
      induction d using Nat.strongRecOn with
      | ind d ih=>
      intro k hk
      by_cases hkx:k ∈ xs
      · obtain ⟨u,hu1⟩:=lookT_some htl hkx
        have hu2:=(lookT_sel (hk hkx) htl.symm).trans hu1
        obtain ⟨i,hi1,hi2⟩:=lookT_get hu1
        cases hD with
        | non _ hp=>
          simp only [Bool.false_eq_true,if_false]
          refine same_look (n:=3 * d + 2) (by rw [look_ones,hu1]) (by rw [look_ones,hu2]) ?_
          exact same_part_free (n:=3 * d) (hp u (List.mem_of_getElem? hi2)) (by simp [esize]) (by simp [esize]) fun a _ _=>⟨rfl,rfl⟩
        | knot _ hp=>
          simp only [if_true] at szL szR ih ⊢
          refine same_look (n:=3 * d + 2) (by rw [look_recs,hu1]) (by rw [look_recs,hu2]) ?_
          obtain ⟨m',rfl⟩:=hp u (List.mem_of_getElem? hi2)
          refine same_con (n:=3 * d + 1) szL szR (by simp) rfl fun d' hd j a b q1 q2=>?_
          subst hd
          match j,q1,q2 with
          | 0,q1,q2=>
            cases q1; cases q2
            exact (ih d' (by lia) m' fun q=>(hK m' q).mpr (.step ((hK k hkx).mp (hk hkx)) hi1 hi2 (by rw [us_K1]; exact .head _))).mono (by lia)
          | j + 1,q1,q2=>simp at q1
      · have hkf:k ∉ xs.filter w:=fun q=>hkx (List.mem_filter.mp q).1
        refine same_free szL szR ?_ ?_
        · cases r0
          · simp only [Bool.false_eq_true,if_false]; rw [look_ones,lookT_off hkx]; rfl
          · simp only [if_true]; rw [look_recs,lookT_off hkx]; rfl
        · cases r0
          · simp only [Bool.false_eq_true,if_false]; rw [look_ones,lookT_off hkf]; rfl
          · simp only [if_true]; rw [look_recs,lookT_off hkf]; rfl
    refine Same.mono (n:=20) ?_ (by lia)
    refine same_letL (n:=19) (by simp [esize]) (by lia) hxe (same_letR (n:=18) (by simp [esize]) (by lia) hfe ?_)
    exact body (n:=16) szL szR fun d hd=>(var d m hm).mono (by lia)
end
section
mutual
noncomputable def usesL (x:Str):Tr→Bool→List Bool
  | .node (.var y) _,b=>if y = x then [b] else []
  | .node (.lit _ _) ks,b=>usesLs x ks b
  | .node .app ks,b=>usesLs x ks b
  | .node (.lam _) ks,_=>usesLs x ks true
  | .node (.lett _ _) ks,b=>usesLs x ks b
  | .node (.con _) ks,b=>usesLs x ks b
  | .node (.prim _) ks,b=>usesLs x ks b
noncomputable def usesLs (x:Str):List Tr→Bool→List Bool
  | [],_=>[]
  | k :: ks,b=>usesL x k b ++ usesLs x ks b
end
theorem usesL_not {x:Str} {h:Hd} {ks:List Tr} {b:Bool} (hb:(clsOf h == 52) = false):usesL x (.node h ks) b = usesLs x ks (b || clsOf h == 176):=by
  cases h with
  | var y=>exact absurd hb Bool.noConfusion
  | lam p=>unfold usesL; rw [show (b || clsOf (Hd.lam p) == 176) = true by simp [clsOf]]
  | lit k n=>unfold usesL; rw [show (b || clsOf (Hd.lit k n) == 176) = b by simp [clsOf]]
  | app=>unfold usesL; rw [show (b || clsOf (Hd.app) == 176) = b by simp [clsOf]]
  | lett k n=>unfold usesL; rw [show (b || clsOf (Hd.lett k n) == 176) = b by simp [clsOf]]
  | con k=>unfold usesL; rw [show (b || clsOf (Hd.con k) == 176) = b by simp [clsOf]]
  | prim k=>unfold usesL; rw [show (b || clsOf (Hd.prim k) == 176) = b by simp [clsOf]]
theorem usesLs_snoc {x:Str} {b:Bool} {k:Tr}:∀ {ks:List Tr},usesLs x (ks ++ [k]) b = usesLs x ks b ++ usesL x k b
  | []=>by simp [usesLs]
  | a :: ks=>by
    show usesL x a b ++ usesLs x (ks ++ [k]) b = (usesL x a b ++ usesLs x ks b) ++ usesL x k b
    rw [usesLs_snoc,List.append_assoc]
theorem usesL_len {x:Str}:∀ (n:Nat) (t:Tr) (b:Bool),tsize t ≤ n→(usesL x t b).length ≤ tsize t:=by
  intro n
  induction n with
  | zero=>intro t b h; have:=tsize_pos t; lia
  | succ n ih=>
    rintro ⟨h,ks⟩ b hn
    have key:∀ (l:List Tr) (b:Bool),tsizes l ≤ n→(usesLs x l b).length ≤ tsizes l:=by
      intro l
      induction l with
      | nil=>intro b _; simp [usesLs]
      | cons k l ihl=>
        intro b hl
        unfold tsizes at hl
        have h1:=ih k b (by lia)
        have h2:=ihl b (by lia)
        unfold usesLs tsizes
        rw [List.length_append]; lia
    unfold tsize at hn ⊢
    by_cases hb:(clsOf h == 52) = true
    · obtain ⟨y,rfl⟩:=var_of hb
      unfold usesL
      split <;> simp
    · rw [usesL_not (by simpa using hb)]
      have:=key ks (b || clsOf h == 176) (by lia)
      lia
theorem tsize_kid {k:Tr}:∀ {ks:List Tr} {i:Nat},ks[i]? = some k→tsize k ≤ tsizes ks
  | [],i,h=>by simp at h
  | a :: ks,i,h=>by
    unfold tsizes
    cases i with
    | zero=>simp at h; subst h; lia
    | succ i=>
      have:=tsize_kid (k:=k) (ks:=ks) (i:=i) (by simpa using h)
      lia
theorem usesLs_len {x:Str} {b:Bool}:∀ {ks:List Tr},(usesLs x ks b).length ≤ tsizes ks
  | []=>by simp [usesLs]
  | k :: ks=>by
    have h1:=usesL_len (x:=x) (tsize k) k b (Nat.le_refl _)
    have h2:=usesLs_len (x:=x) (b:=b) (ks:=ks)
    unfold usesLs tsizes
    rw [List.length_append]; lia
theorem tsizes_take:∀ {ks:List Tr} {i:Nat},tsizes (ks.take i) ≤ tsizes ks
  | [],i=>by simp
  | k :: ks,0=>by simp [tsizes]
  | k :: ks,i + 1=>by
    have:=tsizes_take (ks:=ks) (i:=i)
    show tsize k + tsizes (ks.take i) ≤ tsize k + tsizes ks
    lia
noncomputable def usesB (x:Str) (ks:List Tr) (b:Bool):List Value:=(usesLs x ks b).map Value.bool
theorem usesB_next {x:Str} {ks:List Tr} {b:Bool} {i:Nat} {k:Tr} (h:ks[i]? = some k):usesB x (ks.take (i + 1)) b = usesB x (ks.take i) b ++ (usesL x k b).map Value.bool:=by
  unfold usesB
  rw [take_next h,usesLs_snoc,List.map_append]
theorem usesB_len {x:Str} {ks:List Tr} {b:Bool} {i:Nat} (h:tsizes ks ≤ 100):(usesB x (ks.take i) b).length ≤ 100:=by
  unfold usesB
  rw [List.length_map]
  exact Nat.le_trans usesLs_len (Nat.le_trans tsizes_take h)
theorem usesB_whole {x:Str} {h:Hd} {ks:List Tr} {b:Bool} {n:Nat} (hb:(clsOf h == 52) = false) (hn:ks.length ≤ n):usesB x (ks.take n) (b || clsOf h == 176) = (usesL x (.node h ks) b).map Value.bool:=by
  unfold usesB
  rw [List.take_of_length_le hn,usesL_not hb]
theorem usesL_v1 {x:Str} {h:Hd} {ks:List Tr} {b:Bool} (hb:(clsOf h == 52) = true) (e:nmOf h = x):(usesL x (.node h ks) b).map Value.bool = [.bool b]:=by
  obtain ⟨y,rfl⟩:=var_of hb
  unfold usesL
  rw [if_pos (show y = x from e)]; rfl
theorem usesL_v0 {x:Str} {h:Hd} {ks:List Tr} {b:Bool} (hb:(clsOf h == 52) = true) (e:¬ nmOf h = x):(usesL x (.node h ks) b).map Value.bool = []:=by
  obtain ⟨y,rfl⟩:=var_of hb
  unfold usesL
  rw [if_neg (show ¬ y = x from e)]; rfl
noncomputable def S614 (a v b:Value) (M:Led) (x:Str) (ks:List Tr) (c:Bool) (i:Nat):Addr × Nat × Led × Option Value × Option Value→Sta
  | (fa,n,I,u,w)=>⟨[some a,some v,some b,some (.ref fa),u,w],(fa,listO (usesB x (ks.take i) c) n) :: M,I⟩
def F614 (I0:Led) (_:Nat):Addr × Nat × Led × Option Value × Option Value→Prop
  | (_,_,I,_,_)=>Sub I0 I
section
variable {e:E0} {x:Ctx e} {vs:List (Option Value)} {M I:Led} {k:Value→Sta→Prop}
theorem Le.front {p:Addr × Obj} {M':Led} {st:Sta} (h:Pick p M M') (q:Le ⟨vs,p :: M',I⟩ st):Le ⟨vs,M,I⟩ st:=fun hs=>q (hs.front h)
theorem addLE {l b:Addr} {xs ys zs:List Value} {n m:Nat} (hz:xs ++ ys = zs) (ho:Own M I l (listO xs n)) (hb:Own M I b (listO ys m)) (hl:xs.length + ys.length ≤ 10000000) (q:∀ a,k (.ref a) ⟨vs,(a,listO zs 0) :: M,I⟩):H x (binaryOp .Add (.ref l) (.ref b)) ⟨vs,M,I⟩ k:=addLH ho hb hl (hz ▸ q)
end
section
variable {e:E0}
theorem usesH {x0:Str} {t0:Tok}:∀ (n:Nat) {x:Ctx e} {vs:List (Option Value)} {M I:Led} {k:Value→Sta→Prop} {tr:Tr} {v:Value} {b:Bool},Rep I tr v→tsize tr ≤ n→n ≤ 100→n + 2 ≤ x.c.room→
    (∀ a n' I',Sub I I'→k (.ref a) ⟨vs,(a,listO ((usesL x0 tr b).map Value.bool) n') :: M,I'⟩)→H x (call (.ref 614) [.str x0 t0,v,.bool b]) ⟨vs,M,I⟩ k:=by
  intro n
  induction n with
  | zero=>intro x vs M I k tr v b r hn; have:=tsize_pos tr; lia
  | succ n ih=>
    intro x vs M I k tr v b r hn hn2 hr q
    obtain ⟨h,ks⟩:=tr
    obtain ⟨ws,rH,rK⟩:=r
    have hsz:tsizes ks ≤ n:=by rw [tsize] at hn; lia
    have hkl:=tsizes_len ks
    have h100:tsizes ks ≤ 100:=Nat.le_trans hsz (Nat.le_of_succ_le hn2)
    have hwl:ws.length ≤ 100:=rK.len ▸ Nat.le_trans hkl h100
    have q1:∀ {L:List Value} {a:Addr} {m:Nat} {I':Led},(usesL x0 (.node h ks) b).map Value.bool = L→Sub I I'→k (.ref a) ⟨vs,(a,listO L m) :: M,I'⟩:=fun e s=>e ▸ q _ _ _ s
    have ih2:∀ {x2:Ctx e} {vs:List (Option Value)} {M I:Led} {k:Value→Sta→Prop} {kt:Tr} {w:Value} {b':Bool},b' = (b || clsOf h == 176)→Rep I kt w→tsize kt ≤ n→n + 2 ≤ x2.c.room→(∀ a n' I',Sub I I'→k (.ref a) ⟨vs,(a,listO ((usesL x0 kt (b || clsOf h == 176)).map Value.bool) n') :: M,I'⟩)→H x2 (call (.ref 614) [.str x0 t0,w,.bool b']) ⟨vs,M,I⟩ k:=
      fun e r hz hr q=>by subst e; exact ih r hz (Nat.le_of_succ_le hn2) hr q
    refine fr614.run rfl hr fun x' hx=>isiH rH rfl (cnd (fun hb=>getFS (var_name rH hb) g52_name fun ty=>sEq (cnd (fun he a=>retI (q1 (usesL_v1 hb (of_decide_eq_true he)) Sub.refl)) fun he a=>retI (q1 (usesL_v0 hb (of_decide_eq_false he)) Sub.refl)))
      fun hb fa0=>partsH rH (Nat.le_trans (by lia) hx) (Nat.le_trans hwl (by decide)) fun l pp n2 I2 s2 hps=>ForH.freeze .head (forH5 (S614 (.str x0 t0) v (.bool b) M x0 ks (b || clsOf h == 176)) (F614 ((l,listO pp n2) :: I2)) (fa0,0,_,none,none) (itList (.inr (.head _))) rfl Sub.refl (fun _ _ _ _ _ _ h=>srcL (.inr (h _ (.head _))))
        (fun i y fa m I3 u1 u2 it io hi hX h3 _ V9=>asgP hps hX (Sub.one.trans h3) fun w sv f hw hf hsc=>rep_i rK hw fun kt hkt hrep=>?step) fun fa m I3 u1 u2 h3=>retI (q1 (usesB_whole hb (Nat.le_of_eq (rK.len.trans hps.len.1.symm))).symm ((s2.trans Sub.one).trans h3))))
    have s3:=(s2.trans Sub.one).trans h3
    have hks:=Nat.le_trans (tsize_kid hkt) hsz
    have hul:((usesL x0 kt (b || clsOf h == 176)).map Value.bool).length ≤ 1000:=by
      rw [List.length_map]
      exact Nat.le_trans (usesL_len (tsize kt) kt _ (Nat.le_refl _)) (by lia)
    have hl:=le7 (Nat.le_trans (usesB_len (x:=x0) (ks:=ks) (b:=b || clsOf h == 176) (i:=i) h100) (by decide)) hul
    have fin:∀ {a2:Addr} {n3:Nat} {I4:Led} {sa:Addr} {L:List Value} {z:Option Value},Sub I3 I4→Le ⟨[some (.str x0 t0),some v,some (.bool b),z,some w,some sv],(sa,listO L 0) :: (a2,listO ((usesL x0 kt (b || clsOf h == 176)).map Value.bool) n3) :: (it,io) :: (fa,listO (usesB x0 (ks.take i) (b || clsOf h == 176)) m) :: M,I4⟩ ⟨[some (.str x0 t0),some v,some (.bool b),z,some w,some sv],(it,io) :: (sa,listO L 0) :: M,I4⟩:=
      fun _=>Le.drop (.tail .head) (Le.drop (.tail (.tail .head)) (Le.front (.tail .head) Le.refl))
    exact cnd (fun hbb=>ih2 (by rw [hbb]; rfl) (hrep.mono s3) hks (Nat.le_trans (by lia) hx) fun a2 n3 I4 s4=>addLE (usesB_next hkt).symm (.inl (.tail _ (.tail _ (.head _)))) (.inl (.head _)) hl fun sa=>V9.tnext (sa,0,I4,some w,some sv) (h3.trans s4) (fin s4))
      fun hbb=>isiH (rH.mono s3) rfl (ih2 (by rw [hbb]; rfl) (hrep.mono s3) hks (Nat.le_trans (by lia) hx) fun a2 n3 I4 s4=>addLE (usesB_next hkt).symm (.inl (.tail _ (.tail _ (.head _)))) (.inl (.head _)) hl fun sa=>V9.tnext (sa,0,I4,some w,some sv) (h3.trans s4) (fin s4))
end
end
section
noncomputable abbrev tKu:Tr:=.node (.con (Str.ofString "K")) [tV su]
noncomputable abbrev tKvu (v:Str):Tr:=.node (.con (Str.ofString "K")) [tV v,tV su]
noncomputable abbrev tLam (v:Str):Tr:=.node (.lam v) [tKvu v]
inductive MeanT:Tr→Prop
  | var:MeanT (tV su)
  | lit:MeanT (.node (.lit (Str.ofString "int") 4) [])
  | err:MeanT (.node (.prim (Str.ofString "error")) [])
  | ku:MeanT tKu
  | n:MeanT (.node (.con (Str.ofString "N")) [])
  | lam:MeanT (tLam sv)
inductive MeanR:Tr→Tr→Prop
  | var:MeanR (tV su) (tV su)
  | lit:MeanR (.node (.lit (Str.ofString "int") 4) []) (.node (.lit (Str.ofString "int") 4) [])
  | err:MeanR (.node (.prim (Str.ofString "error")) []) (.node (.prim (Str.ofString "error")) [])
  | ku:MeanR tKu tKu
  | n:MeanR (.node (.con (Str.ofString "N")) []) (.node (.con (Str.ofString "N")) [])
  | lam (v':Str):su ≠ v'→MeanR (tLam sv) (tLam v')
inductive PieceT (xs:List Str) (m:Str→Tr):Tr→Prop
  | var (n:Str):n ∈ xs→PieceT xs m (tV n)
  | fn (n:Str):n ∈ xs→PieceT xs m (.node (.lam su) [.node (.con (Str.ofString "K")) [tV su,tV n]])
  | app (n:Str):n ∈ xs→lamT (m n) = true→PieceT xs m (.node .app [tV n,tV su])
theorem piece_uses {xs m p x} (h:PieceT xs m p) (a:Int × Bool):trav (effO x) ctxO p false a = (a.1 + ((usesL x p false).length:Int),a.2 || (usesL x p false).any id):=by
  cases h with
  | var n _=>
    show (if n = x then (a.1 + 1,a.2 || false) else a) = _
    simp only [usesL]
    by_cases h:n = x
    · simp [h]
    · simp [h]
  | fn n _=>
    show effO x (.var su) true (effO x (.var n) true a) = _
    simp only [usesL,usesLs,effO]
    by_cases h:n = x
    · by_cases h2:su = x
      · simp [h,h2]; lia
      · simp [h,h2]
    · by_cases h2:su = x
      · simp [h,h2]
      · simp [h,h2]
  | app n _ _=>
    show effO x (.var n) false (effO x (.var su) false a) = _
    simp only [usesL,usesLs,effO]
    by_cases h:n = x
    · by_cases h2:su = x
      · simp [h,h2]; lia
      · simp [h,h2]
    · by_cases h2:su = x
      · simp [h,h2]
      · simp [h,h2]
theorem body_uses {xs m x} {ks:List Tr} (h:∀ k ∈ ks,PieceT xs m k):trav (effO x) ctxO (.node (.con (Str.ofString "T")) ks) false (0,false) = (((usesL x (.node (.con (Str.ofString "T")) ks) false).length:Int),(usesL x (.node (.con (Str.ofString "T")) ks) false).any id):=by
  have key:∀ (ks:List Tr),(∀ k ∈ ks,PieceT xs m k)→∀ a:Int × Bool,travs (effO x) ctxO ks (List.replicate ks.length false) a = (a.1 + ((usesLs x ks false).length:Int),a.2 || (usesLs x ks false).any id):=by
    intro ks
    induction ks with
    | nil=>intro _ a; simp [travs,usesLs]
    | cons k ks ih=>
      intro h a
      rw [List.length_cons,List.replicate_succ]
      unfold travs usesLs
      rw [ih (fun k' hk=>h k' (.tail _ hk)),piece_uses (h k (.head _))]
      simp only [List.length_append,List.any_append,Prod.mk.injEq]
      refine ⟨?_,?_⟩
      · lia
      · cases a.2 <;> cases (usesLs x ks false).any id <;> cases (usesL x k false).any id <;> rfl
  unfold trav
  have e1:ctxO (.con (Str.ofString "T")) false ks.length = List.replicate ks.length false:=rfl
  rw [e1,key ks h]
  simp [effO,usesL]
noncomputable def lawTaken (x:Str) (t body:Tr) (four:Bool):Bool:=
  atomT t || ((usesL x body false).length == 1 && (lamT t || (usesL x body false) == [false])) || (lamT t && four)
theorem taken_law {xs m x t} {ks:List Tr} {most:Int} {four:Bool} (ht:MeanT t) (h:∀ k ∈ ks,PieceT xs m k) (hm:(most = 4∧four = true)∨(most = 0∧four = false)) :
    takenT x t (.node (.con (Str.ofString "T")) ks) most = lawTaken x t (.node (.con (Str.ofString "T")) ks) four:=by
  unfold takenT lawTaken
  rw [body_uses h]
  generalize usesL x (.node (.con (Str.ofString "T")) ks) false = L
  have e1:(((L.length:Int) == 1) && (!(L.any id) || lamT t)) = (L.length == 1 && (lamT t || L == [false])):=by
    match L with
    | []=>rfl
    | [b]=>cases b <;> cases lamT t <;> rfl
    | b1 :: b2 :: r=>
      have:(((b1 :: b2 :: r).length:Int) == 1) = false:=by
        rw [beq_eq_false_iff_ne]; simp only [List.length_cons]; lia
      rw [this]; rfl
  have e2:(lamT t && decide ((tsize t:Int) ≤ most)) = (lamT t && four):=by
    cases ht with
    | lam=>rcases hm with ⟨rfl,rfl⟩ | ⟨rfl,rfl⟩ <;> rfl
    | _=>rfl
  rw [e1,e2]
theorem same_lam {n p b p' b' E E' d} (h:esize E ≤ 1000) (h':esize E' ≤ 1000) (k:Same n b (.one p hashT .nil E) b' (.one p' hashT .nil E') d):Same (n + 1) (.node (.lam p) [b]) E (.node (.lam p') [b']) E' d:=
  let ⟨r,h1,h2⟩:=k
  ⟨.tup [.str (Str.ofString "function"),r],(sn_stop rfl h).trans (congrArg (Option.map _) h1),(sn_stop rfl h').trans (congrArg (Option.map _) h2)⟩
theorem same_app {n f a r f' a' r' p b P p' b' P' E E' d} (h:esize E ≤ 1000) (h':esize E' ≤ 1000) (hP:esize P ≤ 1000) (hP':esize P' ≤ 1000) (hf:foundF 60 f E = some (.node (.lam p) [b],P)) (hf':foundF 60 f' E' = some (.node (.lam p') [b'],P'))
    (k:Same n b (.one p a E P) b' (.one p' a' E' P') d):Same (n + 1) (.node .app (f :: a :: r)) E (.node .app (f' :: a' :: r')) E' d:=
  let ⟨q,h1,h2⟩:=k
  ⟨q,(sn_stop rfl h).trans ((congrArg (Option.bind · _) hf).trans ((sm_y hP).trans h1)),(sn_stop rfl h').trans ((congrArg (Option.bind · _) hf').trans ((sm_y hP').trans h2))⟩
theorem same_lookL {n x ks E E' d t t' E1} (l:lookE E x = some (t,E1)) (h:Same n t E1 t' E' d):Same (n + 1) (.node (.var x) ks) E t' E' d:=
  let ⟨r,h1,h2⟩:=h
  ⟨r,(sn_var l).trans h1,sn_mono h2 (Nat.le_succ _)⟩
theorem ne_uv:su ≠ sv:=by decide +kernel
theorem ne_xv:sx ≠ sv:=by decide +kernel
theorem ne_yv:sy ≠ sv:=by decide +kernel
theorem same_hash {n v v' E E' d} (h:esize E ≤ 999) (h':esize E' ≤ 999):Same (n + 2) (tV v) (.one v hashT .nil E) (tV v') (.one v' hashT .nil E') d:=by
  refine same_look (n:=n + 1) (by rw [look_one,if_pos rfl]) (by rw [look_one,if_pos rfl]) ?_
  exact same_free (by simp [esize]) (by simp [esize]) rfl rfl
theorem same_mean {m q E E' d} (h:MeanR m q) (hE:esize E ≤ 900) (hE':esize E' ≤ 900) (l:lookE E su = none) (l':lookE E' su = none):Same 6 m E q E' d:=by
  cases h with
  | var=>exact same_free (by lia) (by lia) l l'
  | lit=>exact same_lit (by lia) (by lia)
  | err=>exact same_prim (by lia) (by lia) (by simp) rfl fun i a b p q=>by simp at p
  | ku=>
    refine same_con (n:=5) (by lia) (by lia) (by simp) rfl fun d' _ i a b p q=>?_
    match i,p,q with
    | 0,p,q=>cases p; cases q; exact same_free (by lia) (by lia) l l'
    | i + 1,p,q=>simp at p
  | n=>exact same_con (by lia) (by lia) (by simp) rfl fun _ _ i a b p q=>by simp at p
  | lam v' hv=>
    refine same_lam (n:=5) (by lia) (by lia) ?_
    refine same_con (n:=4) (by simp [esize]; lia) (by simp [esize]; lia) (by simp) rfl fun d' _ i a b p q=>?_
    match i,p,q with
    | 0,p,q=>cases p; cases q; exact same_hash (n:=2) (by lia) (by lia)
    | 1,p,q=>cases p; cases q; exact same_free (by simp [esize]; lia) (by simp [esize]; lia) (by rw [look_one,if_neg ne_uv]; exact l) (by rw [look_one,if_neg hv]; exact l')
    | i + 2,p,q=>simp at p
theorem MeanT.refl {m} (h:MeanT m):MeanR m m:=by
  cases h with
  | var=>exact .var
  | lit=>exact .lit
  | err=>exact .err
  | ku=>exact .ku
  | n=>exact .n
  | lam=>exact .lam sv ne_uv
theorem ren_mean {m q} (h:MeanT m) (r:Ren noI noN m q):MeanR m q:=by
  cases h with
  | var=>exact ren_varN r fun y hy=>hy.no ▸ .var
  | lit=>rw [ren_leaf rfl r]; exact .lit
  | err=>rw [ren_leaf rfl r]; exact .err
  | ku=>exact ren_con1 r fun a' k1=>ren_varN k1 fun y hy=>hy.no ▸ .ku
  | n=>rw [ren_leaf rfl r]; exact .n
  | lam=>
    refine ren_lam r fun v' b' hv k0=>ren_con2 k0 fun a' b' k1 k2=>ren_varN k1 fun y hy=>ren_varN k2 fun z hz=>?_
    have e1:y = v':=hy.upd.elim (fun q=>q.2) fun q=>absurd rfl q.1
    have e2:z = su:=hz.upd.elim (fun q=>absurd q.1 ne_uv) fun q=>q.2.no
    rw [e1,e2]
    exact .lam v' (hv.ne (by rw [len1 (x:=sv) (by simp)]; exact Nat.le_refl _) (by rw [len1 (x:=su) (by simp)]; exact Nat.le_refl _))
def Rp (E':En) (m:Tr) (w:Option Str) (q:Tr):Prop:=(MeanR m q∧∀ y,w = some y→su ≠ y)∨∃ n',q = tV n'∧lookE E' n' = some (m,.nil)∧∀ y,w = some y→n' ≠ y
inductive PieceR (xs:List Str) (m:Str→Tr) (E':En):Tr→Tr→Prop
  | var (n:Str) (q:Tr):n ∈ xs→Rp E' (m n) none q→PieceR xs m E' (tV n) q
  | fn (n:Str) (q:Tr) (u':Str):n ∈ xs→Rp E' (m n) (some u') q→PieceR xs m E' (.node (.lam su) [.node (.con (Str.ofString "K")) [tV su,tV n]]) (.node (.lam u') [.node (.con (Str.ofString "K")) [tV u',q]])
  | app (n:Str) (q:Tr):n ∈ xs→lamT (m n) = true→Rp E' (m n) none q→PieceR xs m E' (.node .app [tV n,tV su]) (.node .app [q,tV su])
theorem lam_of_mean {m} (h:MeanT m) (k:lamT m = true):m = tLam sv:=by
  cases h with
  | lam=>rfl
  | _=>cases k
theorem same_piece {xs m E E' p p' d} (h:PieceR xs m E' p p') (hm:∀ n ∈ xs,MeanT (m n)) (hE:esize E ≤ 800) (hE':esize E' ≤ 800) (hu:∀ n ∈ xs,n ≠ su) (hv:∀ n ∈ xs,n ≠ sv) (hl:∀ n ∈ xs,lookE E n = some (m n,.nil)) (lu:lookE E su = none) (lu':lookE E' su = none):Same 12 p E p' E' d:=by
  have nil0:lookE .nil su = none:=rfl
  have key:∀ {A A':En} {n:Str} {q:Tr} {w:Option Str} {d:Nat},n ∈ xs→esize A ≤ 900→esize A' ≤ 900→lookE A n = some (m n,.nil)→Rp E' (m n) w q→((∀ y,w = some y→su ≠ y)→lookE A' su = none)→(∀ n',(∀ y,w = some y→n' ≠ y)→lookE A' n' = lookE E' n')→Same 8 (tV n) A q A' d:=by
    intro A A' n q w d hn hA hA' hlA hR hlu hln
    rcases hR with ⟨hR,hw⟩ | ⟨n',rfl,hl',hw⟩
    · exact same_lookL (n:=7) hlA ((same_mean hR (by simp [esize]) hA' rfl (hlu hw)).mono (by lia))
    · exact same_look (n:=7) hlA ((hln n' hw).trans hl') ((same_mean (hm n hn).refl (by simp [esize]) (by simp [esize]) rfl rfl).mono (by lia))
  cases h with
  | var n q hn hR=>exact (key hn (by lia) (by lia) (hl n hn) hR (fun _=>lu') (fun _ _=>rfl)).mono (by lia)
  | fn n q u' hn hR=>
    refine same_lam (n:=11) (by lia) (by lia) ?_
    refine same_con (n:=10) (by simp [esize]; lia) (by simp [esize]; lia) (by simp) rfl fun d' _ i a b p q=>?_
    match i,p,q with
    | 0,p,q=>cases p; cases q; exact same_hash (n:=8) (by lia) (by lia)
    | 1,p,q=>
      cases p; cases q
      refine (key (A:=.one su hashT .nil E) (A':=.one u' hashT .nil E') hn (by simp [esize]; lia) (by simp [esize]; lia) (by rw [look_one,if_neg (hu n hn)]; exact hl n hn) hR (fun h=>?_) (fun n' h=>?_)).mono (by lia)
      · rw [look_one,if_neg (h u' rfl)]; exact lu'
      · rw [look_one,if_neg (h u' rfl)]
    | i + 2,p,q=>simp at p
  | app n q hn hlam hR=>
    have hmn:=lam_of_mean (hm n hn) hlam
    have hf:foundF 60 (tV n) E = some (tLam sv,.nil):=by
      show (match lookE E n with | some (t',E')=>foundF 59 t' E' | none=>some (tV n,E)) = _
      rw [hl n hn,hmn]; rfl
    rw [hmn] at hR
    have kids:∀ {v' P' d},su ≠ v'→esize P' ≤ 800→lookE P' su = none→Same 10 (tKvu sv) (.one sv (tV su) E .nil) (tKvu v') (.one v' (tV su) E' P') d:=by
      intro v' P' d hv' hP hlP
      refine same_con (n:=9) (by simp [esize]) (by simp [esize]; lia) (by simp) rfl fun d' _ i a b p q=>?_
      match i,p,q with
      | 0,p,q=>
        cases p; cases q
        refine same_look (n:=8) (by rw [look_one,if_pos rfl]) (by rw [look_one,if_pos rfl]) ?_
        exact same_free (by lia) (by lia) lu lu'
      | 1,p,q=>cases p; cases q; exact same_free (by simp [esize]) (by simp [esize]; lia) (by rw [look_one,if_neg ne_uv]; rfl) (by rw [look_one,if_neg hv']; exact hlP)
      | i + 2,p,q=>simp at p
    rcases hR with ⟨hR,hw⟩ | ⟨n',rfl,hl',hw⟩
    · cases hR with
      | lam v' hv'=>exact (same_app (n:=10) (P:=.nil) (P':=E') (by lia) (by lia) (by simp [esize]) (by lia) hf rfl (kids hv' hE' lu')).mono (by lia)
    · have hf':foundF 60 (tV n') E' = some (tLam sv,.nil):=by
        show (match lookE E' n' with | some (t',E')=>foundF 59 t' E' | none=>some (tV n',E')) = _
        rw [hl']; rfl
      exact (same_app (n:=10) (P:=.nil) (P':=.nil) (by lia) (by lia) (by simp [esize]) (by simp [esize]) hf hf' (kids ne_uv (by simp [esize]) rfl)).mono (by lia)
theorem same_pieces {xs m E E'} {ks ks':List Tr} {d:Nat} (hl:ks.length ≤ 1000) (hll:ks.length = ks'.length) (h:∀ (i:Nat) (a b:Tr),ks[i]? = some a→ks'[i]? = some b→PieceR xs m E' a b) (hm:∀ n ∈ xs,MeanT (m n)) (hE:esize E ≤ 800) (hE':esize E' ≤ 800) (hu:∀ n ∈ xs,n ≠ su) (hv:∀ n ∈ xs,n ≠ sv) (hlk:∀ n ∈ xs,lookE E n = some (m n,.nil)) (lu:lookE E su = none) (lu':lookE E' su = none) :
    Same 13 (.node (.con (Str.ofString "T")) ks) E (.node (.con (Str.ofString "T")) ks') E' d:=
  same_con (n:=12) (by lia) (by lia) hl hll fun _ _ i a b p q=>same_piece (h i a b p q) hm hE hE' hu hv hlk lu lu'
theorem newname_base {b b' q:Str} (h:NewName b q) (h':NewName b' q) (hb:b.length = 1) (hb':b'.length = 1):b = b':=by
  obtain ⟨d,rfl⟩:=h
  obtain ⟨d',e⟩:=h'
  have e2:(b ++ Str.ofString "." ++ d).cps.toList = (b' ++ Str.ofString "." ++ d').cps.toList:=by rw [e]
  have c1:∀ a c:Str,(a ++ c).cps.toList = a.cps.toList ++ c.cps.toList:=fun a c=>by
    show (a.cps ++ c.cps).toList = _
    simp
  rw [c1,c1,c1,c1,List.append_assoc,List.append_assoc] at e2
  have l1:b.cps.toList.length = 1:=by rw [Array.length_toList]; exact hb
  have l2:b'.cps.toList.length = 1:=by rw [Array.length_toList]; exact hb'
  have:=(List.append_inj e2 (by rw [l1,l2])).1
  obtain ⟨⟨l⟩⟩:=b
  obtain ⟨⟨l'⟩⟩:=b'
  simp at this
  subst this
  rfl
theorem rens_at {i:Str→Option Tr}:∀ {Ns:List (Str→Option Str)} {ks ks':List Tr},Rens i Ns ks ks'→ks.length = ks'.length∧∀ (j:Nat) (a b:Tr),ks[j]? = some a→ks'[j]? = some b→∃ N,Ns[j]? = some N∧Ren i N a b:=by
  intro Ns ks
  induction ks generalizing Ns with
  | nil=>intro ks' h; cases h; exact ⟨rfl,fun j a b h=>by simp at h⟩
  | cons k ks ih=>
    intro ks' h
    cases h with
    | cons h1 h2=>
      obtain ⟨l,r⟩:=ih h2
      refine ⟨by simp [l],fun j a b ha hb=>?_⟩
      cases j with
      | zero=>simp at ha hb; subst ha hb; exact ⟨_,rfl,h1⟩
      | succ j=>exact r j a b (by simpa using ha) (by simpa using hb)
theorem ren_T {i k ks t'} (r:Ren i noN (.node (.con k) ks) t'):∃ ks',t' = .node (.con k) ks'∧ks.length = ks'.length∧∀ (j:Nat) (a b:Tr),ks[j]? = some a→ks'[j]? = some b→Ren i noN a b:=by
  cases ks with
  | nil=>exact ⟨[],ren_leaf rfl r,rfl,fun j a b h=>by simp at h⟩
  | cons a ks=>
    obtain ⟨ks',rfl,k⟩:=ren_con r
    obtain ⟨l,h⟩:=rens_at k
    refine ⟨ks',rfl,l,fun j a b ha hb=>?_⟩
    obtain ⟨N,hN,hR⟩:=h j a b ha hb
    have:=List.eq_of_mem_replicate (List.mem_of_getElem? hN)
    subst this
    exact hR
theorem ren_piece {i xs m E' p p'} (h:PieceT xs m p) (r:Ren i noN p p') (hm:∀ n ∈ xs,MeanT (m n)) (hu:∀ n ∈ xs,n ≠ su) (h1:∀ n ∈ xs,n.length = 1)
    (H:∀ n ∈ xs,i n = some (m n)∨∃ q b,i n = some (tV q)∧lookE E' q = some (m n,.nil)∧NewName b q∧b ∈ xs) (hsu:i su = none):PieceR xs m E' p p':=by
  have lsu:su.length = 1:=len1 (by simp)
  have key:∀ {N n q} {w:Option Str},n ∈ xs→N n = none→(∀ y,w = some y→NewName su y)→Ren i N (tV n) q→Rp E' (m n) w q:=by
    intro N n q w hn hN hw hr
    rcases ren_var hr with ⟨y,h,_⟩ | ⟨_,h,_⟩ | ⟨_,t,h,k⟩
    · rw [hN] at h; cases h
    · rcases H n hn with q | ⟨_,_,q,_⟩ <;> (rw [q] at h; cases h)
    · rcases H n hn with q1 | ⟨q',b,q1,q2,q3,q4⟩
      · rw [q1] at h; cases h
        exact .inl ⟨ren_mean (hm n hn) k,fun y hy=>(hw y hy).ne (by lia) (by lia)⟩
      · rw [q1] at h; cases h
        refine ren_varN k fun z hz=>?_
        rw [hz.no]
        refine .inr ⟨q',rfl,q2,fun y hy e=>?_⟩
        subst e
        exact hu b q4 (newname_base q3 (hw q' hy) (h1 b q4) lsu)
  cases h with
  | var n hn=>exact .var n _ hn (key hn rfl (fun y hy=>by cases hy) r)
  | fn n hn=>
    refine ren_lam r fun u' b' hu' k0=>ren_con2 k0 fun a' b' k1 k2=>?_
    have e1:upd1 noN su u' su = some u':=if_pos rfl
    rcases ren_var k1 with ⟨y,h,e⟩ | ⟨h,_,_⟩ | ⟨h,_⟩
    · have e2:u' = y:=Option.some.inj (e1.symm.trans h)
      rw [e,← e2]
      exact .fn n _ _ hn (key hn (if_neg (hu n hn)) (fun y hy=>Option.some.inj hy ▸ hu') k2)
    · exact absurd (e1.symm.trans h) (fun q=>nomatch q)
    · exact absurd (e1.symm.trans h) (fun q=>nomatch q)
  | app n hn hl=>
    refine ren_app2 r fun a' b' k1 k2=>?_
    rcases ren_var k2 with ⟨y,h,_⟩ | ⟨_,_,e⟩ | ⟨_,t,h2,_⟩
    · exact nomatch h
    · rw [e]; exact .app n _ hn hl (key hn rfl (fun y hy=>nomatch hy) k1)
    · exact absurd (hsu.symm.trans h2) (fun q=>nomatch q)
noncomputable abbrev xy:List Str:=[sx,sy]
noncomputable def mOf (mx my:Tr) (n:Str):Tr:=if n = sx then mx else my
noncomputable abbrev tTs (ks:List Tr):Tr:=.node (.con (Str.ofString "T")) ks
noncomputable abbrev tInl (mx my:Tr) (ks:List Tr):Tr:=.node (.lett xy false) ([mx,my] ++ [tTs ks])
theorem xy_cases {n:Str} (h:n ∈ xy):n = sx∨n = sy:=by simpa using h
theorem mOf_x {mx my}:mOf mx my sx = mx:=if_pos rfl
theorem mOf_y {mx my}:mOf mx my sy = my:=if_neg fun q=>ne_xy q.symm
theorem same_inl {mx my ks n t' E'} (hl:ks.length ≤ 900) (h:Same n (tTs ks) (.one sy my .nil (.one sx mx .nil .nil)) t' E' 3) (hn:n ≤ 50):Same (n + 1) (tInl mx my ks) .nil t' E' 3:=
  same_letL (ks:=[mx,my]) (by simp [esize]) (by simp) rfl h
section
variable {mx my:Tr} {ks:List Tr}
theorem xy_u:∀ n ∈ xy,n ≠ su:=fun n h=>by
  rcases xy_cases h with rfl | rfl
  · exact ne_xu
  · exact ne_yu
theorem xy_v:∀ n ∈ xy,n ≠ sv:=fun n h=>by
  rcases xy_cases h with rfl | rfl
  · exact ne_xv
  · exact ne_yv
theorem xy_1:∀ n ∈ xy,n.length = 1:=fun n h=>by
  rcases xy_cases h with rfl | rfl
  · exact lenx
  · exact leny
theorem xy_look:∀ n ∈ xy,lookE (.one sy my .nil (.one sx mx .nil .nil)) n = some (mOf mx my n,.nil):=fun n h=>by
  rcases xy_cases h with rfl | rfl
  · rw [look_one,if_neg ne_xy,look_one,if_pos rfl,mOf_x]
  · rw [look_one,if_pos rfl,mOf_y]
theorem xy_su:lookE (.one sy my .nil (.one sx mx .nil .nil)) su = none:=by
  rw [look_one,if_neg (fun q=>ne_yu q.symm),look_one,if_neg (fun q=>ne_xu q.symm)]; rfl
theorem xy_mean (hx:MeanT mx) (hy:MeanT my):∀ n ∈ xy,MeanT (mOf mx my n):=fun n h=>by
  rcases xy_cases h with rfl | rfl
  · rw [mOf_x]; exact hx
  · rw [mOf_y]; exact hy
theorem law_inl1 (hx:MeanT mx) (hy:MeanT my) (hp:∀ k ∈ ks,PieceT xy (mOf mx my) k) (hl:ks.length ≤ 900):Same 60 (tInl mx my ks) .nil (tInl mx my ks) .nil 3:=by
  refine Same.mono (n:=15) ?_ (by lia)
  refine same_inl (n:=14) hl (same_letR (n:=13) (ks:=[mx,my]) (by simp [esize]) (by simp) rfl ?_) (by lia)
  refine same_pieces (xs:=xy) (m:=mOf mx my) (by lia) rfl (fun i a b h1 h2=>?_) (xy_mean hx hy) (by simp [esize]) (by simp [ones,esize]) xy_u xy_v xy_look xy_su xy_su
  rw [h1] at h2; cases h2
  have hr:∀ {n} {w:Option Str},n ∈ xy→(∀ y,w = some y→y = su)→Rp (ones .nil .nil [sx,sy] [mx,my]) (mOf mx my n) w (tV n):=fun hn hw=>.inr ⟨_,rfl,xy_look _ hn,fun y hy=>by rw [hw y hy]; exact xy_u _ hn⟩
  cases hp a (List.mem_of_getElem? h1) with
  | var n hn=>exact .var n _ hn (hr hn fun y hy=>by cases hy)
  | fn n hn=>exact .fn n _ _ hn (hr hn fun y hy=>by cases hy; rfl)
  | app n hn q=>exact .app n _ hn q (hr hn fun y hy=>by cases hy)
theorem inst_su {w:Str→Bool} {qs:List Str} (hq:(xy.filter fun x=>!w x).length = qs.length):instOf w xy [mx,my] qs su = none:=by
  unfold instOf
  have h1:su ∉ xy:=fun q=>xy_u su q rfl
  rw [updN_off (fun q=>h1 (List.mem_filter.mp q).1),lookT_off h1]
  show (if w su = true then none else none) = none
  split <;> rfl
theorem law_inl2 {w:Str→Bool} {t':Tr} (hx:MeanT mx) (hy:MeanT my) (hp:∀ k ∈ ks,PieceT xy (mOf mx my) k) (hl:ks.length ≤ 900) (hw:xy.filter (fun x=>!w x) = []) (r:Ren (instOf w xy [mx,my] []) noN (tTs ks) t') :
    Same 60 (tInl mx my ks) .nil t' .nil 3∧headLet t' = false:=by
  have hall:∀ n ∈ xy,w n = true:=fun n hn=>by
    cases q:w n with
    | true=>rfl
    | false=>
      have:n ∈ xy.filter (fun x=>!w x):=List.mem_filter.mpr ⟨hn,by rw [q]; rfl⟩
      rw [hw] at this; cases this
  obtain ⟨ks',rfl,hll,hk⟩:=ren_T r
  refine ⟨?_,rfl⟩
  refine Same.mono (n:=14) (same_inl (n:=13) hl ?_ (by lia)) (by lia)
  refine same_pieces (xs:=xy) (m:=mOf mx my) (by lia) hll (fun i a b h1 h2=>?_) (xy_mean hx hy) (by simp [esize]) (by simp [esize]) xy_u xy_v xy_look xy_su rfl
  refine ren_piece (hp a (List.mem_of_getElem? h1)) (hk i a b h1 h2) (xy_mean hx hy) xy_u xy_1 (fun n hn=>.inl ?_) (inst_su (by rw [hw]))
  unfold instOf
  rw [hw]
  show (if w n = true then lookT xy [mx,my] n else none) = _
  rw [hall n hn,if_pos rfl]
  rcases xy_cases hn with rfl | rfl
  · rw [mOf_x]; exact lookT_at (i:=0) (by decide +kernel) rfl rfl
  · rw [mOf_y]; exact lookT_at (i:=1) (by decide +kernel) rfl rfl
theorem law_inl3 {w:Str→Bool} {t':Tr} {qs:List Str} (hx:MeanT mx) (hy:MeanT my) (hp:∀ k ∈ ks,PieceT xy (mOf mx my) k) (hl:ks.length ≤ 900) (hw:xy.filter (fun x=>!w x) ≠ []) (hw2:∃ x,x ∈ xy∧w x = true) (hq:News1 (xy.filter fun x=>!w x) qs)
    (r:Ren (instOf w xy [mx,my] qs) noN (tTs ks) t'):Same 60 (tInl mx my ks) .nil (.node (.lett qs false) (sel (fun x=>!w x) xy [mx,my] ++ [t'])) .nil 3:=by
  obtain ⟨ks',rfl,hll,hk⟩:=ren_T r
  have hlq:=hq.len
  have two:(w sx = true∧w sy = false)∨(w sx = false∧w sy = true):=by
    cases q1:w sx <;> cases q2:w sy
    · obtain ⟨x,h1,h2⟩:=hw2
      rcases xy_cases h1 with rfl | rfl
      · rw [q1] at h2; cases h2
      · rw [q2] at h2; cases h2
    · exact .inr ⟨rfl,rfl⟩
    · exact .inl ⟨rfl,rfl⟩
    · exfalso; apply hw
      show (List.filter (fun x=>!w x) [sx,sy]) = []
      simp [q1,q2]
  have fin:∀ {k0 k1:Str} {q:Str},k0 ∈ xy→k1 ∈ xy→(∀ n ∈ xy,n = k0∨n = k1)→k0 ≠ k1→xy.filter (fun x=>!w x) = [k0]→w k1 = true→NewName k0 q→qs = [q]→Same 60 (tInl mx my ks) .nil (.node (.lett [q] false) [mOf mx my k0,tTs ks']) .nil 3:=by
    intro k0 k1 q h0 h1 hc hne hf hw1 hn hqs
    subst hqs
    have hqu:su ≠ q:=hn.ne (by rw [xy_1 k0 h0]; lia) (by rw [len1 (x:=su) (by simp)]; lia)
    refine Same.mono (n:=15) (same_inl (n:=14) hl (letR1 (n:=13) (by simp [esize]) ?_) (by lia)) (by lia)
    simp only [Bool.false_eq_true,if_false]
    refine same_pieces (xs:=xy) (m:=mOf mx my) (by lia) hll (fun i a b h1' h2'=>?_) (xy_mean hx hy) (by simp [esize]) (by simp [esize]) xy_u xy_v xy_look xy_su (by rw [look_one,if_neg hqu]; rfl)
    refine ren_piece (hp a (List.mem_of_getElem? h1')) (hk i a b h1' h2') (xy_mean hx hy) xy_u xy_1 (fun n hn'=>?_) (inst_su (by rw [hf]; rfl))
    unfold instOf
    rw [hf]
    rcases hc n hn' with e | e
    · subst e
      refine .inr ⟨q,n,?_,by rw [look_one,if_pos rfl],hn,h0⟩
      rw [updN_at (i:=0) (by simp) rfl rfl]
    · subst e
      left
      rw [updN_off (by simp; exact fun q=>hne q.symm)]
      show (if w n = true then lookT xy [mx,my] n else none) = _
      rw [hw1,if_pos rfl]
      rcases xy_cases hn' with rfl | rfl
      · rw [mOf_x]; exact lookT_at (i:=0) (by decide +kernel) rfl rfl
      · rw [mOf_y]; exact lookT_at (i:=1) (by decide +kernel) rfl rfl
  have one:∀ {k0:Str},xy.filter (fun x=>!w x) = [k0]→∃ q,qs = [q]∧NewName k0 q:=fun {k0} h=>by
    rw [h] at hq
    cases hq with
    | cons a b=>cases b; exact ⟨_,rfl,a⟩
  rcases two with ⟨q1,q2⟩ | ⟨q1,q2⟩
  · have hf:xy.filter (fun x=>!w x) = [sy]:=by show (List.filter (fun x=>!w x) [sx,sy]) = [sy]; simp [q1,q2]
    have hs:sel (fun x=>!w x) xy [mx,my] = [my]:=by simp [sel,q1,q2]
    obtain ⟨q,rfl,hn⟩:=one hf
    rw [hs]
    have:=fin (k0:=sy) (k1:=sx) (by simp) (by simp) (fun n hn=>(xy_cases hn).symm) (fun q=>ne_xy q.symm) hf q1 hn rfl
    rw [mOf_y] at this
    exact this
  · have hf:xy.filter (fun x=>!w x) = [sx]:=by show (List.filter (fun x=>!w x) [sx,sy]) = [sx]; simp [q1,q2]
    have hs:sel (fun x=>!w x) xy [mx,my] = [mx]:=by simp [sel,q1,q2]
    obtain ⟨q,rfl,hn⟩:=one hf
    rw [hs]
    have:=fin (k0:=sx) (k1:=sy) (by simp) (by simp) (fun n hn=>xy_cases hn) ne_xy hf q2 hn rfl
    rw [mOf_x] at this
    exact this
end
end
section
theorem base1:∀ x ∈ [sx,sy,sz,su,sv],Base x:=by
  have h1:∀ x ∈ [sx,sy,sz,su,sv],Txt.rfind x (Str.ofString ".") = -1:=by decide +kernel
  exact fun x hx=>⟨h1 x hx,by rw [len1 hx]; lia,by rw [len1 hx]; lia⟩
theorem good_leaf {h} (hh:gps h = []):GoodT (.node h []):=by
  unfold GoodT
  rw [hh]
  exact ⟨fun xs hx=>(by cases hx),by unfold GoodTs; trivial⟩
theorem good_con {k ks} (h:∀ t ∈ ks,GoodT t):GoodT (.node (.con k) ks):=by
  have:∀ {ks},(∀ t ∈ ks,GoodT t)→GoodTs ks:=by
    intro ks
    induction ks with
    | nil=>intro _; unfold GoodTs; trivial
    | cons t ts ih=>intro h; unfold GoodTs; exact ⟨h t (.head _),ih fun u hu=>h u (.tail _ hu)⟩
  unfold GoodT
  exact ⟨fun xs hx=>(by cases hx),this h⟩
theorem good_let1 {x r0 h b} (hx:Base x) (h1:GoodT h) (h2:GoodT b):GoodT (.node (.lett [x] r0) [h,b]):=by
  unfold GoodT
  refine ⟨fun xs hxs=>?_,?_⟩
  · have:xs = [x]:=by simpa [gps] using hxs
    subst this
    exact ⟨by simp,fun y hy=>by rw [List.mem_singleton.mp hy]; exact hx⟩
  · unfold GoodTs; refine ⟨h1,?_⟩
    unfold GoodTs; refine ⟨h2,?_⟩
    unfold GoodTs; trivial
theorem part_good {xs p} (h:PartT xs p):GoodT p∧tsize p ≤ 3:=by
  cases h with
  | lit n=>exact ⟨good_leaf rfl,by simp [tsize,tsizes]⟩
  | err=>exact ⟨good_leaf rfl,by simp [tsize,tsizes]⟩
  | con x hx=>exact ⟨good_con fun t ht=>(by
      simp at ht
      rcases ht with rfl | rfl
      · exact good_leaf rfl
      · exact good_leaf rfl),by simp [tsize,tsizes]⟩
  | var x hx=>exact ⟨good_leaf rfl,by simp [tsize,tsizes]⟩
theorem body_good {xs p} (h:BodyT xs p):GoodT p∧tsize p ≤ 10:=by
  cases h with
  | mk h1 h2 h3=>
    refine ⟨good_con fun t ht=>?_,?_⟩
    · simp at ht
      rcases ht with rfl | rfl | rfl
      · exact (part_good h1).1
      · exact (part_good h2).1
      · exact (part_good h3).1
    · have a1:=(part_good h1).2
      have a2:=(part_good h2).2
      have a3:=(part_good h3).2
      simp only [tsize,tsizes]
      lia
theorem held_good {r0 h} (hh:HeldT r0 h):GoodT h∧tsize h ≤ 6:=by
  cases hh with
  | non hp=>exact ⟨(part_good hp).1,by have:=(part_good hp).2; lia⟩
  | knot hp=>
    refine ⟨good_con fun t ht=>?_,?_⟩
    · simp at ht
      rcases ht with rfl | rfl
      · exact good_leaf rfl
      · exact (part_good hp).1
    · have a1:=(part_good hp).2
      simp only [tsize,tsizes]
      lia
theorem strs3 {a b d:Str} {t1 t2 t3:Tok}:StrsAre [.str a t1,.str b t2,.str d t3] [a,b,d]:=.cons _ _ (.cons _ _ (.cons _ _ .nil))
theorem strs2 {a b:Str} {t1 t2:Tok}:StrsAre [.str a t1,.str b t2] [a,b]:=.cons _ _ (.cons _ _ .nil)
theorem strs1 {a:Str} {t1:Tok}:StrsAre [.str a t1] [a]:=.cons _ _ .nil
theorem let1R {I:Led} {v l p:Addr} {n m:Nat} {y:Str} {t:Tok} {r0:Bool} {hv bv:Value} {th tb:Tr} (hi:Ins I (.ref v) 212 [("binds",.ref l),("body",bv),("is_rec",.bool r0)]) (hl:(l,listO [.ref p] n) ∈ I) (hp:(p,tupO [.str y t,hv] m) ∈ I) (rh:Rep I th hv) (rb:Rep I tb bv):Rep I (.node (.lett [y] r0) [th,tb]) (.ref v):=by
  obtain ⟨a,rfl⟩:=rb.ref
  exact let1_new hi hl hp rh rb
theorem let_last {I:Led} {P:Prop} {v:Value} {xs:List Str} {r:Bool} {ks:List Tr} {kb:Tr} (h:Rep I (.node (.lett xs r) (ks ++ [kb])) v) (q:∀ l b ps bs,LetV I v xs r l b ps bs→Reps I ks bs→Rep I kb (.ref b)→P):P:=
  let_elim h fun l b ps bs ks' kb' e L h1 h2=>by
    obtain ⟨rfl,e2⟩:=List.append_inj' e rfl
    cases e2
    exact q l b ps bs L h1 h2
noncomputable def Mh (nb h:Addr) (no:Obj) (M0:Led) (o:Obj):Led:=(nb,no) :: (h,o) :: M0
noncomputable def Mn (nb h:Addr) (ho:Obj) (M0:Led) (o:Obj):Led:=(nb,o) :: (h,ho) :: M0
theorem mh2 {nb h:Addr} {no:Obj} {M0:Led}:∀ o1 o2,Put h o1 o2 (Mh nb h no M0 o1) (Mh nb h no M0 o2):=fun _ _=>.tail .head
theorem mn2 {nb h:Addr} {ho:Obj} {M0:Led}:∀ o1 o2,Put nb o1 o2 (Mn nb h ho M0 o1) (Mn nb h ho M0 o2):=fun _ _=>.head
section
variable {e:E0} {x:Ctx e} {vs:List (Option Value)} {M I:Led} {k:Value→Sta→Prop} {st:Sta}
theorem neBB {a:Bool} (q:k (.bool false) st):H x (compareOp .NotEq (.bool a) (.bool a)) st k:=
  ⟨fun s hs=>by
    have h:=SeqAt.RcNeAt.bool_bool (A:=x.c.A) (s:=s) a a e.prog e.w (fun _ _=>False) (up x k)
    rw [show (!(a == a)) = false by cases a <;> rfl] at h
    exact h ⟨st,hs,q⟩⟩
end
end
section
abbrev D585:=Value × Tr × Obj × Led
noncomputable def S585 (h nb fa:Addr) (no:Obj) (M0:Led) (r0:Bool) (d:D585):Sta:=⟨[some (.ref h),some (.ref fa),some (.bool r0),none,none,none,none],Mh nb h no M0 d.2.2.1,d.2.2.2⟩
def F585 (I0:Led) (r0:Bool) (d:D585):Prop:=HeldT r0 d.2.1∧Rep d.2.2.2 d.2.1 d.1∧Sub I0 d.2.2.2∧HandO d.2.2.1
theorem hard_let {r0:Bool} {held b2 b1:Tr} {ys:List Str} {ks':List Tr} {kb:Tr} (hh:HeldT r0 held) (h2:BodyT [sy,sy,sx] b2) (h1:BodyT [sx,sx,sy] b1) (r:Ren noI noN (.node (.lett [sy] r0) [held,b2]) (.node (.lett ys r0) (ks' ++ [kb]))) :
    Same 60 (.node (.lett [sx] false) [.node (.lett [sy] r0) [held,b2],b1]) .nil (.node (.lett ys r0) (ks' ++ [.node (.lett [sx] false) [kb,b1]])) .nil 3∧headLet kb = false:=by
  obtain ⟨h,kk,kks,rfl⟩:=law_let_of_let hh h2 h1 r
  exact ⟨h,rfl⟩
section
variable {e:E0} {x:Ctx e} {vs:List (Option Value)} {M I:Led} {k:Value→Sta→Prop}
theorem right_let_of_letH {h nb fa:Addr} {ho no:Obj} {M0:Led} (hM:M = Mh nb h no M0 ho) (hh:HandO ho) (hf:FreshI e I (.ref fa) nb) (hn:NumsO e nb no 0) (hr:80 ≤ x.c.room) (q:∀ M' I',k (.bool true) ⟨vs,M',I'⟩) :
    H x (call (.ref 585) [.ref h,.ref fa]) ⟨vs,M,I⟩ k:=by
  cases hM
  refine fr585.run rfl hr fun x' hx t0=>mixH hh rfl mh2 (by decide) (rm hx rfl) fun ho1 f tf hh1 hf0 t1=>joinV (fun d:D585=>d.1) (S585 h nb fa no M0 (f == 0)) (F585 I (f == 0))
    (fun _ J9=>cnd (fun h1 tK ty=>new52 (rm hx rfl) fun v1 I1 s1 hv1 t2 t3 t4 a=>H.freeze .head (partH hh1 rfl mh2 ⟨a,0,rfl,.head _⟩ strs3 (by decide) (rm hx rfl) fun tp v2 o2 I2 hpt hrep s2 hh2 a2=>H.freeze .head (new252 (rm hx rfl) fun v3 I3 s3 hv3=>?knot))
      ) fun h1 t2 t3 t4 a=>H.freeze .head (partH hh1 rfl mh2 ⟨a,0,rfl,.head _⟩ strs3 (by decide) (rm hx rfl) fun tp v2 o2 I2 hpt hrep s2 hh2=>J9.jv (v2,tp,o2,I2) ⟨?non,hrep,Sub.one.trans s2,hh2⟩)) fun d hd=>?rest
  case knot=>
    have s13:=Sub.one.trans (s2.trans (Sub.one.trans s3))
    exact J9.jv (.ref v3,.node (.con "K") [tV sy,tp],o2,I3) ⟨by rw [h1]; exact .knot hpt,.con hv3 (s3 _ (.head _)) ⟨(Rep.var hv1).mono s13,hrep.mono (Sub.one.trans s3),True.intro⟩,s1.trans s13,hh2⟩
  case non=>rw [h1]; exact .non hpt
  obtain ⟨hheld,hrh,s1,hh2⟩:=hd
  refine fun ty r a t2 t3 t4 a2=>H.freeze .head (H.freeze .head (bodyH hh2 rfl mh2 ⟨a2,0,rfl,.tail _ (.head _)⟩ strs3 (by decide) (rm hx rfl) fun b2 bv o3 I2 hb2 hrb s2 hh3=>new212 (rm hx rfl) fun v3 I3 s3 hv3 tx r' a' t5 t6 t7 a3=>H.freeze .head (H.freeze .head (bodyH hh3 rfl mh2 ⟨a3,0,rfl,.tail _ (.head _)⟩ strs3 (by decide) (rm hx rfl) fun b1 bv1 o4 I4 hb1 hrb1 s4 hh4=>new212 (rm hx rfl) fun v5 I5 s5 hv5=>?call))))
  have s23:=s2.trans s3
  have s45:=s4.trans s5
  have hr1:=let1R hv3 (s23 _ (.head _)) (s23 _ (.tail _ (.tail _ (.head _)))) (hrh.mono (Sub.one.trans (Sub.one.cons.trans s23))) (hrb.mono s3)
  have hr2:=let1R hv5 (s45 _ (.head _)) (s45 _ (.tail _ (.tail _ (.head _)))) (hr1.mono (Sub.one.trans (Sub.one.cons.trans s45))) (hrb1.mono s5)
  have hall:Sub I I5:=s1.trans (Sub.one.trans (Sub.one.cons.trans (s23.trans (Sub.one.trans (Sub.one.cons.trans s45)))))
  have hg1:=held_good hheld
  have hg2:=body_good hb2
  refine let_of_letH (Mf:=Mn nb h o4 M0) hr2 ⟨_,rfl⟩ (hf.mono hall) hn rfl mn2 (good_let1 (base1 _ (by simp)) hg1.1 hg2.1) ?z (by decide) (rm hx rfl) fun ys ks' kb v6 o6 I6 hRen hrT s6 hno=>let_last hrT fun l b ps bs L r1 r2=>let1_elim r2 fun l2 b2 pa pn bw tx L2 hpm rK rE=>?fin
  case z=>rw [tsize,tsizes,tsizes,tsizes]; exact Nat.le_trans (Nat.succ_le_succ (Nat.add_le_add hg1.2 hg2.2)) (by decide)
  obtain ⟨hS,hkb⟩:=hard_let hheld hb2 hb1 hRen
  exact getF L.is_rec g212_is_rec (neBB (getF L.body g212_body (isiR r2 rfl (getF L.body g212_body (getF L2.is_rec g212_is_rec (getF L.body g212_body (getF L2.binds g212_binds (lenL L2 (Nat.le_of_ble_eq_true rfl) fun t8 t9=>getF L.body g212_body (getF L2.binds g212_binds fun t10=>itemL L2 (i:=0) rfl (by decide) fun t11=>itemTH (i:=1) (.inr hpm) (by decide) rfl (isiL rK (notH (cndT (by rw [hkb]; rfl)
    (sameH (hr2.mono s6) hrT hS (Nat.le_refl _) (rm hx rfl) fun I7 s7=>retI (q _ _))))))))))))))
end
end
section
noncomputable def Mo (h:Addr) (M0:Led) (o:Obj):Led:=(h,o) :: M0
theorem mo2 {h:Addr} {M0:Led}:∀ o1 o2,Put h o1 o2 (Mo h M0 o1) (Mo h M0 o2):=fun _ _=>.head
noncomputable def tK2 (p:Tr):Tr:=.node (.con "K") [p,.node (.lit "int" 2) []]
theorem tK2_size {xs:List Str} {p:Tr} (h:PartT xs p):tsize (tK2 p) ≤ 60:=by
  have:=(part_good h).2
  show tsizes [p,_] + 1 ≤ 60
  simp only [tsize,tsizes]; lia
section
variable {e:E0} {x:Ctx e} {vs:List (Option Value)} {M I:Led} {k:Value→Sta→Prop} {st:Sta}
theorem eqBB {a b:Bool} (h:a = b) (q:k (.bool true) st):H x (compareOp .Eq (.bool a) (.bool b)) st k:=
  ⟨fun s hs=>by
    have h2:=SeqAt.RcAt.bool_bool (A:=x.c.A) (s:=s) a b e.prog e.w (fun _ _=>False) (up x k)
    rw [show (a == b) = true by subst h; cases a <;> rfl] at h2
    exact h2 ⟨st,hs,q⟩⟩
theorem isTwo {t u:Tr} {a b:Addr} (r:Rep I t (.ref a)) (r':Rep I u (.ref b)) (q:∀ c:Bool,(a = b→c = true)→k (.bool c) ⟨vs,M,I⟩):H x (compareOp .Is (.ref a) (.ref b)) ⟨vs,M,I⟩ k:=by
  by_cases hab:a = b
  · subst hab; exact isSelf (q _ fun _=>rfl)
  · obtain ⟨h,ks⟩:=t
    obtain ⟨ws,rH,_⟩:=r
    obtain ⟨fs,⟨y,dx,es,n,e1,h1,_⟩,_⟩:=rH.ins
    obtain ⟨h',ks'⟩:=u
    obtain ⟨ws',rH',_⟩:=r'
    obtain ⟨fs',⟨y',dx',es',n',e2,h2,_⟩,_⟩:=rH'.ins
    cases e1
    cases e2
    exact ⟨fun s hs=>is_other hab (St.hasI hs h1) (St.hasI hs h2) (upM hs (q _ fun w=>absurd w hab))⟩
theorem plain_let2H {y:Str} {r0:Bool} {hd0 bd:Tr} {v:Addr} (r:Rep I (.node (.lett [y] r0) [hd0,bd]) (.ref v)) (hz:tsize hd0 ≤ 60) (hr:6 ≤ x.c.room)
    (q:∀ v' r1 I',Sub I I'→r1 = (r0 && decide (y ∈ fvOf hd0))→(v' = v∨r0 = true)→Rep I' (.node (.lett [y] r1) [hd0,bd]) (.ref v')→k (.ref v') ⟨vs,M,I'⟩):H x (call (.ref 470) [.ref v]) ⟨vs,M,I⟩ k:=
  plain_letH r hz hr (fun h I' s=>q v r0 I' s (h.elim (fun h=>by rw [h]; rfl) fun h=>by rw [decide_eq_true h,Bool.and_true]) (.inl rfl) (r.mono s))
    fun h1 h2 v' I' s hr'=>q v' false I' s (by rw [decide_eq_false h2,Bool.and_false]) (.inr h1) hr'
theorem law_plain2 {p b:Tr} {r0 r1:Bool} (hp:PartT [sx,sy,sy] p) (hb:BodyT [sx,sy] b) (h:r1 = (r0 && decide (sx ∈ fvOf (tK2 p)))):Same 60 (.node (.lett [sx] r0) [tK2 p,b]) .nil (.node (.lett [sx] r1) [tK2 p,b]) .nil 3:=by
  refine law_plain hp hb ?_
  by_cases q:sx ∈ fvOf (tK2 p)
  · left; rw [h,decide_eq_true q,Bool.and_true]
  · exact .inr q
theorem right_plainH {h:Addr} {ho:Obj} {M0:Led} (hM:M = Mo h M0 ho) (hh:HandO ho) (hr:80 ≤ x.c.room) (q:∀ M' I',k (.bool true) ⟨vs,M',I'⟩):H x (call (.ref 602) [.ref h]) ⟨vs,M,I⟩ k:=by
  cases hM
  refine fr602.run rfl hr fun x' hx tK t1 t2 t3 a=>H.freeze .head (partH hh rfl mo2 ⟨a,0,rfl,.head _⟩ strs3 (by decide) (rm hx rfl) fun tp v1 o1 I1 hpt hrep s1 hh1 ti t4=>new94 (rm hx rfl) fun v2 I2 s2 hv2 a2=>H.freeze .head (new252 (rm hx rfl) fun v3 I3 s3 hv3 t9=>mixH hh1 rfl mo2 (by decide) (rm hx rfl) fun o2 f tf hh2 hf t5 tx r a3 t6 t7 a4=>
    H.freeze .head (H.freeze .head (bodyH hh2 rfl mo2 ⟨a4,0,rfl,.tail _ (.head _)⟩ strs2 (by decide) (rm hx rfl) fun b1 bv o3 I4 hb1 hrb s4 hh3=>new212 (rm hx rfl) fun v5 I5 s5 hv5=>?lt))))
  have hrh:Rep I3 (tK2 tp) (.ref v3):=.con hv3 (s3 _ (.head _)) ⟨hrep.mono (s2.trans (Sub.one.trans s3)),(Rep.lit hv2).mono (Sub.one.trans s3),True.intro⟩
  have s45:=s4.trans s5
  have s35:=Sub.one.trans (Sub.one.cons.trans s45)
  have hr2:=let1R hv5 (s45 _ (.head _)) (s45 _ (.tail _ (.tail _ (.head _)))) (hrh.mono s35) (hrb.mono s5)
  have hz:=tK2_size hpt
  refine plain_let2H hr2 hz (rm hx rfl) fun v6 r1 I6 s6 hr1 hid hr6=>getF (C:=212) (u:=.bool r1) ?fld g212_is_rec (cnd (fun h1 ty=>is_freeH ((hrh.mono s35).mono s6) (rm hx rfl) hz fun I7 s7=>eqBB (by rw [hr1,h1]; rfl) (isTwo (hr6.mono s7) ((hr2.mono s6).mono s7) fun c hc=>cnd (fun h3=>cndT h3 (sameH ((hr2.mono s6).mono s7) (hr6.mono s7) (law_plain2 hpt hb1 hr1) (Nat.le_refl _) (rm hx rfl) fun I8 s8=>retI (q _ _)))
      fun h3=>cndT h1 (sameH ((hr2.mono s6).mono s7) (hr6.mono s7) (law_plain2 hpt hb1 hr1) (Nat.le_refl _) (rm hx rfl) fun I8 s8=>retI (q _ _))))
    fun h1=>eqBB (by rw [hr1,h1]; rfl) (isTwo hr6 (hr2.mono s6) fun c hc=>cnd (fun h3=>cndT h3 (sameH (hr2.mono s6) hr6 (law_plain2 hpt hb1 hr1) (Nat.le_refl _) (rm hx rfl) fun I8 s8=>retI (q _ _)))
      fun h3=>absurd (hc (hid.resolve_right fun w=>absurd (h1.symm.trans w) Bool.noConfusion)) (by rw [h3]; exact Bool.noConfusion)))
  case fld=>exact let1_elim hr6 fun l b pa pn bw tx L hpm rB rE=>L.is_rec
end
end
section
noncomputable abbrev lPart:List Str:=[sx,sy,su,su,su]
def ClashAt (xs:List Str) (ts:List Tr) (j:Nat):Prop:=∃ t y,ts[j]? = some t∧y ∈ fvOf t∧y ∈ xs.take j
theorem clash_iff {xs:List Str} {ts:List Tr}:Clash xs ts ↔ ∃ j,ClashAt xs ts j:=by
  constructor
  · rintro ⟨i,t,y,_,h1,h2,h3⟩; exact ⟨i,t,y,h1,h2,h3⟩
  · rintro ⟨j,t,y,h1,h2,h3⟩
    refine ⟨j,t,y,?_,h1,h2,h3⟩
    cases j with
    | zero=>simp at h3
    | succ j=>lia
theorem law_parted {n:Nat} {ts:List Tr} {b:Tr} (hn:n = 2∨n = 3) (hl:ts.length = n) (ht:∀ t ∈ ts,PartT lPart t) (hb:BodyT ([sx,sy,sz].take n ++ [su]) b) (hc:¬ Clash ([sx,sy,sz].take n) ts) :
    Same 60 (.node (.lett ([sx,sy,sz].take n) false) (ts ++ [b])) .nil (nestT ([sx,sy,sz].take n) ts b) .nil 3:=by
  rcases hn with rfl | rfl
  · match ts,hl with
    | [t1,t2],_=>exact law_parted2 (ht t1 (by simp)) (ht t2 (by simp)) hb hc
  · match ts,hl with
    | [t1,t2,t3],_=>exact law_parted3 (ht t1 (by simp)) (ht t2 (by simp)) (ht t3 (by simp)) hb hc
def Emp {α:Type} (ws:List α) (P:Prop):Prop:=ws = [] ↔ P
theorem emp_yes {α:Type} {ws:List α} {w:α} {P:Prop} (h:¬ P):Emp (ws ++ [w]) P:=⟨fun q=>absurd q (by simp),fun q=>absurd q h⟩
def NoFree (xs:List Str) (t:Tr) (i k:Nat):Prop:=∀ y ∈ (xs.take i).take k,y ∉ fvOf t
theorem nofree_no {α:Type} {us:List α} {xs:List Str} {t:Tr} {i k:Nat} {y:Str} (h:Emp us (NoFree xs t i k)) (hy:(xs.take i)[k]? = some y) (hb:decide (y ∈ fvOf t) = false):Emp us (NoFree xs t i (k + 1)):=
  h.trans ⟨fun q z hz=>by
    rw [take_next hy] at hz
    rcases List.mem_append.mp hz with r | r
    · exact q z r
    · rw [List.mem_singleton.mp r]; exact of_decide_eq_false hb,fun q z hz=>q z (by rw [take_next hy]; exact List.mem_append.mpr (.inl hz))⟩
theorem nofree_yes {α:Type} {us:List α} {u:α} {xs:List Str} {t:Tr} {i k:Nat} {y:Str} (hy:(xs.take i)[k]? = some y) (hb:decide (y ∈ fvOf t) = true):Emp (us ++ [u]) (NoFree xs t i (k + 1)):=
  emp_yes fun q=>q y (by rw [take_next hy]; exact List.mem_append.mpr (.inr (.head _))) (of_decide_eq_true hb)
theorem clash_at {α:Type} {us:List α} {xs:List Str} {ts:List Tr} {t:Tr} {i k:Nat} (h:Emp us (NoFree xs t i k)) (hk:(xs.take i).length ≤ k) (ht:ts[i]? = some t):ClashAt xs ts i ↔ us ≠ []:=by
  have h:us = [] ↔ ∀ y ∈ (xs.take i).take k,y ∉ fvOf t:=h
  rw [List.take_of_length_le hk] at h
  rw [Ne,h]
  constructor
  · rintro ⟨t',y,h1,h2,h3⟩ q
    rw [ht] at h1; cases h1
    exact q y h3 h2
  · intro q
    apply Classical.byContradiction
    intro r
    exact q fun y hy hf=>r ⟨t,y,ht,hf,hy⟩
def NoCl (xs:List Str) (ts:List Tr) (i:Nat):Prop:=∀ j,j < i→¬ ClashAt xs ts j
theorem nocl_no {α β:Type} {ws:List β} {us:List α} {xs:List Str} {ts:List Tr} {i:Nat} (h:Emp ws (NoCl xs ts i)) (hc:ClashAt xs ts i ↔ us ≠ []) (hb:(!us.isEmpty) = false):Emp ws (NoCl xs ts (i + 1)):=
  h.trans ⟨fun q j hj=>by
    by_cases hji:j = i
    · subst hji
      rw [hc]
      cases us with
      | nil=>exact fun w=>w rfl
      | cons=>cases hb
    · exact q j (by lia),fun q j hj=>q j (by lia)⟩
theorem nocl_yes {α β:Type} {ws:List β} {w:β} {us:List α} {xs:List Str} {ts:List Tr} {i:Nat} (hc:ClashAt xs ts i ↔ us ≠ []) (hb:(!us.isEmpty) = true):Emp (ws ++ [w]) (NoCl xs ts (i + 1)):=
  emp_yes fun q=>q i (Nat.lt_succ_self i) (hc.mpr (by intro z; rw [z] at hb; cases hb))
theorem nocl_fin {β:Type} {ws:List β} {xs:List Str} {ts:List Tr} {n:Nat} (h:Emp ws (NoCl xs ts n)) (hn:ts.length ≤ n):Clash xs ts ↔ ws ≠ []:=by
  have h:ws = [] ↔ ∀ j,j < n→¬ ClashAt xs ts j:=h
  rw [Ne,h,clash_iff]
  constructor
  · rintro ⟨j,hj⟩ q
    obtain ⟨t,y,h1,h2,h3⟩:=id hj
    have:=(List.getElem?_eq_some_iff.mp h1).1
    exact q j (by lia) hj
  · intro q
    apply Classical.byContradiction
    intro r
    exact q fun j _ hj=>r ⟨j,hj⟩
theorem nest_e {P:Prop} {I:Led} {b:Addr} {hv w:Value} {xs:List Str} {bs:List Value} {i:Nat} {z:Str} (h:NestI I b hv (xs.drop i) (bs.drop i)) (hz:xs[i]? = some z) (hw:bs[i]? = some w)
    (q:∀ v v' l p n m t,hv = .ref v→Ins I (.ref v) 212 [("binds",.ref l),("body",v'),("is_rec",.bool false)]→(l,listO [.ref p] n) ∈ I→(p,tupO [.str z t,w] m) ∈ I→NestI I b v' (xs.drop (i + 1)) (bs.drop (i + 1))→P):P:=by
  rw [drop_cons_of hz,drop_cons_of hw] at h
  generalize xs.drop (i + 1) = xs' at *
  generalize bs.drop (i + 1) = bs' at *
  cases h with
  | cons h1 h2 h3 h4=>exact q _ _ _ _ _ _ _ rfl h1 h2 h3 h4
theorem nest_nil {I:Led} {b:Addr} {hv:Value} {xs:List Str} {bs:List Value} {n:Nat} (h:NestI I b hv (xs.drop n) (bs.drop n)) (h1:xs.length ≤ n) (h2:bs.length ≤ n):hv = .ref b:=by
  rw [List.drop_of_length_le h1,List.drop_of_length_le h2] at h
  cases h; rfl
section
variable {e:E0} {x:Ctx e} {vs:List (Option Value)} {M I:Led} {k:Value→Sta→Prop} {st:Sta}
theorem CompH.drop {as:Value→Sta→(Sta→Prop)→Prop} {v:Value} {M':Led} {p:Addr × Obj} {nl:Nat} {T:Ctx e→Sta→(Bool→Sta→Prop)→Prop} {El:Ctx e→Sta→(Value→Sta→Prop)→Prop} (h:Pick p M M') (q:CompH x as T El nl v ⟨vs,M',I⟩ k):CompH x as T El nl v ⟨vs,M,I⟩ k:=⟨q.ex.drop h⟩
theorem isV {v:Value} {a:Addr} (h:v = .ref a) (q:k (.bool true) st):cmpB x .Is v (.ref a) st k:=by
  subst h
  exact isSelf q
theorem isiI {v:Value} {fs:List (Str × Value)} (h:Ins st.I v 212 fs) (q:k (.bool true) st):H x (call (.builtin "isinstance") [v,.ref 212]) st k:=⟨fun _ hs=>isi_ins x.ok hs h (e.kf.is_ _ (memL rfl)) (e.kf.kit _ (memL rfl) _ (memL rfl)) fun _ hs'=>⟨st,hs',q⟩⟩
theorem parted2H {v:Value} {l:Addr} {ps bs:List Value} {b:Addr} {xs:List Str} {ts:List Tr} (L:LetV I v xs false l b ps bs) (hT:Reps I ts bs) (hn:2 ≤ xs.length∧xs.length ≤ 10) (hts:∀ t ∈ ts,tsize t ≤ 60) (hr:6 ≤ x.c.room)
    (q:∀ tv I',Sub I I'→((Clash xs ts∧tv = v)∨(¬ Clash xs ts∧NestI I' b tv xs bs))→k tv ⟨vs,M,I'⟩):H x (call (.ref 439) [v]) ⟨vs,M,I⟩ k:=
  partedH L hT hn hts hr (fun h I' s=>q v I' s (.inl ⟨h,rfl⟩)) fun h v' I' s hN=>q v' I' s (.inr ⟨h,hN⟩)
end
end
section
section
variable {e:E0} {x:Ctx e} {vs:List (Option Value)} {M I:Led} {k:Value→Sta→Prop} {st:Sta}
theorem neOne {la lb pa pb:Addr} {n m n2 m2:Nat} {z:Str} {t u:Tok} {w:Value} (hr:1 ≤ x.c.room) (ha:Own M I la (listO [.ref pa] n)) (hb:Own M I lb (listO [.ref pb] m)) (hpa:(pa,tupO [.str z t,w] n2) ∈ I) (hpb:(pb,tupO [.str z u,w] m2) ∈ I) (q:k (.bool false) ⟨vs,M,I⟩) :
    H x (compareOp .NotEq (.ref la) (.ref lb)) ⟨vs,M,I⟩ k:=⟨fun s hs=>by
  have hu:=x.ok.uni
  refine c_ne_listF (ha.at hs) (hb.at hs) rfl (unitsL x) (fun j x1 y1 q1 q2=>?_) (upM hs q)
  cases j with
  | succ j=>cases q1
  | zero=>
    cases q1
    cases q2
    refine e_tup (St.hasI hs hpa) (St.hasI hs hpb) rfl (Nat.lt_of_le_of_lt (Nat.add_le_add_left (Nat.le_trans hr (Nat.le_mul_of_pos_left _ (by decide))) _) hu) fun j x2 y2 q3 q4=>?_
    match j,q3,q4 with
    | 0,q3,q4=>
      cases q3
      cases q4
      have:=e_str (s:=s) (A:=x.c.A.in1.in1) (x:=z) (y:=z) (t:=t) (u:=u)
      rwa [decide_eq_true rfl] at this
    | 1,q3,q4=>
      cases q3
      cases q4
      exact e_same
    | j + 2,q3,q4=>cases q3⟩
theorem strs5 {a b c d f:Str} {t1 t2 t3 t4 t5:Tok}:StrsAre [.str a t1,.str b t2,.str c t3,.str d t4,.str f t5] [a,b,c,d,f]:=.cons _ _ (.cons _ _ (.cons _ _ (.cons _ _ (.cons _ _ .nil))))
end
abbrev D590:=Obj × Led × List Value × List Tr
noncomputable def S590 (h:Addr) (M0:Led) (_:Nat) (d:D590):Led × Led:=(Mo h M0 d.1,d.2.1)
def F590 (I0:Led) (xs:List Str) (i:Nat) (zs:List Value) (d:D590):Prop:=HandO d.1∧Sub I0 d.2.1∧Binds d.2.1 zs (xs.take i) d.2.2.1∧Reps d.2.1 d.2.2.2 d.2.2.1∧∀ t ∈ d.2.2.2,PartT lPart t
noncomputable def S590c (M:Led) (_:Nat) (I:Led):Led × Led:=(M,I)
def F590c (I0:Led) (P:Nat→Prop) (i:Nat) (ws:List Value) (I:Led):Prop:=Sub I0 I∧Emp ws (P i)
noncomputable def S590r (h na acc acc2:Addr) (mv ev tv:Value) (M:Led) (_:Nat):Led × OV × Value × OV→Sta
  | (I,u1,hv,u2)=>⟨[some (.ref h),some mv,some (.ref na),u1,some (.ref acc),some ev,some tv,some (.ref acc2),some hv,u2],M,I⟩
def F590r (I0 I1:Led) (b:Addr) (xs:List Str) (bs:List Value) (i:Nat):Led × OV × Value × OV→Prop
  | (I,_,hv,_)=>Sub I0 I∧NestI I1 b hv (xs.drop i) (bs.drop i)
theorem many_e {P:Prop} {f:Int} (hf:0 ≤ f∧f < 2) (q:∀ n:Nat,2 + f = (n:Int)→(n = 2∨n = 3)→P):P:=by
  obtain ⟨m,rfl⟩:=Int.eq_ofNat_of_zero_le hf.1
  refine q (2 + m) rfl ((Nat.lt_or_ge m 1).imp (fun h=>?_) fun h=>?_)
  · rw [Nat.lt_one_iff.mp h]
  · rw [Nat.le_antisymm (Nat.le_of_lt_succ ((Int.ofNat_lt (m:=2)).mp hf.2)) h]
theorem pick3 {ys:List Value} {m:Int} {n:Nat} (hn:m = (n:Int)) (h:n ≤ ys.length):kms_pick ys none (some m) = ys.take n:=by subst hn; exact pick_take h
theorem Binds.grow {I I':Led} {zs bs:List Value} {xs:List Str} {i:Nat} {p v:Value} {x:Str} {t:Tok} (h:Binds I zs (xs.take i) bs) (k:Sub I I') (hx:xs[i]? = some x) (h1:TupI I' p [.str x t,v]):Binds I' (zs ++ [p]) (xs.take (i + 1)) (bs ++ [v]):=by rw [take_next hx]; exact (h.mono k).snoc h1
theorem Binds.all {I:Led} {zs bs:List Value} {xs:List Str} {n:Nat} (h:Binds I zs (xs.take n) bs) (hn:xs.length ≤ n):Binds I zs xs bs:=by rw [List.take_of_length_le hn] at h; exact h
theorem all_snoc {α:Type} {P:α→Prop} {l:List α} {a:α} (h:∀ t ∈ l,P t) (ha:P a):∀ t ∈ l ++ [a],P t:=fun t ht=>(mem_last ht).elim (h t) fun e=>e ▸ ha
theorem three7 {a b c:Value}:([a,b,c]:List Value).length ≤ 10000000:=by show 3 ≤ 10000000; decide
theorem parts60 {ts:List Tr} (h:∀ t ∈ ts,PartT lPart t):∀ t ∈ ts,tsize t ≤ 60:=fun t ht=>Nat.le_trans (part_good (h t ht)).2 (by decide)
section
variable {e:E0} {x:Ctx e} {vs:List (Option Value)} {M I:Led} {k:Value→Sta→Prop} {st:Sta}
set_option maxHeartbeats 1000000
theorem right_partedH {h:Addr} {ho:Obj} {M0:Led} (hM:M = Mo h M0 ho) (hh:HandO ho) (hr:80 ≤ x.c.room) (q:∀ M' I',k (.bool true) ⟨vs,M',I'⟩):H x (call (.ref 590) [.ref h]) ⟨vs,M,I⟩ k:=by
  cases hM
  refine fr590.run rfl hr fun x' hx t1 t2=>mixH hh rfl mo2 (by decide) (rm hx rfl) fun o1 f tf hh1 hf t3 tx ty tz a r=>many_e hf fun n hn hn23=>sliceE (.inl (.head _)) (.head _) .none (.int _ _) (three7) (pick3 hn (show n ≤ 3 from hn23.elim (fun e=>e ▸ (by decide:2 ≤ 3)) Nat.le_of_eq)) fun na=>CompH.freeze .head (CompH.drop .head ?cmp)
  have hys:StrsAre ([.str sx tx,.str sy ty,.str sz tz].take n) ([sx,sy,sz].take n):=strs_take strs3 n
  have hn3:n ≤ 3:=hn23.elim (fun e=>e ▸ (by decide:2 ≤ 3)) Nat.le_of_eq
  have hxl:([sx,sy,sz].take n).length = n:=by rw [List.length_take]; exact Nat.min_eq_left hn3
  have hyl:=(strs_len hys).trans hxl
  refine compH (S590 h M0) (F590 _ ([sx,sy,sz].take n)) (o1,_,[],[]) (itList (.inr (.head _))) rfl ⟨hh1,Sub.refl,.nil,True.intro,fun t ht=>nomatch ht⟩ (Nat.le_trans (Nat.le_of_eq hyl) (Nat.le_trans hn3 (by decide))) (fun _ _ _ h=>srcL (.inr (h.2.1 _ (.head _))))
    (fun x2 hr2 i y zs d it io m acc u hi hX hd _ V9=>strs_e hys hX fun z tz' ez hz hzm=>?el) fun acc zs d m hd tu c=>H.freeze (.tail .head) (addLH (.inr (.tail _ (hd.2.1 _ (.head _)))) (.inl (.head _)) ?zl fun nl2=>H.freeze .head (H.drop .head (bodyH hd.1 rfl mo2 ⟨nl2,0,rfl,.head _⟩ (strs_snoc hys) ?bl (rm hx rfl) fun b1 bv o3 I3 hb1 hrb s3 hh3=>new212 (rm hx rfl) fun v3 I4 s4 hv3=>?mid)))
  case el=>
    cases ez
    refine fun t4 t5 t6 t7 t8 a5=>H.freeze .head (partH (Mf:=fun o=>(it,io) :: (acc,listO zs m) :: Mo h M0 o) hd.1 rfl (fun _ _=>.tail (.tail .head)) ⟨a5,0,rfl,.head _⟩ strs5 (by decide) (hr2 ▸ rm hx rfl) fun tp v2 o2 I2 hpt hrep s2 hh2 r3=>V9.ce (S:=S590 h M0) (o2,(r3,tupO [.str z tz',v2] 0) :: I2,d.2.2.1 ++ [v2],d.2.2.2 ++ [tp]) ⟨hh2,hd.2.1.trans (Sub.one.trans (s2.trans Sub.one)),hd.2.2.1.grow (Sub.one.trans (s2.trans Sub.one)) hz ⟨r3,0,rfl,.head _⟩,
      (hd.2.2.2.1.mono (Sub.one.trans (s2.trans Sub.one))).snoc (hrep.mono Sub.one),all_snoc hd.2.2.2.2 hpt⟩ Le.refl rfl)
  case zl=>rw [hyl]; exact Nat.le_trans (Nat.succ_le_succ hn3) (by decide)
  case bl=>rw [List.length_append,hxl]; exact ⟨Nat.succ_pos n,Nat.lt_of_le_of_lt (Nat.succ_le_succ hn3) (by decide)⟩
  obtain ⟨ba,rfl⟩:=hrb.ref
  have s34:Sub ((acc,listO zs m) :: d.2.1) I4:=Sub.one.trans (s3.trans s4)
  have hB0:=hd.2.2.1.all (Nat.le_of_eq (hxl.trans hyl.symm))
  have L:LetV I4 (.ref v3) ([sx,sy,sz].take n) false acc ba zs d.2.2.1:=⟨hv3,⟨m,s34 _ (.head _)⟩,hB0.mono (Sub.one.trans s34)⟩
  have hR:=hd.2.2.2.1.mono (Sub.one.trans s34)
  have hr2:=let_new L hR (hrb.mono s4)
  have hB:=L.bnd
  have hlB:=hB.len
  have hzl:zs.length = n:=hlB.1.trans hxl
  have htl:d.2.2.2.length = n:=(hR.len.trans hlB.2).trans hxl
  have hna:=s34 _ (.tail _ (hd.2.1 _ (.head _)))
  have hts:=parts60 hd.2.2.2.2
  refine parted2H L hR (by rw [hxl]; exact ⟨hn23.elim (fun e=>Nat.le_of_eq e.symm) (fun e=>e ▸ (by decide:2 ≤ 3)),Nat.le_trans hn3 (by decide)⟩) hts (rm hx rfl) fun tv I5 s5 htold=>rangeH1 fun rg ro hrg=>compH (S590c (Mo h M0 o3)) (F590c I5 (NoCl ([sx,sy,sz].take n) d.2.2.2)) I5 (itRange0 (n:=n) (hn ▸ hrg) (Nat.le_trans hn3 (by decide))) rfl ⟨Sub.refl,fun _ j hj=>absurd hj (Nat.not_lt_zero _),fun _=>rfl⟩ (by lia) (fun _ _ _ _=>srcTrue)
    (fun x2 hr2 i y ws I6 it io m2 acc2 u hi hX h6 _ V9=>bind_e hB (hzl ▸ hi) fun pa pn z tz' w e1 hp hz hw=>rep_i hR hw fun tk htk hrep=>?el2) fun acc2 ws I6 m2 h6 T a4=>neL0 (rm hx rfl) (.inl (.tail _ (.head _))) (.inl (.head _)) (cnd (fun hb=>isV ?told (retI (q _ _))) fun hb=>ForH.drop .head (ForH.drop .head ?loop))
  case told=>
    have hC:=(nocl_fin h6.2 (Nat.le_of_eq htl)).mpr (by intro w; rw [w] at hb; cases hb)
    exact (htold.resolve_right fun w=>w.1 hC).2
  case el2=>
    obtain ⟨tj,rfl⟩:=hX
    have hi3:i ≤ 3:=Nat.le_trans (Nat.le_of_lt hi) hn3
    have hiy:i ≤ ([Value.str sx tx,.str sy ty,.str sz tz].take n).length:=by rw [hyl]; exact Nat.le_of_lt hi
    have s56:=s5.trans h6.1
    have hln:=Nat.le_of_eq (strs_len (strs_take hys i)).symm
    refine fun r2=>sliceE (.inr (.tail _ (s56 _ hna))) (.head _) .none (.int _ _) (by rw [hyl]; exact Nat.le_trans hn3 (by decide)) (pick_take hiy) fun sa=>compH (S590c ((sa,listO (([Value.str sx tx,.str sy ty,.str sz tz].take n).take i) 0) :: (it,io) :: (acc2,listO ws m2) :: Mo h M0 o3)) (F590c I6 (NoFree ([sx,sy,sz].take n) tk i)) _ (itList (.inl (.head _))) rfl ⟨Sub.one,fun _ y hy=>absurd hy (by rw [List.take_zero]; exact List.not_mem_nil),fun _=>rfl⟩ (by rw [List.length_take]; exact Nat.le_trans (Nat.min_le_left _ _) (Nat.le_trans hi3 (by decide))) (fun _ _ _ _=>srcL (.inl (.head _)))
      (fun x3 hr3 k y3 us I7 it3 io3 m3 acc3 u3 hk hX3 h7 _ V9=>strs_e (strs_take hys i) hX3 fun yy ty3 ey hy hym=>?el3) fun acc3 us I7 m3 h7 a3=>neL0 (hr2 ▸ rm hx rfl) (.inl (.tail _ (.head _))) (.inl (.head _)) (cnd (fun hb=>V9.ce (S:=S590c (Mo h M0 o3)) I7 ⟨h6.1.trans h7.1,nocl_yes (clash_at h7.2 hln htk) hb⟩ (Le.drop .head (Le.drop .head (Le.drop .head Le.refl))) rfl)
        fun hb=>V9.ce (m:=m2) (S:=S590c (Mo h M0 o3)) I7 ⟨h6.1.trans h7.1,nocl_no h6.2 (clash_at h7.2 hln htk) hb⟩ (Le.drop .head (Le.drop .head (Le.drop .head Le.refl))) rfl)
    case el3=>
      cases ey
      have s67:=s56.trans h7.1
      exact itemH (.inr (s67 _ (s34 _ (.head _)))) (Nat.lt_of_le_of_lt hi3 (by decide)) e1 fun t7=>itemTH (i:=1) (.inr (s67 _ hp)) (by decide) rfl (is_freeH (hrep.mono s67) (by rw [hr3,hr2]; exact rm hx rfl) (hts _ (List.mem_of_getElem? htk)) fun I8 s8=>cnd (fun hb=>V9.ce (S:=S590c _) I8 ⟨h7.1.trans s8,nofree_yes hy hb⟩ Le.refl rfl) fun hb=>V9.ce (m:=m3) (S:=S590c _) I8 ⟨h7.1.trans s8,nofree_no h7.2 hy hb⟩ Le.refl rfl)
  case loop=>
    have hnC:¬ Clash ([sx,sy,sz].take n) d.2.2.2:=fun w=>(nocl_fin h6.2 (Nat.le_of_eq htl)).mp w (isEmpty_nil ((Bool.not_eq_false' _).mp hb))
    have hN:=(htold.resolve_left fun w=>hnC w.1).2
    have hNr:=hN.rep (hrb.mono (s4.trans s5)) (hR.mono s5)
    have s56:=s5.trans (h6.1.trans (Sub.one (p:=(T,tupO [tv,.ref acc2] 0))))
    have sT:Sub I5 ((T,tupO [tv,.ref acc2] 0) :: I6):=h6.1.trans Sub.one
    refine forH4 (S590r h na acc acc2 (.int (2 + f) t3) (.ref v3) tv (Mo h M0 o3)) (F590r ((T,tupO [tv,.ref acc2] 0) :: I6) I5 ba ([sx,sy,sz].take n) d.2.2.1) (_,none,tv,none) (itList (.inr (s56 _ (s34 _ (.head _))))) rfl ⟨Sub.refl,hN⟩ (fun _ _ _ _ _ h8=>srcL (.inr (h8.1 _ (s56 _ (s34 _ (.head _))))))
      (fun i y I7 u1 hv u2 it io hi hX h8 _ V9=>asgB hB hX (s56.trans h8.1) fun z tz' w hz hw=>nest_e h8.2 hz hw fun v v' l p n' m' t ehv hi0 hl hp hN'=>?st) fun I7 u1 hv u2 h8=>getF (L.mono (s56.trans h8.1)).body g212_body (isV (nest_nil h8.2 (by rw [hxl,hzl]; exact Nat.le_refl _) (by rw [hlB.2,hxl,hzl]; exact Nat.le_refl _))
        (sameH (hr2.mono (s56.trans h8.1)) (hNr.mono (sT.trans h8.1)) (law_parted hn23 htl hd.2.2.2.2 hb1 hnC) (Nat.le_refl _) (rm hx rfl) fun I8 s8=>retI (q _ _)))
    case st=>
      have s57:=sT.trans h8.1
      have hi1:Ins I7 hv 212 [("binds",.ref l),("body",v'),("is_rec",.bool false)]:=ehv ▸ hi0.mono s57
      have hnb:NB v':=by obtain ⟨a,e⟩:=hN'.ref; rw [e]; trivial
      exact isiI hi1 (getH hi1 g212_is_rec rfl trivial (getH hi1 g212_binds rfl trivial fun r3 a5=>neOne (rm hx rfl) (.inr (.tail _ (s57 _ hl))) (.inl (.head _)) (.tail _ (s57 _ hp)) (.head _) (H.drop .head (getH (hi1.mono Sub.one) g212_body rfl hnb (V9.tnext (_,some (.str z tz'),v',some w) ⟨h8.1.trans Sub.one,hN'⟩ Le.refl)))))
end
end
section
theorem arg_good {p} (h:ArgT p):GoodT p∧tsize p ≤ 14:=by
  cases h with
  | part hp=>exact ⟨(part_good hp).1,by have:=(part_good hp).2; lia⟩
  | lett hp hb=>
    refine ⟨good_let1 (base1 _ (by simp)) (part_good hp).1 (body_good hb).1,?_⟩
    have h1:=(part_good hp).2
    have h2:=(body_good hb).2
    simp only [tsize,tsizes]; lia
noncomputable def movB (hd:Hd) (t0 t1:Tr):Bool:=(headLet t0 || headLet t1) && (clsOf hd == 252 || headLet t0)
theorem movB_iff {hd:Hd} {t0 t1:Tr}:movB hd t0 t1 = true ↔ Moved hd [t0,t1]:=by
  unfold movB
  simp only [Bool.and_eq_true,Bool.or_eq_true,beq_iff_eq]
  constructor
  · rintro ⟨q1,q2⟩
    refine ⟨?_,?_⟩
    · rcases q1 with q | q
      · exact ⟨t0,by simp,q⟩
      · exact ⟨t1,by simp,q⟩
    · rcases q2 with q | q
      · exact .inl q
      · exact .inr ⟨_,_,rfl,q⟩
  · rintro ⟨⟨t,ht,q1⟩,q2⟩
    refine ⟨?_,?_⟩
    · simp at ht
      rcases ht with rfl | rfl
      · exact .inl q1
      · exact .inr q1
    · rcases q2 with q | ⟨t,ts,e,q⟩
      · exact .inl q
      · cases e; exact .inr q
noncomputable def letsOf (t0 t1:Tr) (a0 a1:Addr) (i:Nat):List Value:=((([(t0,Value.ref a0),(t1,Value.ref a1)]:List (Tr × Value)).take i).filter fun p=>headLet p.1).map (·.2)
theorem lets_e {P:Prop} {I:Led} {t0 t1:Tr} {a0 a1:Addr} {i:Nat} {y:Value} (r0:Rep I t0 (.ref a0)) (r1:Rep I t1 (.ref a1)) (hX:([Value.ref a0,Value.ref a1]:List Value)[i]? = some y)
    (q:∀ t,Rep I t y→(headLet t = true→letsOf t0 t1 a0 a1 i ++ [y] = letsOf t0 t1 a0 a1 (i + 1))→(headLet t = false→letsOf t0 t1 a0 a1 i = letsOf t0 t1 a0 a1 (i + 1))→P):P:=by
  have key:∀ t,([(t0,Value.ref a0),(t1,Value.ref a1)]:List (Tr × Value))[i]? = some (t,y)→(headLet t = true→letsOf t0 t1 a0 a1 i ++ [y] = letsOf t0 t1 a0 a1 (i + 1))∧(headLet t = false→letsOf t0 t1 a0 a1 i = letsOf t0 t1 a0 a1 (i + 1)):=fun t ht=>by
    unfold letsOf
    rw [take_next ht,List.filter_append]
    exact ⟨fun h=>by simp [h],fun h=>by simp [h]⟩
  match i,hX with
  | 0,hX=>cases hX; exact q t0 r0 (key t0 rfl).1 (key t0 rfl).2
  | 1,hX=>cases hX; exact q t1 r1 (key t1 rfl).1 (key t1 rfl).2
  | i + 2,hX=>cases hX
theorem lets_not {hd:Hd} {t0 t1:Tr} {a0 a1:Addr} (h:(!(letsOf t0 t1 a0 a1 2).isEmpty) = false):movB hd t0 t1 = false:=by
  unfold movB
  cases q0:headLet t0 with
  | true=>simp [letsOf,q0] at h
  | false=>
    cases q1:headLet t1 with
    | true=>simp [letsOf,q0,q1] at h
    | false=>rfl
theorem lets_first {P:Prop} {t0 t1:Tr} {a0 a1:Addr} (h:(!(letsOf t0 t1 a0 a1 2).isEmpty) = true)
    (k0:headLet t0 = true→(letsOf t0 t1 a0 a1 2)[0]? = some (.ref a0)→P) (k1:headLet t0 = false→headLet t1 = true→(letsOf t0 t1 a0 a1 2)[0]? = some (.ref a1)→P):P:=by
  cases q0:headLet t0 with
  | true=>exact k0 q0 (by simp [letsOf,q0])
  | false=>
    cases q1:headLet t1 with
    | true=>exact k1 q0 q1 (by simp [letsOf,q0,q1])
    | false=>simp [letsOf,q0,q1] at h
section
variable {e:E0} {x:Ctx e} {vs:List (Option Value)} {M I:Led} {k:Value→Sta→Prop} {st:Sta}
theorem isNot {t u:Tr} {a b:Addr} (r:Rep I t (.ref a)) (r':Rep I u (.ref b)) (h:headLet t ≠ headLet u) (q:k (.bool false) ⟨vs,M,I⟩):H x (compareOp .Is (.ref a) (.ref b)) ⟨vs,M,I⟩ k:=by
  obtain ⟨h1,k1⟩:=t
  obtain ⟨h2,k2⟩:=u
  obtain ⟨ws,rH,_⟩:=r
  obtain ⟨ws',rH',_⟩:=r'
  obtain ⟨fs,⟨y,dx,es,n,e1,m1,_⟩,_⟩:=rH.ins
  obtain ⟨fs',⟨y',dx',es',n',e2,m2,_⟩,_⟩:=rH'.ins
  cases e1
  cases e2
  refine ⟨fun s hs=>is_other (fun hab=>?_) (St.hasI hs m1) (St.hasI hs m2) (upM hs q)⟩
  subst hab
  have e1:=St.hasI hs m1
  have e2:=St.hasI hs m2
  rw [e1] at e2
  have e3:=Option.some.inj e2
  injection e3 with e4
  injection e4 with e5
  exact h (by show (clsOf h1 == 212) = (clsOf h2 == 212); rw [e5])
end
end
section
noncomputable def S595 (h nb fa pl:Addr) (no:Obj) (M0:Led) (_:Nat):Obj × Nat × List Value × List Tr × Led × OV × OV→Sta
  | (o,n,ws,_,I,u1,u2)=>⟨[some (.ref h),some (.ref fa),some (.ref pl),u1,u2,none,none,none,none],(pl,listO ws n) :: Mh nb h no M0 o,I⟩
def F595 (I0:Led) (i:Nat):Obj × Nat × List Value × List Tr × Led × OV × OV→Prop
  | (o,_,ws,ts,I,_)=>HandO o∧Sub I0 I∧Reps I ts ws∧ts.length = i∧∀ t ∈ ts,ArgT t
abbrev D595:=Tr × Value × Obj × Led
noncomputable def S595a (h nb fa pl it:Addr) (io plo no:Obj) (M0:Led) (u:Value) (d:D595):Sta:=⟨[some (.ref h),some (.ref fa),some (.ref pl),some u,some d.2.1,none,none,none,none],(it,io) :: (pl,plo) :: Mh nb h no M0 d.2.2.1,d.2.2.2⟩
def F595a (I0:Led) (d:D595):Prop:=ArgT d.1∧Rep d.2.2.2 d.1 d.2.1∧Sub I0 d.2.2.2∧HandO d.2.2.1
abbrev D595b:=Hd × Addr × Obj × Led
noncomputable def S595b (h nb fa pl:Addr) (no:Obj) (M0:Led) (u1 u2:OV) (d:D595b):Sta:=⟨[some (.ref h),some (.ref fa),some (.ref pl),u1,u2,none,none,none,none],Mh nb h no M0 d.2.2.1,d.2.2.2⟩
def F595b (I0:Led) (t0 t1:Tr) (d:D595b):Prop:=((∃ k,d.1 = .con k)∨∃ k,d.1 = .prim k)∧Rep d.2.2.2 (.node d.1 [t0,t1]) (.ref d.2.1)∧Sub I0 d.2.2.2∧HandO d.2.2.1
@[elab_as_elim] theorem two_e {P:List Value→Prop} {I:Led} {ts:List Tr} {ws:List Value} (hR:Reps I ts ws) (hl:ts.length = 2) (q:∀ t0 t1 a0 a1,ts = [t0,t1]→Rep I t0 (.ref a0)→Rep I t1 (.ref a1)→P [.ref a0,.ref a1]):P ws:=by
  obtain ⟨w0,w1,rfl⟩:=len2_e (hR.len.symm.trans hl)
  obtain ⟨t0,t1,rfl⟩:=len2_e hl
  obtain ⟨a0,rfl⟩:=hR.1.ref
  obtain ⟨a1,rfl⟩:=hR.2.1.ref
  exact q t0 t1 a0 a1 rfl hR.1 hR.2.1
def ToldA (I:Led) (hd:Hd) (t0 t1:Tr) (ev tv:Addr):Prop:=(¬ Moved hd [t0,t1]∧tv = ev)∨(Moved hd [t0,t1]∧∃ ys r0 ks kb,Rep I (.node (.lett ys r0) (ks ++ [kb])) (.ref tv)∧headLet kb = false∧Same 60 (.node hd [t0,t1]) .nil (.node (.lett ys r0) (ks ++ [kb])) .nil 3)
section
variable {e:E0} {x:Ctx e} {vs:List (Option Value)} {M I:Led} {k:Value→Sta→Prop} {st:Sta}
theorem neL0D {a b:Addr} {xs:List Value} {n m:Nat} (hr:2 ≤ x.c.room) (ha:Own M I a (listO xs n)) (q:k (.bool (!xs.isEmpty)) ⟨vs,M,I⟩):H x (compareOp .NotEq (.ref a) (.ref b)) ⟨vs,(b,listO [] m) :: M,I⟩ k:=
  ⟨fun _ hs=>c_ne_list0 (ha.at (St.drop hs .head)) (St.has hs (.head _)) (units_lt x hr) (upM (St.drop hs .head) q)⟩
theorem args2H {fv:Value} {ev:Addr} {nb:Addr} {o:Obj} {K:Nat} {Mf:Obj→Led} {hd:Hd} {t0 t1:Tr} (r:Rep I (.node hd [t0,t1]) (.ref ev)) (hh:(∃ k,hd = .con k)∨∃ k,hd = .prim k) (hA0:ArgT t0) (hA1:ArgT t1) (hfr:∃ fa,fv = .ref fa) (hf:FreshI e I fv nb) (hn:NumsO e nb o K)
    (hM0:M = Mf o) (hp2:∀ o1 o2,Put nb o1 o2 (Mf o1) (Mf o2)) (hKK:K ≤ 1000000) (hr:15 ≤ x.c.room) (q:∀ tv o' I',Sub I I'→ToldA I' hd t0 t1 ev tv→k (.ref tv) ⟨vs,Mf o',I'⟩):H x (call (.ref 453) [.ref ev,fv]) ⟨vs,M,I⟩ k:=by
  have hAll:∀ t ∈ [t0,t1],ArgT t:=fun t ht=>by
    rcases List.mem_cons.mp ht with h | h
    · exact h ▸ hA0
    · exact List.mem_singleton.mp h ▸ hA1
  refine let_of_argsH r hh (by simp) hfr hf hn hM0 hp2 (fun t ht=>⟨(arg_good (hAll t ht)).1,Nat.le_trans (arg_good (hAll t ht)).2 (by decide)⟩) (by show 2 ≤ 100; decide) hKK hr (fun hm o' I' s=>q ev o' I' s (.inl ⟨hm,rfl⟩)) fun hm pre tl post ys r0 ks' kb v' o' I' hks hpre htl hRen hRep s=>?_
  obtain ⟨tv,rfl⟩:=hRep.ref
  refine q tv o' I' s (.inr ⟨hm,ys,r0,ks',_,hRep,?_,?_⟩)
  · rcases hh with ⟨k,rfl⟩ | ⟨k,rfl⟩ <;> rfl
  · rw [hks]
    exact law_args hh (fun u hu=>hAll u (hks ▸ hu)) (by rw [← hks]; show 2 ≤ 1000; decide) htl hRen
end
end
section
noncomputable def S595c (M I:Led) (_:Nat) (_:Unit):Led × Led:=(M,I)
def F595c (t0 t1:Tr) (a0 a1:Addr) (i:Nat) (zs:List Value) (_:Unit):Prop:=zs = letsOf t0 t1 a0 a1 i
section
variable {e:E0} {x:Ctx e} {vs:List (Option Value)} {M I:Led} {k:Value→Sta→Prop} {st:Sta}
theorem isR {a b:Addr} (h:a = b) (q:k (.bool true) st):H x (compareOp .Is (.ref a) (.ref b)) st k:=by subst h; exact isSelf q
set_option maxHeartbeats 1000000
theorem right_argsH {h nb fa:Addr} {ho no:Obj} {M0:Led} (hM:M = Mh nb h no M0 ho) (hh:HandO ho) (hf:FreshI e I (.ref fa) nb) (hn:NumsO e nb no 0) (hr:80 ≤ x.c.room) (q:∀ M' I',k (.bool true) ⟨vs,M',I'⟩) :
    H x (call (.ref 595) [.ref h,.ref fa]) ⟨vs,M,I⟩ k:=by
  cases hM
  refine fr595.run rfl hr fun x' hx pl t0=>rangeH1 fun rg ro hrg=>forH7 (S595 h nb fa pl no M0) (F595 I) (ho,0,[],[],I,none,none) (itRange0 (n:=2) hrg (by decide)) rfl ⟨hh,Sub.refl,True.intro,rfl,fun t ht=>nomatch ht⟩ (fun _ _ _ _ _ _ _ _ _=>srcTrue)
    (fun i y o n ws ts I1 u1 u2 it io hi hX hL _ V9=>?step) fun o n ws ts I1 u1 u2 hL=>?rest
  case step=>
    obtain ⟨tj,rfl⟩:=hX
    refine fun t1 t2 a=>H.freeze .head (partH (Mf:=fun o=>(it,io) :: (pl,listO ws n) :: Mh nb h no M0 o) hL.1 rfl (fun _ _=>.tail (.tail (.tail .head))) ⟨a,0,rfl,.head _⟩ strs2 (by decide) (rm hx rfl) fun tp v1 o2 I2 hpt hrep s2 hh2=>
      joinF (S595a h nb fa pl it io (listO ws n) no M0 (.int i tj)) (F595a I1) (fun _ J9 t3=>mixH (Mf:=fun o=>(it,io) :: (pl,listO ws n) :: Mh nb h no M0 o) hh2 rfl (fun _ _=>.tail (.tail (.tail .head))) (by decide) (rm hx rfl) fun o3 f tf hh3 hf0 t4=>cnd
        (fun _ tx t5 t6 a2=>H.freeze .head (partH (Mf:=fun o=>(it,io) :: (pl,listO ws n) :: Mh nb h no M0 o) hh3 rfl (fun _ _=>.tail (.tail (.tail .head))) ⟨a2,0,rfl,.head _⟩ strs2 (by decide) (rm hx rfl) fun tp2 v3 o4 I4 hpt2 hrep2 s4 hh4 r a3 t7 t8 a4=>
          H.freeze .head (H.freeze .head (bodyH (Mf:=fun o=>(it,io) :: (pl,listO ws n) :: Mh nb h no M0 o) hh4 rfl (fun _ _=>.tail (.tail (.tail .head))) ⟨a4,0,rfl,.tail _ (.head _)⟩ strs2 (by decide) (rm hx rfl) fun b2 bv o5 I5 hb2 hrb s5 hh5=>new212 (rm hx rfl) fun v6 I6 s6 hv6=>?lett))))
        fun _=>J9.jf (tp,v1,o3,I2) ⟨.part hpt,hrep,Sub.one.trans s2,hh3⟩) fun d hd=>mAppend (.inl (.tail _ (.head _))) (appendH (.tail .head) ?z (V9.tnext (d.2.2.1,n + 1,ws ++ [d.2.1],ts ++ [d.1],d.2.2.2,some (.int i tj),some d.2.1) ⟨hd.2.2.2,hL.2.1.trans hd.2.2.1,(hL.2.2.1.mono hd.2.2.1).snoc hd.2.1,?l,all_snoc hL.2.2.2.2 hd.1⟩ Le.refl)))
    case lett=>
      have s56:=s5.trans s6
      have s46:=Sub.one.trans (Sub.one.cons.trans s56)
      exact J9.jf (.node (.lett [sx] false) [tp2,b2],.ref v6,o5,I6) ⟨.lett hpt2 hb2,let1R hv6 (s56 _ (.head _)) (s56 _ (.tail _ (.tail _ (.head _)))) (hrep2.mono s46) (hrb.mono s6),Sub.one.trans (s2.trans (Sub.one.trans (s4.trans s46))),hh5⟩
    case z=>rw [← hL.2.2.1.len,hL.2.2.2.1]; exact Nat.le_trans (Nat.le_of_lt hi) (by decide)
    case l=>rw [List.length_append,hL.2.2.2.1]; rfl
  case rest=>
    obtain ⟨hh1,s1,hR,htl,hts⟩:=hL
    refine two_e hR htl fun t0 t1 a0 a1 ets r0 r1=>?two
    have hA0:ArgT t0:=hts t0 (ets ▸ .head _)
    have hA1:ArgT t1:=hts t1 (ets ▸ .tail _ (.head _))
    refine joinV (fun d:D595b=>Value.ref d.2.1) (S595b h nb fa pl no M0 u1 u2) (F595b ((pl,listO [.ref a0,.ref a1] n) :: I1) t0 t1) (fun _ J9 t2=>H.freeze .head (mixH hh1 rfl mh2 (by decide) (rm hx rfl) fun o3 f tf hh3 hf0 t3=>cnd
        (fun _ tP=>new252 (rm hx rfl) fun v3 I3 s3 hv3=>J9.jv (.con "P",v3,o3,I3) ⟨.inl ⟨_,rfl⟩,.con hv3 (s3 _ (.head _)) ⟨r0.mono (Sub.one.trans s3),r1.mono (Sub.one.trans s3),True.intro⟩,s3,hh3⟩)
        fun _ tP=>new292 (rm hx rfl) fun v3 I3 s3 hv3=>J9.jv (.prim "intAdd",v3,o3,I3) ⟨.inr ⟨_,rfl⟩,.prim hv3 (s3 _ (.head _)) ⟨r0.mono (Sub.one.trans s3),r1.mono (Sub.one.trans s3),True.intro⟩,s3,hh3⟩))
      fun d hd=>args2H (Mf:=Mn nb h d.2.2.1 M0) hd.2.1 hd.1 hA0 hA1 ⟨_,rfl⟩ (hf.mono (s1.trans (Sub.one.trans hd.2.2.1))) hn rfl mn2 (by decide) (rm hx rfl) fun tv o4 I4 s4 htold=>?lets
    have s34:=hd.2.2.1.trans s4
    have r04:=r0.mono (Sub.one.trans s34)
    have r14:=r1.mono (Sub.one.trans s34)
    have hrE:=hd.2.1.mono s4
    have hpl:=s34 _ (.head _)
    refine compH (S595c (Mn nb h d.2.2.1 M0 o4) I4) (F595c t0 t1 a0 a1) () (itList (.inr hpl)) rfl rfl (by show 2 ≤ 10000000; decide) (fun _ _ _ _=>srcL (.inr hpl)) (fun x2 hr2 i y zs _ it io m acc u hi hX hz _ V9=>lets_e r04 r14 hX fun t rt hy hno=>isiL rt (cnd (fun hb=>V9.ce (S:=S595c _ _) () ((congrArg (· ++ [y]) hz).trans (hy hb)) Le.refl rfl)
      fun hb=>V9.ce (m:=m) (S:=S595c _ _) () (hz.trans (hno hb)) Le.refl rfl)) fun acc zs _ m hz=>?mv
    have hz':zs = letsOf t0 t1 a0 a1 2:=hz
    subst hz'
    refine joinV (fun _:Unit=>Value.bool (movB d.1 t0 t1)) (fun _=>⟨[some (.ref h),some (.ref fa),some (.ref pl),u1,u2,some (.ref d.2.1),some (.ref tv),some (.ref acc),none],(acc,listO (letsOf t0 t1 a0 a1 2) m) :: Mn nb h d.2.2.1 M0 o4,I4⟩) (fun _=>True)
      (fun _ J9 a=>neL0D (rm hx rfl) (.inl (.head _)) (cnd (fun h1=>lets_first h1 (fun q0 hf0=>isiR hrE rfl (cnd (fun hc=>J9.jvE () trivial ?v1) fun hc t5=>itemH (i:=0) (.inr hpl) (by decide) rfl fun t6=>itemH (i:=0) (.inl (.head _)) (by decide) hf0 (isSelf (J9.jvE () trivial ?v2))))
        fun q0 q1 hf1=>isiR hrE rfl (cnd (fun hc=>J9.jvE () trivial ?v3) fun hc t5=>itemH (i:=0) (.inr hpl) (by decide) rfl fun t6=>itemH (i:=0) (.inl (.head _)) (by decide) hf1 (isNot r04 r14 (by rw [q0,q1]; decide) (J9.jvE () trivial ?v4)))) fun h1=>J9.jvE () trivial ?v5)) fun _ _=>?fin
    case v1=>unfold movB; rw [hc,q0]; rfl
    case v2=>unfold movB; rw [hc,q0]; rfl
    case v3=>unfold movB; rw [hc,q0,q1]; rfl
    case v4=>unfold movB; rw [hc,q0,q1]; rfl
    case v5=>rw [h1,lets_not h1]
    refine cnd (fun h1=>isR ?same (retI (q _ _))) fun h1=>?moved
    case same=>exact (htold.resolve_right fun w=>absurd (movB_iff.mpr w.1) (by rw [(Bool.not_eq_true' _).mp h1]; exact Bool.noConfusion)).2
    obtain ⟨_,ys,r5,ks,kb,hrT,hkb,hS⟩:=htold.resolve_left fun w=>w.1 (movB_iff.mp ((Bool.not_eq_false' _).mp h1))
    exact isiR hrT rfl (let_last hrT fun l b ps bs L rks rkb=>getF L.body g212_body (isiL rkb (notH (cndT (by rw [hkb]; rfl) (sameH hrE hrT hS (Nat.le_refl _) (rm hx rfl) fun I8 s8=>retI (q _ _))))))
end
end
section
noncomputable abbrev xyz:List Str:=[sx,sy,sz]
theorem nd_len {xs:List Str}:∀ {W:List Str},W.Nodup→(∀ y ∈ W,y ∈ xs)→W.length ≤ xs.length:=by
  intro W
  induction W generalizing xs with
  | nil=>intro _ _; exact Nat.zero_le _
  | cons a W ih=>
    intro h k
    have h':=List.nodup_cons.mp h
    have ha:a ∈ xs:=k a (.head _)
    have:=ih (xs:=xs.erase a) h'.2 fun y hy=>(List.mem_erase_of_ne (fun q:y = a=>h'.1 (q ▸ hy))).mpr (k y (.tail _ hy))
    rw [List.length_erase_of_mem ha] at this
    have hp:0 < xs.length:=List.length_pos_of_mem ha
    simp only [List.length_cons]; lia
theorem dz_off {y:Str}:∀ {xs:List Str} {bs:List Value} {kvs:List (Str × Value)},y ∉ xs→valueAt (dz xs bs kvs) y = valueAt kvs y
  | [],_,_,_=>by unfold dz; rfl
  | _ :: _,[],_,_=>by unfold dz; rfl
  | x :: xs,b :: bs,kvs,h=>by
    unfold dz
    rw [dz_off (fun q=>h (.tail _ q)),valueAt_stored,if_neg (fun q=>h (by rw [q]; exact .head _))]
theorem dz_at {y:Str} {b:Value}:∀ {xs:List Str} {bs:List Value} {kvs:List (Str × Value)} {i:Nat},xs.Nodup→xs[i]? = some y→bs[i]? = some b→valueAt (dz xs bs kvs) y = some b
  | x :: xs,c :: bs,kvs,0,nd,h1,h2=>by
    simp at h1 h2
    subst h1 h2
    unfold dz
    rw [dz_off (List.nodup_cons.mp nd).1,valueAt_stored,if_pos rfl]
  | x :: xs,c :: bs,kvs,i + 1,nd,h1,h2=>by
    simp at h1 h2
    unfold dz
    exact dz_at (List.nodup_cons.mp nd).2 h1 h2
  | [],_,_,_,_,h1,_=>by simp at h1
  | _ :: _,[],_,_,_,_,h2=>by simp at h2
def BindR (r0:Bool) (t:Tr):Prop:=match r0 with | true=>∃ m,t = tK m | false=>PartT [su] t
theorem bindR_len {r0:Bool} {ts:List Tr} (h:∀ t ∈ ts,BindR r0 t):∀ t ∈ ts,tsize t ≤ 60:=fun t ht=>by
  have:=h t ht
  cases r0 with
  | true=>obtain ⟨m,rfl⟩:=this; simp [tsize,tsizes]
  | false=>have:=(part_good (this:PartT [su] t)).2; lia
theorem bindR_dead {r0:Bool} {ts:List Tr} (h:∀ t ∈ ts,BindR r0 t) (hl:ts.length = xyz.length):DeadT xyz r0 ts:=by
  cases r0 with
  | true=>exact .knot hl h
  | false=>exact .non hl h
theorem xyz_nd:xyz.Nodup:=by decide +kernel
structure WntI (ts:List Tr) (m:Str) (i:Nat) (W:List Str):Prop where
  nd:W.Nodup
  x:∀ y ∈ W,y ∈ xyz
  le1:i ≤ W.length
  r:∀ y ∈ W,ReachT xyz ts (fvOf (tT m)) y
  f:∀ y ∈ fvOf (tT m),y ∈ xyz→y ∈ W
  c:∀ (j:Nat) (y:Str) (q:Nat) (m':Str),j < i→W[j]? = some y→xyz[q]? = some y→ts[q]? = some (tK m')→m' ∈ xyz→m' ∈ W
theorem WntI.start {ts:List Tr} {m:Str}:WntI ts m 0 (xyz.filter fun x=>decide (x ∈ fvOf (tT m))) where
  nd:=xyz_nd.filter _
  x:=fun y hy=>(List.mem_filter.mp hy).1
  le1:=Nat.zero_le _
  r:=fun y hy=>.base (of_decide_eq_true (List.mem_filter.mp hy).2)
  f:=fun y h1 h2=>List.mem_filter.mpr ⟨h2,decide_eq_true h1⟩
  c:=fun j y q m' hj=>absurd hj (Nat.not_lt_zero _)
theorem WntI.le {ts:List Tr} {m:Str} {i:Nat} {W:List Str} (h:WntI ts m i W):W.length ≤ 3:=nd_len h.nd h.x
noncomputable def newW (W:List Str) (m':Str):List Str:=xyz.filter fun z=>!decide (z ∈ W) && decide (z ∈ fvOf (tK m'))
theorem newW_mem {W:List Str} {m' z:Str}:z ∈ newW W m' ↔ z ∈ xyz∧z ∉ W∧z = m':=by
  unfold newW
  rw [List.mem_filter,Bool.and_eq_true,decide_eq_true_iff,Bool.not_eq_true',decide_eq_false_iff_not,fv_K1,List.mem_singleton]
theorem WntI.next {ts:List Tr} {m m':Str} {i q:Nat} {W:List Str} {y:Str} (h:WntI ts m i W) (hy:W[i]? = some y) (hq:xyz[q]? = some y) (htq:ts[q]? = some (tK m')):WntI ts m (i + 1) (W ++ newW W m') where
  nd:=List.nodup_append.mpr ⟨h.nd,xyz_nd.filter _,fun a ha b hb q=>(newW_mem.mp hb).2.1 (q ▸ ha)⟩
  x:=fun z hz=>by
    rcases List.mem_append.mp hz with r | r
    · exact h.x z r
    · exact (newW_mem.mp r).1
  le1:=by have:=h.le1; have:=(List.getElem?_eq_some_iff.mp hy).1; rw [List.length_append]; lia
  r:=fun z hz=>by
    rcases List.mem_append.mp hz with r | r
    · exact h.r z r
    · rw [(newW_mem.mp r).2.2]
      exact .step (h.r y (List.mem_of_getElem? hy)) hq htq (by rw [us_K1]; exact .head _)
  f:=fun z h1 h2=>List.mem_append.mpr (.inl (h.f z h1 h2))
  c:=fun j z q2 m2 hj h1 h2 h3 h4=>by
    have hjl:=(List.getElem?_eq_some_iff.mp hy).1
    rw [List.getElem?_append_left (by lia)] at h1
    by_cases hji:j = i
    · subst hji
      rw [hy] at h1; cases h1
      have hqq:q2 = q:=(List.getElem?_inj (List.getElem?_eq_some_iff.mp h2).1 xyz_nd).mp (h2.trans hq.symm)
      subst hqq
      rw [htq] at h3
      have h3:=Option.some.inj h3
      injection h3 with _ h3
      injection h3 with h3 _
      injection h3 with h3 _
      injection h3 with h3
      subst h3
      by_cases hmW:m' ∈ W
      · exact List.mem_append.mpr (.inl hmW)
      · exact List.mem_append.mpr (.inr (newW_mem.mpr ⟨h4,hmW,rfl⟩))
    · exact List.mem_append.mpr (.inl (h.c j z q2 m2 (by lia) h1 h2 h3 h4))
theorem WntI.fin {ts:List Tr} {m:Str} {W:List Str} (h:WntI ts m W.length W) (hts:∀ t ∈ ts,BindR true t):∀ y,y ∈ xyz→(y ∈ W ↔ ReachT xyz ts (fvOf (tT m)) y):=fun y hy=>by
  have all:∀ z,ReachT xyz ts (fvOf (tT m)) z→z ∈ xyz→z ∈ W:=by
    intro z hz
    induction hz with
    | base h1=>exact fun h2=>h.f _ h1 h2
    | @step x y i t _ h1 h2 h3 ih=>
      intro h4
      have hxW:=ih (List.mem_of_getElem? h1)
      obtain ⟨j,hj1,hj2⟩:=List.mem_iff_getElem.mp hxW
      obtain ⟨m',rfl⟩:∃ m',t = tK m':=hts t (List.mem_of_getElem? h2)
      rw [us_K1,List.mem_singleton] at h3
      subst h3
      exact h.c j x i y (by lia) (by rw [List.getElem?_eq_getElem hj1,hj2]) h1 h2 h4
  exact ⟨fun q=>h.r y q,fun q=>all y q hy⟩
theorem strs_f1 {zs:List Value} {xs:List Str} {w:Str→Bool} {i:Nat} {z:Str} {t:Tok} (h:StrsAre zs ((xs.take i).filter w)) (hz:xs[i]? = some z) (hw:w z = true):StrsAre (zs ++ [.str z t]) ((xs.take (i + 1)).filter w):=by
  rw [take_next hz,List.filter_append,List.filter_cons,hw]
  exact strs_snoc h
theorem strs_f0 {zs:List Value} {xs:List Str} {w:Str→Bool} {i:Nat} {z:Str} (h:StrsAre zs ((xs.take i).filter w)) (hz:xs[i]? = some z) (hw:w z = false):StrsAre zs ((xs.take (i + 1)).filter w):=by
  rw [take_next hz,List.filter_append,List.filter_cons,hw]
  exact (List.append_nil ((xs.take i).filter w)).symm ▸ h
def WntP (ts:List Tr) (r0:Bool) (m y:Str):Prop:=cond r0 (ReachT xyz ts (fvOf (tT m)) y) (y ∈ fvOf (tT m))
theorem Kept.p {ts:List Tr} {r0:Bool} {m:Str} {w:Str→Bool} (h:Kept xyz ts r0 (tT m) w) {x:Str} (hx:x ∈ xyz):w x = true ↔ WntP ts r0 m x:=by
  have:=h x hx
  cases r0 <;> exact this
theorem wnt_kept {ts:List Tr} {r0:Bool} {m:Str} {w:Str→Bool} {W:List Str} (hK:Kept xyz ts r0 (tT m) w) (hW:∀ y,y ∈ xyz→(y ∈ W ↔ WntP ts r0 m y)):xyz.filter (fun x=>decide (x ∈ W)) = xyz.filter w:=
  List.filter_congr fun x hx=>by
    have h1:=(hK.p hx).trans (hW x hx).symm
    cases hb:w x with
    | true=>rw [hb] at h1; exact decide_eq_true (h1.mp rfl)
    | false=>exact decide_eq_false fun q=>by have:=h1.mpr q; rw [hb] at this; cases this
theorem wnt_f {ts:List Tr} {r0:Bool} {m:Str} (h:r0 = false):∀ y,y ∈ xyz→(y ∈ xyz.filter (fun x=>decide (x ∈ fvOf (tT m))) ↔ WntP ts r0 m y):=fun y hy=>by
  subst h
  rw [List.mem_filter,decide_eq_true_iff]
  exact ⟨fun q=>q.2,fun q=>⟨hy,q⟩⟩
theorem wnt_t {ts:List Tr} {r0:Bool} {m:Str} {W:List Str} (h:r0 = true) (g:WntI ts m W.length W) (hts:∀ t ∈ ts,BindR r0 t):∀ y,y ∈ xyz→(y ∈ W ↔ WntP ts r0 m y):=by
  subst h
  exact g.fin hts
theorem tT_size {m:Str}:tsize (tT m) ≤ 60:=by simp [tsize,tsizes]
theorem tK_size {m:Str}:tsize (tK m) ≤ 60:=by simp [tsize,tsizes]
end
section
section
variable {e:E0} {x:Ctx e} {vs:List (Option Value)} {M I:Led} {k:Value→Sta→Prop} {st:Sta}
theorem gnext {δ:Type} {S:Nat→δ→Sta} {F:Nat→δ→Prop} {it:Addr} {o:Obj} {i:Nat} {st:Sta} (d:δ) (h:F (i + 1) d) (hl:Le st ⟨(S (i + 1) d).vs,(it,o) :: (S (i + 1) d).M,(S (i + 1) d).I⟩):Gn S F it o i .next st:=by unfold Gn; exact ⟨rfl,d,hl,h⟩
theorem dictB {l:Addr} {ps bs:List Value} {n:Nat} {xs:List Str} (hl:(l,listO ps n) ∈ I) (hB:Binds I ps xs bs) (hn:ps.length ≤ 1000) (q:∀ d o,DO e d o (dz xs bs [])→k (.ref d) ⟨vs,(d,o) :: M,I⟩):H x (call (.type "dict") [.ref l]) ⟨vs,M,I⟩ k:=
  ⟨fun _ hs=>dict_of_pairs x.ok hs hl hB.len.1.symm (hB.len.2.trans hB.len.1.symm) hn (fun i p hp=>by
    obtain ⟨y,t,v,a1,a2,pa,pn,e1,a3⟩:=hB.at hp
    exact ⟨y,t,v,pa,pn,a1,a2,e1,a3⟩) fun d od _ hd hs'=>upM hs' (q d od hd)⟩
theorem eqStrs {a b:Addr} {xs ys:List Value} {n m:Nat} {ss:List Str} (ha:Own M I a (listO xs n)) (hb:Own M I b (listO ys m)) (hx:StrsAre xs ss) (hy:StrsAre ys ss) (q:k (.bool true) ⟨vs,M,I⟩):H x (compareOp .Eq (.ref a) (.ref b)) ⟨vs,M,I⟩ k:=
  ⟨fun s hs=>by
    refine c_eq_listT (ha.at hs) (hb.at hs) ((strs_len hx).trans (strs_len hy).symm) (unitsL x) (fun j u v q1 q2=>?_) (upM hs q)
    obtain ⟨x1,t1,rfl,e1⟩:=strs_at hx q1
    obtain ⟨x2,t2,rfl,e2⟩:=strs_at hy q2
    rw [e1] at e2; cases e2
    have:=e_str (s:=s) (A:=x.c.A.in1) (x:=x1) (y:=x1) (t:=t1) (u:=t2)
    rwa [decide_eq_true rfl] at this⟩
end
def ToldD (I:Led) (ts:List Tr) (r0:Bool) (m:Str) (w:Str→Bool) (tt:Tr) (tv:Addr):Prop:=Kept xyz ts r0 (tT m) w∧Rep I tt (.ref tv)∧Same 60 (.node (.lett xyz r0) (ts ++ [tT m])) .nil tt .nil 3∧((xyz.filter w = []∧headLet tt = false)∨∃ kks,tt = .node (.lett (xyz.filter w) r0) kks)
section
variable {e:E0} {x:Ctx e} {vs:List (Option Value)} {M I:Led} {k:Value→Sta→Prop} {st:Sta}
theorem dead2H {v:Value} {ts:List Tr} {m:Str} {r0:Bool} (r:Rep I (.node (.lett xyz r0) (ts ++ [tT m])) v) (hD:DeadT xyz r0 ts) (hts:∀ t ∈ ts,tsize t ≤ 60) (hr:8 ≤ x.c.room) (q:∀ tv tt w I',Sub I I'→ToldD I' ts r0 m w tt tv→k (.ref tv) ⟨vs,M,I'⟩):H x (call (.ref 463) [v]) ⟨vs,M,I⟩ k:=by
  refine without_deadH r xyz_nd (by decide) hts tT_size hr (fun w hw hf0 v' I' s hrv=>?_) fun w hw hf0 v' I' s hrv=>?_
  · obtain ⟨tv,rfl⟩:=hrv.ref
    exact q tv _ w I' s ⟨hw,hrv,(law_dead (by decide) (by decide) (by decide +kernel) hD hw).1 hf0,.inl ⟨hf0,rfl⟩⟩
  · obtain ⟨tv,rfl⟩:=hrv.ref
    exact q tv _ w I' s ⟨hw,hrv,(law_dead (by decide) (by decide) (by decide +kernel) hD hw).2 hf0,.inr ⟨_,rfl⟩⟩
end
abbrev D607k:=Addr × List Value × Nat
noncomputable def S607k (h nl bl ev tv wl:Addr) (r0:Bool) (u:OV) (M I:Led) (d:D607k):Sta:=⟨[some (.ref h),some (.ref nl),some (.bool r0),some (.ref bl),u,some (.ref ev),some (.ref tv),some (.ref wl),none],(d.1,listO d.2.1 d.2.2) :: M,I⟩
theorem told_let {P:Prop} {I:Led} {ts:List Tr} {r0:Bool} {m:Str} {w:Str→Bool} {tt:Tr} {tv:Addr} (h:ToldD I ts r0 m w tt tv) (hb:headLet tt = true) (q:∀ l b ps bs n,LetV I (.ref tv) (xyz.filter w) r0 l b ps bs→(l,listO ps n) ∈ I→P):P:=by
  obtain ⟨_,hr,_,h3⟩:=h
  obtain ⟨kks,rfl⟩:=h3.resolve_left fun z=>absurd (hb.symm.trans z.2) Bool.noConfusion
  exact let_elim hr fun l b ps bs ks' kb e L r1 r2=>let ⟨n,hn⟩:=L.lis; q l b ps bs n L hn
theorem told_no {I:Led} {ts:List Tr} {r0:Bool} {m:Str} {w:Str→Bool} {tt:Tr} {tv:Addr} (h:ToldD I ts r0 m w tt tv) (hb:headLet tt = false):xyz.filter w = []:=by
  rcases h.2.2.2 with z | ⟨kks,rfl⟩
  · exact z.1
  · cases hb
noncomputable def S607 (h nl bl:Addr) (r0:Bool) (M0:Led) (_:Nat):Obj × Nat × List Value × List Value × List Tr × Led × OV→Sta
  | (o,n,bv,_,_,I,u)=>⟨[some (.ref h),some (.ref nl),some (.bool r0),some (.ref bl),u,none,none,none,none],(bl,listO bv n) :: Mo h M0 o,I⟩
def F607 (I0:Led) (r0:Bool) (i:Nat):Obj × Nat × List Value × List Value × List Tr × Led × OV→Prop
  | (o,_,bv,bws,ts,I,_)=>HandO o∧Sub I0 I∧Binds I bv (xyz.take i) bws∧Reps I ts bws∧∀ t ∈ ts,BindR r0 t
abbrev D607:=Value × Tr × Obj × Led
noncomputable def S607a (h nl bl it:Addr) (io blo:Obj) (r0:Bool) (M0:Led) (y:Value) (d:D607):Sta:=⟨[some (.ref h),some (.ref nl),some (.bool r0),some (.ref bl),some y,none,none,none,none],(it,io) :: (bl,blo) :: Mo h M0 d.2.2.1,d.2.2.2⟩
def F607a (I0:Led) (r0:Bool) (d:D607):Prop:=BindR r0 d.2.1∧Rep d.2.2.2 d.2.1 d.1∧Sub I0 d.2.2.2∧HandO d.2.2.1
noncomputable def S607c (M:Led) (_:Nat) (I:Led):Led × Led:=(M,I)
def F607c (I0:Led) (w:Str→Bool) (i:Nat) (zs:List Value) (I:Led):Prop:=Sub I0 I∧StrsAre zs ((xyz.take i).filter w)
def F607d (I0:Led) (xs:List Str) (i:Nat) (zs:List Value) (I:Led):Prop:=I = I0∧StrsAre zs (xs.take i)
abbrev D607j:=List Value × List Str × Nat × OV × Led
noncomputable def S607j (h nl bl ev tv wl:Addr) (r0:Bool) (M:Led) (_:Nat) (d:D607j):Sta:=⟨[some (.ref h),some (.ref nl),some (.bool r0),some (.ref bl),d.2.2.2.1,some (.ref ev),some (.ref tv),some (.ref wl),none],(wl,listO d.1 d.2.2.1) :: M,d.2.2.2.2⟩
def F607j (I0:Led) (ts:List Tr) (r0:Bool) (m:Str) (d:D607j):Prop:=StrsAre d.1 d.2.1∧(∀ y,y ∈ xyz→(y ∈ d.2.1 ↔ WntP ts r0 m y))∧Sub I0 d.2.2.2.2
def F607g (I0:Led) (ts:List Tr) (m:Str) (i:Nat) (d:D607j):Prop:=StrsAre d.1 d.2.1∧WntI ts m i d.2.1∧Sub I0 d.2.2.2.2
theorem wnt_e {P:Prop} {I:Led} {ts:List Tr} {bws:List Value} {r0:Bool} {y:Str} (h:r0 = true) (hy:y ∈ xyz) (hl:bws.length = 3) (hT:Reps I ts bws) (hts:∀ t ∈ ts,BindR r0 t) (q:∀ (j:Nat) (b:Value) (m':Str),xyz[j]? = some y→bws[j]? = some b→ts[j]? = some (tK m')→Rep I (tK m') b→P):P:=by
  subst h
  obtain ⟨j,hj1,hj2⟩:=List.mem_iff_getElem.mp hy
  have hj3:j < 3:=hj1
  have hb:bws[j]? = some (bws[j]'(hl ▸ hj3)):=List.getElem?_eq_getElem _
  obtain ⟨t,ht,hr⟩:=hT.at hb
  obtain ⟨m',rfl⟩:∃ m',t = tK m':=hts t (List.mem_of_getElem? ht)
  exact q j _ m' (by rw [List.getElem?_eq_getElem hj1,hj2]) hb ht hr
section
variable {e:E0} {x:Ctx e} {vs:List (Option Value)} {M I:Led} {k:Value→Sta→Prop} {st:Sta}
set_option maxHeartbeats 1000000
theorem right_deadH {h:Addr} {ho:Obj} {M0:Led} (hM:M = Mo h M0 ho) (hh:HandO ho) (hr:80 ≤ x.c.room) (q:∀ M' I',k (.bool true) ⟨vs,M',I'⟩):H x (call (.ref 607) [.ref h]) ⟨vs,M,I⟩ k:=by
  cases hM
  refine fr607.run rfl hr fun x' hx tx ty tz nl t1=>mixH (Mf:=fun o=>(nl,listO [.str sx tx,.str sy ty,.str sz tz] 0) :: Mo h M0 o) hh rfl (fun _ _=>.tail .head) (by decide) (rm hx rfl) fun o1 f tf hh1 hf t2 T bl=>ForH.freeze (.tail .head) (forH7 (S607 h nl bl (f == 0) M0) (F607 _ (f == 0)) (o1,0,[],[],[],_,none) (itList (.inr (.head _))) rfl ⟨hh1,Sub.refl,.nil,True.intro,fun t ht=>nomatch ht⟩ (fun _ _ _ _ _ _ _ _ hL=>srcL (.inr (hL.2.1 _ (.head _))))
    (fun i y o n bv bws ts I1 u it io hi hX hL _ V9=>strs_e strs3 hX fun z tz' ez hz hzm=>?step) fun o n bv bws ts I1 u hL=>?rest)
  case step=>
    cases ez
    refine mAppend (.inl (.tail _ (.head _))) (joinV (fun d:D607=>d.1) (S607a h nl bl it io (listO bv n) (f == 0) M0 (.str z tz')) (F607a I1 (f == 0))
      (fun _ J9=>cnd (fun h1 t9 tu1 tu2 c=>addLH (.inr (hL.2.1 _ (.head _))) (.inl (.head _)) (by show 5 ≤ 10000000; decide) fun sl t5=>mixH (Mf:=fun o=>(sl,_) :: (c,_) :: (it,io) :: (bl,listO bv n) :: Mo h M0 o) hL.1 rfl (fun _ _=>.tail (.tail (.tail (.tail .head)))) (by decide) (rm hx rfl) fun o2 g tg hh2 hg=>pick_str (strs_app strs3 strs2) (by show 5 < 100; decide) hg fun m tm e1 _ g0 g1=>
          itemZ (.inl (.head _)) g0 g1 e1 (H.drop .head (H.drop .head (new52 (rm hx rfl) fun v1 I2 s2 hv1 a2=>H.freeze .head (new252 (rm hx rfl) fun v2 I3 s3 hv2=>J9.jv (.ref v2,tK m,o2,I3) ⟨by rw [h1]; exact ⟨m,rfl⟩,.con hv2 (s3 _ (.head _)) ⟨(Rep.var hv1).mono (Sub.one.trans s3),True.intro⟩,s2.trans (Sub.one.trans s3),hh2⟩)))))
        fun h1 tu a2=>H.freeze .head (partH (Mf:=fun o=>(it,io) :: (bl,listO bv n) :: Mo h M0 o) hL.1 rfl (fun _ _=>.tail (.tail .head)) ⟨a2,0,rfl,.head _⟩ strs1 (by decide) (rm hx rfl) fun tp v2 o2 I2 hpt hrep s2 hh2=>J9.jv (v2,tp,o2,I2) ⟨by rw [h1]; exact hpt,hrep,Sub.one.trans s2,hh2⟩))
      fun d hd r=>appendH (.tail .head) ?z (V9.tnext (d.2.2.1,n + 1,bv ++ [.ref r],bws ++ [d.1],ts ++ [d.2.1],(r,tupO [.str z tz',d.1] 0) :: d.2.2.2,some (.str z tz')) ⟨hd.2.2.2,hL.2.1.trans (hd.2.2.1.trans Sub.one),hL.2.2.1.grow (hd.2.2.1.trans Sub.one) hz ⟨r,0,rfl,.head _⟩,(hL.2.2.2.1.mono (hd.2.2.1.trans Sub.one)).snoc (hd.2.1.mono Sub.one),all_snoc hL.2.2.2.2 hd.1⟩ Le.refl))
    case z=>rw [hL.2.2.1.len.1,List.length_take]; exact Nat.le_trans (Nat.min_le_right i 3) (by decide)
  case rest=>
    have hB:=hL.2.2.1.all (Nat.le_refl 3)
    have hlB:=hB.len
    have htl:ts.length = xyz.length:=hL.2.2.2.1.len.trans hlB.2
    have hD:=bindR_dead hL.2.2.2.2 htl
    have htz:=bindR_len hL.2.2.2.2
    have hnl:=hL.2.1 _ (.head _)
    refine fun tT0 tu c=>H.freeze (.tail .head) (addLH (.inr (.tail _ hnl)) (.inl (.head _)) (by show 4 ≤ 10000000; decide) fun sl t5=>mixH (Mf:=fun o=>(sl,_) :: (c,_) :: Mo h M0 o) hL.1 rfl (fun _ _=>.tail (.tail .head)) (by decide) (rm hx rfl) fun o2 g tg hh2 hg=>pick_str (strs_app strs3 strs1) (by show 4 < 100; decide) hg fun m tm e1 _ g0 g1=>
      itemZ (.inl (.head _)) g0 g1 e1 (H.drop .head (H.drop .head (new52 (rm hx rfl) fun v1 I2 s2 hv1 ti t6=>new94 (rm hx rfl) fun v2 I3 s3 hv2 a2=>H.freeze .head (new252 (rm hx rfl) fun v3 I4 s4 hv3=>new212 (rm hx rfl) fun ev I5 s5 hev=>?mid)))))
    have s25:Sub ((bl,listO bv n) :: I1) I5:=s2.trans (s3.trans (Sub.one.trans (s4.trans s5)))
    have s15:=Sub.one.trans s25
    have hbl:=s25 _ (.head _)
    have rT:Rep I5 (tT m) (.ref v3):=Rep.mono s5 (.con hv3 (s4 _ (.head _)) ⟨(Rep.var hv1).mono (s3.trans (Sub.one.trans s4)),(Rep.lit hv2).mono (Sub.one.trans s4),True.intro⟩)
    have hB5:=hB.mono s15
    have hT5:=hL.2.2.2.1.mono s15
    have L:LetV I5 (.ref ev) xyz (f == 0) bl v3 bv bws:=⟨hev,⟨n,hbl⟩,hB5⟩
    have rE:=let_new L hT5 rT
    have hn5:=s15 _ hnl
    refine dead2H rE hD htz (rm hx rfl) fun tv tt w I7 s7 htold=>compH (S607c (Mo h M0 o2)) (F607c I7 fun x=>decide (x ∈ fvOf (tT m))) I7 (itList (.inr (s7 _ hn5))) rfl ⟨Sub.refl,.nil⟩ (by show 3 ≤ 10000000; decide) (fun _ _ _ h8=>srcL (.inr (h8.1 _ (s7 _ hn5))))
      (fun x2 hr2 i y zs I8 it io m2 acc u2 hi hX h8 _ V9=>strs_e strs3 hX fun z tz' ez hz hzm=>?wel) fun wl wv0 I8 m2 h8 T2=>joinF (S607j h nl bl ev tv wl (f == 0) (Mo h M0 o2) 0) (F607j ((T2,tupO [.ref tv,.ref wl] 0) :: I8) ts (f == 0) m)
        (fun _ J9=>cnd (fun h1=>?grow) fun h1=>J9.jf (wv0,_,m2,u,_) ⟨h8.2,wnt_f h1,Sub.refl⟩) fun d hd=>?kept
    case wel=>
      cases ez
      exact getF (L.mono (s7.trans h8.1)).body g212_body (is_freeH (rT.mono (s7.trans h8.1)) (hr2 ▸ rm hx rfl) tT_size fun I9 s9=>cnd (fun hb=>V9.ce (S:=S607c _) I9 ⟨h8.1.trans s9,strs_f1 h8.2 hz hb⟩ Le.refl rfl) fun hb=>V9.ce (m:=m2) (S:=S607c _) I9 ⟨h8.1.trans s9,strs_f0 h8.2 hz hb⟩ Le.refl rfl)
    case grow=>
      have s8T:Sub I5 ((T2,tupO [.ref tv,.ref wl] 0) :: I8):=s7.trans (h8.1.trans Sub.one)
      refine ⟨⟨wl,_,S607j h nl bl ev tv wl (f == 0) (Mo h M0 o2),fun d=>d.1,F607g ((T2,tupO [.ref tv,.ref wl] 0) :: I8) ts m,3,(wv0,_,m2,u,_),rfl,rfl,⟨h8.2,.start,Sub.refl⟩,fun i d hd=>⟨⟨d.2.2.1,.head _⟩,(strs_len hd.1).symm ▸ hd.2.1.le1,(strs_len hd.1).symm ▸ hd.2.1.le⟩,fun i d y it io hX hd=>strs_e hd.1 hX fun z tz' ez hz hzm=>?turn,fun d hd=>J9.jf d ⟨hd.1,wnt_t h1 (strs_len hd.1 ▸ hd.2.1) hL.2.2.2.2,hd.2.2⟩⟩⟩
      cases ez
      have s5x:=s8T.trans hd.2.2
      have hWl:=hd.2.1.le
      refine wnt_e h1 (hd.2.1.x z hzm) (hlB.2) hT5 hL.2.2.2.2 fun j b m' hj hb ht hrep=>mExtend (.inl (.tail _ (.head _))) (compH (S607c ((it,io) :: (wl,listO d.1 d.2.2.1) :: Mo h M0 o2)) (F607c d.2.2.2.2 fun z=>!decide (z ∈ d.2.1) && decide (z ∈ fvOf (tK m'))) d.2.2.2.2 (itList (.inr (s5x _ hn5))) rfl ⟨Sub.refl,.nil⟩ (by show 3 ≤ 10000000; decide) (fun _ _ _ h9=>srcL (.inr (h9.1 _ (s5x _ hn5))))
        (fun x2 hr2 i2 y2 zs I9 it2 io2 m3 acc u3 hi2 hX2 h9 _ V9=>strs_e strs3 hX2 fun z2 tz2 ez2 hz2 hzm2=>?oth) fun acc zs I9 m3 h9=>extendH (Mf:=fun n'=>(acc,listO zs m3) :: (it,io) :: (wl,listO (d.1 ++ zs) n') :: Mo h M0 o2) (fun n'=>.tail (.tail .head)) (.inl (.head _)) ?zl fun n'=>gnext (d.1 ++ zs,d.2.1 ++ newW d.2.1 m',n',some (.str z tz'),I9) ⟨strs_app hd.1 h9.2,hd.2.1.next hz hj ht,hd.2.2.trans h9.1⟩ (Le.drop .head Le.refl))
      case zl=>
        have h2:zs.length ≤ 3:=(strs_len h9.2).symm ▸ List.length_filter_le _ _
        exact Nat.le_trans (Nat.add_le_add ((strs_len hd.1).symm ▸ hWl) h2) (by decide)
      case oth=>
        cases ez2
        have s5y:=s5x.trans h9.1
        exact ninSH (.inl (.tail _ (.tail _ (.tail _ (.head _))))) hd.1 (cnd (fun h2=>dictB (s5y _ hbl) (hB5.mono s5y) (by rw [hlB.1]; decide) fun dd dob hdd=>dItem (.inl (.head _)) hdd (dz_at xyz_nd hj hb) (H.drop .head (is_freeH (hrep.mono s5y) (hr2 ▸ rm hx rfl) tK_size fun I10 s10=>cnd (fun h3=>V9.ce (S:=S607c _) I10 ⟨h9.1.trans s10,strs_f1 h9.2 hz2 (by rw [h2,h3]; rfl)⟩ Le.refl rfl)
          fun h3=>V9.ce (m:=m3) (S:=S607c _) I10 ⟨h9.1.trans s10,strs_f0 h9.2 hz2 (by rw [h3,Bool.and_false])⟩ Le.refl rfl))) fun h2=>V9.ce (m:=m3) (S:=S607c _) I9 ⟨h9.1,strs_f0 h9.2 hz2 (by rw [h2,Bool.false_and])⟩ Le.refl rfl)
    case kept=>
      have s8d:Sub I7 d.2.2.2.2:=h8.1.trans (Sub.one.trans hd.2.2)
      have s5d:=s7.trans s8d
      have rTo:=htold.2.1.mono s8d
      refine joinV (fun d':D607k=>Value.ref d'.1) (S607k h nl bl ev tv wl (f == 0) d.2.2.2.1 ((wl,listO d.1 d.2.2.1) :: Mo h M0 o2) d.2.2.2.2) (fun d'=>StrsAre d'.2.1 (xyz.filter w))
        (fun _ J9=>isiL rTo (cnd (fun hb=>told_let htold hb fun l b ps bs n' L2 hl2=>getF (L2.mono s8d).binds g212_binds (compH (S607c ((wl,listO d.1 d.2.2.1) :: Mo h M0 o2)) (F607d d.2.2.2.2 (xyz.filter w)) d.2.2.2.2 (itList (.inr (s8d _ hl2))) rfl ⟨rfl,.nil⟩ ?kz (fun i ys I' h9=>srcL (.inr (h9.1 ▸ s8d _ hl2)))
            (fun x2 hr2 i p zs I9 it io m3 acc u3 hi hX h9 _ V9=>asgB L2.bnd hX (h9.1 ▸ s8d) fun z tz' w2 hz hw=>V9.ce (m:=m3) (S:=S607c _) I9 ⟨h9.1,strs_next h9.2 hz⟩ Le.refl rfl) fun acc zs I9 m3 h9=>?kj))
          fun hb a=>J9.jv (a,[],0) (told_no htold hb ▸ StrsAre.nil))) fun d' hk=>?last
      case kz=>
        have h2:(xyz.filter w).length ≤ 3:=List.length_filter_le _ _
        exact Nat.le_trans (Nat.le_of_eq L2.bnd.len.1) (Nat.le_trans h2 (by decide))
      case kj=>
        have e1:I9 = d.2.2.2.2:=h9.1
        subst e1
        have h3:=h9.2
        rw [L2.bnd.len.1,List.take_length] at h3
        exact J9.jv (acc,zs,m3) h3
      refine compH (S607c ((d'.1,listO d'.2.1 d'.2.2) :: (wl,listO d.1 d.2.2.1) :: Mo h M0 o2)) (F607c d.2.2.2.2 fun x=>decide (x ∈ d.2.1)) d.2.2.2.2 (itList (.inr (s5d _ hn5))) rfl ⟨Sub.refl,.nil⟩ (by show 3 ≤ 10000000; decide) (fun _ _ _ h9=>srcL (.inr (h9.1 _ (s5d _ hn5))))
        (fun x2 hr2 i p zs I9 it io m3 acc u3 hi hX h9 _ V9=>strs_e strs3 hX fun z tz' ez hz hzm=>?lel) fun acc zs I9 m3 h9=>eqStrs (.inl (.tail _ (.head _))) (.inl (.head _)) hk (wnt_kept htold.1 hd.2.1 ▸ h9.2) (sameH (rE.mono (s5d.trans h9.1)) (rTo.mono h9.1) htold.2.2.1 (Nat.le_refl _) (rm hx rfl) fun I10 s10=>retI (q _ _))
      cases ez
      exact inSH (.inl (.tail _ (.tail _ (.tail _ (.head _))))) hd.1 (cnd (fun hb=>V9.ce (m:=m3) (S:=S607c _) I9 ⟨h9.1,strs_f1 h9.2 hz hb⟩ Le.refl rfl) fun hb=>V9.ce (m:=m3) (S:=S607c _) I9 ⟨h9.1,strs_f0 h9.2 hz hb⟩ Le.refl rfl)
end
end
section
theorem mean_good {t} (h:MeanT t):GoodT t∧tsize t ≤ 4:=by
  have hl:∀ {p b},Base p→GoodT b→GoodT (.node (.lam p) [b]):=fun {p b} h1 h2=>by
    unfold GoodT
    refine ⟨fun xs hxs=>?_,?_⟩
    · have:xs = [p]:=by simpa [gps] using hxs
      subst this
      exact ⟨by simp,fun y hy=>by rw [List.mem_singleton.mp hy]; exact h1⟩
    · unfold GoodTs; refine ⟨h2,?_⟩
      unfold GoodTs; trivial
  cases h with
  | var=>exact ⟨good_leaf rfl,by simp [tsize,tsizes]⟩
  | lit=>exact ⟨good_leaf rfl,by simp [tsize,tsizes]⟩
  | err=>exact ⟨good_leaf rfl,by simp [tsize,tsizes]⟩
  | ku=>exact ⟨good_con fun t ht=>(by simp at ht; subst ht; exact good_leaf rfl),by simp [tsize,tsizes]⟩
  | n=>exact ⟨good_leaf rfl,by simp [tsize,tsizes]⟩
  | lam=>exact ⟨hl (base1 _ (by simp)) (good_con fun t ht=>(by simp at ht; rcases ht with rfl | rfl <;> exact good_leaf rfl)),by simp [tsize,tsizes]⟩
theorem piece_good {xs m t} (h:PieceT xs m t):GoodT t∧tsize t ≤ 4:=by
  cases h with
  | var n hn=>exact ⟨good_leaf rfl,by simp [tsize,tsizes]⟩
  | fn n hn=>
    refine ⟨?_,by simp [tsize,tsizes]⟩
    unfold GoodT
    refine ⟨fun xs hxs=>?_,?_⟩
    · have:xs = [su]:=by simpa [gps] using hxs
      subst this
      exact ⟨by simp,fun y hy=>by rw [List.mem_singleton.mp hy]; exact base1 _ (by simp)⟩
    · unfold GoodTs
      refine ⟨good_con fun t ht=>(by simp at ht; rcases ht with rfl | rfl <;> exact good_leaf rfl),?_⟩
      unfold GoodTs; trivial
  | app n hn hl=>
    refine ⟨?_,by simp [tsize,tsizes]⟩
    unfold GoodT
    refine ⟨fun xs hxs=>(by cases hxs),?_⟩
    unfold GoodTs; refine ⟨good_leaf rfl,?_⟩
    unfold GoodTs; refine ⟨good_leaf rfl,?_⟩
    unfold GoodTs; trivial
theorem tsizes_le {n:Nat}:∀ {ks:List Tr},(∀ k ∈ ks,tsize k ≤ n)→tsizes ks ≤ n * ks.length
  | [],_=>by simp [tsizes]
  | k :: ks,h=>by
    have h1:=h k (.head _)
    have h2:=tsizes_le (ks:=ks) fun k' hk=>h k' (.tail _ hk)
    unfold tsizes
    rw [List.length_cons,Nat.mul_add]
    lia
noncomputable def mL (xs:List Str) (ts:List Tr) (n:Str):Tr:=(lookT xs ts n).getD hashT
theorem PieceT.to {xs xs' m m' k} (h:PieceT xs m k) (q:∀ n ∈ xs,n ∈ xs'∧m n = m' n):PieceT xs' m' k:=by
  cases h with
  | var n hn=>exact .var n (q n hn).1
  | fn n hn=>exact .fn n (q n hn).1
  | app n hn hl=>exact .app n (q n hn).1 (by rw [← (q n hn).2]; exact hl)
theorem Rep.lam {I p t b l n tb} {v:Value} (hi:Ins I v 176 [("params",.ref l),("body",.ref b)]) (hl:(l,listO [.str p t] n) ∈ I) (hb:Rep I tb (.ref b)):Rep I (.node (.lam p) [tb]) v:=
  ⟨[.ref b],⟨b,l,t,rfl,hi,⟨l,n,rfl,hl⟩⟩,hb,True.intro⟩
theorem Rep.app2 {I f l n as tf ts} {v:Value} (hi:Ins I v 134 [("fun",.ref f),("args",.ref l)]) (hl:(l,listO as n) ∈ I) (hf:Rep I tf (.ref f)) (ha:Reps I ts as):Rep I (.node .app (tf :: ts)) v:=
  ⟨.ref f :: as,⟨f,l,as,rfl,hi,⟨l,n,rfl,hl⟩⟩,hf,ha⟩
section
variable {e:E0} {x:Ctx e} {vs:List (Option Value)} {M I:Led} {k:Value→Sta→Prop}
theorem eqB1D {a b:Addr} {y z:Bool} {n m:Nat} (ha:Own M I a (listO [.bool y] n)) (q:k (.bool (y == z)) ⟨vs,M,I⟩):H x (compareOp .Eq (.ref a) (.ref b)) ⟨vs,(b,listO [.bool z] m) :: M,I⟩ k:=
  ⟨fun s hs=>by
    have:=SeqAt.RcAt.lists (A:=x.c.A) (e:=fun _=>y == z) (isL (ha.at (St.drop hs .head))) (isL (St.has hs (.head _))) rfl (unitsL x) fun j h1 h2=>by
      have hj:j = 0:=by simp at h1; exact h1
      subst hj
      exact SeqAt.EqAt.bool_bool y z
    have e1:((List.range ([Value.bool y].toArray.size)).all fun _=>y == z) = (y == z):=by
      show ((List.range 1).all fun _=>y == z) = _
      simp [List.range,List.range.loop]
    rw [e1] at this
    exact this e.prog e.w _ _ (upM (St.drop hs .head) q)⟩
end
end
section
section
variable {i:Nat} {y:Str} {ts ks:List Tr} {ta:Tr}
theorem xy_not (hy:xy[i]? = some y):y ∉ xy.take i:=fun q=>by
  have h1:(xy.take i ++ [y]).Nodup:=by rw [← take_next hy]; exact (by decide +kernel:xy.Nodup).sublist (List.take_sublist _ _)
  exact (List.nodup_append.mp h1).2.2 y q y (.head _) rfl
theorem pieces_next (hks:∀ k ∈ ks,PieceT (xy.take i) (mL (xy.take i) ts) k) (hy:xy[i]? = some y) (hl:(xy.take i).length = ts.length):∀ k ∈ ks,PieceT (xy.take (i + 1)) (mL (xy.take (i + 1)) (ts ++ [ta])) k:=fun k hk=>
  (hks k hk).to fun n hn=>by
    rw [take_next hy]
    refine ⟨List.mem_append.mpr (.inl hn),?_⟩
    unfold mL
    rw [lookT_snoc hl,if_neg (fun q:n = y=>xy_not hy (q ▸ hn))]
theorem mL_new (hy:xy[i]? = some y) (hl:(xy.take i).length = ts.length):mL (xy.take (i + 1)) (ts ++ [ta]) y = ta:=by
  unfold mL
  rw [take_next hy,lookT_snoc hl,if_pos rfl]; rfl
theorem mem_new (hy:xy[i]? = some y):y ∈ xy.take (i + 1):=by rw [take_next hy]; exact List.mem_append.mpr (.inr (.head _))
end
theorem five_e {P:Prop} {g:Int} (h:0 ≤ g∧g < 5) {a b c d f:Value} (q:∀ w,([a,b,c,d,f]:List Value)[g.toNat]? = some w→(w = a∨w = b∨w = c∨w = d∨w = f)→P):P:=by
  have:g = 0∨g = 1∨g = 2∨g = 3∨g = 4:=by lia
  rcases this with rfl | rfl | rfl | rfl | rfl
  · exact q a rfl (.inl rfl)
  · exact q b rfl (.inr (.inl rfl))
  · exact q c rfl (.inr (.inr (.inl rfl)))
  · exact q d rfl (.inr (.inr (.inr (.inl rfl))))
  · exact q f rfl (.inr (.inr (.inr (.inr rfl))))
theorem most_e {P:Prop} {g:Int} {t0 t4:Tok} (h:0 ≤ g∧g < 2) (q:∀ most four tm,([.int 0 t0,.int 4 t4]:List Value)[g.toNat]? = some (.int most tm)→((most = (4:Int)∧four = true)∨(most = 0∧four = false))→P):P:=by
  have:g = 0∨g = 1:=by lia
  rcases this with rfl | rfl
  · exact q 0 false t0 rfl (.inr ⟨rfl,rfl⟩)
  · exact q 4 true t4 rfl (.inl ⟨rfl,rfl⟩)
noncomputable def S621 (h nb fa bl pl:Addr) (no:Obj) (M0:Led) (mv:Value) (_:Nat):Obj × (Nat × Nat) × (List Value × List Value) × (List Value × List Tr) × List Tr × Led × OV × (OV × OV)→Sta
  | (o,n,b,p,_,I,u1,u2)=>⟨[some (.ref h),some (.ref fa),some mv,some (.ref bl),some (.ref pl),u1,u2.1,u2.2,none,none,none,none,none,none,none],(pl,listO p.1 n.2) :: (bl,listO b.1 n.1) :: Mh nb h no M0 o,I⟩
def F621 (I0:Led) (i:Nat):Obj × (Nat × Nat) × (List Value × List Value) × (List Value × List Tr) × List Tr × Led × OV × (OV × OV)→Prop
  | (o,_,b,p,ts,I,_)=>HandO o∧Sub I0 I∧Binds I b.1 (xy.take i) b.2∧Reps I ts b.2∧(∀ t ∈ ts,MeanT t)∧Reps I p.2 p.1∧(∀ k ∈ p.2,PieceT (xy.take i) (mL (xy.take i) ts) k)∧p.2.length ≤ 3 * i
theorem int_e {P:Prop} {g:Int} {m:Nat} (h:0 ≤ g∧g < ((m + 1:Nat):Int)) (q:∀ n:Nat,g = (n:Int)→n ≤ m→P):P:=q g.toNat (by lia) (by lia)
noncomputable def S621b (h nb fa bl pl it:Addr) (io blo no:Obj) (M0:Led) (mv y u:Value) (u4:OV) (_:Nat):Obj × Nat × (List Value × List Tr) × Led × OV→Sta
  | (o,n,p,I,u3)=>⟨[some (.ref h),some (.ref fa),some mv,some (.ref bl),some (.ref pl),some y,some u,u3,none,none,none,none,none,none,none],(it,io) :: (pl,listO p.1 n) :: (bl,blo) :: Mh nb h no M0 o,I⟩
def F621b (I0:Led) (xs:List Str) (mf:Str→Tr) (c:Nat) (i:Nat):Obj × Nat × (List Value × List Tr) × Led × OV→Prop
  | (o,_,p,I,_)=>HandO o∧Sub I0 I∧Reps I p.2 p.1∧(∀ k ∈ p.2,PieceT xs mf k)∧p.2.length ≤ c + i
end
section
theorem mL_x {mx my:Tr}:mL xy [mx,my] sx = mx:=by
  show (lookT xy [mx,my] sx).getD hashT = mx
  rw [lookT_at (i:=0) (by decide +kernel) rfl rfl]; rfl
theorem mL_y {mx my:Tr}:mL xy [mx,my] sy = my:=by
  show (lookT xy [mx,my] sy).getD hashT = my
  rw [lookT_at (i:=1) (by decide +kernel) rfl rfl]; rfl
theorem mL_mOf {mx my:Tr} {n:Str} (hn:n ∈ xy):mL xy [mx,my] n = mOf mx my n:=by
  rcases xy_cases hn with rfl | rfl
  · exact mL_x.trans mOf_x.symm
  · exact mL_y.trans mOf_y.symm
theorem inl_e {P:Prop} {I:Led} {vs bs:List Value} {ts ks:List Tr} (hB:Binds I vs xy bs) (hT:Reps I ts bs) (hm:∀ t ∈ ts,MeanT t) (hp:∀ k ∈ ks,PieceT xy (mL xy ts) k) (q:∀ mx my,Reps I [mx,my] bs→MeanT mx→MeanT my→(∀ k ∈ ks,PieceT xy (mOf mx my) k)→P):P:=by
  obtain ⟨mx,my,rfl⟩:=len2_e (hT.len.trans hB.len.2)
  exact q mx my hT (hm _ (.head _)) (hm _ (.tail _ (.head _))) fun k hk=>(hp k hk).to fun n hn=>⟨hn,mL_mOf hn⟩
noncomputable def cntW (w:Str→Bool) (i:Nat):Nat:=((xy.take i).filter fun x=>!w x).length
theorem cntW_next {w:Str→Bool} {i:Nat} {y:Str} (hy:xy[i]? = some y):((cntW w i:Nat):Int) + (if (!w y) = true then 1 else 0) = (cntW w (i + 1):Nat):=by
  unfold cntW
  rw [take_next hy,List.filter_append,List.length_append]
  cases hb:w y with
  | false=>simp [hb]
  | true=>simp [hb]
def ToldI (I:Led) (mx my:Tr) (ks:List Tr) (most:Int) (w:Str→Bool) (tt:Tr) (tv:Addr):Prop:=
  TakenW xy [mx,my] (tTs ks) most w∧Rep I tt (.ref tv)∧Same 60 (tInl mx my ks) .nil tt .nil 3∧((headLet tt = false∧cntW w 2 = 0)∨∃ qs kks,tt = .node (.lett qs false) kks∧qs.length = cntW w 2)
theorem tTs_size {xs:List Str} {m:Str→Tr} {ks:List Tr} (h:∀ k ∈ ks,PieceT xs m k) (hl:ks.length ≤ 6):tsize (tTs ks) ≤ 40:=by
  have:=tsizes_le (n:=4) (ks:=ks) fun k hk=>(piece_good (h k hk)).2
  show tsize (.node (.con (Str.ofString "T")) ks) ≤ 40
  unfold tsize; lia
section
variable {e:E0} {x:Ctx e} {vs:List (Option Value)} {M I:Led} {k:Value→Sta→Prop}
theorem inl2H {fv v:Value} {nb:Addr} {o:Obj} {Mf:Obj→Led} {mx my:Tr} {ks:List Tr} {most:Int} {tm:Tok} (r:Rep I (tInl mx my ks) v) (hmx:MeanT mx) (hmy:MeanT my) (hk:∀ k ∈ ks,PieceT xy (mOf mx my) k) (hl:ks.length ≤ 6)
    (hfr:∃ fa,fv = .ref fa) (hf:FreshI e I fv nb) (hn:NumsO e nb o 0) (hM0:M = Mf o) (hp2:∀ o1 o2,Put nb o1 o2 (Mf o1) (Mf o2)) (hr:20 ≤ x.c.room)
    (q:∀ tv tt w o' I',Sub I I'→ToldI I' mx my ks most w tt tv→k (.ref tv) ⟨vs,Mf o',I'⟩):H x (call (.ref 533) [v,fv,.int most tm]) ⟨vs,M,I⟩ k:=by
  have hl9:ks.length ≤ 900:=Nat.le_trans hl (by decide)
  refine inlinedH r (by decide +kernel) (by decide) (fun y hy=>base1 y ?b) (fun t ht=>?g) (good_con fun t ht=>(piece_good (hk t ht)).1) (Nat.le_trans (tTs_size hk hl) (by decide)) hfr hf hn hM0 hp2 (by decide) hr (fun w hw hall o' I' s=>?k1) (fun w hw hf0 t' v' o' I' hRen s hRep=>?k2) fun w hw hf0 hex qs t' v' o' I' hN hRen s hRep=>?k3
  case b=>rcases xy_cases hy with rfl | rfl <;> simp
  case g=>
    have h1:MeanT t:=by
      rcases List.mem_cons.mp ht with rfl | ht
      · exact hmx
      · rw [List.mem_singleton.mp ht]; exact hmy
    exact ⟨(mean_good h1).1,Nat.le_trans (mean_good h1).2 (by decide)⟩
  case k1=>
    obtain ⟨tv,rfl⟩:=r.ref
    exact q tv _ w o' I' s ⟨hw,r.mono s,law_inl1 hmx hmy hk hl9,.inr ⟨_,_,rfl,congrArg List.length (List.filter_eq_self.mpr (fun x hx=>by rw [hall x hx]; rfl)).symm⟩⟩
  case k2=>
    obtain ⟨tv,rfl⟩:=hRep.ref
    obtain ⟨q1,q2⟩:=law_inl2 hmx hmy hk hl9 hf0 hRen
    exact q tv _ w o' I' s ⟨hw,hRep,q1,.inl ⟨q2,congrArg List.length hf0⟩⟩
  case k3=>
    obtain ⟨tv,rfl⟩:=hRep.ref
    exact q tv _ w o' I' s ⟨hw,hRep,law_inl3 hmx hmy hk hl9 hf0 hex hN hRen,.inr ⟨_,_,rfl,hN.len.symm⟩⟩
end
section
variable {e:E0} {x:Ctx e} {vs:List (Option Value)} {M I:Led} {k:Value→Sta→Prop}
theorem eqL0D {a b:Addr} {xs:List Value} {n m:Nat} (ha:Own M I a (listO xs n)) (q:k (.bool xs.isEmpty) ⟨vs,M,I⟩):H x (compareOp .Eq (.ref a) (.ref b)) ⟨vs,(b,listO [] m) :: M,I⟩ k:=
  ⟨fun _ hs=>c_eq_list0 (ha.at (St.drop hs .head)) (St.has hs (.head _)) (unitsL x) (upM (St.drop hs .head) q)⟩
end
noncomputable def usesO (z:Str) (ks:List Tr) (n:Nat):Obj:=listO ((usesL z (tTs ks) false).map Value.bool) n
noncomputable def onceB (z:Str) (ks:List Tr) (lam:Bool):Bool:=(usesL z (tTs ks) false).length == 1 && (lam || usesL z (tTs ks) false == [false])
theorem once1 {z:Str} {ks:List Tr} {lam:Bool} (h:((((usesL z (tTs ks) false).map Value.bool).length:Int) == 1) = false):Value.bool ((((usesL z (tTs ks) false).map Value.bool).length:Int) == 1) = .bool (onceB z ks lam):=by
  unfold onceB
  rw [h]
  rw [List.length_map] at h
  rw [show ((usesL z (tTs ks) false).length == 1) = false from beq_eq_false_iff_ne.mpr fun q=>absurd h (by rw [q]; decide)]; rfl
theorem once_e {P:Prop} {z:Str} {ks:List Tr} (h:((((usesL z (tTs ks) false).map Value.bool).length:Int) == 1) = true) (q:∀ b,usesL z (tTs ks) false = [b]→P):P:=by
  have h:=eq_of_beq h
  rw [List.length_map] at h
  match e:usesL z (tTs ks) false with
  | [b]=>exact q b e
  | []=>rw [e] at h; exact absurd h (by decide)
  | _ :: _ :: l=>rw [e,List.length_cons,List.length_cons] at h; lia
theorem once2 {z:Str} {ks:List Tr} {lam b:Bool} (e:usesL z (tTs ks) false = [b]) (h:lam = true):Value.bool lam = .bool (onceB z ks lam):=by
  unfold onceB; rw [e,h]; rfl
theorem once3 {z:Str} {ks:List Tr} {lam b:Bool} (e:usesL z (tTs ks) false = [b]) (h:lam = false):Value.bool (b == false) = .bool (onceB z ks lam):=by
  unfold onceB; rw [e,h]; cases b <;> rfl
theorem usesO1 {z:Str} {ks:List Tr} {b:Bool} {n:Nat} (e:usesL z (tTs ks) false = [b]):usesO z ks n = listO [.bool b] n:=by unfold usesO; rw [e]; rfl
theorem takW {w:Str→Bool} {mx my ta:Tr} {ks:List Tr} {most:Int} {four:Bool} {i:Nat} {z:Str} (hW:TakenW xy [mx,my] (tTs ks) most w) (hmx:MeanT mx) (hmy:MeanT my) (hk:∀ k ∈ ks,PieceT xy (mOf mx my) k) (hm:(most = 4∧four = true)∨(most = 0∧four = false)) (hz:xy[i]? = some z) (ht:[mx,my][i]? = some ta) :
    w z = (atomT ta || onceB z ks (lamT ta) || (lamT ta && (most == 4))):=by
  have h1:MeanT ta:=by
    rcases List.mem_cons.mp (List.mem_of_getElem? ht) with rfl | h
    · exact hmx
    · rw [List.mem_singleton.mp h]; exact hmy
  rw [(hW i z ta hz ht).trans (taken_law h1 hk hm)]
  have h2:four = (most == 4):=by rcases hm with ⟨rfl,rfl⟩ | ⟨rfl,rfl⟩ <;> rfl
  unfold lawTaken onceB
  rw [h2]
theorem toldI_let {P:Prop} {I:Led} {mx my:Tr} {ks:List Tr} {most:Int} {w:Str→Bool} {tt:Tr} {tv:Addr} (h:ToldI I mx my ks most w tt tv) (hb:headLet tt = true) (q:∀ qs l b ps bs n,LetV I (.ref tv) qs false l b ps bs→(l,listO ps n) ∈ I→ps.length = cntW w 2→P):P:=by
  obtain ⟨_,hr,_,h3⟩:=h
  obtain ⟨qs,kks,rfl,h4⟩:=h3.resolve_left fun z=>absurd (hb.symm.trans z.1) Bool.noConfusion
  exact let_elim hr fun l b ps bs ks' kb e L r1 r2=>let ⟨n,hn⟩:=L.lis; q qs l b ps bs n L hn (L.bnd.len.1.trans h4)
theorem toldI_no {I:Led} {mx my:Tr} {ks:List Tr} {most:Int} {w:Str→Bool} {tt:Tr} {tv:Addr} (h:ToldI I mx my ks most w tt tv) (hb:headLet tt = false):(0:Int) = (cntW w 2:Nat):=by
  rcases h.2.2.2 with z | ⟨qs,kks,rfl,_⟩
  · rw [z.2]; rfl
  · cases hb
theorem cntW_le {w:Str→Bool}:cntW w 2 ≤ 10000000:=Nat.le_trans (List.length_filter_le _ _) (by decide)
section
variable {a b c d v:Bool}
theorem or1 (h:v = (a || b || (c && d))) (h1:a = true):a = v:=by rw [h,h1]; rfl
theorem or2 (h:v = (a || b || (c && d))) (h1:a = false) (h2:b = true):b = v:=by rw [h,h1,h2]; rfl
theorem or3 (h:v = (a || b || (c && d))) (h1:a = false) (h2:b = false) (h3:c = true):d = v:=by rw [h,h1,h2,h3]; rfl
theorem or4 (h:v = (a || b || (c && d))) (h1:a = false) (h2:b = false) (h3:c = false):c = v:=by rw [h,h1,h2,h3]; rfl
end
theorem cntN {w:Str→Bool} {i:Nat} {y:Str} {m:Int} {v:Bool} (h:m = cntW w i) (hy:xy[i]? = some y) (e:v = w y):m + (if (!v) = true then 1 else 0) = cntW w (i + 1):=by rw [h,e]; exact cntW_next hy
abbrev D621k:=Led × (Int × Tok) × OV × OV × OV × OV × OV × OV
noncomputable def S621k (h fa bl pl ev tv:Addr) (mv:Value) (u3:OV) (M:Led) (_:Nat):D621k→Sta
  | (I,m,u1,u2,u4,u5,u6,u7)=>⟨[some (.ref h),some (.ref fa),some mv,some (.ref bl),some (.ref pl),u1,u2,u3,some (.ref ev),some (.ref tv),some (.int m.1 m.2),u4,u5,u6,u7],M,I⟩
def F621k (I0:Led) (w:Str→Bool) (i:Nat):D621k→Prop
  | (I,m,_)=>Sub I0 I∧m.1 = cntW w i
noncomputable def S621t (h fa bl pl ev tv:Addr) (mv y b:Value) (u3:OV) (c:Value) (ul:Addr) (lb:Bool) (u6 u7:OV) (M:Led) (I:Led):Sta:=⟨[some (.ref h),some (.ref fa),some mv,some (.ref bl),some (.ref pl),some y,some b,u3,some (.ref ev),some (.ref tv),some c,some (.ref ul),some (.bool lb),u6,u7],M,I⟩
end
section
abbrev D621:=Value × Tr × Obj × Led
noncomputable def S621a (h nb fa bl pl it:Addr) (io plo blo no:Obj) (M0:Led) (mv y:Value) (u:OV) (u3:OV) (o:Obj) (I:Led):Sta:=⟨[some (.ref h),some (.ref fa),some mv,some (.ref bl),some (.ref pl),some y,u,u3,none,none,none,none,none,none,none],(it,io) :: (pl,plo) :: (bl,blo) :: Mh nb h no M0 o,I⟩
def F621a (I0:Led) (d:D621):Prop:=MeanT d.2.1∧Rep d.2.2.2 d.2.1 d.1∧Sub I0 d.2.2.2∧HandO d.2.2.1
noncomputable def S621c (h nb fa bl pl it it2:Addr) (io io2 plo blo no:Obj) (M0:Led) (mv y u u3:Value) (d:D621):Sta:=⟨[some (.ref h),some (.ref fa),some mv,some (.ref bl),some (.ref pl),some y,some u,some u3,none,none,none,none,none,none,none],(it2,io2) :: (it,io) :: (pl,plo) :: (bl,blo) :: Mh nb h no M0 d.2.2.1,d.2.2.2⟩
def F621c (I0:Led) (xs:List Str) (mf:Str→Tr) (d:D621):Prop:=PieceT xs mf d.2.1∧Rep d.2.2.2 d.2.1 d.1∧Sub I0 d.2.2.2∧HandO d.2.2.1
section
variable {e:E0} {x:Ctx e} {vs:List (Option Value)} {M I:Led} {k:Value→Sta→Prop} {st:Sta}
theorem isiLm {t:Tr} {v:Value} (r:Rep st.I t v) (q:k (.bool (lamT t)) st):H x (call (.builtin "isinstance") [v,.ref 176]) st k:=by
  obtain ⟨h,ks⟩:=t
  exact isiR r rfl q
set_option maxHeartbeats 1000000
theorem right_inlinedH {h nb fa:Addr} {ho no:Obj} {M0:Led} (hM:M = Mh nb h no M0 ho) (hh:HandO ho) (hf:FreshI e I (.ref fa) nb) (hn:NumsO e nb no 0) (hr:80 ≤ x.c.room) (q:∀ M' I',k (.bool true) ⟨vs,M',I'⟩) :
    H x (call (.ref 621) [.ref h,.ref fa]) ⟨vs,M,I⟩ k:=by
  cases hM
  refine fr621.run rfl hr fun x' hx t0 t4 a t1=>mixH (Mf:=fun o=>(a,listO [.int 0 t0,.int 4 t4] 0) :: Mh nb h no M0 o) hh rfl (fun _ _=>.tail (.tail .head)) (by decide) (rm hx rfl) fun o1 g tg hh1 hg=>most_e hg fun most four tm em hmost=>itemZ (.inl (.head _)) hg.1 (Int.lt_trans hg.2 (by decide)) em fun bl pl T tx ty yl=>
    ForH.freeze .head (ForH.drop (.tail (.tail .head)) (forH8 (S621 h nb fa bl pl no M0 (.int most tm)) (F621 _) (o1,(0,0),([],[]),([],[]),[],_,none,(none,none)) (itList (.inr (.head _))) rfl ⟨hh1,Sub.refl,.nil,True.intro,(fun t ht=>nomatch ht),True.intro,(fun t ht=>nomatch ht),Nat.le_refl _⟩ (fun _ _ _ _ _ _ _ _ _ hL=>srcL (.inr (hL.2.1 _ (.head _))))
    (fun i y o n b p ts I1 u1 u2 it io hi hX hL _ V9=>strs_e strs2 hX fun z tz ez hz hzm=>?step) fun o n b p ts I1 u1 u2 hL=>?rest))
  case step=>
    cases ez
    refine fun tu=>new52 (rm hx rfl) fun v1 I2 s2 hv1 ti tn=>new94 (rm hx rfl) fun v2 I3 s3 hv2 te a1=>H.freeze .head (new292 (rm hx rfl) fun v3 I4 s4 hv3 tk tu2=>new52 (rm hx rfl) fun v4 I5 s5 hv4 a2=>H.freeze .head (new252 (rm hx rfl) fun v5 I6 s6 hv5 tN a3=>H.freeze .head (new252 (rm hx rfl) fun v6 I7 s7 hv6 L t5=>
      mixH (Mf:=fun o=>(L,listO [.ref v1,.ref v2,.ref v3,.ref v5,.ref v6] 0) :: (it,io) :: (pl,listO p.1 n.2) :: (bl,listO b.1 n.1) :: Mh nb h no M0 o) hL.1 rfl (fun _ _=>.tail (.tail (.tail (.tail (.tail .head))))) (by decide) (rm hx rfl) fun o2 g2 tg2 hh2 hg2=>five_e hg2 fun w hw5 hor=>itemZ (.inl (.head _)) hg2.1 (Int.lt_trans hg2.2 (by decide)) hw5 ?afterm)))
    have s67:=Sub.one.trans s7
    have s57:=(Sub.one.trans s6).trans s67
    have s47:=s5.trans s57
    have s37:=(Sub.one.trans s4).trans s47
    have s27:=s3.trans s37
    have s17:=s2.trans s27
    have hm:∃ t,MeanT t∧Rep I7 t w:=by
      rcases hor with rfl | rfl | rfl | rfl | rfl
      · exact ⟨_,.var,(Rep.var hv1).mono s27⟩
      · exact ⟨_,.lit,(Rep.lit hv2).mono s37⟩
      · exact ⟨_,.err,Rep.mono s47 (.prim hv3 (s4 _ (.head _)) (ks:=[]) True.intro)⟩
      · exact ⟨tKu,.ku,Rep.mono s67 (.con hv5 (s6 _ (.head _)) ⟨(Rep.var hv4).mono (Sub.one.trans s6),True.intro⟩)⟩
      · exact ⟨_,.n,.con hv6 (s7 _ (.head _)) (ks:=[]) True.intro⟩
    obtain ⟨tw,hmt,hrw⟩:=hm
    refine joinF (fun d:D621=>S621a h nb fa bl pl it io (listO p.1 n.2) (listO b.1 n.1) no M0 (.int most tm) (.str z tz) (some d.1) u2.2 d.2.2.1 d.2.2.2) (F621a I7) (fun _ J9=>?A) fun d hd=>?B
    case A=>
      refine fun t6=>H.drop .head (mixH (Mf:=fun o=>(it,io) :: (pl,listO p.1 n.2) :: (bl,listO b.1 n.1) :: Mh nb h no M0 o) hh2 rfl (fun _ _=>.tail (.tail (.tail (.tail .head)))) (by decide) (rm hx rfl) fun o3 g3 tg3 hh3 hg3 t7=>cnd
        (fun _ tv a4 tK2 tv2=>H.freeze .head (new52 (rm hx rfl) fun v7 I8 s8 hv7 tu3=>new52 (rm hx rfl) fun v8 I9 s9 hv8 a5=>H.freeze .head (new252 (rm hx rfl) fun v9 I10 s10 hv9=>new176 (rm hx rfl) fun v10 I11 s11 hv10=>?lam)))
        fun _=>J9.jf (w,tw,o3,I7) ⟨hmt,hrw,Sub.refl,hh3⟩)
      have s811:=s8.trans (s9.trans (Sub.one.trans (s10.trans s11)))
      have r9:Rep I10 (tKvu sv) (.ref v9):=.con hv9 (s10 _ (.head _)) ⟨(Rep.var hv7).mono (s9.trans (Sub.one.trans s10)),(Rep.var hv8).mono (Sub.one.trans s10),True.intro⟩
      exact J9.jf (.ref v10,tLam sv,o3,I11) ⟨.lam,.lam hv10 (s811 _ (.head _)) (r9.mono s11),Sub.one.trans s811,hh3⟩
    case B=>
      have hll:(xy.take i).length = ts.length:=hL.2.2.1.len.2.symm.trans hL.2.2.2.1.len.symm
      have s1d:=s17.trans hd.2.2.1
      refine mAppend (.inl (.tail _ (.tail _ (.head _)))) fun r=>appendH (.tail (.tail .head)) ?zb fun t8=>mixH (Mf:=fun o=>(it,io) :: (pl,listO p.1 n.2) :: (bl,listO (b.1 ++ [.ref r]) (n.1 + 1)) :: Mh nb h no M0 o) hd.2.2.2 rfl (fun _ _=>.tail (.tail (.tail (.tail .head)))) (by decide) (rm hx rfl) fun o4 g4 tg4 hh4 hg4=>int_e (m:=2) hg4 fun c hc hc2=>rangeH1 fun rg ro hrg=>
        forH5 (S621b h nb fa bl pl it io (listO (b.1 ++ [.ref r]) (n.1 + 1)) no M0 (.int most tm) (.str z tz) d.1 none) (F621b ((r,tupO [.str z tz,d.1] 0) :: d.2.2.2) (xy.take (i + 1)) (mL (xy.take (i + 1)) (ts ++ [d.2.1])) p.2.length) (o4,n.2,p,_,u2.2) (itRange0 (n:=c) (hc ▸ hrg) (Nat.le_trans hc2 (by decide))) rfl ⟨hh4,Sub.refl,hL.2.2.2.2.2.1.mono (s1d.trans Sub.one),pieces_next hL.2.2.2.2.2.2.1 hz hll,Nat.le_refl _⟩ (fun _ _ _ _ _ _ _=>srcTrue)
          (fun j yj o5 n5 p5 I12 u5 it2 io2 hj hXj h5 _ V9=>?turn) fun o5 n5 p5 I12 u5 h5=>?after
      case zb=>rw [hL.2.2.1.len.1,List.length_take]; exact Nat.le_trans (Nat.min_le_right i 2) (by decide)
      case turn=>
        obtain ⟨tj,rfl⟩:=hXj
        refine mAppend (.inl (.tail _ (.tail _ (.head _)))) (joinV (fun d:D621=>d.1) (S621c h nb fa bl pl it it2 io io2 (listO p5.1 n5) (listO (b.1 ++ [.ref r]) (n.1 + 1)) no M0 (.int most tm) (.str z tz) d.1 (.int j tj)) (F621c I12 (xy.take (i + 1)) (mL (xy.take (i + 1)) (ts ++ [d.2.1])))
          (fun _ J9 t9=>mixH (Mf:=fun o=>(it2,io2) :: (it,io) :: (pl,listO p5.1 n5) :: (bl,listO (b.1 ++ [.ref r]) (n.1 + 1)) :: Mh nb h no M0 o) h5.1 rfl (fun _ _=>.tail (.tail (.tail (.tail (.tail .head))))) (by decide) (rm hx rfl) fun o6 g6 tg6 hh6 hg6 t10=>cnd
            (fun _ tu9 a6 tK3 tu10=>H.freeze .head (new52 (rm hx rfl) fun v1 I13 s13 hv1=>new52 (rm hx rfl) fun v2 I14 s14 hv2 a7=>H.freeze .head (new252 (rm hx rfl) fun v3 I15 s15 hv3=>new176 (rm hx rfl) fun v4 I16 s16 hv4=>?fn)))
            fun _=>new52 (rm hx rfl) fun v1 I13 s13 hv1=>?vr)
          fun d2 hd2=>appendH (.tail (.tail .head)) ?zp (V9.tnext (d2.2.2.1,n5 + 1,(p5.1 ++ [d2.1],p5.2 ++ [d2.2.1]),d2.2.2.2,some (.int j tj)) ⟨hd2.2.2.2,h5.2.1.trans hd2.2.2.1,(h5.2.2.1.mono hd2.2.2.1).snoc hd2.2.1,all_snoc h5.2.2.2.1 hd2.1,?lp⟩ Le.refl))
        case fn=>
          have s1316:=s13.trans (s14.trans (Sub.one.trans (s15.trans s16)))
          exact J9.jv (.ref v4,.node (.lam su) [.node (.con (Str.ofString "K")) [tV su,tV z]],o6,I16) ⟨.fn z (mem_new hz),.lam hv4 (s1316 _ (.head _)) (Rep.mono s16 (.con hv3 (s15 _ (.head _)) ⟨(Rep.var hv1).mono (s14.trans (Sub.one.trans s15)),(Rep.var hv2).mono (Sub.one.trans s15),True.intro⟩)),Sub.one.trans s1316,hh6⟩
        case vr=>exact J9.jv (.ref v1,tV z,o6,I13) ⟨.var z (mem_new hz),.var hv1,s13,hh6⟩
        case zp=>
          exact Nat.le_trans (Nat.le_of_eq h5.2.2.1.len.symm) (Nat.le_trans h5.2.2.2.2 (Nat.le_trans (Nat.add_le_add (Nat.le_trans hL.2.2.2.2.2.2.2 (Nat.mul_le_mul_left 3 (Nat.le_of_lt hi))) (Nat.le_trans (Nat.le_of_lt hj) hc2)) (show 3 * 2 + 2 ≤ 10000000 by decide)))
        case lp=>rw [List.length_append]; exact Nat.succ_le_succ h5.2.2.2.2
      case after=>
        have hra:=(hd.2.1.mono Sub.one).mono h5.2.1
        have hB':=hL.2.2.1.grow (t:=tz) (v:=d.1) (s1d.trans (Sub.one (p:=(r,tupO [.str z tz,d.1] 0)))) hz ⟨r,0,rfl,.head _⟩
        have hT':=(hL.2.2.2.1.mono (s1d.trans (Sub.one (p:=(r,tupO [.str z tz,d.1] 0))))).snoc (hd.2.1.mono Sub.one)
        have hm':=all_snoc hL.2.2.2.2.1 hd.1
        have hs':=hL.2.1.trans (s1d.trans (Sub.one (p:=(r,tupO [.str z tz,d.1] 0))))
        have hlen:p5.2.length ≤ 3 * i + 2:=Nat.le_trans h5.2.2.2.2 (Nat.add_le_add hL.2.2.2.2.2.2.2 hc2)
        refine isiLm hra (cnd (fun h1 t9=>mixH (Mf:=fun o=>(it,io) :: (pl,listO p5.1 n5) :: (bl,listO (b.1 ++ [.ref r]) (n.1 + 1)) :: Mh nb h no M0 o) h5.1 rfl (fun _ _=>.tail (.tail (.tail (.tail .head)))) (by decide) (rm hx rfl) fun o6 g6 tg6 hh6 hg6 t10=>cnd
            (fun _=>mAppend (.inl (.tail _ (.head _))) (new52 (rm hx rfl) fun v1 I13 s13 hv1 tu9=>new52 (rm hx rfl) fun v2 I14 s14 hv2 a8=>H.freeze .head (new134 (rm hx rfl) fun v3 I15 s15 hv3=>appendH (.tail .head) ?za ?app)))
            fun _=>V9.tnext (o6,(n.1 + 1,n5),(b.1 ++ [.ref r],b.2 ++ [d.1]),p5,ts ++ [d.2.1],I12,some (.str z tz),(some d.1,u5)) ⟨hh6,hs'.trans h5.2.1,hB'.mono h5.2.1,hT'.mono h5.2.1,hm',h5.2.2.1,h5.2.2.2.1,?l1⟩ Le.refl)
          fun _=>V9.tnext (o5,(n.1 + 1,n5),(b.1 ++ [.ref r],b.2 ++ [d.1]),p5,ts ++ [d.2.1],I12,some (.str z tz),(some d.1,u5)) ⟨h5.1,hs'.trans h5.2.1,hB'.mono h5.2.1,hT'.mono h5.2.1,hm',h5.2.2.1,h5.2.2.2.1,?l2⟩ Le.refl)
        case za=>exact Nat.le_trans (Nat.le_of_eq h5.2.2.1.len.symm) (Nat.le_trans hlen (Nat.le_trans (Nat.add_le_add_right (Nat.mul_le_mul_left 3 (Nat.le_of_lt hi)) 2) (show 3 * 2 + 2 ≤ 10000000 by decide)))
        case l1=>exact Nat.le_trans hlen (Nat.le_succ _)
        case l2=>exact Nat.le_trans hlen (Nat.le_succ _)
        case app=>
          have s135:=s13.trans (s14.trans (Sub.one.trans s15))
          exact V9.tnext (o6,(n.1 + 1,n5 + 1),(b.1 ++ [.ref r],b.2 ++ [d.1]),(p5.1 ++ [.ref v3],p5.2 ++ [.node .app [tV z,tV su]]),ts ++ [d.2.1],I15,some (.str z tz),(some d.1,u5)) ⟨hh6,(hs'.trans h5.2.1).trans s135,(hB'.mono h5.2.1).mono s135,(hT'.mono h5.2.1).mono s135,hm',(h5.2.2.1.mono s135).snoc (Rep.app2 (ts:=[tV su]) hv3 (s15 _ (.head _)) ((Rep.var hv1).mono (s14.trans (Sub.one.trans s15))) ⟨(Rep.var hv2).mono (Sub.one.trans s15),True.intro⟩),all_snoc h5.2.2.2.1 (.app z (mem_new hz) (by rw [mL_new hz hll]; exact h1)),by rw [List.length_append]; exact Nat.succ_le_succ hlen⟩ Le.refl
  case rest=>
    obtain ⟨hh1,hs1,hB,hT,hmt,hP,hk,hkl⟩:=hL
    refine inl_e hB hT hmt hk fun mx my hT hmx hmy hk=>fun tT=>H.freeze .head (H.freeze .head (new252 (rm hx rfl) fun v3 I3 s3 hv3=>new212 (rm hx rfl) fun ev I4 s4 hev=>?told))
    have s34:=s3.trans s4
    have s14:=Sub.one.cons.trans s34
    have hbl:=s34 _ (.head _)
    have rT:Rep I4 (tTs p.2) (.ref v3):=Rep.mono s4 (.con hv3 (s3 _ (.tail _ (.head _))) (hP.mono (Sub.one.cons.trans s3)))
    have hB4:=hB.mono s14
    have hT4:=hT.mono s14
    have L:LetV I4 (.ref ev) xy false bl v3 b.1 b.2:=⟨hev,⟨n.1,hbl⟩,hB4⟩
    have rE:Rep I4 (tInl mx my p.2) (.ref ev):=let_new L hT4 rT
    have hb2:b.1.length = 2:=hB.len.1
    have hs0:Sub I I4:=fun z hz=>s14 z (hs1 z (.tail _ (.tail _ hz)))
    refine inl2H rE hmx hmy hk hkl ⟨_,rfl⟩ (hf.mono hs0) hn rfl mn2 (rm hx rfl) fun tv tt w no2 I5 s5 htold t9 T2=>forH8 (S621k h fa bl pl ev tv (.int most tm) u2.2 (Mn nb h o M0 no2)) (F621k ((T2,tupO [.ref tv,.int 0 t9] 0) :: I5) w) (_,(0,t9),u1,u2.1,none,none,none,none) (itList (.inr (.tail _ (s5 _ hbl)))) rfl ⟨Sub.refl,rfl⟩ (fun i _ _ _ _ _ _ _ _ h7=>srcL (.inr (h7.1 _ (.tail _ (s5 _ hbl)))))
      (fun i y I7 tc u3 u4 u5 u6 u7 u8 it io hi hX h7 _ V9=>asgB hB4 hX (s5.trans (Sub.one.trans h7.1)) fun z tz bv hz hb=>rep_i hT4 hb fun ta hta hrep=>?turn2) fun I7 tc u3 u4 u5 u6 u7 u8 h7=>?fin
    case turn2=>
      have s47:=s5.trans (Sub.one.trans h7.1)
      have hwz:=takW htold.1 hmx hmy hk hmost hz hta
      obtain ⟨th,tks⟩:=ta
      obtain ⟨taws,rH,rK⟩:=id hrep
      refine getF (L.mono s47).body g212_body (usesH 40 (rT.mono s47) (tTs_size hk hkl) (by decide) (rm hx rfl) fun ul un I8 s8=>H.freeze (p:=(ul,usesO z p.2 un)) .head (isiH (rH.mono (s47.trans (s8.trans Sub.one))) rfl fun T3=>?at_))
      have s4u:Sub I4 ((ul,usesO z p.2 un) :: I8):=s47.trans (s8.trans Sub.one)
      have hlen:((usesL z (tTs p.2) false).map Value.bool).length ≤ 10000000:=by
        rw [List.length_map]
        exact Nat.le_trans (usesL_len (x:=z) 40 (tTs p.2) false (tTs_size hk hkl)) (Nat.le_trans (tTs_size hk hkl) (by decide))
      refine joinV (fun _:Led=>.bool (atomT (.node th tks))) (S621t h fa bl pl ev tv (.int most tm) (.str z tz) bv u2.2 (.int tc.1 tc.2) ul (clsOf th == 176) u7 u8 ((it,io) :: Mn nb h o M0 no2)) (Sub ((ul,usesO z p.2 un) :: I8))
        (fun _ J9 T4=>isi2H (rH.mono (s4u.trans Sub.one.cons)) rfl rfl (.head _) (cnd (fun h1=>J9.jvE _ Sub.one.cons (congrArg Value.bool (atom1 h1))) fun h1=>isiH (rH.mono (s4u.trans Sub.one.cons)) rfl (cnd (fun h2=>rH.con_e h2 fun la ln hf hm=>getF (hf.mono (s4u.trans Sub.one.cons)) g252_args fun r3=>eqL0D (.inr ((s4u.trans Sub.one.cons) _ hm)) (J9.jvE _ Sub.one.cons (congrArg Value.bool (atom2 h2 rK.len)))) fun h2=>J9.jvE _ Sub.one.cons (congrArg Value.bool (atom3 h1 h2))))) fun I9 s9=>
        joinV (fun _:Unit=>.bool (onceB z p.2 (clsOf th == 176))) (fun _=>S621t h fa bl pl ev tv (.int most tm) (.str z tz) bv u2.2 (.int tc.1 tc.2) ul (clsOf th == 176) (some (.bool (atomT (.node th tks)))) u8 ((it,io) :: Mn nb h o M0 no2) I9) (fun _=>True)
          (fun _ J9=>lenH (.inr (s9 _ (.head _))) hlen fun t5 t6=>cnd (fun h1=>once_e h1 fun b0 e0=>cnd (fun h2=>J9.jvE () trivial (once2 e0 h2)) fun h2 r4=>eqB1D (.inr (usesO1 e0 ▸ s9 _ (.head _))) (J9.jvE () trivial (once3 e0 h2))) fun h1=>J9.jvE () trivial (once1 h1)) fun _ _=>?B2
      have s79:Sub I7 I9:=s8.trans (Sub.one.trans s9)
      have hend:∀ {v:Bool} (t8:Tok),v = w z→F621k ((T2,tupO [.ref tv,.int 0 t9] 0) :: I5) w (i + 1) (I9,(tc.1 + (if (!v) = true then 1 else 0),t8),some (.str z tz),some bv,some (.ref ul),some (.bool (clsOf th == 176)),some (.bool (atomT (.node th tks))),some (.bool (onceB z p.2 (clsOf th == 176)))):=fun t8 e=>⟨h7.1.trans s79,cntN h7.2 hz e⟩
      exact cnd (fun h1=>notH (intBH fun t7 t8=>V9.tnext _ (hend t8 (or1 hwz h1)) Le.refl)) fun h1=>cnd (fun h2=>notH (intBH fun t7 t8=>V9.tnext _ (hend t8 (or2 hwz h1 h2)) Le.refl)) fun h2=>cnd (fun h3 tk4=>notH (intBH fun t7 t8=>V9.tnext _ (hend t8 (or3 hwz h1 h2 h3)) Le.refl)) fun h3=>notH (intBH fun t7 t8=>V9.tnext _ (hend t8 (or4 hwz h1 h2 h3)) Le.refl)
    case fin=>
      have s57:Sub I5 I7:=Sub.one.trans h7.1
      have rTo:=htold.2.1.mono s57
      refine joinV (fun m:Int × Tok=>.int m.1 m.2) (fun _=>S621k h fa bl pl ev tv (.int most tm) u2.2 (Mn nb h o M0 no2) 2 (I7,tc,u3,u4,u5,u6,u7,u8)) (fun m=>m.1 = (cntW w 2:Nat))
        (fun _ J9=>isiL rTo (cnd (fun hb=>toldI_let htold hb fun qs l b' ps bs n' L2 hl2 hp2=>getF (L2.mono s57).binds g212_binds (lenH (.inr (s57 _ hl2)) (hp2 ▸ cntW_le) fun t5=>J9.jv (_,t5) (congrArg Int.ofNat hp2))) fun hb t5=>J9.jv (0,t5) (toldI_no htold hb))) fun m hm=>?last
      exact cndT (beq_iff_eq.mpr (hm.trans (hb2 ▸ h7.2).symm)) (sameH (rE.mono (s5.trans s57)) rTo htold.2.2.1 (Nat.le_refl _) (rm hx rfl) fun I8 s8=>retI (q _ _))
end
end
section
section
variable {e:E0} {x:Ctx e}
theorem law_walk {l:Addr} {xs:List Value} {zs:List Int} (hl:e.H0.IsList l xs.toArray) (hz:IntsAre xs zs) (hx:100 ≤ x.c.room):r628.vc x [] ⟨[some (.ref l),none,none,none],[],[]⟩ (fun f _=>f = .ret (.bool true)):=by
  refine handH hl hz (rm hx rfl) fun h ho hh t1 t2 t3 t4 t5 a=>H.freeze .head (freshH ⟨a,0,rfl,.head _⟩ (.cons _ _ (.cons _ _ (.cons _ _ (.cons _ _ (.cons _ _ .nil))))) (by decide) (fun y hy=>Nat.le_of_eq (len1 hy)) (rm hx rfl) fun fa nb no I1 s1 hf hn T t6=>mixH (Mf:=fun o=>(nb,no) :: (h,o) :: []) hh rfl (fun _ _=>.tail .head) (by decide) (rm hx rfl) fun o1 f tf hh1 hf1 t7=>?_)
  have hf:=hf.mono (Sub.one (p:=(T,tupO [.ref h,.ref fa] 0)))
  exact cnd (fun _=>right_let_of_letH (M0:=[]) rfl hh1 hf hn (rm hx rfl) fun _ _=>rfl) fun _ t8=>cnd (fun _=>H.drop .head (right_partedH (M0:=[]) rfl hh1 (rm hx rfl) fun _ _=>rfl)) fun _ t9=>cnd (fun _=>right_argsH (M0:=[]) rfl hh1 hf hn (rm hx rfl) fun _ _=>rfl) fun _ ta=>cnd (fun _=>H.drop .head (right_plainH (M0:=[]) rfl hh1 (rm hx rfl) fun _ _=>rfl)) fun _ tb=>cnd (fun _=>H.drop .head (right_deadH (M0:=[]) rfl hh1 (rm hx rfl) fun _ _=>rfl)) fun _=>right_inlinedH (M0:=[]) rfl hh1 hf hn (rm hx rfl) fun _ _=>rfl
end
end
section
theorem law_frame {K:Frag} {p:Program} {prog:Program} {w:World} {s₁:Shared} {loose:List Str} {mean:ExcName→Option Value} {mg mb:Str→Option Value} {a fa:Addr} {vs:List Value} {ns:List Int} {h₁:Heap} {t:Nat} {name:Str} {scope:Scope} {cd:Value} {body:List Stmt}
    {c:ClaimW} {cl:Str→Option Addr} {mean2:ExcName→Option Value} {args:List WData} {E:Value→Shared→Prop} {m:Str→Option Value} (kf:KF K)
    (KX:K.In s₁.heap) (T:Top p loose mean mg mb s₁.heap) (hL:s₁.heap.IsList a vs.toArray) (hI:IntsAre vs ns) (F:Fr s₁.heap s₁.heap.objs.size h₁ m) (hm:m (Str.ofString "script") = some (.ref a)) (hg:s₁.gens = #[])
    (hb:r628.asts = body) (hsc:(scopeOk scope m628.ns ((gsOf m628.gi).map (·.1)) ["script"] && m628.ns.all fun x=>scope.names.lookup x == some .local) = true) (hr:∀ cls,c.raises args cls = false) (hp:c.post args (.bool true) args = true) :
    wpAny (model prog w) (callerA.deeper (envOf name scope s₁.heap.objs.size fa cd)) (execs body (envOf name scope s₁.heap.objs.size fa cd))
      (fun f s'=>GoodW c cl mean2 args s₁ (.ok (.ret (match f with | .ret v=>v | _=>.none))) s') E { heap:=h₁,gens:=s₁.gens,drawn:=s₁.drawn,toks:=t,os:=s₁.os }:=by
  obtain ⟨hsc,hloc⟩:=Bool.and_eq_true_iff.mp hsc
  have hloc:∀ x ∈ m628.ns,scope.names.lookup x = some .local:=fun x hx=>eq_of_beq (List.all_eq_true.mp hloc x hx)
  obtain ⟨hk,hco,hgen,hnn,hbn,hns1,hgs1,hbs1,hcn⟩:=scopeOk_is hsc
  let e:E0:=⟨prog,w,K,kf,s₁.heap,s₁,p,loose,mean,mg,mb⟩
  let cx:Cx:=⟨callerA.deeper (envOf name scope s₁.heap.objs.size fa cd),s₁.heap.objs.size,envOf name scope s₁.heap.objs.size fa cd,[],[],100⟩
  have ok:CxOk e cx m628.ns (gsOf m628.gi):=by
    refine ⟨⟨KX,T⟩,hk,rfl,rfl,rfl,fun y hy=>.inl (hloc y hy),hnn,fun y hy=>⟨(hns1 y hy).1.2,(hns1 y hy).2⟩,List.nodup_nil,fun x a q=>(by cases q),fun p hp=>?_,?_,?_,rfl⟩
    · have:=hgs1 p.1 (List.mem_map_of_mem hp)
      exact ⟨this.1,this.2,gsOf_gl p hp⟩
    · show callerA.depth + 1 + 100 < recursionLimit
      decide
    · show callerA.units + 3 + 8 * 100 < cLine
      decide
  have hs:St e cx m628.ns [some (.ref a),none,none,none] [] [] { heap:=h₁,gens:=s₁.gens,drawn:=s₁.drawn,toks:=t,os:=s₁.os }:=by
    refine ⟨⟨m,fun _=>none,[],F,.nil,fun p hp=>(by cases hp),List.nodup_nil,fun x v hx=>?_⟩,rfl,rfl,rfl⟩
    have h:=List.mem_singleton.mp (atN_binds (binds:=[("script",.ref a)]) (xs:=["hand", "fresh", "form"]) hx)
    cases h
    exact .inl ⟨hloc _ (.head _),hm⟩
  let x:Ctx e:=⟨cx,m628.ns,gsOf m628.gi,ok⟩
  have FT:Fits x [] m628:=⟨rfl,rfl,fun i y v hy hv=>(by cases hv),fun i y b hy hb=>?_,rfl⟩
  · have hrun:=r628.ok FT (law_walk (x:=x) hL hI (Nat.le_refl _))
    rw [hb] at hrun
    refine wpAny_mono (hrun.run _ hs) (fun f s' h=>?_) fun _ _ x=>x.elim
    obtain ⟨st,hs',rfl⟩:=h
    exact ⟨.inl ⟨_,_,[],rfl,hr,ReadsW.bool true,hp,fun _=>⟨List.nodup_nil,fun _ q=>(by cases q)⟩⟩,hs'.keep,hs'.os,hs'.gens.trans hg⟩
  · have h1:=hloc y (List.mem_of_getElem? hy)
    have h2:b = false:=by
      have:=List.mem_of_getElem? hb
      simpa [m628] using this
    subst h2
    exact h1
end
section
section
variable {K:Frag} {C D f:Addr} {n:Str} {v:Value}
theorem allN {α:Type} {P:α→Prop}:∀ p ∈ ([]:List α),P p:=fun _ h=>nomatch h
theorem allC {α:Type} {P:α→Prop} {a:α} {l:List α} (h:P a) (t:∀ p ∈ l,P p):∀ p ∈ a :: l,P p:=fun p hp=>by
  cases hp with
  | head=>exact h
  | tail _ hp=>exact t p hp
theorem getC {l:List (Addr × Str)} (h1:plainGet K C n = true) (h2:hasDictIn K C = true) (h3:findIn K (.ref C) n = some none) (t:∀ p ∈ l,ClsGet K p.1 p.2):∀ p ∈ (C,n) :: l,ClsGet K p.1 p.2:=allC ⟨h1,h2,none,h3,rfl⟩ t
theorem setC {l:List (Addr × Str)} (h1:findIn K (.ref C) "__setattr__" = some (some (.builtin "object.__setattr__"))) (h2:plainOver K C = true) (h3:takerIn K C n = some none) (h4:hasDictIn K C = true) (t:∀ p ∈ l,ClsSet K p.1 p.2):∀ p ∈ (C,n) :: l,ClsSet K p.1 p.2:=allC ⟨h1,h2,h3,h4⟩ t
theorem methC {l:List (Addr × Str × Addr)} (h1:plainGet K C n = true) (h2:findIn K (.ref C) n = some (some (.ref f))) (h3:isFn K (.ref f) = true) (t:∀ p ∈ l,ClsMeth K p.1 p.2.1 p.2.2):∀ p ∈ (C,n,f) :: l,ClsMeth K p.1 p.2.1 p.2.2:=allC ⟨h1,h2,h3⟩ t
theorem makeC {l:List (Addr × Addr)} (h1:makesIn K C = true) (h2:findIn K (.ref C) "__init__" = some (some (.ref f))) (h3:isFn K (.ref f) = true) (t:∀ p ∈ l,ClsMake K p.1 p.2):∀ p ∈ (C,f) :: l,ClsMake K p.1 p.2:=allC ⟨h1,h2,h3⟩ t
theorem isC {l:List Addr} (h1:plainGet K D "__class__" = true) (h2:hasDictIn K D = true) (h3:findIn K (.ref D) "__class__" = some (some (.builtin "object.__class__"))) (h4:specialIn K (.builtin "object.__class__") "__get__" = some (some (.builtin "getset_descriptor.__get__"))) (h5:takesIn K (.builtin "object.__class__") = some true) (h6:mroIn K D (.type "object") = some true) (t:∀ a ∈ l,ClsIs K a):∀ a ∈ D :: l,ClsIs K a:=allC ⟨h1,h2,h3,h4,h5,h6⟩ t
theorem kitC {l:List Addr} {r:Bool} (h:kitOne K (.ref C) (.ref D) = some r) (e:r = (C == D)) (t:∀ b ∈ l,kitOne K (.ref C) (.ref b) = some (C == b)):∀ b ∈ D :: l,kitOne K (.ref C) (.ref b) = some (C == b):=allC (h.trans (congrArg some e)) t
theorem kitR {l m:List Addr} (h:∀ b ∈ m,kitOne K (.ref C) (.ref b) = some (C == b)) (t:∀ a ∈ l,∀ b ∈ m,kitOne K (.ref a) (.ref b) = some (a == b)):∀ a ∈ C :: l,∀ b ∈ m,kitOne K (.ref a) (.ref b) = some (a == b):=allC h t
theorem glC {l:List (Str × Value)} (h:nsIn K mainGlobals n = some (some v)) (t:∀ p ∈ l,GlK K p):∀ p ∈ (n,v) :: l,GlK K p:=allC (.inl h) t
theorem glB {l:List (Str × Value)} (h:nsIn K mainGlobals n = some none) (h2:bootBuiltins n = some v) (h3:n ≠ "__name__") (t:∀ p ∈ l,GlK K p):∀ p ∈ (n,v) :: l,GlK K p:=allC (.inr ⟨h,h2,h3⟩) t
theorem kpC {l:List Addr} (h:keepIn K (.ref C) = true) (t:∀ a ∈ l,keepIn K (.ref a) = true):∀ a ∈ C :: l,keepIn K (.ref a) = true:=allC h t
theorem fnC {l:List (Addr × Nat × Nat × Value)} {i j:Nat} {d:Value} {qual:Str} {md tk cd} (h:K.lookup C = some ⟨.type "function",none,.func (fnOf (fd i j).1 qual (fd i j).2.1 (fd i j).2.2.1 (fd i j).2.2.2 d .none .none (.str md tk) none (.ref cd) .none),#[]⟩) (h2:codeIn K (.ref cd) qual = true) (t:∀ p ∈ l,FnP K p.1 p.2.1 p.2.2.1 p.2.2.2):∀ p ∈ (C,i,j,d) :: l,FnP K p.1 p.2.1 p.2.2.1 p.2.2.2:=allC ⟨qual,md,tk,cd,h,h2⟩ t
end
end
section
set_option Elab.async true
theorem top.tw5382117526941449286:True:=trivial
theorem top.tw4950773636223694815:True:=trivial
theorem top.tw10377078122120030774:True:=trivial
theorem top.tw9121710633936205964:True:=trivial
theorem top.tw16541100652227675460:True:=trivial
theorem top.tw2792943032503483283:True:=trivial
theorem top.tw16832052283712560449:True:=trivial
theorem top.tw513902232445383129:True:=trivial
theorem top.tw18064794426631996164:True:=trivial
theorem top.tw17302394884781189498:True:=trivial
theorem top.tw5724797396398055869:True:=trivial
theorem top.tw14871320189489406401:True:=trivial
theorem top.tw5524087456088295120:True:=trivial
theorem top.tw5422964541831752634:True:=trivial
theorem top.tw13633771914396775234:True:=trivial
theorem top.tw7829887443442302667:True:=trivial
theorem top.tw15933589322577518668:True:=trivial
theorem top.tw1560710679628690785:True:=trivial
theorem top.tw3768957769849046624:True:=trivial
theorem top.tw3479634599624807885:True:=trivial
theorem top.tw3820434133910038737:True:=trivial
theorem top.tw15542334942015070624:True:=trivial
theorem top.tw8974921116410688616:True:=trivial
theorem top.tw9685713192446186341:True:=trivial
theorem top.tw2727672472851901052:True:=trivial
theorem top.tw10579768621468169598:True:=trivial
theorem top.tw13305523845174962083:True:=trivial
theorem top.tw5648408011753718230:True:=trivial
theorem top.tw16736118626332596326:True:=trivial
theorem top.tw18263738799287584448:True:=trivial
theorem top.tw9250929264650014679:True:=trivial
theorem top.tw17576949682797635024:True:=trivial
theorem top.tw672699306608606093:True:=trivial
theorem top.tw10484538523117445312:True:=trivial
theorem top.tw6659320528611288953:True:=trivial
theorem top.tw4916261283513009128:True:=trivial
theorem top.tw350670483859837877:True:=trivial
theorem top.tw9233335307524088747:True:=trivial
theorem top.tw6624316729101989866:True:=trivial
theorem top.tw146815374380898660:True:=trivial
theorem top.tw1988063486488863061:True:=trivial
theorem top.tw15451780782824253742:True:=trivial
theorem top.tw15212760480394562756:True:=trivial
theorem top.tw3186775038225222150:True:=trivial
theorem top.tw18177719399980262173:True:=trivial
theorem top.tw18257218023933744409:True:=trivial
theorem top.tw6487610083215253720:True:=trivial
theorem top.tw6662652255960138227:True:=trivial
theorem top.tw16719718919923625709:True:=trivial
theorem top.tw12117888159696746259:True:=trivial
theorem top.tw1584292188352093569:True:=trivial
theorem top.tw13987285891283452908:True:=trivial
theorem top.tw8410488445778877200:True:=trivial
theorem top.tw17474498911051797155:True:=trivial
theorem top.tw3261557481417251176:True:=trivial
theorem top.tw3422688185749166683:True:=trivial
theorem top.tw2220570432770164149:True:=trivial
theorem top.tw1601500998369573665:True:=trivial
theorem top.tw15245507539482535896:True:=trivial
theorem top.tw8237333600419904120:True:=trivial
theorem top.tw9919435345466941130:True:=trivial
theorem top.tw17542608870123051758:True:=trivial
theorem top.tw17953984050398360512:True:=trivial
theorem top.tw8560541052185303311:True:=trivial
theorem top.tw8311017846404947139:True:=trivial
theorem top.tw7743179893348639699:True:=trivial
theorem top.tw2417791160451022400:True:=trivial
theorem top.tw4835499133494076262:True:=trivial
theorem top.tw4526881389914513428:True:=trivial
theorem top.tw16800595933775061595:True:=trivial
theorem top.tw11199532085631943738:True:=trivial
theorem top.tw16900427199656544559:True:=trivial
theorem top.tw10574840078274726829:True:=trivial
theorem top.tw4940147422707163885:True:=trivial
theorem top.tw6885214360128481674:True:=trivial
theorem top.tw3712731000106771831:True:=trivial
theorem top.tw9195894827357321740:True:=trivial
theorem top.tw3874152929960365753:True:=trivial
theorem top.tw13968125046926948103:True:=trivial
theorem top.tw11141966352661209427:True:=trivial
theorem top.tw104434173382791472:True:=trivial
theorem top.tw4321519831107876412:True:=trivial
theorem top.tw6908635100366463001:True:=trivial
theorem top.tw1112988674713690477:True:=trivial
theorem top.tw14390669486469195807:True:=trivial
theorem top.tw297971269722091814:True:=trivial
theorem top.tw9233715247699887402:True:=trivial
theorem top.tw10703516329204539289:True:=trivial
theorem top.tw1321871150748368714:True:=trivial
theorem top.tw10448899703829047738:True:=trivial
theorem top.tw18164388396756303480:True:=trivial
theorem top.tw8281120267493503204:True:=trivial
theorem top.tw15874363893724204672:True:=trivial
theorem top.tw256736037520128854:True:=trivial
theorem top.tw16123964013534891561:True:=trivial
theorem top.tw10006222313960134694:True:=trivial
theorem top.tw3730354652608582461:True:=trivial
theorem top.tw2555065506035805374:True:=trivial
theorem top.tw9951221954081769418:True:=trivial
theorem top.tw11546936639936008217:True:=trivial
theorem top.tw3012798349882047937:True:=trivial
theorem top.tw14145802354927516647:True:=trivial
theorem top.tw1492452104121835379:True:=trivial
theorem top.tw17981982808018919739:True:=trivial
theorem top.tw12105128591322288922:True:=trivial
theorem top.tw5225916559131626549:True:=trivial
theorem top.tw5667650583090716360:True:=trivial
theorem top.tw2544169868661182894:True:=trivial
theorem top.tw1617357707322924660:True:=trivial
theorem top.tw13177472732611162249:True:=trivial
theorem top.tw1638113669730673903:True:=trivial
theorem top.tw9442318146202087700:True:=trivial
theorem top.tw1971433849790844608:True:=trivial
theorem top.tw12080426169559351053:True:=trivial
theorem top.tw6664487174759623829:True:=trivial
theorem top.tw6746510453823603384:True:=trivial
theorem top.tw11028086866134049853:True:=trivial
theorem top.tw4186445540838780016:True:=trivial
theorem top.tw1843344800811705456:True:=trivial
theorem top.tw6189502492464219833:True:=trivial
theorem top.tw8679839319945467846:True:=trivial
theorem top.tw216529984938456764:True:=trivial
theorem top.tw8735323631387419056:True:=trivial
theorem top.tw13994475860397038760:True:=trivial
theorem top.tw16713831800681072344:True:=trivial
theorem top.tw9305691244287143441:True:=trivial
theorem top.tw17355269125676882429:True:=trivial
theorem top.tw4840481374290595910:True:=trivial
theorem top.tw7830913209206220567:True:=trivial
theorem top.tw6883741973766446791:True:=trivial
theorem top.tw1886144042066472794:True:=trivial
theorem top.tw12425085872883035938:True:=trivial
theorem top.tw11279390925490393535:True:=trivial
theorem top.tw5523086135645875356:True:=trivial
theorem top.tw13326734554550294991:True:=trivial
theorem top.tw12392516345856041104:True:=trivial
theorem top.tw8523463495250067690:True:=trivial
theorem top.tw14657780768301432306:True:=trivial
theorem top.tw16044733080236030384:True:=trivial
theorem top.tw17103585973383926153:True:=trivial
theorem top.tw17022078359063049780:True:=trivial
theorem top.tw9227057690007400460:True:=trivial
theorem top.tw7600245330811189008:True:=trivial
theorem top.tw7855079511596107753:True:=trivial
theorem top.tw6919701780365589675:True:=trivial
theorem top.tw6370870915552960936:True:=trivial
theorem top.tw16782997733028217545:True:=trivial
theorem top.tw14608685727046917156:True:=trivial
theorem top.tw12318557346453588183:True:=trivial
theorem top.tw13896958669275611876:True:=trivial
theorem top.tw10996937224433265937:True:=trivial
theorem top.tw3696473221133414273:True:=trivial
theorem top.tw5868845118606482295:True:=trivial
theorem top.tw15361541807878343388:True:=trivial
theorem top.tw10001883323181062329:True:=trivial
theorem top.tw9382581127745807760:True:=trivial
theorem top.tw11542710104232473196:True:=trivial
theorem top.tw6520327441239513222:True:=trivial
theorem top.tw9614876229902214918:True:=trivial
theorem top.tw12415523145999629524:True:=trivial
theorem top.tw6042063481754889096:True:=trivial
theorem top.tw15362295582089109014:True:=trivial
theorem top.tw3767615275625035234:True:=trivial
theorem top.tw4177254973167742082:True:=trivial
theorem top.tw4498253355057717688:True:=trivial
theorem top.tw17089494485692210459:True:=trivial
theorem top.tw8729362747519067210:True:=trivial
theorem top.tw501154541418245514:True:=trivial
theorem top.tw17886615442053742456:True:=trivial
theorem top.tw1400011881503588481:True:=trivial
theorem top.tw13889309363888878346:True:=trivial
theorem top.tw13264354339760550358:True:=trivial
theorem top.tw7198060816514059695:True:=trivial
theorem top.tw6292954644110606532:True:=trivial
theorem top.tw11334350811105764591:True:=trivial
theorem top.tw13706816188851595723:True:=trivial
theorem top.tw795583310449317561:True:=trivial
theorem top.tw53344730913325255:True:=trivial
theorem top.tw4547018644641229820:True:=trivial
theorem top.tw2665807947273092163:True:=trivial
theorem top.tw10783980745131425670:True:=trivial
theorem top.tw10361075674979980167:True:=trivial
theorem top.tw6930518751129746686:True:=trivial
theorem top.tw5303079699428457377:True:=trivial
theorem top.tw15092371282622821202:True:=trivial
theorem top.tw14826035006057030972:True:=trivial
theorem top.tw7458633546980236471:True:=trivial
theorem top.tw8810280945414196856:True:=trivial
theorem top.tw2758071753971750899:True:=trivial
theorem top.tw16054190913257422852:True:=trivial
theorem top.tw10008474027749305400:True:=trivial
theorem top.tw4773702212245658779:True:=trivial
theorem top.tw8892184565913893157:True:=trivial
theorem top.tw5702910450625016506:True:=trivial
theorem top.tw6240723676877644813:True:=trivial
theorem top.tw8598144960395782539:True:=trivial
theorem top.tw12012865196380796599:True:=trivial
theorem top.tw6674990990233134667:True:=trivial
theorem top.tw1754339480302792767:True:=trivial
theorem top.tw10404823597219466188:True:=trivial
theorem top.tw775762912060472103:True:=trivial
theorem top.tw8507776931139520737:True:=trivial
theorem top.tw16104615914030681952:True:=trivial
theorem top.tw5118827330378232414:True:=trivial
theorem top.tw12643491718579748851:True:=trivial
theorem top.tw12718909917080609646:True:=trivial
theorem top.tw17810072253543177317:True:=trivial
theorem top.tw705360758644809490:True:=trivial
theorem top.tw4058662728301269685:True:=trivial
theorem top.tw13369591340354186047:True:=trivial
theorem top.tw8148004212497801138:True:=trivial
theorem top.tw8327351992414209593:True:=trivial
theorem top.tw283044589724301:True:=trivial
theorem top.tw7386116660499605909:True:=trivial
theorem top.tw12764151676501842404:True:=trivial
theorem top.tw814325599930780420:True:=trivial
theorem top.tw17565814175750979855:True:=trivial
theorem top.tw16759092144687519636:True:=trivial
theorem top.tw13120753694373217308:True:=trivial
theorem top.tw11334415319851112604:True:=trivial
theorem top.tw4134505453457115739:True:=trivial
theorem top.tw17470836177267949868:True:=trivial
theorem top.tw10773188271377071773:True:=trivial
theorem top.tw4796303294375832693:True:=trivial
theorem top.tw9962302188120564619:True:=trivial
theorem top.tw2464713573024523455:True:=trivial
theorem top.tw12094960947251128927:True:=trivial
theorem top.tw4331257952254489624:True:=trivial
theorem top.tw4655869559712951663:True:=trivial
theorem top.tw6333448901615975916:True:=trivial
theorem top.tw2506305409684761478:True:=trivial
theorem top.tw15286249088069653756:True:=trivial
theorem top.tw17620759639134147866:True:=trivial
theorem top.tw8321918168302905379:True:=trivial
theorem top.tw15860264024139754761:True:=trivial
theorem top.tw3995942328266245912:True:=trivial
theorem top.tw5225153198818245361:True:=trivial
theorem top.tw5155950481276406077:True:=trivial
theorem top.tw7715697345341360870:True:=trivial
theorem top.tw3254097082911018636:True:=trivial
theorem top.tw13822267516522204269:True:=trivial
theorem top.tw8043003576528973991:True:=trivial
theorem top.tw13290321428070320777:True:=trivial
theorem top.tw13001836021917841797:True:=trivial
theorem top.tw7297446738713254254:True:=trivial
theorem top.tw5476889619067714990:True:=trivial
theorem top.tw4571971715460732019:True:=trivial
theorem top.tw16580785732701462914:True:=trivial
theorem top.tw14987219478266130788:True:=trivial
theorem top.tw15569959144833144457:True:=trivial
theorem top.tw17219337458794519322:True:=trivial
theorem top.tw13345470168829271861:True:=trivial
theorem top.tw6812286434817487243:True:=trivial
theorem top.tw14399976873020721970:True:=trivial
theorem top.tw9335426496214029073:True:=trivial
theorem top.tw3120133295221510679:True:=trivial
theorem top.tw8265311939077410998:True:=trivial
theorem top.tw342308947776675178:True:=trivial
theorem top.tw2907113945770861938:True:=trivial
theorem top.tw12819366960792805191:True:=trivial
theorem top.tw1142415686869020238:True:=trivial
theorem top.tw7990429038631628895:True:=trivial
theorem top.tw5983031951866500094:True:=trivial
theorem top.tw9739860059890490050:True:=trivial
theorem top.tw9378254376102152143:True:=trivial
theorem top.tw8538268897159353584:True:=trivial
theorem top.tw7847650389618582240:True:=trivial
theorem top.tw4597200072644226624:True:=trivial
theorem top.tw18367679650794681301:True:=trivial
theorem top.tw15646934709686841381:True:=trivial
theorem top.tw9229161468869434483:True:=trivial
theorem top.tw8813761850579938390:True:=trivial
theorem top.tw8345894832289464959:True:=trivial
theorem top.tw6761616313442571491:True:=trivial
theorem top.tw5889316905344633881:True:=trivial
theorem top.tw5581607755468803823:True:=trivial
theorem top.tw5278709424875269971:True:=trivial
theorem top.tw4392038535549328194:True:=trivial
theorem top.tw4076138812419527698:True:=trivial
theorem top.tw18245740138792012028:True:=trivial
theorem top.tw17555251805378815213:True:=trivial
theorem top.tw16325430554902658873:True:=trivial
theorem top.tw16273406610938067001:True:=trivial
theorem top.tw16155163154822807229:True:=trivial
theorem top.tw14861896470697024400:True:=trivial
theorem top.tw14502225709538309166:True:=trivial
theorem top.tw13091174067606910046:True:=trivial
theorem top.tw12958502747184954254:True:=trivial
theorem top.tw12787338502077490372:True:=trivial
theorem top.tw12535971307161669396:True:=trivial
theorem top.tw12385144161495827662:True:=trivial
theorem top.tw11960245374511038805:True:=trivial
theorem top.tw11762496359356365647:True:=trivial
theorem top.tw11582926029173025856:True:=trivial
theorem top.tw11423202765487971197:True:=trivial
theorem top.tw10956490626425055710:True:=trivial
theorem top.tw10090393231696489298:True:=trivial
theorem top.tw5597187220613765494:True:=trivial
theorem top.tw15878805988109762761:True:=trivial
theorem top.tw9227541089923242437:True:=trivial
set_option maxRecDepth 100000 in
set_option maxHeartbeats 0 in
theorem top:PySem.Challenge.rw_og0025_01.Holds:=by
  w_on; o_law; k_head
  · w_witness2
  · w_strict (
      k_go0
      refine law_frame ?kf ‹Frag.In _ _› ‹Top _ _ _ _ _ _› ‹Heap.IsList _ _ _› ‹IntsAre _ _› ‹Fr _ _ _ _› rfl ‹_ = #[]› ?hb ?hsc (fun _=>rfl) ?hp
      case kf=>exact ⟨(getC (by k_is) (by k_is) (by k_is) (getC (by k_is) (by k_is) (by k_is) (getC (by k_is) (by k_is) (by k_is) (getC (by k_is) (by k_is) (by k_is) (getC (by k_is) (by k_is) (by k_is) (getC (by k_is) (by k_is) (by k_is) (getC (by k_is) (by k_is) (by k_is) (getC (by k_is) (by k_is) (by k_is) (getC (by k_is) (by k_is) (by k_is) (getC (by k_is) (by k_is) (by k_is) (getC (by k_is) (by k_is) (by k_is) (getC (by k_is) (by k_is) (by k_is) (getC (by k_is) (by k_is) (by k_is) (getC (by k_is) (by k_is) (by k_is) (getC (by k_is) (by k_is) (by k_is) (getC (by k_is) (by k_is) (by k_is) (getC (by k_is) (by k_is) (by k_is) (getC (by k_is) (by k_is) (by k_is) (getC (by k_is) (by k_is) (by k_is) (getC (by k_is) (by k_is) (by k_is) allN)))))))))))))))))))),
        (setC (by k_is) (by k_is) (by k_is) (by k_is) (setC (by k_is) (by k_is) (by k_is) (by k_is) (setC (by k_is) (by k_is) (by k_is) (by k_is) (setC (by k_is) (by k_is) (by k_is) (by k_is) (setC (by k_is) (by k_is) (by k_is) (by k_is) (setC (by k_is) (by k_is) (by k_is) (by k_is) (setC (by k_is) (by k_is) (by k_is) (by k_is) (setC (by k_is) (by k_is) (by k_is) (by k_is) (setC (by k_is) (by k_is) (by k_is) (by k_is) (setC (by k_is) (by k_is) (by k_is) (by k_is) (setC (by k_is) (by k_is) (by k_is) (by k_is) (setC (by k_is) (by k_is) (by k_is) (by k_is) (setC (by k_is) (by k_is) (by k_is) (by k_is) (setC (by k_is) (by k_is) (by k_is) (by k_is) (setC (by k_is) (by k_is) (by k_is) (by k_is) (setC (by k_is) (by k_is) (by k_is) (by k_is) (setC (by k_is) (by k_is) (by k_is) (by k_is) (setC (by k_is) (by k_is) (by k_is) (by k_is) (setC (by k_is) (by k_is) (by k_is) (by k_is) (setC (by k_is) (by k_is) (by k_is) (by k_is) allN)))))))))))))))))))),
        (methC (by k_is) (by k_is) (by k_is) (methC (by k_is) (by k_is) (by k_is) (methC (by k_is) (by k_is) (by k_is) (methC (by k_is) (by k_is) (by k_is) (methC (by k_is) (by k_is) (by k_is) (methC (by k_is) (by k_is) (by k_is) (methC (by k_is) (by k_is) (by k_is) (methC (by k_is) (by k_is) (by k_is) (methC (by k_is) (by k_is) (by k_is) (methC (by k_is) (by k_is) (by k_is) (methC (by k_is) (by k_is) (by k_is) (methC (by k_is) (by k_is) (by k_is) (methC (by k_is) (by k_is) (by k_is) (methC (by k_is) (by k_is) (by k_is) (methC (by k_is) (by k_is) (by k_is) (methC (by k_is) (by k_is) (by k_is) (methC (by k_is) (by k_is) (by k_is) (methC (by k_is) (by k_is) (by k_is) (methC (by k_is) (by k_is) (by k_is) (methC (by k_is) (by k_is) (by k_is) (methC (by k_is) (by k_is) (by k_is) (methC (by k_is) (by k_is) (by k_is) (methC (by k_is) (by k_is) (by k_is) (methC (by k_is) (by k_is) (by k_is) (methC (by k_is) (by k_is) (by k_is) (methC (by k_is) (by k_is) (by k_is) (methC (by k_is) (by k_is) (by k_is) (methC (by k_is) (by k_is) (by k_is) allN)))))))))))))))))))))))))))),
        (makeC (by k_is) (by k_is) (by k_is) (makeC (by k_is) (by k_is) (by k_is) (makeC (by k_is) (by k_is) (by k_is) (makeC (by k_is) (by k_is) (by k_is) (makeC (by k_is) (by k_is) (by k_is) (makeC (by k_is) (by k_is) (by k_is) (makeC (by k_is) (by k_is) (by k_is) (makeC (by k_is) (by k_is) (by k_is) (makeC (by k_is) (by k_is) (by k_is) (makeC (by k_is) (by k_is) (by k_is) allN)))))))))),
        (isC (by k_is) (by k_is) (by k_is) (by k_is) (by k_is) (by k_is) (isC (by k_is) (by k_is) (by k_is) (by k_is) (by k_is) (by k_is) (isC (by k_is) (by k_is) (by k_is) (by k_is) (by k_is) (by k_is) (isC (by k_is) (by k_is) (by k_is) (by k_is) (by k_is) (by k_is) (isC (by k_is) (by k_is) (by k_is) (by k_is) (by k_is) (by k_is) (isC (by k_is) (by k_is) (by k_is) (by k_is) (by k_is) (by k_is) (isC (by k_is) (by k_is) (by k_is) (by k_is) (by k_is) (by k_is) allN))))))),
        (kitR (kitC (by kit_is) rfl (kitC (by kit_is) rfl (kitC (by kit_is) rfl (kitC (by kit_is) rfl (kitC (by kit_is) rfl (kitC (by kit_is) rfl (kitC (by kit_is) rfl allN))))))) (kitR (kitC (by kit_is) rfl (kitC (by kit_is) rfl (kitC (by kit_is) rfl (kitC (by kit_is) rfl (kitC (by kit_is) rfl (kitC (by kit_is) rfl (kitC (by kit_is) rfl allN))))))) (kitR (kitC (by kit_is) rfl (kitC (by kit_is) rfl (kitC (by kit_is) rfl (kitC (by kit_is) rfl (kitC (by kit_is) rfl (kitC (by kit_is) rfl (kitC (by kit_is) rfl allN))))))) (kitR (kitC (by kit_is) rfl (kitC (by kit_is) rfl (kitC (by kit_is) rfl (kitC (by kit_is) rfl (kitC (by kit_is) rfl (kitC (by kit_is) rfl (kitC (by kit_is) rfl allN))))))) (kitR (kitC (by kit_is) rfl (kitC (by kit_is) rfl (kitC (by kit_is) rfl (kitC (by kit_is) rfl (kitC (by kit_is) rfl (kitC (by kit_is) rfl (kitC (by kit_is) rfl allN))))))) (kitR (kitC (by kit_is) rfl (kitC (by kit_is) rfl (kitC (by kit_is) rfl (kitC (by kit_is) rfl (kitC (by kit_is) rfl (kitC (by kit_is) rfl (kitC (by kit_is) rfl allN))))))) (kitR (kitC (by kit_is) rfl (kitC (by kit_is) rfl (kitC (by kit_is) rfl (kitC (by kit_is) rfl (kitC (by kit_is) rfl (kitC (by kit_is) rfl (kitC (by kit_is) rfl allN))))))) allN))))))),
        (glC (by k_is) (glC (by k_is) (glC (by k_is) (glC (by k_is) (glC (by k_is) (glC (by k_is) (glC (by k_is) (glC (by k_is) (glC (by k_is) (glC (by k_is) (glC (by k_is) (glC (by k_is) (glC (by k_is) (glC (by k_is) (glC (by k_is) (glC (by k_is) (glC (by k_is) (glC (by k_is) (glC (by k_is) (glC (by k_is) (glC (by k_is) (glC (by k_is) (glC (by k_is) (glC (by k_is) (glC (by k_is) (glC (by k_is) (glC (by k_is) (glC (by k_is) (glC (by k_is) (glC (by k_is) (glC (by k_is) (glC (by k_is) (glC (by k_is) (glC (by k_is) (glC (by k_is) (glC (by k_is) (glC (by k_is) (glC (by k_is) (glC (by k_is) (glC (by k_is) (glC (by k_is) (glC (by k_is) (glC (by k_is) (glB (by k_is) rfl (by decide) (glB (by k_is) rfl (by decide) (glB (by k_is) rfl (by decide) (glB (by k_is) rfl (by decide) (glB (by k_is) rfl (by decide) (glB (by k_is) rfl (by decide) (glB (by k_is) rfl (by decide) (glB (by k_is) rfl (by decide) (glB (by k_is) rfl (by decide) (glB (by k_is) rfl (by decide) (glB (by k_is) rfl (by decide) allN)))))))))))))))))))))))))))))))))))))))))))))))))))))),
        (kpC (by k_is) (kpC (by k_is) (kpC (by k_is) (kpC (by k_is) (kpC (by k_is) (kpC (by k_is) (kpC (by k_is) (kpC (by k_is) (kpC (by k_is) (kpC (by k_is) (kpC (by k_is) (kpC (by k_is) (kpC (by k_is) (kpC (by k_is) (kpC (by k_is) (kpC (by k_is) (kpC (by k_is) (kpC (by k_is) (kpC (by k_is) (kpC (by k_is) (kpC (by k_is) (kpC (by k_is) (kpC (by k_is) (kpC (by k_is) (kpC (by k_is) (kpC (by k_is) (kpC (by k_is) (kpC (by k_is) (kpC (by k_is) (kpC (by k_is) (kpC (by k_is) (kpC (by k_is) (kpC (by k_is) (kpC (by k_is) (kpC (by k_is) (kpC (by k_is) (kpC (by k_is) (kpC (by k_is) (kpC (by k_is) (kpC (by k_is) (kpC (by k_is) (kpC (by k_is) (kpC (by k_is) (kpC (by k_is) (kpC (by k_is) (kpC (by k_is) (kpC (by k_is) (kpC (by k_is) (kpC (by k_is) (kpC (by k_is) (kpC (by k_is) (kpC (by k_is) (kpC (by k_is) (kpC (by k_is) (kpC (by k_is) (kpC (by k_is) (kpC (by k_is) (kpC (by k_is) (kpC (by k_is) (kpC (by k_is) (kpC (by k_is) (kpC (by k_is) (kpC (by k_is) (kpC (by k_is) (kpC (by k_is) (kpC (by k_is) (kpC (by k_is) (kpC (by k_is) (kpC (by k_is) (kpC (by k_is) (kpC (by k_is) allN))))))))))))))))))))))))))))))))))))))))))))))))))))))))))))))))))))))),
        (fnC (by k_is) (by k_is) (fnC (by k_is) (by k_is) (fnC (by k_is) (by k_is) (fnC (by k_is) (by k_is) (fnC (by k_is) (by k_is) (fnC (by k_is) (by k_is) (fnC (by k_is) (by k_is) (fnC (by k_is) (by k_is) (fnC (by k_is) (by k_is) (fnC (by k_is) (by k_is) (fnC (by k_is) (by k_is) (fnC (by k_is) (by k_is) (fnC (by k_is) (by k_is) (fnC (by k_is) (by k_is) (fnC (by k_is) (by k_is) (fnC (by k_is) (by k_is) (fnC (by k_is) (by k_is) (fnC (by k_is) (by k_is) (fnC (by k_is) (by k_is) (fnC (by k_is) (by k_is) (fnC (by k_is) (by k_is) (fnC (by k_is) (by k_is) (fnC (by k_is) (by k_is) (fnC (by k_is) (by k_is) (fnC (by k_is) (by k_is) (fnC (by k_is) (by k_is) (fnC (by k_is) (by k_is) (fnC (by k_is) (by k_is) (fnC (by k_is) (by k_is) (fnC (by k_is) (by k_is) (fnC (by k_is) (by k_is) (fnC (by k_is) (by k_is) (fnC (by k_is) (by k_is) (fnC (by k_is) (by k_is) (fnC (by k_is) (by k_is) (fnC (by k_is) (by k_is) (fnC (by k_is) (by k_is) (fnC (by k_is) (by k_is) (fnC (by k_is) (by k_is) (fnC (by k_is) (by k_is) (fnC (by k_is) (by k_is) (fnC (by k_is) (by k_is) (fnC (by k_is) (by k_is) (fnC (by k_is) (by k_is) (fnC (by k_is) (by k_is) (fnC (by k_is) (by k_is) (fnC (by k_is) (by k_is) (fnC (by k_is) (by k_is) (fnC (by k_is) (by k_is) (fnC (by k_is) (by k_is) (fnC (by k_is) (by k_is) (fnC (by k_is) (by k_is) (fnC (by k_is) (by k_is) (fnC (by k_is) (by k_is) (fnC (by k_is) (by k_is) (fnC (by k_is) (by k_is) (fnC (by k_is) (by k_is) (fnC (by k_is) (by k_is) (fnC (by k_is) (by k_is) (fnC (by k_is) (by k_is) (fnC (by k_is) (by k_is) (fnC (by k_is) (by k_is) (fnC (by k_is) (by k_is) (fnC (by k_is) (by k_is) (fnC (by k_is) (by k_is) (fnC (by k_is) (by k_is) (fnC (by k_is) (by k_is) (fnC (by k_is) (by k_is) (fnC (by k_is) (by k_is) (fnC (by k_is) (by k_is) (fnC (by k_is) (by k_is) allN))))))))))))))))))))))))))))))))))))))))))))))))))))))))))))))))))))))),
        ⟨_,_,(by k_is),rfl⟩⟩
      case hb=>exact a628
      case hsc=>decide +kernel
      case hp=>first | wrow_post | with_unfolding_all rfl)
end
end Mine
theorem PySem.Challenge.cw_og0025_01_holds : PySem.Challenge.rw_og0025_01.Holds := by
  exact Mine.top
